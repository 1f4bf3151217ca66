import PyProof.Rows.All
import Wide.All
import OpenK.AllK
import Wide.FinOn
import KE.KStateDown
import HandS.ForMost
import HandS.More
import HandS.WordsExc
import HandS.Defaults
import HandS.Flow
import HandS.Style
import HandS.TupAny
import HandS.Zip
import HandS.Lambda
import HandS.ExcIs
import HandS.Wide
import HandS.Head0
import HandS.Head1
import HandS.Head2
import HandS.HeadEnd
import HandS.HeadHook1
import HandS.HeadHook2
import KE.SortData
import HandS.Comp
import HandS.EndBits
import HandS.TupMul
import HandS.Deep
import HandS.IsInst
import HandS.Text
import KE.KTupSum
import KE.DataMinMax
import KE.GoesEnum
import HandS.Strs
import HandS.SetFor
import PyProof.DictStraight
import HandS.CallLocal
import HandS.Conv
import PyProof.ExcBaseAll.ValueError
import HandS.HeadHook4
import HandS.EndTab
import HandS.NestedK
import PySem.Challenge.RW_beastriddles_k31_whole_lots_seen_so_and
set_option Elab.async false
set_option linter.all false
set_option maxRecDepth 100000
set_option maxHeartbeats 4000000
/-! THE ENGINE, part A: data, a small language, its evaluator. -/
namespace Eng
open PySem L2

inductive D where
  | non | bl (b : Bool) | int (i : Int) | str (x : Str)
  | tup (l : List D) | lst (l : List D) | dic (l : List (Key × D))
  | ref (i : Nat) | fn (i : Nat) | scr (l : List D)
  deriving Inhabited

/-- a local name: no value, a value, a list of its own that the def changes -/
inductive Slot where
  | emp | val (d : D) | own (l : List D)
  | thk | exn (x : Str)
abbrev Env := List Slot
abbrev Sto := List (List D)
/-- an exception: its class's name, its own field -/
structure Exn where
  cls : Str
  arg : Option (Str × D)
inductive Res (α : Type) where
  | ok (a : α) (e : Env) (S : Sto) | exc (x : Exn) (e : Env) (S : Sto) | fail
inductive FR where
  | ok (d : D) (S : Sto) | exc (x : Exn) (S : Sto) | fail
def M (α : Type) := Env → Sto → Res α
def M.pure {α : Type} (a : α) : M α := fun e S => .ok a e S
def M.bind {α β : Type} (m : M α) (f : α → M β) : M β := fun e S => match m e S with
  | .ok a e' S' => f a e' S'
  | .exc x e' S' => .exc x e' S'
  | .fail => .fail
instance : Monad M where
  pure := M.pure
  bind := M.bind
def mfail {α : Type} : M α := fun _ _ => .fail
def liftO {α : Type} : Option α → M α
  | some a => M.pure a
  | none => mfail

/-! ### operations on data -/
mutual
def D.py : D → Option PyData
  | .non => some .none
  | .bl b => some (.bool b)
  | .int i => some (.int i)
  | .str x => some (.str x)
  | .tup l => (D.pyL l).map .tuple
  | .lst l => (D.pyL l).map .list
  | .dic _ => none
  | .ref _ => none
  | .fn _ => none
  | .scr _ => none
def D.pyL : List D → Option (List PyData)
  | [] => some []
  | d :: r => match D.py d, D.pyL r with
    | some p, some q => some (p :: q)
    | _, _ => none
end
def D.shapedO (d : D) : Option PyData := match d.py with
  | some p => if SeqAt.shaped p then some p else none
  | none => none
def deq (a b : D) : Option Bool := match a.shapedO, b.shapedO with
  | some p, some q => some (PyData.eqv p q)
  | _, _ => none

/-- the text of a value: {} or data -/
def D.rpO : D → Option Str
  | .dic [] => some "{}"
  | d => match d.shapedO with
    | some p => if p.showable && decide (p.shown.length ≤ sizeLine) && PyData.strOk p.shown then some p.shown else none
    | none => none
inductive Bop where
  | add | sub | mul | fdiv | mod | pow
  deriving DecidableEq
inductive Cop where
  | eq | ne | lt | le | gt | ge | isN | isNotN | inn | notin
  deriving DecidableEq

def mulOk (i j : Int) : Bool := decide (i.natAbs < 2 ^ 64) || decide (j.natAbs < 2 ^ 64) || decide (i.natAbs.log2 + j.natAbs.log2 < 1000000)
def divOk (j : Int) : Bool := decide (j ≠ 0 ∧ j.natAbs < 1073741824) || decide (0 < j ∧ j.natAbs.log2 < 9000)
def powOk (i j : Int) : Bool := decide (0 ≤ j) && decide (j ≤ 1000000) && decide (i.natAbs < 2 ^ 64)
def repOk (n : Nat) (k : Int) : Bool := decide (n ≠ 0 ∧ n ≤ 1000 ∧ 2 ≤ k ∧ k ≤ 1000)
def dbin : Bop → D → D → Option D
  | .add, .int i, .int j => some (.int (i + j))
  | .add, .tup xs, .tup ys => if xs.length + ys.length ≤ sizeLine then some (.tup (xs ++ ys)) else none
  | .add, .lst xs, .lst ys => if xs.length + ys.length ≤ sizeLine then some (.lst (xs ++ ys)) else none
  | .add, .str x, .str y => if x.length + y.length ≤ sizeLine then some (.str (x ++ y)) else none
  | .sub, .int i, .int j => some (.int (i - j))
  | .mul, .int i, .int j => if mulOk i j then some (.int (i * j)) else none
  | .mul, .tup xs, .int k => if repOk xs.length k || decide (k = 1) then some (.tup (List.replicate k.toNat xs).flatten) else none
  | .fdiv, .int i, .int j => if divOk j then some (.int (i.fdiv j)) else none
  | .mod, .int i, .int j => if j ≠ 0 then some (.int (i.fmod j)) else none
  | .pow, .int i, .int j => if powOk i j then some (.int (i ^ j.toNat)) else none
  | _, _, _ => none
def D.isNon : D → Bool
  | .non => true
  | _ => false
def D.flat : D → Bool
  | .non => true | .bl _ => true | .int _ => true | .str _ => true
  | _ => false
def D.items : D → Option (List D)
  | .tup l => some l
  | .lst l => some l
  | _ => none
/-- x in xs -/
def dIn (x : D) (ys : List D) : Option Bool := match x.shapedO, (D.lst ys).shapedO with
  | some p, some (.list qs) => some (qs.any fun z => PyData.eqv z p)
  | _, _ => none
/-- is: None, bools -/
def dis (a b : D) : Option Bool := match b with
  | .non => some a.isNon
  | .bl y => (match a with
    | .bl x => some (x == y)
    | _ => none)
  | _ => none
def dcmp : Cop → D → D → Option Bool
  | .eq, a, b => deq a b
  | .ne, a, b => (deq a b).map (!·)
  | .lt, .int i, .int j => some (decide (i < j))
  | .le, .int i, .int j => some (decide (i ≤ j))
  | .gt, .int i, .int j => some (decide (j < i))
  | .ge, .int i, .int j => some (decide (j ≤ i))
  | .lt, .str i, .str j => some (decide (i.cps.toList < j.cps.toList))
  | .le, .str i, .str j => some (!decide (j.cps.toList < i.cps.toList))
  | .isN, a, b => dis a b
  | .isNotN, a, b => (dis a b).map (!·)
  | .inn, x, y => match y.items with
    | some ys => dIn x ys
    | none => none
  | .notin, x, y => match y.items with
    | some ys => (dIn x ys).map (!·)
    | none => none
  | _, _, _ => none
def dix : D → D → Option D
  | .tup l, .int i => atI l i
  | .lst l, .int i => atI l i
  | .str z, .int i => if decide (z.length ≤ sizeLine) then (atI z.cps.toList i).map fun c => .str ⟨#[c]⟩ else none
  | _, _ => none
def cutD (xs : List D) (lo hi : Option Int) : List D := (xs.drop (HT.sIx xs.length 0 lo)).take (HT.sIx xs.length xs.length hi - HT.sIx xs.length 0 lo)
def asInt : D → Option Int
  | .int i => some i
  | _ => none
def asBool : D → Option Bool
  | .bl b => some b
  | _ => none
def asLst : D → Option (List D)
  | .lst l => some l
  | _ => none
def asTup : D → Option (List D)
  | .tup l => some l
  | _ => none
def dInts : List D → Option (List Int)
  | [] => some []
  | .int i :: r => (dInts r).map (i :: ·)
  | _ :: _ => none
def dBools : List D → Option (List Bool)
  | [] => some []
  | .bl b :: r => (dBools r).map (b :: ·)
  | _ :: _ => none
/-! ### the language -/
inductive Ty where
  | int | bool | str | tuple | list | dict
  deriving DecidableEq
/-- a built-in of values -/
inductive Blt where
  | len | tuple | abs | int | min2 | max2 | sum | min1 | max1 | all | any | rngT | rev | repr
  deriving DecidableEq
/-- what makes a new list -/
inductive Fre where
  | list | cat | rep | rng | sorted | sset
  deriving DecidableEq
/-- a method of lists -/
inductive Mth where
  | index | count
  deriving DecidableEq
inductive Tg where
  | name (i : Nat) | tup (ts : List Tg)
mutual
inductive E where
  | non | bl (b : Bool) | int (i : Int) | str (x : Str)
  | var (i : Nat) | bor (i : Nat) | cst (d : D)
  | tup (es : List E) | lst (es : List E) | dct (kvs : List (Key × E))
  | bin (op : Bop) (a b : E) | neg (a : E) | not (a : E)
  | and (es : List E) | or (es : List E)
  | cmp (op : Cop) (a b : E) | chn (o p : Cop) (a b c : E)
  | ite (t a b : E)
  | idx (a i : E) | slc (a : E) (lo hi : Option E)
  | call (f : Nat) (es : List E) | blt (b : Blt) (es : List E) | fre (b : Fre) (es : List E)
  | isi (t : Ty) (a : E) | isiT (ts : List Ty) (a : E) | rev (a : E)
  | callV (i : Nat) (es : List E) | mth (m : Mth) (a b : E)
  | lam (w : Nat) (b : E) | thk (i : Nat) | isE (i : Nat) (x : Str)
  | comp (own : List Nat) (t : Tg) (it : Itr) (c : Option E) (elt : E)
  | comp2 (own own2 : List Nat) (t : Tg) (it : Itr) (c : Option E) (t2 : Tg) (it2 : Itr) (c2 : Option E) (elt : E)
inductive Itr where
  | seq (e : E) | rng (es : List E) | zip (es : List E) | enum (es : List E)
end
inductive S where
  | pass | brk | cont
  | expr (e : E) | ret (e : E) | retN | retC (es : List E)
  | asg (t : Tg) (e : E) | put (i : Nat) (fl : Bool) (e : E)
  | par (a : Nat × Bool) (b : Nat × Bool) (x y : E)
  | parL (xs : List (Nat × Bool)) (es : List E)
  | setIx (i : Nat) (ix e : E)
  | ext (i : Nat) (e : E)
  | app (i : Nat) (e : E) | appPop (i j : Nat) (e : E)
  | aug (i : Nat) (op : Bop) (e : E)
  | ifs (t : E) (a b : List S)
  | fr (t : Tg) (it : Itr) (b : List S)
  | whl (t : E) (b : List S)
  | raise (x : Str)
  | tri (b : List S) (x : Str) (i : Nat) (h : List S)

/-! ### the evaluator -/
structure Gm where
  call : Nat → List D → Sto → FR
  fuel : Nat
  /-- w(lambda: b) -/
  word : Nat → E → Env → Sto → FR
  /-- is the one class a kind of the other -/
  sub : Str → Str → Bool
  /-- what the def got, called -/
  thk : Sto → FR
def frM (r : FR) (e : Env) : Res D := match r with
  | .ok d S' => .ok d e S'
  | .exc x S' => .exc x e S'
  | .fail => .fail
def hideS : Slot → Slot
  | .val d => .val d
  | _ => .emp
def wordM (Γ : Gm) (w : Nat) (b : E) : M D := fun e S => match Γ.word w b (e.map hideS) S with
  | .ok d S' => .ok d e S'
  | _ => .fail
def thkM (Γ : Gm) (i : Nat) : M D := fun e S => match e[i]? with
  | some .thk => frM (Γ.thk S) e
  | _ => .fail
def isEM (Γ : Gm) (i : Nat) (x : Str) : M D := fun e S => match e[i]? with
  | some (.exn y) => .ok (.bl (Γ.sub y x)) e S
  | _ => .fail
def callM (Γ : Gm) (f : Nat) (ds : List D) : M D := fun e S => match Γ.call f ds S with
  | .ok d S' => .ok d e S'
  | .exc x S' => .exc x e S'
  | .fail => .fail
def fnM (f : D) (m : Nat → M D) : M D := match f with
  | .fn j => m j
  | _ => mfail
def getV (i : Nat) : M D := fun e S => match e[i]? with
  | some (.val d) => .ok d e S
  | some (.own l) => .ok (.lst l) (e.set i (.val (.lst l))) S
  | _ => .fail
def getB (i : Nat) : M D := fun e S => match e[i]? with
  | some (.val d) => .ok d e S
  | some (.own l) => .ok (.lst l) e S
  | _ => .fail
def setS (i : Nat) (s : Slot) : M Unit := fun e S => .ok () (e.set i s) S
def cellIx (c : Nat) (y : D) : M D := fun e S => match (match S[c]?, y with
    | some l, .int k => atI l k
    | _, _ => none) with
  | some d => .ok d e S
  | none => .fail
def ixM : D → D → M D
  | .ref c, y => cellIx c y
  | x, y => liftO (dix x y)
def boolM (d : D) : M Bool := liftO (asBool d)
def andM (a b : M D) : M D := do
  let x ← a
  match x with
  | .bl true => b
  | .bl false => M.pure (.bl false)
  | _ => mfail
def orM (a b : M D) : M D := do
  let x ← a
  match x with
  | .bl true => M.pure (.bl true)
  | .bl false => b
  | _ => mfail
def cmpM (o : Cop) (x y : D) : M D := do
  let c ← liftO (dcmp o x y)
  M.pure (.bl c)
def chain2 (p : Cop) (mc : M D) (y : D) : Bool → M D
  | true => do
    let z ← mc
    cmpM p y z
  | false => M.pure (.bl false)
def chainM (o p : Cop) (mc : M D) (x y : D) : M D := do
  let t ← liftO (dcmp o x y)
  chain2 p mc y t
def notM (x : D) : M D := do
  let c ← boolM x
  M.pure (.bl (!c))
def negM (x : D) : M D := liftO ((asInt x).map fun i => .int (-i))
def isiM (b : Bool) (x : D) : M D := match b with
  | true => M.pure x
  | false => mfail
def iteM {α : Type} (c : Bool) (a b : M α) : M α := match c with
  | true => a
  | false => b
def small (n : Nat) : Bool := decide (n ≤ sizeLine)
def dtup (ds : List D) : Option D := if small ds.length then some (.tup ds) else none
def dlst (ds : List D) : Option D := if small ds.length then some (.lst ds) else none
def dsum (l : List D) : Option D := (dInts l).map fun ns => .int ns.sum
def dmin : List Int → Option D
  | [] => none
  | n :: r => some (.int (r.foldl min n))
def dmax : List Int → Option D
  | [] => none
  | n :: r => some (.int (r.foldl max n))
def rngOk (i : Int) : Bool := decide (-(2 ^ 62) ≤ i) && decide (i < 2 ^ 62)
def rngL (lo hi : Int) : List D := (List.range (hi - lo).toNat).map fun (k : Nat) => .int (lo + k)
/-- a range with steps -/
def rngC (i c : Int) (n : Nat) : List D := (List.range n).map fun (k : Nat) => .int (i + k * c)
def stepOk (i j c : Int) : Bool := decide (c ≠ 0) && decide (c.natAbs < 1073741824) && Builtin.Range.small i j c
def drng : List D → Option (List D)
  | [.int j] => if rngOk j then some (rngL 0 j) else none
  | [.int i, .int j] => if rngOk i && rngOk j then some (rngL i j) else none
  | [.int i, .int j, .int c] => if stepOk i j c then some (rngC i c (Builtin.Range.rangeSize i j c).toNat) else none
  | _ => none
def dblt : Blt → List D → Option D
  | .len, [.tup l] => some (.int l.length)
  | .len, [.lst l] => some (.int l.length)
  | .len, [.str x] => if small x.length then some (.int x.length) else none
  | .tuple, [.tup l] => some (.tup l)
  | .tuple, [.lst l] => some (.tup l)
  | .abs, [.int i] => some (.int (if i < 0 then -i else i))
  | .int, [.int i] => some (.int i)
  | .int, [.bl b] => some (.int (PyProof.Rows.b2i b))
  | .min2, [.int i, .int j] => some (.int (if j < i then j else i))
  | .max2, [.int i, .int j] => some (.int (if j > i then j else i))
  | .sum, [.lst l] => dsum l
  | .sum, [.tup l] => dsum l
  | .min1, [.lst l] => (dInts l).bind dmin
  | .min1, [.tup l] => (dInts l).bind dmin
  | .max1, [.lst l] => (dInts l).bind dmax
  | .max1, [.tup l] => (dInts l).bind dmax
  | .all, [.lst l] => (dBools l).map fun bs => .bl (bs.all id)
  | .any, [.lst l] => (dBools l).map fun bs => .bl (bs.any id)
  | .rngT, ds => (drng ds).bind dtup
  | .rev, [.tup l] => some (.tup l.reverse)
  | .rev, [.lst l] => some (.lst l.reverse)
  | .repr, [d] => d.rpO.map .str
  | _, _ => none
/-- data that sorted takes: it can be compared, it is not deep -/
def D.ordO (d : D) : Option PyData := match d.py with
  | some p => if decide (p.depth ≤ 60) then some p else none
  | none => none
def ordAll : List D → Option (List PyData)
  | [] => some []
  | d :: r => match d.ordO, ordAll r with
    | some p, some q => some (p :: q)
    | _, _ => none
def isTupNe : PyData → Bool
  | .tuple (_ :: _) => true
  | _ => false
def isPlainK : PyData → Bool
  | .none => false
  | .tuple _ => false
  | _ => true
def enc (d : D) : PyData := d.py.getD .none
def sortOk (ps : List PyData) : Bool := (ps.all fun p => ps.all fun q => PySem.W.alike p q) && (ps.all isTupNe || ps.all isPlainK)
def ins {α : Type} (le : α → α → Bool) (a : α) : List α → List α
  | [] => [a]
  | b :: r => if le a b then a :: b :: r else b :: ins le a r
/-- sorted, computed simply -/
def isort {α : Type} (le : α → α → Bool) : List α → List α
  | [] => []
  | a :: r => ins le a (isort le r)
def dsort (l : List D) : Option D := match ordAll l with
  | some ps => if sortOk ps && small l.length then some (.lst (isort (PySem.W.dataLe false enc) l)) else none
  | none => none
/-- numbers in order, each once -/
def sins (k : Int) : List Int → List Int
  | [] => [k]
  | x :: r => if k < x then k :: x :: r else if k = x then x :: r else x :: sins k r
def ssort : List Int → List Int
  | [] => []
  | k :: r => sins k (ssort r)
def dfre : Fre → List D → Option D
  | .list, [.tup l] => some (.lst l)
  | .list, [.lst l] => some (.lst l)
  | .cat, [.lst a, .lst b] => dlst (a ++ b)
  | .rep, [.lst a, .int k] => if rngOk k && small (a.length * k.toNat) then some (.lst (List.replicate k.toNat a).flatten) else none
  | .rng, ds => (drng ds).bind dlst
  | .sorted, [.lst l] => dsort l
  | .sset, [.tup l] => (dInts l).bind fun ns => if ns.length ≤ 60 then some (.lst ((ssort ns).map .int)) else none
  | _, _ => none
def disi : Ty → D → Bool
  | .int, .int _ => true
  | .int, .bl _ => true
  | .bool, .bl _ => true
  | .str, .str _ => true
  | .tuple, .tup _ => true
  | .list, .lst _ => true
  | .dict, .dic _ => true
  | _, _ => false
def D.isiOk : D → Bool
  | .ref _ => false
  | .fn _ => false
  | .scr _ => false
  | _ => true
mutual
/-- a target takes a value -/
def bindT : Tg → D → Env → Option Env
  | .name i, d, e => some (e.set i (.val d))
  | .tup ts, d, e => match d.items with
    | some ds => bindTs ts ds e
    | none => none
def bindTs : List Tg → List D → Env → Option Env
  | [], [], e => some e
  | t :: ts, d :: ds, e => (bindT t d e).bind fun e' => bindTs ts ds e'
  | _, _, _ => none
end
def bindM (t : Tg) (d : D) : M Unit := fun e S => match bindT t d e with
  | some e' => .ok () e' S
  | none => .fail
def wipeE (e : Env) : List Nat → Env
  | [] => e
  | v :: vs => (wipeE e vs).set v .emp
def backE (e0 e : Env) : List Nat → Env
  | [] => e
  | v :: vs => match e0[v]? with
    | some s => (backE e0 e vs).set v s
    | none => backE e0 e vs
def wipeM (vs : List Nat) : M Unit := fun e S => .ok () (wipeE e vs) S
/-- within a comprehension's own names -/
def scopeM {α : Type} (own : List Nat) (m : M α) : M α := fun e S => match m (wipeE e own) S with
  | .ok a e' S' => .ok a (backE e e' own) S'
  | .exc _ _ _ => .fail
  | .fail => .fail
/-- a comprehension's turns; f gives the items of a turn; its own names are forgotten behind each -/
def compL (own : List Nat) (f : D → M (List D)) : List D → M (List D)
  | [] => M.pure []
  | x :: xs => do
    let y ← f x
    (fun e S => .ok () (wipeE e own) S : M Unit)
    let r ← compL own f xs
    M.pure (y ++ r)
inductive Fl where
  | nx | bk | ct | rt (d : D)
def loopF (f : D → M Fl) : List D → M Fl
  | [] => M.pure .nx
  | x :: xs => do
    let r ← f x
    match r with
    | .nx => loopF f xs
    | .ct => loopF f xs
    | .bk => M.pure .nx
    | .rt d => M.pure (.rt d)
def loopW (c : M Bool) (b : M Fl) : Nat → M Fl
  | 0 => mfail
  | n + 1 => do
    let t ← c
    match t with
    | true => do
      let r ← b
      match r with
      | .nx => loopW c b n
      | .ct => loopW c b n
      | .bk => M.pure .nx
      | .rt d => M.pure (.rt d)
    | false => M.pure .nx
def zipD : List D → List D → List D
  | a :: as, b :: bs => .tup [a, b] :: zipD as bs
  | _, _ => []
def enumD : Nat → List D → List D
  | _, [] => []
  | k, a :: as => .tup [.int k, a] :: enumD (k + 1) as
def dseq : D → Option (List D)
  | .tup l => some l
  | .lst l => some l
  | .str x => some (x.cps.toList.map fun c => .str ⟨#[c]⟩)
  | _ => none
def dzip : List D → Option (List D)
  | [.tup x, .tup y] => some (zipD x y)
  | [.lst x, .lst y] => some (zipD x y)
  | _ => none
def denum : List D → Option (List D)
  | [.tup x] => some (enumD 0 x)
  | [.lst x] => some (enumD 0 x)
  | _ => none
def drev : D → Option D
  | .tup l => some (.tup l.reverse)
  | .lst l => some (.lst l.reverse)
  | _ => none
def dfind (p : PyData) (qs : List PyData) : Option D := (qs.findIdx? fun z => PyData.eqv z p).map fun j => .int (j : Nat)
def dmth : Mth → D → D → Option D
  | .index, .lst l, y => match (D.lst l).shapedO, y.shapedO with
    | some (.list qs), some p => dfind p qs
    | _, _ => none
  | .count, .lst l, y => match (D.lst l).shapedO, y.shapedO with
    | some (.list qs), some p => some (.int ((qs.countP fun z => PyData.eqv z p : Nat) : Int))
    | _, _ => none
  | _, _, _ => none
def slcO (x : D) (lo hi : Option Int) : Option D := match x with
  | .tup l => some (.tup (cutD l lo hi))
  | .lst l => some (.lst (cutD l lo hi))
  | .scr l => some (.lst (cutD l lo hi))
  | _ => none
mutual
def evE (Γ : Gm) : E → M D
  | .non => M.pure .non
  | .bl b => M.pure (.bl b)
  | .int i => M.pure (.int i)
  | .str x => M.pure (.str x)
  | .var i => getV i
  | .bor i => getB i
  | .cst d => M.pure d
  | .tup es => do
    let ds ← evEs Γ es
    liftO (dtup ds)
  | .lst es => do
    let ds ← evEs Γ es
    liftO (dlst ds)
  | .dct kvs => do
    let ds ← evKs Γ kvs
    M.pure (.dic ds)
  | .bin op a b => do
    let x ← evE Γ a
    let y ← evE Γ b
    liftO (dbin op x y)
  | .neg a => do
    let x ← evE Γ a
    negM x
  | .not a => do
    let x ← evE Γ a
    notM x
  | .and es => evAnd Γ es
  | .or es => evOr Γ es
  | .cmp op a b => do
    let x ← evE Γ a
    let y ← evE Γ b
    cmpM op x y
  | .chn o p a b c => do
    let x ← evE Γ a
    let y ← evE Γ b
    chainM o p (evE Γ c) x y
  | .ite t a b => do
    let x ← evE Γ t
    let c ← boolM x
    iteM c (evE Γ a) (evE Γ b)
  | .idx a i => do
    let x ← evE Γ a
    let y ← evE Γ i
    ixM x y
  | .slc a lo hi => do
    let x ← evE Γ a
    let l ← evO Γ lo
    let h ← evO Γ hi
    liftO (slcO x l h)
  | .call f es => do
    let ds ← evEs Γ es
    callM Γ f ds
  | .blt b es => do
    let ds ← evEs Γ es
    liftO (dblt b ds)
  | .fre b es => do
    let ds ← evEs Γ es
    liftO (dfre b ds)
  | .isi t a => do
    let x ← evE Γ a
    isiM x.isiOk (.bl (disi t x))
  | .isiT ts a => do
    let x ← evE Γ a
    isiM x.isiOk (.bl (ts.any fun t => disi t x))
  | .rev a => do
    let x ← evE Γ a
    liftO (drev x)
  | .callV i es => do
    let f ← getB i
    fnM f fun j => do
      let ds ← evEs Γ es
      callM Γ j ds
  | .mth m a b => do
    let x ← evE Γ a
    let _ ← liftO (asLst x)
    let y ← evE Γ b
    liftO (dmth m x y)
  | .lam w b => wordM Γ w b
  | .thk i => thkM Γ i
  | .isE i x => isEM Γ i x
  | .comp own t it c elt => do
    let xs ← evI Γ it
    let r ← scopeM own (compL own (fun x => do
      bindM t x
      let k ← evC Γ c
      iteM k (do
        let y ← evE Γ elt
        M.pure [y]) (M.pure [])) xs)
    liftO (dlst r)
  | .comp2 own own2 t it c t2 it2 c2 elt => do
    let xs ← evI Γ it
    let r ← scopeM own (compL own (fun x => do
      bindM t x
      let k ← evC Γ c
      iteM k (do
        let ys ← evI Γ it2
        wipeM own2
        compL own2 (fun y => do
          bindM t2 y
          let k2 ← evC Γ c2
          iteM k2 (do
            let z ← evE Γ elt
            M.pure [z]) (M.pure [])) ys) (M.pure [])) xs)
    liftO (dlst r)
def evAnd (Γ : Gm) : List E → M D
  | [] => mfail
  | a :: r => match r with
    | [] => evE Γ a
    | _ :: _ => andM (evE Γ a) (evAnd Γ r)
def evOr (Γ : Gm) : List E → M D
  | [] => mfail
  | a :: r => match r with
    | [] => evE Γ a
    | _ :: _ => orM (evE Γ a) (evOr Γ r)
def evEs (Γ : Gm) : List E → M (List D)
  | [] => M.pure []
  | a :: r => do
    let x ← evE Γ a
    let xs ← evEs Γ r
    M.pure (x :: xs)
def evKs (Γ : Gm) : List (Key × E) → M (List (Key × D))
  | [] => M.pure []
  | (k, a) :: r => do
    let x ← evE Γ a
    let xs ← evKs Γ r
    M.pure ((k, x) :: xs)
def evO (Γ : Gm) : Option E → M (Option Int)
  | none => M.pure none
  | some a => do
    let x ← evE Γ a
    let i ← liftO (asInt x)
    M.pure (some i)
def evC (Γ : Gm) : Option E → M Bool
  | none => M.pure true
  | some a => do
    let x ← evE Γ a
    boolM x
def evI (Γ : Gm) : Itr → M (List D)
  | .seq e => do
    let x ← evE Γ e
    liftO (dseq x)
  | .rng es => do
    let ds ← evEs Γ es
    liftO (drng ds)
  | .zip es => do
    let ds ← evEs Γ es
    liftO (dzip ds)
  | .enum es => do
    let ds ← evEs Γ es
    liftO (denum ds)
end
/-- a list that stands in a slot, or in a cell, changed -/
def setAt (i : Nat) (k : Int) (d : D) : M Unit := fun e S => match e[i]? with
  | some (.own l) => (match ixN l.length k with
    | some j => .ok () (e.set i (.own (l.set j d))) S
    | none => .fail)
  | some (.val (.ref c)) => (match S[c]? with
    | some l => (match ixN l.length k with
      | some j => .ok () e (S.set c (l.set j d))
      | none => .fail)
    | none => .fail)
  | _ => .fail
def appAt (i : Nat) (d : D) : M Unit := fun e S => match e[i]? with
  | some (.own l) => if decide (l.length < sizeLine) then .ok () (e.set i (.own (l ++ [d]))) S else .fail
  | _ => .fail
def popAt (j : Nat) (k : Int) : M D := fun e S => match e[j]? with
  | some (.own l) => (match ixN l.length k with
    | some n => (match l[n]? with
      | some d => if rngOk k then .ok d (e.set j (.own (l.eraseIdx n))) S else .fail
      | none => .fail)
    | none => .fail)
  | _ => .fail
def ownM (i : Nat) (d : D) : M Unit := match d with
  | .lst l => setS i (.own l)
  | _ => mfail
def cellM (l : List D) : M D := fun e S => .ok (.ref S.length) e (S ++ [l])
def putM (a : Nat × Bool) (d : D) : M Unit := match a.2 with
  | true => ownM a.1 d
  | false => setS a.1 (.val d)
def putMs : List (Nat × Bool) → List D → M Unit
  | [], [] => M.pure ()
  | a :: as, d :: ds => do
    putM a d
    putMs as ds
  | _, _ => mfail
def extAt (i : Nat) (l2 : List D) : M Unit := fun e S => match e[i]? with
  | some (.own l) => if decide (l.length + l2.length ≤ sizeLine) then .ok () (e.set i (.own (l ++ l2))) S else .fail
  | _ => .fail
def nxM (m : M Unit) : M Fl := do
  m
  M.pure .nx
def noExn : Slot → Slot
  | .exn _ => .emp
  | s => s
/-- try: m except x as i: h -/
def tryM (m : M Fl) (ct : Str → Bool) (i : Nat) (h : M Fl) : M Fl := fun e S => match m e S with
  | .ok f e' S' => .ok f e' S'
  | .exc x e' S' => (match x.arg, ct x.cls with
    | none, true => (match h (e'.set i (.exn x.cls)) S' with
      | .ok f e2 S2 => .ok f ((e2.set i .emp).map noExn) S2
      | _ => .fail)
    | _, _ => .fail)
  | .fail => .fail
mutual
def evS (Γ : Gm) : S → M Fl
  | .pass => M.pure .nx
  | .brk => M.pure .bk
  | .cont => M.pure .ct
  | .expr e => do
    let _ ← evE Γ e
    M.pure .nx
  | .ret e => do
    let x ← evE Γ e
    M.pure (.rt x)
  | .retN => M.pure (.rt .non)
  | .retC es => do
    let ds ← evEs Γ es
    let l ← liftO ((dlst ds).bind asLst)
    let x ← cellM l
    M.pure (.rt x)
  | .asg t e => do
    let x ← evE Γ e
    bindM t x
    M.pure .nx
  | .put i fl e => do
    let x ← evE Γ e
    putM (i, fl) x
    M.pure .nx
  | .par a b e1 e2 => do
    let x ← evE Γ e1
    let y ← evE Γ e2
    putM a x
    putM b y
    M.pure .nx
  | .parL xs es => do
    let ds ← evEs Γ es
    putMs xs ds
    M.pure .nx
  | .ext i e => do
    let l ← getB i
    let _ ← liftO (asLst l)
    let x ← evE Γ e
    let y ← liftO (asLst x)
    extAt i y
    M.pure .nx
  | .setIx i ix e => do
    let x ← evE Γ e
    let _ ← getB i
    let k ← evE Γ ix
    let n ← liftO (asInt k)
    setAt i n x
    M.pure .nx
  | .app i e => do
    let l ← getB i
    let _ ← liftO (asLst l)
    let x ← evE Γ e
    appAt i x
    M.pure .nx
  | .appPop i j e => do
    let l ← getB i
    let _ ← liftO (asLst l)
    let l2 ← getB j
    let _ ← liftO (asLst l2)
    let k ← evE Γ e
    let n ← liftO (asInt k)
    let x ← popAt j n
    appAt i x
    M.pure .nx
  | .aug i op e => do
    let x ← getB i
    let y ← evE Γ e
    let z ← liftO (dbin op x y)
    setS i (.val z)
    M.pure .nx
  | .ifs t a b => do
    let x ← evE Γ t
    let c ← boolM x
    iteM c (evSs Γ a) (evSs Γ b)
  | .fr t it b => do
    let xs ← evI Γ it
    loopF (fun x => do
      bindM t x
      evSs Γ b) xs
  | .whl t b => loopW (do
      let x ← evE Γ t
      boolM x) (evSs Γ b) Γ.fuel
  | .raise x => fun e S => .exc ⟨x, none⟩ e S
  | .tri b x i h => tryM (evSs Γ b) (fun y => Γ.sub y x) i (evSs Γ h)
def evSs (Γ : Gm) : List S → M Fl
  | [] => M.pure .nx
  | s :: r => do
    let f ← evS Γ s
    match f with
    | .nx => evSs Γ r
    | .bk => M.pure .bk
    | .ct => M.pure .ct
    | .rt d => M.pure (.rt d)
end
/-- a def of the text: its parameters, all its names, its body -/
structure Fd where
  name : Str
  ps : List Str
  N : List Str
  body : List S
def Fd.run (f : Fd) (Γ : Gm) (ds : List D) (S : Sto) : FR :=
  if ds.length = f.ps.length then
    match evSs Γ f.body (ds.map Slot.val ++ List.replicate (f.N.length - ds.length) Slot.emp) S with
    | .ok (.rt d) _ S' => .ok d S'
    | .ok .nx _ S' => .ok .non S'
    | .ok _ _ _ => .fail
    | .exc x _ S' => .exc x S'
    | .fail => .fail
  else .fail
/-- a def that calls what it got -/
def Fd.runW (f : Fd) (Γ : Gm) (S : Sto) : FR := match evSs Γ f.body (.thk :: List.replicate (f.N.length - 1) Slot.emp) S with
    | .ok (.rt d) _ S' => .ok d S'
    | .ok .nx _ S' => .ok .non S'
    | .ok _ _ _ => .fail
    | .exc x _ S' => .exc x S'
    | .fail => .fail
def thkOf (Γ : Gm) (b : E) (e : Env) (S : Sto) : FR := match evE Γ b e S with
  | .ok d _ S' => .ok d S'
  | .exc x _ S' => .exc x S'
  | .fail => .fail
structure Prg where
  fds : List Fd
  sub : Str → Str → Bool
  fuel : Nat
def Prg.callG (P : Prg) (Γ : Gm) (f : Nat) (ds : List D) (S : Sto) : FR := match P.fds[f]? with
  | some fd => fd.run Γ ds S
  | none => .fail
def Prg.wordG (P : Prg) (Γ : Gm) (w : Nat) (b : E) (e : Env) (S : Sto) : FR := match P.fds[w]? with
  | some fd => fd.runW { Γ with thk := thkOf Γ b e } S
  | none => .fail
/-- the sense at a depth of calls -/
def gam (P : Prg) : Nat → Gm
  | 0 => ⟨fun _ _ _ => .fail, P.fuel, fun _ _ _ _ => .fail, P.sub, fun _ => .fail⟩
  | 1 => ⟨P.callG (gam P 0), P.fuel, fun _ _ _ _ => .fail, P.sub, fun _ => .fail⟩
  | k + 2 => ⟨P.callG (gam P (k + 1)), P.fuel, P.wordG (gam P k), P.sub, fun _ => .fail⟩
end Eng

set_option maxHeartbeats 4000000
/-! THE ENGINE, part B: how data stands in the heap. -/
namespace Eng
open PySem PySem.Spec L2

/-- what stays as it is for all time: K the written part, nm the defs' names -/
structure Gl0 where
  K : PySem.W.Frag
  nm : Nat → Option Str
  /-- the tables of code objects of the defs that make lambdas -/
  tb : List (Addr × Str)
/-- nothing that stays -/
def Frh (H : Hp) (a : Addr) : Prop := ∀ o, H a = some o → ∃ ps, o = .tbl ps
theorem frh_none {H : Hp} {a : Addr} (h : H a = none) : Frh H a := fun o e => by rw [h] at e; cases e
def noTab : HO → Bool
  | .tbl _ => false
  | _ => true
theorem Frh.no {H : Hp} {a : Addr} {o : HO} (h : Frh H a) (e : H a = some o) (n : noTab o = true) : False := by
  obtain ⟨ps, z⟩ := h o e
  subst z
  cases n
theorem ne_of_frh {H : Hp} {a b : Addr} {o : HO} (e : H b = some o) (n : noTab o = true) (h : Frh H a) : b ≠ a := fun z => h.no (z ▸ e) n
/-- no table, no code object -/
def okU : HO → Bool
  | .tbl _ => false
  | .ext _ => false
  | _ => true
theorem noTab_ext {P : Heap → Prop} : noTab (.ext P) = true := rfl
def KL (K : PySem.W.Frag) (a : Addr) (c : String) (xs : List V) : Prop := ∃ (o : Obj) (its : Array Value) (n : Nat), K.lookup a = some o ∧ o.cls = .type c ∧ o.dict = none ∧ o.data = .seq its n ∧ its.size ≤ sizeLine ∧ Vals xs its.toList
def TupF (K : PySem.W.Frag) (F : Addr → Prop) (H : Hp) (a : Addr) (xs : List V) : Prop := (F a ∧ Rd H a (.tup xs)) ∨ KL K a "tuple" xs
def KLst (K : PySem.W.Frag) (a : Addr) (xs : List V) : Prop := ∃ (its : List Value) (n : Nat), K.lookup a = some { cls := .type "list", data := .seq its.toArray n } ∧ its.length ≤ sizeLine ∧ Vals xs its
/-- a list that can be read -/
def LstX (K : PySem.W.Frag) (H : Hp) (a : Addr) (xs : List V) : Prop := Rd H a (.lst xs) ∨ KLst K a xs
/-- the law's script -/
def ScrF (K : PySem.W.Frag) (F : Addr → Prop) (H : Hp) (a : Addr) (xs : List V) : Prop := (F a ∧ Rd H a (.lst xs)) ∨ KL K a "list" xs
def LstF (K : PySem.W.Frag) (F : Addr → Prop) (H : Hp) (a : Addr) (xs : List V) : Prop := (F a ∧ Rd H a (.lst xs)) ∨ KLst K a xs
mutual
/-- v stands for the data d; all that it leans on is in F -/
inductive At (G : Gl0) (F : Addr → Prop) (ρ : List Addr) (H : Hp) : V → D → Prop
  | non : At G F ρ H .non .non
  | bl (b : Bool) : At G F ρ H (.bl b) (.bl b)
  | int (i : Int) : At G F ρ H (.int i) (.int i)
  | str (x : Str) : At G F ρ H (.str x) (.str x)
  | tup {a : Addr} {xs : List V} {ds : List D} : TupF G.K F H a xs → AtL G F ρ H xs ds → At G F ρ H (.ref a) (.tup ds)
  | lst {a : Addr} {xs : List V} {ds : List D} : LstF G.K F H a xs → AtL G F ρ H xs ds → At G F ρ H (.ref a) (.lst ds)
  | dic {a : Addr} {xs : List (Key × V)} {ds : List (Key × D)} : F a → H a = some (.dK xs) → AtK G F ρ H xs ds → At G F ρ H (.ref a) (.dic ds)
  | ref {a : Addr} {i : Nat} : ρ[i]? = some a → At G F ρ H (.ref a) (.ref i)
  | scr {a : Addr} {xs : List V} {ds : List D} : ScrF G.K F H a xs → AtL G F ρ H xs ds → At G F ρ H (.ref a) (.scr ds)
  | fn {i : Nat} {x : Str} : G.nm i = some x → At G F ρ H (.ref (He.ga G.K x)) (.fn i)
inductive AtL (G : Gl0) (F : Addr → Prop) (ρ : List Addr) (H : Hp) : List V → List D → Prop
  | nil : AtL G F ρ H [] []
  | cons {v : V} {vs : List V} {d : D} {ds : List D} : At G F ρ H v d → AtL G F ρ H vs ds → AtL G F ρ H (v :: vs) (d :: ds)
inductive AtK (G : Gl0) (F : Addr → Prop) (ρ : List Addr) (H : Hp) : List (Key × V) → List (Key × D) → Prop
  | nil : AtK G F ρ H [] []
  | cons {k : Key} {v : V} {vs : List (Key × V)} {d : D} {ds : List (Key × D)} : At G F ρ H v d → AtK G F ρ H vs ds → AtK G F ρ H ((k, v) :: vs) ((k, d) :: ds)
end

section
variable {G : Gl0} {F F' : Addr → Prop} {ρ ρ' : List Addr} {H H' : Hp}
/-- what At leans on stays -/
structure Stays (F F' : Addr → Prop) (ρ ρ' : List Addr) (H H' : Hp) : Prop where
  f : ∀ a, F a → F' a
  r : ρ <+: ρ'
  k : ∀ a o, F a → H a = some o → noTab o = true → H' a = some o
theorem pre_get {α : Type} {l l' : List α} {i : Nat} {a : α} (h : l <+: l') (e : l[i]? = some a) : l'[i]? = some a := by
  obtain ⟨t, rfl⟩ := h
  have hi : i < l.length := (List.getElem?_eq_some_iff.mp e).1
  rw [List.getElem?_append_left hi]
  exact e
theorem Rd.stays (s : Stays F F' ρ ρ' H H') {a : Addr} {u : HO} (fa : F a) (r : Rd H a u) (hu : noTab u = true := by rfl) : Rd H' a u := by
  rcases r with r | ⟨o, r⟩
  · exact .inl (s.k a _ fa r hu)
  · exact .inr ⟨o, s.k a _ fa r rfl⟩
theorem TupF.stays (s : Stays F F' ρ ρ' H H') {a : Addr} {xs : List V} (h : TupF G.K F H a xs) : TupF G.K F' H' a xs := by
  rcases h with ⟨fa, r⟩ | h
  · exact .inl ⟨s.f a fa, Rd.stays s fa r⟩
  · exact .inr h
theorem LstF.stays (s : Stays F F' ρ ρ' H H') {a : Addr} {xs : List V} (h : LstF G.K F H a xs) : LstF G.K F' H' a xs := by
  rcases h with ⟨fa, r⟩ | h
  · exact .inl ⟨s.f a fa, Rd.stays s fa r⟩
  · exact .inr h
theorem ScrF.stays (s : Stays F F' ρ ρ' H H') {a : Addr} {xs : List V} (h : ScrF G.K F H a xs) : ScrF G.K F' H' a xs := by
  rcases h with ⟨fa, r⟩ | h
  · exact .inl ⟨s.f a fa, Rd.stays s fa r⟩
  · exact .inr h
theorem ScrF.sq {a : Addr} {xs : List V} (h : ScrF G.K F H a xs) : SqL G.K H a xs := by
  rcases h with ⟨_, r⟩ | ⟨o, its, n, h1, h2, h3, h4, h5, h6⟩
  · exact .inl r
  · exact .inr ⟨o, its, n, h1, h2, h3, h4, h5, h6⟩
mutual
theorem At.stays (s : Stays F F' ρ ρ' H H') : ∀ {v : V} {d : D}, At G F ρ H v d → At G F' ρ' H' v d
  | _, _, .non => .non
  | _, _, .bl b => .bl b
  | _, _, .int i => .int i
  | _, _, .str x => .str x
  | _, _, .tup h t => .tup (h.stays s) (AtL.stays s t)
  | _, _, .lst h t => .lst (h.stays s) (AtL.stays s t)
  | _, _, .dic fa h t => .dic (s.f _ fa) (s.k _ _ fa h rfl) (AtK.stays s t)
  | _, _, .ref e => .ref (pre_get s.r e)
  | _, _, .scr h t => .scr (ScrF.stays s h) (AtL.stays s t)
  | _, _, .fn e => .fn e
theorem AtL.stays (s : Stays F F' ρ ρ' H H') : ∀ {v : List V} {d : List D}, AtL G F ρ H v d → AtL G F' ρ' H' v d
  | _, _, .nil => .nil
  | _, _, .cons h t => .cons (At.stays s h) (AtL.stays s t)
theorem AtK.stays (s : Stays F F' ρ ρ' H H') : ∀ {v : List (Key × V)} {d : List (Key × D)}, AtK G F ρ H v d → AtK G F' ρ' H' v d
  | _, _, .nil => .nil
  | _, _, .cons h t => .cons (At.stays s h) (AtK.stays s t)
end
theorem TupF.sq {a : Addr} {xs : List V} (h : TupF G.K F H a xs) : SqT G.K H a xs := by
  rcases h with ⟨_, r⟩ | ⟨o, its, n, h1, h2, _, h4, h5, h6⟩
  · exact .inl r
  · exact .inr ⟨o, its, n, h1, h2, h4, h5, h6⟩
theorem LstX.sq {K : PySem.W.Frag} {a : Addr} {xs : List V} (h : LstX K H a xs) : SqL K H a xs := by
  rcases h with r | ⟨its, n, h1, h2, h3⟩
  · exact .inl r
  · exact .inr ⟨_, its.toArray, n, h1, rfl, rfl, rfl, by simpa using h2, by simpa using h3⟩
theorem LstF.x {a : Addr} {xs : List V} (h : LstF G.K F H a xs) : LstX G.K H a xs := by
  rcases h with ⟨_, r⟩ | h
  · exact .inl r
  · exact .inr h
theorem LstF.sq {a : Addr} {xs : List V} (h : LstF G.K F H a xs) : SqL G.K H a xs := h.x.sq
theorem Inv.lstX {X : Cx} {pins : List (Addr × Obj)} {σ : L2.St} {s : Shared} {a : Addr} {xs : List V} (I : Inv X pins σ H s) (h : LstX X.K H a xs) :
    xs.length ≤ sizeLine ∧ ∃ (its : List Value) (n : Nat), Vals xs its ∧ xs.length = its.length ∧ s.heap.get? a = some { cls := .type "list", data := .seq its.toArray n } := by
  rcases h with h | ⟨its, n, h1, h2, h3⟩
  · obtain ⟨z, its, n, r, e⟩ := h.ok I.hok
    exact ⟨z, its, n, r, r.length, e⟩
  · have hl := h3.length
    exact ⟨by omega, its, n, h3, hl, I.kIn a _ h1⟩
theorem AtL.length : ∀ {vs : List V} {ds : List D}, AtL G F ρ H vs ds → vs.length = ds.length
  | _, _, .nil => rfl
  | _, _, .cons _ t => congrArg Nat.succ t.length
theorem AtL.get : ∀ {vs : List V} {ds : List D} {i : Nat} {d : D}, AtL G F ρ H vs ds → ds[i]? = some d → ∃ v, vs[i]? = some v ∧ At G F ρ H v d
  | _, _, _, _, .nil, e => by simp at e
  | _, _, 0, d, .cons h _, e => by simp at e; subst e; exact ⟨_, rfl, h⟩
  | _, _, i + 1, d, .cons _ t, e => by
    obtain ⟨v, h1, h2⟩ := AtL.get (i := i) t (by simpa using e)
    exact ⟨v, by simpa using h1, h2⟩
theorem AtL.getV : ∀ {vs : List V} {ds : List D} {i : Nat} {v : V}, AtL G F ρ H vs ds → vs[i]? = some v → ∃ d, ds[i]? = some d ∧ At G F ρ H v d
  | _, _, _, _, .nil, e => by simp at e
  | _, _, 0, d, .cons h _, e => by simp at e; subst e; exact ⟨_, rfl, h⟩
  | _, _, i + 1, d, .cons _ t, e => by
    obtain ⟨v, h1, h2⟩ := AtL.getV (i := i) t (by simpa using e)
    exact ⟨v, by simpa using h1, h2⟩
theorem AtL.append : ∀ {vs ws : List V} {ds es : List D}, AtL G F ρ H vs ds → AtL G F ρ H ws es → AtL G F ρ H (vs ++ ws) (ds ++ es)
  | _, _, _, _, .nil, h => h
  | _, _, _, _, .cons a t, h => .cons a (t.append h)
theorem AtL.take : ∀ {vs : List V} {ds : List D} (n : Nat), AtL G F ρ H vs ds → AtL G F ρ H (vs.take n) (ds.take n)
  | _, _, 0, _ => .nil
  | _, _, _ + 1, .nil => .nil
  | _, _, n + 1, .cons a t => .cons a (t.take n)
theorem AtL.drop : ∀ {vs : List V} {ds : List D} (n : Nat), AtL G F ρ H vs ds → AtL G F ρ H (vs.drop n) (ds.drop n)
  | _, _, 0, h => h
  | _, _, _ + 1, .nil => .nil
  | _, _, n + 1, .cons _ t => t.drop n
theorem AtL.set : ∀ {vs : List V} {ds : List D} {v : V} {d : D} (i : Nat), AtL G F ρ H vs ds → At G F ρ H v d → AtL G F ρ H (vs.set i v) (ds.set i d)
  | _, _, _, _, _, .nil, _ => .nil
  | _, _, _, _, 0, .cons _ t, h => .cons h t
  | _, _, _, _, i + 1, .cons a t, h => .cons a (t.set i h)
theorem AtL.eraseIdx : ∀ {vs : List V} {ds : List D} (i : Nat), AtL G F ρ H vs ds → AtL G F ρ H (vs.eraseIdx i) (ds.eraseIdx i)
  | _, _, _, .nil => .nil
  | _, _, 0, .cons _ t => t
  | _, _, i + 1, .cons a t => .cons a (t.eraseIdx i)
theorem AtL.cut {vs : List V} {ds : List D} (h : AtL G F ρ H vs ds) (lo hi : Option Int) : AtL G F ρ H (cutV vs lo hi) (cutD ds lo hi) := by
  unfold cutV cutD
  rw [h.length]
  exact (h.drop _).take _
theorem AtL.rep {vs : List V} {ds : List D} (h : AtL G F ρ H vs ds) : ∀ k : Nat, AtL G F ρ H (List.replicate k vs).flatten (List.replicate k ds).flatten
  | 0 => .nil
  | k + 1 => by
    rw [List.replicate_succ, List.replicate_succ, List.flatten_cons, List.flatten_cons]
    exact h.append (h.rep k)
end

/-! ### the store, the names -/
/-- the cells stand, what is frozen is tracked -/
structure Stt (G : Gl0) (F : Addr → Prop) (ρ : List Addr) (H : Hp) (S : Sto) : Prop where
  nod : ρ.Nodup
  fr : ∀ a, F a → a ∉ ρ
  ft : ∀ a, F a → ¬ Frh H a
  tabs : LamX.Tabs G.tb H
  len : S.length = ρ.length
  sto : ∀ (i : Nat) (ds : List D), S[i]? = some ds → ∃ a xs, ρ[i]? = some a ∧ H a = some (.lst xs) ∧ AtL G F ρ H xs ds
/-- from one state to a later one: only new things were frozen, no object but a cell was changed -/
structure Ext (own : Addr → Prop) (F : Addr → Prop) (ρ : List Addr) (H : Hp) (F' : Addr → Prop) (ρ' : List Addr) (H' : Hp) : Prop where
  f : ∀ a, F a → F' a
  fn : ∀ a, F' a → F a ∨ Frh H a ∨ own a
  r : ρ <+: ρ'
  rn : ∀ a, a ∈ ρ' → a ∈ ρ ∨ Frh H a
  kp : ∀ a o, H a = some o → noTab o = true → a ∉ ρ → H' a = some o
  tr : ∀ a, Frh H' a → Frh H a
abbrev No : Addr → Prop := fun _ => False
section
variable {G : Gl0} {F F1 F2 : Addr → Prop} {ρ ρ1 ρ2 : List Addr} {H H1 H2 : Hp} {S S1 : Sto} {o o1 : Addr → Prop}
theorem Ext.refl : Ext o F ρ H F ρ H := ⟨fun _ h => h, fun _ h => .inl h, List.prefix_rfl, fun _ h => .inl h, fun _ _ h _ _ => h, fun _ h => h⟩
theorem Ext.trans (a : Ext o F ρ H F1 ρ1 H1) (b : Ext o1 F1 ρ1 H1 F2 ρ2 H2) (ho : ∀ x, o1 x → o x ∨ Frh H x) : Ext o F ρ H F2 ρ2 H2 where
  f := fun x h => b.f x (a.f x h)
  fn := fun x h => by
    rcases b.fn x h with h | h | h
    · exact a.fn x h
    · exact .inr (.inl (a.tr x h))
    · rcases ho x h with h | h
      · exact .inr (.inr h)
      · exact .inr (.inl h)
  r := a.r.trans b.r
  rn := fun x h => by
    rcases b.rn x h with h | h
    · exact a.rn x h
    · exact .inr (a.tr x h)
  kp := fun x u h hn hx => b.kp x u (a.kp x u h hn hx) hn fun hm => by
    rcases a.rn x hm with z | z
    · exact hx z
    · exact z.no h hn
  tr := fun x h => a.tr x (b.tr x h)
theorem Ext.weak (a : Ext o F ρ H F1 ρ1 H1) (h : ∀ x, o x → o1 x) : Ext o1 F ρ H F1 ρ1 H1 :=
  ⟨a.f, fun x z => by
    rcases a.fn x z with q | q | q
    · exact .inl q
    · exact .inr (.inl q)
    · exact .inr (.inr (h x q)), a.r, a.rn, a.kp, a.tr⟩
theorem Ext.stays (s : Stt G F ρ H S) (a : Ext o F ρ H F1 ρ1 H1) : Stays F F1 ρ ρ1 H H1 := ⟨a.f, a.r, fun x u fx h hn => a.kp x u h hn (s.fr x fx)⟩
end
def OwnAt (σ : L2.St) (e : Env) (a : Addr) : Prop := ∃ (i : Nat) (ds : List D), e[i]? = some (Slot.own ds) ∧ σ[i]? = some (some (.ref a))
/-- the entry of the def's body; what it got to be called; the exception at hand -/
structure Ent where
  F : Addr → Prop
  ρ : List Addr
  H : Hp
  thk : Option (Addr × Addr × Str)
  exn : Option (Addr × Str)
def RepS (G : Gl0) (N : Ent) (F : Addr → Prop) (ρ : List Addr) (H : Hp) (ov : Option V) : Slot → Prop
  | .emp => True
  | .val d => ∃ v, ov = some v ∧ At G F ρ H v d
  | .own ds => ∃ a xs, ov = some (.ref a) ∧ H a = some (.lst xs) ∧ AtL G F ρ H xs ds ∧ ¬ F a ∧ a ∉ ρ
  | .thk => ∃ f c q, ov = some (.ref f) ∧ N.thk = some (f, c, q) ∧ H c = some (LamX.CodeO c q) ∧ c ∉ ρ
  | .exn x => ∃ a, ov = some (.ref a) ∧ N.exn = some (a, x)
structure Rep (G : Gl0) (N : Ent) (F : Addr → Prop) (ρ : List Addr) (H : Hp) (σ : L2.St) (e : Env) (S : Sto) : Prop where
  st : Stt G F ρ H S
  ext : Ext No N.F N.ρ N.H F ρ H
  len : e.length = σ.length
  slot : ∀ (i : Nat) (s : Slot), e[i]? = some s → ∃ ov, σ[i]? = some ov ∧ RepS G N F ρ H ov s
  own0 : ∀ a, OwnAt σ e a → Frh N.H a
  dist : ∀ (i j : Nat) (di dj : List D) (a : Addr), e[i]? = some (Slot.own di) → e[j]? = some (Slot.own dj) → σ[i]? = some (some (.ref a)) → σ[j]? = some (some (.ref a)) → i = j
/-- the own lists of e1 are own lists of e, the same -/
def SubOwn (e1 e : Env) : Prop := ∀ (i : Nat) (ds : List D), e1[i]? = some (Slot.own ds) → e[i]? = some (Slot.own ds)
section
variable {G : Gl0} {N : Ent} {F F1 F2 : Addr → Prop} {ρ ρ1 ρ2 : List Addr} {H H1 H2 : Hp} {S S1 : Sto} {σ : L2.St} {e e1 e2 : Env} {a : Addr}
theorem SubOwn.refl : SubOwn e e := fun _ _ h => h
theorem SubOwn.trans (h : SubOwn e2 e1) (h' : SubOwn e1 e) : SubOwn e2 e := fun i ds z => h' i ds (h i ds z)
theorem SubOwn.at (h : SubOwn e1 e) (z : OwnAt σ e1 a) : OwnAt σ e a := let ⟨i, ds, h1, h2⟩ := z; ⟨i, ds, h i ds h1, h2⟩
theorem Rep.ownAt (R : Rep G N F ρ H σ e S) (h : OwnAt σ e a) : ¬ F a ∧ a ∉ ρ ∧ ∃ xs, H a = some (.lst xs) := by
  obtain ⟨i, ds, h1, h2⟩ := h
  obtain ⟨ov, h3, b, xs, h4, h5, h6, h7, h8⟩ := R.slot i _ h1
  rw [h2] at h3
  cases h3
  cases h4
  exact ⟨h7, h8, xs, h5⟩
/-- one state, later: by an expression -/
structure Mono (σ : L2.St) (e : Env) (F : Addr → Prop) (ρ : List Addr) (H : Hp) (e1 : Env) (F1 : Addr → Prop) (ρ1 : List Addr) (H1 : Hp) : Prop where
  ext : Ext (OwnAt σ e) F ρ H F1 ρ1 H1
  sub : SubOwn e1 e
theorem Mono.refl : Mono σ e F ρ H e F ρ H := ⟨.refl, .refl⟩
theorem Mono.trans (a : Mono σ e F ρ H e1 F1 ρ1 H1) (b : Mono σ e1 F1 ρ1 H1 e2 F2 ρ2 H2) : Mono σ e F ρ H e2 F2 ρ2 H2 :=
  ⟨a.ext.trans b.ext fun _ z => .inl (a.sub.at z), b.sub.trans a.sub⟩
theorem Mono.stays (R : Rep G N F ρ H σ e S) (m : Mono σ e F ρ H e1 F1 ρ1 H1) : Stays F F1 ρ ρ1 H H1 := m.ext.stays R.st
/-- a code object stays -/
theorem Ext.code {o : Addr → Prop} {c : Addr} {q : Str} (x : Ext o F ρ H F1 ρ1 H1) (h : H c = some (LamX.CodeO c q)) (n : c ∉ ρ) : H1 c = some (LamX.CodeO c q) ∧ c ∉ ρ1 := by
  refine ⟨x.kp c _ h rfl n, fun z => ?_⟩
  rcases x.rn c z with z | z
  · exact n z
  · exact z.no h rfl
theorem ne_code {c a : Addr} {q : Str} (h : H c = some (LamX.CodeO c q)) (h2 : ∀ o, H a = some o → okU o = true) : c ≠ a := fun z => by
  subst z
  have := h2 _ h
  unfold LamX.CodeO okU at this
  cases this
theorem ok_lst {a : Addr} {xs : List V} (h : H a = some (.lst xs)) : ∀ o, H a = some o → okU o = true := fun o e => by rw [h] at e; cases e; rfl
theorem ok_none {a : Addr} (h : H a = none) : ∀ o, H a = some o → okU o = true := fun o e => by rw [h] at e; cases e
/-- no name was touched, the heap may have grown: a call, a new object -/
theorem Rep.call (R : Rep G N F ρ H σ e S) (x : Ext No F ρ H F1 ρ1 H1) (st : Stt G F1 ρ1 H1 S1) : Rep G N F1 ρ1 H1 σ e S1 ∧ Mono σ e F ρ H e F1 ρ1 H1 := by
  have sy := x.stays R.st
  refine ⟨⟨st, R.ext.trans x fun _ z => z.elim, R.len, fun i s h => ?_, R.own0, R.dist⟩, x.weak fun _ z => z.elim, .refl⟩
  obtain ⟨ov, h1, h2⟩ := R.slot i s h
  refine ⟨ov, h1, ?_⟩
  cases s with
  | emp => trivial
  | val d =>
    obtain ⟨v, h3, h4⟩ := h2
    exact ⟨v, h3, h4.stays sy⟩
  | own ds =>
    obtain ⟨b, xs, h3, h4, h5, h6, h7⟩ := h2
    refine ⟨b, xs, h3, x.kp b _ h4 rfl h7, h5.stays sy, fun z => ?_, fun z => ?_⟩
    · rcases x.fn b z with q | q | q
      · exact h6 q
      · exact q.no h4 rfl
      · exact q
    · rcases x.rn b z with q | q
      · exact h7 q
      · exact q.no h4 rfl
  | thk =>
    obtain ⟨f, c, q, h3, h4, h5, h6⟩ := h2
    obtain ⟨h7, h8⟩ := x.code h5 h6
    exact ⟨f, c, q, h3, h4, h7, h8⟩
  | exn y => exact h2
/-- a new object at p, frozen -/
theorem Ext.new {p : Addr} {u : HO} (hp : H p = none) : Ext No F ρ H (fun a => F a ∨ a = p) ρ (upd H p u) where
  f := fun _ h => .inl h
  fn := fun b h => by
    rcases h with h | h
    · exact .inl h
    · exact .inr (.inl (h ▸ frh_none hp))
  r := List.prefix_rfl
  rn := fun _ h => .inl h
  kp := fun b v h _ _ => by rw [upd_ne (ne_of_none h hp)]; exact h
  tr := fun b h => by
    by_cases hb : b = p
    · exact hb ▸ frh_none hp
    · exact fun o e => h o (by rw [upd_ne hb]; exact e)
/-- .. not frozen -/
theorem Ext.newL {p : Addr} {u : HO} (hp : H p = none) : Ext No F ρ H F ρ (upd H p u) where
  f := fun _ h => h
  fn := fun b h => .inl h
  r := List.prefix_rfl
  rn := fun _ h => .inl h
  kp := fun b v h _ _ => by rw [upd_ne (ne_of_none h hp)]; exact h
  tr := fun b h => by
    by_cases hb : b = p
    · exact hb ▸ frh_none hp
    · exact fun o e => h o (by rw [upd_ne hb]; exact e)
/-- the tables stay where a list changes, a new object comes -/
theorem tabs_upd {T : List (Addr × Str)} {p : Addr} {u : HO} (t : LamX.Tabs T H) (h : ∀ o, H p = some o → okU o = true) : LamX.Tabs T (upd H p u) := fun z hz => by
  obtain ⟨ps, h1, h2, h3⟩ := t z hz
  have n1 : z.1 ≠ p := fun w => by
    subst w
    have := h _ h1
    cases this
  refine ⟨ps, by rw [upd_ne n1]; exact h1, h2, fun pos cv hc => ?_⟩
  obtain ⟨c, e1, e2⟩ := h3 pos cv hc
  exact ⟨c, e1, by rw [upd_ne (ne_code e2 h)]; exact e2⟩
theorem tabs_new {T : List (Addr × Str)} {p : Addr} {u : HO} (t : LamX.Tabs T H) (hp : H p = none) : LamX.Tabs T (upd H p u) := tabs_upd t (ok_none hp)
theorem frh_upd {a p : Addr} {u : HO} (h : ¬ Frh H a) (hp : a ≠ p) : ¬ Frh (upd H p u) a := fun z => h fun o e => z o (by rw [upd_ne hp]; exact e)
theorem Stt.no {p : Addr} (s : Stt G F ρ H S) (hp : H p = none) : ¬ F p ∧ p ∉ ρ := by
  refine ⟨fun h => s.ft p h (frh_none hp), fun h => ?_⟩
  obtain ⟨i, hi, e⟩ := List.getElem_of_mem h
  have hi' : i < S.length := by rw [s.len]; exact hi
  obtain ⟨b, xs, h1, h2, _⟩ := s.sto i S[i] (by simp [hi'])
  rw [List.getElem?_eq_getElem hi] at h1
  have : b = p := by rw [← e]; exact (Option.some.inj h1).symm
  rw [this, hp] at h2
  cases h2
theorem Stt.new {p : Addr} {u : HO} (s : Stt G F ρ H S) (hp : H p = none) (hu : noTab u = true := by rfl) : Stt G (fun a => F a ∨ a = p) ρ (upd H p u) S where
  nod := s.nod
  fr := fun b h => by
    rcases h with h | h
    · exact s.fr b h
    · exact h ▸ (s.no hp).2
  ft := fun b h => by
    by_cases hb : b = p
    · subst hb; exact fun z => z.no upd_same hu
    · rcases h with h | h
      · exact frh_upd (s.ft b h) hb
      · exact absurd h hb
  tabs := tabs_new s.tabs hp
  len := s.len
  sto := fun i ds h => by
    obtain ⟨b, xs, h1, h2, h3⟩ := s.sto i ds h
    exact ⟨b, xs, h1, by rw [upd_ne (ne_of_none h2 hp)]; exact h2, h3.stays ((Ext.new (u := u) hp).stays s)⟩
end
end Eng

set_option maxHeartbeats 4000000
/-! THE ENGINE, part C: what a computation promises. -/
namespace Eng
open PySem PySem.Spec L2

abbrev Rel (α β : Type) := Hp → (Addr → Prop) → List Addr → Hp → L2.St → Env → β → α → Prop
/-- an exception as it stands -/
def ExV (G : Gl0) (F : Addr → Prop) (ρ : List Addr) (H : Hp) (x : Exn) (cls : Value) (od : Option Addr) : Prop :=
  cls = .ref (He.ga G.K x.cls) ∧ match x.arg with
    | none => od = none
    | some (f, d) => ∃ a v, od = some a ∧ H a = some (.xd [(f, v)]) ∧ At G F ρ H v d
/-- what is known all through a def's body -/
structure Bd where
  G : Gl0
  N : Ent
  W : WX
/-- a result's kind may look at the heap that was there before: less was there, the better -/
class Anti {α β : Type} (R : Rel α β) : Prop where
  anti : ∀ {Hb Hb' : Hp} {F ρ H σ e b a}, (∀ x, Frh Hb' x → Frh Hb x) → R Hb' F ρ H σ e b a → R Hb F ρ H σ e b a
def Good {α β : Type} (B : Bd) (σ : L2.St) (R : Rel α β) (F : Addr → Prop) (ρ : List Addr) (H : Hp) (e : Env) (r : Res α) (Q : β → Hp → Prop) : Prop := match r with
  | .ok a e' _S' => ∀ F' ρ' H' b, Mono σ e F ρ H e' F' ρ' H' → Rep B.G B.N F' ρ' H' σ e' _S' → R H F' ρ' H' σ e' b a → Q b H'
  | .exc x e' S' => ∀ F' ρ' H' cls od, Mono σ e F ρ H e' F' ρ' H' → Rep B.G B.N F' ρ' H' σ e' S' → ExV B.G F' ρ' H' x cls od → B.W cls od σ H'
  | .fail => False
def tR {α β : Type} (B : Bd) (R : Rel α β) (m : M α) : L2.St → Hp → (β → Hp → Prop) → Prop := fun σ H Q =>
  ∃ F ρ e S, Rep B.G B.N F ρ H σ e S ∧ Good B σ R F ρ H e (m e S) Q
section
variable {α β γ δ : Type} {B : Bd} {σ : L2.St} {R : Rel α β} {R2 : Rel γ δ} {F F1 F2 : Addr → Prop} {ρ ρ1 ρ2 : List Addr} {H H1 H2 : Hp} {e e1 e2 : Env} {S S1 : Sto} {Q Q' : β → Hp → Prop} {Q2 : δ → Hp → Prop} {m : M α} {f : α → M γ} {r : Res α}
theorem Good.mono (g : Good B σ R F ρ H e r Q) (h : ∀ b H', Q b H' → Q' b H') : Good B σ R F ρ H e r Q' := by
  cases r with
  | ok a e' S' => exact fun F' ρ' H' b m x y => h _ _ (g F' ρ' H' b m x y)
  | exc x e' S' => exact g
  | fail => exact g
theorem Good.later [Anti R] (g : Good B σ R F ρ H e r Q) (m : Mono σ e F ρ H e1 F1 ρ1 H1) : Good B σ R F1 ρ1 H1 e1 r Q := by
  cases r with
  | ok a e' S' => exact fun F' ρ' H' b m' x y => g F' ρ' H' b (m.trans m') x (Anti.anti m.ext.tr y)
  | exc x e' S' => exact fun F' ρ' H' b c m' x y => g F' ρ' H' b c (m.trans m') x y
  | fail => exact g
/-- behind the first of two computations -/
def Then (B : Bd) (σ : L2.St) (R : Rel α β) (R2 : Rel γ δ) (F : Addr → Prop) (ρ : List Addr) (H : Hp) (e : Env) (f : α → M γ) (Q2 : δ → Hp → Prop) (b : β) (H1 : Hp) : Prop :=
  ∃ F1 ρ1 e1 S1 a, Mono σ e F ρ H e1 F1 ρ1 H1 ∧ Rep B.G B.N F1 ρ1 H1 σ e1 S1 ∧ R H F1 ρ1 H1 σ e1 b a ∧ Good B σ R2 F1 ρ1 H1 e1 (f a e1 S1) Q2
theorem Good.bind [Anti R2] (g : Good B σ R2 F ρ H e ((m >>= f) e S) Q2) : Good B σ R F ρ H e (m e S) (Then B σ R R2 F ρ H e f Q2) := by
  have g' : Good B σ R2 F ρ H e (M.bind m f e S) Q2 := g
  unfold M.bind at g'
  cases hm : m e S with
  | ok a e' S' =>
    rw [hm] at g'
    intro F' ρ' H' b mo rp rr
    exact ⟨F', ρ', e', S', a, mo, rp, rr, Good.later g' mo⟩
  | exc x e' S' =>
    rw [hm] at g'
    exact g'
  | fail =>
    rw [hm] at g'
    exact g'
/-- a value that is there at once -/
theorem Good.val {a : α} (g : Good B σ R F ρ H e (M.pure a e S) Q) {b : β} (rp : Rep B.G B.N F ρ H σ e S) (h : R H F ρ H σ e b a) : Q b H := g F ρ H b .refl rp h
theorem Good.lift {o : Option α} (g : Good B σ R F ρ H e (liftO o e S) Q) : ∃ a, o = some a ∧ Good B σ R F ρ H e (M.pure a e S) Q := by
  cases o with
  | none => exact False.elim g
  | some a => exact ⟨a, rfl, g⟩
/-- a new object, frozen -/
theorem Good.new {a : α} (g : Good B σ R F ρ H e (M.pure a e S) Q) (rp : Rep B.G B.N F ρ H σ e S) {p : Addr} {u : HO} {b : β} (hp : H p = none) (h : R H (fun a => F a ∨ a = p) ρ (upd H p u) σ e b a) (hu : noTab u = true := by rfl) : Q b (upd H p u) := by
  obtain ⟨r1, m1⟩ := rp.call (Ext.new (u := u) hp) (rp.st.new hp hu)
  exact g _ ρ _ b m1 r1 h
theorem Stt.newL {G : Gl0} {p : Addr} {u : HO} (s : Stt G F ρ H S) (hp : H p = none) : Stt G F ρ (upd H p u) S where
  nod := s.nod
  fr := s.fr
  ft := fun b h => by
    by_cases hb : b = p
    · subst hb; exact absurd (frh_none hp) (s.ft b h)
    · exact frh_upd (s.ft b h) hb
  tabs := tabs_new s.tabs hp
  len := s.len
  sto := fun i ds h => by
    obtain ⟨b, xs, h1, h2, h3⟩ := s.sto i ds h
    exact ⟨b, xs, h1, by rw [upd_ne (ne_of_none h2 hp)]; exact h2, h3.stays ((Ext.newL (u := u) hp).stays s)⟩
theorem Good.newL {a : α} (g : Good B σ R F ρ H e (M.pure a e S) Q) (rp : Rep B.G B.N F ρ H σ e S) {p : Addr} {u : HO} {b : β} (hp : H p = none) (h : R H F ρ (upd H p u) σ e b a) : Q b (upd H p u) := by
  obtain ⟨r1, m1⟩ := rp.call (Ext.newL (u := u) hp) (rp.st.newL hp)
  exact g _ ρ _ b m1 r1 h
end

/-! ### kinds of results -/
section
variable (B : Bd)
def RA : Rel D V := fun _ F ρ H _ _ v d => At B.G F ρ H v d
def RL : Rel (List D) (List V) := fun _ F ρ H _ _ v d => AtL B.G F ρ H v d
def RK : Rel (List (Key × D)) (List (Key × V)) := fun _ F ρ H _ _ v d => AtK B.G F ρ H v d
/-- a list of someone's own, not changed just now -/
def RB : Rel D V := fun _ F ρ H _ _ v d => At B.G F ρ H v d ∨ ∃ a xs ds, v = .ref a ∧ d = .lst ds ∧ H a = some (.lst xs) ∧ AtL B.G F ρ H xs ds ∧ a ∉ ρ
/-- a new list that nobody knows -/
def RF : Rel D V := fun Hb F ρ H σ e v d => ∃ a xs ds, v = .ref a ∧ d = .lst ds ∧ H a = some (.lst xs) ∧ AtL B.G F ρ H xs ds ∧ ¬ F a ∧ a ∉ ρ ∧ ¬ OwnAt σ e a ∧ Frh B.N.H a ∧ Frh Hb a
end
def Req {α : Type} : Rel α α := fun _ _ _ _ _ _ b a => b = a
instance {B : Bd} : Anti (RA B) := ⟨fun _ h => h⟩
instance {B : Bd} : Anti (RL B) := ⟨fun _ h => h⟩
instance {B : Bd} : Anti (RK B) := ⟨fun _ h => h⟩
instance {B : Bd} : Anti (RB B) := ⟨fun _ h => h⟩
instance {B : Bd} : Anti (RF B) := ⟨fun t h => by
  obtain ⟨a, xs, ds, h1, h2, h3, h4, h5, h6, h7, h8, h9⟩ := h
  exact ⟨a, xs, ds, h1, h2, h3, h4, h5, h6, h7, h8, t a h9⟩⟩
instance {α : Type} : Anti (Req (α := α)) := ⟨fun _ h => h⟩
section
variable {B : Bd} {σ : L2.St} {F F1 : Addr → Prop} {ρ ρ1 : List Addr} {H H1 Hb : Hp} {e e1 : Env} {S : Sto} {v : V} {d : D} {Q : V → Hp → Prop}
theorem RA.later (rp : Rep B.G B.N F ρ H σ e S) (m : Mono σ e F ρ H e1 F1 ρ1 H1) (h : RA B Hb F ρ H σ e v d) : RA B Hb F1 ρ1 H1 σ e1 v d := At.stays (m.stays rp) h
theorem RL.later {vs : List V} {ds : List D} (rp : Rep B.G B.N F ρ H σ e S) (m : Mono σ e F ρ H e1 F1 ρ1 H1) (h : RL B Hb F ρ H σ e vs ds) : RL B Hb F1 ρ1 H1 σ e1 vs ds := AtL.stays (m.stays rp) h
theorem RB.later (rp : Rep B.G B.N F ρ H σ e S) (m : Mono σ e F ρ H e1 F1 ρ1 H1) (h : RB B Hb F ρ H σ e v d) : RB B Hb F1 ρ1 H1 σ e1 v d := by
  rcases h with h | ⟨a, xs, ds, h1, h2, h3, h4, h5⟩
  · exact .inl (At.stays (m.stays rp) h)
  · refine .inr ⟨a, xs, ds, h1, h2, m.ext.kp a _ h3 rfl h5, h4.stays (m.stays rp), fun z => ?_⟩
    rcases m.ext.rn a z with q | q
    · exact h5 q
    · exact q.no h3 rfl
theorem RF.later (rp : Rep B.G B.N F ρ H σ e S) (m : Mono σ e F ρ H e1 F1 ρ1 H1) (h : RF B Hb F ρ H σ e v d) : RF B Hb F1 ρ1 H1 σ e1 v d := by
  obtain ⟨a, xs, ds, h1, h2, h3, h4, h5, h6, h7, h8, h9⟩ := h
  refine ⟨a, xs, ds, h1, h2, m.ext.kp a _ h3 rfl h6, h4.stays (m.stays rp), fun z => ?_, fun z => ?_, fun z => h7 (m.sub.at z), h8, h9⟩
  · rcases m.ext.fn a z with q | q | q
    · exact h5 q
    · exact q.no h3 rfl
    · exact h7 q
  · rcases m.ext.rn a z with q | q
    · exact h6 q
    · exact q.no h3 rfl
theorem set_own {e : Env} {i j : Nat} {d : D} {l : List D} (h : (e.set i (.val d))[j]? = some (Slot.own l)) : e[j]? = some (Slot.own l) ∧ j ≠ i := by
  by_cases hj : j = i
  · subst hj
    by_cases hl : j < e.length
    · rw [List.getElem?_set_self hl] at h; cases h
    · rw [List.getElem?_eq_none (by simpa using hl)] at h; cases h
  · rw [List.getElem?_set_ne (Ne.symm hj)] at h
    exact ⟨h, hj⟩
/-- a list is frozen: in whose slot it stood, it stands as a value -/
theorem Rep.frz {a : Addr} {xs : List V} {ds : List D} {e' : Env} (rp : Rep B.G B.N F ρ H σ e S) (ha : H a = some (.lst xs)) (hd : AtL B.G F ρ H xs ds) (nF : ¬ F a) (nr : a ∉ ρ) (n0 : Frh B.N.H a)
    (he : (e' = e ∧ ¬ OwnAt σ e a) ∨ ∃ (i : Nat), e' = e.set i (.val (.lst ds)) ∧ e[i]? = some (Slot.own ds) ∧ σ[i]? = some (some (.ref a))) :
    Rep B.G B.N (fun b => F b ∨ b = a) ρ H σ e' S ∧ SubOwn e' e ∧ At B.G (fun b => F b ∨ b = a) ρ H (.ref a) (.lst ds) := by
  have sy : Stays F (fun b => F b ∨ b = a) ρ ρ H H := ⟨fun _ h => .inl h, List.prefix_rfl, fun _ _ _ h _ => h⟩
  have sub : SubOwn e' e := by
    rcases he with ⟨he, _⟩ | ⟨i, he, _, _⟩
    · subst he; exact .refl
    · subst he; exact fun j l h => (set_own h).1
  have nown : ¬ OwnAt σ e' a := by
    rcases he with ⟨he, h⟩ | ⟨i, he, h1, h2⟩
    · subst he; exact h
    · subst he
      rintro ⟨j, l, h3, h4⟩
      obtain ⟨h5, h6⟩ := set_own h3
      exact h6 (rp.dist j i l ds a h5 h1 h4 h2)
  refine ⟨⟨⟨rp.st.nod, fun b h => ?_, fun b h => ?_, rp.st.tabs, rp.st.len, fun i l h => ?_⟩, ⟨fun b h => .inl (rp.ext.f b h), fun b h => ?_, rp.ext.r, rp.ext.rn, rp.ext.kp, rp.ext.tr⟩, ?_, fun i s h => ?_, fun b h => rp.own0 b (sub.at h), fun i j di dj b h1 h2 => rp.dist i j di dj b (sub i di h1) (sub j dj h2)⟩,
    sub, .lst (.inl ⟨.inr rfl, .inl ha⟩) (hd.stays sy)⟩
  · rcases h with h | h
    · exact rp.st.fr b h
    · exact h ▸ nr
  · rcases h with h | h
    · exact rp.st.ft b h
    · rw [h]; exact fun z => z.no ha rfl
  · obtain ⟨b, ys, h1, h2, h3⟩ := rp.st.sto i l h
    exact ⟨b, ys, h1, h2, h3.stays sy⟩
  · rcases h with h | h
    · exact rp.ext.fn b h
    · exact .inr (.inl (h ▸ n0))
  · rcases he with ⟨he, _⟩ | ⟨i, he, _, _⟩
    · subst he; exact rp.len
    · subst he; rw [List.length_set]; exact rp.len
  · have old : ∀ s', e[i]? = some s' → s = s' → ∃ ov, σ[i]? = some ov ∧ RepS B.G B.N (fun b => F b ∨ b = a) ρ H ov s := fun s' h' es => by
      subst es
      obtain ⟨ov, h1, h2⟩ := rp.slot i s h'
      refine ⟨ov, h1, ?_⟩
      cases s with
      | emp => trivial
      | val d =>
        obtain ⟨v, h3, h4⟩ := h2
        exact ⟨v, h3, h4.stays sy⟩
      | own l =>
        obtain ⟨b, ys, h3, h4, h5, h6, h7⟩ := h2
        refine ⟨b, ys, h3, h4, h5.stays sy, fun z => ?_, h7⟩
        rcases z with z | z
        · exact h6 z
        · refine nown ⟨i, l, h, ?_⟩
          rw [h1, h3, z]
      | thk => exact h2
      | exn y => exact h2
    rcases he with ⟨he, _⟩ | ⟨j, he, h1, h2⟩
    · subst he; exact old s h rfl
    · by_cases hj : i = j
      · subst hj
        have hl : i < e.length := (List.getElem?_eq_some_iff.mp h1).1
        rw [he, List.getElem?_set_self hl] at h
        cases h
        exact ⟨_, h2, _, rfl, .lst (.inl ⟨.inr rfl, .inl ha⟩) (hd.stays sy)⟩
      · have h' := h
        rw [he, List.getElem?_set_ne (Ne.symm hj)] at h'
        exact old s h' rfl
theorem Mono.frz {a : Addr} {e' : Env} {Hb : Hp} {Fb : Addr → Prop} {rb : List Addr} {eb : Env} (m : Mono σ eb Fb rb Hb e F ρ H) (sub : SubOwn e' e) (ha : Frh Hb a ∨ OwnAt σ eb a) : Mono σ eb Fb rb Hb e' (fun b => F b ∨ b = a) ρ H :=
  ⟨⟨fun b h => .inl (m.ext.f b h), fun b h => by
    rcases h with h | h
    · exact m.ext.fn b h
    · exact .inr (h ▸ ha), m.ext.r, m.ext.rn, m.ext.kp, m.ext.tr⟩, sub.trans m.sub⟩
/-- a new list, settled -/
theorem RF.settle {r : Res D} (g : Good B σ (RA B) F ρ H e r Q) : Good B σ (RF B) F ρ H e r Q := by
  cases r with
  | exc x e' S' => exact g
  | fail => exact g
  | ok a e' S' =>
    intro F' ρ' H' b m rp h
    obtain ⟨p, xs, ds, h1, h2, h3, h4, h5, h6, h7, h8, h9⟩ := h
    obtain ⟨rp2, sub, at2⟩ := rp.frz h3 h4 h5 h6 h8 (e' := e') (.inl ⟨rfl, h7⟩)
    subst h1 h2
    exact g _ ρ' H' _ (m.frz sub (.inl h9)) rp2 at2
theorem RB.ofA {r : Res D} (g : Good B σ (RB B) F ρ H e r Q) : Good B σ (RA B) F ρ H e r Q := by
  cases r with
  | exc x e' S' => exact g
  | fail => exact g
  | ok a e' S' => exact fun F' ρ' H' b m rp h => g F' ρ' H' b m rp (.inl h)
end
end Eng

set_option maxHeartbeats 4000000
/-! THE ENGINE, part Ca: the compiler of expressions. -/
namespace Eng
open PySem PySem.Spec L2
structure Ctx where
  N : List Str
  sc : Scope
  calm : Bool
  /-- the names whose cells were made at the entry -/
  cellsOf : Option Scope
  /-- may call what it got; has an exception at hand; may make lambdas -/
  thk : Bool := false
  err : Bool := false
  lamb : Bool := false
def Ctx.fnOk (c : Ctx) (x : Str) : Bool := match c.cellsOf with
  | none => true
  | some s => s.names.lookup x == some .cell
/-- the module's names: a def by its number, a constant, a built-in's name that is free -/
structure Tab where
  fns : List (Str × List Str)
  cst : List (Str × D)
  free : List Str
  exc : List Str
  /-- the defs that call what they got; the defs that make lambdas -/
  wrd : List Str := []
  lms : List Str := []
  /-- a class's classes above it -/
  sup : List (Str × List Str) := []
def Tab.sub (T : Tab) (x y : Str) : Bool := T.exc.contains x && (x == y || ((T.sup.lookup x).getD []).contains y)
def noDebug (x : Str) : Bool := !(x == ("__debug__" : Str)) && !(x == ("__classdict__" : Str)) && decide (x ≠ ("__name__" : Str))
def visB (sc : Scope) (x : Str) : Bool := match sc.names.lookup x with
  | some .local => true
  | some .cell => true
  | some .free => true
  | _ => false
def locB (sc : Scope) (x : Str) : Bool := match sc.names.lookup x with
  | some .local => true
  | some .cell => true
  | _ => false
def globB (sc : Scope) (x : Str) : Bool := match sc.names.lookup x with
  | some .globalImplicit => true
  | _ => false
def notStar : PySem.Expr → Bool
  | .Starred _ _ => false
  | _ => true
def bopOf : Operator → Option Bop
  | .Add => some .add
  | .Sub => some .sub
  | .Mult => some .mul
  | .FloorDiv => some .fdiv
  | .Mod => some .mod
  | .Pow => some .pow
  | _ => none
/-- which comparison stands for which -/
def copOf : CmpOp → Option Cop
  | .Eq => some .eq
  | .NotEq => some .ne
  | .Lt => some .lt
  | .LtE => some .le
  | .Gt => some .gt
  | .GtE => some .ge
  | .In => some .inn
  | .NotIn => some .notin
  | .Is => some .isN
  | .IsNot => some .isNotN
def plainIx : PySem.Expr → Bool
  | .Slice _ _ _ _ => false
  | .Starred _ _ => false
  | .Tuple _ _ _ => false
  | _ => true
mutual
def Tg.idx : Tg → List Nat
  | .name i => [i]
  | .tup ts => Tg.idxs ts
def Tg.idxs : List Tg → List Nat
  | [] => []
  | t :: ts => t.idx ++ Tg.idxs ts
end
def blkCtx (c : Ctx) (scope : Scope) : Ctx := { N := c.N, sc := relS scope c.sc, calm := c.calm, cellsOf := some scope }
/-- a def's body -/
def dCtx (T : Tab) (x : Str) (N : List Str) (sc : Scope) : Ctx := { N := N, sc := sc, calm := true, cellsOf := none, thk := T.wrd.contains x, lamb := T.lms.contains x && !T.wrd.contains x }
/-- within a lambda -/
def lamCtx (c : Ctx) (scope : Scope) : Ctx := { N := c.N, sc := scope, calm := true, cellsOf := some scope }
/-- within an except suite -/
def errCtx (c : Ctx) : Ctx := { N := c.N, sc := c.sc, calm := false, cellsOf := c.cellsOf, err := true }
def noPs : Arguments → Bool
  | ⟨[], [], none, [], [], none, []⟩ => true
  | _ => false
def isTupE : PySem.Expr → Bool
  | .Tuple _ _ _ => true
  | _ => false
def isLam : List PySem.Expr → Bool
  | [.Lambda _ _ _ _] => true
  | _ => false
def isTys (x : Str) : List PySem.Expr → Bool
  | [_, .Tuple _ _ _] => decide (x = "isinstance")
  | _ => false
def mthOf (x : Str) : Option Mth := if x = "index" then some .index else if x = "count" then some .count else none
def notSet : PySem.Expr → Bool
  | .Set _ _ _ => false
  | _ => true
def bltOf0 (x : Str) (n : Nat) : Option Blt :=
  if x = "len" ∧ n = 1 then some .len else if x = "tuple" ∧ n = 1 then some .tuple else if x = "abs" ∧ n = 1 then some .abs else if x = "int" ∧ n = 1 then some .int
  else if x = "min" ∧ n = 2 then some .min2 else if x = "max" ∧ n = 2 then some .max2 else if x = "sum" ∧ n = 1 then some .sum else if x = "min" ∧ n = 1 then some .min1
  else if x = "max" ∧ n = 1 then some .max1 else if x = "all" ∧ n = 1 then some .all else if x = "any" ∧ n = 1 then some .any else none
def bltOf (x : Str) (n : Nat) : Option Blt := if x = "repr" ∧ n = 1 then some .repr else bltOf0 x n
def freOf (x : Str) (n : Nat) : Option Fre := if x = "list" ∧ n = 1 then some .list else if x = "sorted" ∧ n = 1 then some .sorted else none
def nameIx : List Str → Str → Option Nat
  | [], _ => none
  | y :: r, x => if y = x then some 0 else (nameIx r x).map (· + 1)
def fnIx : List (Str × List Str) → Str → Option Nat
  | [], _ => none
  | y :: r, x => if y.1 = x then some 0 else (fnIx r x).map (· + 1)
def guardO {α : Type} (b : Bool) (o : Option α) : Option α := if b then o else none
def cName (T : Tab) (c : Ctx) (x : Str) : Option E :=
  if noDebug x then
    if visB c.sc x then (nameIx c.N x).map .var
    else if globB c.sc x then
      match T.cst.lookup x with
      | some d => some (.cst d)
      | none => (fnIx T.fns x).map fun i => .cst (.fn i)
    else none
  else none
/-- a borrowed name stays with its owner -/
def borE : E → E
  | .var i => .bor i
  | e => e
def cKey : PySem.Expr → Option Key
  | .Constant (.int i) _ _ => some (.inl i)
  | .Constant (.str x) _ _ => some (.inr x)
  | _ => none
/-- makes a list, by its looks -/
def lstLike : Nat → PySem.Expr → Bool
  | _, .List _ _ => true
  | _, .ListComp _ _ _ _ => true
  | _, .Call (.Name x _) _ _ _ => decide (x = "list") || decide (x = "sorted")
  | n + 1, .BinOp a .Add b _ => lstLike n a || lstLike n b
  | n + 1, .BinOp a .Mult _ _ => lstLike n a
  | _, _ => false
def tyOf (x : Str) : Option Ty :=
  if x = "int" then some .int else if x = "bool" then some .bool else if x = "str" then some .str else if x = "tuple" then some .tuple else if x = "list" then some .list else if x = "dict" then some .dict else none
def cTy (T : Tab) (c : Ctx) : PySem.Expr → Option Ty
  | .Name x _ => guardO (T.free.contains x && globB c.sc x) (tyOf x)
  | _ => none
def isErr (T : Tab) (c : Ctx) (x : Str) : List PySem.Expr → Bool
  | [.Name ev _, .Name cn _] => c.err && decide (x = "isinstance") && T.free.contains x && globB c.sc x && visB c.sc ev && noDebug ev && globB c.sc cn && noDebug cn && (T.exc.contains cn || (decide (cn = "ValueError") && T.free.contains cn))
  | _ => false
def cTgW (N : List Str) (sc : Scope) (fnOk : Str → Bool) : Nat → PySem.Expr → Option Tg
  | _, .Name x _ => guardO (locB sc x && (fnOk x || (sc.names.lookup x == some .local))) ((nameIx N x).map .name)
  | n + 1, .Tuple ts _ _ => guardO (ts.all notStar) ((ts.mapM (cTgW N sc fnOk n)).map .tup)
  | _, _ => none
def ownsOf (N : List Str) (scope : Scope) : List (Str × Nat) := scope.names.filterMap fun y => if y.2 == .local || y.2 == .cell then (nameIx N y.1).map fun i => (y.1, i) else none
def subB (xs ys : List Nat) : Bool := xs.all fun i => ys.contains i
def isRng (T : Tab) (c : Ctx) : PySem.Expr → Bool
  | .Call (.Name x _) es [] _ => decide (x = "range") && T.free.contains x && globB c.sc x && (decide (es.length = 1) || decide (es.length = 2) || decide (es.length = 3))
  | _ => false
/-- list(range(..)), tuple(range(..)) -/
def isCv (T : Tab) (c : Ctx) (x : Str) : List PySem.Expr → Bool
  | [e] => (decide (x = "list") || decide (x = "tuple")) && isRng T c e
  | _ => false
/-- sorted(set(..)) -/
def isSS (T : Tab) (c : Ctx) (x : Str) : List PySem.Expr → Bool
  | [.Call (.Name x2 _) es [] _] => decide (x = "sorted") && decide (x2 = "set") && T.free.contains x2 && globB c.sc x2 && decide (es.length = 1)
  | _ => false
def isPair (T : Tab) (c : Ctx) (nm : Str) (k : Nat) (tg : PySem.Expr) : PySem.Expr → Bool
  | .Call (.Name x _) es [] _ => decide (x = nm) && T.free.contains x && globB c.sc x && decide (es.length = k) && isTupE tg
  | _ => false
/-- the second clause's iterator: a value's -/
def itr2 (i : Itr) (y : Option E) : Option Itr := match i with
  | .seq _ => y.map .seq
  | i => some i
section
variable (T : Tab)
mutual
def cE : Nat → Ctx → PySem.Expr → Option E
  | 0, _, _ => none
  | n + 1, c, e => match e with
    | .Constant (.int i) _ _ => some (.int i)
    | .Constant (.bool i) _ _ => some (.bl i)
    | .Constant (.str i) _ _ => some (.str i)
    | .Constant .none _ _ => some .non
    | .Name x _ => cName T c x
    | .Tuple es _ _ => guardO (es.all notStar) ((cEs n c es).map .tup)
    | .List es _ => guardO (es.all notStar) ((cEs n c es).map .lst)
    | .Dict ks vs _ => guardO (ks.length == vs.length && decide (ks.length ≤ 15)) (match cKs n c ks vs with
      | some kvs => guardO (decide ((kvs.map (·.1)).Nodup)) (some (.dct kvs))
      | none => none)
    | .BinOp a op b _ => (match bopOf op, cE n c a, cE n c b with
      | some .add, some x, some y => if lstLike n a || lstLike n b then some (.fre .cat [borE x, borE y]) else some (.bin .add (borE x) (borE y))
      | some .mul, some x, some y => if lstLike n a then some (.fre .rep [borE x, borE y]) else some (.bin .mul (borE x) (borE y))
      | some o, some x, some y => some (.bin o (borE x) (borE y))
      | _, _, _ => none)
    | .UnaryOp .USub a _ => (cE n c a).map .neg
    | .UnaryOp .Not a _ => (cE n c a).map .not
    | .BoolOp .And es _ => guardO (!es.isEmpty) ((cEs n c es).map .and)
    | .BoolOp .Or es _ => guardO (!es.isEmpty) ((cEs n c es).map .or)
    | .Compare a [op] [b] _ => (match copOf op, cE n c a, cE n c b with
      | some o, some x, some y => guardO (!behindInMarks op b) (some (.cmp o (borE x) (borE y)))
      | _, _, _ => none)
    | .Compare a [op, op2] [b, b2] _ => (match copOf op, copOf op2, cE n c a, cE n c b, cE n c b2 with
      | some o, some p, some x, some y, some z => guardO (!lastMarks [op, op2] [b, b2]) (some (.chn o p (borE x) (borE y) (borE z)))
      | _, _, _, _, _ => none)
    | .IfExp t a b _ => (match cE n c t, cE n c a, cE n c b with
      | some x, some y, some z => some (.ite x y z)
      | _, _, _ => none)
    | .Subscript a (.Slice lo hi none _) _ => (match cE n c a, cO n c lo, cO n c hi with
      | some x, some y, some z => some (.slc (borE x) y z)
      | _, _, _ => none)
    | .Subscript a (.Slice none none (some (.UnaryOp .USub (.Constant (.int 1) _ _) _)) _) _ => (cE n c a).map fun x => .blt .rev [borE x]
    | .Subscript a b _ => guardO (plainIx b) (match cE n c a, cE n c b with
      | some x, some y => some (.idx (borE x) (borE y))
      | _, _ => none)
    | .Call (.Attribute (.Name x _) m apos) [a] [] cpos => guardO (visB c.sc x && noDebug x && notStar a && (apos.endLine == cpos.line)) (match mthOf m, nameIx c.N x, cE n c a with
      | some mm, some i, some y => some (.mth mm (.bor i) (borE y))
      | _, _, _ => none)
    | .Call (.Name x _) es [] _ => if visB c.sc x then guardO (noDebug x) (match nameIx c.N x with
        | some i => if es.isEmpty then guardO (c.thk && decide (i = 0)) (some (.thk 0)) else guardO (c.calm && es.all notStar) ((cEs n c es).map (.callV i))
        | none => none)
      else if isLam es then guardO (c.calm && c.lamb && globB c.sc x && noDebug x && T.wrd.contains x) (match es, fnIx T.fns x with
        | [.Lambda params body scope _], some w => guardO (noPs params && LamX.lamSB c.sc scope) ((cE n (lamCtx c scope) body).map (.lam w))
        | _, _ => none)
      else if isErr T c x es then (match es with
        | [.Name ev _, .Name cn _] => (nameIx c.N ev).map fun i => .isE i cn
        | _ => none)
      else if isTys x es then guardO (globB c.sc x && T.free.contains x) (match es with
        | [a, .Tuple ts _ _] => (match ts.mapM (cTy T c), cE n c a with
          | some tys, some y => guardO (notStar a && decide (tys.length ≤ sizeLine)) (some (.isiT tys (borE y)))
          | _, _ => none)
        | _ => none)
      else if isCv T c x es then guardO (c.calm && globB c.sc x && T.free.contains x) (match es with
        | [.Call (.Name _ _) es2 [] _] => guardO (es2.all notStar) ((cEs n c es2).map fun ys => if x = "list" then .fre .rng ys else .blt .rngT ys)
        | _ => none)
      else if isSS T c x es then guardO (c.calm && globB c.sc x && T.free.contains x) (match es with
        | [.Call (.Name _ _) es2 [] _] => guardO (es2.all notStar) ((cEs n c es2).map fun ys => .fre .sset ys)
        | _ => none)
      else guardO (c.calm && globB c.sc x && noDebug x && es.all notStar)
      (match fnIx T.fns x with
      | some i => (cEs n c es).map (.call i)
      | none => guardO (T.free.contains x) (if x = "isinstance" then (match es with
          | [a, .Name tn _] => guardO (T.free.contains tn && globB c.sc tn) (match tyOf tn, cE n c a with
            | some t, some y => some (.isi t (borE y))
            | _, _ => none)
          | _ => none)
        else guardO (!es.isEmpty) (match bltOf x es.length with
          | some b => (cEs n c es).map fun ys => .blt b (ys.map borE)
          | none => match freOf x es.length with
            | some b => (cEs n c es).map fun ys => .fre b (ys.map borE)
            | none => none)))
    | .ListComp elt [⟨tg, it, ifs, 0⟩] scope _ =>
      (match cTgW c.N (relS scope c.sc) (blkCtx c scope).fnOk n tg, cI n c tg it, cC n (blkCtx c scope) ifs, cE n (blkCtx c scope) elt with
      | some t, some i, some q, some y => guardO (c.calm && blkC c.N c.sc scope (ownsOf c.N scope) && subB t.idx ((ownsOf c.N scope).map (·.2)) && notSet it) (some (.comp ((ownsOf c.N scope).map (·.2)) t i q y))
      | _, _, _, _ => none)
    | .ListComp elt [⟨tg, it, ifs, 0⟩, ⟨tg1, it1, ifs1, 0⟩] scope _ =>
      (match cTgW c.N (relS scope c.sc) (blkCtx c scope).fnOk n tg, cI n c tg it, cC n (blkCtx c scope) ifs, cTgW c.N (relS scope c.sc) (blkCtx c scope).fnOk n tg1, (cI n (blkCtx c scope) tg1 it1).bind (fun i => itr2 i (cE n (blkCtx c scope) it1)), cC n (blkCtx c scope) ifs1, cE n (blkCtx c scope) elt with
      | some t, some i, some q, some t1, some i1, some q1, some y => guardO (c.calm && blkC c.N c.sc scope (ownsOf c.N scope) && subB t.idx ((ownsOf c.N scope).map (·.2)) && notSet it && subB t1.idx ((ownsOf c.N scope).map (·.2)) && notSet it1) (some (.comp2 ((ownsOf c.N scope).map (·.2)) t1.idx t i q t1 i1 q1 y))
      | _, _, _, _, _, _, _ => none)
    | _ => none
def cEs : Nat → Ctx → List PySem.Expr → Option (List E)
  | 0, _, _ => none
  | n + 1, c, es => match es with
    | [] => some []
    | e :: r => match cE n c e, cEs n c r with
      | some x, some xs => some (x :: xs)
      | _, _ => none
def cKs : Nat → Ctx → List (Option PySem.Expr) → List PySem.Expr → Option (List (Key × E))
  | 0, _, _, _ => none
  | n + 1, c, ks, vs => match ks, vs with
    | [], [] => some []
    | some k :: ks, v :: vs => (match cKey k, cE n c v, cKs n c ks vs with
      | some kk, some x, some xs => some ((kk, x) :: xs)
      | _, _, _ => none)
    | _, _ => none
def cO : Nat → Ctx → Option PySem.Expr → Option (Option E)
  | 0, _, _ => none
  | n + 1, c, o => match o with
    | none => some none
    | some e => (cE n c e).map some
def cC : Nat → Ctx → List PySem.Expr → Option (Option E)
  | 0, _, _ => none
  | n + 1, c, o => match o with
    | [] => some none
    | [e] => (cE n c e).map some
    | _ => none
def cI : Nat → Ctx → PySem.Expr → PySem.Expr → Option Itr
  | 0, _, _, _ => none
  | n + 1, c, tg, e => if isRng T c e then (match e with
      | .Call (.Name x _) es [] _ => guardO (es.all notStar) ((cEs n c es).map .rng)
      | _ => none)
    else if isPair T c "zip" 2 tg e then (match e with
      | .Call (.Name x _) es [] _ => guardO (es.all notStar) ((cEs n c es).map .zip)
      | _ => none)
    else if isPair T c "enumerate" 1 tg e then (match e with
      | .Call (.Name x _) es [] _ => guardO (es.all notStar) ((cEs n c es).map .enum)
      | _ => none)
    else (cE n c e).map fun x => .seq (borE x)
end
end
end Eng

set_option maxHeartbeats 4000000
/-! THE ENGINE, part D: expressions keep what the evaluator says. -/
namespace Eng
open PySem PySem.Spec L2

/-! ### weaker readings -/
section
variable {X : Cx}
theorem PEi {e : PySem.Expr} {t t' : TE} (h : PE X e t) (i : ∀ σ H Q, t' σ H Q → t σ H Q) : PE X e t' := ⟨fun p s σ H Q I q => h.run p s σ H Q I (i σ H Q q)⟩
theorem PTi {e : PySem.Expr} {t t' : TT} (h : PT X e t) (i : ∀ σ H Q, t' σ H Q → t σ H Q) : PT X e t' := ⟨fun p s σ H Q I q => h.run p s σ H Q I (i σ H Q q)⟩
theorem PAi {e : List PySem.Expr} {t t' : TA} (h : PA X e t) (i : ∀ σ H Q, t' σ H Q → t σ H Q) : PA X e t' := ⟨fun pos p s σ H Q I q => h.run pos p s σ H Q I (i σ H Q q)⟩
theorem OpRor {f : Value → Value → Sem Value} {r r' : R2} (h : OpR X f r) (h' : OpR X f r') : OpR X f (fun x y H Q => r x y H Q ∨ r' x y H Q) := by
  intro p s σ H x y v u Q I rx ry q
  rcases q with q | q
  · exact h p s σ H x y v u Q I rx ry q
  · exact h' p s σ H x y v u Q I rx ry q
theorem CallOr {f : Value} {r r' : List V → Hp → VK → Prop} (h : CallR X f r) (h' : CallR X f r') : CallR X f (fun x H Q => r x H Q ∨ r' x H Q) := by
  intro p s σ H x v Q I rx q
  rcases q with q | q
  · exact h p s σ H x v Q I rx q
  · exact h' p s σ H x v Q I rx q
theorem OpRi {f : Value → Value → Sem Value} {r r' : R2} (h : OpR X f r) (i : ∀ x y H Q, r' x y H Q → r x y H Q) : OpR X f r' := fun p s σ H x y v u Q I rx ry q => h p s σ H x y v u Q I rx ry (i x y H Q q)
end

/-! ### what a value is, by its data -/
section
variable {B : Bd} {σ : L2.St} {F : Addr → Prop} {ρ : List Addr} {H Hb : Hp} {e : Env} {v : V}
theorem RB.int {i : Int} (h : RB B Hb F ρ H σ e v (.int i)) : v = .int i := by
  rcases h with h | ⟨_, _, _, _, h, _⟩
  · cases h; rfl
  · cases h
theorem RB.bl {i : Bool} (h : RB B Hb F ρ H σ e v (.bl i)) : v = .bl i := by
  rcases h with h | ⟨_, _, _, _, h, _⟩
  · cases h; rfl
  · cases h
theorem RB.str {i : Str} (h : RB B Hb F ρ H σ e v (.str i)) : v = .str i := by
  rcases h with h | ⟨_, _, _, _, h, _⟩
  · cases h; rfl
  · cases h
theorem RB.tup {l : List D} (h : RB B Hb F ρ H σ e v (.tup l)) : ∃ a xs, v = .ref a ∧ TupF B.G.K F H a xs ∧ AtL B.G F ρ H xs l := by
  rcases h with h | ⟨_, _, _, _, h, _⟩
  · cases h with
    | tup h1 h2 => exact ⟨_, _, rfl, h1, h2⟩
  · cases h
theorem RB.lst {l : List D} (h : RB B Hb F ρ H σ e v (.lst l)) : ∃ a xs, v = .ref a ∧ LstX B.G.K H a xs ∧ AtL B.G F ρ H xs l := by
  rcases h with h | ⟨a, xs, ds, h1, h2, h3, h4, _⟩
  · cases h with
    | lst h1 h2 => exact ⟨_, _, rfl, h1.x, h2⟩
  · cases h2
    exact ⟨a, xs, h1, .inl (.inl h3), h4⟩
/-- a sequence -/
theorem RB.items {d : D} {l : List D} (h : RB B Hb F ρ H σ e v d) (hd : d.items = some l) : ∃ a xs, v = .ref a ∧ (SqL B.G.K H a xs ∨ SqT B.G.K H a xs) ∧ AtL B.G F ρ H xs l := by
  cases d with
  | tup k =>
    cases hd
    obtain ⟨a, xs, h1, h2, h3⟩ := h.tup
    exact ⟨a, xs, h1, .inr h2.sq, h3⟩
  | lst k =>
    cases hd
    obtain ⟨a, xs, h1, h2, h3⟩ := h.lst
    exact ⟨a, xs, h1, .inl h2.sq, h3⟩
  | _ => cases hd
theorem RB.nonIff {d : D} (h : RB B Hb F ρ H σ e v d) : decide (v = .non) = d.isNon := by
  rcases h with h | ⟨a, xs, ds, h1, h2, _⟩
  · cases h <;> first | rfl | simp [D.isNon]
  · subst h1 h2; simp [D.isNon]
end

/-! ### data that can be compared -/
mutual
theorem dp_of {G : Gl0} {F : Addr → Prop} {ρ : List Addr} {H : Hp} : ∀ {v : V} {d : D} {p : PyData}, At G F ρ H v d → D.py d = some p → Dp G.K H v p
  | _, _, _, .non, e => by unfold D.py at e; cases e; exact .non
  | _, _, _, .bl b, e => by unfold D.py at e; cases e; exact .bl b
  | _, _, _, .int i, e => by unfold D.py at e; cases e; exact .int i
  | _, _, _, .str x, e => by unfold D.py at e; cases e; exact .str x
  | _, _, _, .tup h t, e => by
    unfold D.py at e
    obtain ⟨q, hq, e⟩ := Option.map_eq_some_iff.mp e
    subst e
    exact .tup h.sq (dpL_of t hq)
  | _, _, _, .lst h t, e => by
    unfold D.py at e
    obtain ⟨q, hq, e⟩ := Option.map_eq_some_iff.mp e
    subst e
    exact .lst h.sq (dpL_of t hq)
  | _, _, _, .dic _ _ _, e => by unfold D.py at e; cases e
  | _, _, _, .ref _, e => by unfold D.py at e; cases e
  | _, _, _, .fn _, e => by unfold D.py at e; cases e
  | _, _, _, .scr _ _, e => by unfold D.py at e; cases e
theorem dpL_of {G : Gl0} {F : Addr → Prop} {ρ : List Addr} {H : Hp} : ∀ {v : List V} {d : List D} {p : List PyData}, AtL G F ρ H v d → D.pyL d = some p → DpAll G.K H v p
  | _, _, _, .nil, e => by unfold D.pyL at e; cases e; exact .nil
  | _, _, _, .cons h t, e => by
    unfold D.pyL at e
    split at e
    · rename_i p q h1 h2
      cases e
      exact .cons (dp_of h h1) (dpL_of t h2)
    · cases e
end
section
variable {B : Bd} {σ : L2.St} {F : Addr → Prop} {ρ : List Addr} {H Hb : Hp} {e : Env} {v w : V}
theorem RB.dp {d : D} {p : PyData} (h : RB B Hb F ρ H σ e v d) (hp : d.shapedO = some p) : Dp B.G.K H v p ∧ SeqAt.shaped p = true := by
  unfold D.shapedO at hp
  split at hp
  · rename_i q hq
    split at hp
    · rename_i hs
      cases hp
      refine ⟨?_, hs⟩
      rcases h with h | ⟨a, xs, ds, h1, h2, h3, h4, _⟩
      · exact dp_of h hq
      · subst h1 h2
        unfold D.py at hq
        obtain ⟨q', hq', e⟩ := Option.map_eq_some_iff.mp hq
        subst e
        exact .lst (SqL.of h3) (dpL_of h4 hq')
    · cases hp
  · cases hp
theorem deq_of {a b : D} {k : Bool} (h : deq a b = some k) : ∃ p q, a.shapedO = some p ∧ b.shapedO = some q ∧ PyData.eqv p q = k := by
  unfold deq at h
  split at h
  · rename_i p q h1 h2
    cases h
    exact ⟨p, q, h1, h2, rfl⟩
  · cases h
end

/-! ### the place of a piece of code -/
def GoodF (G : Gl0) (F : Addr → Prop) (ρ : List Addr) (H : Hp) (r : FR) (Q : VK) (E : XK) : Prop := match r with
  | .ok d S' => ∀ F' ρ' H' v, Ext No F ρ H F' ρ' H' → Stt G F' ρ' H' S' → At G F' ρ' H' v d → Q v H'
  | .exc x S' => ∀ F' ρ' H' cls od, Ext No F ρ H F' ρ' H' → Stt G F' ρ' H' S' → ExV G F' ρ' H' x cls od → E cls od H'
  | .fail => False
/-- the promise of a def -/
def spC (G : Gl0) (n : Nat) (call : List D → Sto → FR) : Sp := fun vs H Q E => ∃ F ρ S ds, ds.length = n ∧ Stt G F ρ H S ∧ AtL G F ρ H vs ds ∧ GoodF G F ρ H (call ds S) Q E
/-- room for k calls more; no repr under way -/
structure Rm (k : Nat) (A : Around) : Prop where
  r : Room k A
  g : A.guards = some []
theorem Rm.mono {j k : Nat} {A : Around} (h : Rm k A) (l : j ≤ k) : Rm j A := ⟨h.r.mono l, h.g⟩
theorem Rm.deeper {k : Nat} {A : Around} (h : Rm (k + 1) A) (env : PySem.Env) : Rm k (A.deeper env) := ⟨h.r.deeper env, h.g⟩
/-- a def keeps a promise wherever no repr is under way -/
structure FnG (P : Program) (w : World) (K : PySem.W.Frag) (mg : Str → Option Value) (base : Heap) (C : CXT) (k : Nat) (fa : Addr) (fd : FuncData) (ps : List Str) (sp : Sp) : Prop where
  many : ∀ xs HH R Y, sp xs HH R Y → xs.length = ps.length
  does : ∀ (A : Around) (o : List PySem.Env) (t : Shared) (HH : Hp) (ar : Args) (us : List Value) (xs : List V) (R : VK) (Y : XK), Rm k A → Env0 P w K mg base A o t HH → BindsTo t fd ar (ps.zip us) → Vals xs us → sp xs HH R Y → codeAny (model P w) A (.call (.ref fa) ar) (CR C o P w HH t R Y) t
theorem FnG.mono {P : Program} {w : World} {K : PySem.W.Frag} {mg : Str → Option Value} {base : Heap} {C : CXT} {j k : Nat} {fa : Addr} {fd : FuncData} {ps : List Str} {sp : Sp} (h : FnG P w K mg base C j fa fd ps sp) (l : j ≤ k) : FnG P w K mg base C k fa fd ps sp :=
  ⟨h.many, fun A o t HH ar us xs R Y rm => h.does A o t HH ar us xs R Y (rm.mono l)⟩
theorem FnG.call {X : Cx} {C : CXT} {k : Nat} {fa : Addr} {fd : FuncData} {ps : List Str} {sp : Sp} {pn : List (Addr × Obj)} {τ : L2.St} {HH : Hp} {t : Shared} {R : VK} {us : List Value} {xs : List V} {Y : XK} (h : FnG X.prog X.w X.K X.mg X.base C k fa fd ps sp) (room : Rm k X.A) (bd : Binds X.K fd ps [])
    (ps' : PassesAt C X τ Y) (J : Inv X pn τ HH t) (rv : Vals xs us) (q : sp xs HH R Y) : wpAny (model X.prog X.w) X.A (call (.ref fa) us) (EP X pn τ R) X.xe t := by
  have z : us.length = ps.length := rv.length.symm.trans (h.many _ _ _ _ q)
  have b := bd t us J.kIn (by rw [List.append_nil]; exact z)
  rw [List.append_nil] at b
  refine wpAny_call (codeAny_mono (h.does X.A X.stack t HH ⟨us, []⟩ us xs R Y room J.env0 b rv q) fun res t' hq => ?_)
  rcases res with e | fl
  · exact ps' pn HH t e t' J hq
  · cases fl with
    | ret u => exact J.after hq
    | _ => exact hq.elim
structure GOk (B : Bd) (T : Tab) (Γ : Gm) (k : Nat) (P : Program) (w : World) (mg : Str → Option Value) (base : Heap) : Prop where
  free : ∀ x ∈ T.free, mg x = none
  cst : ∀ x d, T.cst.lookup x = some d → ∃ u v, mg x = some u ∧ RelV v u ∧ ∀ F ρ H, At B.G F ρ H v d
  nm : ∀ (i : Nat) x ps, T.fns[i]? = some (x, ps) → B.G.nm i = some x
  fns : ∀ (i : Nat) x ps, T.fns[i]? = some (x, ps) → mg x = some (.ref (He.ga B.G.K x)) ∧ PySem.W.keepIn B.G.K (.ref (He.ga B.G.K x)) = true ∧
    ∃ fd, Binds B.G.K fd ps [] ∧ FnG P w B.G.K mg base (L2.CX P w) k (He.ga B.G.K x) fd ps (spC B.G ps.length (Γ.call i))
  exc : ∀ x ∈ T.exc, mg x = some (.ref (He.ga B.G.K x)) ∧ PySem.W.excIn B.G.K (He.ga B.G.K x) He.veBase "ValueError.__new__" = true ∧ PySem.W.keepIn B.G.K (.ref (He.ga B.G.K x)) = true ∧
    PySem.W.subIn B.G.K (.ref (He.ga B.G.K x)) (.type "BaseException") = some true ∧ PySem.W.typeIn B.G.K (.ref (He.ga B.G.K x)) = some (.type "type")
  len : ∀ (i : Nat) x ps ds S, T.fns[i]? = some (x, ps) → Γ.call i ds S ≠ .fail → ds.length = ps.length
  mn : ∀ (i : Nat) x, B.G.nm i = some x → ∃ ps, T.fns[i]? = some (x, ps)
  sub : ∀ x y, Γ.sub x y = T.sub x y
  tri : T.wrd ≠ [] → ∀ x ∈ T.exc, L2.ExcC B.G.K (He.ga B.G.K x) ∧ PySem.W.kitOne B.G.K (.ref (He.ga B.G.K x)) (.type "ValueError") = some (T.sub x "ValueError") ∧
    ∀ y ∈ T.exc, PySem.W.exmOne B.G.K (.ref (He.ga B.G.K x)) (.ref (He.ga B.G.K y)) = some (T.sub x y) ∧ PySem.W.kitOne B.G.K (.ref (He.ga B.G.K x)) (.ref (He.ga B.G.K y)) = some (T.sub x y)
structure XOk (B : Bd) (T : Tab) (Γ : Gm) (k : Nat) (c : Ctx) (X : Cx) : Prop where
  K : X.K = B.G.K
  N : X.N = c.N
  nd : X.N.Nodup
  sc : X.env.scope = c.sc
  calm : X.calm = c.calm
  fn : ∀ x, c.fnOk x = true → X.fn x = true
  tk : Takes X B.W
  gl : GOk B T Γ k X.prog X.w X.mg X.base
  room : c.calm = true → Rm k X.A
  hu : X.A.units + 70 < cLine
  thk : c.thk = true → ∀ (a : Str) (p p2 : Pos), c.N[0]? = some a → visB c.sc a = true → noDebug a = true → ∀ (pn : List (Addr × Obj)) (xe : Value → Shared → Prop) (W : WX), Takes (X.tr pn xe) W →
    PE (X.tr pn xe) (.Call (.Name a p) [] [] p2) (tR { B with W := W } (RA B) (thkM Γ 0))
  nox : c.calm = true → B.N.exn = none
  err : c.err = true → ∀ (i : Nat) (ev cn : Str) (p p2 p3 p4 : Pos), c.N[i]? = some ev → isErr T c "isinstance" [.Name ev p2, .Name cn p3] = true → PE X (.Call (.Name "isinstance" p) [.Name ev p2, .Name cn p3] [] p4) (tR B (RA B) (isEM Γ i cn))
  lam : c.lamb = true → c.calm = true → ∀ (n w : Nat) (x : Str) (params : Arguments) (body : PySem.Expr) (scope : Scope) (b : E) (p p2 p3 : Pos), noPs params = true → LamX.lamSB c.sc scope = true → globB c.sc x = true → noDebug x = true → T.wrd.contains x = true →
    fnIx T.fns x = some w → cE T n (lamCtx c scope) body = some b → PE X (.Call (.Name x p) [.Lambda params body scope p2] [] p3) (tR B (RA B) (wordM Γ w b))
section
variable {B : Bd} {T : Tab} {Γ : Gm} {k : Nat} {c : Ctx}
/-- code e does m: as a value; a borrowed list; a new list; a test; arguments -/
def Sa (B : Bd) (T : Tab) (Γ : Gm) (k : Nat) (c : Ctx) (e : PySem.Expr) (m : M D) : Prop := ∀ X, XOk B T Γ k c X → PE X e (tR B (RA B) m)
def Sb (B : Bd) (T : Tab) (Γ : Gm) (k : Nat) (c : Ctx) (e : PySem.Expr) (m : M D) : Prop := ∀ X, XOk B T Γ k c X → PE X e (tR B (RB B) m)
def Sf (B : Bd) (T : Tab) (Γ : Gm) (k : Nat) (c : Ctx) (e : PySem.Expr) (m : M D) : Prop := ∀ X, XOk B T Γ k c X → PE X e (tR B (RF B) m)
def St (B : Bd) (T : Tab) (Γ : Gm) (k : Nat) (c : Ctx) (e : PySem.Expr) (m : M Bool) : Prop := ∀ X, XOk B T Γ k c X → PT X e (tR B Req m)
def Sl (B : Bd) (T : Tab) (Γ : Gm) (k : Nat) (c : Ctx) (e : List PySem.Expr) (m : M (List D)) : Prop := ∀ X, XOk B T Γ k c X → PA X e (tR B (RL B) m)
variable {e a b : PySem.Expr} {ma mb m : M D} {pos : Pos}
theorem tR_imp {α β γ δ : Type} {B : Bd} {R : Rel α β} {R2 : Rel α δ} {m : M α} {σ : L2.St} {H : Hp} {Q : β → Hp → Prop} {Q2 : δ → Hp → Prop} (h : tR B R m σ H Q)
    (i : ∀ F ρ e S, Rep B.G B.N F ρ H σ e S → Good B σ R F ρ H e (m e S) Q → Good B σ R2 F ρ H e (m e S) Q2) : tR B R2 m σ H Q2 :=
  let ⟨F, ρ, e, S, rp, g⟩ := h
  ⟨F, ρ, e, S, rp, i F ρ e S rp g⟩
theorem Sf.toA (h : Sf B T Γ k c e m) : Sa B T Γ k c e m := fun X x => PEi (h X x) fun σ H Q z => tR_imp (γ := V) z fun _ _ _ _ _ g => RF.settle g
theorem Sa.toB (h : Sa B T Γ k c e m) : Sb B T Γ k c e m := fun X x => PEi (h X x) fun σ H Q z => tR_imp (γ := V) z fun _ _ _ _ _ g => RB.ofA g

/-! ### names, constants -/
theorem sa_const {v : V} {d : D} (h : ∀ X : Cx, PE X e (tC v)) (hd : ∀ F ρ H, At B.G F ρ H v d) : Sa B T Γ k c e (M.pure d) := fun X _ => PEi (h X) fun σ H Q ⟨F, ρ, en, S, rp, g⟩ => g.val rp (hd F ρ H)
theorem sa_int {i : Int} {j} : Sa B T Γ k c (.Constant (.int i) j pos) (M.pure (.int i)) := sa_const (fun _ => pe_int) fun _ _ _ => .int i
theorem sa_bl {i : Bool} {j} : Sa B T Γ k c (.Constant (.bool i) j pos) (M.pure (.bl i)) := sa_const (fun _ => pe_bl) fun _ _ _ => .bl i
theorem sa_non {j} : Sa B T Γ k c (.Constant .none j pos) (M.pure .non) := sa_const (fun _ => pe_non) fun _ _ _ => .non
theorem sa_str {i : Str} {j} : Sa B T Γ k c (.Constant (.str i) j pos) (M.pure (.str i)) := sa_const (fun _ => pe_str) fun _ _ _ => .str i
theorem vis_of {sc : Scope} {x : Str} (h : visB sc x = true) : Vis sc x := by
  unfold visB at h
  unfold Vis
  split at h
  · rename_i e; exact .inl e
  · rename_i e; exact .inr (.inl e)
  · rename_i e; exact .inr (.inr e)
  · cases h
theorem loc_of {sc : Scope} {x : Str} (h : locB sc x = true) : L2.Loc sc x := by
  unfold locB at h
  unfold L2.Loc
  split at h
  · rename_i e; exact .inl e
  · rename_i e; exact .inr e
  · cases h
theorem gl_of {X : Cx} {sc : Scope} {x : Str} (hs : X.env.scope = sc) (h : globB sc x = true) : Gl X x := by
  unfold globB at h
  unfold Gl PySem.Env.kindOf
  rw [hs]
  split at h
  · rename_i e; exact e
  · cases h
theorem nd1 {x : Str} (h : noDebug x = true) : (x == ("__debug__" : Str)) = false := by
  unfold noDebug at h
  simp only [Bool.and_eq_true, Bool.not_eq_true'] at h
  exact h.1.1
theorem nd2 {x : Str} (h : noDebug x = true) : (x == ("__classdict__" : Str)) = false := by
  unfold noDebug at h
  simp only [Bool.and_eq_true, Bool.not_eq_true'] at h
  exact h.1.2
theorem nd3 {x : Str} (h : noDebug x = true) : x ≠ "__name__" := by
  unfold noDebug at h
  simp only [Bool.and_eq_true, decide_eq_true_eq] at h
  exact h.2
theorem sa_var {i : Nat} {x : Str} (hN : c.N[i]? = some x) (hv : visB c.sc x = true) (hd : noDebug x = true) : Sa B T Γ k c (.Name x pos) (getV i) := by
  intro X x0
  refine PEi (pe_var (i := i) (by rw [x0.N]; exact hN) (by rw [x0.sc]; exact vis_of hv) (nd1 hd) (nd2 hd)) fun σ H Q ⟨F, ρ, en, S, rp, g⟩ => ?_
  unfold getV at g
  cases he : en[i]? with
  | none => rw [he] at g; exact False.elim g
  | some s =>
    rw [he] at g
    obtain ⟨ov, h1, h2⟩ := rp.slot i s he
    cases s with
    | emp => exact False.elim g
    | val d =>
      obtain ⟨v, h3, h4⟩ := h2
      subst h3
      exact ⟨v, h1, Good.val (R := RA B) g rp h4⟩
    | thk => exact False.elim g
    | exn _ => exact False.elim g
    | own l =>
      obtain ⟨p, xs, h3, h4, h5, h6, h7⟩ := h2
      subst h3
      refine ⟨.ref p, h1, ?_⟩
      have n0 := rp.own0 p ⟨i, l, he, h1⟩
      obtain ⟨rp2, sub, at2⟩ := rp.frz h4 h5 h6 h7 n0 (.inr ⟨i, rfl, he, h1⟩)
      exact g _ ρ H _ (Mono.refl.frz sub (.inr ⟨i, l, he, h1⟩)) rp2 at2
theorem sb_var {i : Nat} {x : Str} (hN : c.N[i]? = some x) (hv : visB c.sc x = true) (hd : noDebug x = true) : Sb B T Γ k c (.Name x pos) (getB i) := by
  intro X x0
  refine PEi (pe_var (i := i) (by rw [x0.N]; exact hN) (by rw [x0.sc]; exact vis_of hv) (nd1 hd) (nd2 hd)) fun σ H Q ⟨F, ρ, en, S, rp, g⟩ => ?_
  unfold getB at g
  cases he : en[i]? with
  | none => rw [he] at g; exact False.elim g
  | some s =>
    rw [he] at g
    obtain ⟨ov, h1, h2⟩ := rp.slot i s he
    cases s with
    | emp => exact False.elim g
    | val d =>
      obtain ⟨v, h3, h4⟩ := h2
      subst h3
      exact ⟨v, h1, Good.val (R := RB B) g rp (.inl h4)⟩
    | thk => exact False.elim g
    | exn _ => exact False.elim g
    | own l =>
      obtain ⟨p, xs, h3, h4, h5, h6, h7⟩ := h2
      subst h3
      exact ⟨.ref p, h1, Good.val (R := RB B) g rp (.inr ⟨p, xs, l, rfl, rfl, h4, h5, h7⟩)⟩
theorem sa_cst {x : Str} {d : D} (hc : T.cst.lookup x = some d) (hg : globB c.sc x = true) (hd : noDebug x = true) : Sa B T Γ k c (.Name x pos) (M.pure d) := by
  intro X x0
  obtain ⟨u, v, h1, h2, h3⟩ := x0.gl.cst x d hc
  exact PEi (pe_glob (gl_of x0.sc hg) h1 h2 (nd1 hd)) fun σ H Q ⟨F, ρ, en, S, rp, g⟩ => g.val rp (h3 F ρ H)
theorem sa_fn {x : Str} {i : Nat} {ps : List Str} (hc : T.fns[i]? = some (x, ps)) (hg : globB c.sc x = true) (hd : noDebug x = true) : Sa B T Γ k c (.Name x pos) (M.pure (.fn i)) := by
  intro X x0
  obtain ⟨h1, _⟩ := x0.gl.fns i x ps hc
  exact PEi (pe_glob (v := .ref (He.ga B.G.K x)) (gl_of x0.sc hg) h1 rfl (nd1 hd)) fun σ H Q ⟨F, ρ, en, S, rp, g⟩ => g.val rp (.fn (x0.gl.nm i x ps hc))

/-! ### arguments, displays -/
variable {es : List PySem.Expr} {ml : M (List D)}
theorem star_cons {e : PySem.Expr} {es : List PySem.Expr} {env : PySem.Env} (h : notStar e = true) : starEach (e :: es) env = (false, eval e env) :: starEach es env := by
  cases e <;> first | rfl | cases h
def consM (ma : M D) (ml : M (List D)) : M (List D) := do
  let x ← ma
  let xs ← ml
  M.pure (x :: xs)
theorem sl_nil : Sl B T Γ k c [] (M.pure []) := fun X _ => PAi pa_nil fun σ H Q ⟨F, ρ, en, S, rp, g⟩ => g.val rp AtL.nil
theorem sl_cons (ha : Sa B T Γ k c e ma) (hl : Sl B T Γ k c es ml) (hs : notStar e = true) : Sl B T Γ k c (e :: es) (consM ma ml) := by
  intro X x0
  refine PAi (pa_cons (ha X x0) (hl X x0) (star_cons hs)) fun σ H Q ⟨F, ρ, en, S, rp, g⟩ => ?_
  refine ⟨F, ρ, en, S, rp, (Good.bind g).mono ?_⟩
  rintro v H1 ⟨F1, ρ1, e1, S1, d, m1, rp1, r1, g1⟩
  refine ⟨F1, ρ1, e1, S1, rp1, (Good.bind g1).mono ?_⟩
  rintro vs H2 ⟨F2, ρ2, e2, S2, ds, m2, rp2, r2, g2⟩
  exact g2.val rp2 (.cons (RA.later (Hb := H) rp1 m2 r1) r2)
theorem rf_new {F : Addr → Prop} {ρ : List Addr} {H : Hp} {σ : L2.St} {en : Env} {S : Sto} {p : Addr} {xs : List V} {ds : List D} (rp : Rep B.G B.N F ρ H σ en S) (hp : H p = none) (h : AtL B.G F ρ (upd H p (.lst xs)) xs ds) :
    RF B H F ρ (upd H p (.lst xs)) σ en (.ref p) (.lst ds) := by
  obtain ⟨h1, h2⟩ := rp.st.no hp
  refine ⟨p, xs, ds, rfl, rfl, upd_same, h, h1, h2, fun z => ?_, rp.ext.tr p (frh_none hp), frh_none hp⟩
  obtain ⟨_, _, ys, q⟩ := rp.ownAt z
  rw [hp] at q
  cases q
theorem small_of {n : Nat} (h : small n = true) : n ≤ sizeLine := of_decide_eq_true h
theorem sa_tup {x1} (hl : Sl B T Γ k c es ml) : Sa B T Γ k c (.Tuple es x1 pos) (do let ds ← ml; liftO (dtup ds)) := by
  intro X x0
  refine PEi (pe_tup (hl X x0)) fun σ H Q ⟨F, ρ, en, S, rp, g⟩ => ?_
  refine ⟨F, ρ, en, S, rp, (Good.bind g).mono ?_⟩
  rintro vs H1 ⟨F1, ρ1, e1, S1, ds, m1, rp1, r1, g1⟩
  obtain ⟨d, hd, g2⟩ := g1.lift
  unfold dtup at hd
  split at hd
  · rename_i hs
    cases hd
    have hz := small_of hs
    refine ⟨by rw [AtL.length r1]; exact hz, fun p hp => g2.new rp1 hp ?_⟩
    exact .tup (.inl ⟨.inr rfl, .inl upd_same⟩) (AtL.stays ((Ext.new hp).stays rp1.st) r1)
  · cases hd
theorem sf_lst (hl : Sl B T Γ k c es ml) : Sf B T Γ k c (.List es pos) (do let ds ← ml; liftO (dlst ds)) := by
  intro X x0
  refine PEi (pe_lst (hl X x0)) fun σ H Q ⟨F, ρ, en, S, rp, g⟩ => ?_
  refine ⟨F, ρ, en, S, rp, (Good.bind g).mono ?_⟩
  rintro vs H1 ⟨F1, ρ1, e1, S1, ds, m1, rp1, r1, g1⟩
  obtain ⟨d, hd, g2⟩ := g1.lift
  unfold dlst at hd
  split at hd
  · rename_i hs
    cases hd
    have hz := small_of hs
    refine ⟨by rw [AtL.length r1]; exact hz, fun p hp => g2.newL rp1 hp ?_⟩
    exact rf_new rp1 hp (AtL.stays ((Ext.newL hp).stays rp1.st) r1)
  · cases hd
end
end Eng

set_option maxHeartbeats 4000000
/-! THE ENGINE, part E: operators, comparisons, tests. -/
namespace Eng
open PySem PySem.Spec L2
section
variable {B : Bd} {T : Tab} {Γ : Gm} {k : Nat} {c : Ctx} {X : Cx} {e a b a3 : PySem.Expr} {ma mb mc m : M D} {pos : Pos} {f : D → D → M D} {r r' : R2}

theorem ite_some {α : Type} {p : Prop} [Decidable p] {x y : α} (h : (if p then some x else none) = some y) : p ∧ x = y := by
  by_cases q : p
  · rw [if_pos q] at h; exact ⟨q, Option.some.inj h⟩
  · rw [if_neg q] at h; cases h
/-- two operands, then r by the values -/
def HR (B : Bd) (R : Rel D V) (f : D → D → M D) (r : R2) : Prop := ∀ (σ : L2.St) F ρ H en S x y d1 d2 Q, Rep B.G B.N F ρ H σ en S → RB B H F ρ H σ en x d1 → RB B H F ρ H σ en y d2 → Good B σ R F ρ H en (f d1 d2 en S) Q → r x y H Q
theorem two_imp {R : Rel D V} [Anti R] (hr : HR B R f r) {σ : L2.St} {H : Hp} {Q : VK} (h : tR B R (do let x ← ma; let y ← mb; f x y) σ H Q) : tOp r (tR B (RB B) ma) (tR B (RB B) mb) σ H Q := by
  obtain ⟨F, ρ, en, S, rp, g⟩ := h
  refine ⟨F, ρ, en, S, rp, (Good.bind g).mono ?_⟩
  rintro v H1 ⟨F1, ρ1, e1, S1, d1, m1, rp1, r1, g1⟩
  refine ⟨F1, ρ1, e1, S1, rp1, (Good.bind g1).mono ?_⟩
  rintro u H2 ⟨F2, ρ2, e2, S2, d2, m2, rp2, r2, g2⟩
  exact hr σ F2 ρ2 H2 e2 S2 v u d1 d2 Q rp2 (RB.later (Hb := H2) rp1 m2 r1) r2 g2
theorem s_bin {op : Operator} {R : Rel D V} [Anti R] (ha : Sb B T Γ k c a ma) (hb : Sb B T Γ k c b mb) (ho : ∀ X, XOk B T Γ k c X → OpR X (binaryOp op) r) (hr : HR B R f r) :
    ∀ X, XOk B T Γ k c X → PE X (.BinOp a op b pos) (tR B R (do let x ← ma; let y ← mb; f x y)) := fun X x0 => PEi (pe_op (ho X x0) (ha X x0) (hb X x0)) fun σ H Q h => two_imp hr h
/-! ### + - * // % ** -/
def rCatL (K : PySem.W.Frag) : R2 := fun x y H Q => ∃ l b xs zs, x = .ref l ∧ y = .ref b ∧ LstX K H l xs ∧ LstX K H b zs ∧ xs.length + zs.length ≤ sizeLine ∧ ∀ p, H p = none → Q (.ref p) (upd H p (.lst (xs ++ zs)))
theorem op_catL : OpR X (binaryOp .Add) (rCatL X.K) := by
  intro pins s σ H x y v u Q I rx ry h
  obtain ⟨l, b, xs, zs, rfl, rfl, hH, hB, hz, q⟩ := h
  cases rx
  cases ry
  obtain ⟨z, its, n, r, hl, e⟩ := Inv.lstX I hH
  obtain ⟨z2, its2, n2, r2, hl2, e2⟩ := Inv.lstX I hB
  refine PySem.P.add_list e e2 ?_ (by rw [List.size_toArray, List.size_toArray]; omega)
  have ea : its.toArray ++ its2.toArray = (its ++ its2).toArray := by simp
  rw [ea]
  exact ⟨.ref _, _, I.lnew (t' := s.toks) (r.append r2) (by rw [List.length_append]; omega), rfl, q _ I.fresh⟩
def rRepL (K : PySem.W.Frag) : R2 := fun x y H Q => ∃ l k xs, x = .ref l ∧ y = .int k ∧ LstX K H l xs ∧ -(2 ^ 63) ≤ k ∧ k < 2 ^ 63 ∧ xs.length * k.toNat ≤ sizeLine ∧
  ∀ p, H p = none → Q (.ref p) (upd H p (.lst (List.replicate k.toNat xs).flatten))
/-- the rules of + -/
def rAdd' (K : PySem.W.Frag) : R2 := fun x y H Q => rI0 (fun i j => .int (i + j)) x y H Q ∨ rCatA K x y H Q ∨ rCatL K x y H Q ∨ (∃ i j, x = .str i ∧ y = .str j ∧ i.length + j.length ≤ sizeLine ∧ Q (.str (i ++ j)) H)
theorem op_add' : OpR X (binaryOp .Add) (rAdd' X.K) := OpRor op_add (OpRor op_catA (OpRor op_catL op_add_str))
theorem hr_add : HR B (RA B) (fun x y => liftO (dbin .add x y)) (rAdd' B.G.K) := by
  intro σ F ρ H en S x y d1 d2 Q rp hx hy g
  obtain ⟨d, hd, g⟩ := g.lift
  cases d1 with
  | int i =>
    cases d2 with
    | int j =>
      cases hd
      exact .inl ⟨i, j, hx.int, hy.int, g.val rp (.int _)⟩
    | _ => cases hd
  | str i =>
    cases d2 with
    | str j =>
      obtain ⟨hz, ez⟩ := ite_some hd
      subst ez
      exact .inr (.inr (.inr ⟨i, j, hx.str, hy.str, hz, g.val rp (.str _)⟩))
    | _ => cases hd
  | tup l =>
    cases d2 with
    | tup l2 =>
      obtain ⟨hz, ez⟩ := ite_some hd
      subst ez
      obtain ⟨a, xs, h1, h2, h3⟩ := hx.tup
      obtain ⟨b, ys, h4, h5, h6⟩ := hy.tup
      have e1 := h3.length
      have e2 := h6.length
      refine .inr (.inl ⟨a, b, xs, ys, h1, h4, h2.sq, h5.sq, by omega, fun z => ?_, fun _ z => ?_, fun _ _ p hp => ?_⟩)
      · subst z
        cases h3
        exact g.val rp (.tup h5 h6)
      · subst z
        cases h6
        rw [List.append_nil] at g
        exact g.val rp (.tup h2 h3)
      · exact g.new rp hp (.tup (.inl ⟨.inr rfl, .inl upd_same⟩) (AtL.stays ((Ext.new hp).stays rp.st) (h3.append h6)))
    | _ => cases hd
  | lst l =>
    cases d2 with
    | lst l2 =>
      obtain ⟨hz, ez⟩ := ite_some hd
      subst ez
      obtain ⟨a, xs, h1, h2, h3⟩ := hx.lst
      obtain ⟨b, ys, h4, h5, h6⟩ := hy.lst
      have e1 := h3.length
      have e2 := h6.length
      refine .inr (.inr (.inl ⟨a, b, xs, ys, h1, h4, h2, h5, by omega, fun p hp => ?_⟩))
      exact g.new rp hp (.lst (.inl ⟨.inr rfl, .inl upd_same⟩) (AtL.stays ((Ext.new hp).stays rp.st) (h3.append h6)))
    | _ => cases hd
  | _ => cases hd
theorem hr_sub : HR B (RA B) (fun x y => liftO (dbin .sub x y)) (rI0 fun i j => .int (i - j)) := by
  intro σ F ρ H en S x y d1 d2 Q rp hx hy g
  obtain ⟨d, hd, g⟩ := g.lift
  cases d1 with
  | int i =>
    cases d2 with
    | int j =>
      cases hd
      exact ⟨i, j, hx.int, hy.int, g.val rp (.int _)⟩
    | _ => cases hd
  | _ => cases hd
def CMulA (i j : Int) : Prop := CMul i j ∨ CMulW i j
theorem op_mulA : OpR X (binaryOp .Mult) (rI CMulA fun i j => .int (i * j)) := opI fun _ _ _ _ _ _ _ hc q => by
  rcases hc with hc | hc
  · exact PyProof.Rows.mul_int q hc.ok
  · exact PyProof.Rows.mul_int q hc.ok
theorem mulOk_of {i j : Int} (h : mulOk i j = true) : CMulA i j := by
  unfold mulOk at h
  simp only [Bool.or_eq_true, decide_eq_true_eq] at h
  rcases h with (h | h) | h
  · exact .inl (.inl (by omega))
  · exact .inl (.inr (by omega))
  · exact .inr h
/-- t * 1 -/
theorem mul_same (l : Addr) (its : Array Value) (n : Nat) (dd : Option Addr) (sl : Array (Option Value)) (u : Tok) :
    Meets (Builtin.«tuple.__mul__» ⟨[.ref l, .int 1 u], []⟩) (fun _ R s => s.heap.get? l = some { cls := .type "tuple", dict := dd, data := .seq its n, slots := sl } ∧ R (.ok (.ret (.ref l))) s) :=
  .of_wp fun P w A R s hh => by
    obtain ⟨hp, g, d, tk, os⟩ := s
    obtain ⟨hl, q⟩ := hh
    have f1 := AutoSeq1.idx_int
    wp_walk using wpAny_loadPart' hl
    exact ⟨_, rfl, q⟩
def rRep1 (K : PySem.W.Frag) : R2 := fun x y H Q => ∃ l xs, x = .ref l ∧ y = .int 1 ∧ SqT K H l xs ∧ Q (.ref l) H
theorem op_rep1 : OpR X (binaryOp .Mult) (rRep1 X.K) := by
  intro pn s σ H x y v u Q I rx ry h
  obtain ⟨l, xs, rfl, rfl, hT, q⟩ := h
  cases rx
  obtain ⟨t, rfl⟩ := ry
  obtain ⟨its, r, ⟨⟨cl, dd, dat, sl⟩, ho, hc, n, hd⟩, _⟩ := I.tuple hT
  simp only at hc hd
  subst hc hd
  have m1 := mul_same l its.toArray n dd sl t
  have m0 := int_rmul_tuple 1 t l its.toArray n dd sl
  have tl : s.TypeIs (.ref l) "tuple" := ⟨_, ho, rfl⟩
  have is : ∀ s' : Shared, s'.TypeIs (.int 1 t) "int" := fun s' => typeIs_int s' 1 t
  refine wpAny_binaryOp_repeat_ref (by decide) tl is noFill_tuple_mul
    F.fills_int_mul F.slot_int_rmul repeat_tuple
    F.slot_int_index.lookup ?_
  refine call_meets F.slot_int_rmul (is s)
    F.entry_int_rmul (F.args_int_rmul_2 _ _) m0 ⟨ho, rfl, tl, ?_⟩
  refine call_meets F.slot_tuple_mul tl
    F.entry_tuple_mul (F.args_tuple_mul_2 _ _) m1 ⟨ho, ?_⟩
  exact ⟨.ref l, H, I, rfl, q⟩
def rMul' (K : PySem.W.Frag) : R2 := fun x y H Q => rI CMulA (fun i j => .int (i * j)) x y H Q ∨ rRepT K x y H Q ∨ rRep1 K x y H Q
theorem op_mul' : OpR X (binaryOp .Mult) (rMul' X.K) := OpRor op_mulA (OpRor op_repT op_rep1)
theorem hr_mul : HR B (RA B) (fun x y => liftO (dbin .mul x y)) (rMul' B.G.K) := by
  intro σ F ρ H en S x y d1 d2 Q rp hx hy g
  obtain ⟨d, hd, g⟩ := g.lift
  cases d1 with
  | int i =>
    cases d2 with
    | int j =>
      obtain ⟨hz, ez⟩ := ite_some hd
      subst ez
      exact .inl ⟨i, j, hx.int, hy.int, mulOk_of hz, g.val rp (.int _)⟩
    | _ => cases hd
  | tup l =>
    cases d2 with
    | int j =>
      obtain ⟨hz, ez⟩ := ite_some hd
      subst ez
      obtain ⟨a, xs, h1, h2, h3⟩ := hx.tup
      rw [Bool.or_eq_true] at hz
      rcases hz with hz | hz
      rotate_left
      · have e := of_decide_eq_true hz
        subst e
        refine .inr (.inr ⟨a, xs, h1, hy.int, h2.sq, ?_⟩)
        have e2 : (List.replicate (1 : Int).toNat l).flatten = l := by show (List.replicate 1 l).flatten = l; simp
        rw [e2] at g
        rw [h1] at *
        exact g.val rp (.tup h2 h3)
      unfold repOk at hz
      have hz' := of_decide_eq_true hz
      have e1 := h3.length
      refine .inr <| .inl ⟨a, j, xs, h1, hy.int, h2.sq, fun z => ?_, hz'.2.2.1, hz'.2.2.2, by omega, fun p hp => ?_⟩
      · subst z; exact hz'.1 e1.symm
      · exact g.new rp hp (.tup (.inl ⟨.inr rfl, .inl upd_same⟩) (AtL.stays ((Ext.new hp).stays rp.st) (h3.rep _)))
    | _ => cases hd
  | _ => cases hd
def CDivA (i j : Int) : Prop := CDivN i j ∨ CDivW i j
theorem op_fdivA : OpR X (binaryOp .FloorDiv) (rI CDivA fun i j => .int (i.fdiv j)) := by
  intro pins s σ H x y v u Q I rx ry h
  obtain ⟨i, j, rfl, rfl, hc, q⟩ := h
  rcases hc with hc | hc
  · exact op_fdivN pins s σ H _ _ v u Q I rx ry ⟨i, j, rfl, rfl, hc, q⟩
  · refine op_fdivW pins s σ H _ _ v u Q I rx ry ⟨i, j, rfl, rfl, hc, ?_⟩
    have h0 : 0 ≤ j := Int.le_of_lt hc.1
    show Q (.int (i / j)) H
    rw [← Int.fdiv_eq_ediv_of_nonneg i h0]
    exact q
theorem divOk_of {i j : Int} (h : divOk j = true) : CDivA i j := by
  unfold divOk at h
  simp only [Bool.or_eq_true, decide_eq_true_eq] at h
  rcases h with h | h
  · exact .inl h
  · exact .inr h
theorem hr_fdiv : HR B (RA B) (fun x y => liftO (dbin .fdiv x y)) (rI CDivA fun i j => .int (i.fdiv j)) := by
  intro σ F ρ H en S x y d1 d2 Q rp hx hy g
  obtain ⟨d, hd, g⟩ := g.lift
  cases d1 with
  | int i =>
    cases d2 with
    | int j =>
      obtain ⟨hz, ez⟩ := ite_some hd
      subst ez
      exact ⟨i, j, hx.int, hy.int, divOk_of hz, g.val rp (.int _)⟩
    | _ => cases hd
  | _ => cases hd
theorem hr_mod : HR B (RA B) (fun x y => liftO (dbin .mod x y)) (rI (fun _ j => j ≠ 0) fun i j => .int (i.fmod j)) := by
  intro σ F ρ H en S x y d1 d2 Q rp hx hy g
  obtain ⟨d, hd, g⟩ := g.lift
  cases d1 with
  | int i =>
    cases d2 with
    | int j =>
      obtain ⟨hz, ez⟩ := ite_some hd
      subst ez
      exact ⟨i, j, hx.int, hy.int, hz, g.val rp (.int _)⟩
    | _ => cases hd
  | _ => cases hd
theorem hr_pow : HR B (RA B) (fun x y => liftO (dbin .pow x y)) (rI CPow fun i j => .int (i ^ j.toNat)) := by
  intro σ F ρ H en S x y d1 d2 Q rp hx hy g
  obtain ⟨d, hd, g⟩ := g.lift
  cases d1 with
  | int i =>
    cases d2 with
    | int j =>
      obtain ⟨hz, ez⟩ := ite_some hd
      subst ez
      unfold powOk at hz
      simp only [Bool.and_eq_true, decide_eq_true_eq] at hz
      exact ⟨i, j, hx.int, hy.int, ⟨hz.1.1, hz.1.2, hz.2⟩, g.val rp (.int _)⟩
    | _ => cases hd
  | _ => cases hd
theorem sa_bin {op : Operator} {o : Bop} (ho : bopOf op = some o) (ha : Sb B T Γ k c a ma) (hb : Sb B T Γ k c b mb) : Sa B T Γ k c (.BinOp a op b pos) (do let x ← ma; let y ← mb; liftO (dbin o x y)) := by
  cases op <;> cases ho
  · exact s_bin ha hb (fun X x0 => by rw [← x0.K]; exact op_add') hr_add
  · exact s_bin ha hb (fun _ _ => op_sub) hr_sub
  · exact s_bin ha hb (fun X x0 => by rw [← x0.K]; exact op_mul') hr_mul
  · exact s_bin ha hb (fun _ _ => op_modN) hr_mod
  · exact s_bin ha hb (fun _ _ => op_pow) hr_pow
  · exact s_bin ha hb (fun _ _ => op_fdivA) hr_fdiv
end
end Eng

set_option maxHeartbeats 4000000
/-! THE ENGINE, part F: comparisons, tests, and, or, not, items, slices. -/
namespace Eng
open PySem PySem.Spec L2
section
variable {B : Bd} {T : Tab} {Γ : Gm} {k : Nat} {c : Ctx} {X : Cx} {e a b a3 : PySem.Expr} {ma mb mc m : M D} {pos : Pos} {r r' : R2}

/-! ### comparisons -/
theorem Good.cmp {o : Cop} {d1 d2 : D} {σ : L2.St} {F ρ H en S} {Q : VK} (g : Good B σ (RA B) F ρ H en (cmpM o d1 d2 en S) Q) (rp : Rep B.G B.N F ρ H σ en S) : ∃ t, dcmp o d1 d2 = some t ∧ Q (.bl t) H := by
  unfold cmpM at g
  cases ht : dcmp o d1 d2 with
  | none => rw [ht] at g; exact False.elim g
  | some t =>
    rw [ht] at g
    exact ⟨t, rfl, Good.val (a := D.bl t) (R := RA B) g rp (.bl t)⟩
def rOrd (o : Cop) : R2 := fun x y H Q => ∃ t d1 d2, dcmp o d1 d2 = some t ∧ ((∃ i j, d1 = .int i ∧ d2 = .int j ∧ x = .int i ∧ y = .int j) ∨ ∃ i j, d1 = .str i ∧ d2 = .str j ∧ x = .str i ∧ y = .str j) ∧ Q (.bl t) H
theorem op_ord {op : CmpOp} {o : Cop} (h : (op = .Lt ∧ o = .lt) ∨ (op = .LtE ∧ o = .le) ∨ (op = .Gt ∧ o = .gt) ∨ (op = .GtE ∧ o = .ge)) : OpR X (compareOp op) (rOrd o) := by
  intro pins s σ H x y v u Q I rx ry hh
  obtain ⟨t, d1, d2, hd, hc, q⟩ := hh
  rcases h with ⟨rfl, rfl⟩ | ⟨rfl, rfl⟩ | ⟨rfl, rfl⟩ | ⟨rfl, rfl⟩
  · rcases hc with ⟨i, j, rfl, rfl, rfl, rfl⟩ | ⟨i, j, rfl, rfl, rfl, rfl⟩
    · cases hd; exact op_lt pins s σ H _ _ v u Q I rx ry ⟨i, j, rfl, rfl, q⟩
    · cases hd; exact op_lt_str pins s σ H _ _ v u Q I rx ry ⟨i, j, rfl, rfl, q⟩
  · rcases hc with ⟨i, j, rfl, rfl, rfl, rfl⟩ | ⟨i, j, rfl, rfl, rfl, rfl⟩
    · cases hd; exact op_le pins s σ H _ _ v u Q I rx ry ⟨i, j, rfl, rfl, q⟩
    · cases hd; exact op_le_str pins s σ H _ _ v u Q I rx ry ⟨i, j, rfl, rfl, q⟩
  · rcases hc with ⟨i, j, rfl, rfl, rfl, rfl⟩ | ⟨i, j, rfl, rfl, rfl, rfl⟩
    · cases hd; exact op_gt pins s σ H _ _ v u Q I rx ry ⟨i, j, rfl, rfl, q⟩
    · cases hd
  · rcases hc with ⟨i, j, rfl, rfl, rfl, rfl⟩ | ⟨i, j, rfl, rfl, rfl, rfl⟩
    · cases hd; exact op_ge pins s σ H _ _ v u Q I rx ry ⟨i, j, rfl, rfl, q⟩
    · cases hd
theorem hr_ord {o : Cop} (h : o = .lt ∨ o = .le ∨ o = .gt ∨ o = .ge) : HR B (RA B) (cmpM o) (rOrd o) := by
  intro σ F ρ H en S x y d1 d2 Q rp hx hy g
  obtain ⟨t, ht, q⟩ := Good.cmp g rp
  refine ⟨t, d1, d2, ht, ?_, q⟩
  rcases h with h | h | h | h <;> subst h <;> cases d1 <;> cases d2 <;> first
    | exact .inl ⟨_, _, rfl, rfl, hx.int, hy.int⟩
    | exact .inr ⟨_, _, rfl, rfl, hx.str, hy.str⟩
    | (cases ht; done)
theorem hr_eq : HR B (RA B) (cmpM .eq) (rEqD B.G.K) := by
  intro σ F ρ H en S x y d1 d2 Q rp hx hy g
  obtain ⟨t, ht, q⟩ := Good.cmp g rp
  obtain ⟨p, q', h1, h2, h3⟩ := deq_of ht
  obtain ⟨a1, a2⟩ := hx.dp h1
  obtain ⟨b1, b2⟩ := hy.dp h2
  exact ⟨p, q', a1, b1, a2, b2, by rw [h3]; exact q⟩
theorem hr_ne : HR B (RA B) (cmpM .ne) (rNeD B.G.K) := by
  intro σ F ρ H en S x y d1 d2 Q rp hx hy g
  obtain ⟨t, ht, q⟩ := Good.cmp g rp
  obtain ⟨t', ht', e⟩ := Option.map_eq_some_iff.mp (show (deq d1 d2).map (!·) = some t from ht)
  obtain ⟨p, q', h1, h2, h3⟩ := deq_of ht'
  obtain ⟨a1, a2⟩ := hx.dp h1
  obtain ⟨b1, b2⟩ := hy.dp h2
  exact ⟨p, q', a1, b1, a2, b2, by rw [h3, e]; exact q⟩
/-- x in a list, a tuple -/
def rInX (K : PySem.W.Frag) (neg : Bool) : R2 := fun x y H Q => ∃ d ds, Dp K H x d ∧ (Dp K H y (.list ds) ∨ Dp K H y (.tuple ds)) ∧ SeqAt.shaped d = true ∧ SeqAt.shaped (.list ds) = true ∧ Q (.bl (xor neg (ds.any fun z => PyData.eqv z d))) H
theorem shaped_tup {ds : List PyData} (h : SeqAt.shaped (.list ds) = true) : SeqAt.shaped (.tuple ds) = true := by
  unfold SeqAt.shaped at h ⊢
  simpa [PyData.canLay0, PyData.depth] using h
theorem op_inX (hu : X.A.units + 65 < cLine) : OpR X (compareOp .In) (rInX X.K false) := by
  intro pins s σ H x y v u Q I rx ry h
  obtain ⟨d, ds, hd, he, sd, se, q⟩ := h
  rw [Bool.false_xor] at q
  rcases he with he | he
  · exact op_inD hu pins s σ H x y v u Q I rx ry ⟨d, ds, hd, he, sd, se, q⟩
  · obtain ⟨as, r1⟩ := Dp.reads I d x v hd rx
    obtain ⟨bs, r2⟩ := Dp.reads I (.tuple ds) y u he ry
    exact SeqAt.in_tuple_reads r2 r1 (SeqAt.canLay_of_shaped (shaped_tup se)) (SeqAt.canLay_of_shaped sd) (PyProof.Rows.room_in_shaped sd hu) ⟨.bl _, H, I, rfl, q⟩
theorem op_notInX (hu : X.A.units + 65 < cLine) : OpR X (compareOp .NotIn) (rInX X.K true) := by
  intro pins s σ H x y v u Q I rx ry h
  obtain ⟨d, ds, hd, he, sd, se, q⟩ := h
  rw [Bool.true_xor] at q
  rcases he with he | he
  · exact op_notInD hu pins s σ H x y v u Q I rx ry ⟨d, ds, hd, he, sd, se, q⟩
  · obtain ⟨as, r1⟩ := Dp.reads I d x v hd rx
    obtain ⟨bs, r2⟩ := Dp.reads I (.tuple ds) y u he ry
    exact SeqAt.notIn_tuple_reads r2 r1 (SeqAt.canLay_of_shaped (shaped_tup se)) (SeqAt.canLay_of_shaped sd) (PyProof.Rows.room_in_shaped sd hu) ⟨.bl _, H, I, rfl, q⟩

theorem dIn_of {x : D} {ys : List D} {t : Bool} (h : dIn x ys = some t) : ∃ p qs, x.shapedO = some p ∧ (D.lst ys).shapedO = some (.list qs) ∧ t = qs.any fun z => PyData.eqv z p := by
  unfold dIn at h
  split at h
  · rename_i p qs h1 h2
    cases h
    exact ⟨p, qs, h1, h2, rfl⟩
  · cases h
theorem lst_shaped {ys : List D} {qs : List PyData} (h : (D.lst ys).shapedO = some (.list qs)) : D.pyL ys = some qs ∧ SeqAt.shaped (.list qs) = true := by
  unfold D.shapedO at h
  split at h
  · rename_i q hq
    split at h
    · rename_i hs
      cases h
      unfold D.py at hq
      obtain ⟨q', hq', e⟩ := Option.map_eq_some_iff.mp hq
      cases e
      exact ⟨hq', hs⟩
    · cases h
  · cases h
theorem hr_inn (neg : Bool) (o : Cop) (ho : (neg = false ∧ o = .inn) ∨ (neg = true ∧ o = .notin)) : HR B (RA B) (cmpM o) (rInX B.G.K neg) := by
  intro σ F ρ H en S x y d1 d2 Q rp hx hy g
  obtain ⟨t, ht, q⟩ := Good.cmp g rp
  have key : ∃ ys t', d2.items = some ys ∧ dIn d1 ys = some t' ∧ t = xor neg t' := by
    rcases ho with ⟨h1, h2⟩ | ⟨h1, h2⟩
    · subst h1 h2
      cases hi : d2.items with
      | none =>
        have : (match d2.items with | some ys => dIn d1 ys | none => none) = some t := ht
        rw [hi] at this; cases this
      | some ys =>
        have : (match d2.items with | some ys => dIn d1 ys | none => none) = some t := ht
        rw [hi] at this
        exact ⟨ys, t, rfl, this, by rw [Bool.false_xor]⟩
    · subst h1 h2
      cases hi : d2.items with
      | none =>
        have : (match d2.items with | some ys => (dIn d1 ys).map (!·) | none => none) = some t := ht
        rw [hi] at this; cases this
      | some ys =>
        have : (match d2.items with | some ys => (dIn d1 ys).map (!·) | none => none) = some t := ht
        rw [hi] at this
        obtain ⟨t', h3, h4⟩ := Option.map_eq_some_iff.mp this
        exact ⟨ys, t', rfl, h3, by rw [Bool.true_xor, h4]⟩
  obtain ⟨ys, t', h1, h2, h3⟩ := key
  obtain ⟨p, qs, h4, h5, h6⟩ := dIn_of h2
  obtain ⟨h7, h8⟩ := lst_shaped h5
  obtain ⟨a1, a2⟩ := hx.dp h4
  obtain ⟨ad, xs, h9, h10, h11⟩ := hy.items h1
  subst h9
  refine ⟨p, qs, a1, ?_, a2, h8, by rw [← h6, ← h3]; exact q⟩
  rcases h10 with h10 | h10
  · exact .inl (.lst h10 (dpL_of h11 h7))
  · exact .inr (.tup h10 (dpL_of h11 h7))
def rIsNx (neg : Bool) : R2 := fun x y H Q => y = .non ∧ Q (.bl (xor neg (decide (x = .non)))) H
def rIsBx (neg : Bool) : R2 := fun x y H Q => ∃ a b : Bool, x = .bl a ∧ y = .bl b ∧ Q (.bl (xor neg (decide (a = b)))) H
theorem dis_of {a b : D} {t : Bool} (h : dis a b = some t) : (b = .non ∧ t = a.isNon) ∨ ∃ x y, a = .bl x ∧ b = .bl y ∧ t = decide (x = y) := by
  unfold dis at h
  split at h
  · cases h; exact .inl ⟨rfl, rfl⟩
  · split at h
    · rename_i x
      cases h
      exact .inr ⟨_, _, rfl, rfl, by rename_i y; cases x <;> cases y <;> rfl⟩
    · cases h
  · cases h
theorem hr_isN (neg : Bool) (o : Cop) (ho : (neg = false ∧ o = .isN) ∨ (neg = true ∧ o = .isNotN)) : HR B (RA B) (cmpM o) (fun x y H Q => rIsNx neg x y H Q ∨ rIsBx neg x y H Q) := by
  intro σ F ρ H en S x y d1 d2 Q rp hx hy g
  obtain ⟨t, ht, q⟩ := Good.cmp g rp
  obtain ⟨t', h1, h2⟩ : ∃ t', dis d1 d2 = some t' ∧ t = xor neg t' := by
    rcases ho with ⟨h1, h2⟩ | ⟨h1, h2⟩ <;> subst h1 h2
    · exact ⟨t, ht, by rw [Bool.false_xor]⟩
    · obtain ⟨t', h3, h4⟩ := Option.map_eq_some_iff.mp (show (dis d1 d2).map (!·) = some t from ht)
      exact ⟨t', h3, by rw [Bool.true_xor, h4]⟩
  rcases dis_of h1 with ⟨e1, e2⟩ | ⟨u, v, e1, e2, e3⟩
  · subst e1 e2
    refine .inl ⟨?_, by rw [hx.nonIff, ← h2]; exact q⟩
    rcases hy with hy | ⟨_, _, _, _, z, _⟩
    · cases hy; rfl
    · cases z
  · subst e1 e2 e3
    exact .inr ⟨u, v, hx.bl, hy.bl, by rw [← h2]; exact q⟩
theorem op_isNx : OpR X (compareOp .Is) (rIsNx false) := OpRi op_isN fun x y H Q h => ⟨h.1, by have := h.2; rwa [Bool.false_xor] at this⟩
theorem op_isNotNx : OpR X (compareOp .IsNot) (rIsNx true) := OpRi op_notN fun x y H Q h => ⟨h.1, by have := h.2; rwa [Bool.true_xor] at this⟩
theorem cmp_rule {op : CmpOp} {o : Cop} (ho : copOf op = some o) : ∃ r, (∀ X, XOk B T Γ k c X → OpR X (compareOp op) r) ∧ HR B (RA B) (cmpM o) r := by
  cases op <;> cases ho
  · exact ⟨_, fun X x0 => by rw [← x0.K]; exact op_eqD (by have := x0.hu; omega), hr_eq⟩
  · exact ⟨_, fun X x0 => by rw [← x0.K]; exact op_neD (by have := x0.hu; omega), hr_ne⟩
  · exact ⟨_, fun X x0 => op_ord (.inl ⟨rfl, rfl⟩), hr_ord (.inl rfl)⟩
  · exact ⟨_, fun X x0 => op_ord (.inr (.inl ⟨rfl, rfl⟩)), hr_ord (.inr (.inl rfl))⟩
  · exact ⟨_, fun X x0 => op_ord (.inr (.inr (.inl ⟨rfl, rfl⟩))), hr_ord (.inr (.inr (.inl rfl)))⟩
  · exact ⟨_, fun X x0 => op_ord (.inr (.inr (.inr ⟨rfl, rfl⟩))), hr_ord (.inr (.inr (.inr rfl)))⟩
  · exact ⟨_, fun X x0 => OpRor op_isNx (OpRi op_isBl fun x y H Q ⟨a, b, h1, h2, h⟩ => ⟨a, b, h1, h2, by rwa [Bool.false_xor] at h⟩), hr_isN false _ (.inl ⟨rfl, rfl⟩)⟩
  · exact ⟨_, fun X x0 => OpRor op_isNotNx (OpRi op_notBl fun x y H Q ⟨a, b, h1, h2, h⟩ => ⟨a, b, h1, h2, by rwa [Bool.true_xor] at h⟩), hr_isN true _ (.inr ⟨rfl, rfl⟩)⟩
  · exact ⟨_, fun X x0 => by rw [← x0.K]; exact op_inX (by have := x0.hu; omega), hr_inn false _ (.inl ⟨rfl, rfl⟩)⟩
  · exact ⟨_, fun X x0 => by rw [← x0.K]; exact op_notInX (by have := x0.hu; omega), hr_inn true _ (.inr ⟨rfl, rfl⟩)⟩
/-- a test by a value -/
theorem test_imp {m : M D} {σ : L2.St} {H : Hp} {Q : Bool → Hp → Prop} (h : tR B Req (do let x ← m; boolM x) σ H Q) : tR B (RA B) m σ H (fun x H' => ∃ t, x = .bl t ∧ Q t H') := by
  obtain ⟨F, ρ, en, S, rp, g⟩ := h
  refine ⟨F, ρ, en, S, rp, (Good.bind g).mono ?_⟩
  rintro v H1 ⟨F1, ρ1, e1, S1, d1, m1, rp1, r1, g1⟩
  obtain ⟨t, ht, g2⟩ := Good.lift (o := asBool d1) g1
  cases d1 <;> first
    | (cases ht; done)
    | (cases ht; cases (show At _ _ _ _ _ _ from r1); exact ⟨t, rfl, g2.val rp1 rfl⟩)
theorem s_cmp {op : CmpOp} {o : Cop} (ho : copOf op = some o) (hm : behindInMarks op b = false) (ha : Sb B T Γ k c a ma) (hb : Sb B T Γ k c b mb) :
    Sa B T Γ k c (.Compare a [op] [b] pos) (do let x ← ma; let y ← mb; cmpM o x y) ∧ St B T Γ k c (.Compare a [op] [b] pos) (do let x ← (do let x ← ma; let y ← mb; cmpM o x y); boolM x) := by
  obtain ⟨r, h1, h2⟩ := cmp_rule (B := B) (T := T) (Γ := Γ) (k := k) (c := c) ho
  exact ⟨fun X x0 => PEi (pe_cmpR (h1 X x0) (ha X x0) (hb X x0) hm) fun σ H Q h => two_imp h2 h, fun X x0 => PTi (pt_cmpR (h1 X x0) (ha X x0) (hb X x0) hm) fun σ H Q h => two_imp h2 (test_imp h)⟩
theorem chainM_none {o p : Cop} {x y : D} (h : dcmp o x y = none) : chainM o p mc x y = mfail := by
  unfold chainM
  rw [h]
  rfl
theorem chainM_some {o p : Cop} {x y : D} {t : Bool} (h : dcmp o x y = some t) : chainM o p mc x y = chain2 p mc y t := by
  unfold chainM
  rw [h]
  rfl
/-- a op b op c -/
theorem chain_imp {o p : Cop} (h1 : HR B (RA B) (cmpM o) r) (h2 : HR B (RA B) (cmpM p) r') {σ : L2.St} {H : Hp} {Q : VK} (h : tR B (RA B) (do let x ← ma; let y ← mb; chainM o p mc x y) σ H Q) :
    tChain r r' (tR B (RB B) ma) (tR B (RB B) mb) (tR B (RB B) mc) σ H Q := by
  obtain ⟨F, ρ, en, S, rp, g⟩ := h
  refine ⟨F, ρ, en, S, rp, (Good.bind g).mono ?_⟩
  rintro v H1 ⟨F1, ρ1, e1, S1, d1, m1, rp1, r1, g1⟩
  refine ⟨F1, ρ1, e1, S1, rp1, (Good.bind g1).mono ?_⟩
  rintro u H2 ⟨F2, ρ2, e2, S2, d2, m2, rp2, r2, g2⟩
  have r1' := RB.later (Hb := H2) rp1 m2 r1
  have g2' : Good B σ (RA B) F2 ρ2 H2 e2 (chainM o p mc d1 d2 e2 S2) Q := g2
  cases ht : dcmp o d1 d2 with
  | none =>
    rw [chainM_none ht] at g2'
    exact False.elim g2'
  | some t =>
    rw [chainM_some ht] at g2'
    have g3 := g2'
    refine h1 σ F2 ρ2 H2 e2 S2 v u d1 d2 _ rp2 r1' r2 ?_
    have e0 : cmpM o d1 d2 e2 S2 = Res.ok (.bl t) e2 S2 := by unfold cmpM; rw [ht]; rfl
    rw [e0]
    intro F3 ρ3 H3 z m3 rp3 rz
    cases (show At _ _ _ _ z (.bl t) from rz)
    refine ⟨t, rfl, ?_⟩
    have g4 := g3.later m3
    cases t with
    | false => exact Good.val (R := RA B) g4 rp3 (.bl false)
    | true =>
      rw [if_pos rfl]
      refine ⟨F3, ρ3, e2, S2, rp3, (Good.bind g4).mono ?_⟩
      rintro w' H4 ⟨F4, ρ4, e4, S4, d4, m4, rp4, r4, g5⟩
      exact h2 σ F4 ρ4 H4 e4 S4 u w' d2 d4 Q rp4 (RB.later (Hb := H4) rp3 m4 (RB.later (Hb := H4) rp2 m3 r2)) r4 g5
theorem s_chn {op op' : CmpOp} {o p : Cop} (ho : copOf op = some o) (hp : copOf op' = some p) (hm : lastMarks [op, op'] [b, a3] = false) (ha : Sb B T Γ k c a ma) (hb : Sb B T Γ k c b mb) (hc : Sb B T Γ k c a3 mc) :
    Sa B T Γ k c (.Compare a [op, op'] [b, a3] pos) (do let x ← ma; let y ← mb; chainM o p mc x y) ∧ St B T Γ k c (.Compare a [op, op'] [b, a3] pos) (do let x ← (do let x ← ma; let y ← mb; chainM o p mc x y); boolM x) := by
  obtain ⟨r, h1, h2⟩ := cmp_rule (B := B) (T := T) (Γ := Γ) (k := k) (c := c) ho
  obtain ⟨r', h3, h4⟩ := cmp_rule (B := B) (T := T) (Γ := Γ) (k := k) (c := c) hp
  exact ⟨fun X x0 => PEi (pe_chain (h1 X x0) (h3 X x0) (ha X x0) (hb X x0) (hc X x0) hm) fun σ H Q h => chain_imp h2 h4 h, fun X x0 => PTi (pt_chain (h1 X x0) (h3 X x0) (ha X x0) (hb X x0) (hc X x0) hm) fun σ H Q h => chain_imp h2 h4 (test_imp h)⟩
/-- a plain value as a test -/
def plainT : PySem.Expr → Bool
  | .UnaryOp .Not _ _ => false
  | .BoolOp _ _ _ => false
  | .IfExp _ _ _ _ => false
  | .Compare _ _ _ _ => false
  | _ => true
theorem st_val (hp : plainT e = true) (h : Sa B T Γ k c e m) : St B T Γ k c e (do let x ← m; boolM x) := fun X x0 =>
  PTi (pt_val (h X x0) (fun whole => by
    cases e with
    | UnaryOp op _ _ => cases op <;> first | rfl | cases hp
    | BoolOp _ _ _ => cases hp
    | IfExp _ _ _ _ => cases hp
    | Compare _ _ _ _ => cases hp
    | _ => rfl)) fun σ H Q q => test_imp q
theorem s_not (ha : Sa B T Γ k c a ma) (ht : St B T Γ k c a (do let x ← ma; boolM x)) :
    Sa B T Γ k c (.UnaryOp .Not a pos) (do let x ← ma; notM x) ∧ St B T Γ k c (.UnaryOp .Not a pos) (do let x ← (do let x ← ma; notM x); boolM x) := by
  refine ⟨fun X x0 => PEi (pe_not (ha X x0)) fun σ H Q ⟨F, ρ, en, S, rp, g⟩ => ?_, fun X x0 => PTi (pt_not (ht X x0)) fun σ H Q ⟨F, ρ, en, S, rp, g⟩ => ?_⟩
  · refine ⟨F, ρ, en, S, rp, (Good.bind g).mono ?_⟩
    rintro v H1 ⟨F1, ρ1, e1, S1, d1, m1, rp1, r1, g1⟩
    unfold notM at g1
    cases d1 <;> first
      | exact False.elim g1
      | (cases (show At _ _ _ _ _ _ from r1); exact ⟨_, rfl, Good.val (R := RA B) g1 rp1 (.bl _)⟩)
  · refine ⟨F, ρ, en, S, rp, ?_⟩
    have e0 : ∀ en S, (do let x ← (do let x ← ma; notM x); boolM x : M Bool) en S = (do let t ← (do let x ← ma; boolM x); M.pure (!t) : M Bool) en S := fun en S => by
      show M.bind (M.bind ma notM) boolM en S = M.bind (M.bind ma boolM) (fun t => M.pure (!t)) en S
      unfold M.bind
      cases ma en S with
      | ok a e' S' => cases a <;> rfl
      | exc x e' S' => rfl
      | fail => rfl
    rw [e0] at g
    refine (Good.bind (R := Req) g).mono ?_
    rintro t H1 ⟨F1, ρ1, e1, S1, t1, m1, rp1, r1, g1⟩
    cases (show t = t1 from r1)
    exact g1.val rp1 rfl
theorem sa_neg (ha : Sa B T Γ k c a ma) : Sa B T Γ k c (.UnaryOp .USub a pos) (do let x ← ma; negM x) := by
  refine fun X x0 => PEi (pe_un un_neg (ha X x0)) fun σ H Q ⟨F, ρ, en, S, rp, g⟩ => ?_
  refine ⟨F, ρ, en, S, rp, (Good.bind g).mono ?_⟩
  rintro v H1 ⟨F1, ρ1, e1, S1, d1, m1, rp1, r1, g1⟩
  unfold negM at g1
  cases d1 <;> first
    | exact False.elim g1
    | (cases (show At _ _ _ _ _ _ from r1); exact ⟨_, rfl, Good.val (R := RA B) g1 rp1 (.int _)⟩)
end
end Eng

set_option maxHeartbeats 4000000
/-! THE ENGINE, part G: and, or, if-else, items, slices, calls. -/
namespace Eng
open PySem PySem.Spec L2
section
variable {B : Bd} {T : Tab} {Γ : Gm} {k : Nat} {c : Ctx} {X : Cx} {e a b a3 : PySem.Expr} {ma mb mc m : M D} {pos : Pos} {r r' : R2} {rest : List PySem.Expr}

/-! ### and, or -/
theorem andM_tt {σ : L2.St} {F ρ H en S} {Q : VK} {t : Bool} (g : Good B σ (RA B) F ρ H en ((match (D.bl t) with | .bl true => mb | .bl false => M.pure (.bl false) | _ => mfail : M D) en S) Q) :
    (t = true → Good B σ (RA B) F ρ H en (mb en S) Q) ∧ (t = false → Good B σ (RA B) F ρ H en (M.pure (D.bl false) en S) Q) := by
  cases t with
  | true => exact ⟨fun _ => g, fun z => nomatch z⟩
  | false => exact ⟨(fun z => nomatch z), fun _ => g⟩
theorem sa_and1 (ha : Sa B T Γ k c a ma) {op} : Sa B T Γ k c (.BoolOp op [a] pos) ma := fun X x0 => PEi (pe_one (ha X x0)) fun _ _ _ h => h
def PWs (B : Bd) (T : Tab) (Γ : Gm) (k : Nat) (c : Ctx) (e : PySem.Expr) (m : M Bool) : Prop := ∀ X, XOk B T Γ k c X → PW X e (tR B Req m)
theorem PWi {X : Cx} {e : PySem.Expr} {t t' : TT} (h : PW X e t) (i : ∀ σ H Q, t' σ H Q → t σ H Q) : PW X e t' := ⟨fun w p s σ H Q I q => h.run w p s σ H Q I (i σ H Q q)⟩
theorem pw_and1' (ht : St B T Γ k c a (do let x ← ma; boolM x)) : PWs B T Γ k c (.BoolOp .And [a] pos) (do let x ← ma; boolM x) := fun X x0 => pw_and1 (ht X x0)
theorem pw_or1' (ht : St B T Γ k c a (do let x ← ma; boolM x)) : PWs B T Γ k c (.BoolOp .Or [a] pos) (do let x ← ma; boolM x) := fun X x0 => pw_or1 (ht X x0)
theorem sa_and (ha : Sa B T Γ k c a ma) (hb : Sa B T Γ k c (.BoolOp .And (b :: rest) pos) mb) : Sa B T Γ k c (.BoolOp .And (a :: b :: rest) pos) (andM ma mb) := by
  refine fun X x0 => PEi (pe_and (ha X x0) (hb X x0)) fun σ H Q ⟨F, ρ, en, S, rp, g⟩ => ?_
  refine ⟨F, ρ, en, S, rp, (Good.bind (m := ma) g).mono ?_⟩
  rintro v H1 ⟨F1, ρ1, e1, S1, d1, m1, rp1, r1, g1⟩
  cases d1 with
  | bl t =>
    cases (show At _ _ _ _ _ _ from r1)
    refine ⟨t, rfl, ?_⟩
    cases t with
    | true => exact ⟨F1, ρ1, e1, S1, rp1, g1⟩
    | false => exact Good.val (R := RA B) (a := D.bl false) g1 rp1 (.bl false)
  | _ => exact False.elim g1
theorem sa_or (ha : Sa B T Γ k c a ma) (hb : Sa B T Γ k c (.BoolOp .Or (b :: rest) pos) mb) : Sa B T Γ k c (.BoolOp .Or (a :: b :: rest) pos) (orM ma mb) := by
  refine fun X x0 => PEi (pe_or (ha X x0) (hb X x0)) fun σ H Q ⟨F, ρ, en, S, rp, g⟩ => ?_
  refine ⟨F, ρ, en, S, rp, (Good.bind (m := ma) g).mono ?_⟩
  rintro v H1 ⟨F1, ρ1, e1, S1, d1, m1, rp1, r1, g1⟩
  cases d1 with
  | bl t =>
    cases (show At _ _ _ _ _ _ from r1)
    refine ⟨t, rfl, ?_⟩
    cases t with
    | true => exact Good.val (R := RA B) (a := D.bl true) g1 rp1 (.bl true)
    | false => exact ⟨F1, ρ1, e1, S1, rp1, g1⟩
  | _ => exact False.elim g1
theorem pw_and' (ht : St B T Γ k c a (do let x ← ma; boolM x)) (hb : PWs B T Γ k c (.BoolOp .And (b :: rest) pos) (do let x ← mb; boolM x)) : PWs B T Γ k c (.BoolOp .And (a :: b :: rest) pos) (do let x ← andM ma mb; boolM x) := by
  refine fun X x0 => PWi (pw_and (ht X x0) (hb X x0)) fun σ H Q ⟨F, ρ, en, S, rp, g⟩ => ?_
  have e0 : (do let x ← andM ma mb; boolM x : M Bool) en S = (do let t ← (do let x ← ma; boolM x); (match t with | true => (do let x ← mb; boolM x) | false => M.pure false) : M Bool) en S := by
    show M.bind (M.bind ma _) boolM en S = M.bind (M.bind ma boolM) _ en S
    unfold M.bind
    cases ma en S with
    | ok x e' S' => cases x with
      | bl t => cases t <;> rfl
      | _ => rfl
    | exc x e' S' => rfl
    | fail => rfl
  rw [e0] at g
  refine ⟨F, ρ, en, S, rp, (Good.bind (R := Req) g).mono ?_⟩
  rintro t H1 ⟨F1, ρ1, e1, S1, t1, m1, rp1, r1, g1⟩
  cases (show t = t1 from r1)
  cases t with
  | true => exact ⟨F1, ρ1, e1, S1, rp1, g1⟩
  | false => exact Good.val (R := Req) (a := false) g1 rp1 rfl
theorem pw_or' (ht : St B T Γ k c a (do let x ← ma; boolM x)) (hb : PWs B T Γ k c (.BoolOp .Or (b :: rest) pos) (do let x ← mb; boolM x)) : PWs B T Γ k c (.BoolOp .Or (a :: b :: rest) pos) (do let x ← orM ma mb; boolM x) := by
  refine fun X x0 => PWi (pw_or (ht X x0) (hb X x0)) fun σ H Q ⟨F, ρ, en, S, rp, g⟩ => ?_
  have e0 : (do let x ← orM ma mb; boolM x : M Bool) en S = (do let t ← (do let x ← ma; boolM x); (match t with | true => M.pure true | false => (do let x ← mb; boolM x)) : M Bool) en S := by
    show M.bind (M.bind ma _) boolM en S = M.bind (M.bind ma boolM) _ en S
    unfold M.bind
    cases ma en S with
    | ok x e' S' => cases x with
      | bl t => cases t <;> rfl
      | _ => rfl
    | exc x e' S' => rfl
    | fail => rfl
  rw [e0] at g
  refine ⟨F, ρ, en, S, rp, (Good.bind (R := Req) g).mono ?_⟩
  rintro t H1 ⟨F1, ρ1, e1, S1, t1, m1, rp1, r1, g1⟩
  cases (show t = t1 from r1)
  cases t with
  | false => exact ⟨F1, ρ1, e1, S1, rp1, g1⟩
  | true => exact Good.val (R := Req) (a := true) g1 rp1 rfl
theorem st_pw {m : M Bool} (h : PWs B T Γ k c e m) : St B T Γ k c e m := fun X x0 => PW.pt (h X x0)

/-! ### a if t else b -/
theorem sa_ite {t : PySem.Expr} {mt : M Bool} (ht : St B T Γ k c t mt) (ha : Sa B T Γ k c a ma) (hb : Sa B T Γ k c b mb) : Sa B T Γ k c (.IfExp t a b pos) (do let c ← mt; iteM c ma mb) := by
  refine fun X x0 => PEi (pe_ifExp (ht X x0) (ha X x0) (hb X x0)) fun σ H Q ⟨F, ρ, en, S, rp, g⟩ => ?_
  refine ⟨F, ρ, en, S, rp, (Good.bind (R := Req) g).mono ?_⟩
  rintro t H1 ⟨F1, ρ1, e1, S1, t1, m1, rp1, r1, g1⟩
  cases (show t = t1 from r1)
  cases t with
  | true => exact ⟨F1, ρ1, e1, S1, rp1, g1⟩
  | false => exact ⟨F1, ρ1, e1, S1, rp1, g1⟩
theorem pt_ifExp {X : Cx} {t a b : PySem.Expr} {tt ta tb : TT} (ht : PT X t tt) (ha : PT X a ta) (hb : PT X b tb) : PT X (.IfExp t a b pos) (fun σ H Q => tt σ H fun k H1 => if k = true then ta σ H1 Q else tb σ H1 Q) := by
  refine ⟨fun pins s σ H Q I h => ?_⟩
  show wpAny _ _ (do if ← isTrue t X.env (eval t X.env) then isTrue a X.env (eval a X.env) else isTrue b X.env (eval b X.env)) _ _ _
  refine wpAny_bind (thn (ht.run pins s σ H _ I h) fun d s1 ⟨H1, I1, q1⟩ => ?_)
  cases d with
  | true => exact ha.run pins s1 σ H1 Q I1 q1
  | false => exact hb.run pins s1 σ H1 Q I1 q1
theorem st_ite {t : PySem.Expr} {mt : M Bool} (ht : St B T Γ k c t mt) (ha : St B T Γ k c a (do let x ← ma; boolM x)) (hb : St B T Γ k c b (do let x ← mb; boolM x)) :
    St B T Γ k c (.IfExp t a b pos) (do let x ← (do let c ← mt; iteM c ma mb); boolM x) := by
  refine fun X x0 => PTi (pt_ifExp (ht X x0) (ha X x0) (hb X x0)) fun σ H Q ⟨F, ρ, en, S, rp, g⟩ => ?_
  have e0 : (do let x ← (do let c ← mt; iteM c ma mb); boolM x : M Bool) en S = (do let c ← mt; iteM c (do let x ← ma; boolM x) (do let x ← mb; boolM x) : M Bool) en S := by
    show M.bind (M.bind mt _) boolM en S = M.bind mt _ en S
    unfold M.bind
    cases mt en S with
    | ok t e' S' => cases t <;> rfl
    | exc x e' S' => rfl
    | fail => rfl
  rw [e0] at g
  refine ⟨F, ρ, en, S, rp, (Good.bind (R := Req) g).mono ?_⟩
  rintro t H1 ⟨F1, ρ1, e1, S1, t1, m1, rp1, r1, g1⟩
  cases (show t = t1 from r1)
  cases t with
  | true => exact ⟨F1, ρ1, e1, S1, rp1, g1⟩
  | false => exact ⟨F1, ρ1, e1, S1, rp1, g1⟩

/-! ### items -/
theorem atI_rel {F : Addr → Prop} {ρ : List Addr} {H : Hp} {xs : List V} {l : List D} {i : Int} {d : D} (h : AtL B.G F ρ H xs l) (e : atI l i = some d) : ∃ v, atI xs i = some v ∧ At B.G F ρ H v d := by
  unfold atI at e ⊢
  rw [h.length]
  cases hj : ixN l.length i with
  | none => rw [hj] at e; cases e
  | some j =>
    rw [hj] at e
    exact h.get e
theorem hr_ix : HR B (RA B) ixM (rIx B.G.K) := by
  intro σ F ρ H en S x y d1 d2 Q rp hx hy g
  have pl : Good B σ (RA B) F ρ H en (liftO (dix d1 d2) en S) Q → rIx B.G.K x y H Q := by
    intro g
    obtain ⟨d, hd, g2⟩ := Good.lift g
    cases d2 with
    | int i =>
      cases d1 with
      | tup l =>
        obtain ⟨a, xs, h1, h2, h3⟩ := hx.tup
        obtain ⟨v, h4, h5⟩ := atI_rel h3 hd
        exact .inr (.inl ⟨a, xs, i, v, h1, hy.int, h2.sq, h4, Good.val (R := RA B) g2 rp h5⟩)
      | lst l =>
        obtain ⟨a, xs, h1, h2, h3⟩ := hx.lst
        obtain ⟨v, h4, h5⟩ := atI_rel h3 hd
        exact .inl ⟨a, xs, i, v, h1, hy.int, h2.sq, h4, Good.val (R := RA B) g2 rp h5⟩
      | str z =>
        have hd' : (if decide (z.length ≤ sizeLine) then (atI z.cps.toList i).map fun c => D.str ⟨#[c]⟩ else none) = some d := hd
        by_cases hz : z.length ≤ sizeLine
        · rw [if_pos (decide_eq_true hz)] at hd'
          obtain ⟨ch, h1, h2⟩ := Option.map_eq_some_iff.mp hd'
          subst h2
          exact .inr (.inr ⟨z, i, ch, hx.str, hy.int, hz, h1, Good.val (R := RA B) g2 rp (.str _)⟩)
        · rw [if_neg (by simpa using hz)] at hd'; cases hd'
      | _ => cases hd
    | _ => cases d1 <;> cases hd
  cases d1 with
  | ref i =>
    cases hS : S[i]? with
    | none =>
      have g' : Good B σ (RA B) F ρ H en (cellIx i d2 en S) Q := g
      unfold cellIx at g'
      rw [hS] at g'
      exact False.elim g'
    | some l =>
      cases d2 with
      | int n =>
        have g' : Good B σ (RA B) F ρ H en (cellIx i (.int n) en S) Q := g
        unfold cellIx at g'
        rw [hS] at g'
        cases hA : atI l n with
        | none =>
          simp only [hA] at g'
          exact False.elim g'
        | some d =>
          simp only [hA] at g'
          obtain ⟨p, xs, h1, h2, h3⟩ := rp.st.sto i l hS
          obtain ⟨v, h4, h5⟩ := atI_rel h3 hA
          have ex : x = .ref p := by
            rcases hx with hx | ⟨_, _, _, _, z, _⟩
            · cases hx with
              | ref e => rw [h1] at e; cases e; rfl
            · cases z
          exact .inl ⟨p, xs, n, v, ex, hy.int, SqL.of h2, h4, Good.val (R := RA B) (a := d) g' rp h5⟩
      | _ =>
        have g' : Good B σ (RA B) F ρ H en (cellIx i _ en S) Q := g
        unfold cellIx at g'
        rw [hS] at g'
        exact False.elim g'
  | _ => exact pl g
theorem plain_of {b : PySem.Expr} (h : plainIx b = true) : PlainIx b := by
  cases b <;> first
    | (intro o i; rfl)
    | cases h
theorem sa_idx (hp : plainIx b = true) (ha : Sb B T Γ k c a ma) (hb : Sb B T Γ k c b mb) : Sa B T Γ k c (.Subscript a b pos) (do let x ← ma; let y ← mb; ixM x y) :=
  fun X x0 => PEi (pe_ix (by rw [← x0.K]; exact ix_seq) (ha X x0) (hb X x0) (plain_of hp)) fun σ H Q h => two_imp hr_ix h
end
end Eng

set_option maxHeartbeats 4000000
/-! THE ENGINE, part H: slices, calls, built-ins. -/
namespace Eng
open PySem PySem.Spec L2
section
variable {B : Bd} {T : Tab} {Γ : Gm} {k : Nat} {c : Ctx} {X : Cx} {e a b a3 : PySem.Expr} {ma mb mc m : M D} {pos : Pos} {r r' : R2} {es : List PySem.Expr} {ml : M (List D)}

/-! ### slices -/
def So (B : Bd) (T : Tab) (Γ : Gm) (k : Nat) (c : Ctx) (e : Option PySem.Expr) (m : M (Option Int)) : Prop := ∀ X, XOk B T Γ k c X → PO X e (tR B Req m)
theorem so_none : So B T Γ k c none (M.pure none) := fun X _ => ⟨fun pins s σ H Q I ⟨F, ρ, en, S, rp, g⟩ => po_none.run pins s σ H Q I (Good.val (R := Req) g rp rfl)⟩
theorem so_some (ha : Sa B T Γ k c a ma) : So B T Γ k c (some a) (do let x ← ma; let i ← liftO (asInt x); M.pure (some i)) := fun X x0 => by
  refine ⟨fun pins s σ H Q I h => (po_some (ha X x0)).run pins s σ H Q I ?_⟩
  obtain ⟨F, ρ, en, S, rp, g⟩ := h
  refine ⟨F, ρ, en, S, rp, (Good.bind g).mono ?_⟩
  rintro v H1 ⟨F1, ρ1, e1, S1, d1, m1, rp1, r1, g1⟩
  cases d1 with
  | int i =>
    cases (show At _ _ _ _ _ _ from r1)
    exact ⟨i, rfl, Good.val (R := Req) (a := some i) g1 rp1 rfl⟩
  | _ => exact False.elim g1
theorem hr_slc {σ : L2.St} {F ρ H en S x d lo hi} {Q : VK} (rp : Rep B.G B.N F ρ H σ en S) (hx : RB B H F ρ H σ en x d) (g : Good B σ (RA B) F ρ H en (liftO (slcO d lo hi) en S) Q) : rSlA B.G.K x lo hi H Q ∨ rSlL B.G.K x lo hi H Q := by
  obtain ⟨z, hz, g⟩ := g.lift
  cases d with
  | tup l =>
    cases hz
    obtain ⟨a, xs, h1, h2, h3⟩ := hx.tup
    refine .inl ⟨a, xs, h1, h2.sq, fun h4 => ?_, fun h4 p hp => ?_⟩
    · refine g.val rp (.tup h2 ?_)
      have : cutD l lo hi = l := by
        unfold cutD
        rw [← h3.length, h4.1, h4.2]
        simp [h3.length]
      rw [this]
      exact h3
    · exact g.new rp hp (.tup (.inl ⟨.inr rfl, .inl upd_same⟩) (AtL.stays ((Ext.new hp).stays rp.st) (h3.cut lo hi)))
  | lst l =>
    cases hz
    obtain ⟨a, xs, h1, h2, h3⟩ := hx.lst
    exact .inr ⟨a, xs, h1, h2.sq, fun p hp => g.new rp hp (.lst (.inl ⟨.inr rfl, .inl upd_same⟩) (AtL.stays ((Ext.new hp).stays rp.st) (h3.cut lo hi)))⟩
  | scr l =>
    cases hz
    rcases hx with hx | ⟨_, _, _, _, z, _⟩
    · cases hx with
      | scr h2 h3 => exact .inr ⟨_, _, rfl, h2.sq, fun p hp => g.new rp hp (.lst (.inl ⟨.inr rfl, .inl upd_same⟩) (AtL.stays ((Ext.new hp).stays rp.st) (h3.cut lo hi)))⟩
    · cases z
  | _ => cases hz
theorem sa_slc {lo hi : Option PySem.Expr} {mlo mhi : M (Option Int)} {p2 : Pos} (ha : Sb B T Γ k c a ma) (hl : So B T Γ k c lo mlo) (hh : So B T Γ k c hi mhi) :
    Sa B T Γ k c (.Subscript a (.Slice lo hi none p2) pos) (do let x ← ma; let l ← mlo; let h ← mhi; liftO (slcO x l h)) := by
  refine fun X x0 => PEi (pe_slice (SlR.or sl_tupA sl_list) (ha X x0) (hl X x0) (hh X x0)) fun σ H Q ⟨F, ρ, en, S, rp, g⟩ => ?_
  refine ⟨F, ρ, en, S, rp, (Good.bind g).mono ?_⟩
  rintro v H1 ⟨F1, ρ1, e1, S1, d1, m1, rp1, r1, g1⟩
  refine ⟨F1, ρ1, e1, S1, rp1, (Good.bind (R := Req) g1).mono ?_⟩
  rintro l H2 ⟨F2, ρ2, e2, S2, l', m2, rp2, r2, g2⟩
  cases (show l = l' from r2)
  refine ⟨F2, ρ2, e2, S2, rp2, (Good.bind (R := Req) g2).mono ?_⟩
  rintro h H3 ⟨F3, ρ3, e3, S3, h', m3, rp3, r3, g3⟩
  cases (show h = h' from r3)
  rw [x0.K]
  exact hr_slc rp3 (RB.later (Hb := H3) rp2 m3 (RB.later (Hb := H3) rp1 m2 r1)) g3

/-! ### a call of a def of the text -/
theorem any_star : ∀ {es : List PySem.Expr} {env : PySem.Env} {pos : Pos}, es.all notStar = true → (backTo pos (starEach es env)).any (·.1) = false
  | [], _, _, _ => rfl
  | e :: es, env, pos, h => by
    rw [List.all_cons, Bool.and_eq_true] at h
    rw [star_cons h.1]
    show (false || (backTo pos (starEach es env)).any (·.1)) = false
    rw [any_star h.2]
    rfl
theorem GoodF.of {σ : L2.St} {F ρ H en S} {Q : VK} {i : Nat} {ds : List D} (g : Good B σ (RA B) F ρ H en (callM Γ i ds en S) Q) (rp : Rep B.G B.N F ρ H σ en S) : GoodF B.G F ρ H (Γ.call i ds S) Q (WE B.W σ) := by
  unfold callM at g
  cases hr : Γ.call i ds S with
  | ok d S' =>
    rw [hr] at g
    intro F' ρ' H' v x st at'
    obtain ⟨r1, m1⟩ := rp.call x st
    exact g F' ρ' H' v m1 r1 at'
  | exc x S' =>
    rw [hr] at g
    intro F' ρ' H' cls od x' st ev
    obtain ⟨r1, m1⟩ := rp.call x' st
    exact g F' ρ' H' cls od m1 r1 ev
  | fail =>
    rw [hr] at g
    exact g
def tCG (sp : Sp) (Y : L2.St → XK) (ta : TA) : TE := fun τ HH R => ta τ HH fun xs H1 => sp xs H1 R (Y τ)
theorem pe_callG {X : Cx} {C : CXT} {k : Nat} {fa : Addr} {fd : FuncData} {ps : List Str} {sp : Sp} {Y : L2.St → XK} {x : Str} {p : Pos} {ta : TA} (h : FnG X.prog X.w X.K X.mg X.base C k fa fd ps sp) (room : Rm k X.A) (hg : Gl X x) (hm : X.mg x = some (.ref fa)) (hk : PySem.W.keepIn X.K (.ref fa) = true) (bd : Binds X.K fd ps []) (hx : ∀ τ, PassesAt C X τ (Y τ))
    (ha : PA X (e :: es) ta) (hdb : (x == ("__debug__" : Str)) = false) (he : starEach (e :: es) X.env = (false, eval e X.env) :: starEach es X.env) (hpl : (backTo pos (starEach es X.env)).any (·.1) = false) : PE X (.Call (.Name x p) (e :: es) [] pos) (tCG sp Y ta) :=
  ⟨fun pn t τ HH R J q => wpAny_Call_Name_kw (ld_glob J hg hm (PySem.W.callWith_K (h₀ := X.base) J.ok.mod.kin hk (thn (ha.run pos pn t τ HH _ J q) fun us t1 ⟨xs, H1, J1, rv, q1⟩ => ⟨J1.kIn, h.call room bd (hx τ) J1 rv q1⟩) he hpl) hdb)⟩
theorem sa_call {i : Nat} {x : Str} {ps : List Str} {p : Pos} (hc : c.calm = true) (hi : T.fns[i]? = some (x, ps)) (hg : globB c.sc x = true) (hd : noDebug x = true) (hl : Sl B T Γ k c (e :: es) ml) (hs : (e :: es).all notStar = true) :
    Sa B T Γ k c (.Call (.Name x p) (e :: es) [] pos) (do let ds ← ml; callM Γ i ds) := by
  intro X x0
  obtain ⟨h1, h2, fd, hb, hF⟩ := x0.gl.fns i x ps hi
  rw [← x0.K] at h1 h2 hb hF
  rw [List.all_cons, Bool.and_eq_true] at hs
  refine PEi (pe_callG hF (x0.room hc) (gl_of x0.sc hg) h1 h2 hb (fun σ => passAt x0.tk σ) (hl X x0) (nd1 hd) (star_cons hs.1) (any_star hs.2)) fun σ H Q ⟨F, ρ, en, S, rp, g⟩ => ?_
  refine ⟨F, ρ, en, S, rp, (Good.bind g).mono ?_⟩
  rintro vs H1 ⟨F1, ρ1, e1, S1, ds, m1, rp1, r1, g1⟩
  have gf := GoodF.of g1 rp1
  refine ⟨F1, ρ1, S1, ds, x0.gl.len i x ps ds S1 hi (fun z => ?_), rp1.st, r1, gf⟩
  rw [z] at gf
  exact gf
theorem pe_callS0 {X : Cx} {CX : CXT} {k : Nat} {f : Addr} {fd : FuncData} {ps : List Str} {sp : Sp} {E : L2.St → XK} {x : Str} {p : Pos} (F : FnG X.prog X.w X.K X.mg X.base CX k f fd ps sp) (hr : Rm k X.A) (hg : Gl X x) (hm : X.mg x = some (.ref f)) (hk : PySem.W.keepIn X.K (.ref f) = true) (hb : Binds X.K fd ps []) (hx : ∀ σ, PassesAt CX X σ (E σ))
    (hdb : (x == ("__debug__" : Str)) = false) : PE X (.Call (.Name x p) [] [] pos) (tCallS sp E tNil) := by
  refine ⟨fun pins s σ H Q I h => ?_⟩
  refine wpAny_Call_Name_kw (ld_glob I hg hm ?_ hdb)
  exact PySem.W.callWith_K0 I.kIn hk (F.call (us := []) hr hb (hx σ) I .nil h)
theorem sa_call0 {i : Nat} {x : Str} {ps : List Str} {p : Pos} (hc : c.calm = true) (hi : T.fns[i]? = some (x, ps)) (hg : globB c.sc x = true) (hd : noDebug x = true) :
    Sa B T Γ k c (.Call (.Name x p) [] [] pos) (do let ds ← (M.pure [] : M (List D)); callM Γ i ds) := by
  intro X x0
  obtain ⟨h1, h2, fd, hb, hF⟩ := x0.gl.fns i x ps hi
  rw [← x0.K] at h1 h2 hb hF
  refine PEi (pe_callS0 hF (x0.room hc) (gl_of x0.sc hg) h1 h2 hb (fun σ => passAt x0.tk σ) (nd1 hd)) fun σ H Q ⟨F, ρ, en, S, rp, g⟩ => ?_
  have gf := GoodF.of (ds := []) g rp
  refine ⟨F, ρ, S, [], x0.gl.len i x ps [] S hi (fun z => ?_), rp.st, .nil, gf⟩
  rw [z] at gf
  exact gf

/-! ### arguments that may be borrowed -/
def RBL (B : Bd) : Rel (List D) (List V) := fun Hb F ρ H σ e vs ds => Paired (fun v d => RB B Hb F ρ H σ e v d) vs ds
instance {B : Bd} : Anti (RBL B) := ⟨fun _ h => h⟩
def Slb (B : Bd) (T : Tab) (Γ : Gm) (k : Nat) (c : Ctx) (e : List PySem.Expr) (m : M (List D)) : Prop := ∀ X, XOk B T Γ k c X → PA X e (tR B (RBL B) m)
theorem slb_nil : Slb B T Γ k c [] (M.pure []) := fun X _ => PAi pa_nil fun σ H Q ⟨F, ρ, en, S, rp, g⟩ => Good.val (R := RBL B) g rp .nil
theorem slb_cons (ha : Sb B T Γ k c e ma) (hl : Slb B T Γ k c es ml) (hs : notStar e = true) : Slb B T Γ k c (e :: es) (do let x ← ma; let xs ← ml; M.pure (x :: xs)) := by
  intro X x0
  refine PAi (pa_cons (ha X x0) (hl X x0) (star_cons hs)) fun σ H Q ⟨F, ρ, en, S, rp, g⟩ => ?_
  refine ⟨F, ρ, en, S, rp, (Good.bind g).mono ?_⟩
  rintro v H1 ⟨F1, ρ1, e1, S1, d, m1, rp1, r1, g1⟩
  refine ⟨F1, ρ1, e1, S1, rp1, (Good.bind g1).mono ?_⟩
  rintro vs H2 ⟨F2, ρ2, e2, S2, ds, m2, rp2, r2, g2⟩
  exact Good.val (R := RBL B) g2 rp2 (.cons (RB.later (Hb := H2) rp1 m2 r1) r2)
/-- a built-in by its arguments' values -/
def HRL (B : Bd) (R : Rel D V) (f : List D → Option D) (r : List V → Hp → VK → Prop) : Prop :=
  ∀ (σ : L2.St) F ρ H en S xs ds Q, Rep B.G B.N F ρ H σ en S → RBL B H F ρ H σ en xs ds → Good B σ R F ρ H en (liftO (f ds) en S) Q → r xs H Q
theorem cb_imp {R : Rel D V} [Anti R] {f : List D → Option D} {r : List V → Hp → VK → Prop} (hr : HRL B R f r) {σ : L2.St} {H : Hp} {Q : VK} (h : tR B R (do let ds ← ml; liftO (f ds)) σ H Q) : tCB r (tR B (RBL B) ml) σ H Q := by
  obtain ⟨F, ρ, en, S, rp, g⟩ := h
  refine ⟨F, ρ, en, S, rp, (Good.bind g).mono ?_⟩
  rintro vs H1 ⟨F1, ρ1, e1, S1, ds, m1, rp1, r1, g1⟩
  exact hr σ F1 ρ1 H1 e1 S1 vs ds Q rp1 r1 g1
theorem s_callB {R : Rel D V} [Anti R] {f : List D → Option D} {r : List V → Hp → VK → Prop} {x : Str} {p : Pos} {id : String} (hf : T.free.contains x = true) (hg : globB c.sc x = true) (hd : noDebug x = true) (hv : bootBuiltins x = some (.builtin id))
    (ho : ∀ X, XOk B T Γ k c X → CallR X (.builtin id) r) (hr : HRL B R f r) (hl : Slb B T Γ k c (e :: es) ml) (hs : (e :: es).all notStar = true) :
    ∀ X, XOk B T Γ k c X → PE X (.Call (.Name x p) (e :: es) [] pos) (tR B R (do let ds ← ml; liftO (f ds))) := by
  intro X x0
  rw [List.all_cons, Bool.and_eq_true] at hs
  exact PEi (pe_callB (ho X x0) (gl_of x0.sc hg) (x0.gl.free x (List.contains_iff_mem.mp hf)) hv (hl X x0) (nd3 hd) (nd1 hd) (star_cons hs.1) (any_star hs.2)) fun σ H Q h => cb_imp hr h
theorem s_callTy {R : Rel D V} [Anti R] {f : List D → Option D} {r : List V → Hp → VK → Prop} {x : Str} {p : Pos} {id : String} (hf : T.free.contains x = true) (hg : globB c.sc x = true) (hd : noDebug x = true) (hv : bootBuiltins x = some (.type id))
    (ho : ∀ X, XOk B T Γ k c X → CallR X (.type id) r) (hr : HRL B R f r) (hl : Slb B T Γ k c (e :: es) ml) (hs : (e :: es).all notStar = true) :
    ∀ X, XOk B T Γ k c X → PE X (.Call (.Name x p) (e :: es) [] pos) (tR B R (do let ds ← ml; liftO (f ds))) := by
  intro X x0
  rw [List.all_cons, Bool.and_eq_true] at hs
  exact PEi (pe_callTy (ho X x0) (gl_of x0.sc hg) (x0.gl.free x (List.contains_iff_mem.mp hf)) hv (hl X x0) (nd3 hd) (nd1 hd) (star_cons hs.1) (any_star hs.2)) fun σ H Q h => cb_imp hr h
end
end Eng

set_option maxHeartbeats 4000000
/-! THE ENGINE, part I: the built-ins one by one. -/
namespace Eng
open PySem PySem.Spec L2 PyProof.Rows
section
variable {B : Bd} {T : Tab} {Γ : Gm} {k : Nat} {c : Ctx} {X : Cx} {e a b a3 : PySem.Expr} {ma mb mc m : M D} {pos : Pos} {es : List PySem.Expr} {ml : M (List D)}
theorem Paired.one {α β : Type} {F : α → β → Prop} {xs : List α} {d : β} (h : Paired F xs [d]) : ∃ x, xs = [x] ∧ F x d := by
  cases h with
  | cons h t => cases t; exact ⟨_, rfl, h⟩
theorem Paired.two {α β : Type} {F : α → β → Prop} {xs : List α} {d d2 : β} (h : Paired F xs [d, d2]) : ∃ x y, xs = [x, y] ∧ F x d ∧ F y d2 := by
  cases h with
  | cons h t =>
    obtain ⟨y, e, h2⟩ := Paired.one t
    subst e
    exact ⟨_, _, rfl, h, h2⟩
theorem ints_of {F : Addr → Prop} {ρ : List Addr} {H : Hp} : ∀ {xs : List V} {l : List D} {ns : List Int}, AtL B.G F ρ H xs l → dInts l = some ns → xs = ns.map V.int
  | _, _, _, .nil, h => by cases h; rfl
  | _, _, _, @AtL.cons _ _ _ _ v vs d ds h1 h2, h => by
    cases d with
    | int i =>
      obtain ⟨n2, h3, h4⟩ := Option.map_eq_some_iff.mp (show (dInts ds).map (i :: ·) = some _ from h)
      subst h4
      cases h1
      rw [ints_of h2 h3]
      rfl
    | _ => cases h
theorem bools_of {F : Addr → Prop} {ρ : List Addr} {H : Hp} : ∀ {xs : List V} {l : List D} {ns : List Bool}, AtL B.G F ρ H xs l → dBools l = some ns → xs = ns.map V.bl
  | _, _, _, .nil, h => by cases h; rfl
  | _, _, _, @AtL.cons _ _ _ _ v vs d ds h1 h2, h => by
    cases d with
    | bl i =>
      obtain ⟨n2, h3, h4⟩ := Option.map_eq_some_iff.mp (show (dBools ds).map (i :: ·) = some _ from h)
      subst h4
      cases h1
      rw [bools_of h2 h3]
      rfl
    | _ => cases h
/-! ### len, tuple, abs, int -/
theorem hrl_len : HRL B (RA B) (dblt .len) (fun xs H Q => ∃ x n, xs = [x] ∧ LenV B.G.K x H n ∧ Q (.int n) H) := by
  intro σ F ρ H en S xs ds Q rp hx g
  obtain ⟨d, hd, g⟩ := g.lift
  match ds, hx, hd with
  | [.tup l], hx, hd =>
    cases hd
    obtain ⟨x, e, hx1⟩ := Paired.one hx
    subst e
    obtain ⟨a, xs, h1, h2, h3⟩ := RB.tup hx1
    subst h1
    exact ⟨_, l.length, rfl, .inr ⟨xs, h2.sq, h3.length.symm⟩, g.val rp (.int _)⟩
  | [.lst l], hx, hd =>
    cases hd
    obtain ⟨x, e, hx1⟩ := Paired.one hx
    subst e
    obtain ⟨a, xs, h1, h2, h3⟩ := RB.lst hx1
    subst h1
    exact ⟨_, l.length, rfl, .inl ⟨xs, h2.sq, h3.length.symm⟩, g.val rp (.int _)⟩
  | [.str z], hx, hd =>
    obtain ⟨hz, ez⟩ := ite_some (show (if small z.length = true then some (D.int z.length) else none) = some d from hd)
    subst ez
    obtain ⟨x, e, hx1⟩ := Paired.one hx
    subst e
    rw [RB.str hx1]
    exact ⟨_, z.length, rfl, ⟨small_of hz, rfl⟩, g.val rp (.int _)⟩
def rTup (K : PySem.W.Frag) : List V → Hp → VK → Prop := fun xs H Q => ∃ p ys, xs = [.ref p] ∧ ((SqL K H p ys ∧ ∀ l, H l = none → Q (.ref l) (upd H l (.tup ys))) ∨ (SqT K H p ys ∧ Q (.ref p) H))
theorem hrl_tuple : HRL B (RA B) (dblt .tuple) (rTup B.G.K) := by
  intro σ F ρ H en S xs ds Q rp hx g
  obtain ⟨d, hd, g⟩ := g.lift
  match ds, hx, hd with
  | [.tup l], hx, hd =>
    cases hd
    obtain ⟨x, e, hx1⟩ := Paired.one hx
    subst e
    obtain ⟨a, xs, h1, h2, h3⟩ := RB.tup hx1
    subst h1
    exact ⟨a, xs, rfl, .inr ⟨h2.sq, g.val rp (.tup h2 h3)⟩⟩
  | [.lst l], hx, hd =>
    cases hd
    obtain ⟨x, e, hx1⟩ := Paired.one hx
    subst e
    obtain ⟨a, xs, h1, h2, h3⟩ := RB.lst hx1
    subst h1
    exact ⟨a, xs, rfl, .inl ⟨h2.sq, fun p hp => g.new rp hp (.tup (.inl ⟨.inr rfl, .inl upd_same⟩) (AtL.stays ((Ext.new hp).stays rp.st) h3))⟩⟩
theorem hrl_abs : HRL B (RA B) (dblt .abs) (fun xs H Q => ∃ i, xs = [.int i] ∧ Q (.int (if i < 0 then -i else i)) H) := by
  intro σ F ρ H en S xs ds Q rp hx g
  obtain ⟨d, hd, g⟩ := g.lift
  match ds, hx, hd with
  | [.int i], hx, hd =>
    cases hd
    obtain ⟨x, e, hx1⟩ := Paired.one hx
    subst e
    rw [RB.int hx1]
    exact ⟨i, rfl, g.val rp (.int _)⟩
theorem hrl_int : HRL B (RA B) (dblt .int) (fun xs H Q => (∃ i, xs = [.int i] ∧ Q (.int i) H) ∨ ∃ k, xs = [.bl k] ∧ Q (.int (if k then 1 else 0)) H) := by
  intro σ F ρ H en S xs ds Q rp hx g
  obtain ⟨d, hd, g⟩ := g.lift
  match ds, hx, hd with
  | [.int i], hx, hd =>
    cases hd
    obtain ⟨x, e, hx1⟩ := Paired.one hx
    subst e
    rw [RB.int hx1]
    exact .inl ⟨i, rfl, g.val rp (.int _)⟩
  | [.bl i], hx, hd =>
    cases hd
    obtain ⟨x, e, hx1⟩ := Paired.one hx
    subst e
    rw [RB.bl hx1]
    refine .inr ⟨i, rfl, g.val rp ?_⟩
    have : PyProof.Rows.b2i i = (if i = true then 1 else 0) := rfl
    rw [this]
    exact .int _
theorem hrl_min2 : HRL B (RA B) (dblt .min2) (fun xs H Q => ∃ i j, xs = [.int i, .int j] ∧ Q (.int (if j < i then j else i)) H) := by
  intro σ F ρ H en S xs ds Q rp hx g
  obtain ⟨d, hd, g⟩ := g.lift
  match ds, hx, hd with
  | [.int i, .int j], hx, hd =>
    cases hd
    obtain ⟨x, y, e, hx1, hy1⟩ := Paired.two hx
    subst e
    rw [RB.int hx1, RB.int hy1]
    exact ⟨i, j, rfl, g.val rp (.int _)⟩
theorem hrl_max2 : HRL B (RA B) (dblt .max2) (fun xs H Q => ∃ i j, xs = [.int i, .int j] ∧ Q (.int (if j > i then j else i)) H) := by
  intro σ F ρ H en S xs ds Q rp hx g
  obtain ⟨d, hd, g⟩ := g.lift
  match ds, hx, hd with
  | [.int i, .int j], hx, hd =>
    cases hd
    obtain ⟨x, y, e, hx1, hy1⟩ := Paired.two hx
    subst e
    rw [RB.int hx1, RB.int hy1]
    exact ⟨i, j, rfl, g.val rp (.int _)⟩
/-! ### sum, min, max, all, any -/
theorem sum_rawT {prog : Program} {w : World} {A : Around} {E : Value → Shared → Prop} {s : Shared} {l : Addr} {its : List Value} {ns : List Int} {Q : Value → Shared → Prop} (hh : A.handled = none) (hl : s.heap.IsTuple l its.toArray) (hi : IntsAre its ns)
    (h : ∀ h' tk t', (∀ b o, s.heap.get? b = some o → h'.get? b = some o) → Q (.int ns.sum t') { s with heap := h', toks := tk }) : wpAny (model prog w) A (call (.builtin "sum") [.ref l]) Q E s := by
  obtain ⟨xs, e⟩ := hi.allInts.items
  have hn : numsOf (intItems xs).toList = ns := by rw [← e]; exact hi.numsOf
  rw [nums_intItems] at hn
  rw [e] at hl
  refine PySem.W.ktm_sumG hh hl fun h' tk t' hk => ?_
  have := h h' tk t' hk
  rw [preSum_eq, List.take_of_length_le (by simp), hn]; exact this
def rSumX (K : PySem.W.Frag) : List V → Hp → VK → Prop := fun vs H Q => ∃ (a : Addr) (ns : List Int), vs = [V.ref a] ∧ (SqL K H a (ns.map V.int) ∨ SqT K H a (ns.map V.int)) ∧ Q (.int ns.sum) H
theorem cr_sumX (hc : X.calm = true) : CallR X (.builtin "sum") (rSumX X.K) := by
  intro pins s σ H vs us Q I r h
  obtain ⟨a, ns, rfl, hs | hs, q⟩ := h
  · exact cr_sum hc pins s σ H _ us Q I r ⟨a, ns, rfl, hs, q⟩
  · obtain ⟨its, rv, hl, _⟩ := I.tuple hs
    rw [Vals.ref1 r]
    exact sum_rawT (I.ok.hd hc) (show s.heap.IsTuple a its.toArray from hl) rv.ints fun h' tk t' hk => ⟨.int _, H, I.kept hk, ⟨_, rfl⟩, q⟩
theorem hrl_sum : HRL B (RA B) (dblt .sum) (rSumX B.G.K) := by
  intro σ F ρ H en S xs ds Q rp hx g
  obtain ⟨d, hd, g⟩ := g.lift
  match ds, hx, hd with
  | [.lst l], hx, hd =>
    obtain ⟨ns, h1, h2⟩ := Option.map_eq_some_iff.mp (show (dInts l).map (fun ns => D.int ns.sum) = some d from hd)
    subst h2
    obtain ⟨x, e, hx1⟩ := Paired.one hx
    subst e
    obtain ⟨a, xs, h3, h4, h5⟩ := RB.lst hx1
    subst h3
    have e := ints_of h5 h1
    subst e
    exact ⟨a, ns, rfl, .inl h4.sq, g.val rp (.int _)⟩
  | [.tup l], hx, hd =>
    obtain ⟨ns, h1, h2⟩ := Option.map_eq_some_iff.mp (show (dInts l).map (fun ns => D.int ns.sum) = some d from hd)
    subst h2
    obtain ⟨x, e, hx1⟩ := Paired.one hx
    subst e
    obtain ⟨a, xs, h3, h4, h5⟩ := RB.tup hx1
    subst h3
    have e := ints_of h5 h1
    subst e
    exact ⟨a, ns, rfl, .inr h4.sq, g.val rp (.int _)⟩
theorem hrl_all : HRL B (RA B) (dblt .all) (rAll B.G.K) := by
  intro σ F ρ H en S xs ds Q rp hx g
  obtain ⟨d, hd, g⟩ := g.lift
  match ds, hx, hd with
  | [.lst l], hx, hd =>
    obtain ⟨ns, h1, h2⟩ := Option.map_eq_some_iff.mp (show (dBools l).map (fun bs => D.bl (bs.all id)) = some d from hd)
    subst h2
    obtain ⟨x, e, hx1⟩ := Paired.one hx
    subst e
    obtain ⟨a, xs, h3, h4, h5⟩ := RB.lst hx1
    subst h3
    have e := bools_of h5 h1
    subst e
    exact ⟨a, ns, rfl, h4.sq, g.val rp (.bl _)⟩
theorem hrl_any : HRL B (RA B) (dblt .any) (rAny B.G.K) := by
  intro σ F ρ H en S xs ds Q rp hx g
  obtain ⟨d, hd, g⟩ := g.lift
  match ds, hx, hd with
  | [.lst l], hx, hd =>
    obtain ⟨ns, h1, h2⟩ := Option.map_eq_some_iff.mp (show (dBools l).map (fun bs => D.bl (bs.any id)) = some d from hd)
    subst h2
    obtain ⟨x, e, hx1⟩ := Paired.one hx
    subst e
    obtain ⟨a, xs, h3, h4, h5⟩ := RB.lst hx1
    subst h3
    have e := bools_of h5 h1
    subst e
    exact ⟨a, ns, rfl, h4.sq, g.val rp (.bl _)⟩
theorem fold_min : ∀ (r : List Int) (n : Int), r.foldl min n ∈ n :: r ∧ ∀ y ∈ n :: r, r.foldl min n ≤ y
  | [], n => ⟨List.mem_cons_self, fun y h => by simp at h; subst h; exact Int.le_refl _⟩
  | m :: r, n => by
    obtain ⟨h1, h2⟩ := fold_min r (min n m)
    rw [List.foldl_cons]
    refine ⟨?_, fun y hy => ?_⟩
    · rcases List.mem_cons.mp h1 with h | h
      · rw [h]
        rcases Int.le_total n m with h' | h'
        · rw [Int.min_eq_left h']; exact List.mem_cons_self
        · rw [Int.min_eq_right h']; exact List.mem_cons_of_mem _ List.mem_cons_self
      · exact List.mem_cons_of_mem _ (List.mem_cons_of_mem _ h)
    · have h3 := h2 (min n m) List.mem_cons_self
      rcases List.mem_cons.mp hy with h | h
      · subst h; exact Int.le_trans h3 (Int.min_le_left _ _)
      · rcases List.mem_cons.mp h with h | h
        · subst h; exact Int.le_trans h3 (Int.min_le_right _ _)
        · exact h2 y (List.mem_cons_of_mem _ h)
theorem fold_max : ∀ (r : List Int) (n : Int), r.foldl max n ∈ n :: r ∧ ∀ y ∈ n :: r, y ≤ r.foldl max n
  | [], n => ⟨List.mem_cons_self, fun y h => by simp at h; subst h; exact Int.le_refl _⟩
  | m :: r, n => by
    obtain ⟨h1, h2⟩ := fold_max r (max n m)
    rw [List.foldl_cons]
    refine ⟨?_, fun y hy => ?_⟩
    · rcases List.mem_cons.mp h1 with h | h
      · rw [h]
        rcases Int.le_total n m with h' | h'
        · rw [Int.max_eq_right h']; exact List.mem_cons_of_mem _ List.mem_cons_self
        · rw [Int.max_eq_left h']; exact List.mem_cons_self
      · exact List.mem_cons_of_mem _ (List.mem_cons_of_mem _ h)
    · have h3 := h2 (max n m) List.mem_cons_self
      rcases List.mem_cons.mp hy with h | h
      · subst h; exact Int.le_trans (Int.le_max_left _ _) h3
      · rcases List.mem_cons.mp h with h | h
        · subst h; exact Int.le_trans (Int.le_max_right _ _) h3
        · exact h2 y (List.mem_cons_of_mem _ h)
theorem min_unique {n m : Int} {r : List Int} (h1 : m ∈ n :: r) (h2 : ∀ y ∈ n :: r, m ≤ y) : m = r.foldl min n := by
  obtain ⟨h3, h4⟩ := fold_min r n
  have := h2 _ h3
  have := h4 _ h1
  omega
theorem max_unique {n m : Int} {r : List Int} (h1 : m ∈ n :: r) (h2 : ∀ y ∈ n :: r, y ≤ m) : m = r.foldl max n := by
  obtain ⟨h3, h4⟩ := fold_max r n
  have := h2 _ h3
  have := h4 _ h1
  omega
theorem dpL_ints {K : PySem.W.Frag} {H : Hp} : ∀ ns : List Int, DpAll K H (ns.map V.int) (ns.map PyData.int)
  | [] => .nil
  | n :: r => .cons (.int n) (dpL_ints r)
theorem alike_all_ints (ns : List Int) : PySem.W.AlikeAll (ns.map PyData.int) := by
  refine ⟨fun d hd d' hd' => ?_, fun d hd => ?_⟩
  · obtain ⟨i, _, rfl⟩ := List.mem_map.mp hd
    obtain ⟨j, _, rfl⟩ := List.mem_map.mp hd'
    rfl
  · obtain ⟨i, _, rfl⟩ := List.mem_map.mp hd
    exact fun z => nomatch z
def rMinT (K : PySem.W.Frag) (f : Int → Int → Int) : List V → Hp → VK → Prop := fun vs H Q => ∃ (a : Addr) (n : Int) (r : List Int), vs = [V.ref a] ∧ SqT K H a ((n :: r).map V.int) ∧ Q (.int (r.foldl f n)) H
theorem reads_int {h : Heap} {v : Value} {i : Int} {bs : List Addr} (r : Reads h v (.int i) bs) : ∃ t, v = .int i t := by
  cases r with
  | int _ t => exact ⟨t, rfl⟩
theorem cr_minT (hc : X.calm = true) (hu : X.A.units + 70 < cLine) : CallR X (.builtin "min") (rMinT X.K min) := by
  intro pins s σ H vs us Q I r h
  obtain ⟨a, n, rr, rfl, hs, q⟩ := h
  obtain ⟨its, rv, hl, _⟩ := I.tuple hs
  rw [Vals.ref1 r]
  obtain ⟨as, hr⟩ := Dp.readsAll (H := H) I _ _ its (dpL_ints (n :: rr)) rv
  refine PySem.W.min_tuple_data (x := .int n) (xs := rr.map .int) (I.ok.hd hc) (show s.heap.IsTuple a its.toArray from hl) (by simpa using hr) (alike_all_ints (n :: rr)) ?_ fun i v h' tk bs _ hb hk => ?_
  · have : PyData.depthAll (.int n :: rr.map .int) = 0 := PySem.W.depth_ints (n :: rr)
    rw [this]
    omega
  · rw [PySem.W.minD_ints] at hb
    obtain ⟨t, rfl⟩ := reads_int hb
    exact ⟨.int _, H, I.kept hk, ⟨_, rfl⟩, q⟩
theorem cr_maxT (hc : X.calm = true) (hu : X.A.units + 70 < cLine) : CallR X (.builtin "max") (rMinT X.K max) := by
  intro pins s σ H vs us Q I r h
  obtain ⟨a, n, rr, rfl, hs, q⟩ := h
  obtain ⟨its, rv, hl, _⟩ := I.tuple hs
  rw [Vals.ref1 r]
  obtain ⟨as, hr⟩ := Dp.readsAll (H := H) I _ _ its (dpL_ints (n :: rr)) rv
  refine PySem.W.max_tuple_data (x := .int n) (xs := rr.map .int) (I.ok.hd hc) (show s.heap.IsTuple a its.toArray from hl) (by simpa using hr) (alike_all_ints (n :: rr)) ?_ fun i v h' tk bs _ hb hk => ?_
  · have : PyData.depthAll (.int n :: rr.map .int) = 0 := PySem.W.depth_ints (n :: rr)
    rw [this]
    omega
  · rw [PySem.W.maxD_ints] at hb
    obtain ⟨t, rfl⟩ := reads_int hb
    exact ⟨.int _, H, I.kept hk, ⟨_, rfl⟩, q⟩
theorem hrl_min1 : HRL B (RA B) (dblt .min1) (fun xs H Q => rMin B.G.K xs H Q ∨ rMinT B.G.K min xs H Q) := by
  intro σ F ρ H en S xs ds Q rp hx g
  obtain ⟨d, hd, g⟩ := g.lift
  match ds, hx, hd with
  | [.lst l], hx, hd =>
    obtain ⟨ns, h1, h2⟩ := Option.bind_eq_some_iff.mp (show (dInts l).bind dmin = some d from hd)
    obtain ⟨x, e, hx1⟩ := Paired.one hx
    subst e
    obtain ⟨a, xs, h3, h4, h5⟩ := RB.lst hx1
    subst h3
    have e := ints_of h5 h1
    subst e
    cases ns with
    | nil => cases h2
    | cons n r =>
      cases h2
      exact .inl ⟨a, n :: r, rfl, h4.sq, Nat.succ_pos _, fun m hm hl => by rw [min_unique hm hl]; exact g.val rp (.int _)⟩
  | [.tup l], hx, hd =>
    obtain ⟨ns, h1, h2⟩ := Option.bind_eq_some_iff.mp (show (dInts l).bind dmin = some d from hd)
    obtain ⟨x, e, hx1⟩ := Paired.one hx
    subst e
    obtain ⟨a, xs, h3, h4, h5⟩ := RB.tup hx1
    subst h3
    have e := ints_of h5 h1
    subst e
    cases ns with
    | nil => cases h2
    | cons n r =>
      cases h2
      exact .inr ⟨a, n, r, rfl, h4.sq, g.val rp (.int _)⟩
theorem hrl_max1 : HRL B (RA B) (dblt .max1) (fun xs H Q => rMax B.G.K xs H Q ∨ rMinT B.G.K max xs H Q) := by
  intro σ F ρ H en S xs ds Q rp hx g
  obtain ⟨d, hd, g⟩ := g.lift
  match ds, hx, hd with
  | [.lst l], hx, hd =>
    obtain ⟨ns, h1, h2⟩ := Option.bind_eq_some_iff.mp (show (dInts l).bind dmax = some d from hd)
    obtain ⟨x, e, hx1⟩ := Paired.one hx
    subst e
    obtain ⟨a, xs, h3, h4, h5⟩ := RB.lst hx1
    subst h3
    have e := ints_of h5 h1
    subst e
    cases ns with
    | nil => cases h2
    | cons n r =>
      cases h2
      exact .inl ⟨a, n :: r, rfl, h4.sq, Nat.succ_pos _, fun m hm hl => by rw [max_unique hm hl]; exact g.val rp (.int _)⟩
  | [.tup l], hx, hd =>
    obtain ⟨ns, h1, h2⟩ := Option.bind_eq_some_iff.mp (show (dInts l).bind dmax = some d from hd)
    obtain ⟨x, e, hx1⟩ := Paired.one hx
    subst e
    obtain ⟨a, xs, h3, h4, h5⟩ := RB.tup hx1
    subst h3
    have e := ints_of h5 h1
    subst e
    cases ns with
    | nil => cases h2
    | cons n r =>
      cases h2
      exact .inr ⟨a, n, r, rfl, h4.sq, g.val rp (.int _)⟩
/-! ### new lists -/
def rLst (K : PySem.W.Frag) : List V → Hp → VK → Prop := fun xs H Q => ∃ p ys, xs = [.ref p] ∧ (SqL K H p ys ∨ SqT K H p ys) ∧ ∀ l, H l = none → Q (.ref l) (upd H l (.lst ys))
theorem hrl_list : HRL B (RF B) (dfre .list) (rLst B.G.K) := by
  intro σ F ρ H en S xs ds Q rp hx g
  obtain ⟨d, hd, g⟩ := g.lift
  match ds, hx, hd with
  | [.tup l], hx, hd =>
    cases hd
    obtain ⟨x, e, hx1⟩ := Paired.one hx
    subst e
    obtain ⟨a, xs, h1, h2, h3⟩ := RB.tup hx1
    subst h1
    exact ⟨a, xs, rfl, .inr h2.sq, fun p hp => g.newL rp hp (rf_new rp hp (AtL.stays ((Ext.newL hp).stays rp.st) h3))⟩
  | [.lst l], hx, hd =>
    cases hd
    obtain ⟨x, e, hx1⟩ := Paired.one hx
    subst e
    obtain ⟨a, xs, h1, h2, h3⟩ := RB.lst hx1
    subst h1
    exact ⟨a, xs, rfl, .inl h2.sq, fun p hp => g.newL rp hp (rf_new rp hp (AtL.stays ((Ext.newL hp).stays rp.st) h3))⟩
theorem dlst_of {ds : List D} {d : D} (h : dlst ds = some d) : ds.length ≤ sizeLine ∧ d = .lst ds := by
  obtain ⟨h1, h2⟩ := ite_some (show (if small ds.length = true then some (D.lst ds) else none) = some d from h)
  exact ⟨small_of h1, h2.symm⟩
theorem hr_cat : HR B (RF B) (fun x y => liftO (dfre .cat [x, y])) (rCatL B.G.K) := by
  intro σ F ρ H en S x y d1 d2 Q rp hx hy g
  obtain ⟨d, hd, g⟩ := g.lift
  cases d1 with
  | lst l =>
    cases d2 with
    | lst l2 =>
      obtain ⟨hz, ez⟩ := dlst_of (show dlst (l ++ l2) = some d from hd)
      subst ez
      obtain ⟨a, xs, h1, h2, h3⟩ := hx.lst
      obtain ⟨b, ys, h4, h5, h6⟩ := hy.lst
      have e1 := h3.length
      have e2 := h6.length
      rw [List.length_append] at hz
      exact ⟨a, b, xs, ys, h1, h4, h2, h5, by omega, fun p hp => g.newL rp hp (rf_new rp hp (AtL.stays ((Ext.newL hp).stays rp.st) (h3.append h6)))⟩
    | _ => cases hd
  | _ => cases hd
theorem op_repL : OpR X (binaryOp .Mult) (rRepL X.K) := by
  intro pins s σ H x y v u Q I rx ry h
  obtain ⟨l, k, xs, rfl, rfl, hH, h1, h2, hz, q⟩ := h
  cases rx
  obtain ⟨t, rfl⟩ := ry
  obtain ⟨z, its, n, r, hl, e⟩ := Inv.lstX I hH
  have hlen : its.toArray.size * k.toNat ≤ sizeLine := by rw [List.size_toArray, ← hl]; exact hz
  have hcap : ¬ its.toArray.size * k.toNat > (2 ^ 63 - 1) / 8 := by
    have : (sizeLine : Nat) ≤ (2 ^ 63 - 1) / 8 := by decide
    omega
  have hfit : ¬ (!Builtin.List.listFitsIndex k) = true := by
    rw [fitsIndex_both h1 h2]
    exact Bool.false_ne_true
  have hlong : ¬ Builtin.List.listTooLong (its.toArray.size * k.toNat) = true := by
    rw [notLongL hlen]
    exact Bool.false_ne_true
  have hnew : List.foldl (fun x1 x2 => x1 ++ x2) #[] (List.replicate (if its.toArray.isEmpty = true then 0 else k.toNat) its.toArray) = (List.replicate k.toNat its).flatten.toArray := by
    have f0 : ∀ m : Nat, List.foldl (fun x1 x2 => x1 ++ x2) #[] (List.replicate m its.toArray) = (List.replicate m its).flatten.toArray := fun m => by
      have := foldl_rep its m []
      rw [List.nil_append] at this
      exact this
    rw [f0]
    cases its with
    | nil => simp
    | cons a r' => rw [if_neg (by simp)]
  refine wpAny_binaryOp_repeat_ref (T := "list") (U := "int") (by decide) ⟨_, e, rfl⟩ (fun s' => typeIs_int s' k t) noFill_list_mul F.fills_int_mul F.slot_int_rmul repeat_list F.slot_int_index.lookup
    (call_meets F.slot_int_rmul (typeIs_int s k t) F.entry_int_rmul (F.args_int_rmul_2 _ _) (int___rmul___int_list k t l its.toArray n)
      ⟨e, rfl, ⟨_, e, rfl⟩, call_meets F.slot_list_mul ⟨_, e, rfl⟩ F.entry_list_mul (F.args_list_mul_2 _ _) (AutoListH.list___mul___list_int_3 l its.toArray n k t hfit hcap hlong) ⟨e, ?_⟩⟩)
  rw [hnew]
  exact ⟨.ref _, _, I.lnew (t' := s.toks) (r.rep k.toNat) (by rw [PyProof.Rows.lm_len_rep_flat, Nat.mul_comm]; exact hz), rfl, q _ I.fresh⟩
theorem rngOk_of {i : Int} (h : rngOk i = true) : -(2 ^ 62) ≤ i ∧ i < 2 ^ 62 := by
  unfold rngOk at h
  simp only [Bool.and_eq_true, decide_eq_true_eq] at h
  exact h
theorem hr_rep : HR B (RF B) (fun x y => liftO (dfre .rep [x, y])) (rRepL B.G.K) := by
  intro σ F ρ H en S x y d1 d2 Q rp hx hy g
  obtain ⟨d, hd, g⟩ := g.lift
  cases d1 with
  | lst l =>
    cases d2 with
    | int n =>
      obtain ⟨hz, ez⟩ := ite_some (show (if (rngOk n && small (l.length * n.toNat)) = true then some (D.lst (List.replicate n.toNat l).flatten) else none) = some d from hd)
      subst ez
      rw [Bool.and_eq_true] at hz
      obtain ⟨h7, h8⟩ := rngOk_of hz.1
      have h9 := small_of hz.2
      obtain ⟨a, xs, h1, h2, h3⟩ := hx.lst
      have e1 := h3.length
      exact ⟨a, n, xs, h1, hy.int, h2, by omega, by omega, by rw [e1]; exact h9, fun p hp => g.newL rp hp (rf_new rp hp (AtL.stays ((Ext.newL hp).stays rp.st) (h3.rep _)))⟩
    | _ => cases hd
  | _ => cases hd
theorem sf_cat (ha : Sb B T Γ k c a ma) (hb : Sb B T Γ k c b mb) : Sf B T Γ k c (.BinOp a .Add b pos) (do let x ← ma; let y ← mb; liftO (dfre .cat [x, y])) := s_bin ha hb (fun X x0 => by rw [← x0.K]; exact op_catL) hr_cat
theorem sf_rep (ha : Sb B T Γ k c a ma) (hb : Sb B T Γ k c b mb) : Sf B T Γ k c (.BinOp a .Mult b pos) (do let x ← ma; let y ← mb; liftO (dfre .rep [x, y])) := s_bin ha hb (fun X x0 => by rw [← x0.K]; exact op_repL) hr_rep
end
end Eng

set_option maxHeartbeats 4000000
/-! THE ENGINE, part J: isinstance, dict displays, sorted. -/
namespace Eng
open PySem PySem.Spec L2 PyProof.Rows
section
variable {B : Bd} {T : Tab} {Γ : Gm} {k : Nat} {c : Ctx} {X : Cx} {e a b a3 : PySem.Expr} {ma mb mc m : M D} {pos : Pos} {es : List PySem.Expr} {ml : M (List D)}
/-! ### isinstance -/
def tyN : D → String
  | .non => "NoneType"
  | .bl _ => "bool"
  | .int _ => "int"
  | .str _ => "str"
  | .tup _ => "tuple"
  | .lst _ => "list"
  | .dic _ => "dict"
  | _ => ""
def Ty.name : Ty → String
  | .int => "int" | .bool => "bool" | .str => "str" | .tuple => "tuple" | .list => "list" | .dict => "dict"
def tyIs (n : String) : Ty → Bool
  | .int => n == "int" || n == "bool"
  | .bool => n == "bool"
  | .str => n == "str"
  | .tuple => n == "tuple"
  | .list => n == "list"
  | .dict => n == "dict"
theorem kit_non (t : Ty) : kitB "NoneType" t.name = some (tyIs "NoneType" t) := by cases t <;> decide +kernel
theorem kit_bool (t : Ty) : kitB "bool" t.name = some (tyIs "bool" t) := by cases t <;> decide +kernel
theorem kit_int (t : Ty) : kitB "int" t.name = some (tyIs "int" t) := by cases t <;> decide +kernel
theorem kit_str (t : Ty) : kitB "str" t.name = some (tyIs "str" t) := by cases t <;> decide +kernel
theorem kit_tuple (t : Ty) : kitB "tuple" t.name = some (tyIs "tuple" t) := by cases t <;> decide +kernel
theorem kit_list (t : Ty) : kitB "list" t.name = some (tyIs "list" t) := by cases t <;> decide +kernel
theorem kit_dict (t : Ty) : kitB "dict" t.name = some (tyIs "dict" t) := by cases t <;> decide +kernel
theorem kit_disi (t : Ty) (d : D) (h : d.isiOk = true) : kitB (tyN d) t.name = some (disi t d) := by
  have e : disi t d = tyIs (tyN d) t := by cases d <;> cases t <;> first | rfl | decide +kernel
  rw [e]
  cases d with
  | non => exact kit_non t
  | bl b => exact kit_bool t
  | int i => exact kit_int t
  | str x => exact kit_str t
  | tup l => exact kit_tuple t
  | lst l => exact kit_list t
  | dic l => exact kit_dict t
  | ref _ => cases h
  | fn _ => cases h
  | scr _ => cases h
theorem tyX_of {σ : L2.St} {F : Addr → Prop} {ρ : List Addr} {H Hb : Hp} {en : Env} {v : V} {d : D} (h : RB B Hb F ρ H σ en v d) (hd : d.isiOk = true) : TyX B.G.K H v (.type (tyN d)) := by
  rcases h with h | ⟨a, xs, ds, h1, h2, h3, _⟩
  · cases h with
    | non => exact .base .non
    | bl b => exact .base (.bl b)
    | int i => exact .base (.int i)
    | str x => exact .base (.str x)
    | tup h _ =>
      rcases h with ⟨_, h | ⟨o, h⟩⟩ | ⟨o, its, n, h1, h2, _⟩
      · exact .base (.tup h)
      · exact .fTuple h
      · exact .kTuple h1 h2
    | lst h _ =>
      rcases h with ⟨_, h | ⟨o, h⟩⟩ | ⟨its, n, h1, _⟩
      · exact .base (.lst h)
      · exact .base (.frz h)
      · exact .kList h1 rfl
    | dic _ h _ => exact .base (.dK h)
    | ref _ => cases hd
    | fn _ => cases hd
    | scr _ _ => cases hd
  · subst h1 h2
    exact .base (.lst h3)
theorem ty_boot (t : Ty) : bootBuiltins (Str.ofString t.name) = some (.type t.name) := by cases t <;> decide +kernel
theorem sa_isi {x tn : Str} {p p2 : Pos} {t : Ty} (htn : tn = Str.ofString t.name) (hx : x = ("isinstance" : Str)) (hf : T.free.contains x = true) (hg : globB c.sc x = true) (hf2 : T.free.contains tn = true) (hg2 : globB c.sc tn = true)
    (hb : Sb B T Γ k c a ma) (hs : notStar a = true) :
    Sa B T Γ k c (.Call (.Name x p) [a, .Name tn p2] [] pos) (do let x ← ma; isiM x.isiOk (.bl (disi t x))) := by
  intro X x0
  have hd2 : noDebug tn = true := by subst htn; cases t <;> decide +kernel
  have hbt : bootBuiltins tn = some (.type t.name) := by rw [htn]; exact ty_boot t
  have hA : PA X [a, .Name tn p2] _ := pa_cons (hb X x0) (pa_cons (pe_bltn (v := .ty t.name) (gl_of x0.sc hg2) (x0.gl.free tn (List.contains_iff_mem.mp hf2)) hbt rfl (nd3 hd2) (nd1 hd2)) pa_nil (star_cons rfl)) (star_cons hs)
  subst hx
  refine PEi (pe_callB call_isi (gl_of x0.sc hg) (x0.gl.free _ (List.contains_iff_mem.mp hf)) (by decide +kernel) hA (by decide) (by decide) (star_cons hs) (any_star rfl)) fun σ H Q ⟨F, ρ, en, S, rp, g⟩ => ?_
  refine ⟨F, ρ, en, S, rp, (Good.bind g).mono ?_⟩
  rintro v H1 ⟨F1, ρ1, e1, S1, d, m1, rp1, r1, g1⟩
  cases hk : d.isiOk with
  | false =>
    have g1' : Good B σ (RA B) F1 ρ1 H1 e1 (isiM d.isiOk (.bl (disi t d)) e1 S1) Q := g1
    rw [hk] at g1'
    exact False.elim g1'
  | true =>
    have g1' : Good B σ (RA B) F1 ρ1 H1 e1 (isiM d.isiOk (.bl (disi t d)) e1 S1) Q := g1
    rw [hk] at g1'
    refine ⟨v, .ty t.name, .type (tyN d), .type t.name, disi t d, rfl, .ty _, ?_, kit_ty (kit_disi t d hk), Good.val (R := RA B) (a := D.bl (disi t d)) g1' rp1 (.bl _)⟩
    rw [x0.K]
    exact tyX_of r1 hk

/-! ### an object that is known to nobody yet -/
theorem stays_hide {F : Addr → Prop} {ρ : List Addr} {H : Hp} {p : Addr} {u : HO} (hF : ¬ F p) : Stays F F ρ ρ H (upd H p u) := ⟨fun _ h => h, List.prefix_rfl, fun a o f h _ => by
  rw [upd_ne (fun (z : a = p) => hF (z ▸ f))]; exact h⟩
theorem Rep.hide {G : Gl0} {N : Ent} {F : Addr → Prop} {ρ : List Addr} {H : Hp} {σ : L2.St} {en : Env} {S : Sto} {p : Addr} {u : HO} (rp : Rep G N F ρ H σ en S) (hF : ¬ F p) (hr : p ∉ ρ) (ho : ¬ OwnAt σ en p) (h0 : Frh N.H p) (hk : ∀ o, H p = some o → okU o = true) : Rep G N F ρ (upd H p u) σ en S := by
  have sy : Stays F F ρ ρ H (upd H p u) := stays_hide hF
  refine ⟨⟨rp.st.nod, rp.st.fr, fun b h => ?_, tabs_upd rp.st.tabs hk, rp.st.len, fun i l h => ?_⟩, ⟨rp.ext.f, rp.ext.fn, rp.ext.r, rp.ext.rn, fun b o h hn hb => ?_, fun b h => ?_⟩, rp.len, fun i s h => ?_, rp.own0, rp.dist⟩
  · exact frh_upd (rp.st.ft b h) (fun (z : b = p) => hF (z ▸ h))
  · obtain ⟨b, ys, h1, h2, h3⟩ := rp.st.sto i l h
    exact ⟨b, ys, h1, by rw [upd_ne (fun (z : b = p) => hr (z ▸ List.mem_of_getElem? h1))]; exact h2, h3.stays sy⟩
  · rw [upd_ne (ne_of_frh h hn h0)]; exact rp.ext.kp b o h hn hb
  · by_cases hb : b = p
    · rw [hb]; exact h0
    · exact rp.ext.tr b fun o e => h o (by rw [upd_ne hb]; exact e)
  · obtain ⟨ov, h1, h2⟩ := rp.slot i s h
    refine ⟨ov, h1, ?_⟩
    cases s with
    | emp => trivial
    | val d =>
      obtain ⟨v, h3, h4⟩ := h2
      exact ⟨v, h3, h4.stays sy⟩
    | own l =>
      obtain ⟨b, ys, h3, h4, h5, h6, h7⟩ := h2
      refine ⟨b, ys, h3, ?_, h5.stays sy, h6, h7⟩
      rw [upd_ne (fun z => ho ⟨i, l, h, by rw [h1, h3, z]⟩)]
      exact h4
    | thk =>
      obtain ⟨f, c, q, h3, h4, h5, h6⟩ := h2
      exact ⟨f, c, q, h3, h4, by rw [upd_ne (ne_code h5 hk)]; exact h5, h6⟩
    | exn y => exact h2
/-- .. frozen -/
theorem Rep.shut {G : Gl0} {N : Ent} {F : Addr → Prop} {ρ : List Addr} {H : Hp} {σ : L2.St} {en : Env} {S : Sto} {p : Addr} (rp : Rep G N F ρ H σ en S) (hr : p ∉ ρ) (ho : ¬ OwnAt σ en p) (h0 : Frh N.H p) (hp : ¬ Frh H p) : Rep G N (fun a => F a ∨ a = p) ρ H σ en S := by
  have sy : Stays F (fun b => F b ∨ b = p) ρ ρ H H := ⟨fun _ h => .inl h, List.prefix_rfl, fun _ _ _ h _ => h⟩
  refine ⟨⟨rp.st.nod, fun b h => ?_, fun b h => ?_, rp.st.tabs, rp.st.len, fun i l h => ?_⟩, ⟨fun b h => .inl (rp.ext.f b h), fun b h => ?_, rp.ext.r, rp.ext.rn, rp.ext.kp, rp.ext.tr⟩, rp.len, fun i s h => ?_, rp.own0, rp.dist⟩
  · rcases h with h | h
    · exact rp.st.fr b h
    · exact h ▸ hr
  · rcases h with h | h
    · exact rp.st.ft b h
    · exact h ▸ hp
  · obtain ⟨b, ys, h1, h2, h3⟩ := rp.st.sto i l h
    exact ⟨b, ys, h1, h2, h3.stays sy⟩
  · rcases h with h | h
    · exact rp.ext.fn b h
    · exact .inr (.inl (h ▸ h0))
  · obtain ⟨ov, h1, h2⟩ := rp.slot i s h
    refine ⟨ov, h1, ?_⟩
    cases s with
    | emp => trivial
    | val d =>
      obtain ⟨v, h3, h4⟩ := h2
      exact ⟨v, h3, h4.stays sy⟩
    | own l =>
      obtain ⟨b, ys, h3, h4, h5, h6, h7⟩ := h2
      refine ⟨b, ys, h3, h4, h5.stays sy, fun z => ?_, h7⟩
      rcases z with z | z
      · exact h6 z
      · exact ho ⟨i, l, h, by rw [h1, h3, z]⟩
    | thk => exact h2
    | exn y => exact h2
theorem Mono.hide {σ : L2.St} {e0 en : Env} {F0 F : Addr → Prop} {ρ0 ρ : List Addr} {H0 H : Hp} {p : Addr} {u : HO} (m : Mono σ e0 F0 ρ0 H0 en F ρ H) (hp : H0 p = none) : Mono σ e0 F0 ρ0 H0 en F ρ (upd H p u) :=
  ⟨⟨m.ext.f, m.ext.fn, m.ext.r, m.ext.rn, fun a o h hn ha => by rw [upd_ne (ne_of_none h hp)]; exact m.ext.kp a o h hn ha, fun a h => by
    by_cases hb : a = p
    · rw [hb]; exact frh_none hp
    · exact m.ext.tr a fun o e => h o (by rw [upd_ne hb]; exact e)⟩, m.sub⟩
theorem Mono.shut {σ : L2.St} {e0 en : Env} {F0 F : Addr → Prop} {ρ0 ρ : List Addr} {H0 H : Hp} {p : Addr} (m : Mono σ e0 F0 ρ0 H0 en F ρ H) (hp : H0 p = none) : Mono σ e0 F0 ρ0 H0 en (fun a => F a ∨ a = p) ρ H :=
  ⟨⟨fun a h => .inl (m.ext.f a h), fun a h => by
    rcases h with h | h
    · exact m.ext.fn a h
    · exact .inr (.inl (h ▸ frh_none hp)), m.ext.r, m.ext.rn, m.ext.kp, m.ext.tr⟩, m.sub⟩
/-- what was new and known to nobody stays so -/
theorem Mono.nobody {G : Gl0} {N : Ent} {σ : L2.St} {e0 en : Env} {F0 F : Addr → Prop} {ρ0 ρ : List Addr} {H0 H : Hp} {S0 : Sto} {p : Addr} {u : HO} (rp0 : Rep G N F0 ρ0 H0 σ e0 S0) (hp : H0 p = none) (m : Mono σ e0 F0 ρ0 (upd H0 p u) en F ρ H) (hu : noTab u = true) :
    ¬ F p ∧ p ∉ ρ ∧ ¬ OwnAt σ en p ∧ Frh N.H p ∧ H p = some u := by
  obtain ⟨h1, h2⟩ := rp0.st.no hp
  have h3 : ¬ OwnAt σ e0 p := fun z => by
    obtain ⟨_, _, ys, q⟩ := rp0.ownAt z
    rw [hp] at q; cases q
  refine ⟨fun z => ?_, fun z => ?_, fun z => h3 (m.sub.at z), rp0.ext.tr p (frh_none hp), m.ext.kp p u upd_same hu h2⟩
  · rcases m.ext.fn p z with q | q | q
    · exact h1 q
    · exact q.no upd_same hu
    · exact h3 q
  · rcases m.ext.rn p z with q | q
    · exact h2 q
    · exact q.no upd_same hu

/-! ### dict displays -/
theorem sa_dict0 : Sa B T Γ k c (.Dict [] [] pos) (do let ds ← (M.pure [] : M (List (Key × D))); M.pure (.dic ds)) := fun X x0 => PEi pe_dnewK fun σ H Q ⟨F, ρ, en, S, rp, g⟩ => fun p hp =>
  Good.new (R := RA B) (a := D.dic []) g rp hp (.dic (.inr rfl) upd_same .nil)
def Sk (B : Bd) (T : Tab) (Γ : Gm) (k : Nat) (c : Ctx) (ks : List (Option PySem.Expr)) (vs : List PySem.Expr) (m : M (List (Key × D))) : Prop := ∀ X, XOk B T Γ k c X → ∀ pos, ∃ trs, PPs X pos ks vs trs ∧
  ∀ σ H (Q : List (V × V) → Hp → Prop), tR B (RK B) m σ H (fun kvs H' => Q (kvs.map fun kv => (kV kv.1, kv.2)) H') → tPairs trs σ H Q
theorem sk_nil : Sk B T Γ k c [] [] (M.pure []) := fun X _ pos => ⟨[], pps_nil, fun σ H Q ⟨F, ρ, en, S, rp, g⟩ => Good.val (R := RK B) g rp .nil⟩
theorem sk_cons {key : PySem.Expr} {kk : Key} {ks : List (Option PySem.Expr)} {vs : List PySem.Expr} {mk : M (List (Key × D))} (hk : ∀ X : Cx, PE X key (tC (kV kk))) (ha : Sa B T Γ k c a ma) (hr : Sk B T Γ k c ks vs mk) :
    Sk B T Γ k c (some key :: ks) (a :: vs) (do let x ← ma; let xs ← mk; M.pure ((kk, x) :: xs)) := by
  intro X x0 pos
  obtain ⟨trs, h1, h2⟩ := hr X x0 pos
  refine ⟨_, pps_cons (hk X) (ha X x0) h1, fun σ H Q ⟨F, ρ, en, S, rp, g⟩ => ?_⟩
  refine ⟨F, ρ, en, S, rp, (Good.bind g).mono ?_⟩
  rintro v H1 ⟨F1, ρ1, e1, S1, d, m1, rp1, r1, g1⟩
  refine h2 σ H1 _ ⟨F1, ρ1, e1, S1, rp1, (Good.bind g1).mono ?_⟩
  rintro kvs H2 ⟨F2, ρ2, e2, S2, ds, m2, rp2, r2, g2⟩
  exact Good.val (R := RK B) (a := (kk, d) :: ds) (b := (kk, v) :: kvs) g2 rp2 (.cons (RA.later (Hb := H2) rp1 m2 r1) r2)
theorem putK_new {xs : List (Key × V)} {k : Key} {v : V} (h : k ∉ xs.map (·.1)) : putK xs k v = xs ++ [(k, v)] := by
  unfold putK
  rw [if_neg]
  intro z
  obtain ⟨kv, h1, h2⟩ := List.any_eq_true.mp z
  exact h (List.mem_map.mpr ⟨kv, h1, of_decide_eq_true h2⟩)
theorem merge_new : ∀ {more xs : List (Key × V)}, ((xs ++ more).map (·.1)).Nodup → mergeK xs more = xs ++ more
  | [], xs, _ => by rw [List.append_nil]; rfl
  | (k, v) :: r, xs, h => by
    have h1 : k ∉ xs.map (·.1) := fun z => by
      rw [List.map_append, List.nodup_append] at h
      exact h.2.2 k z k (by simp) rfl
    show mergeK (putK xs k v) r = _
    rw [putK_new h1, merge_new (by rw [List.append_assoc]; exact h), List.append_assoc]
    rfl
theorem atK_keys {F : Addr → Prop} {ρ : List Addr} {H : Hp} : ∀ {xs : List (Key × V)} {ds : List (Key × D)}, AtK B.G F ρ H xs ds → xs.map (·.1) = ds.map (·.1)
  | _, _, .nil => rfl
  | _, _, .cons _ t => by rw [List.map_cons, List.map_cons, atK_keys t]
def keysO (ks : List (Option PySem.Expr)) : Bool := ks.all (·.isSome)
theorem sa_dict {ks : List (Option PySem.Expr)} {vs : List PySem.Expr} {mk : M (List (Key × D))} {kk : List Key} (hr : Sk B T Γ k c ks vs mk) (hkk : ∀ en S ds e' S', mk en S = .ok ds e' S' → ds.map (·.1) = kk) (hnd : kk.Nodup) (hk15 : kk.length ≤ 15)
    (hall : ks.all (·.isSome) = true) (hl : ks.length = vs.length) (h0 : ks ≠ []) (h15 : ks.length ≤ 15) : Sa B T Γ k c (.Dict ks vs pos) (do let ds ← mk; M.pure (.dic ds)) := by
  intro X x0
  obtain ⟨trs, h1, h2⟩ := hr X x0 pos
  refine PEi (pe_disp h1 hall hl h0 h15) fun σ H Q ⟨F, ρ, en, S, rp, g⟩ => fun p hp => ?_
  obtain ⟨rp0, m0⟩ := rp.call (Ext.newL (u := .dK []) hp) (rp.st.newL hp)
  refine h2 σ _ _ ⟨F, ρ, en, S, rp0, ?_⟩
  have g' : Good B σ (RA B) F ρ H en (M.bind mk (fun ds => M.pure (D.dic ds)) en S) Q := g
  unfold M.bind at g'
  cases hm : mk en S with
  | exc x e' S' =>
    rw [hm] at g'
    exact fun F' ρ' H' cls od m rp' ev => g' F' ρ' H' cls od (m0.trans m) rp' ev
  | fail =>
    rw [hm] at g'
    exact g'
  | ok ds e1 S1 =>
    rw [hm] at g'
    intro F1 ρ1 H1 kvs m1 rp1 r1
    obtain ⟨q1, q2, q3, q4, q5⟩ := Mono.nobody rp hp m1 rfl
    have hkeys := atK_keys (show AtK B.G F1 ρ1 H1 kvs ds from r1)
    have hk' := hkk en S ds e1 S1 hm
    refine ⟨q5, kvs, rfl, ?_, ?_⟩
    · have : kvs.length = kk.length := by rw [← List.length_map (f := (·.1)) (as := kvs), hkeys, hk']
      omega
    · rw [merge_new (by rw [List.nil_append, hkeys, hk']; exact hnd), List.nil_append]
      have rp2 := rp1.hide (u := .dK kvs) q1 q2 q3 q4 (fun o e => by rw [q5] at e; cases e; rfl)
      have rp3 := rp2.shut q2 q3 q4 (fun z => z.no upd_same rfl)
      have m2 := ((m0.trans m1).hide (u := .dK kvs) hp).shut hp
      have sy : Stays F1 (fun b => F1 b ∨ b = p) ρ1 ρ1 H1 (upd H1 p (.dK kvs)) := ⟨fun _ h => .inl h, List.prefix_rfl, fun a o f h _ => by rw [upd_ne (fun (z : a = p) => q1 (z ▸ f))]; exact h⟩
      exact g' _ ρ1 _ _ m2 rp3 (.dic (.inr rfl) upd_same (AtK.stays sy r1))
end
end Eng

set_option maxHeartbeats 4000000
/-! THE ENGINE, part K: sorted; targets; iterators. -/
namespace Eng
open PySem PySem.Spec L2 PyProof.Rows
section
variable {B : Bd} {T : Tab} {Γ : Gm} {k : Nat} {c : Ctx} {X : Cx} {e a b a3 : PySem.Expr} {ma mb mc m : M D} {pos : Pos} {es : List PySem.Expr} {ml : M (List D)}
/-! ### sorted -/
def rSortD (K : PySem.W.Frag) : List V → Hp → VK → Prop := fun vs H Q => ∃ (a : Addr) (xs : List V) (bs : List D) (P : V → D → Prop), vs = [.ref a] ∧ (SqL K H a xs) ∧ Paired P xs bs ∧ Paired (fun v d => Dp K H v (enc d)) xs bs ∧
  PySem.W.AllAlike (bs.map enc) ∧ PySem.W.Sortable (bs.map enc) ∧ (∀ b ∈ bs, (enc b).depth ≤ 60) ∧ bs.length ≤ sizeLine ∧ ∀ p ys, H p = none → Paired P ys (bs.mergeSort (PySem.W.dataLe false enc)) → Q (.ref p) (upd H p (.lst ys))
theorem each_of {R : Value → D → Prop} : ∀ {xs : List V} {its : List Value} {bs : List D} {P : V → D → Prop}, Vals xs its → Paired P xs bs → (∀ x v d, RelV x v → P x d → R v d) → PySem.W.EachIs R its bs
  | _, _, _, _, .nil, .nil, _ => .nil
  | _, _, _, _, .cons r t, .cons p q, h => .cons (h _ _ _ r p) (each_of t q h)
theorem of_each {P : V → D → Prop} : ∀ {its : List Value} {bs : List D}, PySem.W.EachIs (fun v d => ∃ x, RelV x v ∧ P x d) its bs → ∃ xs, Vals xs its ∧ Paired P xs bs
  | _, _, .nil => ⟨[], .nil, .nil⟩
  | _, _, .cons ⟨x, h1, h2⟩ t => by
    obtain ⟨xs, h3, h4⟩ := of_each t
    exact ⟨x :: xs, .cons h1 h3, .cons h2 h4⟩
theorem cr_sortD (hu : X.A.units + 70 < cLine) : CallR X (.builtin "sorted") (rSortD X.K) := by
  intro pins s σ H vs us Q I r h
  obtain ⟨a, xs, bs, P, rfl, hs, hp, hd, hal, hso, hdep, hL, q⟩ := h
  obtain ⟨its, rv, hl, hz⟩ := I.list hs
  rw [Vals.ref1 r]
  refine PySem.W.sorted_data (bs := bs) (enc := enc) (R := fun v d => ∃ x, RelV x v ∧ P x d) hl.isList (each_of rv hp fun x v d h1 h2 => ⟨x, h1, h2⟩) (each_of rv hd fun x v d h1 h2 => Dp.reads I (enc d) x v h2 h1) hal hso hL (fun b hb => ?_) fun out ho eo => ?_
  · have := hdep b hb
    omega
  · obtain ⟨ys, h1, h2⟩ := of_each eo
    obtain ⟨ep, he'⟩ := PyProof.Rows.sortedAll_at s.heap its out.toArray
    have hlen : ys.length ≤ sizeLine := by rw [h1.length, ho]; exact hL
    exact ⟨.ref _, upd H (s.heap.objs.size + 1) (.lst ys), I.laid (t' := s.toks) (fun _ _ => PyProof.Rows.sortedAll_old) (Nat.le_succ _) ⟨hlen, out, ep, h1, he'⟩, rfl, q _ _ (I.hok.fresh (Nat.le_succ _)) h2⟩
theorem paired_at {F : Addr → Prop} {ρ : List Addr} {H : Hp} : ∀ {xs : List V} {ds : List D}, AtL B.G F ρ H xs ds → Paired (At B.G F ρ H) xs ds
  | _, _, .nil => .nil
  | _, _, .cons h t => .cons h (paired_at t)
theorem at_paired {F : Addr → Prop} {ρ : List Addr} {H : Hp} : ∀ {xs : List V} {ds : List D}, Paired (At B.G F ρ H) xs ds → AtL B.G F ρ H xs ds
  | _, _, .nil => .nil
  | _, _, .cons h t => .cons h (at_paired t)
theorem ordAll_of {F : Addr → Prop} {ρ : List Addr} {H : Hp} : ∀ {xs : List V} {ds : List D} {ps : List PyData}, AtL B.G F ρ H xs ds → ordAll ds = some ps → Paired (fun v d => Dp B.G.K H v (enc d)) xs ds ∧ ds.map enc = ps ∧ ∀ b ∈ ds, (enc b).depth ≤ 60
  | _, _, _, .nil, e => by cases e; exact ⟨.nil, rfl, fun b hb => by cases hb⟩
  | _, _, _, @AtL.cons _ _ _ _ v vs d ds h t, e => by
    unfold ordAll at e
    split at e
    · rename_i p q h1 h2
      cases e
      obtain ⟨g1, g2, g3⟩ := ordAll_of t h2
      unfold D.ordO at h1
      split at h1
      · rename_i p' hp'
        split at h1
        · rename_i hdep
          cases h1
          have e1 : enc d = p := by unfold enc; rw [hp']; rfl
          refine ⟨.cons (by rw [e1]; exact dp_of h hp') g1, by rw [List.map_cons, e1, g2], fun b hb => ?_⟩
          rcases List.mem_cons.mp hb with rfl | hb
          · rw [e1]; exact of_decide_eq_true hdep
          · exact g3 b hb
        · cases h1
      · cases h1
    · cases e
theorem sortOk_of {ps : List PyData} (h : sortOk ps = true) : PySem.W.AllAlike ps ∧ PySem.W.Sortable ps := by
  unfold sortOk at h
  simp only [Bool.and_eq_true, Bool.or_eq_true, List.all_eq_true] at h
  refine ⟨fun d hd d' hd' => h.1 d hd d' hd', ?_⟩
  rcases h.2 with h2 | h2
  · refine .inl fun d hd => ?_
    have := h2 d hd
    unfold isTupNe at this
    split at this
    · exact ⟨_, _, rfl⟩
    · cases this
  · refine .inr fun d hd => ?_
    have := h2 d hd
    unfold isPlainK at this
    split at this
    · cases this
    · cases this
    · rename_i h3 h4
      exact ⟨fun z => h3 z, fun xs z => h4 xs z⟩
theorem ins_at {α : Type} {le : α → α → Bool} {a : α} : ∀ {l₁ l₂ : List α}, (∀ b ∈ l₁, le a b = false) → (∀ b ∈ l₂, le a b = true) → ins le a (l₁ ++ l₂) = l₁ ++ a :: l₂
  | [], [], _, _ => rfl
  | [], b :: l₂, _, h => by
    show (if le a b = true then a :: b :: l₂ else b :: ins le a l₂) = _
    rw [if_pos (h b List.mem_cons_self)]
    rfl
  | b :: l₁, l₂, h1, h2 => by
    show (if le a b = true then a :: b :: (l₁ ++ l₂) else b :: ins le a (l₁ ++ l₂)) = _
    rw [if_neg (by rw [h1 b List.mem_cons_self]; decide), ins_at (fun b hb => h1 b (List.mem_cons_of_mem _ hb)) h2]
    rfl
theorem isort_eq {α : Type} {le : α → α → Bool} (ht : ∀ a b c, le a b = true → le b c = true → le a c = true) (hl : ∀ a b, (le a b || le b a) = true) : ∀ l : List α, isort le l = l.mergeSort le
  | [] => by simp [isort]
  | a :: l => by
    obtain ⟨l₁, l₂, h1, h2, h3⟩ := List.mergeSort_cons ht hl a l
    have hs := List.pairwise_mergeSort ht hl (a :: l)
    show ins le a (isort le l) = _
    rw [isort_eq ht hl l, h2, h1]
    rw [h1] at hs
    refine ins_at (fun b hb => by simpa using h3 b hb) fun b hb => ?_
    have := (List.pairwise_append.mp hs).2.1
    exact List.rel_of_pairwise_cons this hb
theorem isort_data (l : List D) : isort (PySem.W.dataLe false enc) l = l.mergeSort (PySem.W.dataLe false enc) :=
  isort_eq (fun a b c => (PySem.W.sortLe_total _ false _).trans a b c) (fun a b => Bool.or_eq_true_iff.mpr ((PySem.W.sortLe_total _ false _).total a b)) l
theorem hrl_sorted : HRL B (RF B) (dfre .sorted) (rSortD B.G.K) := by
  intro σ F ρ H en S xs ds Q rp hx g
  obtain ⟨d, hd, g⟩ := g.lift
  match ds, hx, hd with
  | [.lst l], hx, hd =>
    have hd' : dsort l = some d := hd
    unfold dsort at hd'
    split at hd'
    · rename_i ps hps
      obtain ⟨hz, ez⟩ := ite_some hd'
      rw [isort_data] at ez
      subst ez
      rw [Bool.and_eq_true] at hz
      obtain ⟨x, e, hx1⟩ := Paired.one hx
      subst e
      obtain ⟨a, xs, h1, h2, h3⟩ := RB.lst hx1
      subst h1
      obtain ⟨g1, g2, g3⟩ := ordAll_of h3 hps
      obtain ⟨s1, s2⟩ := sortOk_of hz.1
      exact ⟨a, xs, l, At B.G F ρ H, rfl, h2.sq, paired_at h3, g1, by rw [g2]; exact s1, by rw [g2]; exact s2, g3, small_of hz.2, fun p ys hp hy => g.newL rp hp (rf_new rp hp (AtL.stays ((Ext.newL hp).stays rp.st) (at_paired hy)))⟩
    · cases hd'

/-! ### targets -/
/-- σ2 is σ but for the names in vs -/
def SameBut (σ2 σ : L2.St) (vs : List Nat) : Prop := σ2.length = σ.length ∧ ∀ i, i ∉ vs → σ2[i]? = σ[i]?
def tTg (B : Bd) (t : Tg) : TG := fun v σ H Q => ∃ F ρ e S d e2, Rep B.G B.N F ρ H σ e S ∧ At B.G F ρ H v d ∧ bindT t d e = some e2 ∧
  ∀ σ2, Rep B.G B.N F ρ H σ2 e2 S → SameBut σ2 σ t.idx → (∀ i l, e2[i]? = some (Slot.own l) → e[i]? = some (Slot.own l) ∧ i ∉ t.idx) → Q σ2 H
def tTgs (B : Bd) (ts : List Tg) : TGs := fun vs σ H Q => ∃ F ρ e S ds e2, Rep B.G B.N F ρ H σ e S ∧ AtL B.G F ρ H vs ds ∧ bindTs ts ds e = some e2 ∧
  ∀ σ2, Rep B.G B.N F ρ H σ2 e2 S → SameBut σ2 σ (Tg.idxs ts) → (∀ i l, e2[i]? = some (Slot.own l) → e[i]? = some (Slot.own l) ∧ i ∉ Tg.idxs ts) → Q σ2 H
def St_ (B : Bd) (T : Tab) (Γ : Gm) (k : Nat) (c : Ctx) (tg : PySem.Expr) (t : Tg) : Prop := ∀ X, XOk B T Γ k c X → PG X tg (tTg B t)
def Sts_ (B : Bd) (T : Tab) (Γ : Gm) (k : Nat) (c : Ctx) (tg : List PySem.Expr) (t : List Tg) : Prop := ∀ X, XOk B T Γ k c X → PGs X tg (tTgs B t)
theorem PGi {X : Cx} {tg : PySem.Expr} {t t' : TG} (h : PG X tg t) (i : ∀ v σ H Q, t' v σ H Q → t v σ H Q) : PG X tg t' := ⟨fun p s σ H v u Q I r q => h.run p s σ H v u Q I r (i v σ H Q q)⟩
theorem PGsi {X : Cx} {tg : List PySem.Expr} {t t' : TGs} (h : PGs X tg t) (i : ∀ v σ H Q, t' v σ H Q → t v σ H Q) : PGs X tg t' := ⟨fun p s σ H v u Q I r q => h.run p s σ H v u Q I r (i v σ H Q q)⟩
theorem Rep.setV {G : Gl0} {N : Ent} {F : Addr → Prop} {ρ : List Addr} {H : Hp} {σ : L2.St} {en : Env} {S : Sto} {i : Nat} {v : V} {d : D} (rp : Rep G N F ρ H σ en S) (h : At G F ρ H v d) : Rep G N F ρ H (σ.set i (some v)) (en.set i (.val d)) S := by
  refine ⟨rp.st, rp.ext, by rw [List.length_set, List.length_set]; exact rp.len, fun j s hs => ?_, fun a ⟨j, l, h1, h2⟩ => ?_, fun j j' l l' a h1 h2 h3 h4 => ?_⟩
  · by_cases hj : j = i
    · subst hj
      by_cases hl : j < en.length
      · rw [List.getElem?_set_self hl] at hs
        cases hs
        exact ⟨_, List.getElem?_set_self (by rw [← rp.len]; exact hl), v, rfl, h⟩
      · rw [List.getElem?_eq_none (by simpa using hl)] at hs; cases hs
    · rw [List.getElem?_set_ne (Ne.symm hj)] at hs
      obtain ⟨ov, q1, q2⟩ := rp.slot j s hs
      exact ⟨ov, by rw [List.getElem?_set_ne (Ne.symm hj)]; exact q1, q2⟩
  · obtain ⟨q1, q2⟩ := set_own h1
    rw [List.getElem?_set_ne (Ne.symm q2)] at h2
    exact rp.own0 a ⟨j, l, q1, h2⟩
  · obtain ⟨q1, q2⟩ := set_own h1
    obtain ⟨q3, q4⟩ := set_own h2
    rw [List.getElem?_set_ne (Ne.symm q2)] at h3
    rw [List.getElem?_set_ne (Ne.symm q4)] at h4
    exact rp.dist j j' l l' a q1 q3 h3 h4
theorem tg_name {i : Nat} {x : Str} (hN : c.N[i]? = some x) (hl : locB c.sc x = true) (hf : c.fnOk x = true ∨ c.sc.names.lookup x = some .local) : St_ B T Γ k c (.Name x pos) (.name i) := by
  intro X x0
  refine PGi (pg_name (i := i) x0.nd (by rw [x0.N]; exact hN) (by rw [x0.sc]; exact loc_of hl) (by rw [x0.sc]; exact hf.imp (x0.fn x) id)) fun v σ H Q ⟨F, ρ, en, S, d, e2, rp, hd, hb, q⟩ => ?_
  have hb' : some (en.set i (.val d)) = some e2 := hb
  cases hb'
  refine q _ (rp.setV hd) ⟨List.length_set .., fun j hj => ?_⟩ (fun j l h => ?_)
  · have hj' : j ≠ i := fun z => hj (by subst z; exact List.mem_singleton_self _)
    rw [List.getElem?_set_ne (Ne.symm hj')]
  · obtain ⟨q1, q2⟩ := set_own h
    exact ⟨q1, fun z => q2 (List.mem_singleton.mp z)⟩
theorem tgs_nil : Sts_ B T Γ k c [] [] := fun X _ => PGsi pgs_nil fun vs σ H Q ⟨F, ρ, en, S, ds, e2, rp, hd, hb, q⟩ => by
  cases ds with
  | cons _ _ => cases hb
  | nil =>
    have hb' : some en = some e2 := hb
    cases hb'
    cases hd
    exact ⟨rfl, q σ rp ⟨rfl, fun _ _ => rfl⟩ fun _ _ h => ⟨h, fun z => nomatch z⟩⟩
theorem tgs_cons {tgs : List PySem.Expr} {t : Tg} {ts : List Tg} (h1 : St_ B T Γ k c e t) (h2 : Sts_ B T Γ k c tgs ts) (hs : notStar e = true) : Sts_ B T Γ k c (e :: tgs) (t :: ts) := fun X x0 =>
  PGsi (pgs_cons (h1 X x0) (h2 X x0) (by cases e <;> first | rfl | cases hs)) fun vs σ H Q ⟨F, ρ, en, S, ds, e2, rp, hd, hb, q⟩ => by
  cases ds with
  | nil => cases hb
  | cons d ds =>
    obtain ⟨e1, b1, b2⟩ := Option.bind_eq_some_iff.mp (show (bindT t d en).bind (fun e' => bindTs ts ds e') = some e2 from hb)
    cases hd with
    | cons hd1 hd2 =>
      refine ⟨_, _, rfl, F, ρ, en, S, d, e1, rp, hd1, b1, fun σ1 rp1 s1 o1 => ?_⟩
      refine ⟨F, ρ, e1, S, ds, e2, rp1, hd2, b2, fun σ2 rp2 s2 o2 => ?_⟩
      refine q σ2 rp2 ⟨s2.1.trans s1.1, fun i hi => ?_⟩ (fun i l h => ?_)
      · have hi' : i ∉ t.idx ++ Tg.idxs ts := hi
        rw [List.mem_append, not_or] at hi'
        rw [s2.2 i hi'.2, s1.2 i hi'.1]
      · obtain ⟨g1, g2⟩ := o2 i l h
        obtain ⟨g3, g4⟩ := o1 i l g1
        refine ⟨g3, fun z => ?_⟩
        have z' : i ∈ t.idx ++ Tg.idxs ts := z
        rcases List.mem_append.mp z' with z | z
        · exact g4 z
        · exact g2 z
end
end Eng

set_option maxHeartbeats 4000000
/-! THE ENGINE, part L: targets of tuples; iterators; comprehensions. -/
namespace Eng
open PySem PySem.Spec L2 PyProof.Rows
section
variable {B : Bd} {T : Tab} {Γ : Gm} {k : Nat} {c : Ctx} {X : Cx} {e a b a3 : PySem.Expr} {ma mb mc m : M D} {pos : Pos} {es : List PySem.Expr} {ml : M (List D)}
theorem assignEach_len {env : PySem.Env} : ∀ {tgs : List PySem.Expr}, tgs.all notStar = true → (assignEach tgs env).length = tgs.length ∧ (assignEach tgs env).findIdx? (·.1) = none
  | [], _ => ⟨rfl, rfl⟩
  | t :: r, h => by
    rw [List.all_cons, Bool.and_eq_true] at h
    obtain ⟨h1, h2⟩ := assignEach_len (env := env) h.2
    have e : assignEach (t :: r) env = (false, assign t env) :: assignEach r env := by
      have := h.1
      cases t <;> first | rfl | cases this
    rw [e]
    refine ⟨by rw [List.length_cons, List.length_cons, h1], ?_⟩
    rw [List.findIdx?_cons, h2]
    rfl
theorem PGor {tg : PySem.Expr} {t t' : TG} (h : PG X tg t) (h' : PG X tg t') : PG X tg (fun v σ H Q => t v σ H Q ∨ t' v σ H Q) := ⟨fun p s σ H v u Q I r q => by
  rcases q with q | q
  · exact h.run p s σ H v u Q I r q
  · exact h'.run p s σ H v u Q I r q⟩
theorem bindTs_len : ∀ {ts : List Tg} {ds : List D} {en e2 : Env}, bindTs ts ds en = some e2 → ts.length = ds.length
  | [], [], _, _, _ => rfl
  | t :: ts, d :: ds, en, e2, h => by
    obtain ⟨e1, b1, b2⟩ := Option.bind_eq_some_iff.mp (show (bindT t d en).bind (fun e' => bindTs ts ds e') = some e2 from h)
    rw [List.length_cons, List.length_cons, bindTs_len b2]
  | [], _ :: _, _, _, h => by cases h
  | _ :: _, [], _, _, h => by cases h
theorem tg_tup {tgs : List PySem.Expr} {ts : List Tg} {kk : Nat} (hc : c.calm = true) (h : Sts_ B T Γ k c tgs ts) (hs : tgs.all notStar = true) (hl : tgs.length = ts.length) : St_ B T Γ k c (.Tuple tgs kk pos) (.tup ts) := by
  intro X x0
  have hcal : X.calm = true := by rw [x0.calm]; exact hc
  obtain ⟨l1, l2⟩ := assignEach_len (env := X.env) hs
  refine PGi (PGor (pg_tup hcal (h X x0) l1 l2) (pg_lst hcal (h X x0) l1 l2)) fun v σ H Q ⟨F, ρ, en, S, d, e2, rp, hd, hb, q⟩ => ?_
  have key : ∃ ds, d.items = some ds ∧ bindTs ts ds en = some e2 := by
    unfold bindT at hb
    split at hb
    · rename_i ds hds
      exact ⟨ds, hds, hb⟩
    · cases hb
  obtain ⟨ds, h1, h2⟩ := key
  obtain ⟨a, xs, e1, h3, h4⟩ := RB.items (Hb := H) (σ := σ) (e := en) (.inl hd) h1
  subst e1
  rw [← x0.K] at h3
  have hlen : xs.length = tgs.length := by rw [h4.length, hl, bindTs_len h2]
  have q' : tTgs B ts xs σ H Q := ⟨F, ρ, en, S, ds, e2, rp, h4, h2, fun σ2 rp2 a b => q σ2 rp2 a b⟩
  rcases h3 with h3 | h3
  · exact .inr ⟨a, xs, rfl, h3, hlen, q'⟩
  · exact .inl ⟨a, xs, rfl, h3, hlen, q'⟩

/-! ### iterators -/
def Wk (B : Bd) (J : It) (ds : List D) (F : Addr → Prop) (ρ : List Addr) (H : Hp) : Prop := (∀ i, i < ds.length → J.go i H) ∧ J.stop ds.length H ∧
  ∀ i d x H2, ds[i]? = some d → J.yld i H x H2 → (H2 = H ∧ At B.G F ρ H x d) ∨ ∃ p u, H p = none ∧ noTab u = true ∧ H2 = upd H p u ∧ At B.G (fun b => F b ∨ b = p) ρ H2 x d
def RI (B : Bd) : Rel (List D) It := fun Hb F ρ H σ e J ds => ∀ F' ρ' H', Stays F F' ρ ρ' H H' → Wk B J ds F' ρ' H'
/-- .. as long as the own lists stay -/
def RJ (B : Bd) : Rel (List D) It := fun Hb F ρ H σ e J ds => ∀ F' ρ' H', Stays F F' ρ ρ' H H' → (∀ a o, H a = some o → noTab o = true → a ∉ ρ → H' a = some o) → Wk B J ds F' ρ' H'
instance {B : Bd} : Anti (RI B) := ⟨fun _ h => h⟩
instance {B : Bd} : Anti (RJ B) := ⟨fun _ h => h⟩
theorem RI.toJ {Hb F ρ H} {σ : L2.St} {en : Env} {J : It} {ds : List D} (h : RI B Hb F ρ H σ en J ds) : RJ B Hb F ρ H σ en J ds := fun F' ρ' H' s _ => h F' ρ' H' s
theorem wk_list {F : Addr → Prop} {ρ : List Addr} {H : Hp} {a : Addr} {xs : List V} {ds : List D} (hs : SqL B.G.K H a xs) (h : AtL B.G F ρ H xs ds) : Wk B (Itl B.G.K a) ds F ρ H := by
  have hl := h.length
  refine ⟨fun i hi => ⟨xs, xs[i]'(by omega), hs, by simp⟩, ⟨xs, hs, by omega⟩, fun i d x H2 hd ⟨e, y⟩ => .inl ⟨e, ?_⟩⟩
  obtain ⟨v, h1, h2⟩ := h.get hd
  have := y xs hs
  rw [h1] at this
  cases this
  exact h2
theorem wk_tup {F : Addr → Prop} {ρ : List Addr} {H : Hp} {a : Addr} {xs : List V} {ds : List D} (hs : SqT B.G.K H a xs) (h : AtL B.G F ρ H xs ds) : Wk B (Itt B.G.K a) ds F ρ H := by
  have hl := h.length
  refine ⟨fun i hi => ⟨xs, xs[i]'(by omega), hs, by simp⟩, ⟨xs, hs, by omega⟩, fun i d x H2 hd ⟨e, y⟩ => .inl ⟨e, ?_⟩⟩
  obtain ⟨v, h1, h2⟩ := h.get hd
  have := y xs hs
  rw [h1] at this
  cases this
  exact h2
theorem wk_str {F : Addr → Prop} {ρ : List Addr} {H : Hp} (z : Str) : Wk B (Its z) (z.cps.toList.map fun c => D.str ⟨#[c]⟩) F ρ H := by
  refine ⟨fun i hi => ?_, ?_, fun i d x H2 hd ⟨e, ch, y1, y2⟩ => .inl ⟨e, ?_⟩⟩
  · show i < z.cps.size
    simpa using hi
  · show z.cps.size ≤ _
    simp
  · rw [List.getElem?_map] at hd
    have y1' : z.cps.toList[i]? = some ch := by simpa using y1
    rw [y1'] at hd
    cases hd
    subst y2
    exact .str _
theorem wk_rng {F : Addr → Prop} {ρ : List Addr} {H : Hp} (lo hi : Int) : Wk B (L2.Itr lo (hi - lo).toNat) (rngL lo hi) F ρ H := by
  have hl : (rngL lo hi).length = (hi - lo).toNat := by unfold rngL; simp
  refine ⟨fun i hi => by rw [hl] at hi; exact hi, by rw [hl]; exact Nat.le_refl _, fun i d x H2 hd ⟨e, y⟩ => .inl ⟨e, ?_⟩⟩
  subst y
  unfold rngL at hd
  rw [List.getElem?_map] at hd
  by_cases hi2 : i < (hi - lo).toNat
  · rw [List.getElem?_range hi2] at hd
    cases hd
    exact .int _
  · rw [List.getElem?_eq_none (by simpa using hi2)] at hd
    cases hd
def iSeq (K : PySem.W.Frag) (tl : TE) : TI := fun σ H R => tl σ H fun x H1 => (∃ a xs, x = .ref a ∧ SqL K H1 a xs ∧ R (Itl K a) H1) ∨ (∃ a xs, x = .ref a ∧ SqT K H1 a xs ∧ R (Itt K a) H1) ∨ ∃ z, x = .str z ∧ R (Its z) H1
theorem pi_seq {tg l : PySem.Expr} {tl : TE} (hl : PE X l tl) : PI X tg l (iSeq X.K tl) := by
  refine ⟨fun pins s σ H R I h => ?_⟩
  refine thn (hl.run pins s σ H _ I h) fun v s1 ⟨x, H1, I1, r1, q1⟩ => ?_
  rcases q1 with ⟨a, xs, ex, hq, q⟩ | ⟨a, xs, ex, hq, q⟩ | ⟨z, ex, q⟩
  · subst ex
    cases r1
    obtain ⟨its, rv, p, hz⟩ := I1.list hq
    refine wpAny_pyIter_list p.isList ?_
    refine ⟨s1.heap.objs.size, [s1.heap.objs.size], _, _, H1, rfl, I1.kept (t' := s1.toks) fun b o e => Heap.get?_push_of_some _ e, turn_list a _, ⟨_, Heap.get?_push_size _ rfl, rfl, rfl⟩, fun b hb => ?_, q⟩
    have e : b = s1.heap.objs.size := by simpa using hb
    subst e
    exact I1.fpOk (Nat.le_refl _) (I1.hok.fresh (Nat.le_refl _))
  · subst ex
    cases r1
    obtain ⟨its, rv, p, hz⟩ := I1.tuple hq
    refine wpAny_pyIter_tuple (show s1.heap.IsTuple a its.toArray from p) ?_
    refine ⟨s1.heap.objs.size, [s1.heap.objs.size], _, _, H1, rfl, I1.kept (t' := s1.toks) fun b o e => Heap.get?_push_of_some _ e, turn_tuple a _, ⟨_, Heap.get?_push_size _ rfl, rfl, rfl⟩, fun b hb => ?_, q⟩
    have e : b = s1.heap.objs.size := by simpa using hb
    subst e
    exact I1.fpOk (Nat.le_refl _) (I1.hok.fresh (Nat.le_refl _))
  · subst ex
    obtain ⟨t, rfl⟩ := r1
    cases ha : z.cps.all (· < 128)
    · exact wpAny_pyIter_wide ha (pi_one (tk := s1.toks) I1 _ (turn_str _ z t "str_iterator" (.inr rfl)) ⟨_, Heap.get?_push_size _ rfl, rfl, rfl⟩ q)
    · exact wpAny_pyIter_ascii ha (pi_one (tk := s1.toks) I1 _ (turn_str _ z t "str_ascii_iterator" (.inl rfl)) ⟨_, Heap.get?_push_size _ rfl, rfl, rfl⟩ q)
theorem PIi {tg l : PySem.Expr} {t t' : TI} (h : PI X tg l t) (i : ∀ σ H R, t' σ H R → t σ H R) : PI X tg l t' := ⟨fun p s σ H R I q => h.run p s σ H R I (i σ H R q)⟩
/-- iter does m, for a statement; within a comprehension -/
def Si (B : Bd) (T : Tab) (Γ : Gm) (k : Nat) (c : Ctx) (tg it : PySem.Expr) (m : M (List D)) : Prop := ∀ X, XOk B T Γ k c X → PI X tg it (tR B (RI B) m)
def Sj (B : Bd) (T : Tab) (Γ : Gm) (k : Nat) (c : Ctx) (tg it : PySem.Expr) (m : M (List D)) : Prop := ∀ X, XOk B T Γ k c X → PI X tg it (tR B (RJ B) m)
theorem SqL.stays {K : PySem.W.Frag} {H H' : Hp} {a : Addr} {xs : List V} (h : SqL K H a xs) (hk : ∀ o, H a = some o → H' a = some o) : SqL K H' a xs := by
  rcases h with (h | ⟨o, h⟩) | h
  · exact .inl (.inl (hk _ h))
  · exact .inl (.inr ⟨o, hk _ h⟩)
  · exact .inr h
theorem SqT.stays {K : PySem.W.Frag} {H H' : Hp} {a : Addr} {xs : List V} (h : SqT K H a xs) (hk : ∀ o, H a = some o → H' a = some o) : SqT K H' a xs := by
  rcases h with (h | ⟨o, h⟩) | h
  · exact .inl (.inl (hk _ h))
  · exact .inl (.inr ⟨o, hk _ h⟩)
  · exact .inr h
theorem dseq_str {z : Str} {ds : List D} (h : dseq (.str z) = some ds) : ds = z.cps.toList.map fun c => D.str ⟨#[c]⟩ := (Option.some.inj h).symm
theorem si_seq {tg : PySem.Expr} (ha : Sa B T Γ k c a ma) : Si B T Γ k c tg a (do let x ← ma; liftO (dseq x)) := by
  refine fun X x0 => PIi (pi_seq (ha X x0)) fun σ H Q ⟨F, ρ, en, S, rp, g⟩ => ?_
  refine ⟨F, ρ, en, S, rp, (Good.bind g).mono ?_⟩
  rintro v H1 ⟨F1, ρ1, e1, S1, d, m1, rp1, r1, g1⟩
  obtain ⟨ds, hd, g2⟩ := Good.lift (o := dseq d) g1
  rw [x0.K]
  cases d with
  | tup l =>
    cases hd
    cases (show At _ _ _ _ _ _ from r1) with
    | tup h1 h2 => exact .inr (.inl ⟨_, _, rfl, h1.sq, Good.val (R := RI B) g2 rp1 fun F' ρ' H' s => wk_tup (h1.stays s).sq (h2.stays s)⟩)
  | lst l =>
    cases hd
    cases (show At _ _ _ _ _ _ from r1) with
    | lst h1 h2 => exact .inl ⟨_, _, rfl, h1.sq, Good.val (R := RI B) g2 rp1 fun F' ρ' H' s => wk_list (h1.stays s).sq (h2.stays s)⟩
  | str z =>
    cases (show At _ _ _ _ _ _ from r1)
    rw [dseq_str hd] at g2
    exact .inr (.inr ⟨z, rfl, Good.val (R := RI B) g2 rp1 fun F' ρ' H' s => wk_str z⟩)
  | _ => cases hd
theorem sj_seq {tg : PySem.Expr} (ha : Sb B T Γ k c a ma) : Sj B T Γ k c tg a (do let x ← ma; liftO (dseq x)) := by
  refine fun X x0 => PIi (pi_seq (ha X x0)) fun σ H Q ⟨F, ρ, en, S, rp, g⟩ => ?_
  refine ⟨F, ρ, en, S, rp, (Good.bind g).mono ?_⟩
  rintro v H1 ⟨F1, ρ1, e1, S1, d, m1, rp1, r1, g1⟩
  obtain ⟨ds, hd, g2⟩ := Good.lift (o := dseq d) g1
  rw [x0.K]
  rcases (show At _ _ _ _ _ _ ∨ _ from r1) with r1 | ⟨a', xs, l, h1, h2, h3, h4, h5⟩
  · cases d with
    | tup l =>
      cases hd
      cases r1 with
      | tup h1 h2 => exact .inr (.inl ⟨_, _, rfl, h1.sq, Good.val (R := RJ B) g2 rp1 fun F' ρ' H' s _ => wk_tup (h1.stays s).sq (h2.stays s)⟩)
    | lst l =>
      cases hd
      cases r1 with
      | lst h1 h2 => exact .inl ⟨_, _, rfl, h1.sq, Good.val (R := RJ B) g2 rp1 fun F' ρ' H' s _ => wk_list (h1.stays s).sq (h2.stays s)⟩
    | str z =>
      cases r1
      rw [dseq_str hd] at g2
      exact .inr (.inr ⟨z, rfl, Good.val (R := RJ B) g2 rp1 fun F' ρ' H' s _ => wk_str z⟩)
    | _ => cases hd
  · subst h1 h2
    cases hd
    exact .inl ⟨_, xs, rfl, SqL.of h3, Good.val (R := RJ B) g2 rp1 fun F' ρ' H' s kp => wk_list (SqL.of (kp a' _ h3 rfl h5)) (h4.stays s)⟩
theorem Si.toJ {tg it : PySem.Expr} {m : M (List D)} (h : Si B T Γ k c tg it m) : Sj B T Γ k c tg it m := fun X x0 => PIi (h X x0) fun σ H Q z => tR_imp (γ := It) z fun F ρ e S rp g => by
  revert g
  cases m e S with
  | ok a e' S' => exact fun g F' ρ' H' b mo rp' r => g F' ρ' H' b mo rp' (RI.toJ r)
  | exc x e' S' => exact fun g => g
  | fail => exact fun g => g
def RLp (B : Bd) (P : List D → Prop) : Rel (List D) (List V) := fun Hb F ρ H σ e vs ds => AtL B.G F ρ H vs ds ∧ P ds
instance {B : Bd} {P : List D → Prop} : Anti (RLp B P) := ⟨fun _ h => h⟩
theorem sl_p (h : Sl B T Γ k c es ml) {P : List D → Prop} (hp : ∀ en S ds e' S', ml en S = .ok ds e' S' → P ds) : ∀ X, XOk B T Γ k c X → PA X es (tR B (RLp B P) ml) := fun X x0 => PAi (h X x0) fun σ H Q z => tR_imp (γ := List V) z fun F ρ e S rp g => by
  cases hm : ml e S with
  | ok a e' S' =>
    rw [hm] at g
    exact fun F' ρ' H' b mo rp' r => g F' ρ' H' b mo rp' ⟨r, hp e S a e' S' hm⟩
  | exc x e' S' => rw [hm] at g; exact g
  | fail => rw [hm] at g; exact g
theorem rng1_of {F : Addr → Prop} {ρ : List Addr} {H : Hp} {vs : List V} {ds l : List D} (h : AtL B.G F ρ H vs ds) (hl : ds.length = 1) (hd : drng ds = some l) : ∃ j, vs = [.int j] ∧ rngOk j = true ∧ l = rngL 0 j := by
  match ds, hl with
  | [d], _ =>
    cases d with
    | int j =>
      obtain ⟨h1, h2⟩ := ite_some (show (if rngOk j = true then some (rngL 0 j) else none) = some l from hd)
      cases h with
      | cons h t =>
        cases h
        cases t
        exact ⟨j, rfl, h1, h2.symm⟩
    | _ => cases hd
theorem rng2_of {F : Addr → Prop} {ρ : List Addr} {H : Hp} {vs : List V} {ds l : List D} (h : AtL B.G F ρ H vs ds) (hl : ds.length = 2) (hd : drng ds = some l) : ∃ i j, vs = [.int i, .int j] ∧ rngOk i = true ∧ rngOk j = true ∧ l = rngL i j := by
  match ds, hl with
  | [d, d2], _ =>
    cases d with
    | int i =>
      cases d2 with
      | int j =>
        obtain ⟨h1, h2⟩ := ite_some (show (if (rngOk i && rngOk j) = true then some (rngL i j) else none) = some l from hd)
        rw [Bool.and_eq_true] at h1
        cases h with
        | cons h t =>
          cases t with
          | cons h' t =>
            cases h
            cases h'
            cases t
            exact ⟨i, j, rfl, h1.1, h1.2, h2.symm⟩
      | _ => cases hd
    | _ => cases hd
theorem si_rng1 {tg : PySem.Expr} {x : Str} {p : Pos} (hx : x = ("range" : Str)) (hf : T.free.contains x = true) (hg : globB c.sc x = true) (hl : Sl B T Γ k c [a] ml) (hn : ∀ en S ds e' S', ml en S = .ok ds e' S' → ds.length = 1) (hs : notStar a = true) : Si B T Γ k c tg (.Call (.Name x p) [a] [] pos) (do let ds ← ml; liftO (drng ds)) := by
  intro X x0
  subst hx
  refine PIi (pi_range1 (gl_of x0.sc hg) (x0.gl.free _ (List.contains_iff_mem.mp hf)) (sl_p hl hn X x0) (star_cons hs)) fun σ H Q ⟨F, ρ, en, S, rp, g⟩ => ?_
  refine ⟨F, ρ, en, S, rp, (Good.bind g).mono ?_⟩
  rintro vs H1 ⟨F1, ρ1, e1, S1, ds, m1, rp1, r1, g1⟩
  obtain ⟨l, hd, g2⟩ := Good.lift (o := drng ds) g1
  obtain ⟨j, h1, h2, h3⟩ := rng1_of r1.1 r1.2 hd
  obtain ⟨h4, h5⟩ := rngOk_of h2
  subst h3
  refine ⟨j, h1, h4, h5, Good.val (R := RI B) g2 rp1 fun F' ρ' H' s => ?_⟩
  have := wk_rng (B := B) (F := F') (ρ := ρ') (H := H') 0 j
  rw [Int.sub_zero] at this
  exact this
theorem si_rng2 {tg : PySem.Expr} {x : Str} {p : Pos} (hx : x = ("range" : Str)) (hf : T.free.contains x = true) (hg : globB c.sc x = true) (hl : Sl B T Γ k c [a, b] ml) (hn : ∀ en S ds e' S', ml en S = .ok ds e' S' → ds.length = 2) (hs : notStar a = true) (hs2 : notStar b = true) : Si B T Γ k c tg (.Call (.Name x p) [a, b] [] pos) (do let ds ← ml; liftO (drng ds)) := by
  intro X x0
  subst hx
  refine PIi (pi_range2 (gl_of x0.sc hg) (x0.gl.free _ (List.contains_iff_mem.mp hf)) (sl_p hl hn X x0) (by rw [star_cons hs, star_cons hs2]; rfl) (star_cons hs2)) fun σ H Q ⟨F, ρ, en, S, rp, g⟩ => ?_
  refine ⟨F, ρ, en, S, rp, (Good.bind g).mono ?_⟩
  rintro vs H1 ⟨F1, ρ1, e1, S1, ds, m1, rp1, r1, g1⟩
  obtain ⟨l, hd, g2⟩ := Good.lift (o := drng ds) g1
  obtain ⟨i, j, h1, h2, h2', h3⟩ := rng2_of r1.1 r1.2 hd
  obtain ⟨h4, h5⟩ := rngOk_of h2
  obtain ⟨h6, h7⟩ := rngOk_of h2'
  subst h3
  exact ⟨i, j, h1, ⟨h4, h5, h6, h7⟩, Good.val (R := RI B) g2 rp1 fun F' ρ' H' s => wk_rng i j⟩
end
end Eng

set_option maxHeartbeats 4000000
/-! THE ENGINE, part Lb: enumerate, zip. -/
namespace Eng
open PySem PySem.Spec L2 PyProof.Rows
/-! ### enumerate(v), v a list or a tuple -/
abbrev enO (i : Addr) : Obj := { cls := .type "enumerate", data := .fields #[.none, .bool false, .ref i, rawInt 0, .none, .none] }
theorem meets_en1 {v : Value} {o : Obj} {Z : Heap → Prop} (Bg : Begins v o Z) : Meets (Builtin.«enumerate.__new__» ⟨[.type "enumerate", v], []⟩) (fun _ R s => Z s.heap ∧ R (.ok (.ret (.ref (s.heap.push o).objs.size))) { s with heap := (s.heap.push o).push (enO s.heap.objs.size) }) :=
  .of_wp fun pr wd ar RR sh hyp => by
    obtain ⟨hp, gg, dd, tk, os⟩ := sh
    obtain ⟨hz, hr⟩ := hyp
    have hs := sub_enumerate
    have q1 : ∀ {A' : Around} {E' : Value → Shared → Prop} {Q' : Value → Shared → Prop}, Q' (.ref hp.objs.size) ⟨hp.push o, gg, dd, tk, os⟩ → wpAny (model pr wd) A' (pyIter v) Q' E' ⟨hp, gg, dd, tk, os⟩ := fun q => Bg.iter pr wd _ _ ⟨hp, gg, dd, tk, os⟩ _ hz q
    wp_walk using q1
    refine wpAny_stack_any fun _ => wpAny_pure ?_
    split
    · rename_i c5 _ _ _ _ _
      cases (c5 == Value.type "enumerate") <;> (wp_walk using q1; exact ⟨_, rfl, hr⟩)
    · wp_walk using q1
      exact ⟨_, rfl, hr⟩
theorem call_en {P : Program} {w : World} {A : Around} {E : Value → Shared → Prop} {s : Shared} {v : Value} {o : Obj} {Z : Heap → Prop} {Q : Value → Shared → Prop} (Bg : Begins v o Z) (hz : Z s.heap)
    (h : ∀ h', IsEnum h' (s.heap.objs.size + 1) s.heap.objs.size 0 .none → h'.get? s.heap.objs.size = some o → (∀ b u, s.heap.get? b = some u → h'.get? b = some u) → Q (.ref (s.heap.objs.size + 1)) { s with heap := h' }) :
    wpAny (model P w) A (call (.type "enumerate") [v]) Q E s := by
  refine callType_new F.called_enumerate (by decide) (F.typeCall_enumerate_1 _) (F.newCall_enumerate_1 _) (fun obj => F.args_object_init_2 obj _) F.entry_enumerate_new (meets_en1 Bg) ⟨hz, ?_⟩
  have hn : (s.heap.push o).objs.size = s.heap.objs.size + 1 := Heap.size_push ..
  have he : IsEnum ((s.heap.push o).push (enO s.heap.objs.size)) (s.heap.objs.size + 1) s.heap.objs.size 0 .none := by
    have z := Heap.get?_push_size (s.heap.push o) (o := enO s.heap.objs.size) rfl
    rw [hn] at z; exact z
  show _ ∧ _
  rw [hn]
  exact ⟨⟨_, he, rfl⟩, h _ he (Heap.get?_push_of_some _ (Heap.get?_push_size _ Bg.free)) fun b u x => Heap.get?_push_of_some _ (Heap.get?_push_of_some _ x)⟩
/-- the tuple at a, each item in a new pair -/
def IteT (K : PySem.W.Frag) (a : Addr) : It :=
  ⟨fun i H => ∃ (ys : List V) (y : V), SqT K H a ys ∧ ys[i]? = some y, fun i H v H' => ∃ p y, v = .ref p ∧ H p = none ∧ H' = upd H p (.tup [.int (i : Nat), y]) ∧ ∀ ys, SqT K H a ys → ys[i]? = some y, fun i H => ∃ ys : List V, SqT K H a ys ∧ ys.length ≤ i⟩
theorem turn_enT {P : Program} {w : World} {K : PySem.W.Frag} {elts : List PySem.Expr} {kk : Nat} {tp : Pos} (a e it : Addr) (hae : a ≠ e) (hait : a ≠ it) :
    Turn P w K (.Tuple elts kk tp) (IteT K a) [e, it] e (fun i h => (∃ old, IsEnum h e it ((i : Nat) : Int) old) ∧ h.IsTupleIter it a i ∧ e ≠ it) where
  mem := by simp
  obj := fun i h st b hb => by
    obtain ⟨⟨old, he⟩, ⟨o, ho, hc, hd⟩, _⟩ := st
    rcases (show b = e ∨ b = it by simpa using hb) with z | z
    · subst z; exact ⟨_, he, fun v q => nomatch q⟩
    · subst z; exact ⟨o, ho, fun v q => by rw [hd] at q; cases q⟩
  keep := fun i h h' st k => ⟨⟨st.1.choose, k e (by simp) _ st.1.choose_spec⟩, st.2.1.at fun o q => k it (by simp) o q, st.2.2⟩
  item := by
    intro X hP hw hK hc i pins s σ H E I hf st hg
    subst hP; subst hw; subst hK
    obtain ⟨⟨old, he⟩, hit, hne⟩ := st
    obtain ⟨ys, y, hq, hy⟩ := hg
    obtain ⟨its, rv, p, hz⟩ := I.tuple hq
    obtain ⟨u, hu, ru⟩ := rv.get hy
    have pT : s.heap.IsTuple a its.toArray := p
    have l1 : e < s.heap.objs.size := Heap.lt_size he
    have l2 : it < s.heap.objs.size := by obtain ⟨_, q, _⟩ := hit; exact Heap.lt_size q
    have hlt : i < its.toArray.size := by
      have := (List.getElem?_eq_some_iff.mp hu).1
      simpa using this
    have D := Draws.tuple (prog := X.prog) (w := X.w) (A := X.A.in1) (I.ok.hd hc) it a hait its.toArray
    refine wpAny_pyNext_enum_itemD D he ⟨hit, pT⟩ hlt hne (by simpa using And.intro hne (Ne.symm hae)) fun x h' tk hx ho st' hT hsz hk => ?_
    have ex : x = u := by
      have h2 : its.toArray[i]? = some u := by simpa using hu
      exact Option.some.inj ((show its.toArray[i]? = some x from hx).symm.trans h2)
    subst ex
    refine ⟨_, rfl, wpAny_letOwnedTupleGo_enum (s := { s with heap := h', toks := tk + 1 }) ho fun h2 he' sb => ?_⟩
    have hT2 : h2.get? s.heap.objs.size = some { cls := .type "tuple", data := .seq #[.int i tk, x] } := (sb.2 _ (Nat.ne_of_gt l1)).trans hT
    have nw : ObjOk X.prog X.w (upd H s.heap.objs.size (.tup [.int (i : Nat), y])) h2 s.heap.objs.size (.tup [.int (i : Nat), y]) :=
      ⟨by show 2 ≤ sizeLine; decide, [.int i tk, x], .cons ⟨_, rfl⟩ (.cons ru .nil), ⟨_, hT2, rfl, _, rfl⟩⟩
    have I1 : Inv X pins σ (upd H s.heap.objs.size (.tup [.int (i : Nat), y])) { s with heap := h2, toks := tk + 1 } :=
      I.turnedNew (ch := [e, it]) (fun b ob hb q => (sb.2 b (fun z => hb (by simp [z]))).trans (hk b ob (fun z => hb (by simp [z])) (fun z => hb (by simp [z])) q)) hf (Nat.le_refl _) nw
    refine ⟨.ref s.heap.objs.size, _, I1, rfl, ⟨_, y, rfl, I.hok.fresh (Nat.le_refl _), rfl, fun zs hz2 => by rw [I.tuple_inj hz2 hq]; exact hy⟩, ⟨⟨x, ?_⟩, st'.1.at fun o q => (sb.2 it (Ne.symm hne)).trans q, hne⟩, fun b hb => ?_⟩
    · have e1 : ((i + 1 : Nat) : Int) = (i : Int) + 1 := by omega
      rw [e1]; exact he'
    · have hb' : b < s.heap.objs.size := by
        rcases (show b = e ∨ b = it by simpa using hb) with z | z <;> subst z <;> assumption
      rw [upd_ne (Nat.ne_of_lt hb')]
      exact (hf b hb).1
  done := by
    intro X hP hw hK hc i pins s σ H E I hf st hg
    subst hP; subst hw; subst hK
    obtain ⟨⟨old, he⟩, hit, hne⟩ := st
    obtain ⟨ys, hq, hx⟩ := hg
    obtain ⟨its, rv, p, hz⟩ := I.tuple hq
    obtain ⟨f0, f1, f2, f3, f4, f5⟩ := hf it (by simp)
    have pT : s.heap.IsTuple a its.toArray := p
    have hl := rv.length
    have hT : s.TypeIs (.ref e) "enumerate" := ⟨_, he, rfl⟩
    unfold pyNext
    refine wpAny_bind (wpAny_attempt (wpAny_callSpecial?_slot (name := Str.ofString "__next__") hT F.slot_enumerate_next (wpAny_call_entry F.slot_enumerate_next hT F.entry_enumerate_next ?_ (F.args_enumerate_next_1 _))))
    show wpAny _ _ (field (.ref e) 2 >>= _) _ _ _
    refine wpAny_bind (wpAny_field he rfl (x := .ref it) rfl (wpAny_bind (wpAny_nextOf_tuple_end (I.ok.hd hc) hit pT (by simp; omega) fun h' x eb hx' => ?_)))
    obtain ⟨o, ho, hcl⟩ := hx'
    exact wpAny_bind (wpAny_isInstance (T := "StopIteration") (b := true) ⟨o, ho, hcl⟩ isSubtype_stop (wpAny_pure ⟨rfl, I.turned (t' := s.toks) (fun b o hb q => eb b o hb q) f0 f1 f3 f4 f5⟩))
  self := fun A i s Q E st h => wpAny_pyIter_enum st.1.choose_spec h
end Eng
namespace Eng
open PySem PySem.Spec L2 PyProof.Rows
section
variable {B : Bd} {T : Tab} {Γ : Gm} {k : Nat} {c : Ctx} {X : Cx} {e a b : PySem.Expr} {pos : Pos} {es : List PySem.Expr} {ml : M (List D)}
theorem enumD_get : ∀ {l : List D} {n i : Nat}, (enumD n l)[i]? = (l[i]?).map fun d => D.tup [.int (n + i : Nat), d]
  | [], n, i => by simp [enumD]
  | a :: l, n, 0 => by simp [enumD]
  | a :: l, n, i + 1 => by
    unfold enumD
    rw [List.getElem?_cons_succ, List.getElem?_cons_succ, enumD_get]
    have : n + 1 + i = n + (i + 1) := by omega
    rw [this]
theorem enumD_len : ∀ {l : List D} {n : Nat}, (enumD n l).length = l.length
  | [], _ => rfl
  | a :: l, n => by unfold enumD; rw [List.length_cons, List.length_cons, enumD_len]
theorem zipD_get : ∀ {l m : List D} {i : Nat} {d : D}, (zipD l m)[i]? = some d → ∃ x y, l[i]? = some x ∧ m[i]? = some y ∧ d = .tup [x, y]
  | [], m, i, d, h => by unfold zipD at h; simp at h
  | a :: l, [], i, d, h => by unfold zipD at h; simp at h
  | a :: l, b :: m, 0, d, h => by unfold zipD at h; simp at h; exact ⟨a, b, rfl, rfl, h.symm⟩
  | a :: l, b :: m, i + 1, d, h => by
    unfold zipD at h
    rw [List.getElem?_cons_succ] at h
    obtain ⟨x, y, h1, h2, h3⟩ := zipD_get h
    exact ⟨x, y, by rw [List.getElem?_cons_succ]; exact h1, by rw [List.getElem?_cons_succ]; exact h2, h3⟩
theorem zipD_len : ∀ {l m : List D}, (zipD l m).length = min l.length m.length
  | [], m => by unfold zipD; simp
  | a :: l, [] => by unfold zipD; simp
  | a :: l, b :: m => by unfold zipD; rw [List.length_cons, List.length_cons, List.length_cons, zipD_len]; omega
theorem pair_at {F : Addr → Prop} {ρ : List Addr} {H : Hp} {p : Addr} {x y : V} {dx dy : D} (hp : H p = none) (hx : At B.G F ρ H x dx) (hy : At B.G F ρ H y dy) :
    At B.G (fun b => F b ∨ b = p) ρ (upd H p (.tup [x, y])) (.ref p) (.tup [dx, dy]) := by
  have sy : Stays F (fun b => F b ∨ b = p) ρ ρ H (upd H p (.tup [x, y])) := ⟨fun _ h => .inl h, List.prefix_rfl, fun b o _ h _ => by rw [upd_ne (ne_of_none h hp)]; exact h⟩
  exact .tup (.inl ⟨.inr rfl, .inl upd_same⟩) (.cons (hx.stays sy) (.cons (hy.stays sy) .nil))
theorem wk_enL {F : Addr → Prop} {ρ : List Addr} {H : Hp} {a : Addr} {xs : List V} {ds : List D} (hs : SqL B.G.K H a xs) (h : AtL B.G F ρ H xs ds) : Wk B (Ite B.G.K a) (enumD 0 ds) F ρ H := by
  have hl := h.length
  refine ⟨fun i hi => ?_, ⟨xs, hs, by rw [enumD_len]; omega⟩, fun i d x H2 hd y => .inr ?_⟩
  · rw [enumD_len] at hi
    exact ⟨xs, xs[i]'(by omega), hs, by simp⟩
  · obtain ⟨p, z, rfl, hp, rfl, hz⟩ := y
    rw [enumD_get] at hd
    obtain ⟨dz, h1, h2⟩ := Option.map_eq_some_iff.mp hd
    obtain ⟨v, h3, h4⟩ := h.get h1
    have := hz xs hs
    rw [h3] at this
    cases this
    subst h2
    exact ⟨p, _, hp, rfl, rfl, pair_at hp (by rw [Nat.zero_add]; exact .int _) h4⟩
theorem wk_enT {F : Addr → Prop} {ρ : List Addr} {H : Hp} {a : Addr} {xs : List V} {ds : List D} (hs : SqT B.G.K H a xs) (h : AtL B.G F ρ H xs ds) : Wk B (IteT B.G.K a) (enumD 0 ds) F ρ H := by
  have hl := h.length
  refine ⟨fun i hi => ?_, ⟨xs, hs, by rw [enumD_len]; omega⟩, fun i d x H2 hd y => .inr ?_⟩
  · rw [enumD_len] at hi
    exact ⟨xs, xs[i]'(by omega), hs, by simp⟩
  · obtain ⟨p, z, rfl, hp, rfl, hz⟩ := y
    rw [enumD_get] at hd
    obtain ⟨dz, h1, h2⟩ := Option.map_eq_some_iff.mp hd
    obtain ⟨v, h3, h4⟩ := h.get h1
    have := hz xs hs
    rw [h3] at this
    cases this
    subst h2
    exact ⟨p, _, hp, rfl, rfl, pair_at hp (by rw [Nat.zero_add]; exact .int _) h4⟩
theorem wk_zL {F : Addr → Prop} {ρ : List Addr} {H : Hp} {a b : Addr} {xs ys : List V} {ds es : List D} (hs : SqL B.G.K H a xs) (h : AtL B.G F ρ H xs ds) (hs2 : SqL B.G.K H b ys) (h2 : AtL B.G F ρ H ys es) : Wk B (Itz B.G.K a b) (zipD ds es) F ρ H := by
  have hl := h.length
  have hl2 := h2.length
  refine ⟨fun i hi => ?_, ⟨xs, ys, hs, hs2, by rw [zipD_len]; omega⟩, fun i d x H2 hd y => .inr ?_⟩
  · rw [zipD_len] at hi
    exact ⟨xs, ys, xs[i]'(by omega), ys[i]'(by omega), hs, hs2, by simp, by simp⟩
  · obtain ⟨p, z, z2, rfl, hp, rfl, hz, hz2⟩ := y
    obtain ⟨dx, dy, q1, q2, q3⟩ := zipD_get hd
    obtain ⟨v, h3, h4⟩ := h.get q1
    obtain ⟨v2, h5, h6⟩ := h2.get q2
    have := hz xs hs
    rw [h3] at this
    cases this
    have := hz2 ys hs2
    rw [h5] at this
    cases this
    subst q3
    exact ⟨p, _, hp, rfl, rfl, pair_at hp h4 h6⟩
theorem wk_zT {F : Addr → Prop} {ρ : List Addr} {H : Hp} {a b : Addr} {xs ys : List V} {ds es : List D} (hs : SqT B.G.K H a xs) (h : AtL B.G F ρ H xs ds) (hs2 : SqT B.G.K H b ys) (h2 : AtL B.G F ρ H ys es) : Wk B (RZ.ItzT B.G.K a b) (zipD ds es) F ρ H := by
  have hl := h.length
  have hl2 := h2.length
  refine ⟨fun i hi => ?_, ⟨xs, ys, hs, hs2, by rw [zipD_len]; omega⟩, fun i d x H2 hd y => .inr ?_⟩
  · rw [zipD_len] at hi
    exact ⟨xs, ys, xs[i]'(by omega), ys[i]'(by omega), hs, hs2, by simp, by simp⟩
  · obtain ⟨p, z, z2, rfl, hp, rfl, hz, hz2⟩ := y
    obtain ⟨dx, dy, q1, q2, q3⟩ := zipD_get hd
    obtain ⟨v, h3, h4⟩ := h.get q1
    obtain ⟨v2, h5, h6⟩ := h2.get q2
    have := hz xs hs
    rw [h3] at this
    cases this
    have := hz2 ys hs2
    rw [h5] at this
    cases this
    subst q3
    exact ⟨p, _, hp, rfl, rfl, pair_at hp h4 h6⟩
def iEnA (K : PySem.W.Frag) (ta : TA) : TI := fun σ H R => ta σ H fun vs H1 => ∃ a xs, vs = [.ref a] ∧ ((SqL K H1 a xs ∧ R (Ite K a) H1) ∨ (SqT K H1 a xs ∧ R (IteT K a) H1))
theorem pi_enA {ta : TA} {p tp : Pos} {elts : List PySem.Expr} {kk : Nat} (hg : Gl X "enumerate") (hm : X.mg "enumerate" = none) (ha : PA X [e] ta) (hs : starEach [e] X.env = [(false, eval e X.env)]) :
    PI X (.Tuple elts kk tp) (.Call (.Name "enumerate" p) [e] [] pos) (iEnA X.K ta) := by
  refine ⟨fun pins s σ H R I h => ?_⟩
  refine Call_ (ld_blt I hg hm boot_enumerate (callWith_type1 (thn (ha.run pos pins s σ H _ I h) fun us s1 ⟨vs, H1, I1, r1, q1⟩ => ?_) hs rfl))
  obtain ⟨a, xs, ex, q1⟩ := q1
  subst ex
  cases r1 with
  | cons r rr =>
    cases rr
    cases r
    have fr2 : ∀ c, c ∈ [s1.heap.objs.size + 1, s1.heap.objs.size] → FpOk X pins H1 c := fun c hc => by
      have hle : s1.heap.objs.size ≤ c := by
        rcases (show c = s1.heap.objs.size + 1 ∨ c = s1.heap.objs.size by simpa using hc) with z | z
        · exact z ▸ Nat.le_succ _
        · exact z ▸ Nat.le_refl _
      exact I1.fpOk hle (I1.hok.fresh hle)
    rcases q1 with ⟨hq, q⟩ | ⟨hq, q⟩
    · obtain ⟨its, rv, pl, hz⟩ := I1.list hq
      refine call_en (begins_list a its.toArray) pl.isList fun h' he hit hk => wpAny_pyIter_enum he ?_
      exact ⟨s1.heap.objs.size + 1, [s1.heap.objs.size + 1, s1.heap.objs.size], _, _, H1, rfl, I1.kept (t' := s1.toks) hk, turn_enum a (s1.heap.objs.size + 1) s1.heap.objs.size, ⟨⟨.none, he⟩, ⟨_, hit, rfl, rfl⟩, Nat.succ_ne_self _⟩, fr2, q⟩
    · obtain ⟨its, rv, pl, hz⟩ := I1.tuple hq
      have pT : s1.heap.IsTuple a its.toArray := pl
      have la : a < s1.heap.objs.size := by obtain ⟨_, ho, _⟩ := id pT; exact Heap.lt_size ho
      refine call_en (begins_tuple a its.toArray) pT fun h' he hit hk => wpAny_pyIter_enum he ?_
      exact ⟨s1.heap.objs.size + 1, [s1.heap.objs.size + 1, s1.heap.objs.size], _, _, H1, rfl, I1.kept (t' := s1.toks) hk, turn_enT a (s1.heap.objs.size + 1) s1.heap.objs.size (Nat.ne_of_lt (Nat.lt_succ_of_lt la)) (Nat.ne_of_lt la), ⟨⟨.none, he⟩, ⟨_, hit, rfl, rfl⟩, Nat.succ_ne_self _⟩, fr2, q⟩
theorem si_enum {tg : PySem.Expr} {x : Str} {p : Pos} (ht : isTupE tg = true) (hx : x = ("enumerate" : Str)) (hf : T.free.contains x = true) (hg : globB c.sc x = true) (hl : Sl B T Γ k c [a] ml) (hs : notStar a = true) : Si B T Γ k c tg (.Call (.Name x p) [a] [] pos) (do let ds ← ml; liftO (denum ds)) := by
  intro X x0
  subst hx
  match tg, ht with
  | .Tuple elts kk tp, _ =>
    refine PIi (pi_enA (gl_of x0.sc hg) (x0.gl.free _ (List.contains_iff_mem.mp hf)) (hl X x0) (star_cons hs)) fun σ H Q ⟨F, ρ, en, S, rp, g⟩ => ?_
    refine ⟨F, ρ, en, S, rp, (Good.bind g).mono ?_⟩
    rintro vs H1 ⟨F1, ρ1, e1, S1, ds, m1, rp1, r1, g1⟩
    obtain ⟨l, hd, g2⟩ := Good.lift (o := denum ds) g1
    rw [x0.K]
    unfold denum at hd
    split at hd
    · cases hd
      cases (show AtL _ _ _ _ _ _ from r1) with
      | cons h t =>
        cases t
        cases h with
        | tup h1 h2 => exact ⟨_, _, rfl, .inr ⟨h1.sq, Good.val (R := RI B) g2 rp1 fun F' ρ' H' s => wk_enT (h1.stays s).sq (h2.stays s)⟩⟩
    · cases hd
      cases (show AtL _ _ _ _ _ _ from r1) with
      | cons h t =>
        cases t
        cases h with
        | lst h1 h2 => exact ⟨_, _, rfl, .inl ⟨h1.sq, Good.val (R := RI B) g2 rp1 fun F' ρ' H' s => wk_enL (h1.stays s).sq (h2.stays s)⟩⟩
    · cases hd
theorem si_zip {tg : PySem.Expr} {x : Str} {p : Pos} (ht : isTupE tg = true) (hx : x = ("zip" : Str)) (hf : T.free.contains x = true) (hg : globB c.sc x = true) (hl : Sl B T Γ k c [a, b] ml) (hs : notStar a = true) (hs2 : notStar b = true) : Si B T Γ k c tg (.Call (.Name x p) [a, b] [] pos) (do let ds ← ml; liftO (dzip ds)) := by
  intro X x0
  subst hx
  match tg, ht with
  | .Tuple elts kk tp, _ =>
    refine PIi (RZ.pi_zipA (gl_of x0.sc hg) (x0.gl.free _ (List.contains_iff_mem.mp hf)) (hl X x0) (star_cons hs) (by rw [star_cons hs2]; rfl)) fun σ H Q ⟨F, ρ, en, S, rp, g⟩ => ?_
    refine ⟨F, ρ, en, S, rp, (Good.bind g).mono ?_⟩
    rintro vs H1 ⟨F1, ρ1, e1, S1, ds, m1, rp1, r1, g1⟩
    obtain ⟨l, hd, g2⟩ := Good.lift (o := dzip ds) g1
    rw [x0.K]
    unfold dzip at hd
    split at hd
    · cases hd
      cases (show AtL _ _ _ _ _ _ from r1) with
      | cons h t =>
        cases t with
        | cons h' t =>
          cases t
          cases h with
          | tup h1 h2 =>
            cases h' with
            | tup h3 h4 => exact ⟨_, _, _, _, rfl, .inr ⟨h1.sq, h3.sq, Good.val (R := RI B) g2 rp1 fun F' ρ' H' s => wk_zT (h1.stays s).sq (h2.stays s) (h3.stays s).sq (h4.stays s)⟩⟩
    · cases hd
      cases (show AtL _ _ _ _ _ _ from r1) with
      | cons h t =>
        cases t with
        | cons h' t =>
          cases t
          cases h with
          | lst h1 h2 =>
            cases h' with
            | lst h3 h4 => exact ⟨_, _, _, _, rfl, .inl ⟨h1.sq, h3.sq, Good.val (R := RI B) g2 rp1 fun F' ρ' H' s => wk_zL (h1.stays s).sq (h2.stays s) (h3.stays s).sq (h4.stays s)⟩⟩
    · cases hd
end
end Eng

set_option maxHeartbeats 4000000
/-! THE ENGINE, part M: list comprehensions. -/
namespace Eng
open PySem PySem.Spec L2 PyProof.Rows
section
variable {B : Bd} {T : Tab} {Γ : Gm} {k : Nat} {c : Ctx} {X : Cx} {e a b a3 : PySem.Expr} {ma mb mc m : M D} {pos : Pos} {es : List PySem.Expr} {ml : M (List D)}
def Bd.nox (B : Bd) : Bd := { B with W := fun _ _ _ _ => False }
theorem XOk.blk {s : Shared} {H : Hp} {C : Addr} {cl : List (Str × Addr)} {fp : List Addr} {scope : Scope} (x0 : XOk B T Γ k c X) : XOk B.nox T Γ k (blkCtx c scope) (X.blk s H scope (compEnvC scope cl C X.env) fp) where
  K := x0.K
  N := x0.N
  nd := x0.nd
  sc := by
    show relS scope X.env.scope = relS scope c.sc
    rw [x0.sc]
  calm := x0.calm
  fn := fun x h => h
  tk := L2.takes0
  gl := ⟨x0.gl.free, x0.gl.cst, x0.gl.nm, x0.gl.fns, x0.gl.exc, x0.gl.len, x0.gl.mn, x0.gl.sub, x0.gl.tri⟩
  room := x0.room
  hu := x0.hu
  thk := fun h => nomatch (show false = true from h)
  err := fun h => nomatch (show false = true from h)
  nox := x0.nox
  lam := fun h => nomatch (show false = true from h)
/-! ### forgotten names -/
theorem wipe_out {vs : List Nat} {σ : L2.St} {i : Nat} (h : i ∉ vs) : (wipe σ vs)[i]? = σ[i]? := by
  induction vs with
  | nil => rfl
  | cons v vs ih =>
    rw [List.mem_cons, not_or] at h
    unfold wipe
    rw [List.getElem?_set_ne (Ne.symm h.1)]
    exact ih h.2
theorem wipe_in {vs : List Nat} {σ : L2.St} {i : Nat} (h : i ∈ vs) (hl : i < σ.length) : (wipe σ vs)[i]? = some none := by
  induction vs with
  | nil => cases h
  | cons v vs ih =>
    unfold wipe
    by_cases hv : v = i
    · subst hv
      rw [List.getElem?_set_self (by rw [wipe_length]; exact hl)]
    · rw [List.getElem?_set_ne hv]
      rcases List.mem_cons.mp h with h | h
      · exact absurd h.symm hv
      · exact ih h
theorem wipe_same {vs : List Nat} {σ σ2 : L2.St} {ix : List Nat} (h : SameBut σ2 (wipe σ vs) ix) (hs : ∀ i ∈ ix, i ∈ vs) : wipe σ2 vs = wipe σ vs := by
  have hl : σ2.length = σ.length := h.1.trans (wipe_length _ _)
  apply List.ext_getElem?
  intro i
  by_cases hi : i ∈ vs
  · by_cases hz : i < σ.length
    · rw [wipe_in hi hz, wipe_in hi (by omega)]
    · rw [List.getElem?_eq_none (by rw [wipe_length]; omega), List.getElem?_eq_none (by rw [wipe_length]; omega)]
  · rw [wipe_out hi, h.2 i (fun z => hi (hs i z))]
theorem wipeE_own : ∀ {vs : List Nat} {en : Env} {i : Nat} {l : List D}, (wipeE en vs)[i]? = some (Slot.own l) → en[i]? = some (Slot.own l) ∧ i ∉ vs
  | [], _, _, _, h => ⟨h, fun z => nomatch z⟩
  | v :: vs, en, i, l, h => by
    unfold wipeE at h
    by_cases hv : v = i
    · subst hv
      by_cases hl : v < (wipeE en vs).length
      · rw [List.getElem?_set_self hl] at h; cases h
      · rw [List.getElem?_eq_none (by simpa using hl)] at h; cases h
    · rw [List.getElem?_set_ne hv] at h
      obtain ⟨h1, h2⟩ := wipeE_own h
      exact ⟨h1, fun z => (List.mem_cons.mp z).elim (fun q => hv q.symm) h2⟩
theorem wipeE_sub {vs : List Nat} {en : Env} : SubOwn (wipeE en vs) en := fun i l h => (wipeE_own h).1
section
variable {G : Gl0} {N : Ent} {F F1 : Addr → Prop} {ρ ρ1 : List Addr} {H H1 : Hp} {σ σ2 : L2.St} {en e1 e2 : Env} {S S1 : Sto} {vs : List Nat}
theorem Rep.setE {v : Nat} (rp : Rep G N F ρ H σ en S) : Rep G N F ρ H (σ.set v none) (en.set v .emp) S := by
  have so : ∀ {j : Nat} {l : List D}, (en.set v .emp)[j]? = some (Slot.own l) → en[j]? = some (Slot.own l) ∧ j ≠ v := fun {j l} h => by
    by_cases hj : j = v
    · subst hj
      by_cases hl : j < en.length
      · rw [List.getElem?_set_self hl] at h; cases h
      · rw [List.getElem?_eq_none (by simpa using hl)] at h; cases h
    · rw [List.getElem?_set_ne (Ne.symm hj)] at h
      exact ⟨h, hj⟩
  refine ⟨rp.st, rp.ext, by rw [List.length_set, List.length_set]; exact rp.len, fun j s hs => ?_, fun a ⟨j, l, h1, h2⟩ => ?_, fun j j' l l' a h1 h2 h3 h4 => ?_⟩
  · by_cases hj : j = v
    · subst hj
      by_cases hl : j < en.length
      · rw [List.getElem?_set_self hl] at hs
        cases hs
        exact ⟨_, List.getElem?_set_self (by rw [← rp.len]; exact hl), True.intro⟩
      · rw [List.getElem?_eq_none (by simpa using hl)] at hs; cases hs
    · rw [List.getElem?_set_ne (Ne.symm hj)] at hs
      obtain ⟨ov, q1, q2⟩ := rp.slot j s hs
      exact ⟨ov, by rw [List.getElem?_set_ne (Ne.symm hj)]; exact q1, q2⟩
  · obtain ⟨q1, q2⟩ := so h1
    rw [List.getElem?_set_ne (Ne.symm q2)] at h2
    exact rp.own0 a ⟨j, l, q1, h2⟩
  · obtain ⟨q1, q2⟩ := so h1
    obtain ⟨q3, q4⟩ := so h2
    rw [List.getElem?_set_ne (Ne.symm q2)] at h3
    rw [List.getElem?_set_ne (Ne.symm q4)] at h4
    exact rp.dist j j' l l' a q1 q3 h3 h4
theorem Rep.wipe (rp : Rep G N F ρ H σ en S) : ∀ vs : List Nat, Rep G N F ρ H (wipe σ vs) (wipeE en vs) S
  | [] => rp
  | v :: vs => (Rep.wipe rp vs).setE
theorem own_wipe {a : Addr} (h : OwnAt (wipe σ vs) (wipeE en vs) a) : OwnAt σ en a := by
  obtain ⟨i, l, h1, h2⟩ := h
  obtain ⟨h3, h4⟩ := wipeE_own h1
  rw [wipe_out h4] at h2
  exact ⟨i, l, h3, h2⟩
theorem wipeE_length : ∀ {vs : List Nat} {en : Env}, (wipeE en vs).length = en.length
  | [], _ => rfl
  | v :: vs, en => by unfold wipeE; rw [List.length_set, wipeE_length]
theorem backE_length : ∀ {vs : List Nat} {e0 en : Env}, (backE e0 en vs).length = en.length
  | [], _, _ => rfl
  | v :: vs, e0, en => by
    unfold backE
    split
    · rw [List.length_set, backE_length]
    · exact backE_length
theorem backE_get : ∀ {vs : List Nat} {e0 en : Env} {i : Nat} {s : Slot}, e0.length = en.length → (backE e0 en vs)[i]? = some s → (i ∈ vs ∧ e0[i]? = some s) ∨ (i ∉ vs ∧ en[i]? = some s)
  | [], _, _, _, _, _, h => .inr ⟨fun z => (nomatch z), h⟩
  | v :: vs, e0, en, i, s, hl, h => by
    unfold backE at h
    by_cases hv : v = i
    · subst hv
      split at h
      · rename_i s' hs'
        have hlt : v < (backE e0 en vs).length := by
          rw [backE_length, ← hl]
          exact (List.getElem?_eq_some_iff.mp hs').1
        rw [List.getElem?_set_self hlt] at h
        cases h
        exact .inl ⟨List.mem_cons_self, hs'⟩
      · rename_i hs'
        have h1 : e0.length ≤ v := List.getElem?_eq_none_iff.mp hs'
        have h2 : v < (backE e0 en vs).length := (List.getElem?_eq_some_iff.mp h).1
        rw [backE_length] at h2
        omega
    · have h' : (backE e0 en vs)[i]? = some s := by
        split at h
        · rw [List.getElem?_set_ne hv] at h; exact h
        · exact h
      rcases backE_get hl h' with ⟨q1, q2⟩ | ⟨q1, q2⟩
      · exact .inl ⟨List.mem_cons_of_mem _ q1, q2⟩
      · exact .inr ⟨fun z => (List.mem_cons.mp z).elim (fun q => hv q.symm) q1, q2⟩
/-- the names come back -/
theorem Rep.back (rp : Rep G N F ρ H σ en S) (rp1 : Rep G N F1 ρ1 H1 (L2.wipe σ vs) e1 S1) (m : Mono (L2.wipe σ vs) (wipeE en vs) F ρ H e1 F1 ρ1 H1) :
    Rep G N F1 ρ1 H1 σ (backE en e1 vs) S1 ∧ Mono σ en F ρ H (backE en e1 vs) F1 ρ1 H1 := by
  have hl : en.length = e1.length := by rw [rp1.len, wipe_length]; exact rp.len
  have sy : Stays F F1 ρ ρ1 H H1 := m.ext.stays rp.st
  have sub : SubOwn (backE en e1 vs) en := fun i l h => by
    rcases backE_get hl h with ⟨q1, q2⟩ | ⟨q1, q2⟩
    · exact q2
    · exact (wipeE_own (m.sub i l q2)).1
  refine ⟨⟨rp1.st, rp1.ext, by rw [backE_length, ← hl]; exact rp.len, fun i s h => ?_, fun a h => rp.own0 a (sub.at h), fun i j di dj a h1 h2 => rp.dist i j di dj a (sub i di h1) (sub j dj h2)⟩, m.ext.weak fun a h => own_wipe h, sub⟩
  rcases backE_get hl h with ⟨q1, q2⟩ | ⟨q1, q2⟩
  · obtain ⟨ov, h1, h2⟩ := rp.slot i s q2
    refine ⟨ov, h1, ?_⟩
    cases s with
    | emp => trivial
    | val d =>
      obtain ⟨v, h3, h4⟩ := h2
      exact ⟨v, h3, h4.stays sy⟩
    | own l =>
      obtain ⟨b, xs, h3, h4, h5, h6, h7⟩ := h2
      have no : ¬ OwnAt (L2.wipe σ vs) (wipeE en vs) b := fun ⟨j, l', z1, z2⟩ => by
        obtain ⟨z3, z4⟩ := wipeE_own z1
        rw [wipe_out z4] at z2
        have := rp.dist i j l l' b q2 z3 (by rw [h1, h3]) z2
        exact z4 (this ▸ q1)
      refine ⟨b, xs, h3, m.ext.kp b _ h4 rfl h7, h5.stays sy, fun z => ?_, fun z => ?_⟩
      · rcases m.ext.fn b z with q | q | q
        · exact h6 q
        · exact q.no h4 rfl
        · exact no q
      · rcases m.ext.rn b z with q | q
        · exact h7 q
        · exact q.no h4 rfl
    | thk =>
      obtain ⟨f, c, q, h3, h4, h5, h6⟩ := h2
      obtain ⟨h7, h8⟩ := m.ext.code h5 h6
      exact ⟨f, c, q, h3, h4, h7, h8⟩
    | exn y => exact h2
  · obtain ⟨ov, h1, h2⟩ := rp1.slot i s q2
    rw [wipe_out q1] at h1
    exact ⟨ov, h1, h2⟩
/-- behind a turn: its names are forgotten -/
theorem Rep.turn {ix : List Nat} {σ0 : L2.St} {eb : Env} (hw : SameBut σ2 (L2.wipe σ0 vs) ix) (hs : ∀ i ∈ ix, i ∈ vs) (ho : ∀ i l, eb[i]? = some (Slot.own l) → en[i]? = some (Slot.own l) ∧ i ∉ ix)
    (rp1 : Rep G N F1 ρ1 H1 σ2 e1 S1) (m : Mono σ2 eb F ρ H e1 F1 ρ1 H1) : Rep G N F1 ρ1 H1 (L2.wipe σ0 vs) (wipeE e1 vs) S1 ∧ Mono (L2.wipe σ0 vs) en F ρ H (wipeE e1 vs) F1 ρ1 H1 := by
  refine ⟨by rw [← wipe_same hw hs]; exact rp1.wipe vs, m.ext.weak fun a ⟨i, l, h1, h2⟩ => ?_, fun i l h => (ho i l (m.sub i l (wipeE_own h).1)).1⟩
  obtain ⟨h3, h4⟩ := ho i l h1
  rw [hw.2 i h4] at h2
  exact ⟨i, l, h3, h2⟩
end
/-! ### the block -/
/-- the list Dl that is being made -/
structure CI (B : Bd) (Dl : Addr) (σw : L2.St) (e0 : Env) (F1 : Addr → Prop) (ρ1 : List Addr) (H1 : Hp) (F' : Addr → Prop) (ρ' : List Addr) (H' : Hp) (e' : Env) (S' : Sto) (acc : List V) (accD : List D) : Prop where
  rp : Rep B.G B.N F' ρ' H' σw e' S'
  mo : Mono σw e0 F1 ρ1 H1 e' F' ρ' H'
  nF : ¬ F' Dl
  nr : Dl ∉ ρ'
  no : ¬ OwnAt σw e' Dl
  n0 : Frh B.N.H Dl
  new : H1 Dl = none
  hd : H' Dl = some (.lst acc)
  al : AtL B.G F' ρ' H' acc accD
section
variable {Dl : Addr} {σw : L2.St} {e0 e' e2 : Env} {F1 F' F2 : Addr → Prop} {ρ1 ρ' ρ2 : List Addr} {H1 H' H2 : Hp} {S' S2 : Sto} {acc : List V} {accD : List D}
theorem CI.step (h : CI B Dl σw e0 F1 ρ1 H1 F' ρ' H' e' S' acc accD) (m : Mono σw e' F' ρ' H' e2 F2 ρ2 H2) (rp2 : Rep B.G B.N F2 ρ2 H2 σw e2 S2) : CI B Dl σw e0 F1 ρ1 H1 F2 ρ2 H2 e2 S2 acc accD where
  rp := rp2
  mo := h.mo.trans m
  nF := fun z => by
    rcases m.ext.fn Dl z with q | q | q
    · exact h.nF q
    · exact q.no h.hd rfl
    · exact h.no q
  nr := fun z => by
    rcases m.ext.rn Dl z with q | q
    · exact h.nr q
    · exact q.no h.hd rfl
  no := fun z => h.no (m.sub.at z)
  n0 := h.n0
  new := h.new
  hd := m.ext.kp Dl _ h.hd rfl h.nr
  al := h.al.stays (m.stays h.rp)
theorem CI.put (h : CI B Dl σw e0 F1 ρ1 H1 F' ρ' H' e' S' acc accD) {v : V} {d : D} (hv : At B.G F' ρ' H' v d) : CI B Dl σw e0 F1 ρ1 H1 F' ρ' (upd H' Dl (.lst (acc ++ [v]))) e' S' (acc ++ [v]) (accD ++ [d]) where
  rp := h.rp.hide h.nF h.nr h.no h.n0 (ok_lst h.hd)
  mo := h.mo.hide h.new
  nF := h.nF
  nr := h.nr
  no := h.no
  n0 := h.n0
  new := h.new
  hd := upd_same
  al := (h.al.append (.cons hv .nil)).stays (stays_hide h.nF)
end
def turnM (t : Tg) (mt : M Bool) (mr : M (List D)) (x : D) : M (List D) := do
  bindM t x
  let k ← mt
  iteM k mr (M.pure [])
theorem bind_ok {α β : Type} {m : M α} {f : α → M β} {en : Env} {S : Sto} {b : β} {e' : Env} {S' : Sto} (h : (m >>= f) en S = .ok b e' S') : ∃ a e1 S1, m en S = .ok a e1 S1 ∧ f a e1 S1 = .ok b e' S' := by
  have h' : M.bind m f en S = .ok b e' S' := h
  unfold M.bind at h'
  cases hm : m en S with
  | ok a e1 S1 => rw [hm] at h'; exact ⟨a, e1, S1, rfl, h'⟩
  | exc x e1 S1 => rw [hm] at h'; cases h'
  | fail => rw [hm] at h'; cases h'
theorem bindM_ok {t : Tg} {x : D} {en : Env} {S : Sto} {u : Unit} {e' : Env} {S' : Sto} (h : bindM t x en S = .ok u e' S') : bindT t x en = some e' ∧ S' = S := by
  unfold bindM at h
  split at h
  · rename_i e2 h2
    cases h
    exact ⟨h2, rfl⟩
  · cases h
theorem scope_ok {own : List Nat} {mm : M (List D)} {σ : L2.St} {F : Addr → Prop} {ρ : List Addr} {H : Hp} {en : Env} {S : Sto} {Q : VK} (g : Good B σ (RF B) F ρ H en ((do let r ← scopeM own mm; liftO (dlst r) : M D) en S) Q) :
    ∃ r e' S', mm (wipeE en own) S = .ok r e' S' ∧ r.length ≤ sizeLine ∧ Good B σ (RF B) F ρ H en (.ok (.lst r) (backE en e' own) S') Q := by
  have g' : Good B σ (RF B) F ρ H en (M.bind (scopeM own mm) (fun r => liftO (dlst r)) en S) Q := g
  unfold M.bind scopeM at g'
  cases hm : mm (wipeE en own) S with
  | exc x e1 S1 => rw [hm] at g'; exact False.elim g'
  | fail => rw [hm] at g'; exact False.elim g'
  | ok r e1 S1 =>
    rw [hm] at g'
    have g2 : Good B σ (RF B) F ρ H en (liftO (dlst r) (backE en e1 own) S1) Q := g'
    cases hd : dlst r with
    | none => rw [hd] at g2; exact False.elim g2
    | some d =>
      obtain ⟨h1, h2⟩ := dlst_of hd
      rw [hd, h2] at g2
      exact ⟨r, e1, S1, rfl, h1, g2⟩
theorem compL_cons {own : List Nat} {f : D → M (List D)} {x : D} {xs : List D} {en : Env} {S : Sto} {r : List D} {e' : Env} {S' : Sto} (h : compL own f (x :: xs) en S = .ok r e' S') :
    ∃ y e1 S1 r', f x en S = .ok y e1 S1 ∧ compL own f xs (wipeE e1 own) S1 = .ok r' e' S' ∧ r = y ++ r' := by
  obtain ⟨y, e1, S1, h1, h2⟩ := bind_ok h
  obtain ⟨u, e2, S2, h3, h4⟩ := bind_ok h2
  cases h3
  obtain ⟨r', e3, S3, h5, h6⟩ := bind_ok h4
  cases h6
  exact ⟨y, e1, S1, r', h1, h5, rfl⟩
theorem turnM_ok {t : Tg} {mt : M Bool} {mr : M (List D)} {x : D} {en : Env} {S : Sto} {y : List D} {e' : Env} {S' : Sto} (h : turnM t mt mr x en S = .ok y e' S') :
    ∃ eb kk e3 S3, bindT t x en = some eb ∧ mt eb S = .ok kk e3 S3 ∧ ((kk = true ∧ mr e3 S3 = .ok y e' S') ∨ (kk = false ∧ y = [] ∧ e' = e3 ∧ S' = S3)) := by
  obtain ⟨u, e1, S1, h1, h2⟩ := bind_ok h
  obtain ⟨h3, h4⟩ := bindM_ok h1
  subst h4
  obtain ⟨kk, e3, S3, h5, h6⟩ := bind_ok h2
  refine ⟨e1, kk, e3, S3, h3, h5, ?_⟩
  cases kk with
  | true => exact .inl ⟨rfl, h6⟩
  | false =>
    have h6' : M.pure [] e3 S3 = Res.ok y e' S' := h6
    cases h6'
    exact .inr ⟨rfl, rfl, rfl, rfl⟩
/-- the tests of a clause -/
def Sts (B : Bd) (T : Tab) (Γ : Gm) (k : Nat) (c : Ctx) (ifs : List PySem.Expr) (m : M Bool) : Prop := ∀ X, XOk B T Γ k c X → PTs X ifs (tR B Req m)
theorem sts_nil : Sts B T Γ k c [] (M.pure true) := fun X x0 => ⟨fun pins s σ H Q I ⟨F, ρ, en, S, rp, g⟩ => pts_nil.run pins s σ H Q I (Good.val (R := Req) g rp rfl)⟩
theorem sts_one {m : M Bool} (h : St B T Γ k c e m) : Sts B T Γ k c [e] m := fun X x0 => pts_one (h X x0)
theorem foldedSet_ok {it : PySem.Expr} {env : PySem.Env} (h : (match it with | .Set _ _ _ => false | _ => true) = true) : ∀ x, foldedSetIterable it env x = pure x := fun x => by
  cases it <;> first | rfl | cases h
def compM (t : Tg) (vs : List Nat) (mi : M (List D)) (mt : M Bool) (me : M D) : M D := do
  let xs ← mi
  let r ← scopeM vs (compL vs (turnM t mt (do let y ← me; M.pure [y])) xs)
  liftO (dlst r)
theorem comp_imp {t : Tg} {vs : List Nat} {mi : M (List D)} {mt : M Bool} {me : M D} (hix : ∀ i ∈ t.idx, i ∈ vs) {σ : L2.St} {H : Hp} {Q : VK} (h : tR B (RF B) (compM t vs mi mt me) σ H Q) :
    tLc (tR B (RJ B) mi) (tTg B.nox t) (tR B.nox Req mt) (tR B.nox (RA B.nox) me) vs σ H Q := by
  obtain ⟨F, ρ, en, S, rp, g⟩ := h
  refine ⟨F, ρ, en, S, rp, (Good.bind g).mono ?_⟩
  rintro J H1 ⟨F1, ρ1, e1, S1, xs, m1, rp1, r1, g1⟩ Dl hD
  obtain ⟨r, eE, SE, hr, hz, g2⟩ := scope_ok g1
  clear g1
  have rw1 := rp1.wipe vs
  obtain ⟨rw2, mw2⟩ := rw1.call (Ext.newL (u := .lst []) hD) (rw1.st.newL hD)
  obtain ⟨nF, nr⟩ := rp1.st.no hD
  have ci0 : CI B Dl (L2.wipe σ vs) (wipeE e1 vs) F1 ρ1 H1 F1 ρ1 (upd H1 Dl (.lst [])) (wipeE e1 vs) S1 [] [] :=
    ⟨rw2, mw2, nF, nr, (fun z => by obtain ⟨_, _, ys, q⟩ := rw1.ownAt z; rw [hD] at q; cases q), rp1.ext.tr Dl (frh_none hD), hD, upd_same, .nil⟩
  refine ⟨fun i m H' => m = xs.length - i ∧ i ≤ xs.length ∧ ∃ F' ρ' e' S' acc accD rest, CI B Dl (L2.wipe σ vs) (wipeE e1 vs) F1 ρ1 H1 F' ρ' H' e' S' acc accD ∧
    compL vs (turnM t mt (do let y ← me; M.pure [y])) (xs.drop i) e' S' = .ok rest eE SE ∧ accD ++ rest = r, ⟨xs.length, by simp, Nat.zero_le _, F1, ρ1, _, S1, [], [], r, ci0, by rw [List.drop_zero]; exact hr, rfl⟩, ?_⟩
  rintro i m H' ⟨rfl, hi, F', ρ', e', S', acc, accD, rest, ci, hcl, hrest⟩
  have wk : Wk B J xs F' ρ' H' := r1 F' ρ' H' (ci.mo.stays rw1) ci.mo.ext.kp
  by_cases hlt : i < xs.length
  · refine .inr ⟨wk.1 i hlt, fun H2 => i + 1 ≤ xs.length ∧ ∃ F' ρ' e' S' acc accD rest, CI B Dl (L2.wipe σ vs) (wipeE e1 vs) F1 ρ1 H1 F' ρ' H2 e' S' acc accD ∧
      compL vs (turnM t mt (do let y ← me; M.pure [y])) (xs.drop (i + 1)) e' S' = .ok rest eE SE ∧ accD ++ rest = r, fun H2 p => ⟨xs.length - (i + 1), by omega, rfl, p.1, p.2⟩, fun x H2 y => ?_⟩
    rw [List.drop_eq_getElem_cons hlt] at hcl
    obtain ⟨y1, e2, S2, r', hf, hcl2, er⟩ := compL_cons hcl
    subst er
    obtain ⟨eb, kk, e3, S3, hb, hmt, hbr⟩ := turnM_ok hf
    -- the item
    have item : ∃ F2, At B.G F2 ρ' H2 x xs[i] ∧ Mono (L2.wipe σ vs) e' F' ρ' H' e' F2 ρ' H2 ∧ Rep B.G B.N F2 ρ' H2 (L2.wipe σ vs) e' S' := by
      rcases wk.2.2 i xs[i] x H2 (by simp [hlt]) y with ⟨h1, h2⟩ | ⟨p, u, h1, hnt, h2, h3⟩
      · subst h1; exact ⟨F', h2, .refl, ci.rp⟩
      · subst h2
        obtain ⟨q1, q2⟩ := ci.rp.call (Ext.new (u := u) h1) (ci.rp.st.new h1 hnt)
        exact ⟨_, h3, q2, q1⟩
    obtain ⟨F2, hat, mo2, rp2⟩ := item
    have ci2 := ci.step mo2 rp2
    refine ⟨F2, ρ', e', S', xs[i], eb, rp2, hat, hb, fun σ2 rp3 sm ow => ?_⟩
    refine ⟨wipe_same sm hix, F2, ρ', eb, S', rp3, ?_⟩
    rw [hmt]
    intro F3 ρ3 H3 k3 m3 rp4 ek
    cases (show k3 = kk from ek)
    rcases hbr with ⟨hk, hme⟩ | ⟨hk, hy, he3, hS3⟩
    · subst hk
      rw [if_pos rfl]
      obtain ⟨yd, e4, S4, h1, h2⟩ := bind_ok hme
      cases h2
      refine ⟨F3, ρ3, e3, S3, rp4, ?_⟩
      rw [h1]
      intro F4 ρ4 H4 yv m4 rp5 hy
      obtain ⟨rp6, mo6⟩ := Rep.turn sm hix ow rp5 (m3.trans m4)
      have ci3 := ci2.step mo6 rp6
      have hacc : acc.length = accD.length := ci3.al.length
      refine ⟨acc, ci3.hd, ?_, hlt, F4, ρ4, _, _, _, _, r', ci3.put hy, hcl2, by rw [← hrest, List.append_assoc]⟩
      rw [← hrest, List.length_append, List.length_append, List.length_singleton] at hz
      omega
    · subst hk hy he3 hS3
      rw [if_neg (by decide)]
      obtain ⟨rp6, mo6⟩ := Rep.turn sm hix ow rp4 m3
      exact ⟨hlt, F3, ρ3, _, _, acc, accD, r', ci2.step mo6 rp6, hcl2, hrest⟩
  · have e : i = xs.length := by omega
    subst e
    refine .inl ⟨wk.2.1, ?_⟩
    rw [List.drop_length] at hcl
    cases hcl
    rw [List.append_nil] at hrest
    subst hrest
    obtain ⟨rpb, mob⟩ := rp1.back ci.rp ci.mo
    refine g2 F' ρ' H' _ mob rpb ⟨Dl, acc, accD, rfl, rfl, ci.hd, ci.al, ci.nF, ci.nr, fun z => ?_, ci.n0, frh_none hD⟩
    obtain ⟨_, _, ys, q⟩ := rp1.ownAt (mob.sub.at z)
    rw [hD] at q; cases q
theorem sf_comp {elt tg iter : PySem.Expr} {ifs : List PySem.Expr} {scope : Scope} {own : List (Str × Nat)} {t : Tg} {mi : M (List D)} {mt : M Bool} {me : M D} (hc : c.calm = true) (hi : Sj B T Γ k c tg iter mi) (ok : blkC c.N c.sc scope own = true)
    (hg : St_ B.nox T Γ k (blkCtx c scope) tg t) (ht : Sts B.nox T Γ k (blkCtx c scope) ifs mt) (he : Sa B.nox T Γ k (blkCtx c scope) elt me) (hix : ∀ i ∈ t.idx, i ∈ own.map (·.2)) (hs : notSet iter = true) :
    Sf B T Γ k c (.ListComp elt [⟨tg, iter, ifs, 0⟩] scope pos) (compM t (own.map (·.2)) mi mt me) := by
  intro X x0
  exact PEi (pe_lc (by rw [x0.calm]; exact hc) x0.nd (hi X x0) (blkOk_by (own := own) (by rw [x0.N, x0.sc]; exact ok)) (fun s H C cl fp => hg _ x0.blk) (fun s H C cl fp => ht _ x0.blk) (fun s H C cl fp => he _ x0.blk)
    (foldedSet_ok (by cases iter <;> first | rfl | cases hs))) fun σ H Q h => comp_imp hix h
end
end Eng

set_option maxHeartbeats 4000000
/-! THE ENGINE, part Mb: x.index(y), x.count(y) of lists and tuples. -/
namespace Eng
open PySem PySem.Spec L2 PyProof.Rows
/-- of a list (false) or a tuple (true): its data, the sought one's -/
structure MIn (K : PySem.W.Frag) (tp : Bool) (H : Hp) (a : Addr) (y : V) (ds : List PyData) (d : PyData) : Prop where
  s : ∃ xs, (tp = true ∧ SqT K H a xs ∨ tp = false ∧ SqL K H a xs) ∧ DpAll K H xs ds
  y : Dp K H y d
  sl : SeqAt.shaped (.list ds) = true
  sd : SeqAt.shaped d = true
def rMi (K : PySem.W.Frag) (tp : Bool) : V → List V → Hp → VK → Prop := fun x xs H Q => ∃ a y d ds j, x = V.ref a ∧ xs = [y] ∧ MIn K tp H a y ds d ∧ (ds.findIdx? fun z => PyData.eqv z d) = some j ∧ Q (.int (j : Nat)) H
def rMc (K : PySem.W.Frag) (tp : Bool) : V → List V → Hp → VK → Prop := fun x xs H Q => ∃ a y d ds, x = V.ref a ∧ xs = [y] ∧ MIn K tp H a y ds d ∧ Q (.int ((ds.countP fun z => PyData.eqv z d : Nat) : Int)) H
section
variable {X : Cx} {pins : List (Addr × Obj)} {σ : L2.St} {H : Hp} {s : Shared}
/-- the items as they lie -/
structure Lies (X : Cx) (s : Shared) (its : List Value) (uy : Value) (ds : List PyData) (d : PyData) : Prop where
  at_ : ∀ (m : Nat) (hm : m < its.length), ∃ (z : PyData), ds[m]? = some z ∧ SeqAt.readOf s.heap its[m] = z
  len : its.length = ds.length
  map : its.map (SeqAt.readOf s.heap) = ds
  eq : ∀ y, y ∈ its.toArray → SeqAt.EqAt X.A.in1 s y uy (PyData.eqv (SeqAt.readOf s.heap y) d)
theorem lies_of {xs : List V} {its : List Value} {y : V} {uy : Value} {ds : List PyData} {d : PyData} (I : Inv X pins σ H s) (hu : X.A.units + 65 < cLine) (ha : DpAll X.K H xs ds) (rv : Vals xs its) (hy : Dp X.K H y d) (ry : RelV y uy) (sl : SeqAt.shaped (.list ds) = true) (sd : SeqAt.shaped d = true) :
    Lies X s its uy ds d := by
  obtain ⟨bs, r1⟩ := Dp.reads I d y uy hy ry
  obtain ⟨as, r4⟩ := Dp.readsAll I ds xs its ha rv
  have cl : PyData.canLayAll0 ds = true := SeqAt.canLay_of_shaped sl
  have rm : X.A.units + 1 + min (PyData.depthAll ds) d.depth < cLine := room_in_shaped sd hu
  have hm : its.map (SeqAt.readOf s.heap) = ds := SeqAt.readsAll_map ds its as cl r4
  refine ⟨fun m hlt => ⟨SeqAt.readOf s.heap its[m], ?_, rfl⟩, SeqAt.ReadsAll.length ds its as r4, hm, SeqAt.items_eqAt (vs := its.toArray) (show ReadsAll s.heap its.toArray.toList ds as from r4) r1 cl (SeqAt.canLay_of_shaped sd) rm⟩
  rw [← hm, List.getElem?_map, List.getElem?_eq_getElem hlt]
  rfl
theorem Lies.hit {its : List Value} {uy : Value} {ds : List PyData} {d : PyData} {j : Nat} (L : Lies X s its uy ds d) (h : (ds.findIdx? fun z => PyData.eqv z d) = some j) :
    ∃ hj : j < its.length, PyData.eqv (SeqAt.readOf s.heap its[j]) d = true ∧ ∀ m (hm : m < its.length), m < j → PyData.eqv (SeqAt.readOf s.heap its[m]) d = false := by
  obtain ⟨h1, h2, h3⟩ := List.findIdx?_eq_some_iff_getElem.mp h
  refine ⟨by rw [L.len]; exact h1, ?_, fun m hm hmj => ?_⟩
  · obtain ⟨z, e1, e2⟩ := L.at_ j (by rw [L.len]; exact h1)
    rw [e2]
    rw [List.getElem?_eq_getElem h1] at e1
    cases e1
    exact h2
  · obtain ⟨z, e1, e2⟩ := L.at_ m hm
    rw [e2]
    have hmd : m < ds.length := by rw [← L.len]; exact hm
    rw [List.getElem?_eq_getElem hmd] at e1
    cases e1
    simpa using h3 m hmj
theorem Lies.cnt {its : List Value} {uy : Value} {ds : List PyData} {d : PyData} (L : Lies X s its uy ds d) : (its.toArray.toList.countP fun u => PyData.eqv (SeqAt.readOf s.heap u) d) = ds.countP fun z => PyData.eqv z d := by
  rw [← L.map, List.countP_map]
  rfl
theorem mt_mi (tp : Bool) (hu : X.A.units + 65 < cLine) : MtR X (match tp with | true => "tuple.index" | false => "list.index") (rMi X.K tp) := by
  intro pins s σ H x xs v us Q I rx rxs h
  obtain ⟨a, y, d, ds, j, e1, e2, hM, hj, q⟩ := h
  subst e1 e2
  cases rx
  cases rxs with
  | cons ry rt =>
    cases rt
    rename_i uy
    obtain ⟨zs, hs, ha⟩ := hM.s
    have hsl := sizeLine_eq
    rcases hs with ⟨et, hs⟩ | ⟨et, hs⟩
    · subst et
      obtain ⟨its, rv, ⟨⟨cls, dd, data, sls⟩, ho, hc, n, hdt⟩, hlen⟩ := I.tuple hs
      simp only at hc hdt
      subst hc; subst hdt
      have L := lies_of I hu ha rv hM.y ry hM.sl hM.sd
      obtain ⟨hj1, hj2, hj3⟩ := L.hit hj
      have hvl := rv.length
      refine call_meets F.slot_tuple_index ⟨_, ho, rfl⟩ F.entry_tuple_index (F.args_tuple_index_2 _ _) (TI.tuple_indexAt a its.toArray n dd sls uy (fun u => PyData.eqv (SeqAt.readOf s.heap u) d) j (by simpa using hj1) (by simpa using hj2) (fun m hm hmj => by simpa using hj3 m (by simpa using hm) hmj)) ⟨ho, L.eq, ?_⟩
      exact ⟨.int (j : Nat), H, I.tok _, ⟨_, rfl⟩, q⟩
    · subst et
      obtain ⟨its, rv, ⟨⟨cls, dd, data, sls⟩, n, ho, hc, hdn, hdt⟩, hlen⟩ := I.list hs
      simp only at hc hdt
      subst hc; subst hdt
      have L := lies_of I hu ha rv hM.y ry hM.sl hM.sd
      obtain ⟨hj1, hj2, hj3⟩ := L.hit hj
      have hvl := rv.length
      refine call_meets F.slot_list_index ⟨_, ho, rfl⟩ F.entry_list_index (F.args_list_index_2 _ _) (SeqAt.list_indexAt a its.toArray n dd sls uy (fun u => PyData.eqv (SeqAt.readOf s.heap u) d) j (by simpa using hj1) (by omega) (by simpa using hj2) (fun m hm hmj => by simpa using hj3 m (by simpa using hm) hmj)) ⟨ho, L.eq, ?_⟩
      exact ⟨.int (j : Nat), H, I.tok _, ⟨_, rfl⟩, q⟩
theorem mt_mc (tp : Bool) (hu : X.A.units + 65 < cLine) : MtR X (match tp with | true => "tuple.count" | false => "list.count") (rMc X.K tp) := by
  intro pins s σ H x xs v us Q I rx rxs h
  obtain ⟨a, y, d, ds, e1, e2, hM, q⟩ := h
  subst e1 e2
  cases rx
  cases rxs with
  | cons ry rt =>
    cases rt
    rename_i uy
    obtain ⟨zs, hs, ha⟩ := hM.s
    have fin : ∀ {its : List Value}, Lies X s its uy ds d → EP X pins σ Q (.int ((its.toArray.toList.countP fun u => PyData.eqv (SeqAt.readOf s.heap u) d : Nat) : Int) s.toks) { s with toks := s.toks + 1 } := fun {its} L => by
      refine ⟨.int ((ds.countP fun z => PyData.eqv z d : Nat) : Int), H, I.tok _, ⟨s.toks, ?_⟩, q⟩
      rw [L.cnt]
    rcases hs with ⟨et, hs⟩ | ⟨et, hs⟩
    · subst et
      obtain ⟨its, rv, ⟨⟨cls, dd, data, sls⟩, ho, hc, n, hdt⟩, hlen⟩ := I.tuple hs
      simp only at hc hdt
      subst hc; subst hdt
      have L := lies_of I hu ha rv hM.y ry hM.sl hM.sd
      exact call_meets F.slot_tuple_count ⟨_, ho, rfl⟩ F.entry_tuple_count (F.args_tuple_count_2 _ _) (SeqAt.tuple_countAt a its.toArray n dd sls uy (fun u => PyData.eqv (SeqAt.readOf s.heap u) d)) ⟨ho, L.eq, fin L⟩
    · subst et
      obtain ⟨its, rv, ⟨⟨cls, dd, data, sls⟩, n, ho, hc, hdn, hdt⟩, hlen⟩ := I.list hs
      simp only at hc hdt
      subst hc; subst hdt
      have L := lies_of I hu ha rv hM.y ry hM.sl hM.sd
      exact call_meets F.slot_list_count ⟨_, ho, rfl⟩ F.entry_list_count (F.args_list_count_2 _ _) (SeqAt.list_countAt a its.toArray n dd sls uy (fun u => PyData.eqv (SeqAt.readOf s.heap u) d)) ⟨ho, L.eq, fin L⟩
end
section
variable {B : Bd} {T : Tab} {Γ : Gm} {k : Nat} {c : Ctx} {X : Cx} {e a b : PySem.Expr} {ma mb : M D} {pos : Pos}
theorem mt_mcL (hu : X.A.units + 65 < cLine) : MtR X "list.count" (rMc X.K false) := mt_mc (X := X) false hu
theorem mt_miL (hu : X.A.units + 65 < cLine) : MtR X "list.index" (rMi X.K false) := mt_mi (X := X) false hu
/-- the answer of a method, the promise of its rule -/
def rMth (K : PySem.W.Frag) (m : Mth) : V → List V → Hp → VK → Prop := match m with
  | .index => rMi K false
  | .count => rMc K false
theorem mthOf_ok {x : Str} {m : Mth} (h : mthOf x = some m) : (x = "index" ∧ m = .index) ∨ (x = "count" ∧ m = .count) := by
  unfold mthOf at h
  split at h
  · rename_i e; cases h; exact .inl ⟨e, rfl⟩
  · split at h
    · rename_i e; cases h; exact .inr ⟨e, rfl⟩
    · cases h
theorem lst_py {l : List D} {qs : List PyData} (h : (D.lst l).shapedO = some (.list qs)) : D.pyL l = some qs ∧ SeqAt.shaped (.list qs) = true := by
  unfold D.shapedO at h
  split at h
  · rename_i q hq
    split at h
    · rename_i hs
      cases h
      unfold D.py at hq
      obtain ⟨r, h1, h2⟩ := Option.map_eq_some_iff.mp hq
      cases h2
      exact ⟨h1, hs⟩
    · cases h
  · cases h
theorem py_of {d : D} {p : PyData} (h : d.shapedO = some p) : D.py d = some p ∧ SeqAt.shaped p = true := by
  unfold D.shapedO at h
  split at h
  · rename_i q hq
    split at h
    · rename_i hs
      cases h
      exact ⟨hq, hs⟩
    · cases h
  · cases h
theorem hr_mth {m : Mth} {σ : L2.St} {F : Addr → Prop} {ρ : List Addr} {H Hb : Hp} {en : Env} {S : Sto} {v w : V} {d1 d2 : D} {Q : VK} (rp : Rep B.G B.N F ρ H σ en S) (h1 : RB B H F ρ H σ en v d1) (h2 : RB B Hb F ρ H σ en w d2) (g : Good B σ (RA B) F ρ H en (liftO (dmth m d1 d2) en S) Q) : rMth B.G.K m v [w] H Q := by
  obtain ⟨z, hz, g⟩ := g.lift
  cases d1 with
  | lst l =>
    obtain ⟨a, xs, e1, hl, hal⟩ := h1.lst
    have key : ∀ qs p, (D.lst l).shapedO = some (.list qs) → d2.shapedO = some p → MIn B.G.K false H a w qs p := fun qs p hq hp => by
      obtain ⟨q1, q2⟩ := lst_py hq
      obtain ⟨q3, q4⟩ := h2.dp hp
      exact ⟨⟨xs, .inr ⟨rfl, hl.sq⟩, dpL_of hal q1⟩, q3, q2, q4⟩
    cases m with
    | index =>
      have hz' : (match (D.lst l).shapedO, d2.shapedO with | some (.list qs), some p => dfind p qs | _, _ => none) = some z := hz
      split at hz'
      · rename_i qs p hq hp
        unfold dfind at hz'
        obtain ⟨j, hj, ez⟩ := Option.map_eq_some_iff.mp hz'
        subst ez e1
        exact ⟨a, w, p, qs, j, rfl, rfl, key qs p hq hp, hj, Good.val (R := RA B) g rp (.int _)⟩
      · cases hz'
    | count =>
      have hz' : (match (D.lst l).shapedO, d2.shapedO with | some (.list qs), some p => some (D.int ((qs.countP fun z => PyData.eqv z p : Nat) : Int)) | _, _ => none) = some z := hz
      split at hz'
      · rename_i qs p hq hp
        cases hz'
        subst e1
        exact ⟨a, w, p, qs, rfl, rfl, key qs p hq hp, Good.val (R := RA B) g rp (.int _)⟩
      · cases hz'
  | _ => cases m <;> cases hz
theorem sa_mth {m : Mth} {x nm : Str} {i : Nat} {p2 apos cpos : Pos} (hm : mthOf nm = some m) (hb : Sb B T Γ k c a ma) (hN : c.N[i]? = some x) (hv : visB c.sc x = true) (hd : noDebug x = true) (hs : notStar a = true) (hline : (apos.endLine == cpos.line) = true) :
    Sa B T Γ k c (.Call (.Attribute (.Name x p2) nm apos) [a] [] cpos) (do let x ← getB i; let _ ← liftO (asLst x); let y ← ma; liftO (dmth m x y)) := fun X x0 => by
  have hu : X.A.units + 65 < cLine := by have := x0.hu; omega
  have ho := sb_var (B := B) (T := T) (Γ := Γ) (k := k) (pos := p2) hN hv hd X x0
  have hst : starEach [a] X.env = [(false, eval a X.env)] := star_cons hs
  have few : ((backTo cpos (starEach [a] X.env)).all (fun x => !x.1) && (backToKw cpos (keywordEach [] X.env)).all (fun x => x.1.isSome)
      && decide (([a] : List PySem.Expr).length + ([] : List Keyword).length + (if ([] : List Keyword).isEmpty then 0 else 1) < 30)) = true := by rw [hst]; rfl
  have hA : PA X [a] _ := pa_cons (hb X x0) pa_nil hst
  have rule : PE X (.Call (.Attribute (.Name x p2) nm apos) [a] [] cpos) (tBM X.K "list" (rMth X.K m) (tR B (RB B) (getB i)) (tCons (tR B (RB B) ma) tNil)) := by
    rcases mthOf_ok hm with ⟨e1, e2⟩ | ⟨e1, e2⟩
    · subst e1 e2
      exact pe_bm (es := []) F.plainAttrs_list F.slot_list_index (by rfl) (mt_miL hu) ho hA rfl few hline hst rfl
    · subst e1 e2
      exact pe_bm (es := []) F.plainAttrs_list F.slot_list_count (by rfl) (mt_mcL hu) ho hA rfl few hline hst rfl
  refine PEi rule fun σ H Q ⟨F, ρ, en, S, rp, g⟩ => ?_
  refine ⟨F, ρ, en, S, rp, (Good.bind g).mono ?_⟩
  rintro v H1 ⟨F1, ρ1, e1, S1, d1, m1, rp1, r1, g1⟩
  have lifted : ∃ l, asLst d1 = some l ∧ Good B σ (RA B) F1 ρ1 H1 e1 ((do let y ← ma; liftO (dmth m d1 y) : M D) e1 S1) Q := by
    have g1' : Good B σ (RA B) F1 ρ1 H1 e1 (M.bind (liftO (asLst d1)) (fun _ => (do let y ← ma; liftO (dmth m d1 y) : M D)) e1 S1) Q := g1
    cases hh : asLst d1 with
    | none => rw [hh] at g1'; exact g1'.elim
    | some l => rw [hh] at g1'; exact ⟨l, rfl, g1'⟩
  obtain ⟨l0, hl0, g1'⟩ := lifted
  refine ⟨?_, F1, ρ1, e1, S1, rp1, (Good.bind g1').mono ?_⟩
  · cases d1 with
    | lst l =>
      obtain ⟨p, xs, h1, h2, h3⟩ := RB.lst r1
      subst h1
      exact .inl ⟨rfl, xs, by rw [x0.K]; exact h2.sq⟩
    | _ => cases hl0
  · rintro w H2 ⟨F2, ρ2, e2, S2, d2, m2, rp2, r2, g2⟩
    have r1' := RB.later (Hb := H2) rp1 m2 r1
    rw [x0.K]
    exact hr_mth rp2 r1' r2 g2
end
end Eng

set_option maxHeartbeats 4000000
/-! THE ENGINE, part Mc: isinstance of several types; a name's def called; what was got, called; an exception's class; a lambda handed on. -/
namespace Eng
open PySem PySem.Spec L2 PyProof.Rows
section
variable {B : Bd} {T : Tab} {Γ : Gm} {k : Nat} {c : Ctx} {X : Cx} {e a b : PySem.Expr} {ma mb : M D} {pos : Pos} {es : List PySem.Expr} {ml : M (List D)}
/-! ### isinstance(x, (t, ..)) -/
def clsV (t : Ty) : V := .ty t.name
theorem kitAny_disi {K : PySem.W.Frag} {d : D} (hd : d.isiOk = true) : ∀ ts : List Ty, PySem.W.kitAny K (.type (tyN d)) (ts.map fun t => .type t.name) = some (ts.any fun t => disi t d)
  | [] => kitAny_nil
  | t :: ts => by
    rw [List.map_cons, List.any_cons]
    refine kitAny_cons (b := disi t d) (kit_ty (kit_disi t d hd)) (fun h => ?_) fun h => by rw [h]; rfl
    rw [h, Bool.false_or]
    exact kitAny_disi hd ts
theorem pa_tys (x0 : XOk B T Γ k c X) : ∀ {es : List PySem.Expr} {ts : List Ty}, es.mapM (cTy T c) = some ts → ∃ t : TA, PA X es t ∧ ∀ σ H Q, Q (ts.map clsV) H → t σ H Q
  | [], ts, h => by
    rw [List.mapM_nil] at h
    cases h
    exact ⟨tNil, pa_nil, fun σ H Q q => q⟩
  | e :: es, ts, h => by
    rw [List.mapM_cons] at h
    obtain ⟨t, h1, h2⟩ := Option.bind_eq_some_iff.mp h
    obtain ⟨ts', h3, h4⟩ := Option.bind_eq_some_iff.mp h2
    cases h4
    obtain ⟨tr, p1, p2⟩ := pa_tys x0 h3
    unfold cTy at h1
    split at h1
    · rename_i x p
      unfold guardO at h1
      split at h1
      · rename_i hg
        rw [Bool.and_eq_true] at hg
        have ex : x = Str.ofString t.name := by
          unfold tyOf at h1
          repeat (split at h1; · rename_i e; cases h1; exact e)
          cases h1
        have hd2 : noDebug x = true := by subst ex; cases t <;> decide +kernel
        have hbt : bootBuiltins x = some (.type t.name) := by rw [ex]; exact ty_boot t
        refine ⟨_, pa_cons (pe_bltn (v := clsV t) (gl_of x0.sc hg.2) (x0.gl.free x (List.contains_iff_mem.mp hg.1)) hbt rfl (nd3 hd2) (nd1 hd2)) p1 (star_cons rfl), fun σ H Q q => ?_⟩
        exact p2 σ H _ q
      · cases h1
    · cases h1
theorem paired_cls : ∀ tys : List Ty, Paired ClsV (tys.map clsV) (tys.map fun t => .type t.name)
  | [] => .nil
  | t :: ts => .cons (.ty _) (paired_cls ts)
theorem sa_isiT {x : Str} {p p2 : Pos} {kk : Nat} {ts : List PySem.Expr} {tys : List Ty} (hx : x = ("isinstance" : Str)) (hf : T.free.contains x = true) (hg : globB c.sc x = true) (ht : ts.mapM (cTy T c) = some tys)
    (hb : Sb B T Γ k c a ma) (hs : notStar a = true) (hz : tys.length ≤ sizeLine) :
    Sa B T Γ k c (.Call (.Name x p) [a, .Tuple ts kk p2] [] pos) (do let x ← ma; isiM x.isiOk (.bl (tys.any fun t => disi t x))) := by
  intro X x0
  obtain ⟨tt, pt1, pt2⟩ := pa_tys x0 ht
  have hA : PA X [a, .Tuple ts kk p2] _ := pa_cons (hb X x0) (pa_cons (pe_tup pt1) pa_nil (star_cons rfl)) (star_cons hs)
  subst hx
  refine PEi (pe_callB call_isiT (gl_of x0.sc hg) (x0.gl.free _ (List.contains_iff_mem.mp hf)) (by decide +kernel) hA (by decide) (by decide) (star_cons hs) (any_star rfl)) fun σ H Q ⟨F, ρ, en, S, rp, g⟩ => ?_
  refine ⟨F, ρ, en, S, rp, (Good.bind g).mono ?_⟩
  rintro v H1 ⟨F1, ρ1, e1, S1, d, m1, rp1, r1, g1⟩
  refine pt2 σ H1 _ ⟨by rw [List.length_map]; exact hz, fun tp htp => ?_⟩
  cases hk : d.isiOk with
  | false =>
    have g1' : Good B σ (RA B) F1 ρ1 H1 e1 (isiM d.isiOk (.bl (tys.any fun t => disi t d)) e1 S1) Q := g1
    rw [hk] at g1'
    exact False.elim g1'
  | true =>
    have g1' : Good B σ (RA B) F1 ρ1 H1 e1 (isiM d.isiOk (.bl (tys.any fun t => disi t d)) e1 S1) Q := g1
    rw [hk] at g1'
    obtain ⟨rp2, m2⟩ := rp1.call (Ext.newL (u := .tup (tys.map clsV)) htp) (rp1.st.newL htp)
    have r2 : RB B H1 F1 ρ1 (upd H1 tp (.tup (tys.map clsV))) σ e1 v d := RB.later (Hb := H1) rp1 m2 r1
    refine ⟨v, tp, tys.map clsV, .type (tyN d), tys.map fun t => .type t.name, _, rfl, upd_same, ?_, ?_, kitAny_disi hk tys, ?_⟩
    · exact paired_cls tys
    · rw [x0.K]
      exact tyX_of r2 hk
    · exact g1' F1 ρ1 _ _ m2 rp2 (.bl _)
/-! ### a name that holds a def -/
theorem sa_callV {i : Nat} {x : Str} {p : Pos} (hc : c.calm = true) (hN : c.N[i]? = some x) (hv : visB c.sc x = true) (hd : noDebug x = true) (hl : Sl B T Γ k c (e :: es) ml) (hs : (e :: es).all notStar = true) :
    Sa B T Γ k c (.Call (.Name x p) (e :: es) [] pos) (do let f ← getB i; fnM f fun j => (do let ds ← ml; callM Γ j ds)) := by
  intro X x0
  rw [List.all_cons, Bool.and_eq_true] at hs
  refine ⟨fun pins s σ H Q I h => ?_⟩
  obtain ⟨F, ρ, en, S, rp, g⟩ := h
  have g' : Good B σ (RA B) F ρ H en (M.bind (getB i) (fun f => fnM f fun j => (do let ds ← ml; callM Γ j ds)) en S) Q := g
  unfold M.bind getB at g'
  cases he : en[i]? with
  | none => rw [he] at g'; exact g'.elim
  | some sl =>
    rw [he] at g'
    obtain ⟨ov, h1, h2⟩ := rp.slot i sl he
    cases sl with
    | val d =>
      cases d with
      | fn j =>
        obtain ⟨v, h3, h4⟩ := h2
        subst h3
        cases h4 with
        | fn hn =>
          rename_i y
          obtain ⟨ps, hi⟩ := x0.gl.mn j y hn
          obtain ⟨q1, q2, fd, hb, hF⟩ := x0.gl.fns j y ps hi
          rw [← x0.K] at h1 q2 hb hF
          have g2 : Good B σ (RA B) F ρ H en ((do let ds ← ml; callM Γ j ds : M D) en S) Q := g'
          refine wpAny_Call_Name_kw (thn ((pe_var (pos := p) (i := i) (by rw [x0.N]; exact hN) (by rw [x0.sc]; exact vis_of hv) (nd1 hd) (nd2 hd)).run pins s σ H (fun v H1 => v = .ref (He.ga X.K y) ∧ H1 = H) I ⟨_, h1, rfl, rfl⟩) fun u s1 ⟨v, H1, I1, r1, ev, eH⟩ => ?_)
          subst ev; subst eH
          cases r1
          refine PySem.W.callWith_K (h₀ := X.base) I.ok.mod.kin q2 (thn ((hl X x0).run pos pins s1 σ _ (fun vs H1 => spC B.G ps.length (Γ.call j) vs H1 Q (WE B.W σ)) I1 ⟨F, ρ, en, S, rp, (Good.bind g2).mono ?_⟩) fun us s2 ⟨vs, H2, I2, r, q⟩ => ⟨I2.kIn, ?_⟩) (star_cons hs.1) (any_star hs.2)
          · rintro vs H2 ⟨F1, ρ1, e1, S1, ds, m1, rp1, r1, g1⟩
            have gf := GoodF.of g1 rp1
            refine ⟨F1, ρ1, S1, ds, x0.gl.len j y ps ds S1 hi (fun z => ?_), rp1.st, r1, gf⟩
            rw [z] at gf
            exact gf
          · exact hF.call (x0.room hc) hb (passAt x0.tk σ) I2 r q
      | _ => exact g'.elim
    | _ => exact g'.elim
end
end Eng

set_option maxHeartbeats 4000000
/-! THE ENGINE, part Md: ranges with steps, list(range(..)), tuple(range(..)), extend. -/
namespace Eng
open PySem PySem.Spec L2 PyProof.Rows
section
variable {B : Bd} {T : Tab} {Γ : Gm} {k : Nat} {c : Ctx} {X : Cx} {e a b a3 : PySem.Expr} {ma mb mc m : M D} {pos : Pos} {es : List PySem.Expr} {ml : M (List D)}
def RgA (vs : List V) (i j c : Int) : Prop := (vs = [.int j] ∧ i = 0 ∧ c = 1) ∨ (vs = [.int i, .int j] ∧ c = 1) ∨ (vs = [.int i, .int j, .int c] ∧ c ≠ 0 ∧ c.natAbs < 1073741824)
def vRng (i c : Int) (n : Nat) : List V := (List.range n).map fun (k : Nat) => V.int (i + k * c)
theorem rngC_one {i j : Int} : rngL i j = rngC i 1 (j - i).toNat := by
  unfold rngL rngC
  refine List.map_congr_left fun k _ => ?_
  rw [Int.mul_one]
theorem stepOk_of {i j c : Int} (h : stepOk i j c = true) : c ≠ 0 ∧ c.natAbs < 1073741824 ∧ Builtin.Range.small i j c = true := by
  unfold stepOk at h
  simp only [Bool.and_eq_true, decide_eq_true_eq] at h
  exact ⟨h.1.1, h.1.2, h.2⟩
/-- what a range's arguments say -/
theorem drng_of {F : Addr → Prop} {ρ : List Addr} {H : Hp} {vs : List V} {ds l : List D} (h : AtL B.G F ρ H vs ds) (hd : drng ds = some l) :
    ∃ i j c n, RgA vs i j c ∧ Builtin.Range.small i j c = true ∧ Builtin.Range.rangeSize i j c = (n : Nat) ∧ l = rngC i c n := by
  match ds, h, hd with
  | [.int j], h, hd =>
    obtain ⟨h1, h2⟩ := ite_some (show (if rngOk j = true then some (rngL 0 j) else none) = some l from hd)
    cases h with
    | cons h t =>
      cases h
      cases t
      obtain ⟨h3, h4⟩ := rngOk_of h1
      exact ⟨0, j, 1, (j - 0).toNat, .inl ⟨rfl, rfl, rfl⟩, small_one (by decide) (by decide) h3 h4, rangeSize_nat 0 j, by rw [← h2]; exact rngC_one⟩
  | [.int i, .int j], h, hd =>
    obtain ⟨h1, h2⟩ := ite_some (show (if (rngOk i && rngOk j) = true then some (rngL i j) else none) = some l from hd)
    rw [Bool.and_eq_true] at h1
    cases h with
    | cons q1 t =>
      cases t with
      | cons q2 t =>
        cases q1
        cases q2
        cases t
        obtain ⟨h3, h4⟩ := rngOk_of h1.1
        obtain ⟨h5, h6⟩ := rngOk_of h1.2
        exact ⟨i, j, 1, (j - i).toNat, .inr (.inl ⟨rfl, rfl⟩), small_one h3 h4 h5 h6, rangeSize_nat i j, by rw [← h2]; exact rngC_one⟩
  | [.int i, .int j, .int c], h, hd =>
    obtain ⟨h1, h2⟩ := ite_some (show (if stepOk i j c = true then some (rngC i c (Builtin.Range.rangeSize i j c).toNat) else none) = some l from hd)
    obtain ⟨h3, h4, h5⟩ := stepOk_of h1
    cases h with
    | cons q1 t =>
      cases t with
      | cons q2 t =>
        cases t with
        | cons q3 t =>
          cases q1
          cases q2
          cases q3
          cases t
          exact ⟨i, j, c, _, .inr (.inr ⟨rfl, h3, h4⟩), h5, rangeSize_toNat i j c, h2.symm⟩
theorem atL_rng {F : Addr → Prop} {ρ : List Addr} {H : Hp} {i c : Int} {n : Nat} : AtL B.G F ρ H (vRng i c n) (rngC i c n) := by
  unfold vRng rngC
  generalize List.range n = l
  induction l with
  | nil => exact .nil
  | cons a l ih => exact .cons (.int _) ih
theorem vals_rngC {i c : Int} {n : Nat} {acc : Array Value} (h : ItemsOf (fun k v => ∃ t, v = .int (i + k * c) t) acc n) : Vals (vRng i c n) acc.toList := by
  have e : acc.toList.length = n := by rw [Array.length_toList]; exact h.1
  unfold vRng
  rw [← e]
  refine vals_of_get acc.toList _ fun j u hj => ?_
  obtain ⟨t, rfl⟩ := h.2 j u (by rw [← hj, Array.getElem?_toList])
  exact ⟨t, rfl⟩
theorem vRng_len {i c : Int} {n : Nat} : (vRng i c n).length = n := by unfold vRng; rw [List.length_map, List.length_range]
/-- range(..), evaluated -/
theorem rg_run {ta : TA} {p : Pos} (hg : Gl X "range") (hm : X.mg "range" = none) (ha : PA X (a :: es) ta) (hs : (a :: es).all notStar = true) {pins : List (Addr × Obj)} {s : Shared} {σ : L2.St} {H : Hp} {Q : Int → Int → Int → Hp → Prop}
    (I : Inv X pins σ H s) (h : ta σ H fun vs H1 => ∃ i j c, RgA vs i j c ∧ Q i j c H1) :
    wpAny (model X.prog X.w) X.A (eval (.Call (.Name "range" p) (a :: es) [] pos) X.env) (fun x s' => ∃ r i j c t u v H', x = .ref r ∧ IsRange s'.heap r i j c t u v ∧ Inv X pins σ H' s' ∧ Q i j c H') X.xe s := by
  rw [List.all_cons, Bool.and_eq_true] at hs
  refine Call_ (ld_blt I hg hm boot_range (PyProof.Rows.callWith_type1 (thn (ha.run pos pins s σ H _ I h) fun us s1 ⟨vs, H1, I1, r1, i, j, c, ar, q⟩ => ?_) (star_cons hs.1) (any_star hs.2)))
  rcases ar with ⟨e, rfl, rfl⟩ | ⟨e, rfl⟩ | ⟨e, c0, c1⟩
  · subst e
    obtain ⟨u, rfl, ru⟩ := L2.Vals.one r1
    obtain ⟨t, rfl⟩ := ru
    exact call_range_1 ⟨_, 0, j, 1, _, _, _, H1, rfl, IsRange.new _ _ _ _ _ _ _, I1.kept fun b u e => Heap.get?_push_of_some _ e, q⟩
  · subst e
    cases r1 with
    | cons r rr =>
      obtain ⟨u, rfl, ru⟩ := L2.Vals.one rr
      obtain ⟨t, rfl⟩ := r
      obtain ⟨t', rfl⟩ := ru
      exact call_range_2 ⟨_, i, j, 1, _, _, _, H1, rfl, IsRange.new _ _ _ _ _ _ _, I1.kept fun b u e => Heap.get?_push_of_some _ e, q⟩
  · subst e
    cases r1 with
    | cons r rr =>
      cases rr with
      | cons r' rr =>
        obtain ⟨u, rfl, ru⟩ := L2.Vals.one rr
        obtain ⟨t, rfl⟩ := r
        obtain ⟨t', rfl⟩ := r'
        obtain ⟨t'', rfl⟩ := ru
        exact call_range_3 c0 ⟨_, i, j, c, _, _, _, H1, rfl, IsRange.new _ _ _ _ _ _ _, I1.kept fun b u e => Heap.get?_push_of_some _ e, q⟩ (.inl (PyProof.noPylong_small c1))
/-- list(range(..)), tuple(range(..)) -/
theorem lrg_run {ta : TA} {p p2 p3 : Pos} (hc : X.calm = true) (hg1 : Gl X "list") (hm1 : X.mg "list" = none) (hg : Gl X "range") (hm : X.mg "range" = none) (ha : PA X (a :: es) ta) (hs : (a :: es).all notStar = true) :
    PE X (.Call (.Name "list" p2) [.Call (.Name "range" p) (a :: es) [] pos] [] p3) (fun σ H Q => ta σ H fun vs H1 => ∃ i j c, RgA vs i j c ∧ ∃ n : Nat, Builtin.Range.small i j c = true ∧ Builtin.Range.rangeSize i j c = n ∧ n ≤ sizeLine ∧ ∀ q, H1 q = none → Q (.ref q) (upd H1 q (.lst (vRng i c n)))) := by
  refine ⟨fun pins s σ H Q I h => ?_⟩
  refine Call_ (ld_blt I hg1 hm1 boot_list (PyProof.Rows.callWith_type1 (args_cons (thn (rg_run hg hm ha hs I h) fun x s1 ⟨r, i, j, c, t, u, v, H1, ex, hr, I1, n, ok, sz, hz, q⟩ => args_nil ?_) rfl) rfl))
  subst ex
  refine call_list_range (n := n) (I1.ok.hd hc) hr ok sz (by rw [sizeLine_eq] at hz; omega) fun h' tk acc c' hk e' hi => ?_
  refine ⟨.ref s1.heap.objs.size, _, I1.laid (o := .lst (vRng i c n)) hk (Nat.le_refl _) (show ObjOk X.prog X.w _ _ _ (.lst (vRng i c n)) from ⟨?_, acc.toList, c', vals_rngC hi, ?_⟩), rfl, q _ (I1.hok.fresh (Nat.le_refl _))⟩
  · rw [vRng_len]; exact hz
  · rw [Array.toArray_toList]; exact e'
theorem trg_run {ta : TA} {p p2 p3 : Pos} (hc : X.calm = true) (hg1 : Gl X "tuple") (hm1 : X.mg "tuple" = none) (hg : Gl X "range") (hm : X.mg "range" = none) (ha : PA X (a :: es) ta) (hs : (a :: es).all notStar = true) :
    PE X (.Call (.Name "tuple" p2) [.Call (.Name "range" p) (a :: es) [] pos] [] p3) (fun σ H Q => ta σ H fun vs H1 => ∃ i j c, RgA vs i j c ∧ ∃ n : Nat, Builtin.Range.small i j c = true ∧ Builtin.Range.rangeSize i j c = n ∧ n ≤ sizeLine ∧ ∀ q, H1 q = none → Q (.ref q) (upd H1 q (.tup (vRng i c n)))) := by
  refine ⟨fun pins s σ H Q I h => ?_⟩
  refine Call_ (ld_blt I hg1 hm1 boot_tuple (PyProof.Rows.callWith_type1 (args_cons (thn (rg_run hg hm ha hs I h) fun x s1 ⟨r, i, j, c, t, u, v, H1, ex, hr, I1, n, ok, sz, hz, q⟩ => args_nil ?_) rfl) rfl))
  subst ex
  refine call_tuple_range (n := n) (I1.ok.hd hc) hr ok sz (by rw [sizeLine_eq] at hz; omega) fun h' tk acc hk hi => ?_
  have I2 : Inv X pins σ H1 { s1 with heap := h', toks := tk } := I1.kept hk
  refine ⟨.ref h'.objs.size, _, I2.laid (o := .tup (vRng i c n)) (t' := tk) (fun c o e => Heap.get?_push_of_some _ e) (Nat.le_refl _) (show ObjOk X.prog X.w _ _ _ (.tup (vRng i c n)) from ⟨?_, acc.toList, vals_rngC hi, ?_⟩), rfl, q _ (I2.hok.fresh (Nat.le_refl _))⟩
  · rw [vRng_len]; exact hz
  · rw [Array.toArray_toList]; exact IsTup.new _ _
theorem sf_lrng {x x2 : Str} {p p2 p3 : Pos} (hx : x = ("list" : Str)) (hx2 : x2 = ("range" : Str)) (hc : c.calm = true) (hf : T.free.contains x = true) (hg : globB c.sc x = true) (hf2 : T.free.contains x2 = true) (hg2 : globB c.sc x2 = true) (hl : Sl B T Γ k c (a :: es) ml) (hs : (a :: es).all notStar = true) :
    Sf B T Γ k c (.Call (.Name x p2) [.Call (.Name x2 p) (a :: es) [] pos] [] p3) (do let ds ← ml; liftO (dfre .rng ds)) := fun X x0 => by
  subst hx hx2
  refine PEi (lrg_run (by rw [x0.calm]; exact hc) (gl_of x0.sc hg) (x0.gl.free _ (List.contains_iff_mem.mp hf)) (gl_of x0.sc hg2) (x0.gl.free _ (List.contains_iff_mem.mp hf2)) (hl X x0) hs) fun σ H Q ⟨F, ρ, en, S, rp, g⟩ => ?_
  refine ⟨F, ρ, en, S, rp, (Good.bind g).mono ?_⟩
  rintro vs H1 ⟨F1, ρ1, e1, S1, ds, m1, rp1, r1, g1⟩
  obtain ⟨d, hd, g2⟩ := Good.lift (o := dfre .rng ds) g1
  obtain ⟨l, h1, h2⟩ := Option.bind_eq_some_iff.mp (show (drng ds).bind dlst = some d from hd)
  obtain ⟨i, j, c, n, h3, h4, h5, h6⟩ := drng_of (B := B) r1 h1
  obtain ⟨h7, h8⟩ := dlst_of h2
  subst h8 h6
  refine ⟨i, j, c, h3, n, h4, h5, ?_, fun p hp => g2.newL rp1 hp (rf_new rp1 hp (AtL.stays ((Ext.newL hp).stays rp1.st) atL_rng))⟩
  have : (rngC i c n).length = n := by unfold rngC; rw [List.length_map, List.length_range]
  rw [← this]; exact h7
theorem sa_trng {x x2 : Str} {p p2 p3 : Pos} (hx : x = ("tuple" : Str)) (hx2 : x2 = ("range" : Str)) (hc : c.calm = true) (hf : T.free.contains x = true) (hg : globB c.sc x = true) (hf2 : T.free.contains x2 = true) (hg2 : globB c.sc x2 = true) (hl : Sl B T Γ k c (a :: es) ml) (hs : (a :: es).all notStar = true) :
    Sa B T Γ k c (.Call (.Name x p2) [.Call (.Name x2 p) (a :: es) [] pos] [] p3) (do let ds ← ml; liftO (dblt .rngT ds)) := fun X x0 => by
  subst hx hx2
  refine PEi (trg_run (by rw [x0.calm]; exact hc) (gl_of x0.sc hg) (x0.gl.free _ (List.contains_iff_mem.mp hf)) (gl_of x0.sc hg2) (x0.gl.free _ (List.contains_iff_mem.mp hf2)) (hl X x0) hs) fun σ H Q ⟨F, ρ, en, S, rp, g⟩ => ?_
  refine ⟨F, ρ, en, S, rp, (Good.bind g).mono ?_⟩
  rintro vs H1 ⟨F1, ρ1, e1, S1, ds, m1, rp1, r1, g1⟩
  obtain ⟨d, hd, g2⟩ := Good.lift (o := dblt .rngT ds) g1
  obtain ⟨l, h1, h2⟩ := Option.bind_eq_some_iff.mp (show (drng ds).bind dtup = some d from hd)
  obtain ⟨i, j, c, n, h3, h4, h5, h6⟩ := drng_of (B := B) r1 h1
  obtain ⟨h7, h8⟩ := ite_some (show (if small l.length = true then some (D.tup l) else none) = some d from h2)
  subst h8 h6
  refine ⟨i, j, c, h3, n, h4, h5, ?_, fun p hp => g2.new rp1 hp (.tup (.inl ⟨.inr rfl, .inl upd_same⟩) (AtL.stays ((Ext.new hp).stays rp1.st) atL_rng))⟩
  have : (rngC i c n).length = n := by unfold rngC; rw [List.length_map, List.length_range]
  rw [← this]; exact small_of h7
/-- for .. in range(i, j, c) -/
theorem wk_rngC {F : Addr → Prop} {ρ : List Addr} {H : Hp} (i c : Int) (n : Nat) : Wk B (Itc i c n) (rngC i c n) F ρ H := by
  have hl : (rngC i c n).length = n := by unfold rngC; simp
  refine ⟨fun i hi => by rw [hl] at hi; exact hi, by rw [hl]; exact Nat.le_refl _, fun t d x H2 hd ⟨e, y⟩ => .inl ⟨e, ?_⟩⟩
  subst y
  unfold rngC at hd
  rw [List.getElem?_map] at hd
  by_cases hi2 : t < n
  · rw [List.getElem?_range hi2] at hd
    cases hd
    exact .int _
  · rw [List.getElem?_eq_none (by simpa using hi2)] at hd
    cases hd
theorem si_rng3 {tg : PySem.Expr} {x : Str} {p : Pos} (hx : x = ("range" : Str)) (hf : T.free.contains x = true) (hg : globB c.sc x = true) (hl : Sl B T Γ k c [a, b, a3] ml) (hn : ∀ en S ds e' S', ml en S = .ok ds e' S' → ds.length = 3) (hs : [a, b, a3].all notStar = true) : Si B T Γ k c tg (.Call (.Name x p) [a, b, a3] [] pos) (do let ds ← ml; liftO (drng ds)) := by
  intro X x0
  subst hx
  rw [List.all_cons, Bool.and_eq_true] at hs
  have hs2 := hs.2
  rw [List.all_cons, List.all_cons, Bool.and_eq_true, Bool.and_eq_true] at hs2
  refine PIi (pi_range3 (gl_of x0.sc hg) (x0.gl.free _ (List.contains_iff_mem.mp hf)) (sl_p hl hn X x0) (star_cons hs.1) (any_star hs.2)) fun σ H Q ⟨F, ρ, en, S, rp, g⟩ => ?_
  refine ⟨F, ρ, en, S, rp, (Good.bind g).mono ?_⟩
  rintro vs H1 ⟨F1, ρ1, e1, S1, ds, m1, rp1, r1, g1⟩
  obtain ⟨l, hd, g2⟩ := Good.lift (o := drng ds) g1
  obtain ⟨i, j, c, n, h3, h4, h5, h6⟩ := drng_of (B := B) r1.1 hd
  subst h6
  have hl3 := r1.1.length
  rw [r1.2] at hl3
  rcases h3 with ⟨e, _⟩ | ⟨e, _⟩ | ⟨e, c0, c1⟩
  · subst e; cases hl3
  · subst e; cases hl3
  · exact ⟨i, j, c, n, e, ⟨c0, c1, h4, h5⟩, Good.val (R := RI B) g2 rp1 fun F' ρ' H' s => wk_rngC i c n⟩
end
end Eng

set_option maxHeartbeats 4000000
/-! THE ENGINE, part Me: x[::-1] of lists and tuples. -/
namespace Eng
open PySem PySem.Spec L2 PyProof.Rows
theorem rev_places (n : Nat) : Builtin.Slice.slicePlaces ((n : Int) - 1) (-1) (-1) = n := by
  unfold Builtin.Slice.slicePlaces
  rw [if_neg (by decide)]
  by_cases h : (n : Int) - 1 > -1
  · rw [if_pos h]
    have e : ((n : Int) - 1 - -1 - 1) / (- -1) = (n : Int) - 1 := by
      rw [show (- -1 : Int) = 1 by decide, Int.ediv_one]
      omega
    rw [e]
    omega
  · rw [if_neg h]
    omega
theorem fm_congr {α β : Type} {f g : α → Option β} : ∀ {l : List α}, (∀ x ∈ l, f x = g x) → l.filterMap f = l.filterMap g
  | [], _ => rfl
  | x :: l, h => by
    rw [List.filterMap_cons, List.filterMap_cons, h x List.mem_cons_self, fm_congr fun y hy => h y (List.mem_cons_of_mem _ hy)]
theorem rev_pick (xs : Array Value) : ((List.range xs.size).filterMap fun (m : Nat) => xs[(((xs.size : Int) - 1) + (m : Int) * (-1)).toNat]?).toArray = xs.toList.reverse.toArray := by
  have e : (List.range xs.size).filterMap (fun (m : Nat) => xs[(((xs.size : Int) - 1) + (m : Int) * (-1)).toNat]?) = ((List.range xs.size).map fun k => xs.size - 1 - k).filterMap (xs[·]?) := by
    rw [List.filterMap_map]
    refine fm_congr fun k hk => ?_
    have := List.mem_range.mp hk
    show xs[(((xs.size : Int) - 1) + (k : Int) * (-1)).toNat]? = xs[xs.size - 1 - k]?
    rw [show (((xs.size : Int) - 1) + (k : Int) * (-1)).toNat = xs.size - 1 - k by omega]
  rw [e, PySem.W.krv_range, List.filterMap_reverse, PySem.W.krv_all]
section
variable {prog : Program} {w : World} {A : Around} {E : Value → Shared → Prop} {s : Shared}
theorem revApplied {sl : Addr} {vl vu vs : Value} {n : Nat} {Q : Int × Int × Nat → Shared → Prop} (hs : s.heap.IsSliceOf sl vl vu vs) (pl : IsPart vl none) (pu : IsPart vu none) (ps : IsPart vs (some (-1)))
    (h : Q ((n : Int) - 1, -1, n) s) : wpAny (model prog w) A (Builtin.Slice.sliceApplied (.ref sl) (pure (n : Int))) Q E s := by
  obtain ⟨os, hos, hcs, hds⟩ := id hs
  unfold Builtin.Slice.sliceApplied Builtin.Slice.sliceFields
  apply wpAny_bind
  apply wpAny_bind
  refine wpAny_field hos hds (x := vl) rfl (wpAny_bind (wpAny_field hos hds (x := vu) rfl (wpAny_bind (wpAny_field hos hds (x := vs) rfl (wpAny_pure ?_)))))
  refine wpAny_bind (HT.slicePart_ ps ?_)
  show wpAny _ _ (if ((-1 : Int) == 0) = true then _ else _) _ _ s
  rw [if_neg (by decide)]
  refine wpAny_bind (HT.slicePart_ pl (wpAny_bind (HT.slicePart_ pu (wpAny_bind (wpAny_pure ?_)))))
  show wpAny _ _ (pure ((n : Int) - 1, (-1 : Int), Builtin.Slice.slicePlaces ((n : Int) - 1) (-1) (-1))) _ _ s
  rw [rev_places]
  exact wpAny_pure h
theorem getItem_tuple_rev {t sl : Addr} {items : Array Value} {vl vu vs : Value} {Q : Value → Shared → Prop} (ht : IsTup s.heap t items) (hs : s.heap.IsSliceOf sl vl vu vs) (pl : IsPart vl none) (pu : IsPart vu none) (ps : IsPart vs (some (-1)))
    (h : Q (.ref s.heap.objs.size) { s with heap := s.heap.push { cls := .type "tuple", data := .seq items.toList.reverse.toArray } })
    (hsz : items.size ≤ sizeLine) : wpAny (model prog w) A (getItem (.ref t) (.ref sl)) Q E s := by
  have fits : sizeOk (.seq items.toList.reverse.toArray) := by
    show items.toList.reverse.toArray.size ≤ sizeLine
    rw [List.size_toArray, List.length_reverse, Array.length_toList]
    exact hsz
  obtain ⟨os, hos, hcs, hds⟩ := id hs
  have isSl : s.TypeIs (.ref sl) "slice" := ⟨os, hos, hcs⟩
  unfold getItem
  try with_reducible refine wpAny_holding ?_
  first | refine wpAny_bind (wpAny_pure ?_) | skip
  apply wpAny_bind
  refine wpAny_sequenceKey ht.typeIs (by decide) ?_
  refine wpAny_bind (wpAny_callSpecial?_slot (name := Str.ofString "__getitem__") ht.typeIs PyProof.Rows.slot_tuple_getitem (wpAny_call_entry PyProof.Rows.slot_tuple_getitem ht.typeIs entry_tuple_getitem ?_ (args_tuple_getitem _ _)))
  show wpAny _ _ (Builtin.Tuple.tupleItemsOf (.ref t) >>= _) _ _ s
  apply wpAny_bind
  refine tupleItemsOf_ ht ?_
  apply wpAny_bind
  refine wpAny_typeOf isSl ?_
  rw [if_pos (by decide)]
  apply wpAny_bind
  refine revApplied hs pl pu ps ?_
  have other : ¬ (((items.size : Int) - 1 == 0 && (-1 : Int) == 1 && items.size == items.size) = true) := fun q => by
    rw [Bool.and_eq_true, Bool.and_eq_true] at q
    exact absurd q.1.2 (by decide)
  show wpAny _ _ (if ((items.size : Int) - 1 == 0 && (-1 : Int) == 1 && items.size == items.size) = true then _ else _) _ _ s
  rw [if_neg other, rev_pick]
  first
    | exact wpAny_bind (m := Builtin.Tuple.tupleExact _) (wpAny_newObj_type (wpAny_pure ⟨_, rfl, wpAny_pure h⟩) fits)
    | exact wpAny_bind (m := Builtin.Tuple.tupleExact _) (wpAny_newObj_type (wpAny_bind (wpAny_pure (wpAny_pure ⟨_, rfl, wpAny_pure h⟩))) fits)
    | exact wpAny_bind (wpAny_bind (m := Builtin.Tuple.tupleExact _) (wpAny_newObj_type (wpAny_pure (wpAny_pure ⟨_, rfl, wpAny_pure h⟩)) fits))
    | exact wpAny_bind (wpAny_bind (m := Builtin.Tuple.tupleExact _) (wpAny_newObj_type (wpAny_pure ⟨_, rfl, wpAny_pure h⟩) fits))
end
section
variable {X : Cx}
/-- turned about: of a list, of a tuple -/
def tRev (K : PySem.W.Frag) (te : TE) : TE := fun σ H Q => te σ H fun x H1 => (∃ a xs, x = .ref a ∧ SqL K H1 a xs ∧ ∀ p, H1 p = none → Q (.ref p) (upd H1 p (.lst xs.reverse))) ∨ (∃ a xs, x = .ref a ∧ SqT K H1 a xs ∧ ∀ p, H1 p = none → Q (.ref p) (upd H1 p (.tup xs.reverse)))
theorem pe_rev {e : PySem.Expr} {te : TE} {k : Nat} {p1 p2 p3 pos : Pos} (he : PE X e te) : PE X (.Subscript e (.Slice none none (some (.UnaryOp .USub (.Constant (.int 1) k p1) p2)) p3) pos) (tRev X.K te) := by
  constructor
  intro pins s σ H Q I h
  apply Subscript_
  refine thn (he.run pins s σ H _ I h) fun v s1 hx => ?_
  obtain ⟨x, H1, I1, r1, q1⟩ := hx
  have step : PO X (some (.UnaryOp .USub (.Constant (.int 1) k p1) p2)) (tPart (tUn (rU fun i => .int (-i)) (tC (.int 1)))) := po_some (pe_un un_neg pe_int)
  apply wpAny_Slice
  refine thn (po_none.run pins s1 σ H1 (fun o H2 => o = none ∧ H2 = H1) I1 ⟨rfl, rfl⟩) fun vl s2 hl => ?_
  obtain ⟨l, H2, I2, pl, el, e2⟩ := hl
  subst el e2
  refine thn (po_none.run pins s2 σ H2 (fun o H3 => o = none ∧ H3 = H2) I2 ⟨rfl, rfl⟩) fun vu s3 hu => ?_
  obtain ⟨u, H3, I3, pu, eu, e3⟩ := hu
  subst eu e3
  refine thn (step.run pins s3 σ H3 (fun o H4 => o = some (-1) ∧ H4 = H3) I3 ⟨1, rfl, -1, rfl, rfl, rfl⟩) fun vs s4 ho => ?_
  obtain ⟨o, H4, I4, ps, eo, e4⟩ := ho
  subst eo e4
  have I5 : Inv X pins σ H4 { s4 with heap := s4.heap.push { cls := .type "slice", data := .fields #[vl, vu, vs] } } := I4.kept (t' := s4.toks) fun b ob q => Heap.get?_push_of_some _ q
  rcases q1 with ⟨a, xs, ex, hx, q⟩ | ⟨a, xs, ex, hx, q⟩
  · subst ex
    cases r1
    obtain ⟨its, r, ht, hz⟩ := I5.list hx
    have hlen := r.length
    show wpAny (model X.prog X.w) X.A (subscriptTail e (.Slice none none (some (.UnaryOp .USub (.Constant (.int 1) k p1) p2)) p3) (.ref a) (.ref s4.heap.objs.size)) (EP X pins σ Q) X.xe { s4 with heap := s4.heap.push { cls := .type "slice", data := .fields #[vl, vu, vs] } }
    apply tail_any (ops := [.ref a, .ref s4.heap.objs.size]) ht.isList.typeIs (PySem.slot_list_getitem.lookup) ?_ (by with_unfolding_all rfl)
    refine wpAny_getItem_list_slice ht.isList (Heap.IsSliceOf.new _ vl vu vs) pl pu ps (by decide) ?_ (by rw [List.size_toArray]; omega)
    rw [PySem.W.krv_pick]
    refine ⟨.ref _, _, I5.laid (t' := s4.toks) (o := .lst xs.reverse) (fun b ob q => Heap.get?_push_of_some _ q) (Nat.le_refl _) ?_, rfl, q _ (I5.hok.fresh (Nat.le_refl _))⟩
    exact ⟨by rw [List.length_reverse]; exact hz, _, 0, r.reverse, Heap.get?_push_size _ rfl⟩
  · subst ex
    cases r1
    obtain ⟨its, r, ht, hz⟩ := I5.tuple hx
    have hlen := r.length
    show wpAny (model X.prog X.w) X.A (subscriptTail e (.Slice none none (some (.UnaryOp .USub (.Constant (.int 1) k p1) p2)) p3) (.ref a) (.ref s4.heap.objs.size)) (EP X pins σ Q) X.xe { s4 with heap := s4.heap.push { cls := .type "slice", data := .fields #[vl, vu, vs] } }
    apply tail_any (ops := [.ref a, .ref s4.heap.objs.size]) ht.typeIs (PyProof.Rows.slot_tuple_getitem.lookup) ?_ (by with_unfolding_all rfl)
    refine getItem_tuple_rev ht (Heap.IsSliceOf.new _ vl vu vs) pl pu ps ?_ (by rw [List.size_toArray]; omega)
    refine ⟨.ref _, _, I5.laid (t' := s4.toks) (o := .tup xs.reverse) (fun b ob q => Heap.get?_push_of_some _ q) (Nat.le_refl _) ?_, rfl, q _ (I5.hok.fresh (Nat.le_refl _))⟩
    exact ⟨by rw [List.length_reverse]; exact hz, _, r.reverse, ⟨_, Heap.get?_push_size _ rfl, rfl, _, rfl⟩⟩
end
section
variable {B : Bd} {T : Tab} {Γ : Gm} {k : Nat} {c : Ctx} {X : Cx} {e a b : PySem.Expr} {ma mb : M D} {pos : Pos}
theorem AtL.rev {G : Gl0} {F : Addr → Prop} {ρ : List Addr} {H : Hp} : ∀ {vs : List V} {ds : List D}, AtL G F ρ H vs ds → AtL G F ρ H vs.reverse ds.reverse
  | _, _, .nil => .nil
  | _, _, .cons h t => by
    rw [List.reverse_cons, List.reverse_cons]
    exact AtL.append (AtL.rev t) (.cons h .nil)
theorem sa_rev {kk : Nat} {p1 p2 p3 : Pos} (ha : Sb B T Γ k c a ma) : Sa B T Γ k c (.Subscript a (.Slice none none (some (.UnaryOp .USub (.Constant (.int 1) kk p1) p2)) p3) pos) (do let x ← ma; liftO (dblt .rev [x])) := by
  refine fun X x0 => PEi (pe_rev (ha X x0)) fun σ H Q ⟨F, ρ, en, S, rp, g⟩ => ?_
  refine ⟨F, ρ, en, S, rp, (Good.bind g).mono ?_⟩
  rintro v H1 ⟨F1, ρ1, e1, S1, d1, m1, rp1, r1, g1⟩
  obtain ⟨z, hz, g2⟩ := Good.lift (o := dblt .rev [d1]) g1
  rw [x0.K]
  cases d1 with
  | tup l =>
    cases hz
    obtain ⟨p, xs, h1, h2, h3⟩ := r1.tup
    exact .inr ⟨p, xs, h1, h2.sq, fun p hp => g2.new rp1 hp (.tup (.inl ⟨.inr rfl, .inl upd_same⟩) (AtL.stays ((Ext.new hp).stays rp1.st) (AtL.rev h3)))⟩
  | lst l =>
    cases hz
    obtain ⟨p, xs, h1, h2, h3⟩ := r1.lst
    exact .inl ⟨p, xs, h1, h2.sq, fun p hp => g2.new rp1 hp (.lst (.inl ⟨.inr rfl, .inl upd_same⟩) (AtL.stays ((Ext.new hp).stays rp1.st) (AtL.rev h3)))⟩
  | _ => cases hz
end
end Eng

set_option maxHeartbeats 4000000
/-! THE ENGINE, part Mf: sorted(set(..)). -/
namespace Eng
open PySem PySem.Spec L2 PyProof.Rows
theorem sins_mem {k j : Int} : ∀ {l : List Int}, j ∈ sins k l ↔ j = k ∨ j ∈ l
  | [] => by simp [sins]
  | x :: r => by
    unfold sins
    split
    · simp
    · split
      · rename_i h1 h2
        subst h2
        simp
      · rw [List.mem_cons, sins_mem, List.mem_cons]
        constructor
        · rintro (h | h | h)
          · exact .inr (.inl h)
          · exact .inl h
          · exact .inr (.inr h)
        · rintro (h | h | h)
          · exact .inr (.inl h)
          · exact .inl h
          · exact .inr (.inr h)
theorem sins_pw {k : Int} : ∀ {l : List Int}, l.Pairwise (· < ·) → (sins k l).Pairwise (· < ·)
  | [], _ => by simp [sins]
  | x :: r, h => by
    obtain ⟨h1, h2⟩ := List.pairwise_cons.mp h
    unfold sins
    split
    · rename_i hk
      refine List.pairwise_cons.mpr ⟨fun y hy => ?_, h⟩
      rcases List.mem_cons.mp hy with e | e
      · subst e; exact hk
      · exact Int.lt_trans hk (h1 y e)
    · split
      · exact h
      · refine List.pairwise_cons.mpr ⟨fun y hy => ?_, sins_pw h2⟩
        rcases sins_mem.mp hy with e | e
        · subst e; omega
        · exact h1 y e
theorem ssort_mem {j : Int} : ∀ {l : List Int}, j ∈ ssort l ↔ j ∈ l
  | [] => by simp [ssort]
  | x :: r => by unfold ssort; rw [sins_mem, ssort_mem, List.mem_cons]
theorem ssort_pw : ∀ {l : List Int}, (ssort l).Pairwise (· < ·)
  | [] => .nil
  | x :: r => sins_pw ssort_pw
theorem pw_uniq : ∀ {l m : List Int}, l.Pairwise (· < ·) → m.Pairwise (· < ·) → (∀ k, k ∈ l ↔ k ∈ m) → l = m
  | [], [], _, _, _ => rfl
  | [], b :: m, _, _, h => absurd ((h b).mpr List.mem_cons_self) (by simp)
  | a :: l, [], _, _, h => absurd ((h a).mp List.mem_cons_self) (by simp)
  | a :: l, b :: m, h1, h2, h => by
    obtain ⟨p1, p2⟩ := List.pairwise_cons.mp h1
    obtain ⟨q1, q2⟩ := List.pairwise_cons.mp h2
    have e : a = b := by
      rcases List.mem_cons.mp ((h a).mp List.mem_cons_self) with z | z
      · exact z
      · rcases List.mem_cons.mp ((h b).mpr List.mem_cons_self) with y | y
        · exact y.symm
        · have := q1 a z
          have := p1 b y
          omega
    subst e
    rw [pw_uniq p2 q2 fun k => ?_]
    constructor
    · intro hk
      rcases List.mem_cons.mp ((h k).mp (List.mem_cons_of_mem _ hk)) with z | z
      · have := p1 k hk; omega
      · exact z
    · intro hk
      rcases List.mem_cons.mp ((h k).mpr (List.mem_cons_of_mem _ hk)) with z | z
      · have := q1 k hk; omega
      · exact z
section
variable {B : Bd} {T : Tab} {Γ : Gm} {k : Nat} {c : Ctx} {X : Cx} {e a b : PySem.Expr} {ma mb : M D} {pos : Pos} {es : List PySem.Expr} {ml : M (List D)}
def rSTI (K : PySem.W.Frag) (w : World) : List V → Hp → VK → Prop := fun xs H Q => ∃ (l : Addr) (ns : List Int), xs = [.ref l] ∧ SqT K H l (ns.map V.int) ∧ ns.length ≤ 60 ∧ ∀ p n, H p = none → n ≤ ns.length → Q (.ref p) (upd H p (SetO w p (fun j => decide (j ∈ ns)) n))
theorem call_setTI (hc : X.calm = true) : CallR X (.type "set") (rSTI X.K X.w) := by
  intro pn s σ H xs us Q I r h
  obtain ⟨l, ns, rfl, h1, h2, q⟩ := h
  rw [Vals.ref1 r]
  obtain ⟨its, rv, ht, _⟩ := I.tuple h1
  have hi := ints_of_vals rv
  refine call_set_tupI (items := its.toArray) ns (I.ok.hd hc) ht hi (by unfold scanBound; omega) fun h' tk n R hn hk => ?_
  exact ⟨.ref _, _, I.laid hk (Nat.le_refl _) (setO_new R), rfl, q _ n (I.hok.fresh (Nat.le_refl _)) hn⟩
theorem vals_allI {G : Gl0} {F : Addr → Prop} {ρ : List Addr} {H : Hp} : ∀ {xs : List V} {ds : List D} {ns : List Int}, AtL G F ρ H xs ds → dInts ds = some ns → xs = ns.map V.int
  | _, _, _, .nil, h => by cases h; rfl
  | _, _, _, .cons (d := d) h1 h2, h => by
    cases d with
    | int i =>
      obtain ⟨m, e1, e2⟩ := Option.map_eq_some_iff.mp (show (dInts _).map (i :: ·) = some _ from h)
      subst e2
      cases h1
      rw [vals_allI h2 e1]
      rfl
    | _ => cases h
theorem atL_ints {G : Gl0} {F : Addr → Prop} {ρ : List Addr} {H : Hp} : ∀ ns : List Int, AtL G F ρ H (ns.map V.int) (ns.map D.int)
  | [] => .nil
  | n :: ns => .cons (.int n) (atL_ints ns)
theorem sf_sset {x x2 : Str} {p p2 p3 : Pos} (hx : x = ("sorted" : Str)) (hx2 : x2 = ("set" : Str)) (hc : c.calm = true) (hf : T.free.contains x = true) (hg : globB c.sc x = true) (hf2 : T.free.contains x2 = true) (hg2 : globB c.sc x2 = true) (hl : Sl B T Γ k c [a] ml) (hs : notStar a = true) :
    Sf B T Γ k c (.Call (.Name x p2) [.Call (.Name x2 p) [a] [] pos] [] p3) (do let ds ← ml; liftO (dfre .sset ds)) := fun X x0 => by
  subst hx hx2
  have hca : X.calm = true := by rw [x0.calm]; exact hc
  refine PEi (pe_callB (id := "sorted") (cr_sortedSet hca) (gl_of x0.sc hg) (x0.gl.free _ (List.contains_iff_mem.mp hf)) (by decide +kernel) (pa_cons (pe_callTy (call_setTI hca) (gl_of x0.sc hg2) (x0.gl.free _ (List.contains_iff_mem.mp hf2)) (by decide +kernel) (hl X x0) (by decide) (by decide) (star_cons hs) rfl) pa_nil (star_cons rfl)) (by decide) (by decide) (star_cons rfl) rfl) fun σ H Q ⟨F, ρ, en, S, rp, g⟩ => ?_
  refine ⟨F, ρ, en, S, rp, (Good.bind g).mono ?_⟩
  rintro vs H1 ⟨F1, ρ1, e1, S1, ds, m1, rp1, r1, g1⟩
  obtain ⟨d, hd, g2⟩ := Good.lift (o := dfre .sset ds) g1
  match ds, r1, hd with
  | [.tup l], r1, hd =>
    obtain ⟨ns, h1, h2⟩ := Option.bind_eq_some_iff.mp (show (dInts l).bind (fun ns => if ns.length ≤ 60 then some (D.lst ((ssort ns).map .int)) else none) = some d from hd)
    split at h2
    · rename_i hz
      cases h2
      cases r1 with
      | cons a1 a2 =>
        cases a2
        cases a1 with
        | tup t1 t2 =>
          have e := vals_allI t2 h1
          subst e
          refine ⟨_, ns, rfl, by rw [x0.K]; exact t1.sq, hz, fun q n hq hn => ⟨q, _, n, rfl, upd_same, by omega, fun ms r pw mm hm hr => ?_⟩⟩
          have em : ms = ssort ns := pw_uniq pw ssort_pw fun k => by rw [mm k, ssort_mem]; simp
          subst em
          obtain ⟨rp2, m2⟩ := rp1.call (Ext.newL (u := SetO X.w q (fun j => decide (j ∈ ns)) n) hq) (rp1.st.newL hq)
          obtain ⟨rp3, m3⟩ := rp2.call (Ext.newL (u := .lst ((ssort ns).map V.int)) hr) (rp2.st.newL hr)
          have hr1 : H1 r = none := by
            by_cases z : r = q
            · subst z; exact hq
            · rwa [upd_ne z] at hr
          obtain ⟨a', xs', ds', q1, q2, q3, q4, q5, q6, q7, q8, _⟩ := rf_new rp2 hr (AtL.stays ((Ext.newL (u := .lst ((ssort ns).map V.int)) hr).stays rp2.st) (atL_ints (ssort ns)))
          have ea : a' = r := (V.ref.inj q1).symm
          subst ea
          exact g2 _ ρ1 _ _ (m2.trans m3) rp3 ⟨a', xs', ds', q1, q2, q3, q4, q5, q6, q7, q8, frh_none hr1⟩
    · cases h2
end
end Eng

set_option maxHeartbeats 4000000
/-! THE ENGINE, part Mg: list comprehensions of two clauses. -/
namespace Eng
open PySem PySem.Spec L2 PyProof.Rows
section
variable {B : Bd} {T : Tab} {Γ : Gm} {k : Nat} {c : Ctx} {X : Cx} {e a b a3 : PySem.Expr} {ma mb mc m : M D} {pos : Pos} {es : List PySem.Expr} {ml : M (List D)}
theorem wipeE_out : ∀ {vs : List Nat} {en : Env} {i : Nat}, i ∉ vs → (wipeE en vs)[i]? = en[i]?
  | [], _, _, _ => rfl
  | v :: vs, en, i, h => by
    rw [List.mem_cons, not_or] at h
    unfold wipeE
    rw [List.getElem?_set_ne (Ne.symm h.1)]
    exact wipeE_out h.2
theorem wipeE_in : ∀ {vs : List Nat} {en : Env} {i : Nat}, i ∈ vs → i < en.length → (wipeE en vs)[i]? = some .emp
  | v :: vs, en, i, h, hl => by
    unfold wipeE
    by_cases hv : v = i
    · subst hv
      rw [List.getElem?_set_self (by rw [wipeE_length]; exact hl)]
    · rw [List.getElem?_set_ne hv]
      rcases List.mem_cons.mp h with h | h
      · exact absurd h.symm hv
      · exact wipeE_in h hl
theorem wipeE_wipe {vs vs1 : List Nat} {en : Env} (hv : ∀ i ∈ vs1, i ∈ vs) : wipeE (wipeE en vs1) vs = wipeE en vs := by
  apply List.ext_getElem?
  intro i
  by_cases hi : i ∈ vs
  · by_cases hz : i < en.length
    · rw [wipeE_in hi (by rw [wipeE_length]; exact hz), wipeE_in hi hz]
    · rw [List.getElem?_eq_none (by rw [wipeE_length, wipeE_length]; omega), List.getElem?_eq_none (by rw [wipeE_length]; omega)]
  · rw [wipeE_out hi, wipeE_out hi, wipeE_out fun z => hi (hv i z)]
def inM (t2 : Tg) (vs1 : List Nat) (mi2 : M (List D)) (mt2 : M Bool) (me : M D) : M (List D) := do
  let ys ← mi2
  wipeM vs1
  compL vs1 (turnM t2 mt2 (do let y ← me; M.pure [y])) ys
def compM2 (t : Tg) (vs : List Nat) (mi : M (List D)) (mt : M Bool) (t2 : Tg) (vs1 : List Nat) (mi2 : M (List D)) (mt2 : M Bool) (me : M D) : M D := do
  let xs ← mi
  let r ← scopeM vs (compL vs (turnM t mt (inM t2 vs1 mi2 mt2 me)) xs)
  liftO (dlst r)
theorem stays_refl {F : Addr → Prop} {ρ : List Addr} {H : Hp} : Stays F F ρ ρ H H := ⟨fun _ h => h, List.prefix_rfl, fun _ _ _ h _ => h⟩
theorem stays_trans {F F1 F2 : Addr → Prop} {ρ ρ1 ρ2 : List Addr} {H H1 H2 : Hp} (a : Stays F F1 ρ ρ1 H H1) (b : Stays F1 F2 ρ1 ρ2 H1 H2) : Stays F F2 ρ ρ2 H H2 := ⟨fun x h => b.f x (a.f x h), a.r.trans b.r, fun x o h e n => b.k x o (a.f x h) (a.k x o h e n) n⟩
theorem comp2_imp {t t2 : Tg} {vs vs1 : List Nat} {mi mi2 : M (List D)} {mt mt2 : M Bool} {me : M D} (hix : ∀ i ∈ t.idx, i ∈ vs) (hix1 : ∀ i ∈ t2.idx, i ∈ vs1) (hv : ∀ i ∈ vs1, i ∈ vs) {σ : L2.St} {H : Hp} {Q : VK} (h : tR B (RF B) (compM2 t vs mi mt t2 vs1 mi2 mt2 me) σ H Q) :
    tLc2 (tR B (RJ B) mi) (tTg B.nox t) (tR B.nox Req mt) (tR B.nox (RI B.nox) mi2) (tTg B.nox t2) (tR B.nox Req mt2) (tR B.nox (RA B.nox) me) vs vs1 σ H Q := by
  obtain ⟨F, ρ, en, S, rp, g⟩ := h
  refine ⟨F, ρ, en, S, rp, (Good.bind g).mono ?_⟩
  rintro J H1 ⟨F1, ρ1, e1, S1, xs, m1, rp1, r1, g1⟩ Dl hD
  obtain ⟨r, eE, SE, hr, hz, g2⟩ := scope_ok g1
  clear g1
  have rw1 := rp1.wipe vs
  obtain ⟨rw2, mw2⟩ := rw1.call (Ext.newL (u := .lst []) hD) (rw1.st.newL hD)
  obtain ⟨nF, nr⟩ := rp1.st.no hD
  have ci0 : CI B Dl (L2.wipe σ vs) (wipeE e1 vs) F1 ρ1 H1 F1 ρ1 (upd H1 Dl (.lst [])) (wipeE e1 vs) S1 [] [] :=
    ⟨rw2, mw2, nF, nr, (fun z => by obtain ⟨_, _, ys, q⟩ := rw1.ownAt z; rw [hD] at q; cases q), rp1.ext.tr Dl (frh_none hD), hD, upd_same, .nil⟩
  refine ⟨fun i m H' => m = xs.length - i ∧ i ≤ xs.length ∧ ∃ F' ρ' e' S' acc accD rest, CI B Dl (L2.wipe σ vs) (wipeE e1 vs) F1 ρ1 H1 F' ρ' H' e' S' acc accD ∧
    compL vs (turnM t mt (inM t2 vs1 mi2 mt2 me)) (xs.drop i) e' S' = .ok rest eE SE ∧ accD ++ rest = r, ⟨xs.length, by simp, Nat.zero_le _, F1, ρ1, _, S1, [], [], r, ci0, by rw [List.drop_zero]; exact hr, rfl⟩, ?_⟩
  rintro i m H' ⟨rfl, hi, F', ρ', e', S', acc, accD, rest, ci, hcl, hrest⟩
  have wk : Wk B J xs F' ρ' H' := r1 F' ρ' H' (ci.mo.stays rw1) ci.mo.ext.kp
  by_cases hlt : i < xs.length
  · refine .inr ⟨wk.1 i hlt, fun H2 => i + 1 ≤ xs.length ∧ ∃ F' ρ' e' S' acc accD rest, CI B Dl (L2.wipe σ vs) (wipeE e1 vs) F1 ρ1 H1 F' ρ' H2 e' S' acc accD ∧
      compL vs (turnM t mt (inM t2 vs1 mi2 mt2 me)) (xs.drop (i + 1)) e' S' = .ok rest eE SE ∧ accD ++ rest = r, fun H2 p => ⟨xs.length - (i + 1), by omega, rfl, p.1, p.2⟩, fun x H2 y => ?_⟩
    rw [List.drop_eq_getElem_cons hlt] at hcl
    obtain ⟨y1, e2, S2, r', hf, hcl2, er⟩ := compL_cons hcl
    subst er
    obtain ⟨eb, kk, e3, S3, hb, hmt, hbr⟩ := turnM_ok hf
    have item : ∃ F2, At B.G F2 ρ' H2 x xs[i] ∧ Mono (L2.wipe σ vs) e' F' ρ' H' e' F2 ρ' H2 ∧ Rep B.G B.N F2 ρ' H2 (L2.wipe σ vs) e' S' := by
      rcases wk.2.2 i xs[i] x H2 (by simp [hlt]) y with ⟨h1, h2⟩ | ⟨p, u, h1, hnt, h2, h3⟩
      · subst h1; exact ⟨F', h2, .refl, ci.rp⟩
      · subst h2
        obtain ⟨q1, q2⟩ := ci.rp.call (Ext.new (u := u) h1) (ci.rp.st.new h1 hnt)
        exact ⟨_, h3, q2, q1⟩
    obtain ⟨F2, hat, mo2, rp2⟩ := item
    have ci2 := ci.step mo2 rp2
    refine ⟨F2, ρ', e', S', xs[i], eb, rp2, hat, hb, fun σ2 rp3 sm ow => ?_⟩
    refine ⟨wipe_same sm hix, F2, ρ', eb, S', rp3, ?_⟩
    rw [hmt]
    intro F3 ρ3 H3 k3 m3 rp4 ek
    cases (show k3 = kk from ek)
    rcases hbr with ⟨hk, hme⟩ | ⟨hk, hy, he3, hS3⟩
    · subst hk
      rw [if_pos rfl]
      obtain ⟨ys, e4, S4, h1, h2⟩ := bind_ok hme
      obtain ⟨u, e5, S5, h3, h4⟩ := bind_ok h2
      cases h3
      refine ⟨F3, ρ3, e3, S3, rp4, ?_⟩
      rw [h1]
      intro F4 ρ4 H4 J1 m4 rp5 r5
      have r5' : ∀ F' ρ' H', Stays F4 F' ρ4 ρ' H4 H' → Wk B.nox J1 ys F' ρ' H' := r5
      -- what the inner loop keeps
      have smv : SameBut (L2.wipe σ2 vs1) (L2.wipe σ vs) vs := ⟨(wipe_length _ _).trans sm.1, fun i hi => by
        rw [wipe_out fun z => hi (hv i z)]
        exact sm.2 i fun z => hi (hix i z)⟩
      obtain ⟨rp6, mo6⟩ := Rep.turn sm hix ow rp5 (m3.trans m4)
      have ci4 := ci2.step mo6 rp6
      rw [← wipeE_wipe (en := e4) hv] at ci4
      have rp7 := rp5.wipe vs1
      have own7 : ∀ (i : Nat) (l : List D), (wipeE e4 vs1)[i]? = some (Slot.own l) → i ∉ vs := fun i l h => by
        have q := (ow i l ((m3.trans m4).sub i l (wipeE_own h).1)).1
        exact (wipeE_own (ci.mo.sub i l q)).2
      refine ⟨fun j m H5 => m = ys.length - j ∧ j ≤ ys.length ∧ ∃ F' ρ' e' S' acc accD rest, Rep B.G B.N F' ρ' H5 (L2.wipe σ2 vs1) e' S' ∧ CI B Dl (L2.wipe σ vs) (wipeE e1 vs) F1 ρ1 H1 F' ρ' H5 (wipeE e' vs) S' acc accD ∧
        (∀ (i : Nat) (l : List D), e'[i]? = some (Slot.own l) → i ∉ vs) ∧ Stays F4 F' ρ4 ρ' H4 H5 ∧ compL vs1 (turnM t2 mt2 (do let y ← me; M.pure [y])) (ys.drop j) e' S' = .ok rest e2 S2 ∧ accD ++ (rest ++ r') = r,
        ⟨ys.length, by simp, Nat.zero_le _, F4, ρ4, _, S4, acc, accD, y1, rp7, ci4, own7, stays_refl, by rw [List.drop_zero]; exact h4, hrest⟩, ?_⟩
      rintro j m H5 ⟨rfl, hj, F5, ρ5, e5, S5, acc5, accD5, rest5, rp8, ci5, own8, st5, hcl5, hrest5⟩
      have wk2 : Wk B.nox J1 ys F5 ρ5 H5 := r5' F5 ρ5 H5 st5
      -- a step of the inner loop, seen from outside
      have lift : ∀ {F6 : Addr → Prop} {ρ6 : List Addr} {H6 : Hp} {e6 : Env} {S6 : Sto}, Rep B.G B.N F6 ρ6 H6 (L2.wipe σ2 vs1) e6 S6 → Mono (L2.wipe σ2 vs1) e5 F5 ρ5 H5 e6 F6 ρ6 H6 → CI B Dl (L2.wipe σ vs) (wipeE e1 vs) F1 ρ1 H1 F6 ρ6 H6 (wipeE e6 vs) S6 acc5 accD5 := fun {F6 ρ6 H6 e6 S6} rp' mo' => by
        obtain ⟨q1, q2⟩ := Rep.turn (en := wipeE e5 vs) smv (fun i h => h) (fun i l h => ⟨by rw [wipeE_out (own8 i l h)]; exact h, own8 i l h⟩) rp' mo'
        exact ci5.step q2 q1
      by_cases hlt2 : j < ys.length
      · refine .inr ⟨wk2.1 j hlt2, fun H6 => j + 1 ≤ ys.length ∧ ∃ F' ρ' e' S' acc accD rest, Rep B.G B.N F' ρ' H6 (L2.wipe σ2 vs1) e' S' ∧ CI B Dl (L2.wipe σ vs) (wipeE e1 vs) F1 ρ1 H1 F' ρ' H6 (wipeE e' vs) S' acc accD ∧
          (∀ (i : Nat) (l : List D), e'[i]? = some (Slot.own l) → i ∉ vs) ∧ Stays F4 F' ρ4 ρ' H4 H6 ∧ compL vs1 (turnM t2 mt2 (do let y ← me; M.pure [y])) (ys.drop (j + 1)) e' S' = .ok rest e2 S2 ∧ accD ++ (rest ++ r') = r, fun H6 p => ⟨ys.length - (j + 1), by omega, rfl, p.1, p.2⟩, fun x H6 y => ?_⟩
        rw [List.drop_eq_getElem_cons hlt2] at hcl5
        obtain ⟨y2, e6, S6, r2, hf2, hcl6, er⟩ := compL_cons hcl5
        subst er
        obtain ⟨eb2, kk2, e7, S7, hb2, hmt2, hbr2⟩ := turnM_ok hf2
        have item : ∃ F2, At B.G F2 ρ5 H6 x ys[j] ∧ Mono (L2.wipe σ2 vs1) e5 F5 ρ5 H5 e5 F2 ρ5 H6 ∧ Rep B.G B.N F2 ρ5 H6 (L2.wipe σ2 vs1) e5 S5 := by
          rcases wk2.2.2 j ys[j] x H6 (by simp [hlt2]) y with ⟨h1, h2⟩ | ⟨p, u, h1, hnt, h2, h3⟩
          · subst h1; exact ⟨F5, h2, .refl, rp8⟩
          · subst h2
            obtain ⟨q1, q2⟩ := rp8.call (Ext.new (u := u) h1) (rp8.st.new h1 hnt)
            exact ⟨_, h3, q2, q1⟩
        obtain ⟨F6, hat2, mo8, rp9⟩ := item
        refine ⟨F6, ρ5, e5, S5, ys[j], eb2, rp9, hat2, hb2, fun σ3 rp10 sm2 ow2 => ?_⟩
        refine ⟨wipe_same sm2 hix1, F6, ρ5, eb2, S5, rp10, ?_⟩
        rw [hmt2]
        intro F7 ρ7 H7 k7 m7 rp11 ek2
        cases (show k7 = kk2 from ek2)
        rcases hbr2 with ⟨hk, hme2⟩ | ⟨hk, hy, he3, hS3⟩
        · subst hk
          rw [if_pos rfl]
          obtain ⟨yd, e8, S8, h5, h6⟩ := bind_ok hme2
          cases h6
          refine ⟨F7, ρ7, e7, S7, rp11, ?_⟩
          rw [h5]
          intro F8 ρ8 H8 yv m8 rp12 hy
          obtain ⟨rp13, mo13⟩ := Rep.turn sm2 hix1 ow2 rp12 (m7.trans m8)
          have moA := mo8.trans mo13
          have ci6 := lift rp13 moA
          have own9 : ∀ (i : Nat) (l : List D), (wipeE e6 vs1)[i]? = some (Slot.own l) → i ∉ vs := fun i l h => own8 i l (moA.sub i l h)
          have hacc : acc5.length = accD5.length := ci6.al.length
          refine ⟨acc5, ci6.hd, ?_, hlt2, F8, ρ8, _, _, _, _, r2, rp13.hide ci6.nF ci6.nr (fun ⟨i, l, z1, z2⟩ => ?_) ci6.n0 (ok_lst ci6.hd), ci6.put hy, own9, stays_trans (stays_trans st5 (moA.stays rp8)) (stays_hide ci6.nF), hcl6, by rw [← hrest5]; simp only [List.append_assoc, List.cons_append, List.nil_append]⟩
          · rw [← hrest5, List.length_append, List.length_append, List.length_append, List.length_singleton] at hz
            omega
          · refine ci6.no ⟨i, l, by rw [wipeE_out (own9 i l z1)]; exact z1, ?_⟩
            rw [← smv.2 i (own9 i l z1)]
            exact z2
        · subst hk hy he3 hS3
          rw [if_neg (by decide)]
          obtain ⟨rp13, mo13⟩ := Rep.turn sm2 hix1 ow2 rp11 m7
          have moA := mo8.trans mo13
          exact ⟨hlt2, F7, ρ7, _, _, acc5, accD5, r2, rp13, lift rp13 moA, fun i l h => own8 i l (moA.sub i l h), stays_trans st5 (moA.stays rp8), hcl6, hrest5⟩
      · have e : j = ys.length := by omega
        subst e
        refine .inl ⟨wk2.2.1, ?_⟩
        rw [List.drop_length] at hcl5
        cases hcl5
        exact ⟨hlt, F5, ρ5, _, _, acc5, accD5, r', ci5, hcl2, hrest5⟩
    · subst hk hy he3 hS3
      rw [if_neg (by decide)]
      obtain ⟨rp6, mo6⟩ := Rep.turn sm hix ow rp4 m3
      exact ⟨hlt, F3, ρ3, _, _, acc, accD, r', ci2.step mo6 rp6, hcl2, hrest⟩
  · have e : i = xs.length := by omega
    subst e
    refine .inl ⟨wk.2.1, ?_⟩
    rw [List.drop_length] at hcl
    cases hcl
    rw [List.append_nil] at hrest
    subst hrest
    obtain ⟨rpb, mob⟩ := rp1.back ci.rp ci.mo
    refine g2 F' ρ' H' _ mob rpb ⟨Dl, acc, accD, rfl, rfl, ci.hd, ci.al, ci.nF, ci.nr, fun z => ?_, ci.n0, frh_none hD⟩
    obtain ⟨_, _, ys, q⟩ := rp1.ownAt (mob.sub.at z)
    rw [hD] at q; cases q
theorem foldedSet_ok2 {it : PySem.Expr} (h : notSet it = true) : ∀ (env : PySem.Env) x, foldedSetIterable it env x = pure x := fun env x => by
  cases it <;> first | rfl | cases h
theorem sf_comp2 {elt tg iter tg1 iter1 : PySem.Expr} {ifs ifs1 : List PySem.Expr} {scope : Scope} {own : List (Str × Nat)} {t t2 : Tg} {vs1 : List Nat} {mi mi2 : M (List D)} {mt mt2 : M Bool} {me : M D} (hc : c.calm = true) (hi : Sj B T Γ k c tg iter mi) (ok : blkC c.N c.sc scope own = true)
    (hg : St_ B.nox T Γ k (blkCtx c scope) tg t) (ht : Sts B.nox T Γ k (blkCtx c scope) ifs mt) (hi1 : Si B.nox T Γ k (blkCtx c scope) tg1 iter1 mi2) (hg1 : St_ B.nox T Γ k (blkCtx c scope) tg1 t2) (ht1 : Sts B.nox T Γ k (blkCtx c scope) ifs1 mt2)
    (he : Sa B.nox T Γ k (blkCtx c scope) elt me) (hix : ∀ i ∈ t.idx, i ∈ own.map (·.2)) (hix1 : ∀ i ∈ t2.idx, i ∈ vs1) (hv : ∀ i ∈ vs1, i ∈ own.map (·.2)) (hs : notSet iter = true) (hs1 : notSet iter1 = true) :
    Sf B T Γ k c (.ListComp elt [⟨tg, iter, ifs, 0⟩, ⟨tg1, iter1, ifs1, 0⟩] scope pos) (compM2 t (own.map (·.2)) mi mt t2 vs1 mi2 mt2 me) := by
  intro X x0
  exact PEi (pe_lc2 (by rw [x0.calm]; exact hc) x0.nd (hi X x0) (blkOk_by (own := own) (by rw [x0.N, x0.sc]; exact ok)) hv (fun s H C cl fp => hg _ x0.blk) (fun s H C cl fp => ht _ x0.blk) (fun s H C cl fp => hi1 _ x0.blk) (fun s H C cl fp => hg1 _ x0.blk) (fun s H C cl fp => ht1 _ x0.blk) (fun s H C cl fp => he _ x0.blk)
    (foldedSet_ok (by cases iter <;> first | rfl | cases hs)) (foldedSet_ok2 hs1)) fun σ H Q h => comp2_imp hix hix1 hv h
end
end Eng

set_option maxHeartbeats 4000000
/-! THE ENGINE, part N: statements. -/
namespace Eng
open PySem PySem.Spec L2 PyProof.Rows
/-- what a statement's end promises -/
def FlQ (B : Bd) (D : Ends) (F : Addr → Prop) (ρ : List Addr) (H : Hp) (σ : L2.St) : Fl → Prop
  | .nx => D.nx σ H
  | .bk => D.bk σ H
  | .ct => D.ct σ H
  | .rt d => ∀ v, At B.G F ρ H v d → D.rt v H
def GoodS (B : Bd) (F : Addr → Prop) (ρ : List Addr) (H : Hp) (r : Res Fl) (D : Ends) : Prop := match r with
  | .ok fl e' S' => ∀ F' ρ' H' σ', Stays F F' ρ ρ' H H' → Rep B.G B.N F' ρ' H' σ' e' S' → FlQ B D F' ρ' H' σ' fl
  | .exc x e' S' => ∀ F' ρ' H' σ' cls od, Stays F F' ρ ρ' H H' → Rep B.G B.N F' ρ' H' σ' e' S' → ExV B.G F' ρ' H' x cls od → B.W cls od σ' H'
  | .fail => False
def tRS (B : Bd) (m : M Fl) : TS := fun D σ H => ∃ F ρ e S, Rep B.G B.N F ρ H σ e S ∧ GoodS B F ρ H (m e S) D
theorem Stays.refl {F : Addr → Prop} {ρ : List Addr} {H : Hp} : Stays F F ρ ρ H H := ⟨fun _ h => h, List.prefix_rfl, fun _ _ _ h _ => h⟩
theorem Stays.trans {F F1 F2 : Addr → Prop} {ρ ρ1 ρ2 : List Addr} {H H1 H2 : Hp} (a : Stays F F1 ρ ρ1 H H1) (b : Stays F1 F2 ρ1 ρ2 H1 H2) : Stays F F2 ρ ρ2 H H2 :=
  ⟨fun x h => b.f x (a.f x h), a.r.trans b.r, fun x o h e n => b.k x o (a.f x h) (a.k x o h e n) n⟩
section
variable {B : Bd} {T : Tab} {Γ : Gm} {k : Nat} {c : Ctx} {X : Cx} {e a b a3 : PySem.Expr} {ma mb mc m : M D} {pos : Pos} {es : List PySem.Expr} {ml : M (List D)}
  {σ : L2.St} {F F1 : Addr → Prop} {ρ ρ1 : List Addr} {H H1 : Hp} {en e1 : Env} {S S1 : Sto} {De De' : Ends}
theorem GoodS.later {r : Res Fl} (g : GoodS B F ρ H r De) (s : Stays F F1 ρ ρ1 H H1) : GoodS B F1 ρ1 H1 r De := by
  cases r with
  | ok fl e' S' => exact fun F' ρ' H' σ' s' rp => g F' ρ' H' σ' (s.trans s') rp
  | exc x e' S' => exact fun F' ρ' H' σ' cls od s' rp ev => g F' ρ' H' σ' cls od (s.trans s') rp ev
  | fail => exact g
/-- an expression, then the rest of the statement -/
theorem GoodS.bindE {α β : Type} {R : Rel α β} {m : M α} {f : α → M Fl} (g : GoodS B F ρ H ((m >>= f) en S) De) (rp : Rep B.G B.N F ρ H σ en S) :
    Good B σ R F ρ H en (m en S) (fun b H1 => ∃ F1 ρ1 e1 S1 a, Rep B.G B.N F1 ρ1 H1 σ e1 S1 ∧ Mono σ en F ρ H e1 F1 ρ1 H1 ∧ R H F1 ρ1 H1 σ e1 b a ∧ GoodS B F1 ρ1 H1 (f a e1 S1) De) := by
  have g' : GoodS B F ρ H (M.bind m f en S) De := g
  unfold M.bind at g'
  cases hm : m en S with
  | ok a e' S' =>
    rw [hm] at g'
    intro F' ρ' H' b mo rp' rr
    exact ⟨F', ρ', e', S', a, rp', mo, rr, GoodS.later g' (mo.stays rp)⟩
  | exc x e' S' =>
    rw [hm] at g'
    exact fun F' ρ' H' cls od mo rp' ev => g' F' ρ' H' σ cls od (mo.stays rp) rp' ev
  | fail =>
    rw [hm] at g'
    exact g'
theorem GoodS.val {fl : Fl} (g : GoodS B F ρ H (M.pure fl en S) De) (rp : Rep B.G B.N F ρ H σ en S) : FlQ B De F ρ H σ fl := g F ρ H σ .refl rp
theorem GoodS.lift {α : Type} {o : Option α} {f : α → M Fl} (g : GoodS B F ρ H ((liftO o >>= f) en S) De) : ∃ a, o = some a ∧ GoodS B F ρ H (f a en S) De := by
  cases o with
  | none => exact False.elim g
  | some a => exact ⟨a, rfl, g⟩
structure SOk (B : Bd) (T : Tab) (Γ : Gm) (k : Nat) (c : Ctx) (X : Cx) : Prop where
  x : XOk B T Γ k c X
  own : c.calm = true → c.thk = false → PassesOwn (model X.prog X.w) X.A X.env X.xe
  fk : X.env.scope.kind = .function
  fr : c.thk = true → X.stack = X.env :: X.outer ∧ X.env.frame = some X.env.locals
/-- a statement, a suite does m -/
def Ss (B : Bd) (T : Tab) (Γ : Gm) (k : Nat) (c : Ctx) (st : PySem.Stmt) (m : M Fl) : Prop := ∀ X, SOk B T Γ k c X → PS X st (tRS B m)
def Sss (B : Bd) (T : Tab) (Γ : Gm) (k : Nat) (c : Ctx) (st : List PySem.Stmt) (m : M Fl) : Prop := ∀ X, SOk B T Γ k c X → PSs X st (tRS B m)
theorem PSi {st : PySem.Stmt} {t t' : TS} (h : PS X st t) (i : ∀ D σ H, t' D σ H → t D σ H) : PS X st t' := ⟨fun p s σ H D I q => h.run p s σ H D I (i D σ H q)⟩
theorem PSsi {st : List PySem.Stmt} {t t' : TS} (h : PSs X st t) (i : ∀ D σ H, t' D σ H → t D σ H) : PSs X st t' := ⟨fun p s σ H D I q => h.run p s σ H D I (i D σ H q)⟩
theorem ss_pass : Ss B T Γ k c (.Pass pos) (M.pure .nx) := fun X x0 => PSi ps_pass fun D σ H ⟨F, ρ, en, S, rp, g⟩ => g.val rp
theorem ss_brk : Ss B T Γ k c (.Break pos) (M.pure .bk) := fun X x0 => PSi ps_break fun D σ H ⟨F, ρ, en, S, rp, g⟩ => g.val rp
theorem ss_cont : Ss B T Γ k c (.Continue pos) (M.pure .ct) := fun X x0 => PSi ps_continue fun D σ H ⟨F, ρ, en, S, rp, g⟩ => g.val rp
theorem ss_retN : Ss B T Γ k c (.Return none pos) (M.pure (.rt .non)) := fun X x0 => PSi ps_retN fun D σ H ⟨F, ρ, en, S, rp, g⟩ => g.val rp _ .non
theorem ss_never {st : PySem.Stmt} : Ss B T Γ k c st mfail := fun X x0 => PSi ps_never fun D σ H ⟨F, ρ, en, S, rp, g⟩ => g.elim
theorem ss_ret (ha : Sa B T Γ k c a ma) : Ss B T Γ k c (.Return (some a) pos) (do let x ← ma; M.pure (.rt x)) := fun X x0 => PSi (ps_ret (ha X x0.x)) fun D σ H ⟨F, ρ, en, S, rp, g⟩ => by
  refine ⟨F, ρ, en, S, rp, (GoodS.bindE g rp).mono ?_⟩
  rintro v H1 ⟨F1, ρ1, e1, S1, d, rp1, m1, r1, g1⟩
  exact g1.val rp1 v r1
def notComp : PySem.Expr → Bool
  | .ListComp _ _ _ _ => false
  | .SetComp _ _ _ _ => false
  | .DictComp _ _ _ _ _ => false
  | _ => true
theorem swaps_not {t : Option PySem.Expr} {l : Nat} {env : PySem.Env} (h : notComp e = true) : swapsWith e t l env = pure false := by
  cases e <;> first | rfl | cases h
theorem ss_expr (ha : Sa B T Γ k c a ma) (hn : notComp a = true) : Ss B T Γ k c (.Expr a pos) (do let _ ← ma; M.pure .nx) := fun X x0 => PSi (ps_expr (ha X x0.x) (swaps_not hn)) fun D σ H ⟨F, ρ, en, S, rp, g⟩ => by
  refine ⟨F, ρ, en, S, rp, (GoodS.bindE g rp).mono ?_⟩
  rintro v H1 ⟨F1, ρ1, e1, S1, d, rp1, m1, r1, g1⟩
  exact g1.val rp1
/-! ### suites -/
def seqM (m n : M Fl) : M Fl := do
  let f ← m
  match f with
  | .nx => n
  | .bk => M.pure .bk
  | .ct => M.pure .ct
  | .rt d => M.pure (.rt d)
theorem sss_nil : Sss B T Γ k c [] (M.pure .nx) := fun X x0 => PSsi pss_nil fun D σ H ⟨F, ρ, en, S, rp, g⟩ => g.val rp
theorem GoodS.seq {m n : M Fl} (g : GoodS B F ρ H (seqM m n en S) De) : GoodS B F ρ H (m en S) { De with nx := tRS B n De } := by
  have g' : GoodS B F ρ H (M.bind m _ en S) De := g
  unfold M.bind at g'
  cases hm : m en S with
  | exc x e' S' => rw [hm] at g'; exact g'
  | fail => rw [hm] at g'; exact g'
  | ok fl e' S' =>
    rw [hm] at g'
    intro F' ρ' H' σ' s rp
    cases fl with
    | nx => exact ⟨F', ρ', e', S', rp, GoodS.later g' s⟩
    | bk => exact GoodS.val (fl := Fl.bk) (en := e') (S := S') (GoodS.later g' s) rp
    | ct => exact GoodS.val (fl := Fl.ct) (en := e') (S := S') (GoodS.later g' s) rp
    | rt d => exact GoodS.val (fl := Fl.rt d) (en := e') (S := S') (GoodS.later g' s) rp
theorem sss_cons {st : PySem.Stmt} {r : List PySem.Stmt} {m n : M Fl} (h : Ss B T Γ k c st m) (hr : Sss B T Γ k c r n) : Sss B T Γ k c (st :: r) (seqM m n) := fun X x0 =>
  PSsi (pss_cons (h X x0) (hr X x0)) fun D σ H ⟨F, ρ, en, S, rp, g⟩ => ⟨F, ρ, en, S, rp, g.seq⟩
/-! ### if -/
theorem test_assoc {α : Type} {m : M D} {f : Bool → M α} {en : Env} {S : Sto} : (do let x ← m; let c ← boolM x; f c : M α) en S = (do let c ← (do let x ← m; boolM x); f c : M α) en S := by
  show M.bind m _ en S = M.bind (M.bind m boolM) f en S
  unfold M.bind
  cases m en S with
  | ok x e' S' => rfl
  | exc x e' S' => rfl
  | fail => rfl
theorem ss_ifs {t : PySem.Expr} {mt : M D} {A E : List PySem.Stmt} {m n : M Fl} (ht : St B T Γ k c t (do let x ← mt; boolM x)) (ha : Sss B T Γ k c A m) (hb : Sss B T Γ k c E n) : Ss B T Γ k c (.If t A E pos) (do let x ← mt; let c ← boolM x; iteM c m n) := fun X x0 =>
  PSi (ps_if (ht X x0.x) (ha X x0) (hb X x0)) fun D σ H ⟨F, ρ, en, S, rp, g⟩ => by
  rw [test_assoc] at g
  refine ⟨F, ρ, en, S, rp, (GoodS.bindE (R := Req) g rp).mono ?_⟩
  rintro v H1 ⟨F1, ρ1, e1, S1, d, rp1, m1, r1, g1⟩
  cases (show v = d from r1)
  cases v with
  | true => exact ⟨F1, ρ1, e1, S1, rp1, g1⟩
  | false => exact ⟨F1, ρ1, e1, S1, rp1, g1⟩
/-! ### loops -/
theorem ss_whl {t : PySem.Expr} {mt : M D} {A : List PySem.Stmt} {m : M Fl} (hc : c.calm = true) (hct : c.thk = false) (ht : St B T Γ k c t (do let x ← mt; boolM x)) (ha : Sss B T Γ k c A m) {fuel : Nat} : Ss B T Γ k c (.While t A [] pos) (loopW (do let x ← mt; boolM x) m fuel) := fun X x0 =>
  PSi (ps_while (x0.own hc hct) (ht X x0.x) (ha X x0)) fun De σ H h => by
  refine ⟨fun n σ H => tRS B (loopW (do let x ← mt; boolM x) m n) De σ H, ⟨fuel, h⟩, ?_⟩
  rintro n σ H ⟨F, ρ, en, S, rp, g⟩
  cases n with
  | zero => exact g.elim
  | succ n =>
    refine ⟨F, ρ, en, S, rp, (GoodS.bindE (R := Req) (show GoodS B F ρ H ((do let t ← (do let x ← mt; boolM x); (match t with | true => (do let r ← m; (match r with | .nx => loopW (do let x ← mt; boolM x) m n | .ct => loopW (do let x ← mt; boolM x) m n | .bk => M.pure .nx | .rt d => M.pure (.rt d))) | false => M.pure .nx) : M Fl) en S) De from g) rp).mono ?_⟩
    rintro v H1 ⟨F1, ρ1, e1, S1, d, rp1, m1, r1, g1⟩
    cases (show v = d from r1)
    cases v with
    | false => exact GoodS.val (fl := Fl.nx) g1 rp1
    | true =>
      rw [if_pos rfl]
      refine ⟨tRS B (loopW (do let x ← mt; boolM x) m n) De, fun σ' H' q => ⟨n, Nat.lt_succ_self n, q⟩, F1, ρ1, e1, S1, rp1, ?_⟩
      have g' : GoodS B F1 ρ1 H1 (M.bind m (fun r => match r with | .nx => loopW (do let x ← mt; boolM x) m n | .ct => loopW (do let x ← mt; boolM x) m n | .bk => M.pure .nx | .rt d => M.pure (.rt d)) e1 S1) De := g1
      unfold M.bind at g'
      cases hm : m e1 S1 with
      | exc x e' S' => rw [hm] at g'; exact g'
      | fail => rw [hm] at g'; exact g'
      | ok fl e' S' =>
        rw [hm] at g'
        intro F' ρ' H' σ' s rp'
        cases fl with
        | nx => exact ⟨F', ρ', e', S', rp', GoodS.later g' s⟩
        | ct => exact ⟨F', ρ', e', S', rp', GoodS.later g' s⟩
        | bk => exact GoodS.val (fl := Fl.nx) (en := e') (S := S') (GoodS.later g' s) rp'
        | rt d => exact GoodS.val (fl := Fl.rt d) (en := e') (S := S') (GoodS.later g' s) rp'
def turnF (t : Tg) (m : M Fl) (x : D) : M Fl := do
  bindM t x
  m
theorem bindM_then {α : Type} {t : Tg} {x : D} {f : Unit → M α} {en e2 : Env} {S : Sto} (h : bindT t x en = some e2) : ((bindM t x >>= f : M α)) en S = f () e2 S := by
  show M.bind (bindM t x) f en S = _
  unfold M.bind bindM
  rw [h]
theorem bindM_fail {α : Type} {t : Tg} {x : D} {f : Unit → M α} {en : Env} {S : Sto} (h : bindT t x en = none) : ((bindM t x >>= f : M α)) en S = .fail := by
  show M.bind (bindM t x) f en S = _
  unfold M.bind bindM
  rw [h]
theorem ss_fr {tg it : PySem.Expr} {t : Tg} {mi : M (List D)} {A : List PySem.Stmt} {m : M Fl} (hc : c.calm = true) (hct : c.thk = false) (hi : Si B T Γ k c tg it mi) (hg : St_ B T Γ k c tg t) (ha : Sss B T Γ k c A m) (hs : notSet it = true) :
    Ss B T Γ k c (.For tg it A [] pos) (do let xs ← mi; loopF (turnF t m) xs) := fun X x0 =>
  PSi (ps_for (x0.own hc hct) (by rw [x0.x.calm]; exact hc) (hi X x0.x) (hg X x0.x) (ha X x0) (foldedSet_ok (by cases it <;> first | rfl | cases hs))) fun De σ H ⟨F, ρ, en, S, rp, g⟩ => by
  refine ⟨F, ρ, en, S, rp, (GoodS.bindE (R := RI B) g rp).mono ?_⟩
  rintro J H1 ⟨F1, ρ1, e1, S1, xs, rp1, m1, r1, g1⟩
  refine ⟨fun i m' σ H => m' = xs.length - i ∧ i ≤ xs.length ∧ ∃ F' ρ' e' S', Rep B.G B.N F' ρ' H σ e' S' ∧ Stays F1 F' ρ1 ρ' H1 H ∧ GoodS B F' ρ' H (loopF (turnF t m) (xs.drop i) e' S') De, ⟨xs.length, by simp, Nat.zero_le _, F1, ρ1, e1, S1, rp1, .refl, by rw [List.drop_zero]; exact g1⟩, ?_⟩
  rintro i m' σ H' ⟨rfl, hi, F', ρ', e', S', rp', st, g'⟩
  have wk : Wk B J xs F' ρ' H' := r1 F' ρ' H' st
  by_cases hlt : i < xs.length
  · refine .inr ⟨wk.1 i hlt, fun σ' H2 => i + 1 ≤ xs.length ∧ ∃ F' ρ' e' S', Rep B.G B.N F' ρ' H2 σ' e' S' ∧ Stays F1 F' ρ1 ρ' H1 H2 ∧ GoodS B F' ρ' H2 (loopF (turnF t m) (xs.drop (i + 1)) e' S') De, fun σ' H2 p => ⟨xs.length - (i + 1), by omega, rfl, p.1, p.2⟩, fun x H2 y => ?_⟩
    rw [List.drop_eq_getElem_cons hlt] at g'
    have item : ∃ F2, At B.G F2 ρ' H2 x xs[i] ∧ Stays F' F2 ρ' ρ' H' H2 ∧ Rep B.G B.N F2 ρ' H2 σ e' S' := by
      rcases wk.2.2 i xs[i] x H2 (by simp [hlt]) y with ⟨h1, h2⟩ | ⟨p, u, h1, hnt, h2, h3⟩
      · subst h1; exact ⟨F', h2, .refl, rp'⟩
      · subst h2
        obtain ⟨q1, q2⟩ := rp'.call (Ext.new (u := u) h1) (rp'.st.new h1 hnt)
        exact ⟨_, h3, q2.stays rp', q1⟩
    obtain ⟨F2, hat, st2, rp2⟩ := item
    have g2 : GoodS B F2 ρ' H2 (M.bind (turnF t m xs[i]) (fun r => match r with | .nx => loopF (turnF t m) (xs.drop (i + 1)) | .ct => loopF (turnF t m) (xs.drop (i + 1)) | .bk => M.pure .nx | .rt d => M.pure (.rt d)) e' S') De := GoodS.later g' st2
    cases hb : bindT t xs[i] e' with
    | none =>
      unfold M.bind turnF at g2
      rw [bindM_fail hb] at g2
      exact g2.elim
    | some e2 =>
      unfold M.bind turnF at g2
      rw [bindM_then hb] at g2
      refine ⟨F2, ρ', e', S', xs[i], e2, rp2, hat, hb, fun σ2 rp3 sm ow => ⟨F2, ρ', e2, S', rp3, ?_⟩⟩
      cases hm : m e2 S' with
      | exc x e' S' => rw [hm] at g2; exact g2
      | fail => rw [hm] at g2; exact g2
      | ok fl e4 S4 =>
        rw [hm] at g2
        intro F3 ρ3 H3 σ3 s3 rp4
        have st3 := (st.trans st2).trans s3
        cases fl with
        | nx => exact ⟨hlt, F3, ρ3, e4, S4, rp4, st3, GoodS.later g2 s3⟩
        | ct => exact ⟨hlt, F3, ρ3, e4, S4, rp4, st3, GoodS.later g2 s3⟩
        | bk => exact GoodS.val (fl := Fl.nx) (en := e4) (S := S4) (GoodS.later g2 s3) rp4
        | rt d => exact GoodS.val (fl := Fl.rt d) (en := e4) (S := S4) (GoodS.later g2 s3) rp4
  · have e : i = xs.length := by omega
    subst e
    rw [List.drop_length] at g'
    exact .inl ⟨wk.2.1, GoodS.val (fl := Fl.nx) g' rp'⟩
end
end Eng

set_option maxHeartbeats 4000000
/-! THE ENGINE, part O: assignments, changes. -/
namespace Eng
open PySem PySem.Spec L2 PyProof.Rows
section
variable {G : Gl0} {N : Ent} {F F1 : Addr → Prop} {ρ ρ1 : List Addr} {H H1 : Hp} {σ σ2 : L2.St} {en e1 e2 : Env} {S S1 : Sto} {i : Nat} {a : Addr} {xs : List V} {l : List D}
theorem setO_own {l' : List D} {j : Nat} (h : (en.set i (.own l))[j]? = some (Slot.own l')) : (j = i ∧ l' = l) ∨ (j ≠ i ∧ en[j]? = some (Slot.own l')) := by
  by_cases hj : j = i
  · subst hj
    by_cases hl : j < en.length
    · rw [List.getElem?_set_self hl] at h; cases h; exact .inl ⟨rfl, rfl⟩
    · rw [List.getElem?_eq_none (by simpa using hl)] at h; cases h
  · rw [List.getElem?_set_ne (Ne.symm hj)] at h
    exact .inr ⟨hj, h⟩
/-- a new list of a name's own -/
theorem Rep.setO (rp : Rep G N F ρ H σ en S) (h1 : H a = some (.lst xs)) (h2 : AtL G F ρ H xs l) (h3 : ¬ F a) (h4 : a ∉ ρ) (h5 : ¬ OwnAt σ en a) (h6 : Frh N.H a) : Rep G N F ρ H (σ.set i (some (.ref a))) (en.set i (.own l)) S := by
  refine ⟨rp.st, rp.ext, by rw [List.length_set, List.length_set]; exact rp.len, fun j s hs => ?_, fun b ⟨j, l', q1, q2⟩ => ?_, fun j j' l1 l2 b q1 q2 q3 q4 => ?_⟩
  · by_cases hj : j = i
    · subst hj
      by_cases hl : j < en.length
      · rw [List.getElem?_set_self hl] at hs
        cases hs
        exact ⟨_, List.getElem?_set_self (by rw [← rp.len]; exact hl), a, xs, rfl, h1, h2, h3, h4⟩
      · rw [List.getElem?_eq_none (by simpa using hl)] at hs; cases hs
    · rw [List.getElem?_set_ne (Ne.symm hj)] at hs
      obtain ⟨ov, q1, q2⟩ := rp.slot j s hs
      exact ⟨ov, by rw [List.getElem?_set_ne (Ne.symm hj)]; exact q1, q2⟩
  · rcases setO_own q1 with ⟨z1, z2⟩ | ⟨z1, z2⟩
    · subst z1
      by_cases hl : j < σ.length
      · rw [List.getElem?_set_self hl] at q2; cases q2; exact h6
      · rw [List.getElem?_eq_none (by simpa using hl)] at q2; cases q2
    · rw [List.getElem?_set_ne (Ne.symm z1)] at q2
      exact rp.own0 b ⟨j, l', z2, q2⟩
  · have at_i : ∀ {b : Addr}, (σ.set i (some (V.ref a)))[i]? = some (some (V.ref b)) → b = a := fun {b} q => by
      by_cases hl : i < σ.length
      · rw [List.getElem?_set_self hl] at q; cases q; rfl
      · rw [List.getElem?_eq_none (by simpa using hl)] at q; cases q
    rcases setO_own q1 with ⟨z1, z2⟩ | ⟨z1, z2⟩
    · rcases setO_own q2 with ⟨z3, z4⟩ | ⟨z3, z4⟩
      · rw [z1, z3]
      · subst z1
        have e := at_i q3
        subst e
        rw [List.getElem?_set_ne (Ne.symm z3)] at q4
        exact absurd ⟨j', l2, z4, q4⟩ h5
    · rcases setO_own q2 with ⟨z3, z4⟩ | ⟨z3, z4⟩
      · subst z3
        have e := at_i q4
        subst e
        rw [List.getElem?_set_ne (Ne.symm z1)] at q3
        exact absurd ⟨j, l1, z2, q3⟩ h5
      · rw [List.getElem?_set_ne (Ne.symm z1)] at q3
        rw [List.getElem?_set_ne (Ne.symm z3)] at q4
        exact rp.dist j j' l1 l2 b z2 z4 q3 q4
/-- an own list changes -/
theorem Rep.mut {xs' : List V} {l' : List D} (rp : Rep G N F ρ H σ en S) (he : en[i]? = some (.own l)) (hs : σ[i]? = some (some (.ref a))) (h2 : AtL G F ρ H xs' l') :
    Rep G N F ρ (upd H a (.lst xs')) σ (en.set i (.own l')) S ∧ Stays F F ρ ρ H (upd H a (.lst xs')) := by
  have oa : OwnAt σ en a := ⟨i, l, he, hs⟩
  obtain ⟨nF, nr, xs, hx⟩ := rp.ownAt oa
  have n0 := rp.own0 a oa
  have sy : Stays F F ρ ρ H (upd H a (.lst xs')) := stays_hide nF
  have hl : i < en.length := (List.getElem?_eq_some_iff.mp he).1
  refine ⟨⟨⟨rp.st.nod, rp.st.fr, fun b h => ?_, tabs_upd rp.st.tabs (ok_lst hx), rp.st.len, fun j l h => ?_⟩, ⟨rp.ext.f, rp.ext.fn, rp.ext.r, rp.ext.rn, fun b o h hn hb => ?_, fun b h => ?_⟩, by rw [List.length_set]; exact rp.len, fun j s h => ?_, fun b ⟨j, l1, q1, q2⟩ => ?_, fun j j' l1 l2 b q1 q2 q3 q4 => ?_⟩, sy⟩
  · exact frh_upd (rp.st.ft b h) (fun (z : b = a) => nF (z ▸ h))
  · obtain ⟨b, ys, h1, h2, h3⟩ := rp.st.sto j l h
    exact ⟨b, ys, h1, by rw [upd_ne (fun (z : b = a) => nr (z ▸ List.mem_of_getElem? h1))]; exact h2, h3.stays sy⟩
  · rw [upd_ne (ne_of_frh h hn n0)]; exact rp.ext.kp b o h hn hb
  · by_cases hb : b = a
    · rw [hb]; exact n0
    · exact rp.ext.tr b fun o e => h o (by rw [upd_ne hb]; exact e)
  · by_cases hj : j = i
    · subst hj
      rw [List.getElem?_set_self hl] at h
      cases h
      exact ⟨_, hs, a, xs', rfl, upd_same, h2.stays sy, nF, nr⟩
    · rw [List.getElem?_set_ne (Ne.symm hj)] at h
      obtain ⟨ov, h1, h2⟩ := rp.slot j s h
      refine ⟨ov, h1, ?_⟩
      cases s with
      | emp => trivial
      | val d =>
        obtain ⟨v, h3, h4⟩ := h2
        exact ⟨v, h3, h4.stays sy⟩
      | own l1 =>
        obtain ⟨b, ys, h3, h4, h5, h6, h7⟩ := h2
        refine ⟨b, ys, h3, ?_, h5.stays sy, h6, h7⟩
        rw [upd_ne (fun (z : b = a) => hj (rp.dist j i l1 l b h he (by rw [h1, h3]) (by rw [hs, z])))]
        exact h4
      | thk =>
        obtain ⟨f, c, q, h3, h4, h5, h6⟩ := h2
        exact ⟨f, c, q, h3, h4, by rw [upd_ne (ne_code h5 (ok_lst hx))]; exact h5, h6⟩
      | exn y => exact h2
  · rcases setO_own q1 with ⟨z1, z2⟩ | ⟨z1, z2⟩
    · subst z1; exact rp.own0 b ⟨j, l, he, q2⟩
    · exact rp.own0 b ⟨j, l1, z2, q2⟩
  · rcases setO_own q1 with ⟨z1, z2⟩ | ⟨z1, z2⟩
    · rcases setO_own q2 with ⟨z3, z4⟩ | ⟨z3, z4⟩
      · rw [z1, z3]
      · subst z1; exact rp.dist j j' l l2 b he z4 q3 q4
    · rcases setO_own q2 with ⟨z3, z4⟩ | ⟨z3, z4⟩
      · subst z3; exact rp.dist j j' l1 l b z2 he q3 q4
      · exact rp.dist j j' l1 l2 b z2 z4 q3 q4
/-- a cell changes -/
theorem Rep.cell {xs' : List V} {l' : List D} {cI : Nat} (rp : Rep G N F ρ H σ en S) (hr : ρ[cI]? = some a) (h2 : AtL G F ρ H xs' l') :
    Rep G N F ρ (upd H a (.lst xs')) σ en (S.set cI l') ∧ Stays F F ρ ρ H (upd H a (.lst xs')) := by
  have hm : a ∈ ρ := List.mem_of_getElem? hr
  have nF : ¬ F a := fun z => rp.st.fr a z hm
  have sy : Stays F F ρ ρ H (upd H a (.lst xs')) := stays_hide nF
  have hl : cI < S.length := by rw [rp.st.len]; exact (List.getElem?_eq_some_iff.mp hr).1
  have hok : ∃ ys, H a = some (.lst ys) := by
    obtain ⟨b, ys, z1, z2, _⟩ := rp.st.sto cI S[cI] (by simp [hl])
    rw [hr] at z1
    cases z1
    exact ⟨ys, z2⟩
  obtain ⟨ys0, hok⟩ := hok
  refine ⟨⟨⟨rp.st.nod, rp.st.fr, fun b h => ?_, tabs_upd rp.st.tabs (ok_lst hok), by rw [List.length_set]; exact rp.st.len, fun j l h => ?_⟩, ⟨rp.ext.f, rp.ext.fn, rp.ext.r, rp.ext.rn, fun b o h hn hb => ?_, fun b h => ?_⟩, rp.len, fun j s h => ?_, rp.own0, rp.dist⟩, sy⟩
  · exact frh_upd (rp.st.ft b h) (fun (z : b = a) => nF (z ▸ h))
  · by_cases hj : j = cI
    · subst hj
      rw [List.getElem?_set_self hl] at h
      cases h
      exact ⟨a, xs', hr, upd_same, h2.stays sy⟩
    · rw [List.getElem?_set_ne (Ne.symm hj)] at h
      obtain ⟨b, ys, h1, h2, h3⟩ := rp.st.sto j l h
      refine ⟨b, ys, h1, ?_, h3.stays sy⟩
      rw [upd_ne (fun (z : b = a) => ?_)]
      · exact h2
      · subst z
        have i1 := List.getElem?_eq_some_iff.mp h1
        have i2 := List.getElem?_eq_some_iff.mp hr
        obtain ⟨p1, p2⟩ := i1
        obtain ⟨p3, p4⟩ := i2
        exact hj ((List.getElem_inj rp.st.nod).mp (p2.trans p4.symm))
  · have hba : b ≠ a := fun z => by
      subst z
      rcases rp.ext.rn b hm with q | q
      · exact hb q
      · exact q.no h hn
    rw [upd_ne hba]; exact rp.ext.kp b o h hn hb
  · by_cases hb : b = a
    · rw [hb] at h; exact (h.no upd_same rfl).elim
    · exact rp.ext.tr b fun o e => h o (by rw [upd_ne hb]; exact e)
  · obtain ⟨ov, h1, h2⟩ := rp.slot j s h
    refine ⟨ov, h1, ?_⟩
    cases s with
    | emp => trivial
    | val d =>
      obtain ⟨v, h3, h4⟩ := h2
      exact ⟨v, h3, h4.stays sy⟩
    | own l1 =>
      obtain ⟨b, ys, h3, h4, h5, h6, h7⟩ := h2
      exact ⟨b, ys, h3, by rw [upd_ne (fun (z : b = a) => h7 (z ▸ hm))]; exact h4, h5.stays sy, h6, h7⟩
    | thk =>
      obtain ⟨f, c, q, h3, h4, h5, h6⟩ := h2
      exact ⟨f, c, q, h3, h4, by rw [upd_ne (ne_code h5 (ok_lst hok))]; exact h5, h6⟩
    | exn y => exact h2
/-- a new cell -/
theorem Rep.cellNew {p : Addr} (rp : Rep G N F ρ H σ en S) (hp : H p = none) (h2 : AtL G F ρ H xs l) :
    Rep G N F (ρ ++ [p]) (upd H p (.lst xs)) σ en (S ++ [l]) ∧ Stays F F ρ (ρ ++ [p]) H (upd H p (.lst xs)) := by
  obtain ⟨nF, nr⟩ := rp.st.no hp
  have sy : Stays F F ρ (ρ ++ [p]) H (upd H p (.lst xs)) := ⟨fun _ h => h, List.prefix_append .., fun b o f h _ => by rw [upd_ne (ne_of_none h hp)]; exact h⟩
  refine ⟨⟨⟨?_, fun b h hm => ?_, fun b h => ?_, tabs_new rp.st.tabs hp, by rw [List.length_append, List.length_append, rp.st.len]; rfl, fun j l' h => ?_⟩, ⟨rp.ext.f, rp.ext.fn, rp.ext.r.trans (List.prefix_append ..), fun b h => ?_, fun b o h hn hb => ?_, fun b h => ?_⟩, rp.len, fun j s h => ?_, rp.own0, rp.dist⟩, sy⟩
  · refine List.nodup_append.mpr ⟨rp.st.nod, by simp, fun x hx y hy z => ?_⟩
    rw [List.mem_singleton] at hy
    subst hy z
    exact nr hx
  · rcases List.mem_append.mp hm with z | z
    · exact rp.st.fr b h z
    · rw [List.mem_singleton] at z; subst z; exact nF h
  · exact frh_upd (rp.st.ft b h) (fun (z : b = p) => nF (z ▸ h))
  · by_cases hj : j < S.length
    · rw [List.getElem?_append_left hj] at h
      obtain ⟨b, ys, h1, h2, h3⟩ := rp.st.sto j l' h
      refine ⟨b, ys, by rw [List.getElem?_append_left (by rw [← rp.st.len]; exact hj)]; exact h1, by rw [upd_ne (ne_of_none h2 hp)]; exact h2, h3.stays sy⟩
    · have hj' : j = S.length := by
        have := (List.getElem?_eq_some_iff.mp h).1
        rw [List.length_append, List.length_singleton] at this
        omega
      subst hj'
      rw [List.getElem?_append_right (Nat.le_refl _), Nat.sub_self] at h
      cases h
      exact ⟨p, xs, by rw [rp.st.len, List.getElem?_append_right (Nat.le_refl _), Nat.sub_self]; rfl, upd_same, h2.stays sy⟩
  · rcases List.mem_append.mp h with z | z
    · exact rp.ext.rn b z
    · rw [List.mem_singleton] at z; subst z; exact .inr (rp.ext.tr b (frh_none hp))
  · rw [upd_ne (fun (z : b = p) => by
      subst z
      exact (rp.ext.tr b (frh_none hp)).no h hn)]
    exact rp.ext.kp b o h hn hb
  · by_cases hb : b = p
    · rw [hb]; exact rp.ext.tr p (frh_none hp)
    · exact rp.ext.tr b fun o e => h o (by rw [upd_ne hb]; exact e)
  · obtain ⟨ov, h1, h2⟩ := rp.slot j s h
    refine ⟨ov, h1, ?_⟩
    cases s with
    | emp => trivial
    | val d =>
      obtain ⟨v, h3, h4⟩ := h2
      exact ⟨v, h3, h4.stays sy⟩
    | own l1 =>
      obtain ⟨b, ys, h3, h4, h5, h6, h7⟩ := h2
      refine ⟨b, ys, h3, by rw [upd_ne (ne_of_none h4 hp)]; exact h4, h5.stays sy, h6, fun z => ?_⟩
      rcases List.mem_append.mp z with z | z
      · exact h7 z
      · rw [List.mem_singleton] at z; subst z; rw [hp] at h4; cases h4
    | thk =>
      obtain ⟨f, c, q, h3, h4, h5, h6⟩ := h2
      refine ⟨f, c, q, h3, h4, by rw [upd_ne (ne_code h5 (ok_none hp))]; exact h5, fun z => ?_⟩
      rcases List.mem_append.mp z with z | z
      · exact h6 z
      · rw [List.mem_singleton] at z; subst z; rw [hp] at h5; cases h5
    | exn y => exact h2
end
section
variable {B : Bd} {T : Tab} {Γ : Gm} {k : Nat} {c : Ctx} {X : Cx} {e a b a3 : PySem.Expr} {ma mb mc m : M D} {pos : Pos} {es : List PySem.Expr} {ml : M (List D)}
theorem FlQ.nx {De : Ends} {F ρ H} {σ : L2.St} {en : Env} {S : Sto} (g : GoodS B F ρ H (M.pure Fl.nx en S) De) {F' ρ' H' σ'} {e' : Env} {S' : Sto} (s : Stays F F' ρ ρ' H H') (h : GoodS B F ρ H (.ok .nx e' S') De) (rp : Rep B.G B.N F' ρ' H' σ' e' S') : De.nx σ' H' := h F' ρ' H' σ' s rp
/-! ### name = value -/
def swapsName : PySem.Expr → Bool
  | .Tuple _ _ _ => false
  | .List _ _ => false
  | _ => true
theorem stores_name {tg v : PySem.Expr} {env : PySem.Env} (h : swapsName tg = true) : swappedStores [tg] v env = pure none := by
  cases tg <;> first | rfl | cases h
theorem stores_val {tg v : PySem.Expr} {env : PySem.Env} (h : swapsName v = true) : swappedStores [tg] v env = pure none := by
  cases tg <;> cases v <;> first | rfl | cases h
theorem assignEach_one {tg : PySem.Expr} {env : PySem.Env} (h : notStar tg = true) : (assignEach [tg] env).map (·.2) = [assign tg env] := by
  cases tg <;> first | rfl | cases h
theorem swapsSole_not {tg a : PySem.Expr} {l : Nat} {env : PySem.Env} (h : notComp a = true) : swapsWithSole [tg] a l env = pure false := swaps_not h
theorem ss_asg {tg : PySem.Expr} {t : Tg} (ha : Sa B T Γ k c a ma) (hg : St_ B T Γ k c tg t) (hn : notComp a = true) (hsw : swapsName tg = true ∨ swapsName a = true) (hst : notStar tg = true) : Ss B T Γ k c (.Assign [tg] a pos) (do let x ← ma; bindM t x; M.pure .nx) := fun X x0 =>
  PSi (ps_asg (ha X x0.x) (hg X x0.x) (swapsSole_not hn) (hsw.elim stores_name stores_val) (assignEach_one hst)) fun De σ H ⟨F, ρ, en, S, rp, g⟩ => by
  refine ⟨F, ρ, en, S, rp, (GoodS.bindE g rp).mono ?_⟩
  rintro v H1 ⟨F1, ρ1, e1, S1, d, rp1, m1, r1, g1⟩
  cases hb : bindT t d e1 with
  | none =>
    have g1' : GoodS B F1 ρ1 H1 ((bindM t d >>= fun _ => M.pure Fl.nx : M Fl) e1 S1) De := g1
    rw [bindM_fail hb] at g1'
    exact g1'.elim
  | some e2 =>
    have g1' : GoodS B F1 ρ1 H1 ((bindM t d >>= fun _ => M.pure Fl.nx : M Fl) e1 S1) De := g1
    rw [bindM_then hb] at g1'
    exact ⟨F1, ρ1, e1, S1, d, e2, rp1, r1, hb, fun σ2 rp2 _ _ => GoodS.val (fl := Fl.nx) g1' rp2⟩
theorem ownM_ok {i : Nat} {d : D} {De : Ends} {F ρ H} {en : Env} {S : Sto} {f : Unit → M Fl} (g : GoodS B F ρ H ((ownM i d >>= f : M Fl) en S) De) : ∃ l, d = .lst l ∧ GoodS B F ρ H (f () (en.set i (.own l)) S) De := by
  cases d with
  | lst l => exact ⟨l, rfl, g⟩
  | _ => exact g.elim
theorem RF.setO {Hb F ρ H} {σ : L2.St} {en : Env} {S : Sto} {v : V} {l : List D} {i : Nat} (rp : Rep B.G B.N F ρ H σ en S) (h : RF B Hb F ρ H σ en v (.lst l)) : Rep B.G B.N F ρ H (σ.set i (some v)) (en.set i (.own l)) S := by
  obtain ⟨a, xs, ds, h1, h2, h3, h4, h5, h6, h7, h8, h9⟩ := h
  cases h2
  subst h1
  exact rp.setO h3 h4 h5 h6 h7 h8
theorem ss_own {i : Nat} {x : Str} {p2 : Pos} (ha : Sf B T Γ k c a ma) (hN : c.N[i]? = some x) (hl : locB c.sc x = true) (hf : c.fnOk x = true ∨ c.sc.names.lookup x = some .local) (hn : notComp a = true) :
    Ss B T Γ k c (.Assign [.Name x p2] a pos) (do let x ← ma; ownM i x; M.pure .nx) := fun X x0 =>
  PSi (ps_asg (ha X x0.x) (pg_name (i := i) x0.x.nd (by rw [x0.x.N]; exact hN) (by rw [x0.x.sc]; exact loc_of hl) (by rw [x0.x.sc]; exact hf.imp (x0.x.fn x) id)) (swapsSole_not hn) (stores_name rfl) (assignEach_one rfl)) fun De σ H ⟨F, ρ, en, S, rp, g⟩ => by
  refine ⟨F, ρ, en, S, rp, (GoodS.bindE g rp).mono ?_⟩
  rintro v H1 ⟨F1, ρ1, e1, S1, d, rp1, m1, r1, g1⟩
  obtain ⟨l, hd, g2⟩ := ownM_ok g1
  subst hd
  exact GoodS.val (fl := Fl.nx) g2 (RF.setO rp1 r1)
/-! ### a list's item, append -/
theorem getB_ok {i : Nat} {De : Ends} {F ρ H} {σ : L2.St} {en : Env} {S : Sto} {f : D → M Fl} (rp : Rep B.G B.N F ρ H σ en S) (g : GoodS B F ρ H ((getB i >>= f : M Fl) en S) De) :
    ∃ v d, σ[i]? = some (some v) ∧ RB B H F ρ H σ en v d ∧ GoodS B F ρ H (f d en S) De := by
  have g' : GoodS B F ρ H (M.bind (getB i) f en S) De := g
  unfold M.bind getB at g'
  cases he : en[i]? with
  | none => rw [he] at g'; exact g'.elim
  | some s =>
    rw [he] at g'
    obtain ⟨ov, h1, h2⟩ := rp.slot i s he
    cases s with
    | emp => exact g'.elim
    | thk => exact g'.elim
    | exn _ => exact g'.elim
    | val d =>
      obtain ⟨v, h3, h4⟩ := h2
      subst h3
      exact ⟨v, d, h1, .inl h4, g'⟩
    | own l =>
      obtain ⟨p, xs, h3, h4, h5, h6, h7⟩ := h2
      subst h3
      exact ⟨.ref p, .lst l, h1, .inr ⟨p, xs, l, rfl, rfl, h4, h5, h7⟩, g'⟩
theorem ixN_lt {n : Nat} {k : Int} {j : Nat} (h : ixN n k = some j) : j < n := (ixN_seq h).2.2.1 |> fun _ => by
  unfold ixN at h
  split at h <;> (try split at h) <;> first | (cases h; omega) | cases h
theorem ss_setIx {i : Nat} {x : Str} {ix : PySem.Expr} {mx : M D} {p2 p3 : Pos} (ha : Sa B T Γ k c a ma) (hx : Sa B T Γ k c ix mx) (hN : c.N[i]? = some x) (hv : visB c.sc x = true) (hd : noDebug x = true) (hn : notComp a = true) (hp : plainIx ix = true) :
    Ss B T Γ k c (.Assign [.Subscript (.Name x p2) ix p3] a pos) (do let x ← ma; let _ ← getB i; let k ← mx; let n ← liftO (asInt k); setAt i n x; M.pure .nx) := fun X x0 =>
  PSi (ps_asg (ha X x0.x) (pg_sub (pe_var (i := i) (by rw [x0.x.N]; exact hN) (by rw [x0.x.sc]; exact vis_of hv) (nd1 hd) (nd2 hd)) (hx X x0.x) set_list (by intro v; cases ix <;> first | rfl | cases hp)) (swapsSole_not hn) (stores_name rfl) (assignEach_one rfl)) fun De σ H ⟨F, ρ, en, S, rp, g⟩ => by
  refine ⟨F, ρ, en, S, rp, (GoodS.bindE g rp).mono ?_⟩
  rintro v H1 ⟨F1, ρ1, e1, S1, d, rp1, m1, r1, g1⟩
  obtain ⟨w, dw, hw, _, g2⟩ := getB_ok rp1 g1
  refine ⟨w, hw, F1, ρ1, e1, S1, rp1, (GoodS.bindE g2 rp1).mono ?_⟩
  rintro kv H2 ⟨F2, ρ2, e2, S2, dk, rp2, m2, r2, g3⟩
  have r1' : At B.G F2 ρ2 H2 v d := RA.later (Hb := H2) rp1 m2 r1
  obtain ⟨n, hn, g4⟩ := GoodS.lift g3
  cases dk with
  | int n' =>
    obtain rfl : n' = n := Option.some.inj hn
    cases (show At _ _ _ _ _ _ from r2)
    have g5 : GoodS B F2 ρ2 H2 (M.bind (setAt i n' d) (fun _ => M.pure Fl.nx) e2 S2) De := g4
    unfold M.bind setAt at g5
    cases he : e2[i]? with
    | none => rw [he] at g5; exact g5.elim
    | some s =>
      rw [he] at g5
      obtain ⟨ov, h1, h2⟩ := rp2.slot i s he
      rw [hw] at h1
      cases h1
      cases s with
      | emp => exact g5.elim
      | thk => exact g5.elim
      | exn _ => exact g5.elim
      | val dd =>
        cases dd with
        | ref cI =>
          simp only at g5
          cases hS : S2[cI]? with
          | none => rw [hS] at g5; exact g5.elim
          | some l =>
            rw [hS] at g5
            simp only at g5
            cases hj : ixN l.length n' with
            | none => rw [hj] at g5; exact g5.elim
            | some j =>
              rw [hj] at g5
              obtain ⟨p, xs, q1, q2, q3⟩ := rp2.st.sto cI l hS
              obtain ⟨v', q4, q5⟩ := h2
              cases q4
              cases q5 with
              | ref q6 =>
                rw [q1] at q6
                cases q6
                obtain ⟨rp3, st3⟩ := rp2.cell q1 (q3.set j r1')
                exact ⟨p, xs, n', j, rfl, rfl, q2, by rw [q3.length]; exact hj, g5 _ _ _ _ st3 rp3⟩
        | _ => exact g5.elim
      | own l =>
        simp only at g5
        cases hj : ixN l.length n' with
        | none => rw [hj] at g5; exact g5.elim
        | some j =>
          rw [hj] at g5
          obtain ⟨p, xs, h3, h4, h5, h6, h7⟩ := h2
          cases h3
          obtain ⟨rp3, st3⟩ := rp2.mut he hw (h5.set j r1')
          exact ⟨p, xs, n', j, rfl, rfl, h4, by rw [h5.length]; exact hj, g5 _ _ _ _ st3 rp3⟩
  | _ => cases hn
end
end Eng

set_option maxHeartbeats 4000000
/-! THE ENGINE, part P: append, new cells, names set by comprehensions, several names at once, raise. -/
namespace Eng
open PySem PySem.Spec L2 PyProof.Rows
section
variable {B : Bd} {T : Tab} {Γ : Gm} {k : Nat} {c : Ctx} {X : Cx} {e a b a3 : PySem.Expr} {ma mb mc m : M D} {pos : Pos} {es : List PySem.Expr} {ml : M (List D)}
/-! ### append -/
theorem few_of {e : PySem.Expr} {env : PySem.Env} {cpos : Pos} (h : notStar e = true) : ((backTo cpos (starEach [e] env)).all (fun x => !x.1) && (backToKw cpos (keywordEach [] env)).all (fun x => x.1.isSome)
      && decide (([e] : List PySem.Expr).length + ([] : List Keyword).length + (if ([] : List Keyword).isEmpty then 0 else 1) < 30)) = true := by
  rw [star_cons h]
  rfl
theorem ss_app {i : Nat} {x : Str} {p2 apos cpos : Pos} (ha : Sa B T Γ k c a ma) (hN : c.N[i]? = some x) (hv : visB c.sc x = true) (hd : noDebug x = true) (hs : notStar a = true) (hline : (apos.endLine == cpos.line) = true) :
    Ss B T Γ k c (.Expr (.Call (.Attribute (.Name x p2) ("append" : Str) apos) [a] [] cpos) pos) (do let l ← getB i; let _ ← liftO (asLst l); let x ← ma; appAt i x; M.pure .nx) := fun X x0 =>
  PSi (ps_expr (pe_bm (es := []) F.plainAttrs_list F.slot_list_append (by rfl) mt_append (pe_var (i := i) (by rw [x0.x.N]; exact hN) (by rw [x0.x.sc]; exact vis_of hv) (nd1 hd) (nd2 hd)) (pa_cons (ha X x0.x) pa_nil (star_cons hs)) rfl (few_of hs) hline (star_cons hs) rfl) rfl) fun De σ H ⟨F, ρ, en, S, rp, g⟩ => by
  obtain ⟨w, dw, hw, rw0, g2⟩ := getB_ok rp g
  obtain ⟨l0, hl0, g2'⟩ := GoodS.lift g2
  refine ⟨w, hw, ?_, F, ρ, en, S, rp, ?_⟩
  · cases dw with
    | lst l =>
      obtain ⟨p, xs, h1, h2, h3⟩ := RB.lst rw0
      subst h1
      exact .inl ⟨rfl, xs, by rw [x0.x.K]; exact h2.sq⟩
    | _ => cases hl0
  · refine (GoodS.bindE g2' rp).mono ?_
    rintro v H1 ⟨F1, ρ1, e1, S1, d, rp1, m1, r1, g3⟩
    have g5 : GoodS B F1 ρ1 H1 (M.bind (appAt i d) (fun _ => M.pure Fl.nx) e1 S1) De := g3
    unfold M.bind appAt at g5
    cases he : e1[i]? with
    | none => rw [he] at g5; exact g5.elim
    | some s =>
      rw [he] at g5
      obtain ⟨ov, h1, h2⟩ := rp1.slot i s he
      rw [hw] at h1
      cases h1
      cases s with
      | emp => exact g5.elim
      | thk => exact g5.elim
      | exn _ => exact g5.elim
      | val dd => exact g5.elim
      | own l =>
        simp only at g5
        by_cases hz : l.length < sizeLine
        · rw [decide_eq_true hz] at g5
          obtain ⟨p, xs, h3, h4, h5, h6, h7⟩ := h2
          cases h3
          obtain ⟨rp3, st3⟩ := rp1.mut he hw (h5.append (.cons r1 .nil))
          exact ⟨p, xs, v, rfl, rfl, h4, by rw [h5.length]; exact hz, g5 _ _ _ _ st3 rp3⟩
        · rw [decide_eq_false hz] at g5
          exact g5.elim
/-! ### return [..] that is to be changed by others -/
theorem ss_retC {p2 : Pos} (hl : Sl B T Γ k c es ml) : Ss B T Γ k c (.Return (some (.List es p2)) pos) (do let ds ← ml; let l ← liftO ((dlst ds).bind asLst); let x ← cellM l; M.pure (.rt x)) := fun X x0 =>
  PSi (ps_ret (pe_lst (hl X x0.x))) fun De σ H ⟨F, ρ, en, S, rp, g⟩ => by
  refine ⟨F, ρ, en, S, rp, (GoodS.bindE (R := RL B) g rp).mono ?_⟩
  rintro vs H1 ⟨F1, ρ1, e1, S1, ds, rp1, m1, r1, g1⟩
  obtain ⟨l, hd, g2⟩ := GoodS.lift g1
  obtain ⟨d, h1, h2⟩ := Option.bind_eq_some_iff.mp hd
  obtain ⟨h3, h4⟩ := dlst_of h1
  subst h4
  cases h2
  refine ⟨by rw [AtL.length r1]; exact h3, fun p hp => ?_⟩
  obtain ⟨rp2, st2⟩ := rp1.cellNew hp r1
  refine g2 _ _ _ _ st2 rp2 (.ref p) (.ref ?_)
  rw [rp1.st.len, List.getElem?_append_right (Nat.le_refl _), Nat.sub_self]
  rfl
/-! ### name = [.. for ..] on one line -/
def swapsC (sc : Scope) (y : Str) (l1 l2 : Nat) (scope : Scope) : Bool := (sc.names.lookup y == some .local) && (l1 == l2) && !(scope.names.any fun (n, k) => n == y && (k == .local || k == .cell))
def RV (B : Bd) : Bool → Rel D V
  | true => RF B
  | false => RA B
instance {B : Bd} {fl : Bool} : Anti (RV B fl) := by cases fl <;> (unfold RV; infer_instance)
def putE (en : Env) (i : Nat) : Bool → D → Option Env
  | true, .lst l => some (en.set i (.own l))
  | true, _ => none
  | false, d => some (en.set i (.val d))
theorem putM_ok {i : Nat} {fl : Bool} {d : D} {De : Ends} {F ρ H} {en : Env} {S : Sto} {f : Unit → M Fl} (g : GoodS B F ρ H ((putM (i, fl) d >>= f : M Fl) en S) De) : ∃ e', putE en i fl d = some e' ∧ GoodS B F ρ H (f () e' S) De := by
  cases fl with
  | true =>
    cases d with
    | lst l => exact ⟨_, rfl, g⟩
    | _ => exact g.elim
  | false => exact ⟨_, rfl, g⟩
theorem RV.put {i : Nat} {fl : Bool} {Hb F ρ H} {σ : L2.St} {en e' : Env} {S : Sto} {v : V} {d : D} (rp : Rep B.G B.N F ρ H σ en S) (h : RV B fl Hb F ρ H σ en v d) (he : putE en i fl d = some e') : Rep B.G B.N F ρ H (σ.set i (some v)) e' S := by
  cases fl with
  | true =>
    cases d with
    | lst l => cases he; exact RF.setO rp h
    | _ => cases he
  | false => cases he; exact rp.setV h
theorem RV.later {fl : Bool} {Hb F ρ H} {σ : L2.St} {en e1 : Env} {S : Sto} {v : V} {d : D} {F1 ρ1 H1} (rp : Rep B.G B.N F ρ H σ en S) (m : Mono σ en F ρ H e1 F1 ρ1 H1) (h : RV B fl Hb F ρ H σ en v d) : RV B fl Hb F1 ρ1 H1 σ e1 v d := by
  cases fl with
  | true => exact RF.later rp m h
  | false => exact RA.later (Hb := Hb) rp m h
/-- a second value stands beside the first that was put -/
theorem RV.beside {i : Nat} {fl fl2 : Bool} {Hb Hb2 F ρ H} {σ : L2.St} {en e' : Env} {v v2 : V} {d d2 : D} (h : RV B fl Hb F ρ H σ en v d) (h2 : RV B fl2 Hb2 F ρ H σ en v2 d2) (hh : ∀ p, v = .ref p → fl = true → ¬ Frh Hb2 p) (he : putE en i fl d = some e') :
    RV B fl2 Hb2 F ρ H (σ.set i (some v)) e' v2 d2 := by
  cases fl2 with
  | false => exact h2
  | true =>
    obtain ⟨p, xs, ds, q1, q2, q3, q4, q5, q6, q7, q8, q9⟩ := h2
    refine ⟨p, xs, ds, q1, q2, q3, q4, q5, q6, fun z => ?_, q8, q9⟩
    obtain ⟨j, l', z1, z2⟩ := z
    cases fl with
    | true =>
      cases d with
      | lst l =>
        cases he
        rcases setO_own z1 with ⟨w1, w2⟩ | ⟨w1, w2⟩
        · subst w1
          obtain ⟨p', xs', ds', y1, y2, y3, _⟩ := h
          subst y1
          by_cases hl : j < σ.length
          · rw [List.getElem?_set_self hl] at z2
            cases z2
            exact hh _ rfl rfl q9
          · rw [List.getElem?_eq_none (by simpa using hl)] at z2; cases z2
        · rw [List.getElem?_set_ne (Ne.symm w1)] at z2
          exact q7 ⟨j, l', w2, z2⟩
      | _ => cases he
    | false =>
      cases he
      obtain ⟨w1, w2⟩ := set_own z1
      rw [List.getElem?_set_ne (Ne.symm w2)] at z2
      exact q7 ⟨j, l', w1, z2⟩
/-- a value of either kind -/
def Sv (B : Bd) (T : Tab) (Γ : Gm) (k : Nat) (c : Ctx) (fl : Bool) (e : PySem.Expr) (m : M D) : Prop := ∀ X, XOk B T Γ k c X → PE X e (tR B (RV B fl) m)
theorem Sa.v (h : Sa B T Γ k c e m) : Sv B T Γ k c false e m := h
theorem Sf.v (h : Sf B T Γ k c e m) : Sv B T Γ k c true e m := h
def notLoc (sc : Scope) (x : Str) (a : PySem.Expr) : Bool := notComp a || !(sc.names.lookup x == some .local)
theorem swaps_cell {x : Str} {p2 : Pos} {l : Nat} {env : PySem.Env} (h : env.scope.names.lookup x ≠ some .local) : swapsWithSole [.Name x p2] a l env = pure false := by
  have hk : (env.kindOf x == some .local) = false := by
    unfold Env.kindOf
    cases hb : (env.scope.names.lookup x == some NameKind.local) with
    | false => rfl
    | true => exact absurd (by simpa using hb) h
  unfold swapsWithSole
  cases a <;> first | exact swaps_not rfl | (unfold swapsWith; simp only [hk, Bool.and_false, Bool.false_and]; try rfl)
theorem swaps_notLoc {sc : Scope} {x : Str} {p2 : Pos} {l : Nat} {env : PySem.Env} (hs : env.scope = sc) (h : notLoc sc x a = true) : swapsWithSole [.Name x p2] a l env = pure false := by
  unfold notLoc at h
  rcases Bool.or_eq_true_iff.mp h with h | h
  · exact swapsSole_not h
  · refine swaps_cell ?_
    rw [hs]
    intro q
    rw [q] at h
    cases h
theorem ss_put {i : Nat} {x : Str} {p2 : Pos} {fl : Bool} (ha : Sv B T Γ k c fl a ma) (hN : c.N[i]? = some x) (hl : locB c.sc x = true) (hf : c.fnOk x = true ∨ c.sc.names.lookup x = some .local) (hn : notLoc c.sc x a = true) :
    Ss B T Γ k c (.Assign [.Name x p2] a pos) (do let x ← ma; putM (i, fl) x; M.pure .nx) := fun X x0 =>
  PSi (ps_asg (ha X x0.x) (pg_name (i := i) x0.x.nd (by rw [x0.x.N]; exact hN) (by rw [x0.x.sc]; exact loc_of hl) (by rw [x0.x.sc]; exact hf.imp (x0.x.fn x) id)) (swaps_notLoc x0.x.sc hn) (stores_name rfl) (assignEach_one rfl)) fun De σ H ⟨F, ρ, en, S, rp, g⟩ => by
  refine ⟨F, ρ, en, S, rp, (GoodS.bindE g rp).mono ?_⟩
  rintro v H1 ⟨F1, ρ1, e1, S1, d, rp1, m1, r1, g1⟩
  obtain ⟨e2, he, g2⟩ := putM_ok g1
  exact GoodS.val (fl := Fl.nx) g2 (r1.put rp1 he)
theorem ss_setLc {i : Nat} {y : Str} {py : Pos} {elt tg iter : PySem.Expr} {ifs : List PySem.Expr} {scope : Scope} {own : List (Str × Nat)} {t : Tg} {mi : M (List D)} {mt : M Bool} {me : M D} {fl : Bool} {p2 : Pos} (hc : c.calm = true) (hi : Sj B T Γ k c tg iter mi) (ok : blkC c.N c.sc scope own = true)
    (hg : St_ B.nox T Γ k (blkCtx c scope) tg t) (ht : Sts B.nox T Γ k (blkCtx c scope) ifs mt) (he : Sa B.nox T Γ k (blkCtx c scope) elt me) (hix : ∀ i ∈ t.idx, i ∈ own.map (·.2)) (hs : notSet iter = true)
    (hN : c.N[i]? = some y) (hsw : swapsC c.sc y py.line p2.line scope = true) :
    Ss B T Γ k c (.Assign [.Name y py] (.ListComp elt [⟨tg, iter, ifs, 0⟩] scope p2) pos) (do let x ← compM t (own.map (·.2)) mi mt me; putM (i, fl) x; M.pure .nx) := fun X x0 => by
  unfold swapsC at hsw
  simp only [Bool.and_eq_true, beq_iff_eq, Bool.not_eq_true'] at hsw
  obtain ⟨⟨h1, h2⟩, h3⟩ := hsw
  have hyl : X.env.scope.names.lookup y = some .local := by rw [x0.x.sc]; exact h1
  refine PSi (ps_setLc (i := i) (by rw [x0.x.calm]; exact hc) x0.x.nd (by rw [x0.x.N]; exact hN) hyl (sw_true x0.fk hyl (by rw [h2]; exact beq_self_eq_true _) h3) (hi X x0.x) (blkOk_by (own := own) (by rw [x0.x.N, x0.x.sc]; exact ok)) (fun s H C cl fp => hg _ x0.x.blk) (fun s H C cl fp => ht _ x0.x.blk) (fun s H C cl fp => he _ x0.x.blk)
    (foldedSet_ok (by cases iter <;> first | rfl | cases hs))) fun De σ H ⟨F, ρ, en, S, rp, g⟩ => ?_
  refine comp_imp (B := B) (t := t) hix ⟨F, ρ, en, S, rp, (GoodS.bindE (R := RF B) g rp).mono ?_⟩
  rintro v H1 ⟨F1, ρ1, e1, S1, d, rp1, m1, r1, g1⟩
  obtain ⟨e2, hp, g2⟩ := putM_ok g1
  cases fl with
  | true => exact GoodS.val (fl := Fl.nx) g2 (RV.put (fl := true) rp1 r1 hp)
  | false =>
    cases hp
    obtain ⟨p, xs, ds, q1, q2, q3, q4, q5, q6, q7, q8, q9⟩ := r1
    obtain ⟨rp2, sub, at2⟩ := rp1.frz q3 q4 q5 q6 q8 (e' := e1) (.inl ⟨rfl, q7⟩)
    subst q1 q2
    have sy : Stays F1 (fun b => F1 b ∨ b = p) ρ1 ρ1 H1 H1 := ⟨fun _ h => .inl h, List.prefix_rfl, fun _ _ _ h _ => h⟩
    exact g2 _ _ _ _ sy (rp2.setV at2)
/-! ### a, b = x, y -/
def swap2 (sc : Scope) (x y : Str) (px py : Pos) (a b : PySem.Expr) : Bool := (sc.names.lookup x == some .local) && (sc.names.lookup y == some .local) && (px.line == py.line) && !(x == y) && notStar a && notStar b && !([a, b].all (foldedForSure 8)) && !([a, b].all (constantsAlone 8))
theorem notStar_any {a b : PySem.Expr} (h1 : notStar a = true) (h2 : notStar b = true) : (([a, b] : List PySem.Expr).any fun | .Starred .. => true | _ => false) = false := by
  cases a <;> first | (cases h1; done) | (cases b <;> first | (cases h2; done) | rfl)
theorem swap2_ok {env : PySem.Env} {x y : Str} {px py pt pt2 : Pos} {kt k2 : Nat} (hk : env.scope.kind = .function) (h : swap2 env.scope x y px py a b = true) :
    swappedStores [.Tuple [.Name x px, .Name y py] kt pt] (.Tuple [a, b] k2 pt2) env = pure (some [x, y]) ∧ env.scope.names.lookup x = some .local ∧ env.scope.names.lookup y = some .local := by
  unfold swap2 at h
  simp only [Bool.and_eq_true, beq_iff_eq, Bool.not_eq_true', beq_eq_false_iff_ne] at h
  obtain ⟨⟨⟨⟨⟨⟨⟨h1, h2⟩, h3⟩, h4⟩, h5⟩, h6⟩, h7⟩, h8⟩ := h
  refine ⟨?_, h1, h2⟩
  have hb : env.blockKind = .function := by unfold Env.blockKind; rw [hk]; rfl
  have k1 : env.kindOf x = some .local := h1
  have k2' : env.kindOf y = some .local := h2
  have hs := notStar_any h5 h6
  have hx : (x == y) = false := beq_eq_false_iff_ne.mpr h4
  have ed : ([x, y] : List Str).eraseDups = [x, y] := by
    have hyx : (y == x) = false := beq_eq_false_iff_ne.mpr fun z => h4 z.symm
    simp [List.eraseDups_cons, hyx]
  have hnk : (some NameKind.local == some NameKind.local) = true := rfl
  have hl : (py.line == py.line) = true := beq_self_eq_true _
  have hfn : (ScopeKind.function != ScopeKind.function) = false := rfl
  unfold swappedStores
  simp only [List.length_cons, List.length_nil, hb, Expr.pos, List.filterMap_cons, List.filterMap_nil, List.head?_cons, Option.map_some, Option.getD_some, k1, k2', h3, ed, h7, h8, hnk, hl, hfn, Bool.and_self, ite_true]
  refine (if_neg (by decide)).trans ((if_neg fun z => ?_).trans ((if_neg (by decide)).trans ?_))
  · have z' : (([a, b] : List PySem.Expr).any fun | .Starred .. => true | _ => false) = true := z
    rw [hs] at z'; cases z'
  · rfl
theorem ss_par {i j : Nat} {x y : Str} {px py pt pt2 : Pos} {kt k2 : Nat} {fl fl2 : Bool} (hc : c.calm = true) (ha : Sv B T Γ k c fl a ma) (hb : Sv B T Γ k c fl2 b mb) (hN : c.N[i]? = some x) (hN2 : c.N[j]? = some y) (hij : i ≠ j) (hsw : swap2 c.sc x y px py a b = true) (hs : notStar a = true) (hs2 : notStar b = true) :
    Ss B T Γ k c (.Assign [.Tuple [.Name x px, .Name y py] kt pt] (.Tuple [a, b] k2 pt2) pos) (do let x ← ma; let y ← mb; putM (i, fl) x; putM (j, fl2) y; M.pure .nx) := fun X x0 => by
  obtain ⟨q1, q2, q3⟩ := swap2_ok (env := X.env) (x := x) (y := y) (px := px) (py := py) (pt := pt) (pt2 := pt2) (kt := kt) (k2 := k2) (a := a) (b := b) x0.fk (by rw [x0.x.sc]; exact hsw)
  refine PSi (ps_par (i := i) (j := j) (by rw [x0.x.calm]; exact hc) x0.x.nd (by rw [x0.x.N]; exact hN) (by rw [x0.x.N]; exact hN2) hij q2 q3 (pa_cons (ha X x0.x) (pa_cons (hb X x0.x) pa_nil (star_cons hs2)) (star_cons hs)) q1 rfl) fun De σ H ⟨F, ρ, en, S, rp, g⟩ => ?_
  refine ⟨F, ρ, en, S, rp, (GoodS.bindE g rp).mono ?_⟩
  rintro v H1 ⟨F1, ρ1, e1, S1, d, rp1, m1, r1, g1⟩
  refine ⟨F1, ρ1, e1, S1, rp1, (GoodS.bindE g1 rp1).mono ?_⟩
  rintro v2 H2 ⟨F2, ρ2, e2, S2, d2, rp2, m2, r2, g2⟩
  have r1' := RV.later rp1 m2 r1
  obtain ⟨e3, he, g3⟩ := putM_ok g2
  obtain ⟨e4, he2, g4⟩ := putM_ok g3
  have r2' := RV.beside r1' r2 (fun p hv hf => by
    subst hv hf
    obtain ⟨p', xs, ds, w1, w2, w3, _⟩ := r1
    cases w1
    exact fun z => z.no w3 rfl) he
  exact ⟨v, v2, rfl, GoodS.val (fl := Fl.nx) g4 (RV.put (RV.put rp2 r1' he) r2' he2)⟩
/-! ### raise -/
theorem pmk_own0 {X : Cx} {C : Addr} {bmB : List Value} {Bn newId initId : String} {x : Str} {p pos : Pos} (F : ExcBaseFacts Bn newId initId bmB) (q : PySem.W.excIn X.K C bmB newId = true) (gC : X.mg x = some (.ref C)) (kC : PySem.W.keepIn X.K (.ref C) = true) (r : Raises X (.ref C)) (hg : Gl X x)
    (hdb : (x == ("__debug__" : Str)) = false := by decide) : PMk X (.Call (.Name x p) [] [] pos) (fun _ H Q => Q (.ref C) none H) := by
  intro pins s σ H Q I h
  refine wpAny_Call_Name_kw (ld_glob I hg gC ?_ hdb)
  refine PySem.W.callWith_K0 I.kIn kC ?_
  show wpAny _ _ (call (.ref C) []) _ _ _
  obtain ⟨bm, N, nm, qn, bs, hdct, sn, sub, ab, col, dd, k0, k1, k2, k3, k5, mN, hC, hN, hni, T⟩ := exc_obj I.kIn q
  refine wpAny_call_exc_subT F T hC hN hni (fun h' e hm => ?_) (by show 0 ≤ sizeLine; exact Nat.zero_le _)
  exact mk_of I hm r h (I.hok.gone hm.new)
theorem ss_raise {x : Str} {p p2 : Pos} (hc : c.calm = true) (hx : T.exc.contains x = true) (hg : globB c.sc x = true) (hd : noDebug x = true) : Ss B T Γ k c (.Raise (some (.Call (.Name x p) [] [] p2)) none pos) (fun e S => .exc ⟨x, none⟩ e S) := fun X x0 => by
  obtain ⟨h1, h2, h3, h4, h5⟩ := x0.x.gl.exc x (List.contains_iff_mem.mp hx)
  rw [← x0.x.K] at h1 h2 h3 h4 h5
  refine PSi (ps_raise (by rw [x0.x.calm]; exact hc) x0.x.tk (pmk_own0 F.excBase_ValueError h2 h1 h3 (raises_own h4 h5) (gl_of x0.x.sc hg) (nd1 hd))) fun De σ H ⟨F, ρ, en, S, rp, g⟩ => ?_
  refine g F ρ H σ _ none .refl rp ?_
  rw [x0.x.K]
  exact ⟨rfl, rfl⟩
end
end Eng

set_option maxHeartbeats 4000000
/-! THE ENGINE, part Pb: try .. except C as e. -/
namespace Eng
open PySem PySem.Spec L2 PyProof.Rows
def Ent.withX (N : Ent) (a : Addr) (x : Str) : Ent := { N with exn := some (a, x) }
def Bd.withX (B : Bd) (a : Addr) (x : Str) : Bd := { B with N := B.N.withX a x, W := fun _ _ _ _ => False }
section
variable {G : Gl0} {N : Ent} {F : Addr → Prop} {ρ : List Addr} {H : Hp} {σ : L2.St} {en : Env} {S : Sto} {i : Nat} {a : Addr} {x : Str}
theorem setX_own {s0 : Slot} {j : Nat} {l : List D} (hs : ∀ l, s0 ≠ .own l) (h : (en.set i s0)[j]? = some (Slot.own l)) : en[j]? = some (Slot.own l) ∧ j ≠ i := by
  by_cases hj : j = i
  · subst hj
    by_cases hl : j < en.length
    · rw [List.getElem?_set_self hl] at h; exact absurd (Option.some.inj h) (hs l)
    · rw [List.getElem?_eq_none (by simpa using hl)] at h; cases h
  · rw [List.getElem?_set_ne (Ne.symm hj)] at h
    exact ⟨h, hj⟩
/-- the exception at hand has a name -/
theorem Rep.inX (rp : Rep G N F ρ H σ en S) (hn : N.exn = none) : Rep G (N.withX a x) F ρ H (σ.set i (some (.ref a))) (en.set i (.exn x)) S := by
  refine ⟨rp.st, rp.ext, by rw [List.length_set, List.length_set]; exact rp.len, fun j s hs => ?_, fun b ⟨j, l, h1, h2⟩ => ?_, fun j j' l l' b h1 h2 h3 h4 => ?_⟩
  · by_cases hj : j = i
    · subst hj
      by_cases hl : j < en.length
      · rw [List.getElem?_set_self hl] at hs
        cases hs
        exact ⟨_, List.getElem?_set_self (by rw [← rp.len]; exact hl), a, rfl, rfl⟩
      · rw [List.getElem?_eq_none (by simpa using hl)] at hs; cases hs
    · rw [List.getElem?_set_ne (Ne.symm hj)] at hs
      obtain ⟨ov, q1, q2⟩ := rp.slot j s hs
      refine ⟨ov, by rw [List.getElem?_set_ne (Ne.symm hj)]; exact q1, ?_⟩
      cases s with
      | exn y => obtain ⟨b, _, z⟩ := q2; rw [hn] at z; cases z
      | _ => exact q2
  · obtain ⟨q1, q2⟩ := setX_own (fun l z => by cases z) h1
    rw [List.getElem?_set_ne (Ne.symm q2)] at h2
    exact rp.own0 b ⟨j, l, q1, h2⟩
  · obtain ⟨q1, q2⟩ := setX_own (fun l z => by cases z) h1
    obtain ⟨q3, q4⟩ := setX_own (fun l z => by cases z) h2
    rw [List.getElem?_set_ne (Ne.symm q2)] at h3
    rw [List.getElem?_set_ne (Ne.symm q4)] at h4
    exact rp.dist j j' l l' b q1 q3 h3 h4
theorem noExn_own {j : Nat} {l : List D} (h : (en.map noExn)[j]? = some (Slot.own l)) : en[j]? = some (Slot.own l) := by
  rw [List.getElem?_map] at h
  obtain ⟨s, h1, h2⟩ := Option.map_eq_some_iff.mp h
  cases s <;> first | (cases h2; done) | (cases h2; exact h1)
/-- it is gone -/
theorem Rep.outX (rp : Rep G (N.withX a x) F ρ H σ en S) : Rep G N F ρ H (σ.set i none) ((en.set i .emp).map noExn) S := by
  refine ⟨rp.st, rp.ext, by rw [List.length_map, List.length_set, List.length_set]; exact rp.len, fun j s hs => ?_, fun b ⟨j, l, h1, h2⟩ => ?_, fun j j' l l' b h1 h2 h3 h4 => ?_⟩
  · rw [List.getElem?_map] at hs
    obtain ⟨s', hs', e⟩ := Option.map_eq_some_iff.mp hs
    by_cases hj : j = i
    · subst hj
      by_cases hl : j < en.length
      · rw [List.getElem?_set_self hl] at hs'
        cases hs'
        cases e
        exact ⟨_, List.getElem?_set_self (by rw [← rp.len]; exact hl), True.intro⟩
      · rw [List.getElem?_eq_none (by simpa using hl)] at hs'; cases hs'
    · rw [List.getElem?_set_ne (Ne.symm hj)] at hs'
      obtain ⟨ov, q1, q2⟩ := rp.slot j s' hs'
      refine ⟨ov, by rw [List.getElem?_set_ne (Ne.symm hj)]; exact q1, ?_⟩
      cases s' with
      | exn y => cases e; exact True.intro
      | _ => cases e; exact q2
  · obtain ⟨q1, q2⟩ := setX_own (fun l z => by cases z) (noExn_own h1)
    rw [List.getElem?_set_ne (Ne.symm q2)] at h2
    exact rp.own0 b ⟨j, l, q1, h2⟩
  · obtain ⟨q1, q2⟩ := setX_own (fun l z => by cases z) (noExn_own h1)
    obtain ⟨q3, q4⟩ := setX_own (fun l z => by cases z) (noExn_own h2)
    rw [List.getElem?_set_ne (Ne.symm q2)] at h3
    rw [List.getElem?_set_ne (Ne.symm q4)] at h4
    exact rp.dist j j' l l' b q1 q3 h3 h4
end
section
variable {B : Bd} {T : Tab} {Γ : Gm} {k : Nat} {c : Ctx} {X : Cx} {e a b : PySem.Expr} {ma mb : M D} {pos : Pos}
theorem GOk.wx {P : Program} {w : World} {mg : Str → Option Value} {base : Heap} {B2 : Bd} (g : GOk B T Γ k P w mg base) (h : B2.G = B.G) : GOk B2 T Γ k P w mg base :=
  ⟨g.free, by rw [h]; exact g.cst, by rw [h]; exact g.nm, by rw [h]; exact g.fns, by rw [h]; exact g.exc, g.len, by rw [h]; exact g.mn, g.sub, by rw [h]; exact g.tri⟩
/-- isinstance(e, C), e the exception at hand -/
theorem pe_isE {ax : Addr} {oe : Obj} {pn : List (Addr × Obj)} {y ev cn : Str} {i : Nat} {p p2 p3 p4 : Pos} (x0 : XOk B T Γ k c X) (hw : T.wrd ≠ []) (hy : y ∈ T.exc) (hz : Zc (.ref (He.ga B.G.K y)) none oe) (hf : ∃ vs, oe.data = .fields vs)
    (hN : c.N[i]? = some ev) (h : isErr T (errCtx c) "isinstance" [.Name ev p2, .Name cn p3] = true) :
    PE (X.suite ax ((ax, oe) :: pn)) (.Call (.Name "isinstance" p) [.Name ev p2, .Name cn p3] [] p4) (tR (B.withX ax y) (RA (B.withX ax y)) (isEM Γ i cn)) := by
  unfold isErr at h
  simp only [Bool.and_eq_true, decide_eq_true_eq] at h
  obtain ⟨⟨⟨⟨⟨⟨⟨⟨_, _⟩, hfr⟩, hgl⟩, hve⟩, hde⟩, hgc⟩, hdc⟩, hcn⟩ := h
  have sc : X.env.scope = c.sc := x0.sc
  obtain ⟨C, hve2, hall⟩ := x0.gl.tri hw y hy
  rw [← x0.K] at C hve2 hz
  have hfr' : X.mg "isinstance" = none := x0.gl.free _ (List.contains_iff_mem.mp hfr)
  -- the class
  have cls : ∃ (cv : V) (cu : Value) (t : TE), PE (X.suite ax ((ax, oe) :: pn)) (.Name cn p3) t ∧ (∀ σ H Q, Q cv H → t σ H Q) ∧ (∀ u, RelV cv u → u = cu) ∧ PySem.W.kitOne X.K (.ref (He.ga X.K y)) cu = some (T.sub y cn) := by
    rw [Bool.or_eq_true] at hcn
    rcases hcn with hcn | hcn
    · have hc := List.contains_iff_mem.mp hcn
      obtain ⟨m1, _⟩ := x0.gl.exc cn hc
      rw [← x0.K] at m1
      obtain ⟨_, h2⟩ := hall cn hc
      rw [← x0.K] at h2
      exact ⟨.ref (He.ga X.K cn), .ref (He.ga X.K cn), _, pe_glob (v := .ref (He.ga X.K cn)) (gl_of sc hgc) m1 rfl (nd1 hdc), fun σ H Q q => q, fun u r => r, h2⟩
    · rw [Bool.and_eq_true] at hcn
      have ec : cn = "ValueError" := of_decide_eq_true hcn.1
      subst ec
      exact ⟨.ty "ValueError", .type "ValueError", _, pe_bltn (v := .ty "ValueError") (gl_of sc hgc) (x0.gl.free _ (List.contains_iff_mem.mp hcn.2)) (by decide +kernel) rfl (nd3 hdc) (nd1 hdc), fun σ H Q q => q, fun u r => r, hve2⟩
  obtain ⟨cv, cu, t, pt, tq, ru, hk⟩ := cls
  refine PEi (pe_callB (call_isE C hz hf) (gl_of sc hgl) hfr' (by decide +kernel) (pa_cons (pe_var (i := i) (by rw [show (X.suite ax ((ax, oe) :: pn)).N = X.N from rfl, x0.N]; exact hN) (vis_of (by rw [show (X.suite ax ((ax, oe) :: pn)).env.scope = c.sc from sc]; exact hve)) (nd1 hde) (nd2 hde)) (pa_cons pt pa_nil (star_cons rfl)) (star_cons rfl)) (by decide) (by decide) (star_cons rfl) (any_star rfl)) fun σ H Q ⟨F, ρ, en, S, rp, g⟩ => ?_
  unfold isEM at g
  cases he : en[i]? with
  | none => rw [he] at g; exact False.elim g
  | some s =>
    rw [he] at g
    obtain ⟨ov, h1, h2⟩ := rp.slot i s he
    cases s with
    | exn z =>
      obtain ⟨a', h3, h4⟩ := h2
      have h4' : some (ax, y) = some (a', z) := h4
      cases h4'
      subst h3
      refine ⟨_, h1, tq σ H _ ⟨cv, cu, T.sub y cn, rfl, ru, hk, ?_⟩⟩
      have g' : Good (B.withX ax y) σ (RA (B.withX ax y)) F ρ H en (.ok (.bl (Γ.sub y cn)) en S) Q := g
      rw [x0.gl.sub] at g'
      exact g' F ρ H _ .refl rp (.bl _)
    | _ => exact False.elim g
theorem ss_tri {x n : Str} {i : Nat} {body suite : List PySem.Stmt} {b₀ : PySem.Stmt} {np pos' : Pos} {mb mh : M Fl} (hw : T.wrd ≠ []) (hc : c.calm = true) (ht : c.thk = true) (hel : c.err = false ∧ c.lamb = false) (hx : T.exc.contains x = true) (hg : globB c.sc x = true) (hd : noDebug x = true) (hN : c.N[i]? = some n) (hl : c.sc.names.lookup n = some .local)
    (hb : ∀ W, Sss { B with W := W } T Γ k c body mb) (hs : ∀ B, Sss B T Γ k (errCtx c) (b₀ :: suite) mh) :
    Ss B T Γ k c (.Try body [.ExceptHandler (some (.Name x np)) (some n) (b₀ :: suite) pos'] [] [] pos) (tryM mb (fun y => Γ.sub y x) i mh) := fun X x0 => by
  obtain ⟨f1, f2⟩ := x0.fr ht
  obtain ⟨mx, _⟩ := x0.x.gl.exc x (List.contains_iff_mem.mp hx)
  have hcal : X.calm = true := by rw [x0.x.calm]; exact hc
  refine PSi (ps_try_as (c := .ref (He.ga B.G.K x)) (i := i) (Wout := B.W) (tb := fun W => tRS { B with W := W } mb)
      (ts := fun a cls d D σ H => ∃ y, cls = .ref (He.ga B.G.K y) ∧ y ∈ T.exc ∧ d = none ∧ tRS (B.withX a y) mh D σ H) f1 f2 x0.x.nd (by rw [x0.x.N]; exact hN) (by show X.env.scope.names.lookup n = _; rw [x0.x.sc]; exact hl) ⟨gl_of x0.x.sc hg, nd1 hd, .inl mx⟩ x0.x.tk
      (fun W pn xe tk ow => hb W _ ⟨⟨x0.x.K, x0.x.N, x0.x.nd, x0.x.sc, x0.x.calm, x0.x.fn, tk, x0.x.gl.wx rfl, x0.x.room, x0.x.hu, fun h a p p2 q1 q2 q3 pn2 xe2 W2 tk2 => x0.x.thk h a p p2 q1 q2 q3 pn2 xe2 W2 tk2, x0.x.nox, (fun h => by rw [hel.1] at h; cases h), fun h => by rw [hel.2] at h; cases h⟩, fun _ _ => ow, x0.fk, x0.fr⟩)
      (fun a oe cls d pn hz hf => ⟨fun pins s σ H D I ⟨y, ec, hy, ed, h⟩ => ?_⟩)) fun De σ H ⟨F, ρ, en, S, rp, g⟩ => ?_
  · subst ec; subst ed
    refine ((hs (B.withX a y)) (X.suite a ((a, oe) :: pn)) ⟨⟨x0.x.K, x0.x.N, x0.x.nd, x0.x.sc, rfl, x0.x.fn, L2.takes0, x0.x.gl.wx rfl, (fun h => nomatch (show false = true from h)), x0.x.hu, (fun h => nomatch (show false = true from h)), (fun h => nomatch (show false = true from h)), ?_, (fun h => nomatch (show false = true from h))⟩, (fun h => nomatch (show false = true from h)), x0.fk, (fun h => nomatch (show false = true from h))⟩).run pins s σ H D I h
    exact fun _ i ev cn p p2 p3 p4 q1 q2 => pe_isE x0.x hw hy hz hf q1 q2
  · refine ⟨F, ρ, en, S, rp, ?_⟩
    unfold tryM at g
    cases hm : mb en S with
    | ok fl e' S' => rw [hm] at g; exact g
    | fail => rw [hm] at g; exact g
    | exc xx e' S' =>
      rw [hm] at g
      simp only at g
      intro F' ρ' H' σ' cls od st rp' ev
      obtain ⟨ec, eo⟩ := ev
      cases ha : xx.arg with
      | some p => rw [ha] at g; exact False.elim g
      | none =>
        rw [ha] at g eo
        cases hct : Γ.sub xx.cls x with
        | false => rw [hct] at g; exact False.elim g
        | true =>
          rw [hct] at g
          simp only at g
          have hT : T.sub xx.cls x = true := by rw [← x0.x.gl.sub]; exact hct
          have hy : xx.cls ∈ T.exc := by
            unfold Tab.sub at hT
            rw [Bool.and_eq_true] at hT
            exact List.contains_iff_mem.mp hT.1
          obtain ⟨_, _, hall⟩ := x0.x.gl.tri hw _ hy
          obtain ⟨hexm, _⟩ := hall x (List.contains_iff_mem.mp hx)
          rw [hT] at hexm
          refine ⟨true, by rw [ec, x0.x.K]; exact hexm, fun _ a _ => ⟨xx.cls, ec, hy, eo, F', ρ', e'.set i (.exn xx.cls), S', rp'.inX (x0.x.nox hc), ?_⟩, fun z => nomatch z⟩
          cases hmh : mh (e'.set i (.exn xx.cls)) S' with
          | exc _ _ _ => rw [hmh] at g; exact False.elim g
          | fail => rw [hmh] at g; exact False.elim g
          | ok fl e2 S2 =>
            rw [hmh] at g
            intro F3 ρ3 H3 σ3 st3 rp3
            have := g F3 ρ3 H3 (σ3.set i none) (st.trans st3) rp3.outX
            cases fl <;> exact this
end
end Eng

set_option maxHeartbeats 4000000
/-! THE ENGINE, part Pc: several names at once, extend. -/
namespace Eng
open PySem PySem.Spec L2 PyProof.Rows
theorem bindA {α β γ : Type} {m : M α} {g : α → M β} {f : β → M γ} : ((m >>= g) >>= f : M γ) = (m >>= fun x => g x >>= f) := by
  funext en S
  show M.bind (M.bind m g) f en S = M.bind m (fun x => M.bind (g x) f) en S
  unfold M.bind
  cases m en S <;> rfl
section
variable {B : Bd} {T : Tab} {Γ : Gm} {k : Nat} {c : Ctx} {X : Cx} {e a b a3 : PySem.Expr} {ma mb mc m : M D} {pos : Pos} {es : List PySem.Expr} {ml : M (List D)}
/-- several values: some are own lists -/
inductive RVL (B : Bd) (F : Addr → Prop) (ρ : List Addr) (H : Hp) (σ : L2.St) (en : Env) : List Bool → Hp → List V → List D → Prop
  | nil {Hb : Hp} : RVL B F ρ H σ en [] Hb [] []
  | cons {fl : Bool} {fls : List Bool} {Hb Hb1 : Hp} {v : V} {vs : List V} {d : D} {ds : List D} : RV B fl Hb F ρ H σ en v d → (∀ a, Frh Hb1 a → Frh Hb a) → (∀ p, v = .ref p → fl = true → ¬ Frh Hb1 p) → RVL B F ρ H σ en fls Hb1 vs ds →
      RVL B F ρ H σ en (fl :: fls) Hb (v :: vs) (d :: ds)
theorem RVL.len {F ρ H} {σ : L2.St} {en : Env} {fls Hb vs ds} (h : RVL B F ρ H σ en fls Hb vs ds) : vs.length = fls.length := by
  induction h with
  | nil => rfl
  | cons _ _ _ _ ih => rw [List.length_cons, List.length_cons, ih]
theorem RVL.later {F ρ H} {σ : L2.St} {en : Env} {S : Sto} {fls Hb vs ds F1 ρ1 H1 e1} (rp : Rep B.G B.N F ρ H σ en S) (m : Mono σ en F ρ H e1 F1 ρ1 H1) (h : RVL B F ρ H σ en fls Hb vs ds) : RVL B F1 ρ1 H1 σ e1 fls Hb vs ds := by
  induction h with
  | nil => exact .nil
  | cons r t n _ ih => exact .cons (RV.later rp m r) t n ih
theorem RVL.beside {i : Nat} {fl : Bool} {Hb F ρ H} {σ : L2.St} {en e' : Env} {v : V} {d : D} {fls Hb2 vs ds} (h : RV B fl Hb F ρ H σ en v d) (he : putE en i fl d = some e') (r : RVL B F ρ H σ en fls Hb2 vs ds) (hh : ∀ p, v = .ref p → fl = true → ¬ Frh Hb2 p) :
    RVL B F ρ H (σ.set i (some v)) e' fls Hb2 vs ds := by
  induction r with
  | nil => exact .nil
  | cons r t n _ ih => exact .cons (RV.beside h r hh he) t n (ih fun p a b z => hh p a b (t p z))
def setVs (σ : L2.St) : List Nat → List V → L2.St
  | i :: is, v :: vs => setVs (σ.set i (some v)) is vs
  | _, _ => σ
theorem puts_ok {F ρ H} {De : Ends} {S : Sto} {f : Unit → M Fl} : ∀ {xs : List (Nat × Bool)} {σ : L2.St} {en : Env} {Hb vs ds}, Rep B.G B.N F ρ H σ en S → RVL B F ρ H σ en (xs.map (·.2)) Hb vs ds → GoodS B F ρ H ((putMs xs ds >>= f : M Fl) en S) De →
    ∃ e', Rep B.G B.N F ρ H (setVs σ (xs.map (·.1)) vs) e' S ∧ GoodS B F ρ H (f () e' S) De
  | [], σ, en, Hb, vs, ds, rp, r, g => by
    cases r
    exact ⟨en, rp, g⟩
  | (i, fl) :: xs, σ, en, Hb, vs, ds, rp, r, g => by
    cases r with
    | cons r t n rl =>
      rename_i v vs d ds
      rw [show putMs ((i, fl) :: xs) (d :: ds) = (putM (i, fl) d >>= fun _ => putMs xs ds) from rfl, bindA] at g
      obtain ⟨e2, he, g2⟩ := putM_ok g
      exact puts_ok (xs := xs) (RV.put rp r he) (RVL.beside r he rl n) g2
/-- expressions, each as a value or as a new list -/
inductive Svs (B : Bd) (T : Tab) (Γ : Gm) (k : Nat) (c : Ctx) : List Bool → List PySem.Expr → List (M D) → Prop
  | nil : Svs B T Γ k c [] [] []
  | cons {fl fls e es m ms} : Sv B T Γ k c fl e m → notStar e = true → Svs B T Γ k c fls es ms → Svs B T Γ k c (fl :: fls) (e :: es) (m :: ms)
def tVs (B : Bd) : List Bool → List (M D) → TA
  | fl :: fls, m :: ms => tCons (tR B (RV B fl) m) (tVs B fls ms)
  | _, _ => tNil
theorem pa_vs {fls : List Bool} {ms : List (M D)} (h : Svs B T Γ k c fls es ms) (x0 : XOk B T Γ k c X) : PA X es (tVs B fls ms) := by
  induction h with
  | nil => exact pa_nil
  | cons h hs _ ih => exact pa_cons (h X x0) ih (star_cons hs)
theorem Svs.len {fls : List Bool} {ms : List (M D)} (h : Svs B T Γ k c fls es ms) : fls.length = es.length ∧ ms.length = es.length := by
  induction h with
  | nil => exact ⟨rfl, rfl⟩
  | cons h hs _ ih => exact ⟨congrArg Nat.succ ih.1, congrArg Nat.succ ih.2⟩
theorem Svs.noStar {fls : List Bool} {ms : List (M D)} (h : Svs B T Γ k c fls es ms) : es.all notStar = true := by
  induction h with
  | nil => rfl
  | cons h hs _ ih => rw [List.all_cons, hs, ih]; rfl
def seqD : List (M D) → M (List D)
  | [] => M.pure []
  | m :: ms => do
    let x ← m
    let xs ← seqD ms
    M.pure (x :: xs)
theorem seqD_evEs {Γ : Gm} : ∀ {xs : List E}, evEs Γ xs = seqD (xs.map (evE Γ))
  | [] => by unfold evEs; rfl
  | x :: xs => by
    unfold evEs
    rw [seqD_evEs (xs := xs)]
    rfl
theorem vs_imp {De : Ends} : ∀ {fls : List Bool} {ms : List (M D)} {f : List D → M Fl} {F ρ H} {σ : L2.St} {en : Env} {S : Sto} {Q : List V → Hp → Prop}, fls.length = ms.length → Rep B.G B.N F ρ H σ en S → GoodS B F ρ H ((seqD ms >>= f : M Fl) en S) De →
    (∀ vs H1 F1 ρ1 e1 S1 ds, Rep B.G B.N F1 ρ1 H1 σ e1 S1 → Mono σ en F ρ H e1 F1 ρ1 H1 → RVL B F1 ρ1 H1 σ e1 fls H vs ds → GoodS B F1 ρ1 H1 (f ds e1 S1) De → Q vs H1) → tVs B fls ms σ H Q
  | [], [], f, F, ρ, H, σ, en, S, Q, _, rp, g, hq => hq [] H F ρ en S [] rp .refl .nil g
  | fl :: fls, m :: ms, f, F, ρ, H, σ, en, S, Q, hl, rp, g, hq => by
    rw [show seqD (m :: ms) = (m >>= fun x => seqD ms >>= fun xs => M.pure (x :: xs)) from rfl, bindA] at g
    refine ⟨F, ρ, en, S, rp, (GoodS.bindE g rp).mono ?_⟩
    rintro v H1 ⟨F1, ρ1, e1, S1, d, rp1, m1, r1, g1⟩
    rw [bindA] at g1
    refine vs_imp (fls := fls) (ms := ms) (Nat.succ.inj hl) rp1 g1 fun vs H2 F2 ρ2 e2 S2 ds rp2 m2 rl g2 => ?_
    refine hq (v :: vs) H2 F2 ρ2 e2 S2 (d :: ds) rp2 (m1.trans m2) (.cons (RV.later rp1 m2 r1) m1.ext.tr (fun p hv hf => ?_) rl) g2
    subst hv hf
    obtain ⟨p', xs, ds', w1, w2, w3, _⟩ := r1
    cases w1
    exact fun z => z.no w3 rfl
  | [], _ :: _, _, _, _, _, _, _, _, _, hl, _, _, _ => nomatch hl
  | _ :: _, [], _, _, _, _, _, _, _, _, hl, _, _, _ => nomatch hl
/-! ### the names -/
inductive Nms (c : Ctx) : List PySem.Expr → List Nat → Prop
  | nil : Nms c [] []
  | cons {x : Str} {p : Pos} {i : Nat} {es is} : c.N[i]? = some x → locB c.sc x = true → (c.fnOk x = true ∨ c.sc.names.lookup x = some .local) → Nms c es is → Nms c (.Name x p :: es) (i :: is)
def gNames : List Nat → TGs
  | [] => gNil
  | i :: is => gCons (gName i) (gNames is)
theorem names_each {es : List PySem.Expr} {is : List Nat} {env : PySem.Env} (h : Nms c es is) : (assignEach es env).length = is.length ∧ (assignEach es env).findIdx? (·.1) = none := by
  induction h with
  | nil => exact ⟨rfl, rfl⟩
  | @cons x p i es is _ _ _ _ ih =>
    have e1 : assignEach (.Name x p :: es) env = (false, assign (.Name x p) env) :: assignEach es env := rfl
    rw [e1]
    exact ⟨congrArg Nat.succ ih.1, by rw [List.findIdx?_cons, if_neg (fun z => nomatch z), ih.2]; rfl⟩
theorem pgs_names {es : List PySem.Expr} {is : List Nat} (h : Nms c es is) (x0 : XOk B T Γ k c X) : PGs X es (gNames is) := by
  induction h with
  | nil => exact pgs_nil
  | @cons x p i es is hN hl hf _ ih => exact pgs_cons (pg_name (i := i) x0.nd (by rw [x0.N]; exact hN) (by rw [x0.sc]; exact loc_of hl) (by rw [x0.sc]; exact hf.imp (x0.fn x) id)) ih rfl
theorem gNames_in : ∀ {is : List Nat} {vs : List V} {σ : L2.St} {H : Hp} {Q : L2.St → Hp → Prop}, vs.length = is.length → Q (setVs σ is vs) H → gNames is vs σ H Q
  | [], [], _, _, _, _, q => ⟨rfl, q⟩
  | i :: is, v :: vs, σ, H, Q, hl, q => ⟨v, vs, rfl, gNames_in (is := is) (vs := vs) (Nat.succ.inj hl) q⟩
  | [], _ :: _, _, _, _, hl, _ => nomatch hl
  | _ :: _, [], _, _, _, hl, _ => nomatch hl
/-! ### in which order the names are stored -/
def swapO (sc : Scope) (ts vs : List PySem.Expr) : Option (Option (List Str)) :=
  if (!(ts.length == 2 || ts.length == 3) || vs.length != ts.length) = true then some none
  else
    let line := (ts.head?.map (·.pos.line)).getD 0
    let names := ts.filterMap fun
      | .Name id pos => if sc.names.lookup id == some .local && pos.line == line then some id else none
      | _ => none
    if (names.length != ts.length || names.eraseDups.length != names.length) = true then some none
    else if vs.all (foldedForSure 8) = true then some none
    else if vs.all (constantsAlone 8) = true then none
    else some (some names)
theorem noStar_any : ∀ {vs : List PySem.Expr}, vs.all notStar = true → (vs.any fun | .Starred .. => true | _ => false) = false
  | [], _ => rfl
  | v :: vs, h => by
    rw [List.all_cons, Bool.and_eq_true] at h
    have h1 := h.1
    have ih := noStar_any (vs := vs) h.2
    rw [List.any_cons, ih]
    cases v <;> first | rfl | cases h1
theorem swapO_ok {env : PySem.Env} {ts vs : List PySem.Expr} {r : Option (List Str)} {kt k2 : Nat} {pt pt2 : Pos} (hk : env.scope.kind = .function) (hs : vs.all notStar = true) (h : swapO env.scope ts vs = some r) :
    swappedStores [.Tuple ts kt pt] (.Tuple vs k2 pt2) env = pure r := by
  have hb : env.blockKind = .function := by unfold Env.blockKind; rw [hk]; rfl
  have hfn : (env.blockKind != .function) = false := by rw [hb]; rfl
  have hst := noStar_any hs
  unfold swapO at h
  unfold swappedStores
  simp only [hfn, Bool.or_false]
  by_cases h1 : (!(ts.length == 2 || ts.length == 3) || vs.length != ts.length) = true
  · rw [if_pos h1] at h
    cases h
    exact if_pos h1
  · rw [if_neg h1] at h
    refine (if_neg h1).trans ?_
    refine (if_neg (fun z => Bool.false_ne_true (hst.symm.trans z))).trans ?_
    simp only at h
    split at h
    · rename_i h2
      cases h
      exact if_pos h2
    · rename_i h2
      refine (if_neg h2).trans ?_
      split at h
      · rename_i h3
        cases h
        exact if_pos h3
      · rename_i h3
        refine (if_neg h3).trans ?_
        split at h
        · cases h
        · rename_i h4
          cases h
          exact if_neg h4
/-- a, b, .. = x, y, .. stored in their order -/
theorem ss_parL {ts : List PySem.Expr} {kt k2 : Nat} {pt pt2 : Pos} {xs : List (Nat × Bool)} {ms : List (M D)} (hc : c.calm = true) (hv : ∀ B, Svs B T Γ k c (xs.map (·.2)) es ms) (hn : Nms c ts (xs.map (·.1))) (hsw : swapO c.sc ts es = some none) (hz : es.length ≤ 1000) :
    Ss B T Γ k c (.Assign [.Tuple ts kt pt] (.Tuple es k2 pt2) pos) (do let ds ← seqD ms; putMs xs ds; M.pure .nx) := fun X x0 => by
  have h := hv B
  obtain ⟨l1, l2⟩ := h.len
  obtain ⟨n1, n2⟩ := names_each (env := X.env) hn
  refine PSi (ps_asg (pe_tup (pa_vs h x0.x)) (pg_tup (by rw [x0.x.calm]; exact hc) (pgs_names hn x0.x) n1 n2) (swapsSole_not rfl) (swapO_ok x0.fk h.noStar (by rw [x0.x.sc]; exact hsw)) (assignEach_one rfl)) fun De σ H ⟨F, ρ, en, S, rp, g⟩ => ?_
  refine vs_imp (by rw [l1, l2]) rp g fun vs H1 F1 ρ1 e1 S1 ds rp1 m1 rl g1 => ?_
  have e1 := rl.len
  rw [l1] at e1
  have e2 : vs.length = (xs.map (·.1)).length := by rw [e1, ← l1, List.length_map, List.length_map]
  refine ⟨by rw [e1]; exact Nat.le_trans hz (by decide), fun p hp => ⟨p, vs, rfl, .inl (.inl upd_same), e2, ?_⟩⟩
  obtain ⟨rp2, m2⟩ := rp1.call (Ext.newL (u := .tup vs) hp) (rp1.st.newL hp)
  obtain ⟨e', rp3, g3⟩ := puts_ok rp2 (rl.later rp1 m2) (g1.later ((Ext.newL hp).stays rp1.st))
  exact gNames_in e2 (GoodS.val (fl := Fl.nx) g3 rp3)
/-- a, b, c = x, y, z stored from the right -/
theorem ss_par3 {x y z : Str} {px py pz : Pos} {e1 e2 e3 : PySem.Expr} {kt k2 : Nat} {pt pt2 : Pos} {i j l : Nat} {f1 f2 f3 : Bool} {ms : List (M D)} (hc : c.calm = true) (hv : ∀ B, Svs B T Γ k c [f1, f2, f3] [e1, e2, e3] ms) (hn : c.N[i]? = some x) (hn2 : c.N[j]? = some y) (hn3 : c.N[l]? = some z)
    (hij : i ≠ j) (hil : i ≠ l) (hjl : j ≠ l) (hx : c.sc.names.lookup x = some .local) (hy : c.sc.names.lookup y = some .local) (hz : c.sc.names.lookup z = some .local) (hsw : swapO c.sc [.Name x px, .Name y py, .Name z pz] [e1, e2, e3] = some (some [x, y, z])) :
    Ss B T Γ k c (.Assign [.Tuple [.Name x px, .Name y py, .Name z pz] kt pt] (.Tuple [e1, e2, e3] k2 pt2) pos) (do let ds ← seqD ms; putMs [(i, f1), (j, f2), (l, f3)] ds; M.pure .nx) := fun X x0 => by
  have h := hv B
  obtain ⟨l1, l2⟩ := h.len
  refine PSi (L2.ps_par3 (i := i) (j := j) (l := l) (by rw [x0.x.calm]; exact hc) x0.x.nd (by rw [x0.x.N]; exact hn) (by rw [x0.x.N]; exact hn2) (by rw [x0.x.N]; exact hn3) hij hil hjl (by rw [x0.x.sc]; exact hx) (by rw [x0.x.sc]; exact hy) (by rw [x0.x.sc]; exact hz)
    (pa_vs h x0.x) (swapO_ok x0.fk h.noStar (by rw [x0.x.sc]; exact hsw)) rfl) fun De σ H ⟨F, ρ, en, S, rp, g⟩ => ?_
  refine vs_imp (by rw [l1, l2]) rp g fun vs H1 F1 ρ1 e1 S1 ds rp1 m1 rl g1 => ?_
  obtain ⟨e', rp3, g3⟩ := puts_ok (xs := [(i, f1), (j, f2), (l, f3)]) rp1 rl g1
  have g4 := GoodS.val (fl := Fl.nx) g3 rp3
  cases rl with
  | cons _ _ _ rl =>
    cases rl with
    | cons _ _ _ rl =>
      cases rl with
      | cons _ _ _ rl =>
        cases rl
        exact ⟨_, _, _, rfl, g4⟩
/-! ### extend -/
def rExtX (K : PySem.W.Frag) : V → List V → Hp → VK → Prop := fun x vs H Q => ∃ l b xs zs, x = .ref l ∧ vs = [.ref b] ∧ H l = some (.lst xs) ∧ LstX K H b zs ∧ xs.length + zs.length ≤ sizeLine ∧ Q .non (upd H l (.lst (xs ++ zs)))
theorem mt_extX : MtM X "list.extend" (rExtX X.K) := by
  intro pins s σ H x vs v us Q I rx rv h
  obtain ⟨l, b, xs, zs, rfl, rfl, hl, hb, hsz, hq⟩ := h
  cases rx
  obtain ⟨u, rfl, ru⟩ := L2.Vals.one rv
  cases ru
  obtain ⟨_, is1, n1, r1, k1, g1⟩ := I.lstM hl
  obtain ⟨_, is2, n2, r2, k2, g2⟩ := Inv.lstX I hb
  have hsum : is1.toArray.size + is2.toArray.size ≤ sizeLine := by rw [List.size_toArray, List.size_toArray]; omega
  have nl : ¬ (!is1.toArray.isEmpty && Builtin.List.listTooLong (is1.toArray.size + is2.toArray.size)) = true := fun z => by
    rw [notLongL hsum, Bool.and_false] at z
    cases z
  have fin := AutoSeq1.list_extend_list_list_0 l is1.toArray n1 b is2.toArray n2 nl (by rw [List.size_toArray]; omega) (by omega)
  refine call_meets F.slot_list_extend ⟨_, g1, rfl⟩ F.entry_list_extend (F.args_list_extend_2 _ _) fin ⟨g1, g2, .non, _, I.lset (its' := is1 ++ is2) hl g1 (by simp) (r1.append r2) ?_, rfl, hq⟩
  rw [List.length_append]
  exact hsz
theorem ss_ext {i : Nat} {x : Str} {p2 apos cpos : Pos} (ha : Sb B T Γ k c a ma) (hN : c.N[i]? = some x) (hv : visB c.sc x = true) (hd : noDebug x = true) (hs : notStar a = true) (hline : (apos.endLine == cpos.line) = true) :
    Ss B T Γ k c (.Expr (.Call (.Attribute (.Name x p2) ("extend" : Str) apos) [a] [] cpos) pos) (do let l ← getB i; let _ ← liftO (asLst l); let x ← ma; let y ← liftO (asLst x); extAt i y; M.pure .nx) := fun X x0 =>
  PSi (ps_expr (pe_bm (es := []) F.plainAttrs_list F.slot_list_extend (by rfl) mt_extX (pe_var (i := i) (by rw [x0.x.N]; exact hN) (by rw [x0.x.sc]; exact vis_of hv) (nd1 hd) (nd2 hd)) (pa_cons (ha X x0.x) pa_nil (star_cons hs)) rfl (few_of hs) hline (star_cons hs) rfl) rfl) fun De σ H ⟨F, ρ, en, S, rp, g⟩ => by
  obtain ⟨w, dw, hw, rw0, g2⟩ := getB_ok rp g
  obtain ⟨l0, hl0, g2'⟩ := GoodS.lift g2
  refine ⟨w, hw, ?_, F, ρ, en, S, rp, ?_⟩
  · cases dw with
    | lst l =>
      obtain ⟨p, xs, h1, h2, h3⟩ := RB.lst rw0
      subst h1
      exact .inl ⟨rfl, xs, by rw [x0.x.K]; exact h2.sq⟩
    | _ => cases hl0
  · refine (GoodS.bindE g2' rp).mono ?_
    rintro v H1 ⟨F1, ρ1, e1, S1, d, rp1, m1, r1, g3⟩
    obtain ⟨ys, hy, g4⟩ := GoodS.lift g3
    cases d with
    | lst ys' =>
      cases hy
      obtain ⟨b, zs, b1, b2, b3⟩ := RB.lst r1
      have g5 : GoodS B F1 ρ1 H1 (M.bind (extAt i ys) (fun _ => M.pure Fl.nx) e1 S1) De := g4
      unfold M.bind extAt at g5
      cases he : e1[i]? with
      | none => rw [he] at g5; exact g5.elim
      | some s =>
        rw [he] at g5
        obtain ⟨ov, h1, h2⟩ := rp1.slot i s he
        rw [hw] at h1
        cases h1
        cases s with
        | emp => exact g5.elim
        | thk => exact g5.elim
        | exn _ => exact g5.elim
        | val dd => exact g5.elim
        | own l =>
          simp only at g5
          by_cases hz : l.length + ys.length ≤ sizeLine
          · rw [decide_eq_true hz] at g5
            obtain ⟨p, xs, h3, h4, h5, h6, h7⟩ := h2
            cases h3
            subst b1
            obtain ⟨rp3, st3⟩ := rp1.mut he hw (h5.append b3)
            exact ⟨p, b, xs, zs, rfl, rfl, h4, by rw [x0.x.K]; exact b2, by rw [h5.length, b3.length]; exact hz, g5 _ _ _ _ st3 rp3⟩
          · rw [decide_eq_false hz] at g5
            exact g5.elim
    | _ => cases hy
end
end Eng

set_option maxHeartbeats 4000000
/-! THE ENGINE, part Pd: append of what is popped. -/
namespace Eng
open PySem PySem.Spec L2 PyProof.Rows
section
variable {B : Bd} {T : Tab} {Γ : Gm} {k : Nat} {c : Ctx} {X : Cx} {e a b a3 : PySem.Expr} {ma mb mc m : M D} {pos : Pos} {es : List PySem.Expr} {ml : M (List D)}
theorem seqIx_of {n : Nat} {i : Int} {j : Nat} (h : L2.ixN n i = some j) : seqIndex? i n = some j := by
  unfold L2.ixN at h
  unfold seqIndex?
  by_cases h0 : 0 ≤ i
  · rw [if_pos h0] at h
    by_cases h1 : i < n
    · rw [if_pos h1] at h
      cases h
      rw [if_neg (show ¬ i < 0 by omega)]
      simp [h0, h1]
    · rw [if_neg h1] at h
      cases h
  · rw [if_neg h0] at h
    by_cases h1 : -(n : Int) ≤ i
    · rw [if_pos h1] at h
      cases h
      rw [if_pos (show i < 0 by omega)]
      rw [if_pos]
      rw [Bool.and_eq_true]
      exact ⟨decide_eq_true (by omega), decide_eq_true (by omega)⟩
    · rw [if_neg h1] at h
      cases h
theorem ss_appPop {i j : Nat} {x y : Str} {p2 p3 apos bpos cpos dpos : Pos} (ha : Sa B T Γ k c a ma) (hN : c.N[i]? = some x) (hv : visB c.sc x = true) (hd : noDebug x = true) (hM : c.N[j]? = some y) (hv2 : visB c.sc y = true) (hd2 : noDebug y = true) (hs : notStar a = true) (hline : (apos.endLine == cpos.line) = true) (hline2 : (bpos.endLine == dpos.line) = true) :
    Ss B T Γ k c (.Expr (.Call (.Attribute (.Name x p2) ("append" : Str) apos) [.Call (.Attribute (.Name y p3) ("pop" : Str) bpos) [a] [] dpos] [] cpos) pos)
      (do let l ← getB i; let _ ← liftO (asLst l); let l2 ← getB j; let _ ← liftO (asLst l2); let k ← ma; let n ← liftO (asInt k); let x ← popAt j n; appAt i x; M.pure .nx) := fun X x0 =>
  PSi (ps_expr (pe_bm (es := []) F.plainAttrs_list F.slot_list_append (by rfl) mt_append (pe_var (i := i) (by rw [x0.x.N]; exact hN) (by rw [x0.x.sc]; exact vis_of hv) (nd1 hd) (nd2 hd))
    (pa_cons (pe_bm (es := []) F.plainAttrs_list F.slot_list_pop (by rfl) mt_popAt (pe_var (i := j) (by rw [x0.x.N]; exact hM) (by rw [x0.x.sc]; exact vis_of hv2) (nd1 hd2) (nd2 hd2)) (pa_cons (ha X x0.x) pa_nil (star_cons hs)) rfl (few_of hs) hline2 (star_cons hs) rfl) pa_nil (star_cons rfl)) rfl (few_of rfl) hline (star_cons rfl) rfl) rfl) fun De σ H ⟨F, ρ, en, S, rp, g⟩ => by
  obtain ⟨w, dw, hw, rw0, g2⟩ := getB_ok rp g
  obtain ⟨l0, hl0, g2'⟩ := GoodS.lift g2
  obtain ⟨w2, dw2, hw2, rw2, g3⟩ := getB_ok rp g2'
  obtain ⟨l2, hl2, g3'⟩ := GoodS.lift g3
  refine ⟨w, hw, ?_, w2, hw2, ?_, F, ρ, en, S, rp, ?_⟩
  · cases dw with
    | lst l =>
      obtain ⟨p, xs, h1, h2, h3⟩ := RB.lst rw0
      subst h1
      exact .inl ⟨rfl, xs, by rw [x0.x.K]; exact h2.sq⟩
    | _ => cases hl0
  · cases dw2 with
    | lst l =>
      obtain ⟨p, xs, h1, h2, h3⟩ := RB.lst rw2
      subst h1
      exact .inl ⟨rfl, xs, by rw [x0.x.K]; exact h2.sq⟩
    | _ => cases hl2
  · refine (GoodS.bindE g3' rp).mono ?_
    rintro v H1 ⟨F1, ρ1, e1, S1, d, rp1, m1, r1, g4⟩
    obtain ⟨n, hn, g5⟩ := GoodS.lift g4
    cases d with
    | int n' =>
      cases hn
      cases r1
      have g6 : GoodS B F1 ρ1 H1 (M.bind (popAt j n) (fun d => M.bind (appAt i d) (fun _ => M.pure Fl.nx)) e1 S1) De := g5
      unfold M.bind popAt at g6
      cases he : e1[j]? with
      | none => rw [he] at g6; exact g6.elim
      | some s =>
        rw [he] at g6
        obtain ⟨ov, h1, h2⟩ := rp1.slot j s he
        rw [hw2] at h1
        cases h1
        cases s with
        | emp => exact g6.elim
        | thk => exact g6.elim
        | exn _ => exact g6.elim
        | val dd => exact g6.elim
        | own l =>
          simp only at g6
          cases hx : L2.ixN l.length n with
          | none => rw [hx] at g6; exact g6.elim
          | some q =>
            rw [hx] at g6
            simp only at g6
            cases hq : l[q]? with
            | none => rw [hq] at g6; exact g6.elim
            | some d =>
              rw [hq] at g6
              simp only at g6
              by_cases hr : rngOk n = true
              · rw [if_pos hr] at g6
                obtain ⟨p, xs, h3, h4, h5, h6, h7⟩ := h2
                cases h3
                obtain ⟨v, hv1, hv2'⟩ := h5.get hq
                obtain ⟨rp3, st3⟩ := rp1.mut he hw2 (h5.eraseIdx q)
                unfold rngOk at hr
                rw [Bool.and_eq_true, decide_eq_true_eq, decide_eq_true_eq] at hr
                refine ⟨p, xs, n, q, v, rfl, rfl, h4, by omega, by omega, by rw [h5.length]; exact seqIx_of hx, hv1, ?_⟩
                have r3 : At B.G F1 ρ1 (upd H1 p (.lst (xs.eraseIdx q))) v d := At.stays st3 hv2'
                have g7 : GoodS B F1 ρ1 (upd H1 p (.lst (xs.eraseIdx q))) (M.bind (appAt i d) (fun _ => M.pure Fl.nx) (e1.set j (.own (l.eraseIdx q))) S1) De := GoodS.later g6 st3
                unfold M.bind appAt at g7
                cases he2 : (e1.set j (.own (l.eraseIdx q)))[i]? with
                | none => rw [he2] at g7; exact g7.elim
                | some s =>
                  rw [he2] at g7
                  obtain ⟨ov, h1, h2⟩ := rp3.slot i s he2
                  rw [hw] at h1
                  cases h1
                  cases s with
                  | emp => exact g7.elim
                  | thk => exact g7.elim
                  | exn _ => exact g7.elim
                  | val dd => exact g7.elim
                  | own l' =>
                    simp only at g7
                    by_cases hz : l'.length < sizeLine
                    · rw [decide_eq_true hz] at g7
                      obtain ⟨p', xs', h3', h4', h5', h6', h7'⟩ := h2
                      cases h3'
                      obtain ⟨rp4, st4⟩ := rp3.mut he2 hw (h5'.append (.cons r3 .nil))
                      exact ⟨p', xs', v, rfl, rfl, h4', by rw [h5'.length]; exact hz, g7 _ _ _ _ st4 rp4⟩
                    · rw [decide_eq_false hz] at g7
                      exact g7.elim
              · rw [if_neg hr] at g6
                exact g6.elim
    | _ => cases hn
end
end Eng

set_option maxHeartbeats 4000000
/-! THE ENGINE, part Q: the built-ins by name; expressions compiled. -/
namespace Eng
open PySem PySem.Spec L2 PyProof.Rows
section
variable {B : Bd} {T : Tab} {Γ : Gm} {k : Nat} {c : Ctx} {X : Cx} {e a b a3 : PySem.Expr} {ma mb mc m : M D} {pos : Pos} {es : List PySem.Expr} {ml : M (List D)}
/-! ### repr -/
def rRp (K : PySem.W.Frag) : List V → Hp → VK → Prop := fun xs H Q => ∃ v, xs = [v] ∧ ((∃ p, Dp K H v p ∧ SeqAt.shaped p = true ∧ p.showable = true ∧ p.shown.length ≤ sizeLine ∧ Q (.str p.shown) H) ∨ ∃ a, v = .ref a ∧ H a = some (.dK []) ∧ Q (.str "{}") H)
theorem call_repr (room : Rm k X.A) : CallR X (.builtin "repr") (rRp X.K) := by
  intro pn s σ H xs us Q I r h
  obtain ⟨v, rfl, h⟩ := h
  obtain ⟨u, rfl, ru⟩ := vals1 r
  have un := room.r.un
  rcases h with ⟨p, h1, h2, h3, h4, q⟩ | ⟨a, rfl, h1, q⟩
  · obtain ⟨as, rd⟩ := Dp.reads I p v u h1 ru
    have hd : p.hasDict = true → sysModules ∉ as := PyData.noDict_hsm (PyData.hasDict_of_canLay _ (SeqAt.canLay_of_shaped h2))
    have dp := SeqAt.depth_of_shaped h2
    have big : ∀ (b : Addr), u = .ref b → wpAny (model X.prog X.w) X.A (call (.builtin "repr") [u]) (EP X pn σ Q) X.xe s := fun b e => by
      subst e
      exact repr_of_reads' rd h3 hd room.g (by omega) (fun _ _ e => e) (fun h' u tk hk => ⟨.str _, H, I.kept hk, ⟨_, rfl⟩, q⟩) h4
    cases rd with
    | none => exact PySem.P.repr_of_none ⟨.str _, H, I.tok _, ⟨_, rfl⟩, by simpa only [PyData.shown] using q⟩
    | bool b => exact PySem.P.repr_of_bool ⟨.str _, H, I.tok _, ⟨_, rfl⟩, by simpa only [PyData.shown] using q⟩
    | int i t => exact PySem.P.repr_of_int (by simpa [PyData.showable] using h3) ⟨.str _, H, I.tok _, ⟨_, rfl⟩, by simpa only [PyData.shown] using q⟩
    | str x t => exact PySem.P.repr_of_str ⟨.str _, H, I.tok _, ⟨_, rfl⟩, by simpa only [PyData.shown] using q⟩ (by simpa only [PyData.shown] using h4)
    | list _ _ _ _ => exact big _ rfl
    | tuple _ _ _ _ => exact big _ rfl
    | dict _ _ _ _ _ => exact big _ rfl
  · obtain rfl : u = Value.ref a := ru
    obtain ⟨_, lo, vs, kv, dd⟩ := I.hok a _ h1
    cases kv
    obtain ⟨o, es, ep, e, x, d, _, r, _⟩ := dd
    have hes : es.toList = [] := by
      generalize es.toList = l at r
      cases l with
      | nil => rfl
      | cons _ _ => cases r
    have rd : Reads s.heap (.ref a) (.dict []) (a :: [] ++ []) := .dict e x.1 d (by rw [hes]; exact .nil) (by rw [hes]; exact .nil)
    have sh : (PyData.dict []).shown = ("{}" : Str) := by decide +kernel
    refine repr_of_reads' rd (by decide) (fun _ z => ?_) room.g (by show X.A.units + ((PyData.dict []).depth + 1) < cLine; simp only [PyData.depth, PyData.depthKv]; omega) (fun _ _ e => e) (fun h' u tk hk => ⟨.str _, H, I.kept hk, ⟨_, rfl⟩, by rw [sh]; exact q⟩) (by rw [sh]; decide)
    have : sysModules = a := by simpa using z
    rw [← this] at lo
    exact absurd lo (by decide)
theorem hrl_repr : HRL B (RA B) (dblt .repr) (rRp B.G.K) := by
  intro σ F ρ H en S xs ds Q rp hx g
  obtain ⟨d, hd, g⟩ := g.lift
  match ds, hx, hd with
  | [d0], hx, hd =>
    obtain ⟨x, e, hx1⟩ := Paired.one hx
    subst e
    obtain ⟨t, ht, e⟩ := Option.map_eq_some_iff.mp (show d0.rpO.map .str = some d from hd)
    subst e
    refine ⟨x, rfl, ?_⟩
    unfold D.rpO at ht
    split at ht
    · cases ht
      rcases hx1 with hx1 | ⟨_, _, _, _, z, _⟩
      · cases hx1 with
        | dic _ h1 h2 =>
          cases h2
          exact .inr ⟨_, rfl, h1, g.val rp (.str _)⟩
      · cases z
    · split at ht
      · rename_i p hp
        split at ht
        · rename_i hs
          cases ht
          rw [Bool.and_eq_true, Bool.and_eq_true] at hs
          obtain ⟨q1, q2⟩ := RB.dp hx1 hp
          exact .inl ⟨p, q1, q2, hs.1.1, of_decide_eq_true hs.1.2, g.val rp (.str _)⟩
        · cases ht
      · cases ht
theorem sa_blt {x : Str} {n : Nat} {bb : Blt} {p : Pos} (hc : c.calm = true) (hb : bltOf x n = some bb) (hf : T.free.contains x = true) (hg : globB c.sc x = true) (hd : noDebug x = true) (hl : Slb B T Γ k c (e :: es) ml) (hs : (e :: es).all notStar = true) :
    Sa B T Γ k c (.Call (.Name x p) (e :: es) [] pos) (do let ds ← ml; liftO (dblt bb ds)) := by
  have hcal : ∀ X, XOk B T Γ k c X → X.calm = true := fun X x0 => by rw [x0.calm]; exact hc
  unfold bltOf at hb
  split at hb
  · rename_i h; cases hb; obtain ⟨rfl, _⟩ := h
    exact s_callB (id := "repr") hf hg hd (by decide +kernel) (fun X x0 => by rw [← x0.K]; exact call_repr (x0.room hc)) hrl_repr hl hs
  unfold bltOf0 at hb
  split at hb
  · rename_i h; cases hb; obtain ⟨rfl, _⟩ := h
    exact s_callB hf hg hd boot_len (fun X x0 => by rw [← x0.K]; exact call_len) hrl_len hl hs
  split at hb
  · rename_i h; cases hb; obtain ⟨rfl, _⟩ := h
    exact s_callTy hf hg hd boot_tuple (fun X x0 => by rw [← x0.K]; exact call_tuple_of) hrl_tuple hl hs
  split at hb
  · rename_i h; cases hb; obtain ⟨rfl, _⟩ := h
    exact s_callB (id := "abs") hf hg hd (by decide +kernel) (fun X x0 => call_abs) hrl_abs hl hs
  split at hb
  · rename_i h; cases hb; obtain ⟨rfl, _⟩ := h
    exact s_callTy (id := "int") hf hg hd (by decide +kernel) (fun X x0 => call_int1) hrl_int hl hs
  split at hb
  · rename_i h; cases hb; obtain ⟨rfl, _⟩ := h
    exact s_callB (id := "min") hf hg hd (by decide +kernel) (fun X x0 => call_min2 (hcal X x0)) hrl_min2 hl hs
  split at hb
  · rename_i h; cases hb; obtain ⟨rfl, _⟩ := h
    exact s_callB (id := "max") hf hg hd (by decide +kernel) (fun X x0 => call_max2 (hcal X x0)) hrl_max2 hl hs
  split at hb
  · rename_i h; cases hb; obtain ⟨rfl, _⟩ := h
    exact s_callB (id := "sum") hf hg hd (by decide +kernel) (fun X x0 => by rw [← x0.K]; exact cr_sumX (hcal X x0)) hrl_sum hl hs
  split at hb
  · rename_i h; cases hb; obtain ⟨rfl, _⟩ := h
    exact s_callB (id := "min") hf hg hd (by decide +kernel) (fun X x0 => by rw [← x0.K]; exact CallOr (cr_min (hcal X x0)) (cr_minT (hcal X x0) x0.hu)) hrl_min1 hl hs
  split at hb
  · rename_i h; cases hb; obtain ⟨rfl, _⟩ := h
    exact s_callB (id := "max") hf hg hd (by decide +kernel) (fun X x0 => by rw [← x0.K]; exact CallOr (cr_max (hcal X x0)) (cr_maxT (hcal X x0) x0.hu)) hrl_max1 hl hs
  split at hb
  · rename_i h; cases hb; obtain ⟨rfl, _⟩ := h
    exact s_callB (id := "all") hf hg hd (by decide +kernel) (fun X x0 => by rw [← x0.K]; exact cr_all (hcal X x0)) hrl_all hl hs
  split at hb
  · rename_i h; cases hb; obtain ⟨rfl, _⟩ := h
    exact s_callB (id := "any") hf hg hd (by decide +kernel) (fun X x0 => by rw [← x0.K]; exact cr_any (hcal X x0)) hrl_any hl hs
  · cases hb
theorem sf_fre {x : Str} {n : Nat} {bb : Fre} {p : Pos} (hc : c.calm = true) (hb : freOf x n = some bb) (hf : T.free.contains x = true) (hg : globB c.sc x = true) (hd : noDebug x = true) (hl : Slb B T Γ k c (e :: es) ml) (hs : (e :: es).all notStar = true) :
    Sf B T Γ k c (.Call (.Name x p) (e :: es) [] pos) (do let ds ← ml; liftO (dfre bb ds)) := by
  unfold freOf at hb
  split at hb
  · rename_i h; cases hb; obtain ⟨rfl, _⟩ := h
    exact s_callTy (id := "list") hf hg hd (by decide +kernel) (fun X x0 => by rw [← x0.K]; exact call_list_of) hrl_list hl hs
  split at hb
  · rename_i h; cases hb; obtain ⟨rfl, _⟩ := h
    exact s_callB (id := "sorted") hf hg hd (by decide +kernel) (fun X x0 => by rw [← x0.K]; exact cr_sortD x0.hu) hrl_sorted hl hs
  · cases hb
end

section
variable {B : Bd} {T : Tab} {Γ : Gm} {k : Nat} {c : Ctx} {X : Cx} {e a b : PySem.Expr} {pos : Pos}
theorem sa_thk {x : Str} {p : Pos} (ht : c.thk = true) (hN : c.N[0]? = some x) (hv : visB c.sc x = true) (hd : noDebug x = true) : Sa B T Γ k c (.Call (.Name x p) [] [] pos) (thkM Γ 0) := fun X x0 => x0.thk ht x p pos hN hv hd X.pn X.xe B.W x0.tk
theorem sa_isE {i : Nat} {ev cn : Str} {p p2 p3 : Pos} (hN : c.N[i]? = some ev) (h : isErr T c "isinstance" [.Name ev p2, .Name cn p3] = true) : Sa B T Γ k c (.Call (.Name "isinstance" p) [.Name ev p2, .Name cn p3] [] pos) (isEM Γ i cn) := fun X x0 => by
  have he : c.err = true := by
    unfold isErr at h
    simp only [Bool.and_eq_true] at h
    exact h.1.1.1.1.1.1.1.1
  exact x0.err he i ev cn p p2 p3 pos hN h
end
/-! ### names -/
theorem nameIx_ok : ∀ {N : List Str} {x : Str} {i : Nat}, nameIx N x = some i → N[i]? = some x
  | y :: r, x, i, h => by
    unfold nameIx at h
    split at h
    · rename_i e; cases h; subst e; rfl
    · obtain ⟨j, h1, h2⟩ := Option.map_eq_some_iff.mp h
      subst h2
      have := nameIx_ok (N := r) h1
      simpa using this
theorem fnIx_ok : ∀ {N : List (Str × List Str)} {x : Str} {i : Nat}, fnIx N x = some i → ∃ ps, N[i]? = some (x, ps)
  | y :: r, x, i, h => by
    unfold fnIx at h
    split at h
    · rename_i e; cases h; subst e; exact ⟨y.2, rfl⟩
    · obtain ⟨j, h1, h2⟩ := Option.map_eq_some_iff.mp h
      subst h2
      obtain ⟨ps, h3⟩ := fnIx_ok (N := r) h1
      exact ⟨ps, by simpa using h3⟩
/-! ### the compiler -/
theorem guardO_some {α : Type} {b : Bool} {o : Option α} {x : α} (h : guardO b o = some x) : b = true ∧ o = some x := by
  unfold guardO at h
  split at h
  · rename_i e; exact ⟨e, h⟩
  · cases h
end Eng

set_option maxHeartbeats 4000000
/-! THE ENGINE, part R: a compiled expression does what it says. -/
namespace Eng
open PySem PySem.Spec L2 PyProof.Rows
def isFre : E → Bool
  | .lst _ => true
  | .fre _ _ => true
  | .comp _ _ _ _ _ => true
  | .comp2 _ _ _ _ _ _ _ _ _ => true
  | _ => false
section
variable {B : Bd} {T : Tab} {Γ : Gm} {k : Nat} {c : Ctx} {X : Cx} {e a b a3 : PySem.Expr} {ma mb mc m : M D} {pos : Pos} {es : List PySem.Expr} {ml : M (List D)} {n : Nat}
/-- all that is said of an expression -/
structure CE (T : Tab) (c : Ctx) (e : PySem.Expr) (x : E) : Prop where
  a : ∀ B Γ k, Sa B T Γ k c e (evE Γ x)
  t : ∀ B Γ k, St B T Γ k c e (do let x ← evE Γ x; boolM x)
  f : isFre x = true → ∀ B Γ k, Sf B T Γ k c e (evE Γ x)
  b : ∀ B Γ k, Sb B T Γ k c e (evE Γ (borE x))
theorem CE.plain {x : E} (a : ∀ B Γ k, Sa B T Γ k c e (evE Γ x)) (hp : plainT e = true) (hf : isFre x = false) (hb : borE x = x) : CE T c e x :=
  ⟨a, fun B Γ k => st_val hp (a B Γ k), (fun h => by rw [hf] at h; cases h), fun B Γ k => by rw [hb]; exact (a B Γ k).toB⟩
theorem CE.fresh {x : E} (f : ∀ B Γ k, Sf B T Γ k c e (evE Γ x)) (hp : plainT e = true) (hb : borE x = x) : CE T c e x :=
  ⟨fun B Γ k => (f B Γ k).toA, fun B Γ k => st_val hp (f B Γ k).toA, fun _ => f, fun B Γ k => by rw [hb]; exact (f B Γ k).toA.toB⟩
theorem CE.test {x : E} (a : ∀ B Γ k, Sa B T Γ k c e (evE Γ x)) (t : ∀ B Γ k, St B T Γ k c e (do let x ← evE Γ x; boolM x)) (hf : isFre x = false) (hb : borE x = x) : CE T c e x :=
  ⟨a, t, (fun h => by rw [hf] at h; cases h), fun B Γ k => by rw [hb]; exact (a B Γ k).toB⟩
structure CL (T : Tab) (c : Ctx) (es : List PySem.Expr) (xs : List E) : Prop where
  len : xs.length = es.length
  a : es.all notStar = true → ∀ B Γ k, Sl B T Γ k c es (evEs Γ xs)
  b : es.all notStar = true → ∀ B Γ k, Slb B T Γ k c es (evEs Γ (xs.map borE))
  and : es ≠ [] → ∀ B Γ k pos, Sa B T Γ k c (.BoolOp .And es pos) (evAnd Γ xs) ∧ PWs B T Γ k c (.BoolOp .And es pos) (do let x ← evAnd Γ xs; boolM x)
  or : es ≠ [] → ∀ B Γ k pos, Sa B T Γ k c (.BoolOp .Or es pos) (evOr Γ xs) ∧ PWs B T Γ k c (.BoolOp .Or es pos) (do let x ← evOr Γ xs; boolM x)
structure CKs (T : Tab) (c : Ctx) (ks : List (Option PySem.Expr)) (vs : List PySem.Expr) (xs : List (Key × E)) : Prop where
  all : ks.all (·.isSome) = true
  len : ks.length = xs.length
  s : ∀ B Γ k, Sk B T Γ k c ks vs (evKs Γ xs)
theorem evEs_len {Γ : Gm} : ∀ {xs : List E} {en : Env} {S : Sto} {ds : List D} {e' : Env} {S' : Sto}, evEs Γ xs en S = .ok ds e' S' → ds.length = xs.length
  | [], en, S, ds, e', S', h => by
    unfold evEs at h
    cases h
    rfl
  | x :: xs, en, S, ds, e', S', h => by
    unfold evEs at h
    obtain ⟨d, e1, S1, h1, h2⟩ := bind_ok h
    obtain ⟨ds', e2, S2, h3, h4⟩ := bind_ok h2
    cases h4
    rw [List.length_cons, List.length_cons, evEs_len h3]
theorem evKs_keys {Γ : Gm} : ∀ {xs : List (Key × E)} {en : Env} {S : Sto} {ds : List (Key × D)} {e' : Env} {S' : Sto}, evKs Γ xs en S = .ok ds e' S' → ds.map (·.1) = xs.map (·.1)
  | [], en, S, ds, e', S', h => by
    unfold evKs at h
    cases h
    rfl
  | (key, x) :: xs, en, S, ds, e', S', h => by
    unfold evKs at h
    obtain ⟨d, e1, S1, h1, h2⟩ := bind_ok h
    obtain ⟨ds', e2, S2, h3, h4⟩ := bind_ok h2
    cases h4
    rw [List.map_cons, List.map_cons, evKs_keys h3]
/-! ### the parts -/
theorem cl_nil : CL T c [] [] where
  len := rfl
  a := fun _ B Γ k => by unfold evEs; exact sl_nil
  b := fun _ B Γ k => by show Slb B T Γ k c [] (evEs Γ []); unfold evEs; exact slb_nil
  and := fun h => absurd rfl h
  or := fun h => absurd rfl h
theorem evAnd_one {Γ : Gm} {x : E} : evAnd Γ [x] = evE Γ x := by rw [evAnd]
theorem evAnd_cons {Γ : Gm} {x y : E} {r : List E} : evAnd Γ (x :: y :: r) = andM (evE Γ x) (evAnd Γ (y :: r)) := by rw [evAnd]
theorem evOr_one {Γ : Gm} {x : E} : evOr Γ [x] = evE Γ x := by rw [evOr]
theorem evOr_cons {Γ : Gm} {x y : E} {r : List E} : evOr Γ (x :: y :: r) = orM (evE Γ x) (evOr Γ (y :: r)) := by rw [evOr]
theorem cl_cons {x : E} {xs : List E} (h : CE T c e x) (hr : CL T c es xs) : CL T c (e :: es) (x :: xs) where
  len := by rw [List.length_cons, List.length_cons, hr.len]
  a := fun hs B Γ k => by
    rw [List.all_cons, Bool.and_eq_true] at hs
    unfold evEs
    exact sl_cons (h.a B Γ k) (hr.a hs.2 B Γ k) hs.1
  b := fun hs B Γ k => by
    rw [List.all_cons, Bool.and_eq_true] at hs
    show Slb B T Γ k c (e :: es) (evEs Γ (borE x :: xs.map borE))
    unfold evEs
    exact slb_cons (h.b B Γ k) (hr.b hs.2 B Γ k) hs.1
  and := fun _ B Γ k pos => by
    cases es with
    | nil =>
      cases xs with
      | nil => rw [evAnd_one]; exact ⟨sa_and1 (h.a B Γ k), pw_and1' (h.t B Γ k)⟩
      | cons _ _ => have := hr.len; simp at this
    | cons e2 es =>
      cases xs with
      | nil => have := hr.len; simp at this
      | cons x2 xs =>
        obtain ⟨h1, h2⟩ := hr.and (fun z => nomatch z) B Γ k pos
        rw [evAnd_cons]
        exact ⟨sa_and (h.a B Γ k) h1, pw_and' (h.t B Γ k) h2⟩
  or := fun _ B Γ k pos => by
    cases es with
    | nil =>
      cases xs with
      | nil => rw [evOr_one]; exact ⟨sa_and1 (h.a B Γ k), pw_or1' (h.t B Γ k)⟩
      | cons _ _ => have := hr.len; simp at this
    | cons e2 es =>
      cases xs with
      | nil => have := hr.len; simp at this
      | cons x2 xs =>
        obtain ⟨h1, h2⟩ := hr.or (fun z => nomatch z) B Γ k pos
        rw [evOr_cons]
        exact ⟨sa_or (h.a B Γ k) h1, pw_or' (h.t B Γ k) h2⟩
theorem ce_name {x : Str} {E : E} (h : cName T c x = some E) : CE T c (.Name x pos) E := by
  unfold cName at h
  split at h
  · rename_i hd
    split at h
    · rename_i hv
      obtain ⟨i, h1, h2⟩ := Option.map_eq_some_iff.mp h
      subst h2
      have hN := nameIx_ok h1
      have ha : ∀ B Γ k, Sa B T Γ k c (.Name x pos) (evE Γ (.var i)) := fun B Γ k => by unfold evE; exact sa_var hN hv hd
      refine ⟨ha, fun B Γ k => st_val rfl (ha B Γ k), fun h => (nomatch h), fun B Γ k => ?_⟩
      show Sb B T Γ k c (.Name x pos) (evE Γ (.bor i))
      unfold evE
      exact sb_var hN hv hd
    · split at h
      · rename_i hg
        split at h
        · rename_i d hd2
          cases h
          exact .plain (fun B Γ k => by unfold evE; exact sa_cst hd2 hg hd) rfl rfl rfl
        · obtain ⟨i, h1, h2⟩ := Option.map_eq_some_iff.mp h
          subst h2
          obtain ⟨ps, h3⟩ := fnIx_ok h1
          exact .plain (fun B Γ k => by unfold evE; exact sa_fn h3 hg hd) rfl rfl rfl
      · cases h
  · cases h
theorem evEs_one {Γ : Gm} {x : E} {f : List D → M D} : (do let ds ← evEs Γ [x]; f ds : M D) = (do let a ← evE Γ x; f [a] : M D) := by
  funext en S
  unfold evEs evEs
  show M.bind (M.bind (evE Γ x) (fun a => M.bind (M.pure []) (fun xs => M.pure (a :: xs)))) f en S = M.bind (evE Γ x) (fun a => f [a]) en S
  unfold M.bind
  cases evE Γ x en S <;> rfl
theorem evEs_two {Γ : Gm} {x y : E} {f : List D → M D} : (do let ds ← evEs Γ [x, y]; f ds : M D) = (do let a ← evE Γ x; let b ← evE Γ y; f [a, b] : M D) := by
  funext en S
  unfold evEs evEs evEs
  show M.bind (M.bind (evE Γ x) (fun a => M.bind (M.bind (evE Γ y) (fun b => M.bind (M.pure []) (fun xs => M.pure (b :: xs)))) (fun xs => M.pure (a :: xs)))) f en S = M.bind (evE Γ x) (fun a => M.bind (evE Γ y) (fun b => f [a, b])) en S
  unfold M.bind
  cases evE Γ x en S with
  | ok a e1 S1 =>
    simp only
    cases evE Γ y e1 S1 with
    | ok b e2 S2 => rfl
    | exc _ _ _ => rfl
    | fail => rfl
  | exc _ _ _ => rfl
  | fail => rfl
theorem key_ok {key : PySem.Expr} {kk : Key} (h : cKey key = some kk) : ∀ X : Cx, PE X key (tC (kV kk)) := fun X => by
  unfold cKey at h
  split at h
  · cases h; exact pe_int
  · cases h; exact pe_str
  · cases h
/-! targets -/
theorem tg_ok : ∀ {n : Nat} {c : Ctx} {tg : PySem.Expr} {t : Tg}, cTgW c.N c.sc c.fnOk n tg = some t → c.calm = true → ∀ B Γ k, St_ B T Γ k c tg t := by
  intro n
  induction n with
  | zero =>
    intro c tg t h hc B Γ k
    unfold cTgW at h
    split at h
    · obtain ⟨h1, h2⟩ := guardO_some h
      obtain ⟨i, h3, h4⟩ := Option.map_eq_some_iff.mp h2
      subst h4
      simp only [Bool.and_eq_true, Bool.or_eq_true, beq_iff_eq] at h1
      exact tg_name (nameIx_ok h3) h1.1 h1.2
    · rename_i z; cases z
    · cases h
  | succ n ih =>
    intro c tg t h hc B Γ k
    unfold cTgW at h
    split at h
    · obtain ⟨h1, h2⟩ := guardO_some h
      obtain ⟨i, h3, h4⟩ := Option.map_eq_some_iff.mp h2
      subst h4
      simp only [Bool.and_eq_true, Bool.or_eq_true, beq_iff_eq] at h1
      exact tg_name (nameIx_ok h3) h1.1 h1.2
    · rename_i n' ts _ _ hn
      cases hn
      obtain ⟨h1, h2⟩ := guardO_some h
      obtain ⟨tl, h3, h4⟩ := Option.map_eq_some_iff.mp h2
      subst h4
      have key : ∀ (ts : List PySem.Expr) (tl : List Tg), ts.mapM (cTgW c.N c.sc c.fnOk n) = some tl → ts.all notStar = true → Sts_ B T Γ k c ts tl ∧ ts.length = tl.length := by
        intro ts
        induction ts with
        | nil =>
          intro tl h _
          rw [List.mapM_nil] at h
          cases h
          exact ⟨tgs_nil, rfl⟩
        | cons t ts ih2 =>
          intro tl h hs
          rw [List.mapM_cons] at h
          rw [List.all_cons, Bool.and_eq_true] at hs
          obtain ⟨t', h5, h6⟩ := Option.bind_eq_some_iff.mp h
          obtain ⟨tl', h7, h8⟩ := Option.bind_eq_some_iff.mp h6
          cases h8
          obtain ⟨q1, q2⟩ := ih2 tl' h7 hs.2
          exact ⟨tgs_cons (ih h5 hc B Γ k) q1 hs.1, by rw [List.length_cons, List.length_cons, q2]⟩
      obtain ⟨q1, q2⟩ := key ts tl h3 h1
      exact tg_tup hc q1 h1 q2
    · cases h
theorem tyOf_ok {x : Str} {t : Ty} (h : tyOf x = some t) : x = Str.ofString t.name := by
  unfold tyOf at h
  split at h
  · rename_i e; cases h; exact e
  split at h
  · rename_i e; cases h; exact e
  split at h
  · rename_i e; cases h; exact e
  split at h
  · rename_i e; cases h; exact e
  split at h
  · rename_i e; cases h; exact e
  split at h
  · rename_i e; cases h; exact e
  · cases h
end
end Eng

set_option maxHeartbeats 4000000
/-! THE ENGINE, part S: a compiled expression does what it says: the induction. -/
namespace Eng
open PySem PySem.Spec L2 PyProof.Rows
section
variable {B : Bd} {T : Tab} {Γ : Gm} {k : Nat} {c : Ctx} {X : Cx} {e a b a3 : PySem.Expr} {ma mb mc m : M D} {pos : Pos} {es : List PySem.Expr} {ml : M (List D)} {n : Nat}
def isSeqI : Itr → Bool
  | .seq _ => true
  | _ => false
theorem itr2_ok {i i1 : Itr} {y : Option E} (h : itr2 i y = some i1) : (isSeqI i = false ∧ i1 = i) ∨ ∃ x, y = some x ∧ i1 = .seq x := by
  unfold itr2 at h
  split at h
  · obtain ⟨x, h1, h2⟩ := Option.map_eq_some_iff.mp h
    exact .inr ⟨x, h1, h2.symm⟩
  · cases h
    left
    refine ⟨?_, rfl⟩
    rename_i q
    cases i with
    | seq e => exact absurd rfl (q e)
    | _ => rfl
/-- what holds at a fuel -/
structure CP (T : Tab) (n : Nat) : Prop where
  e : ∀ c e x, cE T n c e = some x → CE T c e x
  es : ∀ c es xs, cEs T n c es = some xs → CL T c es xs
  ks : ∀ c ks vs xs, cKs T n c ks vs = some xs → CKs T c ks vs xs
  o : ∀ c o x, cO T n c o = some x → ∀ B Γ k, So B T Γ k c o (evO Γ x)
  q : ∀ c o x, cC T n c o = some x → ∀ B Γ k, Sts B T Γ k c o (evC Γ x)
  i : ∀ c tg it x, cI T n c tg it = some x → ∀ B Γ k, Sj B T Γ k c tg it (evI Γ x)
  i2 : ∀ c tg it x, cI T n c tg it = some x → isSeqI x = false → ∀ B Γ k, Si B T Γ k c tg it (evI Γ x)
theorem ce_bin {op : Operator} {o : Bop} {x y : E} (ho : bopOf op = some o) (ha : CE T c a x) (hb : CE T c b y) : CE T c (.BinOp a op b pos) (.bin o (borE x) (borE y)) :=
  .plain (fun B Γ k => by unfold evE; exact sa_bin ho (ha.b B Γ k) (hb.b B Γ k)) rfl rfl rfl
theorem ce_cat {x y : E} (ha : CE T c a x) (hb : CE T c b y) : CE T c (.BinOp a .Add b pos) (.fre .cat [borE x, borE y]) :=
  .fresh (fun B Γ k => by unfold evE; rw [evEs_two]; exact sf_cat (ha.b B Γ k) (hb.b B Γ k)) rfl rfl
theorem ce_rep {x y : E} (ha : CE T c a x) (hb : CE T c b y) : CE T c (.BinOp a .Mult b pos) (.fre .rep [borE x, borE y]) :=
  .fresh (fun B Γ k => by unfold evE; rw [evEs_two]; exact sf_rep (ha.b B Γ k) (hb.b B Γ k)) rfl rfl
theorem ce_cmp {op : CmpOp} {o : Cop} {x y : E} (ho : copOf op = some o) (ha : CE T c a x) (hb : CE T c b y) (hm : behindInMarks op b = false) : CE T c (.Compare a [op] [b] pos) (.cmp o (borE x) (borE y)) :=
  .test (fun B Γ k => by unfold evE; exact (s_cmp ho hm (ha.b B Γ k) (hb.b B Γ k)).1) (fun B Γ k => by unfold evE; exact (s_cmp ho hm (ha.b B Γ k) (hb.b B Γ k)).2) rfl rfl
theorem ce_chn {op op2 : CmpOp} {o p : Cop} {x y z : E} (ho : copOf op = some o) (hp : copOf op2 = some p) (ha : CE T c a x) (hb : CE T c b y) (h3 : CE T c a3 z) (hm : lastMarks [op, op2] [b, a3] = false) : CE T c (.Compare a [op, op2] [b, a3] pos) (.chn o p (borE x) (borE y) (borE z)) :=
  .test (fun B Γ k => by unfold evE; exact (s_chn ho hp hm (ha.b B Γ k) (hb.b B Γ k) (h3.b B Γ k)).1) (fun B Γ k => by unfold evE; exact (s_chn ho hp hm (ha.b B Γ k) (hb.b B Γ k) (h3.b B Γ k)).2) rfl rfl
theorem ce_not {x : E} (ha : CE T c a x) : CE T c (.UnaryOp .Not a pos) (.not x) :=
  .test (fun B Γ k => by unfold evE; exact (s_not (ha.a B Γ k) (ha.t B Γ k)).1) (fun B Γ k => by unfold evE; exact (s_not (ha.a B Γ k) (ha.t B Γ k)).2) rfl rfl
theorem ite_assoc {Γ : Gm} {x y z : E} : (do let x ← evE Γ x; let c ← boolM x; iteM c (evE Γ y) (evE Γ z) : M D) = (do let c ← (do let x ← evE Γ x; boolM x); iteM c (evE Γ y) (evE Γ z) : M D) := by
  funext en S
  exact test_assoc
theorem ce_ite {t : PySem.Expr} {x y z : E} (ht : CE T c t x) (ha : CE T c a y) (hb : CE T c b z) : CE T c (.IfExp t a b pos) (.ite x y z) :=
  .test (fun B Γ k => by unfold evE; rw [ite_assoc]; exact sa_ite (ht.t B Γ k) (ha.a B Γ k) (hb.a B Γ k)) (fun B Γ k => by unfold evE; rw [ite_assoc]; exact st_ite (ht.t B Γ k) (ha.t B Γ k) (hb.t B Γ k)) rfl rfl
theorem ce_idx {x y : E} (hp : plainIx b = true) (ha : CE T c a x) (hb : CE T c b y) : CE T c (.Subscript a b pos) (.idx (borE x) (borE y)) :=
  .plain (fun B Γ k => by unfold evE; exact sa_idx hp (ha.b B Γ k) (hb.b B Γ k)) rfl rfl rfl
theorem ce_comp {elt tg it : PySem.Expr} {ifs : List PySem.Expr} {scope : Scope} {t : Tg} {i : Itr} {q : Option E} {y : E} (hc : c.calm = true) (hi : ∀ B Γ k, Sj B T Γ k c tg it (evI Γ i)) (ok : blkC c.N c.sc scope (ownsOf c.N scope) = true)
    (hg : ∀ B Γ k, St_ B T Γ k (blkCtx c scope) tg t) (ht : ∀ B Γ k, Sts B T Γ k (blkCtx c scope) ifs (evC Γ q)) (he : CE T (blkCtx c scope) elt y) (hix : subB t.idx ((ownsOf c.N scope).map (·.2)) = true) (hs : notSet it = true) :
    CE T c (.ListComp elt [⟨tg, it, ifs, 0⟩] scope pos) (.comp ((ownsOf c.N scope).map (·.2)) t i q y) :=
  .fresh (fun B Γ k => by
    unfold evE
    exact sf_comp hc (hi B Γ k) ok (hg _ Γ k) (ht _ Γ k) (he.a _ Γ k) (fun i hi => by
      unfold subB at hix
      exact List.contains_iff_mem.mp (List.all_eq_true.mp hix i hi)) hs) rfl rfl
theorem ce_comp2 {elt tg it tg1 it1 : PySem.Expr} {ifs ifs1 : List PySem.Expr} {scope : Scope} {t t1 : Tg} {i i1 : Itr} {q q1 : Option E} {y : E} (hc : c.calm = true) (hi : ∀ B Γ k, Sj B T Γ k c tg it (evI Γ i)) (ok : blkC c.N c.sc scope (ownsOf c.N scope) = true)
    (hg : ∀ B Γ k, St_ B T Γ k (blkCtx c scope) tg t) (ht : ∀ B Γ k, Sts B T Γ k (blkCtx c scope) ifs (evC Γ q)) (hi1 : ∀ B Γ k, Si B T Γ k (blkCtx c scope) tg1 it1 (evI Γ i1)) (hg1 : ∀ B Γ k, St_ B T Γ k (blkCtx c scope) tg1 t1) (ht1 : ∀ B Γ k, Sts B T Γ k (blkCtx c scope) ifs1 (evC Γ q1))
    (he : CE T (blkCtx c scope) elt y) (hix : subB t.idx ((ownsOf c.N scope).map (·.2)) = true) (hix1 : subB t1.idx ((ownsOf c.N scope).map (·.2)) = true) (hs : notSet it = true) (hs1 : notSet it1 = true) :
    CE T c (.ListComp elt [⟨tg, it, ifs, 0⟩, ⟨tg1, it1, ifs1, 0⟩] scope pos) (.comp2 ((ownsOf c.N scope).map (·.2)) t1.idx t i q t1 i1 q1 y) :=
  .fresh (fun B Γ k => by
    unfold evE
    exact sf_comp2 hc (hi B Γ k) ok (hg _ Γ k) (ht _ Γ k) (hi1 _ Γ k) (hg1 _ Γ k) (ht1 _ Γ k) (he.a _ Γ k) (fun i hi => by
      unfold subB at hix
      exact List.contains_iff_mem.mp (List.all_eq_true.mp hix i hi)) (fun i hi => hi) (fun i hi => by
      unfold subB at hix1
      exact List.contains_iff_mem.mp (List.all_eq_true.mp hix1 i hi)) hs hs1) rfl rfl
theorem bop_add {op : Operator} (h : bopOf op = some .add) : op = .Add := by cases op <;> first | rfl | cases h
theorem bop_mul {op : Operator} (h : bopOf op = some .mul) : op = .Mult := by cases op <;> first | rfl | cases h
theorem b2 {x y : Bool} (h : (x && y) = true) : x = true ∧ y = true := Bool.and_eq_true_iff.mp h
theorem bn {x : Bool} (h : (!x) = true) : x = false := by cases x <;> first | rfl | cases h
theorem ce_dct {ks : List (Option PySem.Expr)} {vs : List PySem.Expr} {kvs : List (Key × E)} (h : CKs T c ks vs kvs) (hl : ks.length = vs.length) (h15 : ks.length ≤ 15) (hnd : (kvs.map (·.1)).Nodup) : CE T c (.Dict ks vs pos) (.dct kvs) := by
  refine .plain (fun B Γ k => ?_) rfl rfl rfl
  unfold evE
  by_cases h0 : ks = []
  · subst h0
    have hv : vs = [] := List.eq_nil_of_length_eq_zero (by rw [← hl]; rfl)
    have hk : kvs = [] := List.eq_nil_of_length_eq_zero (by rw [← h.len]; rfl)
    subst hv hk
    unfold evKs
    exact sa_dict0
  · exact sa_dict (h.s B Γ k) (fun en S ds e' S' hh => evKs_keys hh) hnd (by rw [List.length_map, ← h.len]; exact h15) h.all hl h0 h15
theorem ce_call {x : Str} {p : Pos} {i : Nat} {ps : List Str} {xs : List E} (hc : c.calm = true) (hi : T.fns[i]? = some (x, ps)) (hg : globB c.sc x = true) (hd : noDebug x = true) (h : CL T c es xs) (hs : es.all notStar = true) : CE T c (.Call (.Name x p) es [] pos) (.call i xs) := by
  refine .plain (fun B Γ k => ?_) rfl rfl rfl
  unfold evE
  cases es with
  | nil =>
    have hx : xs = [] := List.eq_nil_of_length_eq_zero h.len
    subst hx
    unfold evEs
    exact sa_call0 hc hi hg hd
  | cons e es => exact sa_call hc hi hg hd (h.a hs B Γ k) hs
theorem ce_blt {x : Str} {p : Pos} {bb : Blt} {xs : List E} (hc : c.calm = true) (hb : bltOf x es.length = some bb) (hf : T.free.contains x = true) (hg : globB c.sc x = true) (hd : noDebug x = true) (h : CL T c es xs) (hs : es.all notStar = true) (he : es.isEmpty = false) : CE T c (.Call (.Name x p) es [] pos) (.blt bb (xs.map borE)) := by
  refine .plain (fun B Γ k => ?_) rfl rfl rfl
  unfold evE
  cases es with
  | nil => cases he
  | cons e es => exact sa_blt hc hb hf hg hd (h.b hs B Γ k) hs
theorem ce_fre {x : Str} {p : Pos} {bb : Fre} {xs : List E} (hc : c.calm = true) (hb : freOf x es.length = some bb) (hf : T.free.contains x = true) (hg : globB c.sc x = true) (hd : noDebug x = true) (h : CL T c es xs) (hs : es.all notStar = true) (he : es.isEmpty = false) : CE T c (.Call (.Name x p) es [] pos) (.fre bb (xs.map borE)) := by
  refine .fresh (fun B Γ k => ?_) rfl rfl
  unfold evE
  cases es with
  | nil => cases he
  | cons e es => exact sf_fre hc hb hf hg hd (h.b hs B Γ k) hs
theorem si_rng {x : Str} {p : Pos} {xs : List E} (hr : isRng T c (.Call (.Name x p) es [] pos) = true) (h : CL T c es xs) (hs : es.all notStar = true) (B : Bd) (Γ : Gm) (k : Nat) (tg : PySem.Expr) : Si B T Γ k c tg (.Call (.Name x p) es [] pos) (evI Γ (.rng xs)) := by
  unfold isRng at hr
  obtain ⟨hr, g4⟩ := b2 hr
  obtain ⟨hr, g3⟩ := b2 hr
  obtain ⟨g1, g2⟩ := b2 hr
  have hx : x = ("range" : Str) := of_decide_eq_true g1
  unfold evI
  have hl := h.len
  match es, hs with
  | [], _ => cases g4
  | [a], hs =>
    rw [List.all_cons, Bool.and_eq_true] at hs
    exact si_rng1 hx g2 g3 (h.a (by rw [List.all_cons, Bool.and_eq_true]; exact hs) B Γ k) (fun en S ds e' S' hh => by rw [evEs_len hh, hl]; rfl) hs.1
  | [a, b], hs =>
    have hs' := hs
    rw [List.all_cons, List.all_cons, Bool.and_eq_true, Bool.and_eq_true] at hs
    exact si_rng2 hx g2 g3 (h.a hs' B Γ k) (fun en S ds e' S' hh => by rw [evEs_len hh, hl]; rfl) hs.1 hs.2.1
  | [a, b, d], hs =>
    exact si_rng3 hx g2 g3 (h.a hs B Γ k) (fun en S ds e' S' hh => by rw [evEs_len hh, hl]; rfl) hs
  | _ :: _ :: _ :: _ :: _, _ => simp at g4
/-- list(range(..)), tuple(range(..)) -/
theorem ce_cv {x : Str} {p p2 p3 : Pos} {x2 : Str} {xs : List E} (hr : isCv T c x [.Call (.Name x2 p) es [] pos] = true) (hc : c.calm = true) (hg : globB c.sc x = true) (hf : T.free.contains x = true) (h : CL T c es xs) (hs : es.all notStar = true) :
    CE T c (.Call (.Name x p2) [.Call (.Name x2 p) es [] pos] [] p3) (if x = "list" then .fre .rng xs else .blt .rngT xs) := by
  unfold isCv isRng at hr
  obtain ⟨q1, hr⟩ := b2 hr
  obtain ⟨hr, g4⟩ := b2 hr
  obtain ⟨hr, g3⟩ := b2 hr
  obtain ⟨g1, g2⟩ := b2 hr
  have hx2 : x2 = ("range" : Str) := of_decide_eq_true g1
  cases es with
  | nil => cases g4
  | cons e es =>
    by_cases hl : x = "list"
    · rw [if_pos hl]
      exact .fresh (fun B Γ k => by unfold evE; exact sf_lrng hl hx2 hc hf hg g2 g3 (h.a hs B Γ k) hs) rfl rfl
    · rw [if_neg hl]
      have ht : x = "tuple" := by
        rw [Bool.or_eq_true] at q1
        rcases q1 with q1 | q1
        · exact absurd (of_decide_eq_true q1) hl
        · exact of_decide_eq_true q1
      exact .plain (fun B Γ k => by unfold evE; exact sa_trng ht hx2 hc hf hg g2 g3 (h.a hs B Γ k) hs) rfl rfl rfl
theorem ce_ss {x : Str} {p p2 p3 : Pos} {x2 : Str} {xs : List E} (hr : isSS T c x [.Call (.Name x2 p) es [] pos] = true) (hc : c.calm = true) (hg : globB c.sc x = true) (hf : T.free.contains x = true) (h : CL T c es xs) (hs : es.all notStar = true) :
    CE T c (.Call (.Name x p2) [.Call (.Name x2 p) es [] pos] [] p3) (.fre .sset xs) := by
  unfold isSS at hr
  obtain ⟨hr, g4⟩ := b2 hr
  obtain ⟨hr, g3⟩ := b2 hr
  obtain ⟨hr, g2⟩ := b2 hr
  obtain ⟨q1, g1⟩ := b2 hr
  match es, h, hs, g4 with
  | [a], h, hs, _ =>
    have na : notStar a = true := by rw [List.all_cons, Bool.and_eq_true] at hs; exact hs.1
    exact .fresh (fun B Γ k => by unfold evE; exact sf_sset (of_decide_eq_true q1) (of_decide_eq_true g1) hc hf hg g2 g3 (h.a hs B Γ k) na) rfl rfl
theorem ci_rng {x : Str} {p : Pos} {xs : List E} (hr : isRng T c (.Call (.Name x p) es [] pos) = true) (h : CL T c es xs) (hs : es.all notStar = true) (B : Bd) (Γ : Gm) (k : Nat) (tg : PySem.Expr) : Sj B T Γ k c tg (.Call (.Name x p) es [] pos) (evI Γ (.rng xs)) := (si_rng hr h hs B Γ k tg).toJ
theorem ce_mth {m : Mth} {x nm : Str} {i : Nat} {p2 apos cpos : Pos} {y : E} (hm : mthOf nm = some m) (hb : CE T c a y) (hN : c.N[i]? = some x) (hv : visB c.sc x = true) (hd : noDebug x = true) (hs : notStar a = true) (hline : (apos.endLine == cpos.line) = true) :
    CE T c (.Call (.Attribute (.Name x p2) nm apos) [a] [] cpos) (.mth m (.bor i) (borE y)) :=
  .plain (fun B Γ k => by
    have e1 : evE Γ (.bor i) = getB i := by rw [evE]
    unfold evE
    rw [e1]
    exact sa_mth hm (hb.b B Γ k) hN hv hd hs hline) rfl rfl rfl
theorem isErr_x {x ev cn : Str} {p p2 : Pos} (h : isErr T c x [.Name ev p, .Name cn p2] = true) : x = ("isinstance" : Str) := by
  unfold isErr at h
  simp only [Bool.and_eq_true, decide_eq_true_eq] at h
  exact h.1.1.1.1.1.1.1.2
theorem ce_callV {x : Str} {p : Pos} {i : Nat} {xs : List E} (hc : c.calm = true) (hN : c.N[i]? = some x) (hv : visB c.sc x = true) (hd : noDebug x = true) (h : CL T c es xs) (hs : es.all notStar = true) (he : es ≠ []) : CE T c (.Call (.Name x p) es [] pos) (.callV i xs) := by
  refine .plain (fun B Γ k => ?_) rfl rfl rfl
  unfold evE
  cases es with
  | nil => exact absurd rfl he
  | cons e es => exact sa_callV hc hN hv hd (h.a hs B Γ k) hs
theorem si_zip' {x : Str} {p : Pos} {xs : List E} {tg : PySem.Expr} (hr : isPair T c "zip" 2 tg (.Call (.Name x p) es [] pos) = true) (h : CL T c es xs) (hs : es.all notStar = true) (B : Bd) (Γ : Gm) (k : Nat) : Si B T Γ k c tg (.Call (.Name x p) es [] pos) (evI Γ (.zip xs)) := by
  unfold isPair at hr
  obtain ⟨hr, g5⟩ := b2 hr
  obtain ⟨hr, g4⟩ := b2 hr
  obtain ⟨hr, g3⟩ := b2 hr
  obtain ⟨g1, g2⟩ := b2 hr
  unfold evI
  match es, of_decide_eq_true g4 with
  | [a, b], _ =>
    have hs' := hs
    rw [List.all_cons, List.all_cons, Bool.and_eq_true, Bool.and_eq_true] at hs
    exact si_zip g5 (of_decide_eq_true g1) g2 g3 (h.a hs' B Γ k) hs.1 hs.2.1
theorem si_enum' {x : Str} {p : Pos} {xs : List E} {tg : PySem.Expr} (hr : isPair T c "enumerate" 1 tg (.Call (.Name x p) es [] pos) = true) (h : CL T c es xs) (hs : es.all notStar = true) (B : Bd) (Γ : Gm) (k : Nat) : Si B T Γ k c tg (.Call (.Name x p) es [] pos) (evI Γ (.enum xs)) := by
  unfold isPair at hr
  obtain ⟨hr, g5⟩ := b2 hr
  obtain ⟨hr, g4⟩ := b2 hr
  obtain ⟨hr, g3⟩ := b2 hr
  obtain ⟨g1, g2⟩ := b2 hr
  unfold evI
  match es, of_decide_eq_true g4 with
  | [a], _ =>
    have hs' := hs
    rw [List.all_cons, Bool.and_eq_true] at hs
    exact si_enum g5 (of_decide_eq_true g1) g2 g3 (h.a hs' B Γ k) hs.1
theorem cp_succ (P : CP T n) : CP T (n + 1) := by
  refine ⟨fun c e x h => ?_, fun c es xs h => ?_, fun c ks vs xs h => ?_, fun c o x h => ?_, fun c o x h => ?_, fun c tg it x h => ?_, fun c tg it x h hq => ?_⟩
  · unfold cE at h
    split at h
    · cases h; exact .plain (fun B Γ k => by unfold evE; exact sa_int) rfl rfl rfl
    · cases h; exact .plain (fun B Γ k => by unfold evE; exact sa_bl) rfl rfl rfl
    · cases h; exact .plain (fun B Γ k => by unfold evE; exact sa_str) rfl rfl rfl
    · cases h; exact .plain (fun B Γ k => by unfold evE; exact sa_non) rfl rfl rfl
    · exact ce_name h
    · -- tuple
      obtain ⟨h1, h2⟩ := guardO_some h
      obtain ⟨xs, h3, h4⟩ := Option.map_eq_some_iff.mp h2
      subst h4
      exact .plain (fun B Γ k => by unfold evE; exact sa_tup ((P.es _ _ _ h3).a h1 B Γ k)) rfl rfl rfl
    · obtain ⟨h1, h2⟩ := guardO_some h
      obtain ⟨xs, h3, h4⟩ := Option.map_eq_some_iff.mp h2
      subst h4
      exact .fresh (fun B Γ k => by unfold evE; exact sf_lst ((P.es _ _ _ h3).a h1 B Γ k)) rfl rfl
    · -- dict
      obtain ⟨h1, h2⟩ := guardO_some h
      obtain ⟨g1, g2⟩ := b2 h1
      split at h2
      · rename_i kvs hk
        obtain ⟨h3, h4⟩ := guardO_some h2
        cases h4
        exact ce_dct (P.ks _ _ _ _ hk) (by simpa using g1) (of_decide_eq_true g2) (of_decide_eq_true h3)
      · cases h2
    · -- binop
      split at h
      · rename_i x' y' ho hx hy
        have ho' := ho
        split at h
        · cases h
          have eo := bop_add ho
          subst eo
          exact ce_cat (P.e _ _ _ hx) (P.e _ _ _ hy)
        · cases h
          exact ce_bin ho (P.e _ _ _ hx) (P.e _ _ _ hy)
      · rename_i x' y' ho hx hy
        split at h
        · cases h
          have eo := bop_mul ho
          subst eo
          exact ce_rep (P.e _ _ _ hx) (P.e _ _ _ hy)
        · cases h
          exact ce_bin ho (P.e _ _ _ hx) (P.e _ _ _ hy)
      · rename_i x' y' _ _ ho hx hy
        cases h
        exact ce_bin ho (P.e _ _ _ hx) (P.e _ _ _ hy)
      · cases h
    · obtain ⟨y, h1, h2⟩ := Option.map_eq_some_iff.mp h
      subst h2
      exact .plain (fun B Γ k => by unfold evE; exact sa_neg ((P.e _ _ _ h1).a B Γ k)) rfl rfl rfl
    · obtain ⟨y, h1, h2⟩ := Option.map_eq_some_iff.mp h
      subst h2
      exact ce_not (P.e _ _ _ h1)
    · obtain ⟨h1, h2⟩ := guardO_some h
      obtain ⟨xs, h3, h4⟩ := Option.map_eq_some_iff.mp h2
      subst h4
      rename_i es _
      have hne : es ≠ [] := fun z => by subst z; cases h1
      exact .test (fun B Γ k => by unfold evE; exact ((P.es _ _ _ h3).and hne B Γ k _).1) (fun B Γ k => by unfold evE; exact st_pw ((P.es _ _ _ h3).and hne B Γ k _).2) rfl rfl
    · obtain ⟨h1, h2⟩ := guardO_some h
      obtain ⟨xs, h3, h4⟩ := Option.map_eq_some_iff.mp h2
      subst h4
      rename_i es _
      have hne : es ≠ [] := fun z => by subst z; cases h1
      exact .test (fun B Γ k => by unfold evE; exact ((P.es _ _ _ h3).or hne B Γ k _).1) (fun B Γ k => by unfold evE; exact st_pw ((P.es _ _ _ h3).or hne B Γ k _).2) rfl rfl
    · split at h
      · rename_i o x' y' ho hx hy
        obtain ⟨h1, h2⟩ := guardO_some h
        cases h2
        exact ce_cmp ho (P.e _ _ _ hx) (P.e _ _ _ hy) (bn h1)
      · cases h
    · split at h
      · rename_i o p x' y' z' ho hp hx hy hz
        obtain ⟨h1, h2⟩ := guardO_some h
        cases h2
        exact ce_chn ho hp (P.e _ _ _ hx) (P.e _ _ _ hy) (P.e _ _ _ hz) (bn h1)
      · cases h
    · split at h
      · rename_i x' y' z' hx hy hz
        cases h
        exact ce_ite (P.e _ _ _ hx) (P.e _ _ _ hy) (P.e _ _ _ hz)
      · cases h
    · split at h
      · rename_i x' y' z' hx hy hz
        cases h
        exact .plain (fun B Γ k => by unfold evE; exact sa_slc ((P.e _ _ _ hx).b B Γ k) (P.o _ _ _ hy B Γ k) (P.o _ _ _ hz B Γ k)) rfl rfl rfl
      · cases h
    · obtain ⟨x', hx, h2⟩ := Option.map_eq_some_iff.mp h
      subst h2
      exact .plain (fun B Γ k => by unfold evE; rw [evEs_one]; exact sa_rev ((P.e _ _ _ hx).b B Γ k)) rfl rfl rfl
    · obtain ⟨h1, h2⟩ := guardO_some h
      split at h2
      · rename_i x' y' hx hy
        cases h2
        exact ce_idx h1 (P.e _ _ _ hx) (P.e _ _ _ hy)
      · cases h2
    · -- methods
      obtain ⟨h1, h2⟩ := guardO_some h
      obtain ⟨h1, g4⟩ := b2 h1
      obtain ⟨h1, g3⟩ := b2 h1
      obtain ⟨g1, g2⟩ := b2 h1
      split at h2
      · rename_i mm i y hm hi hy
        cases h2
        exact ce_mth hm (P.e _ _ _ hy) (nameIx_ok hi) g1 g2 g3 g4
      · cases h2
    · -- calls
      split at h
      · -- of a local name
        rename_i hv
        obtain ⟨hd, h2⟩ := guardO_some h
        split at h2
        · rename_i i hi
          split at h2
          · rename_i he
            obtain ⟨ht, h3⟩ := guardO_some h2
            cases h3
            obtain ⟨hT, hi0⟩ := b2 ht
            clear ht
            have hi0 := of_decide_eq_true hi0
            subst hi0
            have he' := List.isEmpty_iff.mp he
            subst he'
            exact .plain (fun B Γ k => by unfold evE; exact sa_thk hT (nameIx_ok hi) hv hd) rfl rfl rfl
          · rename_i he
            obtain ⟨h3, h4⟩ := guardO_some h2
            obtain ⟨g1, g2⟩ := b2 h3
            obtain ⟨xs, h5, h6⟩ := Option.map_eq_some_iff.mp h4
            subst h6
            exact ce_callV g1 (nameIx_ok hi) hv hd (P.es _ _ _ h5) g2 (by simpa using he)
        · cases h2
      split at h
      · -- a lambda
        obtain ⟨h1, h2⟩ := guardO_some h
        obtain ⟨h1, g5⟩ := b2 h1
        obtain ⟨h1, g4⟩ := b2 h1
        obtain ⟨h1, g3⟩ := b2 h1
        obtain ⟨g1, g2⟩ := b2 h1
        split at h2
        · rename_i params body scope p2 w hw _
          obtain ⟨h3, h4⟩ := guardO_some h2
          obtain ⟨q1, q2⟩ := b2 h3
          obtain ⟨y, h5, h6⟩ := Option.map_eq_some_iff.mp h4
          subst h6
          exact .plain (fun B Γ k => by unfold evE; exact fun X x0 => x0.lam g2 g1 _ _ _ _ _ _ _ _ _ _ q1 q2 g3 g4 g5 hw h5) rfl rfl rfl
        · cases h2
      split at h
      · -- the exception's class
        rename_i her
        split at h
        · rename_i ev p2 cn p3 _
          obtain ⟨i, h1, h2⟩ := Option.map_eq_some_iff.mp h
          subst h2
          have hx := isErr_x her
          subst hx
          exact .plain (fun B Γ k => by unfold evE; exact sa_isE (nameIx_ok h1) her) rfl rfl rfl
        · cases h
      split at h
      · -- several types
        rename_i hty
        obtain ⟨h1, h2⟩ := guardO_some h
        obtain ⟨g1, g2⟩ := b2 h1
        split at h2
        · rename_i a' ts kk p2
          split at h2
          · rename_i tys y ht hy
            obtain ⟨h3, h4⟩ := guardO_some h2
            cases h4
            obtain ⟨q1, q2⟩ := b2 h3
            have hx := of_decide_eq_true (show decide (_ = ("isinstance" : Str)) = true from hty)
            exact .plain (fun B Γ k => by unfold evE; exact sa_isiT hx g2 g1 ht ((P.e _ _ _ hy).b B Γ k) q1 (of_decide_eq_true q2)) rfl rfl rfl
          · cases h2
        · cases h2
      split at h
      · -- list(range(..)), tuple(range(..))
        rename_i hcv
        obtain ⟨h1, h2⟩ := guardO_some h
        obtain ⟨h1, g3⟩ := b2 h1
        obtain ⟨g1, g2⟩ := b2 h1
        split at h2
        · obtain ⟨h3, h4⟩ := guardO_some h2
          obtain ⟨xs, h5, h6⟩ := Option.map_eq_some_iff.mp h4
          subst h6
          exact ce_cv hcv g1 g2 g3 (P.es _ _ _ h5) h3
        · cases h2
      split at h
      · -- sorted(set(..))
        rename_i hss
        obtain ⟨h1, h2⟩ := guardO_some h
        obtain ⟨h1, g3⟩ := b2 h1
        obtain ⟨g1, g2⟩ := b2 h1
        split at h2
        · obtain ⟨h3, h4⟩ := guardO_some h2
          obtain ⟨xs, h5, h6⟩ := Option.map_eq_some_iff.mp h4
          subst h6
          exact ce_ss hss g1 g2 g3 (P.es _ _ _ h5) h3
        · cases h2
      obtain ⟨h1, h2⟩ := guardO_some h
      obtain ⟨h1, g4⟩ := b2 h1
      obtain ⟨h1, g3⟩ := b2 h1
      obtain ⟨g1, g2⟩ := b2 h1
      clear h h1
      split at h2
      · rename_i i hi
        obtain ⟨xs, h3, h4⟩ := Option.map_eq_some_iff.mp h2
        subst h4
        obtain ⟨ps, hps⟩ := fnIx_ok hi
        exact ce_call g1 hps g2 g3 (P.es _ _ _ h3) g4
      · obtain ⟨hf, h3⟩ := guardO_some h2
        split at h3
        · rename_i hx
          split at h3
          · rename_i a' tn p2
            obtain ⟨h5, h6⟩ := guardO_some h3
            obtain ⟨g5, g6⟩ := b2 h5
            split at h6
            · rename_i t y ht hy
              cases h6
              rw [List.all_cons, Bool.and_eq_true] at g4
              exact .plain (fun B Γ k => by unfold evE; exact sa_isi (tyOf_ok ht) hx hf g2 g5 g6 ((P.e _ _ _ hy).b B Γ k) g4.1) rfl rfl rfl
            · cases h6
          · cases h3
        · obtain ⟨h5, h6⟩ := guardO_some h3
          split at h6
          · rename_i bb hb
            obtain ⟨xs, h7, h8⟩ := Option.map_eq_some_iff.mp h6
            subst h8
            exact ce_blt g1 hb hf g2 g3 (P.es _ _ _ h7) g4 (bn h5)
          · split at h6
            · rename_i bb hb
              obtain ⟨xs, h7, h8⟩ := Option.map_eq_some_iff.mp h6
              subst h8
              exact ce_fre g1 hb hf g2 g3 (P.es _ _ _ h7) g4 (bn h5)
            · cases h6
    · -- comprehension
      split at h
      · rename_i t i q y ht hi hq hy
        obtain ⟨h1, h2⟩ := guardO_some h
        cases h2
        obtain ⟨h1, g4⟩ := b2 h1
        obtain ⟨h1, g3⟩ := b2 h1
        obtain ⟨g1, g2⟩ := b2 h1
        exact ce_comp g1 (P.i _ _ _ _ hi) g2 (fun B Γ k => tg_ok (c := blkCtx c _) ht g1 B Γ k) (P.q _ _ _ hq) (P.e _ _ _ hy) g3 g4
      · cases h
    · -- comprehension of two clauses
      split at h
      · rename_i t i q t1 i1 q1 y ht hi hq ht1 hi1 hq1 hy
        obtain ⟨h1, h2⟩ := guardO_some h
        cases h2
        obtain ⟨h1, g6⟩ := b2 h1
        obtain ⟨h1, g5⟩ := b2 h1
        obtain ⟨h1, g4⟩ := b2 h1
        obtain ⟨h1, g3⟩ := b2 h1
        obtain ⟨g1, g2⟩ := b2 h1
        obtain ⟨j, hj, hj2⟩ := Option.bind_eq_some_iff.mp hi1
        refine ce_comp2 g1 (P.i _ _ _ _ hi) g2 (fun B Γ k => tg_ok (c := blkCtx c _) ht g1 B Γ k) (P.q _ _ _ hq) ?_ (fun B Γ k => tg_ok (c := blkCtx c _) ht1 g1 B Γ k) (P.q _ _ _ hq1) (P.e _ _ _ hy) g3 g5 g4 g6
        rcases itr2_ok hj2 with ⟨z1, z2⟩ | ⟨x, z1, z2⟩
        · subst z2
          exact P.i2 _ _ _ _ hj z1
        · subst z2
          exact fun B Γ k => by unfold evI; exact si_seq ((P.e _ _ _ z1).a B Γ k)
      · cases h
    · cases h
  · unfold cEs at h
    split at h
    · cases h; exact cl_nil
    · split at h
      · rename_i x' xs' hx hxs
        cases h
        exact cl_cons (P.e _ _ _ hx) (P.es _ _ _ hxs)
      · cases h
  · unfold cKs at h
    split at h
    · cases h
      exact ⟨rfl, rfl, fun B Γ k => by unfold evKs; exact sk_nil⟩
    · split at h
      · rename_i kk x' xs' hk hx hxs
        cases h
        have r := P.ks _ _ _ _ hxs
        exact ⟨by rw [List.all_cons, r.all]; rfl, by rw [List.length_cons, List.length_cons, r.len], fun B Γ k => by unfold evKs; exact sk_cons (key_ok hk) ((P.e _ _ _ hx).a B Γ k) (r.s B Γ k)⟩
      · cases h
    · cases h
  · unfold cO at h
    split at h
    · cases h
      exact fun B Γ k => by unfold evO; exact so_none
    · obtain ⟨y, h1, h2⟩ := Option.map_eq_some_iff.mp h
      subst h2
      exact fun B Γ k => by unfold evO; exact so_some ((P.e _ _ _ h1).a B Γ k)
  · unfold cC at h
    split at h
    · cases h
      exact fun B Γ k => by unfold evC; exact sts_nil
    · obtain ⟨y, h1, h2⟩ := Option.map_eq_some_iff.mp h
      subst h2
      exact fun B Γ k => by unfold evC; exact sts_one ((P.e _ _ _ h1).t B Γ k)
    · cases h
  · unfold cI at h
    split at h
    · rename_i hr
      split at h
      · rename_i x p es pos
        obtain ⟨h1, h2⟩ := guardO_some h
        obtain ⟨xs, h3, h4⟩ := Option.map_eq_some_iff.mp h2
        subst h4
        exact fun B Γ k => ci_rng hr (P.es _ _ _ h3) h1 B Γ k tg
      · cases h
    split at h
    · rename_i hr
      split at h
      · rename_i x p es pos
        obtain ⟨h1, h2⟩ := guardO_some h
        obtain ⟨xs, h3, h4⟩ := Option.map_eq_some_iff.mp h2
        subst h4
        exact fun B Γ k => (si_zip' hr (P.es _ _ _ h3) h1 B Γ k).toJ
      · cases h
    split at h
    · rename_i hr
      split at h
      · rename_i x p es pos
        obtain ⟨h1, h2⟩ := guardO_some h
        obtain ⟨xs, h3, h4⟩ := Option.map_eq_some_iff.mp h2
        subst h4
        exact fun B Γ k => (si_enum' hr (P.es _ _ _ h3) h1 B Γ k).toJ
      · cases h
    · obtain ⟨y, h1, h2⟩ := Option.map_eq_some_iff.mp h
      subst h2
      exact fun B Γ k => by unfold evI; exact sj_seq ((P.e _ _ _ h1).b B Γ k)
  · unfold cI at h
    split at h
    · rename_i hr
      split at h
      · rename_i x p es pos
        obtain ⟨h1, h2⟩ := guardO_some h
        obtain ⟨xs, h3, h4⟩ := Option.map_eq_some_iff.mp h2
        subst h4
        exact fun B Γ k => si_rng hr (P.es _ _ _ h3) h1 B Γ k tg
      · cases h
    split at h
    · rename_i hr
      split at h
      · rename_i x p es pos
        obtain ⟨h1, h2⟩ := guardO_some h
        obtain ⟨xs, h3, h4⟩ := Option.map_eq_some_iff.mp h2
        subst h4
        exact fun B Γ k => si_zip' hr (P.es _ _ _ h3) h1 B Γ k
      · cases h
    split at h
    · rename_i hr
      split at h
      · rename_i x p es pos
        obtain ⟨h1, h2⟩ := guardO_some h
        obtain ⟨xs, h3, h4⟩ := Option.map_eq_some_iff.mp h2
        subst h4
        exact fun B Γ k => si_enum' hr (P.es _ _ _ h3) h1 B Γ k
      · cases h
    · obtain ⟨y, h1, h2⟩ := Option.map_eq_some_iff.mp h
      subst h2
      cases hq
theorem cp_zero : CP T 0 := ⟨(fun c e x h => nomatch h), (fun c es xs h => nomatch h), (fun c ks vs xs h => nomatch h), (fun c o x h => nomatch h), (fun c o x h => nomatch h), (fun c tg it x h => nomatch h), (fun c tg it x h => nomatch h)⟩
theorem cp_all : ∀ n, CP T n
  | 0 => cp_zero
  | n + 1 => cp_succ (cp_all n)
end
end Eng

set_option maxHeartbeats 4000000
/-! THE ENGINE, part T: statements compiled. -/
namespace Eng
open PySem PySem.Spec L2 PyProof.Rows
section
variable (T : Tab)
/-- own: the names whose lists are changed; cell: what a return of a list display makes is changed by others -/
structure SC where
  own : List Nat
  cell : Bool
def cF (n : Nat) (c : Ctx) (tg e : PySem.Expr) : Option Itr := if isRng T c e then (match e with
      | .Call (.Name x _) es [] _ => guardO (es.all notStar) ((cEs T n c es).map .rng)
      | _ => none)
    else if isPair T c "zip" 2 tg e then (match e with
      | .Call (.Name x _) es [] _ => guardO (es.all notStar) ((cEs T n c es).map .zip)
      | _ => none)
    else if isPair T c "enumerate" 1 tg e then (match e with
      | .Call (.Name x _) es [] _ => guardO (es.all notStar) ((cEs T n c es).map .enum)
      | _ => none)
    else (cE T n c e).map fun x => .seq x
def cNms : Ctx → List PySem.Expr → Option (List Nat)
  | _, [] => some []
  | c, .Name x _ :: r => guardO (locB c.sc x && (c.fnOk x || (c.sc.names.lookup x == some .local))) (match nameIx c.N x, cNms c r with
    | some i, some is => some (i :: is)
    | _, _ => none)
  | _, _ => none
def okFre : List Bool → List E → Bool
  | [], [] => true
  | fl :: fls, x :: xs => (!fl || isFre x) && okFre fls xs
  | _, _ => false
def cPar3 (o : SC) : Ctx → List PySem.Expr → List PySem.Expr → List Str → List E → Option S
  | c, [.Name x _, .Name y _, .Name z _], [_, _, _], [x', y', z'], ys => guardO ((c.sc.names.lookup x == some .local) && (c.sc.names.lookup y == some .local) && (c.sc.names.lookup z == some .local) && decide (x' = x) && decide (y' = y) && decide (z' = z)) (match nameIx c.N x, nameIx c.N y, nameIx c.N z with
    | some i, some j, some l => guardO (decide (i ≠ j) && decide (i ≠ l) && decide (j ≠ l) && okFre [o.own.contains i, o.own.contains j, o.own.contains l] ys) (some (.parL [(i, o.own.contains i), (j, o.own.contains j), (l, o.own.contains l)] ys))
    | _, _, _ => none)
  | _, _, _, _, _ => none
mutual
def cS (o : SC) : Nat → Ctx → PySem.Stmt → Option S
  | 0, _, _ => none
  | n + 1, c, st => match st with
    | .Pass _ => some .pass
    | .Break _ => some .brk
    | .Continue _ => some .cont
    | .Expr e _ => if isApp e then cApp n c e else guardO (notComp e) ((cE T n c e).map .expr)
    | .Return none _ => some .retN
    | .Return (some e) _ => if o.cell then cRetC n c e else (cE T n c e).map .ret
    | .Assign [tg] e _ => if isName tg then cPut o n c tg e else if isSub tg then cSub n c tg e else if isPar c.sc tg e then cPar o n c tg e else if isTupE tg && isTupE e then cParL o n c tg e else
      guardO (c.calm && notComp e && swapsName e && notStar tg) (match cTgW c.N c.sc c.fnOk n tg, cE T n c e with
        | some t, some x => some (.asg t x)
        | _, _ => none)
    | .If t A E _ => (match cE T n c t, cSs o n c A, cSs o n c E with
      | some x, some a, some b => some (.ifs x a b)
      | _, _, _ => none)
    | .For tg it A [] _ => guardO (c.calm && notSet it && !c.thk) (match cTgW c.N c.sc c.fnOk n tg, cF T n c tg it, cSs o n c A with
      | some t, some i, some a => some (.fr t i a)
      | _, _, _ => none)
    | .While t A [] _ => guardO (c.calm && !c.thk) (match cE T n c t, cSs o n c A with
      | some x, some a => some (.whl x a)
      | _, _ => none)
    | .Raise (some e) none _ => cRaise c e
    | .Try body [.ExceptHandler (some (.Name x _)) (some n') (b₀ :: suite) _] [] [] _ => guardO (!T.wrd.isEmpty && c.calm && c.thk && !c.err && !c.lamb && T.exc.contains x && globB c.sc x && noDebug x && (c.sc.names.lookup n' == some .local))
      (match nameIx c.N n', cSs o n c body, cSs o n (errCtx c) (b₀ :: suite) with
      | some i, some b, some h => some (.tri b x i h)
      | _, _, _ => none)
    | _ => none
def cSs (o : SC) : Nat → Ctx → List PySem.Stmt → Option (List S)
  | 0, _, _ => none
  | n + 1, c, st => match st with
    | [] => some []
    | s :: r => match cS o n c s, cSs o n c r with
      | some x, some xs => some (x :: xs)
      | _, _ => none
def isApp : PySem.Expr → Bool
  | .Call (.Attribute (.Name _ _) _ _) [_] [] _ => true
  | _ => false
def isPop : PySem.Expr → Bool
  | .Call (.Attribute (.Name _ _) m _) [_] [] _ => decide (m = "pop")
  | _ => false
def cPop : Nat → Ctx → Nat → PySem.Expr → Option S
  | n, c, i, .Call (.Attribute (.Name y _) _ bpos) [a] [] dpos => guardO (visB c.sc y && noDebug y && notStar a && (bpos.endLine == dpos.line)) (match nameIx c.N y, cE T n c a with
    | some j, some z => some (.appPop i j z)
    | _, _ => none)
  | _, _, _, _ => none
def cApp : Nat → Ctx → PySem.Expr → Option S
  | n, c, .Call (.Attribute (.Name x _) m apos) [a] [] cpos => if isPop a then
      guardO (decide (m = "append") && visB c.sc x && noDebug x && (apos.endLine == cpos.line)) (match nameIx c.N x with
        | some i => cPop n c i a
        | none => none)
    else guardO ((decide (m = "append") || decide (m = "extend")) && visB c.sc x && noDebug x && notStar a && (apos.endLine == cpos.line)) (match nameIx c.N x, cE T n c a with
    | some i, some y => some (if m = "append" then .app i y else .ext i (borE y))
    | _, _ => none)
  | _, _, _ => none
def cRetC : Nat → Ctx → PySem.Expr → Option S
  | n, c, .List es _ => guardO (es.all notStar) ((cEs T n c es).map .retC)
  | _, _, _ => none
def isName : PySem.Expr → Bool
  | .Name _ _ => true
  | _ => false
def isSub : PySem.Expr → Bool
  | .Subscript _ _ _ => true
  | _ => false
def isPar (sc : Scope) : PySem.Expr → PySem.Expr → Bool
  | .Tuple [.Name x px, .Name y py] _ _, .Tuple [a, b] _ _ => swap2 sc x y px py a b
  | _, _ => false
def cPut (o : SC) : Nat → Ctx → PySem.Expr → PySem.Expr → Option S
  | n, c, .Name x px, e => guardO (locB c.sc x && (c.fnOk x || (c.sc.names.lookup x == some .local)) && (notLoc c.sc x e || swapsL c.sc x px e)) (match nameIx c.N x, cE T n c e with
    | some i, some y => guardO (!(o.own.contains i) || isFre y) (some (.put i (o.own.contains i) y))
    | _, _ => none)
  | _, _, _, _ => none
def swapsL (sc : Scope) (x : Str) (px : Pos) : PySem.Expr → Bool
  | .ListComp _ [⟨_, _, _, 0⟩] scope p2 => swapsC sc x px.line p2.line scope
  | _ => false
def cSub : Nat → Ctx → PySem.Expr → PySem.Expr → Option S
  | n, c, .Subscript (.Name x _) ix _, e => guardO (visB c.sc x && noDebug x && notComp e && plainIx ix) (match nameIx c.N x, cE T n c ix, cE T n c e with
    | some i, some j, some y => some (.setIx i j y)
    | _, _, _ => none)
  | _, _, _, _ => none
def cPar (o : SC) : Nat → Ctx → PySem.Expr → PySem.Expr → Option S
  | n, c, .Tuple [.Name x px, .Name y py] _ _, .Tuple [a, b] _ _ => guardO (c.calm && swap2 c.sc x y px py a b && notStar a && notStar b) (match nameIx c.N x, nameIx c.N y, cE T n c a, cE T n c b with
    | some i, some j, some u, some v => guardO (decide (i ≠ j) && (!(o.own.contains i) || isFre u) && (!(o.own.contains j) || isFre v)) (some (.par (i, o.own.contains i) (j, o.own.contains j) u v))
    | _, _, _, _ => none)
  | _, _, _, _ => none
def cParL (o : SC) : Nat → Ctx → PySem.Expr → PySem.Expr → Option S
  | n, c, .Tuple ts _ _, .Tuple es _ _ => guardO (c.calm && es.all notStar && decide (es.length ≤ 1000)) (match cEs T n c es, swapO c.sc ts es with
    | some ys, some none => (match cNms c ts with
      | some is => guardO (okFre (is.map o.own.contains) ys) (some (.parL (is.map fun i => (i, o.own.contains i)) ys))
      | none => none)
    | some ys, some (some nm) => cPar3 o c ts es nm ys
    | _, _ => none)
  | _, _, _, _ => none
def cRaise : Ctx → PySem.Expr → Option S
  | c, .Call (.Name x _) [] [] _ => guardO (c.calm && T.exc.contains x && globB c.sc x && noDebug x) (some (.raise x))
  | _, _ => none
end
end
end Eng

set_option maxHeartbeats 4000000
/-! THE ENGINE, part U: a compiled statement does what it says. -/
namespace Eng
open PySem PySem.Spec L2 PyProof.Rows
section
variable {B : Bd} {T : Tab} {Γ : Gm} {k : Nat} {c : Ctx} {X : Cx} {e a b a3 : PySem.Expr} {ma mb mc m : M D} {pos : Pos} {es : List PySem.Expr} {ml : M (List D)} {n : Nat} {o : SC}
theorem sv_of {x : E} {fl : Bool} (h : CE T c e x) (hf : (!fl || isFre x) = true) (B : Bd) (Γ : Gm) (k : Nat) : Sv B T Γ k c fl e (evE Γ x) := by
  cases fl with
  | false => exact (h.a B Γ k).v
  | true => exact (h.f hf B Γ k).v
theorem cs_app {s : S} (h : cApp T n c e = some s) (pos : Pos) (B : Bd) (Γ : Gm) (k : Nat) : Ss B T Γ k c (.Expr e pos) (evS Γ s) := by
  unfold cApp at h
  split at h
  · split at h
    · rename_i hp
      obtain ⟨h1, h2⟩ := guardO_some h
      obtain ⟨h1, g4⟩ := b2 h1
      obtain ⟨h1, g3⟩ := b2 h1
      obtain ⟨g1, g2⟩ := b2 h1
      have hm := of_decide_eq_true g1
      subst hm
      split at h2
      · rename_i i hi
        unfold cPop at h2
        split at h2
        · obtain ⟨h1, h2⟩ := guardO_some h2
          obtain ⟨h1, f4⟩ := b2 h1
          obtain ⟨h1, f3⟩ := b2 h1
          obtain ⟨f1, f2⟩ := b2 h1
          have hq := of_decide_eq_true hp
          subst hq
          split at h2
          · rename_i j y hj hy
            cases h2
            unfold evS
            exact ss_appPop (((cp_all _).e _ _ _ hy).a B Γ k) (nameIx_ok hi) g2 g3 (nameIx_ok hj) f1 f2 f3 g4 f4
          · cases h2
        · cases h2
      · cases h2
    obtain ⟨h1, h2⟩ := guardO_some h
    obtain ⟨h1, g5⟩ := b2 h1
    obtain ⟨h1, g4⟩ := b2 h1
    obtain ⟨h1, g3⟩ := b2 h1
    obtain ⟨g1, g2⟩ := b2 h1
    split at h2
    · rename_i i y hi hy
      cases h2
      split
      · rename_i hm
        subst hm
        unfold evS
        exact ss_app (((cp_all _).e _ _ _ hy).a B Γ k) (nameIx_ok hi) g2 g3 g4 g5
      · rename_i hm
        rw [Bool.or_eq_true] at g1
        have hm2 := g1.elim (fun z => absurd (of_decide_eq_true z) hm) of_decide_eq_true
        subst hm2
        unfold evS
        exact ss_ext (((cp_all _).e _ _ _ hy).b B Γ k) (nameIx_ok hi) g2 g3 g4 g5
    · cases h2
  · cases h
theorem cs_retC {s : S} (h : cRetC T n c e = some s) (pos : Pos) (B : Bd) (Γ : Gm) (k : Nat) : Ss B T Γ k c (.Return (some e) pos) (evS Γ s) := by
  unfold cRetC at h
  split at h
  · obtain ⟨h1, h2⟩ := guardO_some h
    obtain ⟨xs, h3, h4⟩ := Option.map_eq_some_iff.mp h2
    subst h4
    unfold evS
    exact ss_retC (((cp_all _).es _ _ _ h3).a h1 B Γ k)
  · cases h
theorem cs_raise {s : S} (h : cRaise T c e = some s) (pos : Pos) (B : Bd) (Γ : Gm) (k : Nat) : Ss B T Γ k c (.Raise (some e) none pos) (evS Γ s) := by
  unfold cRaise at h
  split at h
  · obtain ⟨h1, h2⟩ := guardO_some h
    cases h2
    obtain ⟨h1, g4⟩ := b2 h1
    obtain ⟨h1, g3⟩ := b2 h1
    obtain ⟨g1, g2⟩ := b2 h1
    unfold evS
    exact ss_raise g1 g2 g3 g4
  · cases h
theorem cs_sub {tg : PySem.Expr} {s : S} (h : cSub T n c tg e = some s) (pos : Pos) (B : Bd) (Γ : Gm) (k : Nat) : Ss B T Γ k c (.Assign [tg] e pos) (evS Γ s) := by
  unfold cSub at h
  split at h
  · obtain ⟨h1, h2⟩ := guardO_some h
    obtain ⟨h1, g4⟩ := b2 h1
    obtain ⟨h1, g3⟩ := b2 h1
    obtain ⟨g1, g2⟩ := b2 h1
    split at h2
    · rename_i i j y hi hj hy
      cases h2
      unfold evS
      exact ss_setIx (((cp_all _).e _ _ _ hy).a B Γ k) (((cp_all _).e _ _ _ hj).a B Γ k) (nameIx_ok hi) g1 g2 g3 g4
    · cases h2
  · cases h
theorem cs_par {tg : PySem.Expr} {s : S} (h : cPar T o n c tg e = some s) (pos : Pos) (B : Bd) (Γ : Gm) (k : Nat) : Ss B T Γ k c (.Assign [tg] e pos) (evS Γ s) := by
  unfold cPar at h
  split at h
  · obtain ⟨h1, h2⟩ := guardO_some h
    obtain ⟨h1, g4⟩ := b2 h1
    obtain ⟨h1, g3⟩ := b2 h1
    obtain ⟨g1, g2⟩ := b2 h1
    split at h2
    · rename_i i j u v hi hj hu hv
      obtain ⟨h3, h4⟩ := guardO_some h2
      cases h4
      obtain ⟨h3, g7⟩ := b2 h3
      obtain ⟨g5, g6⟩ := b2 h3
      unfold evS
      exact ss_par g1 (sv_of ((cp_all _).e _ _ _ hu) g6 B Γ k) (sv_of ((cp_all _).e _ _ _ hv) g7 B Γ k) (nameIx_ok hi) (nameIx_ok hj) (of_decide_eq_true g5) g2 g3 g4
    · cases h2
  · cases h
theorem nms_ok {ts : List PySem.Expr} : ∀ {is : List Nat}, cNms c ts = some is → Nms c ts is := by
  induction ts with
  | nil => intro is h; cases h; exact .nil
  | cons t ts ih =>
    intro is h
    cases t with
    | Name x p =>
      obtain ⟨h1, h2⟩ := guardO_some (show guardO (locB c.sc x && (c.fnOk x || (c.sc.names.lookup x == some .local))) (match nameIx c.N x, cNms c ts with
        | some i, some is => some (i :: is)
        | _, _ => none) = some is from h)
      obtain ⟨g1, g2⟩ := b2 h1
      simp only [Bool.or_eq_true, beq_iff_eq] at g2
      split at h2
      · rename_i i is' hi his
        cases h2
        exact .cons (nameIx_ok hi) g1 g2 (ih his)
      · cases h2
    | _ => cases h
theorem svs_ok : ∀ {es : List PySem.Expr} {n : Nat} {fls : List Bool} {ys : List E}, cEs T n c es = some ys → okFre fls ys = true → es.all notStar = true → ∀ (B : Bd) (Γ : Gm) (k : Nat), Svs B T Γ k c fls es (ys.map (evE Γ))
  | [], n, fls, ys, h, hf, hs, B, Γ, k => by
    cases n with
    | zero => cases h
    | succ n =>
      unfold cEs at h
      simp only at h
      cases h
      cases fls with
      | nil => exact .nil
      | cons _ _ => cases hf
  | e :: es, n, fls, ys, h, hf, hs, B, Γ, k => by
    cases n with
    | zero => cases h
    | succ n =>
      unfold cEs at h
      simp only at h
      split at h
      · rename_i x xs hx hxs
        cases h
        rw [List.all_cons, Bool.and_eq_true] at hs
        cases fls with
        | nil => cases hf
        | cons fl fls =>
          obtain ⟨q1, q2⟩ := b2 (show ((!fl || isFre x) && okFre fls xs) = true from hf)
          exact .cons (sv_of ((cp_all _).e _ _ _ hx) q1 B Γ k) hs.1 (svs_ok hxs q2 hs.2 B Γ k)
      · cases h
theorem cs_par3 {c : Ctx} {ts es : List PySem.Expr} {nm : List Str} {ys : List E} {s : S} {kt k2 : Nat} {pt pt2 : Pos} (h : cPar3 o c ts es nm ys = some s) (hc : c.calm = true) (hs : es.all notStar = true) (hes : cEs T n c es = some ys) (hsw : swapO c.sc ts es = some (some nm)) (pos : Pos) (B : Bd) (Γ : Gm) (k : Nat) :
    Ss B T Γ k c (.Assign [.Tuple ts kt pt] (.Tuple es k2 pt2) pos) (evS Γ s) := by
  unfold cPar3 at h
  split at h
  · obtain ⟨h1, h2⟩ := guardO_some h
    obtain ⟨h1, g6⟩ := b2 h1
    obtain ⟨h1, g5⟩ := b2 h1
    obtain ⟨h1, g4⟩ := b2 h1
    obtain ⟨h1, g3⟩ := b2 h1
    obtain ⟨g1, g2⟩ := b2 h1
    have e4 := of_decide_eq_true g4
    have e5 := of_decide_eq_true g5
    have e6 := of_decide_eq_true g6
    subst e4 e5 e6
    split at h2
    · rename_i i j l hi hj hl
      obtain ⟨h3, h4⟩ := guardO_some h2
      cases h4
      obtain ⟨h3, q4⟩ := b2 h3
      obtain ⟨h3, q3⟩ := b2 h3
      obtain ⟨q1, q2⟩ := b2 h3
      unfold evS
      rw [seqD_evEs]
      exact ss_par3 hc (fun B => svs_ok hes q4 hs B Γ k) (nameIx_ok hi) (nameIx_ok hj) (nameIx_ok hl) (of_decide_eq_true q1) (of_decide_eq_true q2) (of_decide_eq_true q3) (by simpa using g1) (by simpa using g2) (by simpa using g3) hsw
    · cases h2
  · cases h
theorem cs_parL {tg : PySem.Expr} {s : S} (h : cParL T o n c tg e = some s) (pos : Pos) (B : Bd) (Γ : Gm) (k : Nat) : Ss B T Γ k c (.Assign [tg] e pos) (evS Γ s) := by
  unfold cParL at h
  split at h
  · obtain ⟨h1, h2⟩ := guardO_some h
    obtain ⟨h1, g3⟩ := b2 h1
    obtain ⟨g1, g2⟩ := b2 h1
    split at h2
    · rename_i ys hy hsw
      split at h2
      · rename_i is his
        obtain ⟨h3, h4⟩ := guardO_some h2
        cases h4
        unfold evS
        rw [seqD_evEs]
        refine ss_parL g1 (fun B => ?_) ?_ hsw (of_decide_eq_true g3)
        · rw [List.map_map]
          exact svs_ok hy h3 g2 B Γ k
        · rw [List.map_map]
          have : (Prod.fst ∘ fun i => (i, o.own.contains i)) = (id : Nat → Nat) := rfl
          rw [this, List.map_id]
          exact nms_ok his
      · cases h2
    · rename_i ys nm hy hsw
      exact cs_par3 h2 g1 g2 hy hsw pos B Γ k
    · cases h2
  · cases h
theorem cs_put {tg : PySem.Expr} {s : S} (h : cPut T o n c tg e = some s) (pos : Pos) (B : Bd) (Γ : Gm) (k : Nat) : Ss B T Γ k c (.Assign [tg] e pos) (evS Γ s) := by
  unfold cPut at h
  split at h
  · rename_i x px
    obtain ⟨h1, h2⟩ := guardO_some h
    obtain ⟨h1, g3⟩ := b2 h1
    obtain ⟨g1, g2⟩ := b2 h1
    simp only [Bool.or_eq_true, beq_iff_eq] at g2
    split at h2
    · rename_i i y hi hy
      obtain ⟨h3, h4⟩ := guardO_some h2
      cases h4
      unfold evS
      by_cases hn : notLoc c.sc x e = true
      · exact ss_put (sv_of ((cp_all _).e _ _ _ hy) h3 B Γ k) (nameIx_ok hi) g1 g2 hn
      · rw [Bool.not_eq_true] at hn
        rw [hn, Bool.false_or] at g3
        unfold swapsL at g3
        split at g3
        · cases n with
          | zero => cases hy
          | succ n =>
            unfold cE at hy
            simp only at hy
            split at hy
            · rename_i t it q y' ht hit hq hy'
              obtain ⟨h5, h6⟩ := guardO_some hy
              cases h6
              obtain ⟨h5, q4⟩ := b2 h5
              obtain ⟨h5, q3⟩ := b2 h5
              obtain ⟨q1, q2⟩ := b2 h5
              unfold evE
              exact ss_setLc q1 ((cp_all _).i _ _ _ _ hit B Γ k) q2 (tg_ok (c := blkCtx c _) ht q1 B.nox Γ k) ((cp_all _).q _ _ _ hq B.nox Γ k) (((cp_all _).e _ _ _ hy').a B.nox Γ k)
                (fun i hi => List.contains_iff_mem.mp (List.all_eq_true.mp q3 i hi)) q4 (nameIx_ok hi) g3
            · cases hy
        · cases g3
    · cases h2
  · cases h
theorem cf_ok {it : Itr} {tg : PySem.Expr} (h : cF T n c tg e = some it) (B : Bd) (Γ : Gm) (k : Nat) : Si B T Γ k c tg e (evI Γ it) := by
  unfold cF at h
  split at h
  · rename_i hr
    split at h
    · obtain ⟨h1, h2⟩ := guardO_some h
      obtain ⟨xs, h3, h4⟩ := Option.map_eq_some_iff.mp h2
      subst h4
      exact si_rng hr ((cp_all _).es _ _ _ h3) h1 B Γ k tg
    · cases h
  split at h
  · rename_i hr
    split at h
    · obtain ⟨h1, h2⟩ := guardO_some h
      obtain ⟨xs, h3, h4⟩ := Option.map_eq_some_iff.mp h2
      subst h4
      exact si_zip' hr ((cp_all _).es _ _ _ h3) h1 B Γ k
    · cases h
  split at h
  · rename_i hr
    split at h
    · obtain ⟨h1, h2⟩ := guardO_some h
      obtain ⟨xs, h3, h4⟩ := Option.map_eq_some_iff.mp h2
      subst h4
      exact si_enum' hr ((cp_all _).es _ _ _ h3) h1 B Γ k
    · cases h
  · obtain ⟨y, h1, h2⟩ := Option.map_eq_some_iff.mp h
    subst h2
    unfold evI
    exact si_seq (((cp_all _).e _ _ _ h1).a B Γ k)
structure CPS (T : Tab) (o : SC) (n : Nat) : Prop where
  s : ∀ c st s, cS T o n c st = some s → ∀ B Γ k, Ss B T Γ k c st (evS Γ s)
  ss : ∀ c st s, cSs T o n c st = some s → ∀ B Γ k, Sss B T Γ k c st (evSs Γ s)
theorem cps_succ (P : CPS T o n) : CPS T o (n + 1) := by
  refine ⟨fun c st s h B Γ k => ?_, fun c st s h B Γ k => ?_⟩
  · unfold cS at h
    split at h
    · cases h; unfold evS; exact ss_pass
    · cases h; unfold evS; exact ss_brk
    · cases h; unfold evS; exact ss_cont
    · split at h
      · exact cs_app h _ B Γ k
      · obtain ⟨h1, h2⟩ := guardO_some h
        obtain ⟨y, h3, h4⟩ := Option.map_eq_some_iff.mp h2
        subst h4
        unfold evS
        exact ss_expr (((cp_all _).e _ _ _ h3).a B Γ k) h1
    · cases h; unfold evS; exact ss_retN
    · split at h
      · exact cs_retC h _ B Γ k
      · obtain ⟨y, h3, h4⟩ := Option.map_eq_some_iff.mp h
        subst h4
        unfold evS
        exact ss_ret (((cp_all _).e _ _ _ h3).a B Γ k)
    · split at h
      · exact cs_put h _ B Γ k
      · split at h
        · exact cs_sub h _ B Γ k
        · split at h
          · exact cs_par h _ B Γ k
          split at h
          · exact cs_parL h _ B Γ k
          · obtain ⟨h1, h2⟩ := guardO_some h
            obtain ⟨h1, g4⟩ := b2 h1
            obtain ⟨h1, g3⟩ := b2 h1
            obtain ⟨g1, g2⟩ := b2 h1
            split at h2
            · rename_i t x ht hx
              cases h2
              unfold evS
              exact ss_asg (((cp_all _).e _ _ _ hx).a B Γ k) (tg_ok ht g1 B Γ k) g2 (.inr g3) g4
            · cases h2
    · split at h
      · rename_i x a b hx ha hb
        cases h
        unfold evS
        exact ss_ifs (((cp_all _).e _ _ _ hx).t B Γ k) (P.ss _ _ _ ha B Γ k) (P.ss _ _ _ hb B Γ k)
      · cases h
    · obtain ⟨h1, h2⟩ := guardO_some h
      obtain ⟨h1, g3⟩ := b2 h1
      obtain ⟨g1, g2⟩ := b2 h1
      split at h2
      · rename_i t i a ht hi ha
        cases h2
        unfold evS
        exact ss_fr g1 (bn g3) (cf_ok hi B Γ k) (tg_ok ht g1 B Γ k) (P.ss _ _ _ ha B Γ k) g2
      · cases h2
    · obtain ⟨hc, h⟩ := guardO_some h
      obtain ⟨hc, hct⟩ := b2 hc
      split at h
      · rename_i x a hx ha
        cases h
        unfold evS
        exact ss_whl hc (bn hct) (((cp_all _).e _ _ _ hx).t B Γ k) (P.ss _ _ _ ha B Γ k)
      · cases h
    · exact cs_raise h _ B Γ k
    · obtain ⟨h1, h2⟩ := guardO_some h
      obtain ⟨h1, g9⟩ := b2 h1
      obtain ⟨h1, g8⟩ := b2 h1
      obtain ⟨h1, g7⟩ := b2 h1
      obtain ⟨h1, g6⟩ := b2 h1
      obtain ⟨h1, g5⟩ := b2 h1
      obtain ⟨h1, g4⟩ := b2 h1
      obtain ⟨h1, g3⟩ := b2 h1
      obtain ⟨g1, g2⟩ := b2 h1
      split at h2
      · rename_i i b h' hi hb hh
        cases h2
        unfold evS
        exact ss_tri (by intro z; rw [z] at g1; cases g1) g2 g3 ⟨bn g4, bn g5⟩ g6 g7 g8 (nameIx_ok hi) (by simpa using g9) (fun W => P.ss _ _ _ hb _ Γ k) (fun B => P.ss _ _ _ hh B Γ k)
      · cases h2
    · cases h
  · unfold cSs at h
    split at h
    · cases h; unfold evSs; exact sss_nil
    · split at h
      · rename_i x xs hx hxs
        cases h
        unfold evSs
        exact sss_cons (P.s _ _ _ hx B Γ k) (P.ss _ _ _ hxs B Γ k)
      · cases h
theorem cps_all : ∀ n, CPS T o n
  | 0 => ⟨(fun c st s h => nomatch h), (fun c st s h => nomatch h)⟩
  | n + 1 => cps_succ (cps_all n)
end
end Eng

set_option maxHeartbeats 4000000
/-! THE ENGINE, part Ub: w(lambda: e). -/
namespace Eng
open PySem PySem.Spec L2 PyProof.Rows LamX
/-- the context of the def that got the lambda, entered at s -/
abbrev wCx (X : Cx) (M : List Str) (y : Str) (sg : Scope) (g : Addr) (cd : Value) (s : Shared) (H : Hp) : Cx := cxOf C8.CX0 X.prog X.w X.K X.mg X.base M y sg g cd X.A X.stack s H C8.E0
section
variable {X : Cx} {pins : List (Addr × Obj)} {σ : L2.St} {H : Hp} {s : Shared}
/-- what was got, called: its exceptions go out at the very slots -/
theorem pe_got {M : List Str} {y : Str} {sg : Scope} {g f co : Addr} {cd pm cv : Value} {ps : Arguments} {bd : PySem.Expr} {sc : Scope} {k i : Nat} {a : Str} {pn : List (Addr × Obj)} {xe : Value → Shared → Prop} {W : WX} {tb : XK → TE} {p1 p2 : Pos}
    (I : Inv X pins σ H s) (L : LamS X.env.scope sc) (hf : s.heap.get? f = some (PySem.W.kla_obj "<lambda>" (X.env.qual ++ "<lambda>") ps bd sc (cloFrom X.env.cells sc.names []) pm co cv)) (hn : H f = none) (hs : f ∉ frs X.stack)
    (hb : bindArgs (PySem.W.kla_fn "<lambda>" (X.env.qual ++ "<lambda>") ps bd sc (cloFrom X.env.cells sc.names []) pm (.ref co) cv) ⟨[], []⟩ = pure []) (tk : Takes ((wCx X M y sg g cd s H).tr pn xe) W) (hr : Rm (k + 1) (X.A.deeper (envOfC y sg s.heap.objs.size g cd)))
    (hbd : ∀ (A : Around) (o : List PySem.Env) (t : Shared) (HZ : Hp) (E : XK), Rm k (A.deeper (lamEnv X sc t.heap.objs.size f co)) → PE (lamCx X A o t HZ E sc f co) bd (tb E)) (hN : M[i]? = some a) (hv : Vis sg a) (hd : (a == ("__debug__" : Str)) = false) (hcd : (a == ("__classdict__" : Str)) = false) :
    PE ((wCx X M y sg g cd s H).tr pn xe) (.Call (.Name a p1) [] [] p2) (fun σZ HZ Q => σZ[i]? = some (some (.ref f)) ∧ HZ co = some (CodeO co (X.env.qual ++ "<lambda>")) ∧ tb (WE W σZ) σ HZ Q) := by
  refine ⟨fun pz t0 σZ HZ Q IZ ⟨h1, h2, h3⟩ => ?_⟩
  refine wpAny_Call_Name_kw (thn ((pe_var (pos := p1) (i := i) hN hv hd hcd).run pz t0 σZ HZ (fun v H1 => v = .ref f ∧ H1 = HZ) IZ ⟨.ref f, h1, rfl, rfl⟩) fun u t1 ⟨v, H1, J1, r1, ev, eH⟩ => ?_)
  subst ev; subst eH
  obtain rfl : u = Value.ref f := r1
  have hf1 := J1.base.keep f _ hf hn hs (fun z => nomatch (show f ∈ ([] : List Addr) from z))
  refine PySem.W.callWith_F0 ⟨_, _, _, _, hf1⟩ ?_
  have un : Un (frs X.stack) [] H H1 s.heap t1.heap := J1.base
  obtain ⟨⟨oc, vs, tt, o1, o2, o3⟩, _, _⟩ := J1.hok co _ h2
  have run : codeAny (model X.prog X.w) (X.A.deeper (envOfC y sg s.heap.objs.size g cd)) (.call (.ref f) ⟨[], []⟩) (CR (L2.CX X.prog X.w) (envOfC y sg s.heap.objs.size g cd :: X.stack) X.prog X.w H1 t1 Q (WE W σZ)) t1 := by
    refine PySem.W.kla_callFunE hr.r.depth hf1 rfl L.co L.gen rfl ⟨co, oc, vs, tt, rfl, o1, o2, o3⟩ (by
      rw [hb]
      refine wpAny_pure (wpAny_newFunctionEnv (fun z hz => (L.own z hz).2) (fun z hz => absurd hz (by simp)) (fun h₁ hns hsb => ⟨J1.nolimit.fresh _ hsb, ?_⟩) L.kind)
      show codeAny _ _ (.expr bd (lamEnv X sc t1.heap.objs.size f co)) _ _
      have kp : ∀ z o, t1.heap.get? z = some o → h₁.get? z = some o := fun z o e => hsb.extBut z o (Nat.ne_of_lt (Heap.lt_size e)) (Heap.get?_push_of_some _ e)
      refine PySem.W.kla_codeExpr (wpAny_mono ((hbd _ _ t1 H1 (WE W σZ) (hr.deeper _)).run [] _ _ H1 Q (lam_start2 (tk := t1.toks + ([] : List (Str × Value)).length) I L J1.env0 hr.r.hd un hns kp) h3) (fun v t2 ⟨w', H', J', rv, q⟩ => ⟨w', H', J'.os, J'.bare, J'.base, J'.hok, rv, q⟩) fun e t2 hq => hq))
  refine wpAny_call (codeAny_mono run fun r t2 hq => ?_)
  cases r with
  | error e => exact passAt tk σZ pz H1 t1 e t2 J1 hq
  | ok fl =>
    cases fl with
    | ret u => exact J1.after hq
    | _ => exact False.elim hq
end
/-- the def at g calls what it got: TT, what it makes of it -/
def GotBy (X : Cx) (M : List Str) (y : Str) (sg : Scope) (g : Addr) (cd : Value) (bg : List PySem.Stmt) (a : Str) (q : Str) (k : Nat) (TT : (XK → Hp → VK → Prop) → Hp → VK → Prop) : Prop :=
  ∀ (f co : Addr) (s : Shared) (H : Hp) (Q : VK) (tl : XK → Hp → VK → Prop), Rm k (X.A.deeper (envOfC y sg s.heap.objs.size g cd)) →
    (∀ (W : WX) (pn : List (Addr × Obj)) (xe : Value → Shared → Prop) (p1 p2 : Pos), Takes ((wCx X M y sg g cd s H).tr pn xe) W → PE ((wCx X M y sg g cd s H).tr pn xe) (.Call (.Name a p1) [] [] p2) (fun σZ HZ Q => σZ[0]? = some (some (.ref f)) ∧ HZ co = some (CodeO co q) ∧ tl (WE W σZ) HZ Q)) →
    H co = some (CodeO co q) → TT tl H Q → ∃ t, PSs (wCx X M y sg g cd s H).nox bg t ∧ t { nx := fun _ H' => Q .non H', rt := Q } (L2.start M [.ref f]) H
def tGot (T : List (Addr × Str)) (TT : (XK → Hp → VK → Prop) → Hp → VK → Prop) (t : XK → TE) : TE := fun σ H Q => Tabs T H ∧ ∀ H1, ExtN H H1 → Tabs T H1 → TT (fun E H' Q' => t E σ H' Q') H1 Q
theorem pe_lam {X : Cx} {T : List (Addr × Str)} {TT : (XK → Hp → VK → Prop) → Hp → VK → Prop} {y a : Str} {g c P : Addr} {k : Nat} {pg : Arguments} {bg : List PySem.Stmt} {sg : Scope} {dV kV doc pm cd ct oc : Value} {an od : Option Addr} {osl : Array (Option Value)} {M : List Str} {ps : Arguments} {bd : PySem.Expr} {sc : Scope} {t : XK → TE} {p lp pos : Pos}
    (hg : Gl X y) (hm : X.mg y = some (.ref g)) (hk : PySem.W.keepIn X.K (.ref g) = true) (lk : X.K.lookup g = some ⟨oc, od, .func (PySem.W.fnOf y y pg bg sg dV kV doc pm an cd ct), osl⟩) (hcg : PySem.W.codeIn X.K cd y = true) (hb : L2.Binds X.K (PySem.W.fnOf y y pg bg sg dV kV doc pm an cd ct) [a] [])
    (Sg : FnScope M [a] sg) (hM : M[0]? = some a) (hva : Vis sg a) (hG : GotBy X M y sg g cd bg a (X.env.qual ++ "<lambda>") (k + 1) TT) (TB : TabB X.base X.mg c P) (hcode : X.env.code = .ref c) (hT : (P, X.env.qual ++ "<lambda>") ∈ T) (hu : ∀ p ∈ T, p.1 = P → p.2 = X.env.qual ++ "<lambda>")
    (hr : Rm (k + 2) X.A) (L : LamS X.env.scope sc) (hdef : defaultsOf ps X.env = ([], [])) (hbind : ∀ (q : Str) (cl : List (Str × Addr)) (pm cv ctv : Value), bindArgs (PySem.W.kla_fn "<lambda>" q ps bd sc cl pm cv ctv) ⟨[], []⟩ = pure [])
    (hbd : ∀ (A : Around) (o : List PySem.Env) (s : Shared) (H : Hp) (E : XK) (f co : Addr), Rm k (A.deeper (lamEnv X sc s.heap.objs.size f co)) → PE (lamCx X A o s H E sc f co) bd (t E)) (hdb : (y == ("__debug__" : Str)) = false) (hd : (a == ("__debug__" : Str)) = false) (hcd : (a == ("__classdict__" : Str)) = false) :
    PE X (.Call (.Name y p) [.Lambda ps bd sc lp] [] pos) (tGot T TT t) := by
  refine ⟨fun pz s σ H Q I ⟨h1, h2⟩ => ?_⟩
  refine wpAny_Call_Name_kw (ld_glob I hg hm (PySem.W.callWith_K (h₀ := X.base) I.ok.mod.kin hk ?_ (by rfl) (by rfl)) hdb)
  show wpAny _ _ (spliced ((false, eval (.Lambda ps bd sc lp) X.env) :: backTo pos (starEach [] X.env))) _ _ s
  refine Calls.spliced_cons (lam_make2 I TB hcode hT hu h1 hdef (L.has I.ok) fun f co pm2 cv H1 t1 J1 eN T1 q1 q2 q3 q4 => Calls.spliced_nil ⟨J1.kIn, ?_⟩)
  have run : codeAny (model X.prog X.w) X.A (.call (.ref g) ⟨[.ref f], []⟩) (CR C8.CX0 X.stack X.prog X.w H1 t1 Q C8.E0) t1 := by
    refine run_ofS (N := M) (ps := [a]) (us := [.ref f]) (vs := [.ref f]) lk hcg Sg hr.r J1.env0 (hb t1 [.ref f] J1.kIn rfl) (.cons rfl .nil) rfl fun hr1 => ?_
    have hr2 : Rm (k + 1) (X.A.deeper (envOfC y sg t1.heap.objs.size g cd)) := ⟨hr1, hr.g⟩
    obtain ⟨t', z1, z2⟩ := hG f co t1 H1 Q (fun E H' Q' => t E σ H' Q') hr2 (fun W pn xe p1 p2 tk => pe_got (i := 0) J1 L q1 q2 q3 (hbind _ _ _ _ _) tk hr2 (fun A o s H E hz => hbd A o s H E f co hz) hM hva hd hcd) q4 (h2 H1 eN T1)
    exact ⟨t', z1.nox, z2⟩
  refine wpAny_call (codeAny_mono run fun r t2 hq => ?_)
  cases r with
  | error e => exact (show False from hq).elim
  | ok fl =>
    cases fl with
    | ret u => exact J1.after hq
    | _ => exact False.elim hq
end Eng

set_option maxHeartbeats 4000000
/-! THE ENGINE, part V: the program: each def keeps the promise of its evaluator. -/
namespace Eng
open PySem PySem.Spec L2 PyProof.Rows
/-! ### parameters -/
def plainPs (p : Arguments) : Bool := p.posonlyargs.isEmpty && p.vararg.isNone && p.kwonlyargs.isEmpty && p.kwarg.isNone && p.defaults.isEmpty
theorem zip_look {β : Type} : ∀ {ps : List Str} {us : List β} {n : Str}, us.length = ps.length → n ∈ ps → ((ps.zip us).lookup n).isSome = true
  | p :: ps, u :: us, n, hl, hn => by
    rw [List.zip_cons_cons, List.lookup_cons]
    cases hb : n == p with
    | true => rfl
    | false =>
      refine zip_look (by simpa using hl) ?_
      rcases List.mem_cons.mp hn with h | h
      · subst h; simp at hb
      · exact h
theorem fmv_congr {α β : Type} {f g : α → Option β} : ∀ {l : List α}, (∀ n ∈ l, f n = g n) → l.filterMap f = l.filterMap g
  | [], _ => rfl
  | a :: l, h => by
    rw [List.filterMap_cons, List.filterMap_cons, h a List.mem_cons_self, fmv_congr fun n hn => h n (List.mem_cons_of_mem _ hn)]
theorem zip_pick {β : Type} : ∀ {ps : List Str} {us : List β}, us.length = ps.length → ps.Nodup → (ps.filterMap fun n => ((ps.zip us).lookup n).map fun v => (n, v)) = ps.zip us
  | [], [], _, _ => rfl
  | p :: ps, u :: us, hl, hn => by
    rw [List.nodup_cons] at hn
    have ih := zip_pick (ps := ps) (us := us) (by simpa using hl) hn.2
    rw [List.zip_cons_cons, List.filterMap_cons, List.lookup_cons, beq_self_eq_true]
    show (p, u) :: _ = _
    congr 1
    rw [← ih]
    refine fmv_congr fun n hm => ?_
    have hne : (n == p) = false := beq_eq_false_iff_ne.mpr fun z => hn.1 (z ▸ hm)
    rw [List.lookup_cons, hne, ih]
theorem bind_plain {name qual : Str} {params : Arguments} {body : List PySem.Stmt} {scope : Scope} {kV doc pm : Value} {an : Option Addr} {cdv ct : Value} {us : List Value} (hp : plainPs params = true) (hn : (params.args.map (·.arg)).Nodup) (hl : us.length = (params.args.map (·.arg)).length) :
    bindArgs (PySem.W.fnOf name qual params body scope .none kV doc pm an cdv ct) ⟨us, []⟩ = pure ((params.args.map (·.arg)).zip us) := by
  obtain ⟨po, al, va, ko, kd, ka, df⟩ := params
  unfold plainPs at hp
  simp only [Bool.and_eq_true, List.isEmpty_iff, Option.isNone_iff_eq_none] at hp
  obtain ⟨⟨⟨⟨h1, h2⟩, h3⟩, h4⟩, h5⟩ := hp
  subst h1 h2 h3 h4 h5
  simp only at hn hl ⊢
  have e1 : ((al.map (·.arg)).zip us).length = us.length := by rw [List.length_zip]; omega
  have miss : ((al.map (·.arg)).filter fun n => (((al.map (·.arg)).zip us).lookup n).isNone) = [] := by
    rw [List.filter_eq_nil_iff]
    intro n hm
    have := zip_look (us := us) hl hm
    cases hx : ((al.map (·.arg)).zip us).lookup n with
    | none => rw [hx] at this; cases this
    | some _ => simp
  have pick := zip_pick hl hn
  unfold bindArgs
  have hd : (PySem.W.fnOf name qual { posonlyargs := [], args := al, vararg := none, kwonlyargs := [], kw_defaults := kd, kwarg := none, defaults := [] } body scope .none kV doc pm an cdv ct).defaults = .none := rfl
  have hpp : (PySem.W.fnOf name qual { posonlyargs := [], args := al, vararg := none, kwonlyargs := [], kw_defaults := kd, kwarg := none, defaults := [] } body scope .none kV doc pm an cdv ct).params = { posonlyargs := [], args := al, vararg := none, kwonlyargs := [], kw_defaults := kd, kwarg := none, defaults := [] } := rfl
  have hs : seqItems? Value.none = pure none := rfl
  simp only [hd, hpp, hs, List.map_nil, List.nil_append, List.append_nil, pure_bind, Option.getD_none]
  have hgt : (decide (us.length > (al.map (·.arg)).length) && (none : Option Arg).isNone) = false := by
    rw [decide_eq_false (by omega), Bool.false_and]
  simp [hl]
  have tk : (al.map (·.arg)).take ((al.map (·.arg)).length - (([] : List Value).drop (0 - (al.map (·.arg)).length)).length) = al.map (·.arg) := by
    rw [List.drop_nil, List.length_nil, Nat.sub_zero, List.take_length]
  refine (if_neg fun z => ?_).trans ?_
  · have z' : (!(((al.map (·.arg)).take ((al.map (·.arg)).length - (([] : List Value).drop (0 - (al.map (·.arg)).length)).length)).filter fun n => (((al.map (·.arg)).zip us).lookup n).isNone).isEmpty) = true := z
    rw [tk, miss] at z'
    cases z'
  rw [List.filterMap_map] at pick
  exact congrArg pure pick
/-! ### the program -/
/-- the checks of one def: its parameters, its names, its body's compilation -/
structure DOk (T : Tab) (d : He.DefD) (f : Fd) : Prop where
  name : d.name = f.name
  qual : d.qual = f.name
  at_ : d.at_ = (f.name, none)
  dfl : d.dfl = []
  kwd : d.kwd = []
  ps : d.params.args.map (·.arg) = f.ps
  plain : plainPs d.params = true
  dbg : f.ps.all noDebug = true
  wrd : T.wrd.contains f.name = true → f.ps.length = 1
  sc : FnScope f.N f.ps d.scope
  body : ∃ o n, cSs T o n (dCtx T f.name f.N d.scope) d.body = some f.body
def fnScB (N P : List Str) (sc : Scope) : Bool := (match sc.kind with | .function => true | _ => false) && !sc.isCoroutine && !sc.isGenerator && decide N.Nodup && decide (N.take P.length = P) &&
  (P.all fun x => sc.names.lookup x == some .local || sc.names.lookup x == some .cell) && (sc.names.all fun y => !(y.2 == .free))
theorem fnScB_ok {N P : List Str} {sc : Scope} (h : fnScB N P sc = true) : FnScope N P sc := by
  unfold fnScB at h
  obtain ⟨h, h7⟩ := b2 h
  obtain ⟨h, h6⟩ := b2 h
  obtain ⟨h, h5⟩ := b2 h
  obtain ⟨h, h4⟩ := b2 h
  obtain ⟨h, h3⟩ := b2 h
  obtain ⟨h1, h2⟩ := b2 h
  refine ⟨?_, bn h2, bn h3, of_decide_eq_true h4, of_decide_eq_true h5, fun x hx => ?_, fun y hy z => ?_⟩
  · split at h1
    · assumption
    · cases h1
  · have := List.all_eq_true.mp h6 x hx
    simpa using this
  · have := List.all_eq_true.mp h7 y hy
    rw [z] at this
    cases this
theorem Rep.start {G : Gl0} {F : Addr → Prop} {ρ : List Addr} {H : Hp} {S : Sto} {vs : List V} {ds : List D} {N : List Str} (st : Stt G F ρ H S) (h : AtL G F ρ H vs ds) :
    Rep G ⟨F, ρ, H, none, none⟩ F ρ H (L2.start N vs) (ds.map Slot.val ++ List.replicate (N.length - ds.length) Slot.emp) S := by
  have hl := h.length
  have no : ∀ {i : Nat} {l : List D}, (ds.map Slot.val ++ List.replicate (N.length - ds.length) Slot.emp)[i]? ≠ some (Slot.own l) := fun {i l} z => by
    by_cases hi : i < ds.length
    · rw [List.getElem?_append_left (by rw [List.length_map]; exact hi), List.getElem?_map] at z
      obtain ⟨d, _, z2⟩ := Option.map_eq_some_iff.mp z
      cases z2
    · rw [List.getElem?_append_right (by rw [List.length_map]; omega)] at z
      rw [List.getElem?_replicate] at z
      split at z <;> cases z
  refine ⟨st, .refl, ?_, fun i s hs => ?_, fun a ⟨i, l, h1, _⟩ => absurd h1 no, fun i j di dj a h1 => absurd h1 no⟩
  · unfold L2.start
    rw [List.length_append, List.length_append, List.length_map, List.length_map, List.length_replicate, List.length_replicate, hl]
  · unfold L2.start
    by_cases hi : i < ds.length
    · rw [List.getElem?_append_left (by rw [List.length_map]; exact hi), List.getElem?_map] at hs
      obtain ⟨d, h1, h2⟩ := Option.map_eq_some_iff.mp hs
      subst h2
      obtain ⟨v, h3, h4⟩ := h.get h1
      exact ⟨some v, by rw [List.getElem?_append_left (by rw [List.length_map, hl]; exact hi), List.getElem?_map, h3]; rfl, v, rfl, h4⟩
    · rw [List.getElem?_append_right (by rw [List.length_map]; omega), List.length_map] at hs
      rw [List.getElem?_replicate] at hs
      split at hs
      · rename_i hlt
        cases hs
        refine ⟨none, ?_, True.intro⟩
        rw [List.getElem?_append_right (by rw [List.length_map, hl]; omega), List.length_map, hl, List.getElem?_replicate, if_pos hlt]
      · cases hs
theorem Rep.outE {G : Gl0} {F F' : Addr → Prop} {ρ ρ' : List Addr} {H H' : Hp} {S : Sto} {σ : L2.St} {en : Env} (rp : Rep G ⟨F, ρ, H, none, none⟩ F' ρ' H' σ en S) : Ext No F ρ H F' ρ' H' := rp.ext

/-! ### a lambda was made: only tables may have changed -/
section
variable {G : Gl0} {F F1 : Addr → Prop} {ρ ρ1 : List Addr} {H H1 : Hp} {S S1 : Sto} {σ : L2.St} {en : Env} {N : Ent}
theorem frh_dec (o : HO) : noTab o = true ∨ ∃ ps, o = .tbl ps := by
  cases o <;> first | exact .inl rfl | exact .inr ⟨_, rfl⟩
theorem noTab_ne {o : HO} (h : noTab o = true) (ps : Array Value) : o ≠ .tbl ps := fun z => by subst z; cases h
theorem Ext.lam (e : LamX.ExtN H H1) : Ext No F ρ H F ρ H1 where
  f := fun _ h => h
  fn := fun _ h => .inl h
  r := List.prefix_rfl
  rn := fun _ h => .inl h
  kp := fun a o h n _ => e a o h (noTab_ne n)
  tr := fun a h o ho => by
    rcases frh_dec o with n | n
    · exact h o (e a o ho (noTab_ne n))
    · exact n
theorem Stt.lam (s : Stt G F ρ H S) (e : LamX.ExtN H H1) (t : LamX.Tabs G.tb H1) : Stt G F ρ H1 S where
  nod := s.nod
  fr := s.fr
  ft := fun a h z => s.ft a h ((Ext.lam (F := F) (ρ := ρ) e).tr a z)
  tabs := t
  len := s.len
  sto := fun i ds h => by
    obtain ⟨a, xs, h1, h2, h3⟩ := s.sto i ds h
    exact ⟨a, xs, h1, e a _ h2 (noTab_ne rfl), h3.stays ((Ext.lam e).stays s)⟩
theorem hide_get {i : Nat} {s : Slot} (h : (en.map hideS)[i]? = some s) : s = .emp ∨ ∃ d, s = .val d ∧ en[i]? = some (.val d) := by
  rw [List.getElem?_map] at h
  obtain ⟨s', h1, h2⟩ := Option.map_eq_some_iff.mp h
  subst h2
  cases s' <;> first | exact .inl rfl | exact .inr ⟨_, rfl, h1⟩
theorem hide_own {a : Addr} : ¬ OwnAt σ (en.map hideS) a := fun ⟨i, l, h1, _⟩ => by
  rcases hide_get h1 with z | ⟨d, z, _⟩ <;> cases z
theorem Rep.hideAll (rp : Rep G N F ρ H σ en S) : Rep G N F ρ H σ (en.map hideS) S := by
  refine ⟨rp.st, rp.ext, by rw [List.length_map]; exact rp.len, fun i s h => ?_, fun a h => absurd h hide_own, fun i j di dj a h1 => ?_⟩
  · have hlt : i < en.length := by
      have := (List.getElem?_eq_some_iff.mp h).1
      rwa [List.length_map] at this
    obtain ⟨ov0, q1, _⟩ := rp.slot i en[i] (by simp [hlt])
    rcases hide_get h with z | ⟨d, z, z2⟩
    · subst z
      exact ⟨ov0, q1, True.intro⟩
    · subst z
      obtain ⟨ov, q3, q4⟩ := rp.slot i _ z2
      exact ⟨ov, q3, q4⟩
  · rcases hide_get h1 with z | ⟨d, z, _⟩ <;> cases z
/-- the state of a def that got something to call -/
theorem Rep.startW {M : List Str} {f c : Addr} {q : Str} (st : Stt G F ρ H S) (hc : H c = some (LamX.CodeO c q)) :
    Rep G ⟨F, ρ, H, some (f, c, q), none⟩ F ρ H (L2.start M [.ref f]) (.thk :: List.replicate (M.length - 1) Slot.emp) S := by
  have hcr : c ∉ ρ := fun z => by
    obtain ⟨i, hi, e⟩ := List.getElem_of_mem z
    have hi' : i < S.length := by rw [st.len]; exact hi
    obtain ⟨b, xs, h1, h2, _⟩ := st.sto i S[i] (by simp [hi'])
    rw [List.getElem?_eq_getElem hi] at h1
    have e2 : b = c := by rw [← e]; exact (Option.some.inj h1).symm
    rw [e2, hc] at h2
    unfold LamX.CodeO at h2
    cases h2
  have no : ∀ {i : Nat} {l : List D}, (Slot.thk :: List.replicate (M.length - 1) Slot.emp)[i]? ≠ some (Slot.own l) := fun {i l} z => by
    cases i with
    | zero => cases z
    | succ i =>
      rw [List.getElem?_cons_succ, List.getElem?_replicate] at z
      split at z <;> cases z
  refine ⟨st, .refl, ?_, fun i s hs => ?_, fun a ⟨i, l, h1, _⟩ => absurd h1 no, fun i j di dj a h1 => absurd h1 no⟩
  · unfold L2.start
    simp
  · cases i with
    | zero =>
      cases hs
      exact ⟨some (.ref f), rfl, f, c, q, rfl, rfl, hc, hcr⟩
    | succ i =>
      rw [List.getElem?_cons_succ, List.getElem?_replicate] at hs
      split at hs
      · rename_i hlt
        cases hs
        refine ⟨none, ?_, True.intro⟩
        show (some (V.ref f) :: List.replicate (M.length - 1) (none : Option V))[i + 1]? = some none
        rw [List.getElem?_cons_succ, List.getElem?_replicate, if_pos hlt]
      · cases hs
end
section
variable {T : Tab} {K : PySem.W.Frag} {P : Program} {w : World} {mg : Str → Option Value} {base : Heap} {Pg : Prg}
/-- the name of a def's lambdas -/
def lamQ (x : Str) (sc : Scope) : Str := (envOfC x sc 0 0 .none).qual ++ "<lambda>"
def glOf (T : Tab) (K : PySem.W.Frag) : Gl0 := ⟨K, fun i => (T.fns[i]?).map (·.1), T.lms.map fun x => ((He.cT K (x, none)).2, lamQ x default)⟩
/-- what the head tells -/
structure Told (T : Tab) (K : PySem.W.Frag) (mg : Str → Option Value) (Fds : List Fd) : Prop where
  free : ∀ x ∈ T.free, mg x = none
  cst : ∀ x d, T.cst.lookup x = some d → ∃ u v, mg x = some u ∧ RelV v u ∧ ∀ F ρ H, At (glOf T K) F ρ H v d
  exc : ∀ x ∈ T.exc, mg x = some (.ref (He.ga K x)) ∧ PySem.W.excIn K (He.ga K x) He.veBase "ValueError.__new__" = true ∧ PySem.W.keepIn K (.ref (He.ga K x)) = true ∧
    PySem.W.subIn K (.ref (He.ga K x)) (.type "BaseException") = some true ∧ PySem.W.typeIn K (.ref (He.ga K x)) = some (.type "type")
  glo : ∀ (i : Nat) x ps, T.fns[i]? = some (x, ps) → mg x = some (.ref (He.ga K x))
  fns : ∀ (i : Nat) x ps, T.fns[i]? = some (x, ps) → ∃ f d fd, Fds[i]? = some f ∧ f.name = x ∧ f.ps = ps ∧ DOk T d f ∧ FunD K d.name d.qual d.params d.body d.scope [] [] (He.ga K x) fd
  tri : T.wrd ≠ [] → ∀ x ∈ T.exc, L2.ExcC K (He.ga K x) ∧ PySem.W.kitOne K (.ref (He.ga K x)) (.type "ValueError") = some (T.sub x "ValueError") ∧
    ∀ y ∈ T.exc, PySem.W.exmOne K (.ref (He.ga K x)) (.ref (He.ga K y)) = some (T.sub x y) ∧ PySem.W.kitOne K (.ref (He.ga K x)) (.ref (He.ga K y)) = some (T.sub x y)
  one : ∀ x ∈ T.lms, ∀ y ∈ T.lms, (He.cT K (x, none)).2 = (He.cT K (y, none)).2 → x = y
theorem DOk.binds {d : He.DefD} {f : Fd} {fd : FuncData} {a : Addr} (h : DOk T d f) (F : FunD K d.name d.qual d.params d.body d.scope [] [] a fd) : Binds K fd f.ps [] := by
  have hn : f.ps.Nodup := by
    have := h.sc.pre
    rw [← this]
    exact h.sc.nd.sublist (List.take_sublist _ _)
  refine F.bindsN (ps := f.ps) fun kV doc pm an cdv ct us hl => ?_
  rw [← h.ps] at hl hn ⊢
  exact bind_plain h.plain hn hl
theorem call_len {i : Nat} {x : Str} {ps : List Str} {Γ : Gm} {ds : List D} {S : Sto} (t : Told T K mg Pg.fds) (hi : T.fns[i]? = some (x, ps)) (h : Pg.callG Γ i ds S ≠ .fail) : ds.length = ps.length := by
  obtain ⟨f, d, fd, h1, h2, h3, _⟩ := t.fns i x ps hi
  unfold Prg.callG at h
  rw [h1] at h
  by_cases hl : ds.length = f.ps.length
  · rw [← h3]; exact hl
  · exfalso
    apply h
    show Fd.run f _ ds S = _
    unfold Fd.run
    rw [if_neg hl]
theorem run_len {i : Nat} {x : Str} {ps : List Str} {k : Nat} {ds : List D} {S : Sto} (t : Told T K mg Pg.fds) (hi : T.fns[i]? = some (x, ps)) (h : (gam Pg k).call i ds S ≠ .fail) : ds.length = ps.length := by
  match k with
  | 0 => exact absurd rfl h
  | 1 => exact call_len (Γ := gam Pg 0) t hi h
  | k + 2 => exact call_len (Γ := gam Pg (k + 1)) t hi h
theorem gam_call : ∀ {k i : Nat} {ds : List D} {S : Sto}, (gam Pg (k + 1)).call i ds S = Pg.callG (gam Pg k) i ds S
  | 0, _, _, _ => rfl
  | _ + 1, _, _, _ => rfl
theorem gam_sub : ∀ {k : Nat}, (gam Pg k).sub = Pg.sub
  | 0 => rfl
  | 1 => rfl
  | _ + 2 => rfl
/-- the defs keep their evaluators' promises, so many calls deep -/
def PK (T : Tab) (K : PySem.W.Frag) (P : Program) (w : World) (mg : Str → Option Value) (base : Heap) (Pg : Prg) (k : Nat) : Prop := ∀ (i : Nat) x ps, T.fns[i]? = some (x, ps) →
  ∃ fd, Binds K fd ps [] ∧ (∃ d : He.DefD, FunD K d.name d.qual d.params d.body d.scope [] [] (He.ga K x) fd) ∧ FnG P w K mg base (L2.CX P w) k (He.ga K x) fd ps (spC (glOf T K) ps.length ((gam Pg k).call i))
theorem gok_of {k : Nat} (t : Told T K mg Pg.fds) (hs : ∀ x y, Pg.sub x y = T.sub x y) (ih : PK T K P w mg base Pg k) (B : Bd) (hB : B.G = glOf T K) (Γ : Gm) (hc : Γ.call = (gam Pg k).call) (hsb : Γ.sub = (gam Pg k).sub) : GOk B T Γ k P w mg base := by
  obtain ⟨G, N, W⟩ := B
  cases (show G = glOf T K from hB)
  refine ⟨t.free, t.cst, fun i x ps hi => ?_, fun i x ps hi => ?_, t.exc, fun i x ps ds S hi h => ?_, fun i x hx => ?_, fun x y => ?_, t.tri⟩
  · show (T.fns[i]?).map (·.1) = some x
    rw [hi]; rfl
  · obtain ⟨fd, q1, _, q2⟩ := ih i x ps hi
    obtain ⟨f, d, fd2, h1, h2, h3, h4, h5⟩ := t.fns i x ps hi
    exact ⟨t.glo i x ps hi, h5.kp, fd, q1, by rw [hc]; exact q2⟩
  · rw [hc] at h
    exact run_len t hi h
  · obtain ⟨p, h1, h2⟩ := Option.map_eq_some_iff.mp (show (T.fns[i]?).map (·.1) = some x from hx)
    subst h2
    exact ⟨p.2, h1⟩
  · rw [hsb, gam_sub]; exact hs x y
theorem no_thk {B : Bd} {X : Cx} {Γ : Gm} {a : Str} {p p2 : Pos} (h : B.N.thk = none) (W : WX) : PE X (.Call (.Name a p) [] [] p2) (tR { B with W := W } (RA B) (thkM Γ 0)) := ⟨fun pins s σ H Q I ⟨F, ρ, en, S, rp, g⟩ => by
  exfalso
  unfold thkM at g
  cases he : en[0]? with
  | none => rw [he] at g; exact g
  | some sl =>
    rw [he] at g
    cases sl with
    | thk =>
      obtain ⟨ov, h1, f, c, q, h2, h3, _⟩ := rp.slot 0 _ he
      rw [show ({ B with W := W } : Bd).N = B.N from rfl, h] at h3
      cases h3
    | _ => exact g⟩
/-- what the def makes of what it got -/
def TTw (G : Gl0) (f : Fd) (Γ : Gm) (tl : XK → Hp → VK → Prop) (H : Hp) (Q : VK) : Prop := ∃ F ρ S thkR, Stt G F ρ H S ∧
  (∀ F' ρ' H' S' E Q', Ext No F ρ H F' ρ' H' → Stt G F' ρ' H' S' → GoodF G F' ρ' H' (thkR S') Q' E → tl E H' Q') ∧ GoodF G F ρ H (f.runW { Γ with thk := thkR } S) Q fun _ _ _ => False
theorem GoodF.frm {B : Bd} {σ : L2.St} {F ρ H} {en : Env} {S : Sto} {r : FR} {Q : VK} (g : Good B σ (RA B) F ρ H en (frM r en) Q) (rp : Rep B.G B.N F ρ H σ en S) : GoodF B.G F ρ H r Q (WE B.W σ) := by
  cases r with
  | ok d S' =>
    intro F' ρ' H' v x st at'
    obtain ⟨r1, m1⟩ := rp.call x st
    exact g F' ρ' H' v m1 r1 at'
  | exc x S' =>
    intro F' ρ' H' cls od x' st ev
    obtain ⟨r1, m1⟩ := rp.call x' st
    exact g F' ρ' H' cls od m1 r1 ev
  | fail => exact g
theorem GoodF.ends {B : Bd} {F ρ H} {N : Ent} (hN : N.F = F ∧ N.ρ = ρ ∧ N.H = H) {r : Res Fl} {Q : VK} {E : XK} (hB : B.N = N) (hW : B.W = fun cls od _ H' => E cls od H') (g : GoodF B.G F ρ H (match r with
    | .ok (.rt d) _ S' => .ok d S'
    | .ok .nx _ S' => .ok .non S'
    | .ok _ _ _ => .fail
    | .exc x _ S' => .exc x S'
    | .fail => .fail) Q E) : GoodS B F ρ H r { nx := fun _ H' => Q .non H', rt := Q } := by
  subst hB
  obtain ⟨e1, e2, e3⟩ := hN
  cases r with
  | fail => exact g
  | exc xx e' S' =>
    intro F' ρ' H' σ' cls od st rp ev
    rw [hW]
    have x := rp.ext
    rw [e1, e2, e3] at x
    exact g F' ρ' H' cls od x rp.st ev
  | ok fl e' S' =>
    intro F' ρ' H' σ' st rp
    have x := rp.ext
    rw [e1, e2, e3] at x
    cases fl with
    | nx => exact g F' ρ' H' .non x rp.st .non
    | bk => exact False.elim g
    | ct => exact False.elim g
    | rt dd => exact fun v hv => g F' ρ' H' v x rp.st hv
theorem ps_one {ps : List Str} (h : ps.length = 1) : ∃ a, ps = [a] := by
  match ps, h with
  | [a], _ => exact ⟨a, rfl⟩
theorem pre_one {N : List Str} {a : Str} (h : N.take 1 = [a]) : N[0]? = some a := by
  cases N with
  | nil => cases h
  | cons b r => simp at h; simp [h]
/-- THE RULE of w(lambda: e) -/
theorem lam_rule {k n w' : Nat} {B : Bd} {c : Ctx} {X : Cx} {x : Str} {params : Arguments} {body : PySem.Expr} {scope : Scope} {b : E} {p p2 p3 : Pos} {ca Pt : Addr} (t : Told T K mg Pg.fds) (hs : ∀ x y, Pg.sub x y = T.sub x y) (ih : PK T K P w mg base Pg k)
    (hB : B.G = glOf T K) (hBn : B.N.exn = none) (hX : X.prog = P ∧ X.w = w ∧ X.K = K ∧ X.mg = mg ∧ X.base = base ∧ X.N = c.N ∧ X.N.Nodup ∧ X.env.scope = c.sc) (hr : Rm (k + 2) X.A) (TB : LamX.TabB base mg ca Pt) (hcode : X.env.code = .ref ca)
    (hT : (Pt, X.env.qual ++ "<lambda>") ∈ (glOf T K).tb) (hu : ∀ p ∈ (glOf T K).tb, p.1 = Pt → p.2 = X.env.qual ++ "<lambda>")
    (h1 : noPs params = true) (h2 : LamX.lamSB c.sc scope = true) (h3 : globB c.sc x = true) (h4 : noDebug x = true) (h5 : T.wrd.contains x = true) (h6 : fnIx T.fns x = some w') (h7 : cE T n (lamCtx c scope) body = some b) :
    PE X (.Call (.Name x p) [.Lambda params body scope p2] [] p3) (tR B (RA B) (wordM (gam Pg (k + 2)) w' b)) := by
  obtain ⟨G0, N0, W0⟩ := B
  cases (show G0 = glOf T K from hB)
  obtain ⟨xP, xw, xK, xmg, xb, xN, xnd, xsc⟩ := hX
  obtain ⟨ps, hi⟩ := fnIx_ok h6
  obtain ⟨f, d, fd, e1, e2, e3, D, Fu⟩ := t.fns w' x ps hi
  have hpl := D.wrd (by rw [e2]; exact h5)
  obtain ⟨a, ha⟩ := ps_one hpl
  have FnB := D.binds Fu
  obtain ⟨oc, od, dV, kV, doc, pm, an, cdv, ct, osl, efd, lk, hcd, _, _⟩ := Fu.ex
  subst efd
  have en1 : d.name = x := D.name.trans e2
  have en2 : d.qual = x := D.qual.trans e2
  rw [en1, en2] at lk FnB
  rw [en2] at hcd
  rw [ha] at FnB
  have S1 := D.sc
  rw [ha] at S1
  have L : LamX.LamS X.env.scope scope := LamX.lamS_by (by rw [xsc]; exact h2)
  have hM : f.N[0]? = some a := pre_one S1.pre
  have hva : Vis d.scope a := (S1.par a List.mem_cons_self).elim .inl fun z => .inr (.inl z)
  have dba : noDebug a = true := by
    have := D.dbg
    rw [ha] at this
    simpa using this
  have ep : params = ⟨[], [], none, [], [], none, []⟩ := by
    unfold noPs at h1
    split at h1
    · rfl
    · cases h1
  subst xP xw xK xmg xb
  obtain ⟨o, nn, hbody⟩ := D.body
  have gk : ∀ (B2 : Bd), B2.G = glOf T X.K → ∀ Γ : Gm, Γ.call = (gam Pg k).call → Γ.sub = (gam Pg k).sub → GOk B2 T Γ k X.prog X.w X.mg X.base := fun B2 hB2 Γ c1 c2 => gok_of t hs ih B2 hB2 Γ c1 c2
  have hG : GotBy X f.N x d.scope (He.ga X.K x) cdv d.body a (X.env.qual ++ "<lambda>") (k + 1) (TTw (glOf T X.K) f (gam Pg k)) := by
    intro f' co s' H' Q tl hr' act hc ⟨F, ρ, S, thkR, st, htl, gf⟩
    let B' : Bd := ⟨glOf T X.K, ⟨F, ρ, H', some (f', co, X.env.qual ++ "<lambda>"), none⟩, fun _ _ _ _ => False⟩
    let Γ' : Gm := { gam Pg k with thk := thkR }
    have hct : (dCtx T f.name f.N d.scope).thk = true := by
      show T.wrd.contains f.name = true
      rw [e2]; exact h5
    have xok : SOk B' T Γ' k (dCtx T f.name f.N d.scope) (wCx X f.N x d.scope (He.ga X.K x) cdv s' H').nox := {
      x := {
        K := rfl
        N := rfl
        nd := S1.nd
        sc := rfl
        calm := rfl
        fn := fun _ _ => rfl
        tk := L2.takes0
        gl := gk B' rfl Γ' rfl rfl
        room := fun _ => hr'.mono (Nat.le_succ k)
        hu := by
          have := hr'.r.un
          show (X.A.deeper (envOfC x d.scope s'.heap.objs.size (He.ga X.K x) cdv)).units + 70 < cLine
          omega
        thk := fun _ a' p p2 q1 q2 q3 pn xe W tk => by
          have ea : a' = a := Option.some.inj (q1.symm.trans hM)
          subst ea
          refine PEi (act W pn xe p p2 tk) fun σ H2 Q2 ⟨F1, ρ1, e1, S1, rp, g⟩ => ?_
          unfold thkM at g
          cases he : e1[0]? with
          | none => rw [he] at g; exact False.elim g
          | some sl =>
            rw [he] at g
            cases sl with
            | thk =>
              obtain ⟨ov, z1, f2, c2, q2, z2, z3, z4, z5⟩ := rp.slot 0 _ he
              have z3' : some (f', co, X.env.qual ++ "<lambda>") = some (f2, c2, q2) := z3
              cases z3'
              subst z2
              exact ⟨z1, z4, htl F1 ρ1 H2 S1 (WE W σ) Q2 rp.ext rp.st (GoodF.frm (B := { B' with W := W }) g rp)⟩
            | _ => exact False.elim g
        err := fun h => nomatch (show false = true from h)
        lam := fun h => by
          have : (T.lms.contains f.name && !T.wrd.contains f.name) = true := h
          rw [e2, h5] at this
          simp at this
        nox := fun _ => rfl }
      own := fun _ h => by rw [hct] at h; cases h
      fk := S1.kind
      fr := fun _ => ⟨rfl, rfl⟩ }
    refine ⟨tRS B' (evSs Γ' f.body), (cps_all nn).ss _ _ _ hbody B' Γ' k _ xok, F, ρ, _, S, Rep.startW st hc, ?_⟩
    exact GoodF.ends (B := B') (N := B'.N) ⟨rfl, rfl, rfl⟩ rfl rfl gf
  refine PEi (pe_lam (k := k) (T := (glOf T X.K).tb) (TT := TTw (glOf T X.K) f (gam Pg k)) (t := fun E => tR ⟨glOf T X.K, N0, fun cls od _ H' => E cls od H'⟩ (RA ⟨glOf T X.K, N0, W0⟩) (evE (gam Pg k) b))
    (gl_of xsc h3) (t.glo w' x ps hi) Fu.kp lk hcd FnB S1 hM hva hG TB hcode hT hu hr L (by rw [ep]; rfl) (fun q cl pm cv ctv => by rw [ep]; rfl) (fun A o s H E f' co hk => ?_) (nd1 h4) (nd1 dba) (nd2 dba)) fun σ H Q ⟨F, ρ, en, S, rp, g⟩ => ?_
  · refine ((cp_all n).e _ _ _ h7).a ⟨glOf T X.K, N0, fun cls od _ H' => E cls od H'⟩ (gam Pg k) k (LamX.lamCx X A o s H E scope f' co) {
      K := rfl
      N := xN
      nd := xnd
      sc := rfl
      calm := rfl
      fn := fun y hy => by
        have hy' : (scope.names.lookup y == some .cell) = true := hy
        exact absurd rfl (L.own _ (PySem.mem_of_lookup (eq_of_beq hy'))).2
      tk := L2.takes_of (E := E) rfl rfl rfl rfl
      gl := gk ⟨glOf T X.K, N0, fun cls od _ H' => E cls od H'⟩ rfl (gam Pg k) rfl rfl
      room := fun _ => hk
      hu := by
        have := hk.r.un
        show (A.deeper (LamX.lamEnv X scope s.heap.objs.size f' co)).units + 70 < cLine
        omega
      thk := fun h => nomatch (show false = true from h)
      err := fun h => nomatch (show false = true from h)
      lam := fun h => nomatch (show false = true from h)
      nox := fun _ => hBn }
  · refine ⟨rp.st.tabs, fun H1 eN T1 => ?_⟩
    have st1 : Stt (glOf T X.K) F ρ H1 S := rp.st.lam eN T1
    have ex1 : Ext No F ρ H F ρ H1 := Ext.lam eN
    · refine ⟨F, ρ, S, thkOf (gam Pg k) b (en.map hideS), st1, fun F' ρ' H' S' E Q' x st g' => ?_, ?_⟩
      · obtain ⟨rp2, _⟩ := rp.hideAll.call (ex1.trans x fun _ z => z.elim) st
        refine ⟨F', ρ', en.map hideS, S', rp2, ?_⟩
        unfold thkOf at g'
        cases hm : evE (gam Pg k) b (en.map hideS) S' with
        | ok dd e1 S2 =>
          rw [hm] at g'
          exact fun F2 ρ2 H2 v m rp3 at' => g' F2 ρ2 H2 v (m.ext.weak fun a z => absurd z hide_own) rp3.st at'
        | exc xx e1 S2 =>
          rw [hm] at g'
          exact fun F2 ρ2 H2 cls od m rp3 ev => g' F2 ρ2 H2 cls od (m.ext.weak fun a z => absurd z hide_own) rp3.st ev
        | fail =>
          rw [hm] at g'
          exact g'
      · unfold wordM at g
        have ew : (gam Pg (k + 2)).word w' b (en.map hideS) S = f.runW { gam Pg k with thk := thkOf (gam Pg k) b (en.map hideS) } S := by
          show Pg.wordG (gam Pg k) w' b (en.map hideS) S = _
          unfold Prg.wordG
          rw [e1]
        rw [ew] at g
        cases hm : f.runW { gam Pg k with thk := thkOf (gam Pg k) b (en.map hideS) } S with
        | ok dd S2 =>
          rw [hm] at g
          intro F2 ρ2 H2 v x st at'
          obtain ⟨rp2, m2⟩ := rp.call (ex1.trans x fun _ z => z.elim) st
          exact g F2 ρ2 H2 v m2 rp2 at'
        | exc _ _ => rw [hm] at g; exact False.elim g
        | fail => rw [hm] at g; exact g
/-- THE PROGRAM: each def keeps its evaluator's promise, at every depth of calls -/
theorem prog_ok (t : Told T K mg Pg.fds) (hs : ∀ x y, Pg.sub x y = T.sub x y) (tb : ∀ x ∈ T.lms, LamX.TabB base mg (He.cT K (x, none)).1 (He.cT K (x, none)).2) : ∀ k : Nat, PK T K P w mg base Pg k := by
  intro k
  induction k using Nat.strongRecOn with
  | ind k ih =>
  cases k with
  | zero =>
    intro i x ps hi
    obtain ⟨f, d, fd, h1, h2, h3, h4, h5⟩ := t.fns i x ps hi
    subst h3
    exact ⟨fd, h4.binds h5, ⟨d, h5⟩, ⟨fun vs H Q E ⟨F, ρ, S, ds, q1, q2, q3, q4⟩ => q4.elim, fun A outer s H args us vs Q E _ _ _ _ ⟨F, ρ, S, ds, q1, q2, q3, q4⟩ => q4.elim⟩⟩
  | succ k =>
    intro i x ps hi
    obtain ⟨f, d, fd, h1, h2, h3, h4, h5⟩ := t.fns i x ps hi
    subst h3
    refine ⟨fd, h4.binds h5, ⟨d, h5⟩, ?_⟩
    obtain ⟨o, n, hbody⟩ := h4.body
    obtain ⟨oc, od, dV, kV, doc, pm, an, cdv, ct, osl, efd, lk, hcd, _, _⟩ := h5.ex
    subst efd
    refine ⟨fun vs H Q E ⟨F, ρ, S, ds, q1, q2, q3, q4⟩ => by rw [q3.length]; exact q1, fun A outer s H args us vs Q E rm e0 bd rv ⟨F, ρ, S, ds, q1, q2, q3, q4⟩ => ?_⟩
    refine LamX.run_ofS lk hcd (N := f.N) h4.sc rm.r e0 bd rv (by rw [q3.length]; exact q1) fun hr' => ?_
    have hr : Rm k (A.deeper (envOfC d.qual d.scope s.heap.objs.size (He.ga K x) cdv)) := ⟨hr', rm.g⟩
    let B : Bd := ⟨glOf T K, ⟨F, ρ, H, none, none⟩, fun cls od _ H' => E cls od H'⟩
    let X : Cx := cxOf (L2.CX P w) P w K mg base f.N d.qual d.scope (He.ga K x) cdv A outer s H E
    have xok : SOk B T (gam Pg k) k (dCtx T f.name f.N d.scope) X := {
      x := {
        K := rfl
        N := rfl
        nd := h4.sc.nd
        sc := rfl
        calm := rfl
        fn := fun _ _ => rfl
        tk := L2.takes_of (E := E) rfl rfl rfl rfl
        gl := gok_of t hs (ih k (Nat.lt_succ_self k)) B rfl _ rfl rfl
        room := fun _ => hr
        hu := by
          have := hr.r.un
          show (A.deeper (envOfC d.qual d.scope s.heap.objs.size (He.ga K x) cdv)).units + 70 < cLine
          omega
        thk := fun _ a p p2 _ _ _ pn xe W _ => no_thk rfl W
        err := fun h => nomatch (show false = true from h)
        lam := fun hl _ n' w' y params body scope b p p2 p3 g1 g2 g3 g4 g5 g6 g7 => by
          match k with
          | 0 => exact ⟨fun pins s σ H Q I ⟨F, ρ, en, S, rp, g⟩ => False.elim g⟩
          | 1 => exact ⟨fun pins s σ H Q I ⟨F, ρ, en, S, rp, g⟩ => False.elim g⟩
          | k + 2 =>
            have hl' : (T.lms.contains f.name && !T.wrd.contains f.name) = true := hl
            rw [Bool.and_eq_true] at hl'
            have hm := List.contains_iff_mem.mp hl'.1
            rw [h2] at hm
            have hat : d.at_ = (x, none) := by rw [h4.at_, h2]
            obtain ⟨ca, hca⟩ := He.codeIn_ref hcd
            have hco : He.codeOf K (x, none) = ca := He.codeOf_eq (p := (x, none)) lk hca
            have e1 : (He.cT K (x, none)).1 = ca := hco
            have eq : X.env.qual ++ "<lambda>" = lamQ x default := by
              show (envOfC d.qual d.scope s.heap.objs.size (He.ga K x) cdv).qual ++ "<lambda>" = _
              rw [h4.qual, h2]
              rfl
            refine lam_rule (Pg := Pg) (ca := ca) (Pt := (He.cT K (x, none)).2) t hs (ih k (by omega)) rfl rfl ⟨rfl, rfl, rfl, rfl, rfl, rfl, h4.sc.nd, rfl⟩ hr (by rw [← e1]; exact tb x hm) hca ?_ (fun p hp e => ?_) g1 g2 g3 g4 g5 g6 g7
            · rw [eq]
              exact List.mem_map.mpr ⟨x, hm, rfl⟩
            · obtain ⟨y, hy, ey⟩ := List.mem_map.mp hp
              subst ey
              have := t.one y hy x hm e
              subst this
              exact eq.symm
        nox := fun _ => rfl }
      own := fun _ _ => L2.passes_of rfl
      fk := h4.sc.kind
      fr := fun _ => ⟨rfl, rfl⟩ }
    refine ⟨tRS B (evSs (gam Pg k) f.body), (cps_all n).ss _ _ _ hbody B (gam Pg k) k _ xok, F, ρ, _, S, Rep.start q2 q3, ?_⟩
    have q4' : GoodF (glOf T K) F ρ H (f.run (gam Pg k) ds S) Q E := by
      have : (gam Pg (k + 1)).call i ds S = f.run (gam Pg k) ds S := by
        rw [gam_call]
        unfold Prg.callG
        rw [h1]
      rw [← this]
      exact q4
    unfold Fd.run at q4'
    rw [if_pos q1] at q4'
    exact GoodF.ends (B := B) (N := B.N) ⟨rfl, rfl, rfl⟩ rfl rfl q4'
end
end Eng

set_option maxHeartbeats 4000000
/-! THE ENGINE, part W: the head's check, the law's end. -/
namespace Eng
open PySem PySem.Spec L2 PyProof.Rows
/-! ### constants -/
def atB (K : PySem.W.Frag) : Nat → Value → D → Bool
  | _, .none, .non => true
  | _, .bool b, .bl b' => b == b'
  | _, .int i _, .int j => decide (i = j)
  | _, .str x _, .str y => decide (x = y)
  | n + 1, .ref a, .tup ds => (match K.lookup a with
    | some ⟨.type c, none, .seq its _, _⟩ => decide (c = "tuple") && decide (its.size ≤ sizeLine) && decide (its.toList.length = ds.length) && (its.toList.zip ds).all fun p => atB K n p.1 p.2
    | _ => false)
  | _, _, _ => false
theorem atB_ok {G : Gl0} : ∀ {n : Nat} {u : Value} {d : D}, atB G.K n u d = true → ∃ v, RelV v u ∧ ∀ F ρ H, At G F ρ H v d := by
  intro n
  induction n with
  | zero =>
    intro u d h
    unfold atB at h
    split at h
    · exact ⟨.non, rfl, fun _ _ _ => .non⟩
    · rename_i b b'
      have e : b = b' := by simpa using h
      subst e
      exact ⟨.bl b, rfl, fun _ _ _ => .bl b⟩
    · have e := of_decide_eq_true h
      subst e
      exact ⟨.int _, ⟨_, rfl⟩, fun _ _ _ => .int _⟩
    · have e := of_decide_eq_true h
      subst e
      exact ⟨.str _, ⟨_, rfl⟩, fun _ _ _ => .str _⟩
    · rename_i z; cases z
    · cases h
  | succ n ih =>
    intro u d h
    unfold atB at h
    split at h
    · exact ⟨.non, rfl, fun _ _ _ => .non⟩
    · rename_i b b'
      have e : b = b' := by simpa using h
      subst e
      exact ⟨.bl b, rfl, fun _ _ _ => .bl b⟩
    · have e := of_decide_eq_true h
      subst e
      exact ⟨.int _, ⟨_, rfl⟩, fun _ _ _ => .int _⟩
    · have e := of_decide_eq_true h
      subst e
      exact ⟨.str _, ⟨_, rfl⟩, fun _ _ _ => .str _⟩
    · rename_i n' a ds hn
      cases hn
      split at h
      · rename_i c its m sl hK
        obtain ⟨h, h4⟩ := b2 h
        obtain ⟨h, h3⟩ := b2 h
        obtain ⟨h1, h2⟩ := b2 h
        have hc := of_decide_eq_true h1
        subst hc
        have key : ∀ (us : List Value) (ds : List D), us.length = ds.length → ((us.zip ds).all fun p => atB G.K n p.1 p.2) = true → ∃ xs, Vals xs us ∧ ∀ F ρ H, AtL G F ρ H xs ds := by
          intro us
          induction us with
          | nil =>
            intro ds hl _
            cases ds with
            | nil => exact ⟨[], .nil, fun _ _ _ => .nil⟩
            | cons _ _ => cases hl
          | cons u us ihu =>
            intro ds hl ha
            cases ds with
            | nil => cases hl
            | cons d ds =>
              rw [List.zip_cons_cons, List.all_cons, Bool.and_eq_true] at ha
              obtain ⟨v, q1, q2⟩ := ih ha.1
              obtain ⟨xs, q3, q4⟩ := ihu ds (by simpa using hl) ha.2
              exact ⟨v :: xs, .cons q1 q3, fun F ρ H => .cons (q2 F ρ H) (q4 F ρ H)⟩
        obtain ⟨xs, q1, q2⟩ := key its.toList ds (of_decide_eq_true h3) h4
        exact ⟨.ref a, rfl, fun F ρ H => .tup (.inr ⟨_, its, m, hK, rfl, rfl, rfl, of_decide_eq_true h2, q1⟩) (q2 F ρ H)⟩
      · cases h
    · cases h
/-! ### the hook -/
def excB (K : PySem.W.Frag) (D : Addr) : Bool := He.eqO (PySem.W.findIn K (.ref D) "__getattribute__") (some (some (.builtin "BaseException.__getattribute__"))) && He.eqO (PySem.W.findIn K (.ref D) "__getattr__") (some none) && (PySem.W.subIn K (.ref D) (.type "BaseException") == some true) && PySem.W.hasDictIn K D &&
  He.eqO (PySem.W.findIn K (.ref D) "__class__") (some (some (.builtin "object.__class__"))) && He.eqO (PySem.W.specialIn K (.builtin "object.__class__") "__get__") (some (some (.builtin "getset_descriptor.__get__"))) && (PySem.W.takesIn K (.builtin "object.__class__") == some true) && (PySem.W.mroIn K D (.type "object") == some true)
theorem excB_ok {K : PySem.W.Frag} {D : Addr} (h : excB K D = true) : L2.ExcC K D := by
  unfold excB at h
  obtain ⟨h, h8⟩ := b2 h
  obtain ⟨h, h7⟩ := b2 h
  obtain ⟨h, h6⟩ := b2 h
  obtain ⟨h, h5⟩ := b2 h
  obtain ⟨h, h4⟩ := b2 h
  obtain ⟨h, h3⟩ := b2 h
  obtain ⟨h1, h2⟩ := b2 h
  exact ⟨He.eqO_ok h1, He.eqO_ok h2, by simpa using h3, h4, He.eqO_ok h5, He.eqO_ok h6, by simpa using h7, by simpa using h8⟩
def triB (T : Tab) (K : PySem.W.Frag) : Bool := T.exc.all fun x => excB K (He.ga K x) && (PySem.W.kitOne K (.ref (He.ga K x)) (.type "ValueError") == some (T.sub x "ValueError")) &&
  T.exc.all fun y => (PySem.W.exmOne K (.ref (He.ga K x)) (.ref (He.ga K y)) == some (T.sub x y)) && (PySem.W.kitOne K (.ref (He.ga K x)) (.ref (He.ga K y)) == some (T.sub x y))
def oneB (T : Tab) (K : PySem.W.Frag) : Bool := T.lms.all fun x => T.lms.all fun y => !((He.cT K (x, none)).2 == (He.cT K (y, none)).2) || (x == y)
def chk (T : Tab) (K : PySem.W.Frag) : Bool := (T.free.all fun x => (He.Fa.free x).ok K) && (T.fns.all fun p => (He.Fa.glo p.1).ok K) && (T.exc.all fun x => (He.Fa.glo x).ok K && (He.Fa.exc x).ok K) &&
  (T.cst.all fun p => match PySem.W.nsIn K mainGlobals p.1 with
    | some (some v) => atB K 6 v p.2
    | _ => false) && (T.wrd.isEmpty || triB T K) && oneB T K
def tfOf (T : Tab) : List He.Defn := T.lms.map fun x => (x, none)
abbrev hookX (n : Nat) (T : Tab) (fn : List He.DefD) : PySem.W.Hook := He.hookX n [] fn [] (tfOf T) (chk T)
def obsXG (n : Nat) (T : Tab) (fn : List He.DefD) (g : Addr → Option Obj) : He.AlX := He.obsX n [] fn [] (tfOf T) (chk T) g
theorem obsXG_eq {n : Nat} {T : Tab} {fn : List He.DefD} {g : Addr → Option Obj} {s : Shared} (h : ∀ a, g a = s.heap.get? a) : obsXG n T fn g = (hookX n T fn).obs s := He.obsX_eq h
/-- the defs, their evaluators: one behind another -/
inductive Defs (T : Tab) : List He.DefD → List Fd → List (Str × List Str) → Prop where
  | nil : Defs T [] [] []
  | cons {d : He.DefD} {f : Fd} {ds : List He.DefD} {fs : List Fd} {ps : List (Str × List Str)} : DOk T d f → Defs T ds fs ps → Defs T (d :: ds) (f :: fs) ((f.name, f.ps) :: ps)
theorem Defs.at {T : Tab} {ds : List He.DefD} {fs : List Fd} {ps : List (Str × List Str)} (h : Defs T ds fs ps) : ∀ {i : Nat} {x : Str} {q : List Str}, ps[i]? = some (x, q) → ∃ d f, ds[i]? = some d ∧ fs[i]? = some f ∧ f.name = x ∧ f.ps = q ∧ DOk T d f := by
  induction h with
  | nil => intro i x q e; simp at e
  | @cons d f ds fs ps h t ih =>
    intro i x q e
    cases i with
    | zero =>
      rw [List.getElem?_cons_zero] at e
      cases e
      exact ⟨d, f, rfl, rfl, rfl, rfl, h⟩
    | succ i =>
      rw [List.getElem?_cons_succ] at e
      exact ih e
theorem told_of {T : Tab} {fn : List He.DefD} {Fds : List Fd} {K : PySem.W.Frag} {w : World} {h : Heap} {mg : Str → Option Value} (X : K.In h) (G : h.Ns mainGlobals mg) (c : He.SaysX [] fn [] (tfOf T) (chk T) w h K) (df : Defs T fn Fds T.fns) : Told T K mg Fds := by
  have c1 := c.more
  have cd := c.t.d
  unfold chk at c1
  obtain ⟨c1, k6⟩ := b2 c1
  obtain ⟨c1, k5⟩ := b2 c1
  obtain ⟨c1, k4⟩ := b2 c1
  obtain ⟨c1, k3⟩ := b2 c1
  obtain ⟨k1, k2⟩ := b2 c1
  have glo : ∀ (i : Nat) x ps, T.fns[i]? = some (x, ps) → mg x = some (.ref (He.ga K x)) := fun i x ps hi => He.glo_ok X G (List.all_eq_true.mp k2 (x, ps) (List.mem_of_getElem? hi))
  refine ⟨fun x hx => He.free_ok X G (List.all_eq_true.mp k1 x hx), fun x d hx => ?_, fun x hx => ?_, glo, fun i x ps hi => ?_, fun hw x hx => ?_, fun x hx y hy e => ?_⟩
  · have hm := List.all_eq_true.mp k4 (x, d) (PySem.mem_of_lookup hx)
    simp only at hm
    split at hm
    · rename_i v hv
      obtain ⟨w, q1, q2⟩ := atB_ok (G := glOf T K) hm
      exact ⟨v, w, PySem.W.mg_of X G hv, q1, q2⟩
    · cases hm
  · obtain ⟨q1, q2⟩ := b2 (List.all_eq_true.mp k3 x hx)
    obtain ⟨e1, e2, e3, e4⟩ := He.exc_ok q2
    exact ⟨He.glo_ok X G q1, e1, e2, e3, e4⟩
  · obtain ⟨d, f, h1, h2, h3, h4, h5⟩ := df.at hi
    obtain ⟨fd, F⟩ := cd.defs (List.mem_of_getElem? h1)
    refine ⟨f, d, fd, h2, h3, h4, h5, ?_⟩
    have e3 : He.fAd K d.at_ = He.ga K x := by rw [h5.at_, h3]; rfl
    have e4 : d.dvs K = [] := by unfold He.DefD.dvs; rw [h5.dfl]; rfl
    have e5 : d.kws K = [] := by unfold He.DefD.kws; rw [h5.kwd]; rfl
    rw [e3, e4, e5] at F
    exact F
  · rw [Bool.or_eq_true] at k5
    rcases k5 with k5 | k5
    · exact absurd (List.isEmpty_iff.mp k5) hw
    · obtain ⟨q, q3⟩ := b2 (List.all_eq_true.mp k5 x hx)
      obtain ⟨q1, q2⟩ := b2 q
      refine ⟨excB_ok q1, by simpa using q2, fun y hy => ?_⟩
      obtain ⟨z1, z2⟩ := b2 (List.all_eq_true.mp q3 y hy)
      exact ⟨by simpa using z1, by simpa using z2⟩
  · have z := List.all_eq_true.mp (List.all_eq_true.mp k6 x hx) y hy
    rw [e] at z
    simpa using z
/-! ### the law -/
theorem At.script {T : Tab} {K : PySem.W.Frag} {H : Hp} {a : Addr} {ns : List Int} (h : SqL K H a (ns.map V.int)) (ht : LamX.Tabs (glOf T K).tb H) : ∃ F, Stt (glOf T K) F [] H [] ∧ AtL (glOf T K) F [] H [.ref a] [.scr (ns.map D.int)] := by
  have allI : ∀ (F : Addr → Prop) (l : List Int), AtL (glOf T K) F [] H (l.map V.int) (l.map D.int) := fun F l => by
    induction l with
    | nil => exact .nil
    | cons i l ih => exact .cons (.int i) ih
  rcases h with h | ⟨o, its, n, h1, h2, h3, h4, h5, h6⟩
  · refine ⟨fun b => b = a, ⟨List.nodup_nil, fun _ _ => by simp, fun b hb => ?_, ht, rfl, fun i l z => by simp at z⟩, .cons (.scr (.inl ⟨rfl, h⟩) (allI _ ns)) .nil⟩
    subst hb
    rcases h with h | ⟨o, h⟩ <;> exact fun z => z.no h rfl
  · exact ⟨fun _ => False, ⟨List.nodup_nil, fun _ h => h.elim, fun _ h => h.elim, ht, rfl, fun i l z => by simp at z⟩, .cons (.scr (.inr ⟨o, its, n, h1, h2, h3, h4, h5, h6⟩) (allI _ ns)) .nil⟩
/-! ### the law's call -/
section
variable {P : Program} {w : World} {K : PySem.W.Frag} {mg : Str → Option Value}
def tabO : Obj := { cls := .none, data := .fields #[] }
def lstO (us : List Value) : Obj := { cls := .type "list", data := .seq us.toArray }
/-- the abstract heap at the law's call: the script (if the head does not hold it), the tables -/
def entryH (K : PySem.W.Frag) (a : Addr) (us : List Value) (ns : List Int) (ts : List Addr) : Hp := fun b =>
  if b ∈ ts then some (.tbl #[]) else if b = a then (match K.lookup a with
    | some _ => none
    | none => some (.frz (lstO us) (.lst (ns.map V.int)))) else none
/-- what stands there -/
structure Entry (K : PySem.W.Frag) (h : Heap) (a : Addr) (us : List Value) (ns : List Int) (ts : List Addr) : Prop where
  kin : K.In h
  at_ : h.get? a = some (lstO us)
  rel : Vals (ns.map V.int) us
  len : us.length = ns.length
  sz : ns.length ≤ sizeLine
  tab : ∀ b ∈ ts, h.get? b = some tabO
  out : ∀ b ∈ ts, K.lookup b = none
variable {h : Heap} {a : Addr} {us : List Value} {ns : List Int} {ts : List Addr}
theorem Entry.apart (x : Entry K h a us ns ts) : a ∉ ts := fun z => by
  have e := x.at_.symm.trans (x.tab a z)
  exact nomatch congrArg Obj.data (Option.some.inj e)
theorem Entry.isT (x : Entry K h a us ns ts) {b : Addr} (hb : b ∈ ts) : entryH K a us ns ts b = some (.tbl #[]) := if_pos hb
theorem Entry.cases (x : Entry K h a us ns ts) (b : Addr) : entryH K a us ns ts b = none ∨ b ∈ ts ∨ (b = a ∧ K.lookup a = none ∧ entryH K a us ns ts b = some (.frz (lstO us) (.lst (ns.map V.int)))) := by
  unfold entryH
  by_cases hb : b ∈ ts
  · exact .inr (.inl hb)
  · by_cases e : b = a
    · cases hk : K.lookup a with
      | some o => left; rw [if_neg hb, if_pos e]
      | none => exact .inr (.inr ⟨e, rfl, by rw [if_neg hb, if_pos e]⟩)
    · left; rw [if_neg hb, if_neg e]
theorem Entry.plain (x : Entry K h a us ns ts) {b : Addr} {o : Obj} (e : h.get? b = some o) (h1 : o ≠ lstO us) (h2 : o ≠ tabO) : entryH K a us ns ts b = none := by
  rcases x.cases b with z | z | ⟨z, _⟩
  · exact z
  · exact absurd (Option.some.inj (e.symm.trans (x.tab b z))) h2
  · subst z; exact absurd (Option.some.inj (e.symm.trans x.at_)) h1
theorem Entry.held (x : Entry K h a us ns ts) {b : Addr} {o : Obj} (e : K.lookup b = some o) : entryH K a us ns ts b = none := by
  rcases x.cases b with z | z | ⟨z, q, _⟩
  · exact z
  · rw [x.out b z] at e; cases e
  · subst z; rw [q] at e; cases e
theorem Entry.hok (x : Entry K h a us ns ts) : HOk P w (entryH K a us ns ts) h := fun b o e => by
  rcases x.cases b with z | z | ⟨z, _, q⟩
  · rw [z] at e; cases e
  · rw [x.isT z] at e
    cases e
    exact x.tab b z
  · rw [q] at e
    cases e
    subst z
    exact ⟨x.at_, by rw [List.length_map]; exact x.sz, us, _, x.rel, x.at_⟩
theorem Entry.sq (x : Entry K h a us ns ts) : SqL K (entryH K a us ns ts) a (ns.map V.int) := by
  cases hk : K.lookup a with
  | some o =>
    have e := Option.some.inj ((x.kin a o hk).symm.trans x.at_)
    subst e
    exact .inr ⟨_, us.toArray, _, hk, rfl, rfl, rfl, by rw [List.size_toArray, x.len]; exact x.sz, x.rel⟩
  | none =>
    refine .inl (.inr ⟨lstO us, ?_⟩)
    unfold entryH
    rw [if_neg x.apart, if_pos rfl, hk]
theorem Entry.base (x : Entry K h a us ns ts) {b : Addr} {o : Obj} (e : h.get? b = some o) (h1 : o ≠ lstO us) (h2 : o ≠ tabO) : (L2.hidT h (entryH K a us ns ts)).get? b = some o := L2.hidT_get e (x.plain e h1 h2)
theorem ne_lst {o : Obj} {c : String} (h : o.cls = .type c) (hc : c ≠ "list") : o ≠ lstO us := fun z => by
  subst z
  exact hc (by have := Value.type.inj (h : (lstO us).cls = _); exact this.symm)
theorem Entry.nsp (x : Entry K h a us ns ts) {b : Addr} {m : Str → Option Value} (n : h.Ns b m) : (L2.hidT h (entryH K a us ns ts)).Ns b m := by
  obtain ⟨o, es, ep, e, d, r⟩ := n
  refine ⟨o, es, ep, x.base e (fun z => ?_) (fun z => ?_), d, r⟩ <;> · subst z; exact nomatch d
/-- the law, called where no repr is under way -/
theorem law_callG {mb : Str → Option Value} {C : CXT} {k : Nat} {fa : Addr} {cs : List (Addr × Addr)} {fd : FuncData} {y : Str} {sp : Sp} {s₁ : Shared} (x : Entry K s₁.heap a us ns (cs.map (·.2))) (gN : s₁.heap.Ns mainGlobals mg) (bN : s₁.heap.Ns builtinsNs mb) (bB : ∀ y : Str, y ≠ "__name__" → mb y = bootBuiltins y) (nl : s₁.heap.NoLimit) (gens : s₁.gens = #[])
    (cH : ∀ p ∈ cs, PySem.W.CodeHd s₁.heap p.1 p.2) (bM : ∃ (b : Addr) (o : Obj), mg "__builtins__" = some (.ref b) ∧ b ≠ builtinsNs ∧ s₁.heap.get? b = some o ∧ o.cls = .type "module" ∧ o.dict = some builtinsNs ∧ o.data = .plain) (room : Room k callerA)
    (hf : ∀ base : Heap, K.In base → base.Ns mainGlobals mg → (∀ p ∈ cs, LamX.TabB base mg p.1 p.2) → FnG P w K mg base C k fa fd [y] sp) (hb : ∀ (s : Shared) (u : Value), BindsTo s fd ⟨[u], []⟩ [(y, u)])
    (hs : ∀ H : Hp, (∀ p ∈ cs, H p.2 = some (.tbl #[])) → SqL K H a (ns.map V.int) → sp [.ref a] H (fun v _ => v = .bl true) fun _ _ _ => False) (hC : ∀ H e s', C [] H s₁ (fun _ _ _ => False) e s' → False) :
    codeAny (model P w) callerA (.call (.ref fa) ⟨[.ref a], []⟩) (fun r s' => r = .ok (.ret (.bool true)) ∧ OldK s₁.heap s'.heap ∧ s'.os = s₁.os ∧ AllBare s'.gens) s₁ := by
  have mT : ∀ p ∈ cs, p.2 ∈ cs.map (·.2) := fun p hp => List.mem_map.mpr ⟨p, hp, rfl⟩
  have kb : K.In (L2.hidT s₁.heap (entryH K a us ns (cs.map (·.2)))) := fun b o e => L2.hidT_get (x.kin b o e) (x.held e)
  have gB := x.nsp gN
  have dictNe : ∀ {b : Addr} {m : Str → Option Value} {o : Obj}, s₁.heap.Ns b m → s₁.heap.get? b = some o → ∃ es ep, o.data = .dict es ep := fun {b m o} n e => by
    obtain ⟨o', es, ep, e', d, _⟩ := n
    obtain rfl := Option.some.inj (e.symm.trans e')
    exact ⟨es, ep, d⟩
  have TB : ∀ p ∈ cs, LamX.TabB (L2.hidT s₁.heap (entryH K a us ns (cs.map (·.2)))) mg p.1 p.2 := fun p hp => by
    have tp := x.tab _ (mT p hp)
    obtain ⟨o, vs, file, tf, fl, tg, inF, tx, tt, e1, d1, rest⟩ := cH p hp
    obtain ⟨b, ob, b1, b2, b3, b4, b5, b6⟩ := bM
    refine ⟨⟨o, vs, file, tf, fl, tg, inF, tx, tt, x.base e1 (ne_lst d1 (by decide)) (fun z => ?_), d1, rest⟩, ⟨b, ob, b1, b2, fun z => ?_, fun z => ?_, x.base b3 (ne_lst b4 (by decide)) (fun z => ?_), b4, b5, b6⟩, fun z => ?_⟩
    · subst z; exact nomatch d1
    · subst z
      obtain ⟨es, ep, d⟩ := dictNe gN b3
      rw [b6] at d; cases d
    · subst z
      have q := Option.some.inj (b3.symm.trans tp)
      subst q
      cases b6
    · subst z; cases b6
    · rw [← z] at tp
      obtain ⟨es, ep, d⟩ := dictNe gN tp
      cases d
  have e0 : Env0 P w K mg (L2.hidT s₁.heap (entryH K a us ns (cs.map (·.2)))) callerA [] s₁ (entryH K a us ns (cs.map (·.2))) :=
    ⟨rfl, ⟨kb, gB, ⟨mb, x.nsp bN, bB⟩, let ⟨mc, n1, n2⟩ := nl; ⟨mc, x.nsp n1, n2⟩⟩, fun b o e => L2.of_hidT e, Nat.le_of_eq (L2.hidT_size _ _), trivial, fun b hb => (List.not_mem_nil (a := b) hb).elim, x.hok, .of_eq gens⟩
  refine codeAny_mono ((hf _ kb gB TB).does callerA [] s₁ _ ⟨[.ref a], []⟩ [.ref a] [.ref a] _ _ ⟨room, rfl⟩ e0 (hb s₁ (.ref a)) (.cons rfl .nil) (hs _ (fun p hp => x.isT (mT p hp)) x.sq)) fun res s' out => ?_
  rcases res with e | fl
  · exact (hC _ e s' out).elim
  cases fl with
  | next => exact out.elim
  | brk => exact out.elim
  | cont => exact out.elim
  | ret u =>
    obtain ⟨v, H', os, bare, un, ok', rv, q⟩ := out
    cases (show v = V.bl true from q)
    cases (show u = Value.bool true from rv)
    have same : ∀ b o, b ∉ cs.map (·.2) → s₁.heap.get? b = some o → s'.heap.get? b = some o := fun b o nb e => by
      rcases x.cases b with z | z | ⟨_, _, z⟩
      · exact un.keep b o e z (fun q => (List.not_mem_nil (a := b) q).elim) (fun q => (List.not_mem_nil (a := b) q).elim)
      · exact absurd z nb
      · obtain ⟨q1, _⟩ := (x.hok (P := P) (w := w)) b _ z
        obtain ⟨q2, _⟩ := ok' b _ (un.frzs b _ _ z)
        rw [← Option.some.inj (q1.symm.trans e)]
        exact q2
    have more : ∀ b ∈ cs.map (·.2), ∃ m : Array Value, s'.heap.get? b = some { cls := .none, data := .fields m } := fun b hb => by
      obtain ⟨m, z⟩ := un.tbls b #[] (x.isT hb)
      exact ⟨_, ok' b _ z⟩
    refine ⟨rfl, ⟨fun b o e => ?_, fun b o e => ?_⟩, os, bare⟩
    · by_cases hb : b ∈ cs.map (·.2)
      · obtain ⟨m, z⟩ := more b hb
        obtain ⟨p, hp, rfl⟩ := List.mem_map.mp hb
        have tp := x.tab _ hb
        obtain rfl := Option.some.inj (tp.symm.trans e)
        exact .inr (.inl ⟨((cH p hp).tab tp).isCodeTable, rfl, #[], m, rfl, by rw [Array.empty_append]; exact z⟩)
      · exact .inl (same b o hb e)
    · by_cases hb : b ∈ cs.map (·.2)
      · obtain ⟨m, z⟩ := more b hb
        exact ⟨_, z⟩
      · exact ⟨o, same b o hb e⟩
end
/-- THE LAW: what its evaluator says of every script -/
theorem law_end {l : PySem.W.OpenLaw} {n k hops : Nat} {q : Program} {loose : List Str} {XP : (Str → Option Value) → Heap → Prop} {d : DefRec} {x : Str} {T : Tab} {fn : List He.DefD} {Pg : Prg} {i : Nat}
    (hn : l.most = some n) (hn2 : n ≤ sizeLine) (hdf : d.params.defaults = []) (hr : Room k callerA) (hs : ∀ x y, Pg.sub x y = T.sub x y) (df : Defs T fn Pg.fds T.fns) (hi : T.fns[i]? = some (d.name, [x]))
    (ev : ∀ ns : List Int, ns.length ≤ n → (∀ z ∈ ns, Builtin.Int.intBits z ≤ 1048576) → ∃ S', (gam Pg k).call i [.scr (ns.map D.int)] [] = .ok (.bl true) S') :
    PySem.W.WalkO q loose XP (hookX hops T fn).says l.row.toRowW d [] (fun f vs => PySem.call f vs) := by
  refine Att.attach_callB hn hdf fun w s₀ s₁ mg mb fa o pm cd doc a vs ns G Y ho hd hcd hmg hobj hints hlen hbits hg => ?_
  obtain ⟨K, KX, c⟩ := Y
  have t := told_of KX G.T.g c df
  have e := hmg.symm.trans (t.glo i _ _ hi)
  cases e
  obtain ⟨f, d0, fd0, h1, h2, h3, h4, h5⟩ := t.fns i _ _ hi
  have us' := vals_ints hints
  refine law_callG (C := L2.CX l.prog w) (k := k) (y := x) (sp := spC (glOf T K) 1 ((gam Pg k).call i)) (cs := (tfOf T).map (He.cT K)) (fd := fd0) ⟨KX, hobj, us', hints.length, Nat.le_trans hlen hn2, fun b hb => ?_, fun b hb => ?_⟩ G.T.g G.T.b G.T.builtins G.T.nolimit hg (fun p hp => ?_) G.T.bmain hr (fun base hb1 hb2 hb3 => ?_) (fun s u => ?_) (fun H hH hS => ?_) fun H e s' => ?_
  · obtain ⟨p, hp, ep⟩ := List.mem_map.mp hb
    obtain ⟨y, hy, ey⟩ := List.mem_map.mp hp
    subst ey
    subst ep
    exact c.empty y hy
  · obtain ⟨p, hp, ep⟩ := List.mem_map.mp hb
    obtain ⟨y, hy, ey⟩ := List.mem_map.mp hp
    subst ey
    subst ep
    exact c.out y hy
  · obtain ⟨y, hy, ey⟩ := List.mem_map.mp hp
    subst ey
    exact PySem.W.codeHd_of_K KX (c.hd y hy)
  · obtain ⟨fd, _, ⟨d1, F1⟩, hF⟩ := prog_ok (P := l.prog) (w := w) (base := base) (Pg := Pg) t hs (fun y hy => hb3 _ (List.mem_map.mpr ⟨(y, none), List.mem_map.mpr ⟨y, hy, rfl⟩, rfl⟩)) k i _ _ hi
    have e : fd = fd0 := by
      obtain ⟨oc, od, dV, kV, doc, pm, an, cdv, ct, osl, _, lk, _⟩ := F1.ex
      obtain ⟨oc', od', dV', kV', doc', pm', an', cdv', ct', osl', _, lk', _⟩ := h5.ex
      rw [lk] at lk'
      cases lk'
      rfl
    rw [← e]
    exact hF
  · have hnd : f.ps.Nodup := by
      have := h4.sc.pre
      rw [← this]
      exact h4.sc.nd.sublist (List.take_sublist _ _)
    have := FunD.bindsA (ps := f.ps) h5 (fun kV doc pm an cdv ct us hl => by
      rw [← h4.ps] at hl hnd ⊢
      exact bind_plain h4.plain hnd hl) s [u] (by rw [h3]; rfl)
    rw [h3] at this
    exact this
  · have ht : LamX.Tabs (glOf T K).tb H := fun z hz => by
      obtain ⟨y, hy, ey⟩ := List.mem_map.mp hz
      subst ey
      exact LamX.TabS.nil (hH _ (List.mem_map.mpr ⟨(y, none), List.mem_map.mpr ⟨y, hy, rfl⟩, rfl⟩))
    obtain ⟨F, st, at'⟩ := At.script (T := T) hS ht
    obtain ⟨S', hrun⟩ := ev ns hlen hbits
    refine ⟨F, [], [], _, rfl, st, at', ?_⟩
    rw [hrun]
    intro F' ρ' H' v _ _ hv
    cases hv
    rfl
  · rintro ⟨_, _, _, _, _, _, _, _, _, _, _, _, z⟩
    exact z
end Eng

set_option maxHeartbeats 4000000
/-! THE ENGINE, part X: a whole text compiled. -/
namespace Eng
open PySem PySem.Spec L2 PyProof.Rows
structure Inf where
  N : List Str
  own : List Nat
  cell : Bool
def defD (s : PySem.Stmt) : Option He.DefD := match s with
  | .FunctionDef n a b _ _ _ sc _ _ _ => some ⟨(n, none), n, n, a, b, sc, [], []⟩
  | _ => none
def mkFd (T : Tab) (fuel : Nat) (d : He.DefD) (i : Inf) : Option Fd := guardO (decide (d.at_ = (d.name, none)) && decide (d.qual = d.name) && (d.params.args.map (·.arg)).all noDebug && (!T.wrd.contains d.name || decide ((d.params.args.map (·.arg)).length = 1)) && d.dfl.isEmpty && d.kwd.isEmpty && plainPs d.params && fnScB i.N (d.params.args.map (·.arg)) d.scope)
  ((cSs T ⟨i.own, i.cell⟩ fuel (dCtx T d.name i.N d.scope) d.body).map fun b => ⟨d.name, d.params.args.map (·.arg), i.N, b⟩)
def mkAll (T : Tab) (fuel : Nat) : List He.DefD → List Inf → Option (List Fd)
  | [], [] => some []
  | d :: ds, i :: is => match mkFd T fuel d i, mkAll T fuel ds is with
    | some f, some fs => some (f :: fs)
    | _, _ => none
  | _, _ => none
theorem mkFd_ok {T : Tab} {fuel : Nat} {d : He.DefD} {i : Inf} {f : Fd} (h : mkFd T fuel d i = some f) : DOk T d f := by
  unfold mkFd at h
  obtain ⟨h1, h2⟩ := guardO_some h
  obtain ⟨h1, k5⟩ := b2 h1
  obtain ⟨h1, k4⟩ := b2 h1
  obtain ⟨h1, k3⟩ := b2 h1
  obtain ⟨h1, k2⟩ := b2 h1
  obtain ⟨h1, k8⟩ := b2 h1
  obtain ⟨h1, k7⟩ := b2 h1
  obtain ⟨k1, k6⟩ := b2 h1
  obtain ⟨b, h3, h4⟩ := Option.map_eq_some_iff.mp h2
  subst h4
  refine ⟨rfl, of_decide_eq_true k6, of_decide_eq_true k1, List.isEmpty_iff.mp k2, List.isEmpty_iff.mp k3, rfl, k4, k7, fun hw => ?_, fnScB_ok k5, ⟨_, _, h3⟩⟩
  rw [Bool.or_eq_true] at k8
  rcases k8 with k8 | k8
  · rw [show T.wrd.contains d.name = true from hw] at k8
    cases k8
  · exact of_decide_eq_true k8
theorem mkAll_ok {T : Tab} {fuel : Nat} : ∀ {ds : List He.DefD} {is : List Inf} {fs : List Fd}, mkAll T fuel ds is = some fs → Defs T ds fs (fs.map fun f => (f.name, f.ps))
  | [], [], fs, h => by cases h; exact .nil
  | d :: ds, i :: is, fs, h => by
    unfold mkAll at h
    split at h
    · rename_i f fs' h1 h2
      cases h
      exact .cons (mkFd_ok h1) (mkAll_ok h2)
    · cases h
  | [], _ :: _, _, h => by cases h
  | _ :: _, [], _, h => by cases h
end Eng

set_option maxHeartbeats 4000000
/-! THE ENGINE, part Y: reckoning with the evaluator. -/
namespace Eng
open PySem PyProof.Rows
section
variable {α β : Type} {m : M α} {f : α → M β} {e e1 : Env} {S S1 : Sto} {a : α}
theorem bind_app : (m >>= f) e S = (match m e S with
    | .ok a e' S' => f a e' S'
    | .exc x e' S' => .exc x e' S'
    | .fail => .fail) := rfl
theorem bind_at (h : m e S = .ok a e1 S1) : (m >>= f) e S = f a e1 S1 := by rw [bind_app, h]
theorem pure_app {a : α} : (M.pure a : M α) e S = .ok a e S := rfl
end
/-- a comprehension whose turns give one item each or none -/
theorem compL_ok (own : List Nat) (f : D → M (List D)) (g : D → List D) (e : Env) (S : Sto) : ∀ xs : List D, (∀ x ∈ xs, ∃ e1, f x e S = .ok (g x) e1 S ∧ wipeE e1 own = e) → compL own f xs e S = .ok (xs.flatMap g) e S
  | [], _ => rfl
  | x :: xs, h => by
    obtain ⟨e1, h1, h2⟩ := h x List.mem_cons_self
    have ih := compL_ok own f g e S xs fun y hy => h y (List.mem_cons_of_mem _ hy)
    show (f x >>= fun y => (fun e S => Res.ok () (wipeE e own) S : M Unit) >>= fun _ => compL own f xs >>= fun r => M.pure (y ++ r)) e S = _
    rw [bind_at h1]
    show (compL own f xs >>= fun r => M.pure (g x ++ r)) (wipeE e1 own) S = _
    rw [h2, bind_at ih, List.flatMap_cons]
    rfl
/-- .. whose turns change the store -/
theorem compL_inv (own : List Nat) (f : D → M (List D)) (e : Env) (I : Sto → Prop) (R : D → List D → Prop) : ∀ (xs : List D) (S : Sto), I S → (∀ x ∈ xs, ∀ S, I S → ∃ y e1 S1, f x e S = .ok y e1 S1 ∧ wipeE e1 own = e ∧ I S1 ∧ R x y) →
    ∃ ys S1, compL own f xs e S = .ok ys.flatten e S1 ∧ I S1 ∧ Paired R xs ys
  | [], S, hS, _ => ⟨[], S, rfl, hS, .nil⟩
  | x :: xs, S, hS, h => by
    obtain ⟨y, e1, S1, h1, h2, h3, h4⟩ := h x List.mem_cons_self S hS
    obtain ⟨ys, S2, h5, h6, h7⟩ := compL_inv own f e I R xs S1 h3 fun y hy => h y (List.mem_cons_of_mem _ hy)
    refine ⟨y :: ys, S2, ?_, h6, .cons h4 h7⟩
    show (f x >>= fun y => (fun e S => Res.ok () (wipeE e own) S : M Unit) >>= fun _ => compL own f xs >>= fun r => M.pure (y ++ r)) e S = _
    rw [bind_at h1]
    show (compL own f xs >>= fun r => M.pure (y ++ r)) (wipeE e1 own) S1 = _
    rw [h2, bind_at h5]
    rfl
/-! ### one step after another -/
/-- what comes next: a simplifier does not look into it -/
class Nxt (α β : Type) where
  f : α → Env → Sto → Res β
def Res.bindI {α β : Type} (r : Res α) [k : Nxt α β] : Res β := match r with
  | .ok a e S => k.f a e S
  | .exc x e S => .exc x e S
  | .fail => .fail
abbrev Res.bind {α β : Type} (r : Res α) (f : α → Env → Sto → Res β) : Res β := @Res.bindI α β r ⟨f⟩
section
variable {α β : Type} {Γ : Gm} {e : Env} {S : Sto}
@[simp] theorem Res.bind_ok {a : α} {f : α → Env → Sto → Res β} : Res.bind (.ok a e S) f = f a e S := rfl
@[simp] theorem Res.bind_exc {x : Exn} {f : α → Env → Sto → Res β} : Res.bind (.exc x e S) f = .exc x e S := rfl
@[simp] theorem Res.bind_fail {f : α → Env → Sto → Res β} : Res.bind .fail f = .fail := rfl
theorem bind_res {m : M α} {f : α → M β} : (m >>= f) e S = Res.bind (m e S) f := rfl
/-- a call's end -/
def FR.bind (r : FR) (f : D → Sto → Res D) : Res D := match r with
  | .ok d S => f d S
  | .exc x S => .exc x [] S
  | .fail => .fail
def callR (r : FR) (e : Env) : Res D := match r with
  | .ok d S' => .ok d e S'
  | .exc x S' => .exc x e S'
  | .fail => .fail
@[simp] theorem callR_ok {d : D} : callR (.ok d S) e = .ok d e S := rfl
@[simp] theorem callR_exc {x : Exn} : callR (.exc x S) e = .exc x e S := rfl
@[simp] theorem callM_app {f : Nat} {ds : List D} : callM Γ f ds e S = callR (Γ.call f ds S) e := rfl
def endR (r : Res Fl) : FR := match r with
  | .ok (.rt d) _ S' => .ok d S'
  | .ok .nx _ S' => .ok .non S'
  | .ok _ _ _ => .fail
  | .exc x _ S' => .exc x S'
  | .fail => .fail
@[simp] theorem endR_rt {d : D} : endR (.ok (.rt d) e S) = .ok d S := rfl
@[simp] theorem endR_nx : endR (.ok .nx e S) = .ok .non S := rfl
@[simp] theorem endR_exc {x : Exn} : endR (.exc x e S) = .exc x S := rfl
theorem run_app {f : Fd} {ds : List D} (h : ds.length = f.ps.length) : f.run Γ ds S = endR (evSs Γ f.body (ds.map Slot.val ++ List.replicate (f.N.length - ds.length) Slot.emp) S) := by
  unfold Fd.run
  rw [if_pos h]
  cases evSs Γ f.body (ds.map Slot.val ++ List.replicate (f.N.length - ds.length) Slot.emp) S with
  | ok fl e' S' => cases fl <;> rfl
  | exc x e' S' => rfl
  | fail => rfl
class Nxs where
  f : Env → Sto → Res Fl
def thenI (r : Res Fl) [k : Nxs] : Res Fl := match r with
  | .ok .nx e' S' => k.f e' S'
  | .ok .bk e' S' => .ok .bk e' S'
  | .ok .ct e' S' => .ok .ct e' S'
  | .ok (.rt d) e' S' => .ok (.rt d) e' S'
  | .exc x e' S' => .exc x e' S'
  | .fail => .fail
abbrev thenR (r : Res Fl) (f : Env → Sto → Res Fl) : Res Fl := @thenI r ⟨f⟩
@[simp] theorem thenR_nx {f : Env → Sto → Res Fl} : thenR (.ok .nx e S) f = f e S := rfl
@[simp] theorem thenR_bk {f : Env → Sto → Res Fl} : thenR (.ok .bk e S) f = .ok .bk e S := rfl
@[simp] theorem thenR_ct {f : Env → Sto → Res Fl} : thenR (.ok .ct e S) f = .ok .ct e S := rfl
@[simp] theorem thenR_rt {d : D} {f : Env → Sto → Res Fl} : thenR (.ok (.rt d) e S) f = .ok (.rt d) e S := rfl
@[simp] theorem thenR_exc {x : Exn} {f : Env → Sto → Res Fl} : thenR (.exc x e S) f = .exc x e S := rfl
@[simp] theorem evSs_nil : evSs Γ [] e S = .ok .nx e S := by unfold evSs; rfl
@[simp] theorem evSs_cons {s : Eng.S} {r : List Eng.S} : evSs Γ (s :: r) e S = thenR (evS Γ s e S) fun e' S' => evSs Γ r e' S' := by
  rw [evSs]
  show (evS Γ s >>= _) e S = _
  rw [bind_app]
  cases evS Γ s e S with
  | ok fl e' S' => cases fl <;> rfl
  | exc x e' S' => rfl
  | fail => rfl
/-- a test's two ways -/
def bR {α : Type} (d : D) (x y : Res α) : Res α := match d with
  | .bl true => x
  | .bl false => y
  | _ => .fail
@[simp] theorem bR_bl {c : Bool} {x y : Res α} : bR (.bl c) x y = (if c = true then x else y) := by cases c <;> rfl
section
variable {x y z : E} {es : List E} {s : Eng.S}
@[simp] theorem evS_ret : evS Γ (.ret x) e S = Res.bind (evE Γ x e S) fun d e' S' => .ok (.rt d) e' S' := by rw [evS]; rfl
@[simp] theorem evS_retN : evS Γ .retN e S = .ok (.rt .non) e S := by rw [evS]; rfl
@[simp] theorem evS_pass : evS Γ .pass e S = .ok .nx e S := by rw [evS]; rfl
@[simp] theorem evS_brk : evS Γ .brk e S = .ok .bk e S := by rw [evS]; rfl
@[simp] theorem evS_cont : evS Γ .cont e S = .ok .ct e S := by rw [evS]; rfl
@[simp] theorem evS_raise {n : Str} : evS Γ (.raise n) e S = .exc ⟨n, none⟩ e S := by rw [evS]
@[simp] theorem evS_expr : evS Γ (.expr x) e S = Res.bind (evE Γ x e S) fun d e' S' => .ok .nx e' S' := by rw [evS]; rfl
@[simp] theorem evS_put {i : Nat} : evS Γ (.put i false x) e S = Res.bind (evE Γ x e S) fun d e' S' => .ok .nx (e'.set i (.val d)) S' := by rw [evS]; rfl
def ownR (i : Nat) (d : D) (e : Env) (S : Sto) : Res Fl := match d with
  | .lst l => .ok .nx (e.set i (.own l)) S
  | _ => .fail
@[simp] theorem ownR_lst {i : Nat} {l : List D} : ownR i (.lst l) e S = .ok .nx (e.set i (.own l)) S := rfl
@[simp] theorem evS_own {i : Nat} : evS Γ (.put i true x) e S = Res.bind (evE Γ x e S) fun d e' S' => ownR i d e' S' := by
  rw [evS]
  show (evE Γ x >>= _) e S = _
  rw [bind_app]
  cases evE Γ x e S with
  | ok d e' S' => cases d <;> rfl
  | exc _ _ _ => rfl
  | fail => rfl
@[simp] theorem evS_ifs {a b : List Eng.S} : evS Γ (.ifs x a b) e S = Res.bind (evE Γ x e S) fun d e' S' => bR d (evSs Γ a e' S') (evSs Γ b e' S') := by
  rw [evS]
  show (evE Γ x >>= _) e S = _
  rw [bind_app]
  cases evE Γ x e S with
  | ok d e' S' => cases d <;> first | rfl | (rename_i c; cases c <;> rfl)
  | exc _ _ _ => rfl
  | fail => rfl
def bindR (t : Tg) (d : D) (e : Env) (S : Sto) : Res Fl := match bindT t d e with
  | some e' => .ok .nx e' S
  | none => .fail
@[simp] theorem evS_asg {t : Tg} : evS Γ (.asg t x) e S = Res.bind (evE Γ x e S) fun d e' S' => bindR t d e' S' := by
  rw [evS]
  show (evE Γ x >>= _) e S = _
  rw [bind_app]
  cases evE Γ x e S with
  | ok d e' S' =>
    show (bindM t d >>= fun _ => M.pure Fl.nx) e' S' = bindR t d e' S'
    unfold bindR
    cases hb : bindT t d e' with
    | some e2 => rw [bindM_then hb]; rfl
    | none => rw [bindM_fail hb]
  | exc _ _ _ => rfl
  | fail => rfl
@[simp] theorem evS_par {a b : Nat × Bool} : evS Γ (.par a b x y) e S = Res.bind (evE Γ x e S) fun d e' S' => Res.bind (evE Γ y e' S') fun d2 e'' S'' => Res.bind (putM a d e'' S'') fun _ e3 S3 => Res.bind (putM b d2 e3 S3) fun _ e4 S4 => .ok .nx e4 S4 := by rw [evS]; rfl
@[simp] theorem evS_parL {xs : List (Nat × Bool)} : evS Γ (.parL xs es) e S = Res.bind (evEs Γ es e S) fun ds e1 S1 => Res.bind (putMs xs ds e1 S1) fun _ e2 S2 => .ok .nx e2 S2 := by rw [evS]; rfl
@[simp] theorem putMs_nil : putMs [] [] e S = .ok () e S := rfl
@[simp] theorem putMs_cons {a : Nat × Bool} {as : List (Nat × Bool)} {d : D} {ds : List D} : putMs (a :: as) (d :: ds) e S = Res.bind (putM a d e S) fun _ e1 S1 => putMs as ds e1 S1 := rfl
@[simp] theorem evS_ext {i : Nat} : evS Γ (.ext i x) e S = Res.bind (getB i e S) fun l e0 S0 => Res.bind (liftO (asLst l) e0 S0) fun _ e0 S0 => Res.bind (evE Γ x e0 S0) fun d e1 S1 => Res.bind (liftO (asLst d) e1 S1) fun l2 e2 S2 => Res.bind (extAt i l2 e2 S2) fun _ e3 S3 => .ok .nx e3 S3 := by rw [evS]; rfl
theorem extAt_ok {i : Nat} {l l2 : List D} (h1 : e[i]? = some (.own l)) (h2 : l.length + l2.length ≤ sizeLine) : extAt i l2 e S = .ok () (e.set i (.own (l ++ l2))) S := by
  unfold extAt
  rw [h1]
  simp [h2]
@[simp] theorem putM_val {i : Nat} {d : D} : putM (i, false) d e S = .ok () (e.set i (.val d)) S := rfl
@[simp] theorem putM_own {i : Nat} {l : List D} : putM (i, true) (.lst l) e S = .ok () (e.set i (.own l)) S := rfl
/-- a list's item, changed -/
def setR (i : Nat) (k d : D) (e : Env) (S : Sto) : Res Fl := match k with
  | .int n => Res.bind (setAt i n d e S) fun _ e' S' => .ok .nx e' S'
  | _ => .fail
@[simp] theorem evS_setIx {i : Nat} : evS Γ (.setIx i y x) e S = Res.bind (evE Γ x e S) fun d e1 S1 => Res.bind (getB i e1 S1) fun _ e2 S2 => Res.bind (evE Γ y e2 S2) fun k e3 S3 => setR i k d e3 S3 := by
  rw [evS]
  show (evE Γ x >>= _) e S = _
  rw [bind_app]
  cases evE Γ x e S with
  | ok d e1 S1 =>
    show (getB i >>= _) e1 S1 = Res.bind (getB i e1 S1) _
    rw [bind_app]
    cases getB i e1 S1 with
    | ok w e2 S2 =>
      show (evE Γ y >>= _) e2 S2 = Res.bind (evE Γ y e2 S2) _
      rw [bind_app]
      cases evE Γ y e2 S2 with
      | ok k e3 S3 => cases k <;> rfl
      | exc _ _ _ => rfl
      | fail => rfl
    | exc _ _ _ => rfl
    | fail => rfl
  | exc _ _ _ => rfl
  | fail => rfl
theorem setR_cell {i c j : Nat} {k : Int} {d : D} {l : List D} (h1 : e[i]? = some (.val (.ref c))) (h2 : S[c]? = some l) (h3 : L2.ixN l.length k = some j) : setR i (.int k) d e S = .ok .nx e (S.set c (l.set j d)) := by
  show Res.bind (setAt i k d e S) _ = _
  unfold setAt
  rw [h1]
  simp only [h2, h3]
  rfl
theorem setR_own {i j : Nat} {k : Int} {d : D} {l : List D} (h1 : e[i]? = some (.own l)) (h3 : L2.ixN l.length k = some j) : setR i (.int k) d e S = .ok .nx (e.set i (.own (l.set j d))) S := by
  show Res.bind (setAt i k d e S) _ = _
  unfold setAt
  rw [h1]
  simp only [h3]
  rfl
def setJ (o : Option Nat) (f : Nat → Res Fl) : Res Fl := match o with
  | some j => f j
  | none => .fail
@[simp] theorem setJ_some {j : Nat} {f : Nat → Res Fl} : setJ (some j) f = f j := rfl
def setC (c : Nat) (o : Option (List D)) (k : Int) (d : D) (e : Env) (S : Sto) : Res Fl := match o with
  | some l => setJ (L2.ixN l.length k) fun j => .ok .nx e (S.set c (l.set j d))
  | none => .fail
@[simp] theorem setC_some {c : Nat} {l : List D} {k : Int} {d : D} : setC c (some l) k d e S = setJ (L2.ixN l.length k) fun j => .ok .nx e (S.set c (l.set j d)) := rfl
def setSl (i : Nat) (o : Option Slot) (k : Int) (d : D) (e : Env) (S : Sto) : Res Fl := match o with
  | some (.own l) => setJ (L2.ixN l.length k) fun j => .ok .nx (e.set i (.own (l.set j d))) S
  | some (.val (.ref c)) => setC c S[c]? k d e S
  | _ => .fail
@[simp] theorem setSl_own {i : Nat} {l : List D} {k : Int} {d : D} : setSl i (some (.own l)) k d e S = setJ (L2.ixN l.length k) fun j => .ok .nx (e.set i (.own (l.set j d))) S := rfl
@[simp] theorem setSl_ref {i c : Nat} {k : Int} {d : D} : setSl i (some (.val (.ref c))) k d e S = setC c S[c]? k d e S := rfl
@[simp] theorem setR_app {i : Nat} {k : Int} {d : D} : setR i (.int k) d e S = setSl i e[i]? k d e S := by
  show Res.bind (setAt i k d e S) _ = _
  unfold setAt setSl
  cases e[i]? with
  | none => rfl
  | some s =>
    cases s with
    | emp => rfl
    | thk => rfl
    | exn _ => rfl
    | own l =>
      simp only []
      cases L2.ixN l.length k <;> rfl
    | val d =>
      cases d with
      | ref c =>
        simp only []
        unfold setC
        cases S[c]? with
        | none => rfl
        | some l =>
          simp only []
          cases L2.ixN l.length k <;> rfl
      | _ => rfl
@[simp] theorem evS_appPop {i j : Nat} : evS Γ (.appPop i j x) e S = Res.bind (getB i e S) fun l e0 S0 => Res.bind (liftO (asLst l) e0 S0) fun _ e0 S0 => Res.bind (getB j e0 S0) fun l e0 S0 => Res.bind (liftO (asLst l) e0 S0) fun _ e0 S0 => Res.bind (evE Γ x e0 S0) fun d e1 S1 => Res.bind (liftO (asInt d) e1 S1) fun n e2 S2 => Res.bind (popAt j n e2 S2) fun d e3 S3 => Res.bind (appAt i d e3 S3) fun _ e4 S4 => .ok .nx e4 S4 := by rw [evS]; rfl
@[simp] theorem evS_app {i : Nat} : evS Γ (.app i x) e S = Res.bind (getB i e S) fun l e0 S0 => Res.bind (liftO (asLst l) e0 S0) fun _ e0 S0 => Res.bind (evE Γ x e0 S0) fun d e1 S1 => Res.bind (appAt i d e1 S1) fun _ e2 S2 => .ok .nx e2 S2 := by rw [evS]; rfl
theorem appAt_ok {i : Nat} {d : D} {l : List D} (h1 : e[i]? = some (.own l)) (h2 : l.length < sizeLine) : appAt i d e S = .ok () (e.set i (.own (l ++ [d]))) S := by
  unfold appAt
  rw [h1]
  simp only [decide_eq_true h2]
  rfl
@[simp] theorem liftO_some {o : α} : liftO (some o) e S = .ok o e S := rfl
@[simp] theorem liftO_none : (liftO (none : Option α)) e S = .fail := rfl
/-! expressions -/
@[simp] theorem evE_non : evE Γ .non e S = .ok .non e S := by rw [evE]; rfl
@[simp] theorem evE_bl {b : Bool} : evE Γ (.bl b) e S = .ok (.bl b) e S := by rw [evE]; rfl
@[simp] theorem evE_int {i : Int} : evE Γ (.int i) e S = .ok (.int i) e S := by rw [evE]; rfl
@[simp] theorem evE_str {i : Str} : evE Γ (.str i) e S = .ok (.str i) e S := by rw [evE]; rfl
@[simp] theorem evE_cst {d : D} : evE Γ (.cst d) e S = .ok d e S := by rw [evE]; rfl
theorem evE_var' {i : Nat} : evE Γ (.var i) e S = getV i e S := by rw [evE]
theorem evE_bor' {i : Nat} : evE Γ (.bor i) e S = getB i e S := by rw [evE]
theorem getV_val {i : Nat} {d : D} (h : e[i]? = some (.val d)) : getV i e S = .ok d e S := by unfold getV; rw [h]
theorem getV_own {i : Nat} {l : List D} (h : e[i]? = some (.own l)) : getV i e S = .ok (.lst l) (e.set i (.val (.lst l))) S := by unfold getV; rw [h]
theorem getB_val {i : Nat} {d : D} (h : e[i]? = some (.val d)) : getB i e S = .ok d e S := by unfold getB; rw [h]
theorem getB_own {i : Nat} {l : List D} (h : e[i]? = some (.own l)) : getB i e S = .ok (.lst l) e S := by unfold getB; rw [h]
def slotV (i : Nat) (o : Option Slot) (e : Env) (S : Sto) : Res D := match o with
  | some (.val d) => .ok d e S
  | some (.own l) => .ok (.lst l) (e.set i (.val (.lst l))) S
  | _ => .fail
def slotB (o : Option Slot) (e : Env) (S : Sto) : Res D := match o with
  | some (.val d) => .ok d e S
  | some (.own l) => .ok (.lst l) e S
  | _ => .fail
@[simp] theorem slotV_val {i : Nat} {d : D} : slotV i (some (.val d)) e S = .ok d e S := rfl
@[simp] theorem slotV_own {i : Nat} {l : List D} : slotV i (some (.own l)) e S = .ok (.lst l) (e.set i (.val (.lst l))) S := rfl
@[simp] theorem slotB_val {d : D} : slotB (some (.val d)) e S = .ok d e S := rfl
@[simp] theorem slotB_own {l : List D} : slotB (some (.own l)) e S = .ok (.lst l) e S := rfl
@[simp] theorem evE_var {i : Nat} : evE Γ (.var i) e S = slotV i e[i]? e S := by rw [evE]; rfl
@[simp] theorem evE_bor {i : Nat} : evE Γ (.bor i) e S = slotB e[i]? e S := by rw [evE]; rfl
@[simp] theorem getB_app {i : Nat} : getB i e S = slotB e[i]? e S := rfl
@[simp] theorem evEs_nil : evEs Γ [] e S = .ok [] e S := by rw [evEs]; rfl
@[simp] theorem evEs_cons : evEs Γ (x :: es) e S = Res.bind (evE Γ x e S) fun d e1 S1 => Res.bind (evEs Γ es e1 S1) fun ds e2 S2 => .ok (d :: ds) e2 S2 := by rw [evEs]; rfl
@[simp] theorem evE_tup : evE Γ (.tup es) e S = Res.bind (evEs Γ es e S) fun ds e1 S1 => liftO (dtup ds) e1 S1 := by rw [evE]; rfl
@[simp] theorem evE_lst : evE Γ (.lst es) e S = Res.bind (evEs Γ es e S) fun ds e1 S1 => liftO (dlst ds) e1 S1 := by rw [evE]; rfl
@[simp] theorem evE_dct {kvs : List (L2.Key × E)} : evE Γ (.dct kvs) e S = Res.bind (evKs Γ kvs e S) fun ds e1 S1 => .ok (.dic ds) e1 S1 := by rw [evE]; rfl
@[simp] theorem evKs_nil : evKs Γ [] e S = .ok [] e S := by rw [evKs]; rfl
@[simp] theorem evKs_cons {k : L2.Key} {kvs : List (L2.Key × E)} : evKs Γ ((k, x) :: kvs) e S = Res.bind (evE Γ x e S) fun d e1 S1 => Res.bind (evKs Γ kvs e1 S1) fun ds e2 S2 => .ok ((k, d) :: ds) e2 S2 := by rw [evKs]; rfl
@[simp] theorem evE_bin {op : Bop} : evE Γ (.bin op x y) e S = Res.bind (evE Γ x e S) fun d e1 S1 => Res.bind (evE Γ y e1 S1) fun d2 e2 S2 => liftO (dbin op d d2) e2 S2 := by rw [evE]; rfl
@[simp] theorem evE_neg : evE Γ (.neg x) e S = Res.bind (evE Γ x e S) fun d e1 S1 => negM d e1 S1 := by rw [evE]; rfl
@[simp] theorem evE_not : evE Γ (.not x) e S = Res.bind (evE Γ x e S) fun d e1 S1 => notM d e1 S1 := by rw [evE]; rfl
@[simp] theorem negM_int {i : Int} : negM (.int i) e S = .ok (.int (-i)) e S := rfl
@[simp] theorem notM_bl {b : Bool} : notM (.bl b) e S = .ok (.bl (!b)) e S := rfl
@[simp] theorem evE_cmp {o : Cop} : evE Γ (.cmp o x y) e S = Res.bind (evE Γ x e S) fun d e1 S1 => Res.bind (evE Γ y e1 S1) fun d2 e2 S2 => cmpM o d d2 e2 S2 := by rw [evE]; rfl
def cmpR (c : Option Bool) (e : Env) (S : Sto) : Res D := match c with
  | some b => .ok (.bl b) e S
  | none => .fail
@[simp] theorem cmpR_some {b : Bool} : cmpR (some b) e S = .ok (.bl b) e S := rfl
@[simp] theorem cmpM_app {o : Cop} {a b : D} : cmpM o a b e S = cmpR (dcmp o a b) e S := by
  unfold cmpM cmpR
  cases dcmp o a b <;> rfl
@[simp] theorem evE_chn {o p : Cop} : evE Γ (.chn o p x y z) e S = Res.bind (evE Γ x e S) fun d e1 S1 => Res.bind (evE Γ y e1 S1) fun d2 e2 S2 => Res.bind (cmpR (dcmp o d d2) e2 S2) fun t e3 S3 => bR t (Res.bind (evE Γ z e3 S3) fun d3 e4 S4 => cmpR (dcmp p d2 d3) e4 S4) (.ok (.bl false) e3 S3) := by
  rw [evE]
  show (evE Γ x >>= _) e S = _
  rw [bind_app]
  cases evE Γ x e S with
  | exc _ _ _ => rfl
  | fail => rfl
  | ok d e1 S1 =>
    show (evE Γ y >>= _) e1 S1 = Res.bind (evE Γ y e1 S1) _
    rw [bind_app]
    cases evE Γ y e1 S1 with
    | exc _ _ _ => rfl
    | fail => rfl
    | ok d2 e2 S2 =>
      show chainM o p (evE Γ z) d d2 e2 S2 = Res.bind (cmpR (dcmp o d d2) e2 S2) _
      cases ht : dcmp o d d2 with
      | none => rw [chainM_none ht]; rfl
      | some t =>
        rw [chainM_some ht]
        cases t with
        | false => rfl
        | true =>
          show (evE Γ z >>= fun w => cmpM p d2 w) e2 S2 = Res.bind (evE Γ z e2 S2) _
          rw [bind_app]
          cases evE Γ z e2 S2 with
          | ok w e3 S3 => exact cmpM_app
          | exc _ _ _ => rfl
          | fail => rfl
@[simp] theorem evE_and : evE Γ (.and es) e S = evAnd Γ es e S := by rw [evE]
@[simp] theorem evE_or : evE Γ (.or es) e S = evOr Γ es e S := by rw [evE]
@[simp] theorem evAnd_one' : evAnd Γ [x] e S = evE Γ x e S := by rw [evAnd_one]
@[simp] theorem evAnd_cons' : evAnd Γ (x :: y :: es) e S = Res.bind (evE Γ x e S) fun d e1 S1 => bR d (evAnd Γ (y :: es) e1 S1) (.ok (.bl false) e1 S1) := by
  rw [evAnd_cons]
  show (evE Γ x >>= _) e S = _
  rw [bind_app]
  cases evE Γ x e S with
  | ok d e1 S1 => cases d <;> first | rfl | (rename_i c; cases c <;> rfl)
  | exc _ _ _ => rfl
  | fail => rfl
@[simp] theorem evOr_one' : evOr Γ [x] e S = evE Γ x e S := by rw [evOr_one]
@[simp] theorem evOr_cons' : evOr Γ (x :: y :: es) e S = Res.bind (evE Γ x e S) fun d e1 S1 => bR d (.ok (.bl true) e1 S1) (evOr Γ (y :: es) e1 S1) := by
  rw [evOr_cons]
  show (evE Γ x >>= _) e S = _
  rw [bind_app]
  cases evE Γ x e S with
  | ok d e1 S1 => cases d <;> first | rfl | (rename_i c; cases c <;> rfl)
  | exc _ _ _ => rfl
  | fail => rfl
@[simp] theorem evE_ite : evE Γ (.ite x y z) e S = Res.bind (evE Γ x e S) fun d e1 S1 => bR d (evE Γ y e1 S1) (evE Γ z e1 S1) := by
  rw [evE]
  show (evE Γ x >>= _) e S = _
  rw [bind_app]
  cases evE Γ x e S with
  | ok d e1 S1 => cases d <;> first | rfl | (rename_i c; cases c <;> rfl)
  | exc _ _ _ => rfl
  | fail => rfl
@[simp] theorem evE_idx : evE Γ (.idx x y) e S = Res.bind (evE Γ x e S) fun d e1 S1 => Res.bind (evE Γ y e1 S1) fun d2 e2 S2 => ixM d d2 e2 S2 := by rw [evE]; rfl
def ixR (o : Option D) (e : Env) (S : Sto) : Res D := match o with
  | some d => .ok d e S
  | none => .fail
@[simp] theorem ixR_some {d : D} : ixR (some d) e S = .ok d e S := rfl
@[simp] theorem ixM_tup {l : List D} {i : Int} : ixM (.tup l) (.int i) e S = ixR (L2.atI l i) e S := by
  show liftO (L2.atI l i) e S = _
  cases L2.atI l i <;> rfl
@[simp] theorem ixM_lst {l : List D} {i : Int} : ixM (.lst l) (.int i) e S = ixR (L2.atI l i) e S := by
  show liftO (L2.atI l i) e S = _
  cases L2.atI l i <;> rfl
@[simp] theorem ixM_ref {c : Nat} {i : Int} : ixM (.ref c) (.int i) e S = ixR (match S[c]? with | some l => L2.atI l i | none => none) e S := by
  show cellIx c (.int i) e S = _
  unfold cellIx ixR
  cases S[c]? <;> rfl
@[simp] theorem evE_slc {lo hi : Option E} : evE Γ (.slc x lo hi) e S = Res.bind (evE Γ x e S) fun d e1 S1 => Res.bind (evO Γ lo e1 S1) fun l e2 S2 => Res.bind (evO Γ hi e2 S2) fun h e3 S3 => liftO (slcO d l h) e3 S3 := by rw [evE]; rfl
@[simp] theorem evO_none : evO Γ none e S = .ok none e S := by rw [evO]; rfl
@[simp] theorem evO_some : evO Γ (some x) e S = Res.bind (evE Γ x e S) fun d e1 S1 => Res.bind (liftO (asInt d) e1 S1) fun i e2 S2 => .ok (some i) e2 S2 := by rw [evO]; rfl
@[simp] theorem asInt_int {i : Int} : asInt (.int i) = some i := rfl
@[simp] theorem asLst_lst {l : List D} : asLst (.lst l) = some l := rfl
@[simp] theorem evE_call {f : Nat} : evE Γ (.call f es) e S = Res.bind (evEs Γ es e S) fun ds e1 S1 => callM Γ f ds e1 S1 := by rw [evE]; rfl
@[simp] theorem evE_blt {b : Blt} : evE Γ (.blt b es) e S = Res.bind (evEs Γ es e S) fun ds e1 S1 => liftO (dblt b ds) e1 S1 := by rw [evE]; rfl
@[simp] theorem evE_fre {b : Fre} : evE Γ (.fre b es) e S = Res.bind (evEs Γ es e S) fun ds e1 S1 => liftO (dfre b ds) e1 S1 := by rw [evE]; rfl
@[simp] theorem evE_isi {t : Ty} : evE Γ (.isi t x) e S = Res.bind (evE Γ x e S) fun d e1 S1 => isiM d.isiOk (.bl (disi t d)) e1 S1 := by rw [evE]; rfl
@[simp] theorem evE_isiT {ts : List Ty} : evE Γ (.isiT ts x) e S = Res.bind (evE Γ x e S) fun d e1 S1 => isiM d.isiOk (.bl (ts.any fun t => disi t d)) e1 S1 := by rw [evE]; rfl
@[simp] theorem evE_mth {m : Mth} {y : E} : evE Γ (.mth m x y) e S = Res.bind (evE Γ x e S) fun d e1 S1 => Res.bind (liftO (asLst d) e1 S1) fun _ e2 S2 => Res.bind (evE Γ y e2 S2) fun d2 e3 S3 => liftO (dmth m d d2) e3 S3 := by rw [evE]; rfl
@[simp] theorem evE_rev : evE Γ (.rev x) e S = Res.bind (evE Γ x e S) fun d e1 S1 => liftO (drev d) e1 S1 := by rw [evE]; rfl
@[simp] theorem isiM_true {d : D} : isiM true d e S = .ok d e S := rfl
/-- a comprehension's turn -/
def turnC (Γ : Gm) (t : Tg) (c : Option E) (elt : E) : D → M (List D) := turnM t (evC Γ c) (do let y ← evE Γ elt; M.pure [y])
theorem evE_comp {own : List Nat} {t : Tg} {it : Itr} {c : Option E} {elt : E} : evE Γ (.comp own t it c elt) e S = Res.bind (evI Γ it e S) fun xs e1 S1 => Res.bind (scopeM own (compL own (turnC Γ t c elt) xs) e1 S1) fun r e2 S2 => liftO (dlst r) e2 S2 := by rw [evE]; rfl
@[simp] theorem evI_seq : evI Γ (.seq x) e S = Res.bind (evE Γ x e S) fun d e1 S1 => liftO (dseq d) e1 S1 := by rw [evI]; rfl
@[simp] theorem evI_zip : evI Γ (.zip es) e S = Res.bind (evEs Γ es e S) fun ds e1 S1 => liftO (dzip ds) e1 S1 := by rw [evI]; rfl
@[simp] theorem evI_enum : evI Γ (.enum es) e S = Res.bind (evEs Γ es e S) fun ds e1 S1 => liftO (denum ds) e1 S1 := by rw [evI]; rfl
@[simp] theorem evI_rng : evI Γ (.rng es) e S = Res.bind (evEs Γ es e S) fun ds e1 S1 => liftO (drng ds) e1 S1 := by rw [evI]; rfl
theorem evS_fr {t : Tg} {it : Itr} {b : List Eng.S} : evS Γ (.fr t it b) e S = Res.bind (evI Γ it e S) fun xs e1 S1 => loopF (turnF t (evSs Γ b)) xs e1 S1 := by rw [evS]; rfl
end
/-! ### data -/
@[simp] theorem dcmp_le {i j : Int} : dcmp .le (.int i) (.int j) = some (decide (i ≤ j)) := rfl
@[simp] theorem dcmp_lt {i j : Int} : dcmp .lt (.int i) (.int j) = some (decide (i < j)) := rfl
@[simp] theorem dcmp_ge {i j : Int} : dcmp .ge (.int i) (.int j) = some (decide (j ≤ i)) := rfl
@[simp] theorem dcmp_gt {i j : Int} : dcmp .gt (.int i) (.int j) = some (decide (j < i)) := rfl
@[simp] theorem dcmp_isN {d : D} : dcmp .isN d .non = some d.isNon := rfl
@[simp] theorem dcmp_isNotN {d : D} : dcmp .isNotN d .non = some (!d.isNon) := rfl
@[simp] theorem dcmp_isB {a b : Bool} : dcmp .isN (.bl a) (.bl b) = some (a == b) := rfl
@[simp] theorem dcmp_isNotB {a b : Bool} : dcmp .isNotN (.bl a) (.bl b) = some (!(a == b)) := rfl
@[simp] theorem dcmp_eq {d d2 : D} : dcmp .eq d d2 = deq d d2 := rfl
@[simp] theorem dcmp_ne {d d2 : D} : dcmp .ne d d2 = (deq d d2).map (!·) := rfl
@[simp] theorem deq_int {i j : Int} : deq (.int i) (.int j) = some (decide (i = j)) := by
  have e1 : (D.int i).shapedO = some (.int i) := rfl
  have e2 : (D.int j).shapedO = some (.int j) := rfl
  unfold deq
  rw [e1, e2]
  show some (PyData.eqv (.int i) (.int j)) = _
  congr 1
@[simp] theorem deq_bl {i j : Bool} : deq (.bl i) (.bl j) = some (decide (i = j)) := by cases i <;> cases j <;> rfl
theorem atI_nn {α : Type} {l : List α} {i : Int} (h : 0 ≤ i) : L2.atI l i = l[i.toNat]? := by
  unfold L2.atI L2.ixN
  by_cases h2 : i.toNat < l.length
  · rw [if_pos h]
    rw [if_pos (by omega)]
    rfl
  · rw [if_pos h]
    rw [if_neg (by omega)]
    exact (List.getElem?_eq_none (by omega)).symm
theorem atI_nat {α : Type} {l : List α} {n : Nat} : L2.atI l (n : Int) = l[n]? := by rw [atI_nn (by omega)]; rfl
@[simp] theorem atI_0 {α : Type} {l : List α} : L2.atI l 0 = l[0]? := atI_nat
@[simp] theorem atI_1 {α : Type} {l : List α} : L2.atI l 1 = l[1]? := atI_nat
@[simp] theorem atI_2 {α : Type} {l : List α} : L2.atI l 2 = l[2]? := atI_nat
@[simp] theorem atI_3 {α : Type} {l : List α} : L2.atI l 3 = l[3]? := atI_nat
@[simp] theorem atI_4 {α : Type} {l : List α} : L2.atI l 4 = l[4]? := atI_nat
@[simp] theorem atI_5 {α : Type} {l : List α} : L2.atI l 5 = l[5]? := atI_nat
@[simp] theorem atI_6 {α : Type} {l : List α} : L2.atI l 6 = l[6]? := atI_nat
@[simp] theorem atI_7 {α : Type} {l : List α} : L2.atI l 7 = l[7]? := atI_nat
@[simp] theorem atI_8 {α : Type} {l : List α} : L2.atI l 8 = l[8]? := atI_nat
@[simp] theorem atI_9 {α : Type} {l : List α} : L2.atI l 9 = l[9]? := atI_nat
@[simp] theorem dbin_add {i j : Int} : dbin .add (.int i) (.int j) = some (.int (i + j)) := rfl
@[simp] theorem dbin_sub {i j : Int} : dbin .sub (.int i) (.int j) = some (.int (i - j)) := rfl
@[simp] theorem dbin_mul {i j : Int} : dbin .mul (.int i) (.int j) = (if mulOk i j then some (.int (i * j)) else none) := rfl
@[simp] theorem dbin_fdiv {i j : Int} : dbin .fdiv (.int i) (.int j) = (if divOk j then some (.int (i.fdiv j)) else none) := rfl
@[simp] theorem dbin_mod {i j : Int} : dbin .mod (.int i) (.int j) = (if j ≠ 0 then some (.int (i.fmod j)) else none) := rfl
@[simp] theorem dbin_pow {i j : Int} : dbin .pow (.int i) (.int j) = (if powOk i j then some (.int (i ^ j.toNat)) else none) := rfl
theorem fmod_in (i : Int) {m : Int} (h : 0 < m) : 0 ≤ i.fmod m ∧ i.fmod m < m := by
  rw [Int.fmod_eq_emod_of_nonneg i (Int.le_of_lt h)]
  exact ⟨Int.emod_nonneg i (by omega), Int.emod_lt_of_pos i h⟩
theorem mulOk_r {i j : Int} (h : j.natAbs < 18446744073709551616) : mulOk i j = true := by
  unfold mulOk
  rw [decide_eq_true (show j.natAbs < 2 ^ 64 from h)]
  simp
theorem mulOk_l {i j : Int} (h : i.natAbs < 18446744073709551616) : mulOk i j = true := by
  unfold mulOk
  rw [decide_eq_true (show i.natAbs < 2 ^ 64 from h)]
  simp
theorem mulOk_fm {i j m : Int} (h1 : 0 < m) (h2 : m < 18446744073709551616) : mulOk (i.fmod m) j = true := by
  refine mulOk_l ?_
  obtain ⟨a, b⟩ := fmod_in i h1
  omega
theorem divOk_s {j : Int} (h1 : 0 < j) (h2 : j < 1073741824) : divOk j = true := by
  unfold divOk
  rw [decide_eq_true (show j ≠ 0 ∧ j.natAbs < 1073741824 by omega)]
  rfl
@[simp] theorem dblt_len_tup {l : List D} : dblt .len [.tup l] = some (.int l.length) := rfl
@[simp] theorem dblt_len_lst {l : List D} : dblt .len [.lst l] = some (.int l.length) := rfl
@[simp] theorem dblt_tuple_lst {l : List D} : dblt .tuple [.lst l] = some (.tup l) := rfl
@[simp] theorem dblt_tuple_tup {l : List D} : dblt .tuple [.tup l] = some (.tup l) := rfl
@[simp] theorem dblt_repr {d : D} : dblt .repr [d] = d.rpO.map .str := rfl
@[simp] theorem dblt_int {i : Int} : dblt .int [.int i] = some (.int i) := rfl
@[simp] theorem dblt_abs {i : Int} : dblt .abs [.int i] = some (.int (if i < 0 then -i else i)) := rfl
theorem ixN_nn {n : Nat} {k : Int} (h : 0 ≤ k) (h2 : k.toNat < n) : L2.ixN n k = some k.toNat := by
  unfold L2.ixN
  rw [if_pos h, if_pos (by omega)]
end
/-- a sense of the defs: what the reckoning needs of the evaluator, no more -/
structure Sem (P : Prg) (Γ : Nat → Gm) : Prop where
  step : ∀ (k i : Nat) (f : Fd) (ds : List D) (S : Sto), P.fds[i]? = some f → (Γ (k + 1)).call i ds S = f.run (Γ k) ds S
  word : ∀ (k w : Nat) (f : Fd) (b : E) (e : Env) (S : Sto), P.fds[w]? = some f → (Γ (k + 2)).word w b e S = f.runW { Γ k with thk := thkOf (Γ k) b e } S
  fuel : ∀ k, (Γ k).fuel = P.fuel
  sub : ∀ k, (Γ k).sub = P.sub
theorem sem_gam {P : Prg} : Sem P (gam P) where
  step := fun k i f ds S h => by
    have : (gam P (k + 1)).call i ds S = P.callG (gam P k) i ds S := by cases k <;> rfl
    rw [this]
    unfold Prg.callG
    rw [h]
  word := fun k w f b e S h => by
    show P.wordG (gam P k) w b e S = _
    unfold Prg.wordG
    rw [h]
  fuel := fun k => by match k with | 0 => rfl | 1 => rfl | k + 2 => rfl
  sub := fun k => by match k with | 0 => rfl | 1 => rfl | k + 2 => rfl
end Eng

set_option maxHeartbeats 4000000
/-! THE ENGINE, part Z: comprehensions, loops, reckoned. -/
namespace Eng
open PySem PyProof.Rows
section
variable {Γ : Gm} {e e1 e2 e3 : Env} {S S1 S2 : Sto} {t : Tg} {it : Itr} {elt ce : E} {own : List Nat} {xs : List D}
theorem turnC_one {x y : D} (h1 : bindT t x e = some e2) (h2 : evE Γ elt e2 S = .ok y e3 S2) : turnC Γ t none elt x e S = .ok [y] e3 S2 := by
  unfold turnC turnM
  rw [bindM_then h1]
  unfold evC
  show (do let y ← evE Γ elt; M.pure [y] : M (List D)) e2 S = _
  rw [bind_at h2]
  rfl
theorem turnC_if {x y : D} {b : Bool} (h1 : bindT t x e = some e1) (h2 : evE Γ ce e1 S = .ok (.bl b) e2 S1) (h3 : b = true → evE Γ elt e2 S1 = .ok y e3 S2) (h4 : b = false → e3 = e2 ∧ S2 = S1) : turnC Γ t (some ce) elt x e S = .ok (if b then [y] else []) e3 S2 := by
  unfold turnC turnM
  rw [bindM_then h1]
  have h5 : evC Γ (some ce) e1 S = .ok b e2 S1 := by
    unfold evC
    rw [bind_at h2]
    rfl
  rw [bind_at h5]
  cases b with
  | true =>
    show (do let y ← evE Γ elt; M.pure [y] : M (List D)) e2 S1 = _
    rw [bind_at (h3 rfl)]
    rfl
  | false =>
    obtain ⟨q1, q2⟩ := h4 rfl
    subst q1 q2
    rfl
theorem comp_of {r : List D} {c : Option E} (hi : evI Γ it e S = .ok xs e1 S1) (hc : compL own (turnC Γ t c elt) xs (wipeE e1 own) S1 = .ok r e2 S2) (hz : r.length ≤ sizeLine) : evE Γ (.comp own t it c elt) e S = .ok (.lst r) (backE e1 e2 own) S2 := by
  rw [evE_comp, hi, Res.bind_ok]
  unfold scopeM
  rw [hc, Res.bind_ok]
  unfold dlst small
  rw [decide_eq_true hz]
  rfl
theorem comp_map (h : D → D) (hi : evI Γ it e S = .ok xs e1 S1) (ht : ∀ x ∈ xs, ∃ e2 e3, bindT t x (wipeE e1 own) = some e2 ∧ evE Γ elt e2 S1 = .ok (h x) e3 S1 ∧ wipeE e3 own = wipeE e1 own) (hb : backE e1 (wipeE e1 own) own = e1) (hz : xs.length ≤ sizeLine) :
    evE Γ (.comp own t it none elt) e S = .ok (.lst (xs.map h)) e1 S1 := by
  have hr : ∀ l : List D, (l.flatMap fun x => [h x]) = l.map h := fun l => by
    induction l with
    | nil => rfl
    | cons x l ih => rw [List.flatMap_cons, ih, List.map_cons]; rfl
  have := comp_of (t := t) (c := none) (elt := elt) (r := xs.map h) hi (by
    rw [← hr]
    exact compL_ok own _ (fun x => [h x]) (wipeE e1 own) S1 xs fun x hx => by
      obtain ⟨e2, e3, q1, q2, q3⟩ := ht x hx
      exact ⟨e3, turnC_one q1 q2, q3⟩) (by rw [List.length_map]; exact hz)
  rw [hb] at this
  exact this
theorem comp_filter (p : D → Bool) (h : D → D) (hi : evI Γ it e S = .ok xs e1 S1)
    (ht : ∀ x ∈ xs, ∃ e2 e3 e4, bindT t x (wipeE e1 own) = some e2 ∧ evE Γ ce e2 S1 = .ok (.bl (p x)) e3 S1 ∧ (p x = true → evE Γ elt e3 S1 = .ok (h x) e4 S1) ∧ (p x = false → e4 = e3) ∧ wipeE e4 own = wipeE e1 own) (hb : backE e1 (wipeE e1 own) own = e1) (hz : xs.length ≤ sizeLine) :
    evE Γ (.comp own t it (some ce) elt) e S = .ok (.lst ((xs.filter p).map h)) e1 S1 := by
  have hr : ∀ l : List D, (l.flatMap fun x => if p x then [h x] else []) = (l.filter p).map h := fun l => by
    induction l with
    | nil => rfl
    | cons x l ih =>
      rw [List.flatMap_cons, ih, List.filter_cons]
      cases p x <;> rfl
  have := comp_of (t := t) (c := some ce) (elt := elt) (r := (xs.filter p).map h) hi (by
    rw [← hr]
    exact compL_ok own _ (fun x => if p x then [h x] else []) (wipeE e1 own) S1 xs fun x hx => by
      obtain ⟨e2, e3, e4, q1, q2, q3, q4, q5⟩ := ht x hx
      exact ⟨e4, turnC_if q1 q2 q3 (fun z => ⟨q4 z, rfl⟩), q5⟩) (by
    rw [List.length_map]
    exact Nat.le_trans (List.length_filter_le _ _) hz)
  rw [hb] at this
  exact this
/-- .. the names within a turn told -/
theorem comp_mapE (h : D → D) (E2 : D → Env) (hi : evI Γ it e S = .ok xs e1 S1) (h1 : ∀ x ∈ xs, bindT t x (wipeE e1 own) = some (E2 x)) (h2 : ∀ x ∈ xs, evE Γ elt (E2 x) S1 = .ok (h x) (E2 x) S1) (h3 : ∀ x ∈ xs, wipeE (E2 x) own = wipeE e1 own) (hb : backE e1 (wipeE e1 own) own = e1) (hz : xs.length ≤ sizeLine) :
    evE Γ (.comp own t it none elt) e S = .ok (.lst (xs.map h)) e1 S1 := comp_map h hi (fun x hx => ⟨_, _, h1 x hx, h2 x hx, h3 x hx⟩) hb hz
theorem comp_filterE (p : D → Bool) (h : D → D) (E2 : D → Env) (hi : evI Γ it e S = .ok xs e1 S1) (h1 : ∀ x ∈ xs, bindT t x (wipeE e1 own) = some (E2 x)) (h2 : ∀ x ∈ xs, evE Γ ce (E2 x) S1 = .ok (.bl (p x)) (E2 x) S1) (h2' : ∀ x ∈ xs, p x = true → evE Γ elt (E2 x) S1 = .ok (h x) (E2 x) S1)
    (h3 : ∀ x ∈ xs, wipeE (E2 x) own = wipeE e1 own) (hb : backE e1 (wipeE e1 own) own = e1) (hz : xs.length ≤ sizeLine) :
    evE Γ (.comp own t it (some ce) elt) e S = .ok (.lst ((xs.filter p).map h)) e1 S1 := comp_filter p h hi (fun x hx => ⟨_, _, _, h1 x hx, h2 x hx, h2' x hx, fun _ => rfl, h3 x hx⟩) hb hz
theorem flat_one : ∀ {xs : List D} {ys : List (List D)} {R : D → D → Prop}, Paired (fun x l => ∃ y, l = [y] ∧ R x y) xs ys → ∃ zs, ys.flatten = zs ∧ Paired R xs zs
  | _, _, _, .nil => ⟨[], rfl, .nil⟩
  | _, _, _, .cons ⟨y, h1, h2⟩ t => by
    obtain ⟨zs, h3, h4⟩ := flat_one t
    exact ⟨y :: zs, by rw [List.flatten_cons, h1, h3]; rfl, .cons h2 h4⟩
/-- turns that change the store -/
theorem comp_inv (I : Sto → Prop) (R : D → D → Prop) (hi : evI Γ it e S = .ok xs e1 S1) (hI : I S1) (ht : ∀ x ∈ xs, ∀ S, I S → ∃ y e2 e3 S2, bindT t x (wipeE e1 own) = some e2 ∧ evE Γ elt e2 S = .ok y e3 S2 ∧ wipeE e3 own = wipeE e1 own ∧ I S2 ∧ R x y)
    (hb : backE e1 (wipeE e1 own) own = e1) (hz : xs.length ≤ sizeLine) : ∃ ys S2, evE Γ (.comp own t it none elt) e S = .ok (.lst ys) e1 S2 ∧ I S2 ∧ Paired R xs ys := by
  obtain ⟨ys, S2, h1, h2, h3⟩ := compL_inv own (turnC Γ t none elt) (wipeE e1 own) I (fun x l => ∃ y, l = [y] ∧ R x y) xs S1 hI fun x hx S hS => by
    obtain ⟨y, e2, e3, S2, q1, q2, q3, q4, q5⟩ := ht x hx S hS
    exact ⟨[y], e3, S2, turnC_one q1 q2, q3, q4, y, rfl, q5⟩
  obtain ⟨zs, h4, h5⟩ := flat_one h3
  rw [h4] at h1
  refine ⟨zs, S2, ?_, h2, h5⟩
  have := comp_of (t := t) (c := none) (elt := elt) hi h1 (by rw [← Paired.length h5]; exact hz)
  rw [hb] at this
  exact this
/-- a loop, by an invariant of the names and the store, by the items that are left -/
theorem loopF_inv (f : D → M Fl) (I : List D → Env → Sto → Prop) : ∀ (xs : List D) (e : Env) (S : Sto), I xs e S → (∀ x xs e S, I (x :: xs) e S → ∃ fl e2 S2, f x e S = .ok fl e2 S2 ∧ (fl = .nx ∨ fl = .ct) ∧ I xs e2 S2) →
    ∃ e2 S2, loopF f xs e S = .ok .nx e2 S2 ∧ I [] e2 S2
  | [], e, S, h, _ => ⟨e, S, rfl, h⟩
  | x :: xs, e, S, h, hs => by
    obtain ⟨fl, e2, S2, h1, h2, h3⟩ := hs x xs e S h
    obtain ⟨e3, S3, h4, h5⟩ := loopF_inv f I xs e2 S2 h3 hs
    refine ⟨e3, S3, ?_, h5⟩
    show (f x >>= _) e S = _
    rw [bind_at h1]
    rcases h2 with h2 | h2 <;> subst h2 <;> exact h4
/-- a loop that ends at the first item that p holds of -/
theorem loopF_find (f : D → M Fl) (p : D → Bool) (g : D → D) (I : Env → Prop) (S : Sto) : ∀ (xs : List D) (e : Env), I e → (∀ x ∈ xs, ∀ e, I e → ∃ e2, f x e S = .ok (if p x then .rt (g x) else .nx) e2 S ∧ I e2) →
    ∃ e2, loopF f xs e S = .ok (match xs.find? p with | some x => .rt (g x) | none => .nx) e2 S ∧ I e2
  | [], e, h, _ => ⟨e, rfl, h⟩
  | x :: xs, e, h, hs => by
    obtain ⟨e2, h1, h2⟩ := hs x List.mem_cons_self e h
    cases hp : p x with
    | true =>
      rw [hp] at h1
      refine ⟨e2, ?_, h2⟩
      show (f x >>= _) e S = _
      rw [bind_at h1, List.find?_cons, hp]
      rfl
    | false =>
      rw [hp] at h1
      obtain ⟨e3, h3, h4⟩ := loopF_find f p g I S xs e2 h2 fun y hy => hs y (List.mem_cons_of_mem _ hy)
      refine ⟨e3, ?_, h4⟩
      show (f x >>= _) e S = _
      rw [bind_at h1, List.find?_cons, hp]
      exact h3
theorem turnF_at {m : M Fl} {x : D} (h : bindT t x e = some e2) : turnF t m x e S = m e2 S := by
  unfold turnF
  rw [bindM_then h]
end
@[simp] theorem isiOk_non {b : Bool} {i : Int} {x : Str} {l : List D} {m : List (L2.Key × D)} : D.isiOk (.non) = true := rfl
@[simp] theorem isiOk_bl {b : Bool} {i : Int} {x : Str} {l : List D} {m : List (L2.Key × D)} : D.isiOk (.bl b) = true := rfl
@[simp] theorem isiOk_int {b : Bool} {i : Int} {x : Str} {l : List D} {m : List (L2.Key × D)} : D.isiOk (.int i) = true := rfl
@[simp] theorem isiOk_str {b : Bool} {i : Int} {x : Str} {l : List D} {m : List (L2.Key × D)} : D.isiOk (.str x) = true := rfl
@[simp] theorem isiOk_tup {b : Bool} {i : Int} {x : Str} {l : List D} {m : List (L2.Key × D)} : D.isiOk (.tup l) = true := rfl
@[simp] theorem isiOk_lst {b : Bool} {i : Int} {x : Str} {l : List D} {m : List (L2.Key × D)} : D.isiOk (.lst l) = true := rfl
@[simp] theorem isiOk_dic {b : Bool} {i : Int} {x : Str} {l : List D} {m : List (L2.Key × D)} : D.isiOk (.dic m) = true := rfl
@[simp] theorem disi_int_non {b : Bool} {i : Int} {x : Str} {l : List D} {m : List (L2.Key × D)} : disi .int (.non) = false := rfl
@[simp] theorem disi_int_bl {b : Bool} {i : Int} {x : Str} {l : List D} {m : List (L2.Key × D)} : disi .int (.bl b) = true := rfl
@[simp] theorem disi_int_int {b : Bool} {i : Int} {x : Str} {l : List D} {m : List (L2.Key × D)} : disi .int (.int i) = true := rfl
@[simp] theorem disi_int_str {b : Bool} {i : Int} {x : Str} {l : List D} {m : List (L2.Key × D)} : disi .int (.str x) = false := rfl
@[simp] theorem disi_int_tup {b : Bool} {i : Int} {x : Str} {l : List D} {m : List (L2.Key × D)} : disi .int (.tup l) = false := rfl
@[simp] theorem disi_int_lst {b : Bool} {i : Int} {x : Str} {l : List D} {m : List (L2.Key × D)} : disi .int (.lst l) = false := rfl
@[simp] theorem disi_int_dic {b : Bool} {i : Int} {x : Str} {l : List D} {m : List (L2.Key × D)} : disi .int (.dic m) = false := rfl
@[simp] theorem disi_bool_non {b : Bool} {i : Int} {x : Str} {l : List D} {m : List (L2.Key × D)} : disi .bool (.non) = false := rfl
@[simp] theorem disi_bool_bl {b : Bool} {i : Int} {x : Str} {l : List D} {m : List (L2.Key × D)} : disi .bool (.bl b) = true := rfl
@[simp] theorem disi_bool_int {b : Bool} {i : Int} {x : Str} {l : List D} {m : List (L2.Key × D)} : disi .bool (.int i) = false := rfl
@[simp] theorem disi_bool_str {b : Bool} {i : Int} {x : Str} {l : List D} {m : List (L2.Key × D)} : disi .bool (.str x) = false := rfl
@[simp] theorem disi_bool_tup {b : Bool} {i : Int} {x : Str} {l : List D} {m : List (L2.Key × D)} : disi .bool (.tup l) = false := rfl
@[simp] theorem disi_bool_lst {b : Bool} {i : Int} {x : Str} {l : List D} {m : List (L2.Key × D)} : disi .bool (.lst l) = false := rfl
@[simp] theorem disi_bool_dic {b : Bool} {i : Int} {x : Str} {l : List D} {m : List (L2.Key × D)} : disi .bool (.dic m) = false := rfl
@[simp] theorem disi_str_non {b : Bool} {i : Int} {x : Str} {l : List D} {m : List (L2.Key × D)} : disi .str (.non) = false := rfl
@[simp] theorem disi_str_bl {b : Bool} {i : Int} {x : Str} {l : List D} {m : List (L2.Key × D)} : disi .str (.bl b) = false := rfl
@[simp] theorem disi_str_int {b : Bool} {i : Int} {x : Str} {l : List D} {m : List (L2.Key × D)} : disi .str (.int i) = false := rfl
@[simp] theorem disi_str_str {b : Bool} {i : Int} {x : Str} {l : List D} {m : List (L2.Key × D)} : disi .str (.str x) = true := rfl
@[simp] theorem disi_str_tup {b : Bool} {i : Int} {x : Str} {l : List D} {m : List (L2.Key × D)} : disi .str (.tup l) = false := rfl
@[simp] theorem disi_str_lst {b : Bool} {i : Int} {x : Str} {l : List D} {m : List (L2.Key × D)} : disi .str (.lst l) = false := rfl
@[simp] theorem disi_str_dic {b : Bool} {i : Int} {x : Str} {l : List D} {m : List (L2.Key × D)} : disi .str (.dic m) = false := rfl
@[simp] theorem disi_tuple_non {b : Bool} {i : Int} {x : Str} {l : List D} {m : List (L2.Key × D)} : disi .tuple (.non) = false := rfl
@[simp] theorem disi_tuple_bl {b : Bool} {i : Int} {x : Str} {l : List D} {m : List (L2.Key × D)} : disi .tuple (.bl b) = false := rfl
@[simp] theorem disi_tuple_int {b : Bool} {i : Int} {x : Str} {l : List D} {m : List (L2.Key × D)} : disi .tuple (.int i) = false := rfl
@[simp] theorem disi_tuple_str {b : Bool} {i : Int} {x : Str} {l : List D} {m : List (L2.Key × D)} : disi .tuple (.str x) = false := rfl
@[simp] theorem disi_tuple_tup {b : Bool} {i : Int} {x : Str} {l : List D} {m : List (L2.Key × D)} : disi .tuple (.tup l) = true := rfl
@[simp] theorem disi_tuple_lst {b : Bool} {i : Int} {x : Str} {l : List D} {m : List (L2.Key × D)} : disi .tuple (.lst l) = false := rfl
@[simp] theorem disi_tuple_dic {b : Bool} {i : Int} {x : Str} {l : List D} {m : List (L2.Key × D)} : disi .tuple (.dic m) = false := rfl
@[simp] theorem disi_list_non {b : Bool} {i : Int} {x : Str} {l : List D} {m : List (L2.Key × D)} : disi .list (.non) = false := rfl
@[simp] theorem disi_list_bl {b : Bool} {i : Int} {x : Str} {l : List D} {m : List (L2.Key × D)} : disi .list (.bl b) = false := rfl
@[simp] theorem disi_list_int {b : Bool} {i : Int} {x : Str} {l : List D} {m : List (L2.Key × D)} : disi .list (.int i) = false := rfl
@[simp] theorem disi_list_str {b : Bool} {i : Int} {x : Str} {l : List D} {m : List (L2.Key × D)} : disi .list (.str x) = false := rfl
@[simp] theorem disi_list_tup {b : Bool} {i : Int} {x : Str} {l : List D} {m : List (L2.Key × D)} : disi .list (.tup l) = false := rfl
@[simp] theorem disi_list_lst {b : Bool} {i : Int} {x : Str} {l : List D} {m : List (L2.Key × D)} : disi .list (.lst l) = true := rfl
@[simp] theorem disi_list_dic {b : Bool} {i : Int} {x : Str} {l : List D} {m : List (L2.Key × D)} : disi .list (.dic m) = false := rfl
@[simp] theorem disi_dict_non {b : Bool} {i : Int} {x : Str} {l : List D} {m : List (L2.Key × D)} : disi .dict (.non) = false := rfl
@[simp] theorem disi_dict_bl {b : Bool} {i : Int} {x : Str} {l : List D} {m : List (L2.Key × D)} : disi .dict (.bl b) = false := rfl
@[simp] theorem disi_dict_int {b : Bool} {i : Int} {x : Str} {l : List D} {m : List (L2.Key × D)} : disi .dict (.int i) = false := rfl
@[simp] theorem disi_dict_str {b : Bool} {i : Int} {x : Str} {l : List D} {m : List (L2.Key × D)} : disi .dict (.str x) = false := rfl
@[simp] theorem disi_dict_tup {b : Bool} {i : Int} {x : Str} {l : List D} {m : List (L2.Key × D)} : disi .dict (.tup l) = false := rfl
@[simp] theorem disi_dict_lst {b : Bool} {i : Int} {x : Str} {l : List D} {m : List (L2.Key × D)} : disi .dict (.lst l) = false := rfl
@[simp] theorem disi_dict_dic {b : Bool} {i : Int} {x : Str} {l : List D} {m : List (L2.Key × D)} : disi .dict (.dic m) = true := rfl
theorem dBools_bl {α : Type} (f : α → Bool) : ∀ l : List α, dBools (l.map fun x => D.bl (f x)) = some (l.map f)
  | [] => rfl
  | b :: bs => by
    show (dBools (bs.map fun x => D.bl (f x))).map (f b :: ·) = _
    rw [dBools_bl f bs]
    rfl
theorem dblt_all {α : Type} {f : α → Bool} {l : List α} : dblt .all [.lst (l.map fun x => D.bl (f x))] = some (.bl (l.all f)) := by
  show (dBools (l.map fun x => D.bl (f x))).map (fun bs => D.bl (bs.all id)) = _
  rw [dBools_bl]
  show some (D.bl ((l.map f).all id)) = _
  rw [List.all_map]
  rfl
theorem dblt_any {α : Type} {f : α → Bool} {l : List α} : dblt .any [.lst (l.map fun x => D.bl (f x))] = some (.bl (l.any f)) := by
  show (dBools (l.map fun x => D.bl (f x))).map (fun bs => D.bl (bs.any id)) = _
  rw [dBools_bl]
  show some (D.bl ((l.map f).any id)) = _
  rw [List.any_map]
  rfl
theorem dInts_int {α : Type} (f : α → Int) : ∀ l : List α, dInts (l.map fun x => D.int (f x)) = some (l.map f)
  | [] => rfl
  | b :: bs => by
    show (dInts (bs.map fun x => D.int (f x))).map (f b :: ·) = _
    rw [dInts_int f bs]
    rfl
theorem dblt_sumL {α : Type} {f : α → Int} {l : List α} : dblt .sum [.lst (l.map fun x => D.int (f x))] = some (.int (l.map f).sum) := by
  show (dInts (l.map fun x => D.int (f x))).map (fun ns => D.int ns.sum) = _
  rw [dInts_int]
  rfl
theorem dblt_sumT {α : Type} {f : α → Int} {l : List α} : dblt .sum [.tup (l.map fun x => D.int (f x))] = some (.int (l.map f).sum) := by
  show (dInts (l.map fun x => D.int (f x))).map (fun ns => D.int ns.sum) = _
  rw [dInts_int]
  rfl
@[simp] theorem dseq_tup {l : List D} : dseq (.tup l) = some l := rfl
@[simp] theorem dseq_lst {l : List D} : dseq (.lst l) = some l := rfl
theorem line1000 : (1000 : Nat) ≤ sizeLine := by decide
@[simp] theorem dtup_le {l : List D} (h : l.length ≤ 1000) : dtup l = some (.tup l) := by
  have := line1000
  unfold dtup small
  rw [if_pos (decide_eq_true (by omega))]
@[simp] theorem dlst_le {l : List D} (h : l.length ≤ 1000) : dlst l = some (.lst l) := by
  have := line1000
  unfold dlst small
  rw [if_pos (decide_eq_true (by omega))]
theorem dlst_line {l : List D} (h : l.length ≤ sizeLine) : dlst l = some (.lst l) := by
  unfold dlst small
  rw [if_pos (decide_eq_true h)]
theorem cat_lst {a b : List D} (h : a.length + b.length ≤ sizeLine) : dfre .cat [.lst a, .lst b] = some (.lst (a ++ b)) := dlst_line (by rw [List.length_append]; exact h)
theorem rng_ok {i : Int} (h1 : -1000000 ≤ i) (h2 : i ≤ 1000000) : rngOk i = true := by
  unfold rngOk
  rw [decide_eq_true (by omega), decide_eq_true (by omega)]
  rfl
theorem rngL_nat {n : Nat} : rngL 0 n = (List.range' 0 n).map fun k => D.int (k : Nat) := by
  unfold rngL
  rw [Int.sub_zero, Int.toNat_natCast, List.range_eq_range']
  refine List.map_congr_left fun k _ => ?_
  rw [Int.zero_add]
theorem drng_nat {n : Nat} (h : n ≤ 1000000) : drng [.int n] = some ((List.range' 0 n).map fun k => D.int (k : Nat)) := by
  show (if rngOk n = true then some (rngL 0 n) else none) = _
  rw [if_pos (rng_ok (by omega) (by omega)), rngL_nat]
/-- a loop over 0, 1, .. below n -/
theorem loopF_nat (f : D → M Fl) (n : Nat) (I : Nat → Env → Sto → Prop) (e : Env) (S : Sto) (h0 : I 0 e S) (hs : ∀ i e S, i < n → I i e S → ∃ fl e2 S2, f (.int (i : Nat)) e S = .ok fl e2 S2 ∧ (fl = .nx ∨ fl = .ct) ∧ I (i + 1) e2 S2) :
    ∃ e2 S2, loopF f ((List.range' 0 n).map fun k => D.int (k : Nat)) e S = .ok .nx e2 S2 ∧ I n e2 S2 := by
  obtain ⟨e2, S2, h1, i, h2, h3, h4⟩ := loopF_inv f (fun xs e S => ∃ i, i ≤ n ∧ xs = (List.range' i (n - i)).map (fun k => D.int (k : Nat)) ∧ I i e S) ((List.range' 0 n).map fun k => D.int (k : Nat)) e S ⟨0, Nat.zero_le _, rfl, h0⟩ (fun x xs e S ⟨i, hi, hx, hI⟩ => by
    have hlt : i < n := by
      rcases Nat.lt_or_ge i n with h | h
      · exact h
      · rw [show n - i = 0 by omega] at hx
        cases hx
    rw [show n - i = (n - (i + 1)) + 1 by omega, List.range'_succ] at hx
    cases hx
    obtain ⟨fl, e2, S2, q1, q2, q3⟩ := hs i e S hlt hI
    exact ⟨fl, e2, S2, q1, q2, i + 1, hlt, rfl, q3⟩)
  have : i = n := by
    have h3 := congrArg List.length h3
    simp at h3
    omega
  subst this
  exact ⟨e2, S2, h1, h4⟩
end Eng

set_option maxHeartbeats 4000000
/-! THE ENGINE, part Za: data that is compared, sorted. -/
namespace Eng
open PySem PyProof.Rows
mutual
theorem eqv_self : ∀ p : PyData, p.canLay0 = true → PyData.eqv p p = true
  | .none, _ => rfl
  | .bool b, _ => by cases b <;> rfl
  | .int i, _ => by show (i == i) = true; simp
  | .str x, _ => by show (x == x) = true; simp
  | .list xs, h => by unfold PyData.eqv; exact eqvAll_self xs (by unfold PyData.canLay0 at h; exact h)
  | .tuple xs, h => by unfold PyData.eqv; exact eqvAll_self xs (by unfold PyData.canLay0 at h; exact h)
  | .dict _, h => by cases h
theorem eqvAll_self : ∀ p : List PyData, PyData.canLayAll0 p = true → PyData.eqvAll p p = true
  | [], _ => rfl
  | x :: xs, h => by
    unfold PyData.canLayAll0 at h
    rw [Bool.and_eq_true] at h
    unfold PyData.eqvAll
    rw [eqv_self x h.1, eqvAll_self xs h.2]
    rfl
end
def okD : Nat → D → Bool
  | _, .non => true
  | _, .bl _ => true
  | _, .int _ => true
  | _, .str x => PyData.strOk x
  | n + 1, .tup l => l.all (okD n)
  | n + 1, .lst l => l.all (okD n)
  | _, _ => false
theorem okD_flat {n : Nat} {d : D} (h : okD n d = true) (hd : d.flat = true) : ∃ p, d.py = some p ∧ p.canLay0 = true ∧ p.depth ≤ n := by
  cases d with
  | non => exact ⟨.none, by unfold D.py; rfl, rfl, Nat.zero_le _⟩
  | bl b => exact ⟨.bool b, by unfold D.py; rfl, rfl, Nat.zero_le _⟩
  | int i => exact ⟨.int i, by unfold D.py; rfl, rfl, Nat.zero_le _⟩
  | str x =>
    refine ⟨.str x, by unfold D.py; rfl, ?_, Nat.zero_le _⟩
    cases n <;> exact h
  | _ => cases hd
theorem okD_py : ∀ {n : Nat} {d : D}, okD n d = true → ∃ p, d.py = some p ∧ p.canLay0 = true ∧ p.depth ≤ n := by
  intro n
  induction n with
  | zero =>
    intro d h
    cases d <;> first | exact okD_flat h rfl | cases h
  | succ n ih =>
    have all : ∀ l : List D, l.all (okD n) = true → ∃ ps, D.pyL l = some ps ∧ PyData.canLayAll0 ps = true ∧ PyData.depthAll ps ≤ n := by
      intro l
      induction l with
      | nil => intro _; exact ⟨[], by unfold D.pyL; rfl, rfl, Nat.zero_le _⟩
      | cons d l ihl =>
        intro h
        rw [List.all_cons, Bool.and_eq_true] at h
        obtain ⟨p, h1, h2, h3⟩ := ih h.1
        obtain ⟨ps, h4, h5, h6⟩ := ihl h.2
        refine ⟨p :: ps, by unfold D.pyL; rw [h1, h4], by unfold PyData.canLayAll0; rw [h2, h5]; rfl, ?_⟩
        unfold PyData.depthAll
        omega
    intro d h
    cases d with
    | tup l =>
      obtain ⟨ps, h1, h2, h3⟩ := all l h
      refine ⟨.tuple ps, by unfold D.py; rw [h1]; rfl, by unfold PyData.canLay0; exact h2, ?_⟩
      unfold PyData.depth
      omega
    | lst l =>
      obtain ⟨ps, h1, h2, h3⟩ := all l h
      refine ⟨.list ps, by unfold D.py; rw [h1]; rfl, by unfold PyData.canLay0; exact h2, ?_⟩
      unfold PyData.depth
      omega
    | _ => first | exact okD_flat h rfl | cases h
theorem shaped_ok {n : Nat} {d : D} (h : okD n d = true) (hn : n ≤ 64) : ∃ p, d.shapedO = some p ∧ d.py = some p ∧ p.canLay0 = true := by
  obtain ⟨p, h1, h2, h3⟩ := okD_py h
  refine ⟨p, ?_, h1, h2⟩
  unfold D.shapedO
  rw [h1]
  simp only []
  rw [if_pos]
  unfold SeqAt.shaped
  rw [h2, decide_eq_true (Nat.le_trans h3 hn)]
  rfl
theorem deq_self {d : D} (n : Nat) (h : okD n d = true) (hn : n ≤ 64 := by decide) : deq d d = some true := by
  obtain ⟨p, h1, _, h2⟩ := shaped_ok h hn
  unfold deq
  rw [h1]
  show some (PyData.eqv p p) = some true
  rw [eqv_self p h2]
theorem okD_int {n : Nat} {i : Int} : okD n (.int i) = true := by cases n <;> rfl
theorem okD_bl {n : Nat} {i : Bool} : okD n (.bl i) = true := by cases n <;> rfl
theorem okD_non {n : Nat} : okD n .non = true := by cases n <;> rfl
theorem okD_tup {n : Nat} {l : List D} (h : ∀ x ∈ l, okD n x = true) : okD (n + 1) (.tup l) = true := List.all_eq_true.mpr h
theorem okD_lst {n : Nat} {l : List D} (h : ∀ x ∈ l, okD n x = true) : okD (n + 1) (.lst l) = true := List.all_eq_true.mpr h
theorem okD_ints {n : Nat} {α : Type} {f : α → Int} {l : List α} : okD (n + 1) (.tup (l.map fun x => D.int (f x))) = true := okD_tup fun x hx => by
  obtain ⟨y, _, rfl⟩ := List.mem_map.mp hx
  exact okD_int
theorem okD_intsL {n : Nat} {α : Type} {f : α → Int} {l : List α} : okD (n + 1) (.lst (l.map fun x => D.int (f x))) = true := okD_lst fun x hx => by
  obtain ⟨y, _, rfl⟩ := List.mem_map.mp hx
  exact okD_int
/-! ### sorted -/
theorem ins_map {α β : Type} {le : β → β → Bool} {f : α → β} {a : α} : ∀ l : List α, ins le (f a) (l.map f) = (ins (fun x y => le (f x) (f y)) a l).map f
  | [] => rfl
  | b :: r => by
    show (if le (f a) (f b) = true then f a :: f b :: r.map f else f b :: ins le (f a) (r.map f)) = (if le (f a) (f b) = true then a :: b :: r else b :: ins (fun x y => le (f x) (f y)) a r).map f
    by_cases h : le (f a) (f b) = true
    · rw [if_pos h, if_pos h]; rfl
    · rw [if_neg h, if_neg h, ins_map r]; rfl
theorem isort_map {α β : Type} {le : β → β → Bool} {f : α → β} : ∀ l : List α, isort le (l.map f) = (isort (fun x y => le (f x) (f y)) l).map f
  | [] => rfl
  | a :: r => by
    show ins le (f a) (isort le (r.map f)) = _
    rw [isort_map r, ins_map]
    rfl
theorem mem_ins {α : Type} {le : α → α → Bool} {a x : α} : ∀ {l : List α}, x ∈ ins le a l ↔ x = a ∨ x ∈ l
  | [] => by simp [ins]
  | b :: r => by
    unfold ins
    split
    · simp
    · rw [List.mem_cons, mem_ins, List.mem_cons]
      constructor
      · rintro (h | h | h)
        · exact .inr (.inl h)
        · exact .inl h
        · exact .inr (.inr h)
      · rintro (h | h | h)
        · exact .inr (.inl h)
        · exact .inl h
        · exact .inr (.inr h)
theorem mem_isort {α : Type} {le : α → α → Bool} {x : α} : ∀ {l : List α}, x ∈ isort le l ↔ x ∈ l
  | [] => Iff.rfl
  | a :: r => by
    show x ∈ ins le a (isort le r) ↔ _
    rw [mem_ins, mem_isort, List.mem_cons]
theorem length_ins {α : Type} {le : α → α → Bool} {a : α} : ∀ {l : List α}, (ins le a l).length = l.length + 1
  | [] => rfl
  | b :: r => by
    unfold ins
    split
    · rfl
    · rw [List.length_cons, length_ins, List.length_cons]
theorem length_isort {α : Type} {le : α → α → Bool} : ∀ {l : List α}, (isort le l).length = l.length
  | [] => rfl
  | a :: r => by
    show (ins le a (isort le r)).length = _
    rw [length_ins, length_isort, List.length_cons]
theorem alike_ints : ∀ xs ys : List Int, PySem.W.alikeAll (xs.map PyData.int) (ys.map PyData.int) = true
  | [], _ => by cases ‹List Int› <;> rfl
  | _ :: _, [] => rfl
  | x :: xs, y :: ys => by
    show (PySem.W.alike (.int x) (.int y) && PySem.W.alikeAll (xs.map PyData.int) (ys.map PyData.int)) = true
    rw [alike_ints xs ys]
    rfl
theorem pyL_ints : ∀ l : List Int, D.pyL (l.map D.int) = some (l.map PyData.int)
  | [] => by unfold D.pyL; rfl
  | i :: l => by
    show D.pyL (.int i :: l.map D.int) = _
    unfold D.pyL
    rw [pyL_ints l]
    unfold D.py
    rfl
theorem depth_intsD : ∀ l : List Int, PyData.depthAll (l.map PyData.int) = 0
  | [] => rfl
  | i :: l => by
    show PyData.depthAll (.int i :: l.map PyData.int) = 0
    unfold PyData.depthAll
    rw [depth_intsD l]
    rfl
/-- (a number, a tuple of numbers) -/
def keyD (p : Int × List Int) : D := .tup [.int p.1, .tup (p.2.map D.int)]
def keyP (p : Int × List Int) : PyData := .tuple [.int p.1, .tuple (p.2.map PyData.int)]
theorem key_py (p : Int × List Int) : (keyD p).py = some (keyP p) := by
  unfold keyD keyP D.py D.pyL D.pyL D.pyL
  have h1 : D.py (.tup (p.2.map D.int)) = some (.tuple (p.2.map PyData.int)) := by
    unfold D.py
    rw [pyL_ints]
    rfl
  rw [h1]
  unfold D.py
  rfl
theorem key_ord (p : Int × List Int) : (keyD p).ordO = some (keyP p) := by
  unfold D.ordO
  rw [key_py]
  have : (keyP p).depth = 2 := by
    unfold keyP PyData.depth PyData.depthAll PyData.depthAll PyData.depthAll PyData.depth
    rw [depth_intsD]
    rfl
  simp only [this]
  rfl
theorem key_all : ∀ l : List (Int × List Int), ordAll (l.map keyD) = some (l.map keyP)
  | [] => rfl
  | p :: l => by
    show ordAll (keyD p :: l.map keyD) = _
    unfold ordAll
    rw [key_ord, key_all l]
    rfl
theorem key_alike (p q : Int × List Int) : PySem.W.alike (keyP p) (keyP q) = true := by
  have h1 : PySem.W.alike (.tuple (p.2.map PyData.int)) (.tuple (q.2.map PyData.int)) = true := by
    unfold PySem.W.alike
    exact alike_ints _ _
  unfold keyP PySem.W.alike PySem.W.alikeAll PySem.W.alikeAll PySem.W.alikeAll
  rw [h1]
  rfl
/-- the order of such pairs -/
def keyLe (p q : Int × List Int) : Bool := PySem.W.dataLe false enc (keyD p) (keyD q)
theorem sort_key {l : List (Int × List Int)} (hl : l.length ≤ sizeLine) : dfre .sorted [.lst (l.map keyD)] = some (.lst ((isort keyLe l).map keyD)) := by
  show dsort (l.map keyD) = _
  unfold dsort
  rw [key_all]
  simp only []
  rw [if_pos, isort_map]
  · rfl
  · unfold sortOk small
    rw [List.length_map, decide_eq_true hl]
    simp only [Bool.and_true]
    rw [Bool.and_eq_true, Bool.or_eq_true]
    refine ⟨List.all_eq_true.mpr fun p hp => List.all_eq_true.mpr fun q hq => ?_, .inl (List.all_eq_true.mpr fun p hp => ?_)⟩
    · obtain ⟨p', _, rfl⟩ := List.mem_map.mp hp
      obtain ⟨q', _, rfl⟩ := List.mem_map.mp hq
      exact key_alike p' q'
    · obtain ⟨p', _, rfl⟩ := List.mem_map.mp hp
      rfl
end Eng

set_option maxHeartbeats 0
/-! The text of the law, compiled. -/
namespace Law
open PySem PySem.Spec PyProof.Rows L2
abbrev rw0 : PySem.W.OpenLaw := PySem.Challenge.rw_beastriddles_k31_whole_lots_seen_so_and
abbrev R : PySem.W.OpenRow := PySem.W.OpenLaw.row PySem.Challenge.rw_beastriddles_k31_whole_lots_seen_so_and
def fn : List He.DefD := R.prog.main.body.filterMap Eng.defD
def T : Eng.Tab where
  fns := [(("is_integer" : PySem.Str), [("thing" : PySem.Str)]), (("is_within" : PySem.Str), [("thing" : PySem.Str), ("least" : PySem.Str), ("most" : PySem.Str)]), (("is_sized" : PySem.Str), [("thing" : PySem.Str), ("least" : PySem.Str), ("most" : PySem.Str)]), (("are_within" : PySem.Str), [("thing" : PySem.Str), ("least" : PySem.Str), ("most" : PySem.Str)]), (("is_rising" : PySem.Str), [("thing" : PySem.Str)]), (("is_lot" : PySem.Str), [("thing" : PySem.Str), ("many" : PySem.Str)]), (("is_mouse" : PySem.Str), [("cups" : PySem.Str), ("days" : PySem.Str), ("thing" : PySem.Str)]), (("is_plan" : PySem.Str), [("cups" : PySem.Str), ("thing" : PySem.Str)]), (("check_plan" : PySem.Str), [("cups" : PySem.Str), ("plan" : PySem.Str)]), (("first_day" : PySem.Str), [("mouse" : PySem.Str), ("bad" : PySem.Str)]), (("raw_seen" : PySem.Str), [("plan" : PySem.Str), ("bad" : PySem.Str)]), (("seen_by" : PySem.Str), [("cups" : PySem.Str), ("plan" : PySem.Str), ("bad" : PySem.Str)]), (("bad_lots" : PySem.Str), [("cups" : PySem.Str), ("many" : PySem.Str)]), (("check_bad" : PySem.Str), [("cups" : PySem.Str), ("plan" : PySem.Str), ("many" : PySem.Str)]), (("plan_told" : PySem.Str), [("cups" : PySem.Str), ("plan" : PySem.Str), ("many" : PySem.Str)]), (("bad_for" : PySem.Str), [("cups" : PySem.Str), ("plan" : PySem.Str), ("many" : PySem.Str), ("seen" : PySem.Str)]), (("most_cups" : PySem.Str), [("mice" : PySem.Str), ("days" : PySem.Str)]), (("written_plan" : PySem.Str), [("cups" : PySem.Str), ("mice" : PySem.Str), ("days" : PySem.Str)]), (("check_mice" : PySem.Str), [("cups" : PySem.Str), ("mice" : PySem.Str), ("days" : PySem.Str)]), (("mice_told" : PySem.Str), [("cups" : PySem.Str), ("mice" : PySem.Str), ("days" : PySem.Str)]), (("is_mice_told" : PySem.Str), [("cups" : PySem.Str), ("mice" : PySem.Str), ("days" : PySem.Str), ("thing" : PySem.Str)]), (("_law_hand" : PySem.Str), [("script" : PySem.Str)]), (("_law_draw" : PySem.Str), [("hand" : PySem.Str), ("size" : PySem.Str)]), (("_law_some" : PySem.Str), [("hand" : PySem.Str), ("things" : PySem.Str)]), (("_law_shuffled" : PySem.Str), [("hand" : PySem.Str), ("things" : PySem.Str)]), (("_law_is_int" : PySem.Str), [("thing" : PySem.Str)]), (("_law_deep" : PySem.Str), [("hand" : PySem.Str)]), (("_law_plan" : PySem.Str), [("hand" : PySem.Str), ("cups" : PySem.Str)]), (("_law_seen" : PySem.Str), [("plan" : PySem.Str), ("bad" : PySem.Str)]), (("_law_bads" : PySem.Str), [("cups" : PySem.Str), ("many" : PySem.Str)]), (("_law_alike" : PySem.Str), [("cups" : PySem.Str), ("plan" : PySem.Str), ("many" : PySem.Str)]), (("_law_is_plan" : PySem.Str), [("cups" : PySem.Str), ("thing" : PySem.Str)]), (("_law_most" : PySem.Str), [("mice" : PySem.Str), ("days" : PySem.Str)]), (("_law_does_tell" : PySem.Str), [("cups" : PySem.Str), ("mice" : PySem.Str), ("days" : PySem.Str), ("thing" : PySem.Str)]), (("_law_is_paper" : PySem.Str), [("cups" : PySem.Str), ("mice" : PySem.Str), ("days" : PySem.Str), ("thing" : PySem.Str)]), (("_law_are_bads_right" : PySem.Str), [("hand" : PySem.Str), ("cups" : PySem.Str), ("plan" : PySem.Str)]), (("_law_things" : PySem.Str), [("hand" : PySem.Str), ("paper_now" : PySem.Str), ("most" : PySem.Str)]), (("_law_is_right" : PySem.Str), [("hand" : PySem.Str)]), (("law" : PySem.Str), [("script" : PySem.Str)])]
  cst := [(("MOST_CUPS" : PySem.Str), .int 16), (("MOST_MICE" : PySem.Str), .int 5), (("MOST_DAYS" : PySem.Str), .int 3), (("MOST_BAD" : PySem.Str), .int 2), (("TELLS" : PySem.Str), .str ("tells" : PySem.Str)), (("ALIKE" : PySem.Str), .str ("alike" : PySem.Str)), (("PLAN" : PySem.Str), .str ("plan" : PySem.Str)), (("MOST" : PySem.Str), .str ("most" : PySem.Str))]
  free := [("len" : PySem.Str), ("tuple" : PySem.Str), ("abs" : PySem.Str), ("int" : PySem.Str), ("min" : PySem.Str), ("max" : PySem.Str), ("all" : PySem.Str), ("any" : PySem.Str), ("list" : PySem.Str), ("isinstance" : PySem.Str), ("range" : PySem.Str), ("bool" : PySem.Str), ("str" : PySem.Str), ("zip" : PySem.Str), ("enumerate" : PySem.Str), ("repr" : PySem.Str), ("ValueError" : PySem.Str)]
  exc := [("BeastError" : PySem.Str), ("NoBad" : PySem.Str), ("NoCups" : PySem.Str), ("NoNumber" : PySem.Str), ("NoPlan" : PySem.Str), ("NoTaste" : PySem.Str)]
  wrd := []
  lms := []
  sup := [(("BeastError" : PySem.Str), [("ValueError" : PySem.Str)]), (("NoBad" : PySem.Str), [("BeastError" : PySem.Str), ("ValueError" : PySem.Str)]), (("NoCups" : PySem.Str), [("BeastError" : PySem.Str), ("ValueError" : PySem.Str)]), (("NoNumber" : PySem.Str), [("BeastError" : PySem.Str), ("ValueError" : PySem.Str)]), (("NoPlan" : PySem.Str), [("BeastError" : PySem.Str), ("ValueError" : PySem.Str)]), (("NoTaste" : PySem.Str), [("BeastError" : PySem.Str), ("ValueError" : PySem.Str)])]
/-- 0: is_integer(thing); 0=thing -/
def b0 : List Eng.S :=
  [.ret (.and [.isi .int (.bor 0), .not (.isi .bool (.bor 0))])]
def f0 : Eng.Fd := ⟨("is_integer" : PySem.Str), [("thing" : PySem.Str)], [("thing" : PySem.Str)], b0⟩
/-- 1: is_within(thing, least, most); 0=thing 1=least 2=most -/
def b1 : List Eng.S :=
  [.ret (.and [.call 0 [.var 0], .chn .le .le (.bor 1) (.bor 0) (.bor 2)])]
def f1 : Eng.Fd := ⟨("is_within" : PySem.Str), [("thing" : PySem.Str), ("least" : PySem.Str), ("most" : PySem.Str)], [("thing" : PySem.Str), ("least" : PySem.Str), ("most" : PySem.Str)], b1⟩
/-- 2: is_sized(thing, least, most); 0=thing 1=least 2=most -/
def b2 : List Eng.S :=
  [.ret (.and [.isi .tuple (.bor 0), .chn .le .le (.bor 1) (.blt .len [.bor 0]) (.bor 2)])]
def f2 : Eng.Fd := ⟨("is_sized" : PySem.Str), [("thing" : PySem.Str), ("least" : PySem.Str), ("most" : PySem.Str)], [("thing" : PySem.Str), ("least" : PySem.Str), ("most" : PySem.Str)], b2⟩
/-- 3: are_within(thing, least, most); 0=thing 1=least 2=most 3=one -/
def q3_0 : Eng.E := .comp [3] (.name 3) (.seq (.bor 0)) none (.call 1 [.var 3, .var 1, .var 2])
def b3 : List Eng.S :=
  [.ret (.and [.isi .tuple (.bor 0), .blt .all [q3_0]])]
def f3 : Eng.Fd := ⟨("are_within" : PySem.Str), [("thing" : PySem.Str), ("least" : PySem.Str), ("most" : PySem.Str)], [("thing" : PySem.Str), ("least" : PySem.Str), ("most" : PySem.Str), ("one" : PySem.Str)], b3⟩
/-- 4: is_rising(thing); 0=thing 1=one 2=other -/
def q4_0 : Eng.E := .comp [1, 2] (.tup [.name 1, .name 2]) (.zip [.var 0, .slc (.bor 0) (some (.int 1)) none]) none (.cmp .lt (.bor 1) (.bor 2))
def b4 : List Eng.S :=
  [.ret (.blt .all [q4_0])]
def f4 : Eng.Fd := ⟨("is_rising" : PySem.Str), [("thing" : PySem.Str)], [("thing" : PySem.Str), ("one" : PySem.Str), ("other" : PySem.Str)], b4⟩
/-- 5: is_lot(thing, many); 0=thing 1=many -/
def b5 : List Eng.S :=
  [.ret (.and [.call 3 [.var 0, .int 0, .bin .sub (.bor 1) (.int 1)], .call 4 [.var 0]])]
def f5 : Eng.Fd := ⟨("is_lot" : PySem.Str), [("thing" : PySem.Str), ("many" : PySem.Str)], [("thing" : PySem.Str), ("many" : PySem.Str)], b5⟩
/-- 6: is_mouse(cups, days, thing); 0=cups 1=days 2=thing 3=lot -/
def q6_0 : Eng.E := .comp [3] (.name 3) (.seq (.bor 2)) none (.call 5 [.var 3, .var 0])
def b6 : List Eng.S :=
  [.ret (.and [.call 2 [.var 2, .var 1, .var 1], .blt .all [q6_0]])]
def f6 : Eng.Fd := ⟨("is_mouse" : PySem.Str), [("cups" : PySem.Str), ("days" : PySem.Str), ("thing" : PySem.Str)], [("cups" : PySem.Str), ("days" : PySem.Str), ("thing" : PySem.Str), ("lot" : PySem.Str)], b6⟩
/-- 7: is_plan(cups, thing); 0=cups 1=thing 2=mouse -/
def q7_0 : Eng.E := .comp [2] (.name 2) (.seq (.bor 1)) none (.call 2 [.var 2, .int 1, .cst (.int 3)])
def q7_1 : Eng.E := .comp [2] (.name 2) (.seq (.bor 1)) none (.call 6 [.var 0, .blt .len [.idx (.bor 1) (.int 0)], .var 2])
def b7 : List Eng.S :=
  [.ifs (.or [.not (.call 2 [.var 1, .int 0, .cst (.int 5)]), .not (.blt .all [q7_0])]) [.ret (.bl false)] [],
    .ret (.blt .all [q7_1])]
def f7 : Eng.Fd := ⟨("is_plan" : PySem.Str), [("cups" : PySem.Str), ("thing" : PySem.Str)], [("cups" : PySem.Str), ("thing" : PySem.Str), ("mouse" : PySem.Str)], b7⟩
/-- 8: check_plan(cups, plan); 0=cups 1=plan -/
def b8 : List Eng.S :=
  [.ifs (.not (.call 1 [.var 0, .int 2, .cst (.int 16)])) [.raise ("NoCups" : PySem.Str)] [],
    .ifs (.not (.call 7 [.var 0, .var 1])) [.raise ("NoPlan" : PySem.Str)] []]
def f8 : Eng.Fd := ⟨("check_plan" : PySem.Str), [("cups" : PySem.Str), ("plan" : PySem.Str)], [("cups" : PySem.Str), ("plan" : PySem.Str)], b8⟩
/-- 9: first_day(mouse, bad); 0=mouse 1=bad 2=some 3=day 4=lot 5=cup -/
def q9_0 : Eng.E := .comp [5] (.name 5) (.seq (.bor 1)) none (.cmp .inn (.bor 5) (.bor 4))
def q9_1 : Eng.E := .comp [3, 4] (.tup [.name 3, .name 4]) (.enum [.var 0]) (some (.blt .any [q9_0])) (.var 3)
def b9 : List Eng.S :=
  [.put 2 false (q9_1),
    .ret (.ite (.cmp .gt (.blt .len [.bor 2]) (.int 0)) (.idx (.bor 2) (.int 0)) (.non))]
def f9 : Eng.Fd := ⟨("first_day" : PySem.Str), [("mouse" : PySem.Str), ("bad" : PySem.Str)], [("mouse" : PySem.Str), ("bad" : PySem.Str), ("some" : PySem.Str), ("day" : PySem.Str), ("lot" : PySem.Str), ("cup" : PySem.Str)], b9⟩
/-- 10: raw_seen(plan, bad); 0=plan 1=bad 2=mouse -/
def q10_0 : Eng.E := .comp [2] (.name 2) (.seq (.bor 0)) none (.call 9 [.var 2, .var 1])
def b10 : List Eng.S :=
  [.ret (.blt .tuple [q10_0])]
def f10 : Eng.Fd := ⟨("raw_seen" : PySem.Str), [("plan" : PySem.Str), ("bad" : PySem.Str)], [("plan" : PySem.Str), ("bad" : PySem.Str), ("mouse" : PySem.Str)], b10⟩
/-- 11: seen_by(cups, plan, bad); 0=cups 1=plan 2=bad -/
def b11 : List Eng.S :=
  [.expr (.call 8 [.var 0, .var 1]),
    .ifs (.or [.not (.call 5 [.var 2, .var 0]), .not (.chn .le .le (.int 1) (.blt .len [.bor 2]) (.cst (.int 2)))]) [.raise ("NoBad" : PySem.Str)] [],
    .ret (.call 10 [.var 1, .var 2])]
def f11 : Eng.Fd := ⟨("seen_by" : PySem.Str), [("cups" : PySem.Str), ("plan" : PySem.Str), ("bad" : PySem.Str)], [("cups" : PySem.Str), ("plan" : PySem.Str), ("bad" : PySem.Str)], b11⟩
/-- 12: bad_lots(cups, many); 0=cups 1=many 2=one 3=other 4=cup -/
def q12_0 : Eng.E := .comp [4] (.name 4) (.rng [.var 0]) none (.tup [.var 4])
def q12_1 : Eng.E := .comp2 [2, 3] [3] (.name 2) (.rng [.var 0]) none (.name 3) (.rng [.bin .add (.bor 2) (.int 1), .var 0]) none (.tup [.var 2, .var 3])
def b12 : List Eng.S :=
  [.ifs (.cmp .eq (.bor 1) (.int 1)) [.ret (q12_0)] [],
    .ret (q12_1)]
def f12 : Eng.Fd := ⟨("bad_lots" : PySem.Str), [("cups" : PySem.Str), ("many" : PySem.Str)], [("cups" : PySem.Str), ("many" : PySem.Str), ("one" : PySem.Str), ("other" : PySem.Str), ("cup" : PySem.Str)], b12⟩
/-- 13: check_bad(cups, plan, many); 0=cups 1=plan 2=many -/
def b13 : List Eng.S :=
  [.expr (.call 8 [.var 0, .var 1]),
    .ifs (.not (.call 1 [.var 2, .int 1, .cst (.int 2)])) [.raise ("NoNumber" : PySem.Str)] []]
def f13 : Eng.Fd := ⟨("check_bad" : PySem.Str), [("cups" : PySem.Str), ("plan" : PySem.Str), ("many" : PySem.Str)], [("cups" : PySem.Str), ("plan" : PySem.Str), ("many" : PySem.Str)], b13⟩
/-- 14: plan_told(cups, plan, many); 0=cups 1=plan 2=many 3=at 4=one 5=other 6=seen 7=lots -/
def l14_0 : Eng.S := .fr (.name 5) (.seq (.slc (.bor 7) (some (.bin .add (.bor 3) (.int 1))) none)) [.ifs (.cmp .eq (.call 10 [.var 1, .var 5]) (.bor 6)) [.ret (.tup [.cst (.str ("alike" : PySem.Str)), .var 4, .var 5])] []]
def l14_1 : Eng.S := .fr (.tup [.name 3, .name 4]) (.enum [.var 7]) [.put 6 false (.call 10 [.var 1, .var 4]), l14_0]
def b14 : List Eng.S :=
  [.expr (.call 13 [.var 0, .var 1, .var 2]),
    .put 7 false (.call 12 [.var 0, .var 2]),
    l14_1,
    .ret (.tup [.cst (.str ("tells" : PySem.Str))])]
def f14 : Eng.Fd := ⟨("plan_told" : PySem.Str), [("cups" : PySem.Str), ("plan" : PySem.Str), ("many" : PySem.Str)], [("cups" : PySem.Str), ("plan" : PySem.Str), ("many" : PySem.Str), ("at" : PySem.Str), ("one" : PySem.Str), ("other" : PySem.Str), ("seen" : PySem.Str), ("lots" : PySem.Str)], b14⟩
/-- 15: bad_for(cups, plan, many, seen); 0=cups 1=plan 2=many 3=seen 4=days 5=lot 6=day -/
def q15_0 : Eng.E := .comp [6] (.name 6) (.seq (.bor 3)) none (.or [.cmp .isN (.bor 6) (.non), .call 1 [.var 6, .int 0, .bin .sub (.bor 4) (.int 1)]])
def q15_1 : Eng.E := .comp [5] (.name 5) (.seq (.call 12 [.var 0, .var 2])) (some (.cmp .eq (.call 10 [.var 1, .var 5]) (.bor 3))) (.var 5)
def b15 : List Eng.S :=
  [.expr (.call 13 [.var 0, .var 1, .var 2]),
    .ifs (.not (.call 2 [.var 3, .blt .len [.bor 1], .blt .len [.bor 1]])) [.raise ("NoTaste" : PySem.Str)] [],
    .put 4 false (.ite (.cmp .gt (.blt .len [.bor 1]) (.int 0)) (.blt .len [.idx (.bor 1) (.int 0)]) (.int 0)),
    .ifs (.not (.blt .all [q15_0])) [.raise ("NoTaste" : PySem.Str)] [],
    .ret (.blt .tuple [q15_1])]
def f15 : Eng.Fd := ⟨("bad_for" : PySem.Str), [("cups" : PySem.Str), ("plan" : PySem.Str), ("many" : PySem.Str), ("seen" : PySem.Str)], [("cups" : PySem.Str), ("plan" : PySem.Str), ("many" : PySem.Str), ("seen" : PySem.Str), ("days" : PySem.Str), ("lot" : PySem.Str), ("day" : PySem.Str)], b15⟩
/-- 16: most_cups(mice, days); 0=mice 1=days 2=mouse 3=found -/
def l16_0 : Eng.S := .fr (.name 2) (.rng [.var 0]) [.put 3 false (.bin .mul (.bor 3) (.bin .add (.bor 1) (.int 1)))]
def b16 : List Eng.S :=
  [.put 3 false (.int 1),
    l16_0,
    .ret (.var 3)]
def f16 : Eng.Fd := ⟨("most_cups" : PySem.Str), [("mice" : PySem.Str), ("days" : PySem.Str)], [("mice" : PySem.Str), ("days" : PySem.Str), ("mouse" : PySem.Str), ("found" : PySem.Str)], b16⟩
/-- 17: written_plan(cups, mice, days); 0=cups 1=mice 2=days 3=mouse 4=figures 5=step 6=plan 7=cup 8=day -/
def q17_0 : Eng.E := .comp [7] (.name 7) (.rng [.var 0]) none (.bin .mod (.bin .fdiv (.bor 7) (.bor 5)) (.bin .add (.bor 2) (.int 1)))
def q17_1 : Eng.E := .comp [7] (.name 7) (.rng [.var 0]) (some (.cmp .eq (.idx (.bor 4) (.bor 7)) (.bor 8))) (.var 7)
def q17_2 : Eng.E := .comp [8] (.name 8) (.rng [.var 2]) none (.blt .tuple [q17_1])
def l17_3 : Eng.S := .fr (.name 3) (.rng [.var 1]) [.put 5 false (.call 16 [.var 3, .var 2]), .put 4 false (q17_0), .app 6 (.blt .tuple [q17_2])]
def b17 : List Eng.S :=
  [.put 6 true (.lst []),
    l17_3,
    .ret (.blt .tuple [.bor 6])]
def f17 : Eng.Fd := ⟨("written_plan" : PySem.Str), [("cups" : PySem.Str), ("mice" : PySem.Str), ("days" : PySem.Str)], [("cups" : PySem.Str), ("mice" : PySem.Str), ("days" : PySem.Str), ("mouse" : PySem.Str), ("figures" : PySem.Str), ("step" : PySem.Str), ("plan" : PySem.Str), ("cup" : PySem.Str), ("day" : PySem.Str)], b17⟩
/-- 18: check_mice(cups, mice, days); 0=cups 1=mice 2=days -/
def b18 : List Eng.S :=
  [.ifs (.not (.call 1 [.var 0, .int 2, .cst (.int 16)])) [.raise ("NoCups" : PySem.Str)] [],
    .ifs (.not (.call 1 [.var 1, .int 0, .cst (.int 5)])) [.raise ("NoNumber" : PySem.Str)] [],
    .ifs (.not (.call 1 [.var 2, .int 1, .cst (.int 3)])) [.raise ("NoNumber" : PySem.Str)] []]
def f18 : Eng.Fd := ⟨("check_mice" : PySem.Str), [("cups" : PySem.Str), ("mice" : PySem.Str), ("days" : PySem.Str)], [("cups" : PySem.Str), ("mice" : PySem.Str), ("days" : PySem.Str)], b18⟩
/-- 19: mice_told(cups, mice, days); 0=cups 1=mice 2=days 3=most -/
def b19 : List Eng.S :=
  [.expr (.call 18 [.var 0, .var 1, .var 2]),
    .put 3 false (.call 16 [.var 1, .var 2]),
    .ret (.ite (.cmp .lt (.bor 3) (.bor 0)) (.tup [.cst (.str ("most" : PySem.Str)), .var 3]) (.tup [.cst (.str ("plan" : PySem.Str)), .call 17 [.var 0, .var 1, .var 2]]))]
def f19 : Eng.Fd := ⟨("mice_told" : PySem.Str), [("cups" : PySem.Str), ("mice" : PySem.Str), ("days" : PySem.Str)], [("cups" : PySem.Str), ("mice" : PySem.Str), ("days" : PySem.Str), ("most" : PySem.Str)], b19⟩
/-- 20: is_mice_told(cups, mice, days, thing); 0=cups 1=mice 2=days 3=thing 4=most 5=mouse -/
def q20_0 : Eng.E := .comp [5] (.name 5) (.seq (.idx (.bor 3) (.int 1))) none (.cmp .eq (.blt .len [.bor 5]) (.bor 2))
def b20 : List Eng.S :=
  [.expr (.call 18 [.var 0, .var 1, .var 2]),
    .ifs (.or [.not (.call 2 [.var 3, .int 2, .int 2]), .not (.isi .str (.idx (.bor 3) (.int 0)))]) [.ret (.bl false)] [],
    .put 4 false (.call 16 [.var 1, .var 2]),
    .ifs (.cmp .eq (.idx (.bor 3) (.int 0)) (.cst (.str ("most" : PySem.Str)))) [.ret (.and [.cmp .lt (.bor 4) (.bor 0), .call 1 [.idx (.bor 3) (.int 1), .var 4, .var 4]])] [],
    .ifs (.or [.cmp .ne (.idx (.bor 3) (.int 0)) (.cst (.str ("plan" : PySem.Str))), .not (.call 7 [.var 0, .idx (.bor 3) (.int 1)]), .cmp .ne (.blt .len [.idx (.bor 3) (.int 1)]) (.bor 1)]) [.ret (.bl false)] [],
    .ifs (.not (.blt .all [q20_0])) [.ret (.bl false)] [],
    .ret (.cmp .eq (.call 14 [.var 0, .idx (.bor 3) (.int 1), .int 1]) (.tup [.cst (.str ("tells" : PySem.Str))]))]
def f20 : Eng.Fd := ⟨("is_mice_told" : PySem.Str), [("cups" : PySem.Str), ("mice" : PySem.Str), ("days" : PySem.Str), ("thing" : PySem.Str)], [("cups" : PySem.Str), ("mice" : PySem.Str), ("days" : PySem.Str), ("thing" : PySem.Str), ("most" : PySem.Str), ("mouse" : PySem.Str)], b20⟩
/-- 21: _law_hand(script); 0=script 1=cells 2=cell -/
def q21_0 : Eng.E := .comp [2] (.name 2) (.seq (.slc (.bor 0) none (some (.int 63)))) none (.bin .mod (.blt .int [.blt .abs [.blt .int [.bor 2]]]) (.bin .pow (.int 10) (.int 36)))
def b21 : List Eng.S :=
  [.put 1 false (q21_0),
    .retC [.var 1, .int 0, .int 0, .bin .add (.int 431) (.bin .mul (.int 7) (.blt .len [.bor 1])), .int 0]]
def f21 : Eng.Fd := ⟨("_law_hand" : PySem.Str), [("script" : PySem.Str)], [("script" : PySem.Str), ("cells" : PySem.Str), ("cell" : PySem.Str)], b21⟩
/-- 22: _law_draw(hand, size); 0=hand 1=size 2=number 3=digit 4=cell -/
def b22 : List Eng.S :=
  [.ifs (.and [.cmp .eq (.idx (.bor 0) (.int 2)) (.int 0), .cmp .lt (.idx (.bor 0) (.int 1)) (.blt .len [.idx (.bor 0) (.int 0)])]) [.put 4 false (.idx (.idx (.bor 0) (.int 0)) (.idx (.bor 0) (.int 1))), .setIx 0 (.int 1) (.bin .add (.idx (.bor 0) (.int 1)) (.int 1)), .setIx 0 (.int 3) (.bin .mod (.blt .int [.bin .add (.bin .add (.bin .mul (.idx (.bor 0) (.int 3)) (.int 69621)) (.bin .mul (.bor 4) (.int 40692))) (.int 29)]) (.int 2147483629)), .ifs (.cmp .ge (.bor 4) (.bin .pow (.int 10) (.int 18))) [.setIx 0 (.int 2) (.var 4)] []] [],
    .ifs (.cmp .gt (.idx (.bor 0) (.int 2)) (.int 0)) [.put 3 false (.bin .mod (.blt .int [.idx (.bor 0) (.int 2)]) (.bor 1)), .setIx 0 (.int 2) (.bin .fdiv (.idx (.bor 0) (.int 2)) (.bor 1)), .ret (.var 3)] [],
    .setIx 0 (.int 4) (.bin .add (.idx (.bor 0) (.int 4)) (.int 1)),
    .put 2 false (.bin .mod (.blt .int [.bin .mul (.blt .int [.bin .add (.idx (.bor 0) (.int 3)) (.bin .mul (.int 7919) (.idx (.bor 0) (.int 4)))]) (.int 48271)]) (.int 2147483647)),
    .put 2 false (.bin .mod (.blt .int [.bin .mul (.bor 2) (.bin .add (.bin .fdiv (.bor 2) (.int 1009)) (.int 69621))]) (.int 2147483647)),
    .put 2 false (.bin .mod (.blt .int [.bin .mul (.bor 2) (.bin .add (.bin .fdiv (.bor 2) (.int 2003)) (.int 40014))]) (.int 2147483563)),
    .ret (.bin .mod (.blt .int [.bin .fdiv (.bor 2) (.int 16)]) (.bor 1))]
def f22 : Eng.Fd := ⟨("_law_draw" : PySem.Str), [("hand" : PySem.Str), ("size" : PySem.Str)], [("hand" : PySem.Str), ("size" : PySem.Str), ("number" : PySem.Str), ("digit" : PySem.Str), ("cell" : PySem.Str)], b22⟩
/-- 23: _law_some(hand, things); 0=hand 1=things -/
def b23 : List Eng.S :=
  [.ret (.idx (.bor 1) (.call 22 [.var 0, .blt .len [.bor 1]]))]
def f23 : Eng.Fd := ⟨("_law_some" : PySem.Str), [("hand" : PySem.Str), ("things" : PySem.Str)], [("hand" : PySem.Str), ("things" : PySem.Str)], b23⟩
/-- 24: _law_shuffled(hand, things); 0=hand 1=things 2=pool 3=found -/
def l24_0 : Eng.S := .whl (.cmp .gt (.blt .len [.bor 2]) (.int 0)) [.appPop 3 2 (.call 22 [.var 0, .blt .len [.bor 2]])]
def b24 : List Eng.S :=
  [.par (2, true) (3, true) (.fre .list [.bor 1]) (.lst []),
    l24_0,
    .ret (.var 3)]
def f24 : Eng.Fd := ⟨("_law_shuffled" : PySem.Str), [("hand" : PySem.Str), ("things" : PySem.Str)], [("hand" : PySem.Str), ("things" : PySem.Str), ("pool" : PySem.Str), ("found" : PySem.Str)], b24⟩
/-- 25: _law_is_int(thing); 0=thing -/
def b25 : List Eng.S :=
  [.ret (.and [.isi .int (.bor 0), .not (.isi .bool (.bor 0))])]
def f25 : Eng.Fd := ⟨("_law_is_int" : PySem.Str), [("thing" : PySem.Str)], [("thing" : PySem.Str)], b25⟩
/-- 26: _law_deep(hand); 0=hand 1=turn 2=found -/
def l26_0 : Eng.S := .fr (.name 1) (.rng [.bin .add (.int 1) (.call 22 [.var 0, .int 25])]) [.put 2 false (.idx (.lst [.tup [.var 2], .lst [.var 2], .dct [(.inl 0, .var 2)]]) (.call 22 [.var 0, .int 3]))]
def b26 : List Eng.S :=
  [.put 2 false (.call 23 [.var 0, .lst [.non, .str ("?" : PySem.Str), .dct []]]),
    l26_0,
    .ret (.var 2)]
def f26 : Eng.Fd := ⟨("_law_deep" : PySem.Str), [("hand" : PySem.Str)], [("hand" : PySem.Str), ("turn" : PySem.Str), ("found" : PySem.Str)], b26⟩
/-- 27: _law_plan(hand, cups); 0=hand 1=cups 2=mouse 3=rows 4=days 5=often 6=plan 7=day 8=cup -/
def q27_0 : Eng.E := .comp [8] (.name 8) (.rng [.var 1]) (some (.cmp .eq (.call 22 [.var 0, .var 5]) (.int 0))) (.var 8)
def q27_1 : Eng.E := .comp [7] (.name 7) (.rng [.var 4]) none (.blt .tuple [q27_0])
def l27_2 : Eng.S := .fr (.name 2) (.rng [.call 22 [.var 0, .int 5]]) [.put 3 false (q27_1), .app 6 (.blt .tuple [.bor 3])]
def b27 : List Eng.S :=
  [.parL [(4, false), (5, false), (6, true)] [.bin .add (.int 1) (.call 22 [.var 0, .int 3]), .call 23 [.var 0, .lst [.int 2, .int 2, .int 4]], .lst []],
    l27_2,
    .ret (.blt .tuple [.bor 6])]
def f27 : Eng.Fd := ⟨("_law_plan" : PySem.Str), [("hand" : PySem.Str), ("cups" : PySem.Str)], [("hand" : PySem.Str), ("cups" : PySem.Str), ("mouse" : PySem.Str), ("rows" : PySem.Str), ("days" : PySem.Str), ("often" : PySem.Str), ("plan" : PySem.Str), ("day" : PySem.Str), ("cup" : PySem.Str)], b27⟩
/-- 28: _law_seen(plan, bad); 0=plan 1=bad 2=mouse 3=days 4=found 5=day 6=row 7=cup -/
def q28_0 : Eng.E := .comp [7] (.name 7) (.seq (.bor 1)) none (.cmp .inn (.bor 7) (.bor 6))
def q28_1 : Eng.E := .comp [5, 6] (.tup [.name 5, .name 6]) (.enum [.var 2]) (some (.blt .any [q28_0])) (.var 5)
def l28_2 : Eng.S := .fr (.name 2) (.seq (.var 0)) [.put 3 false (q28_1), .app 4 (.ite (.cmp .gt (.blt .len [.bor 3]) (.int 0)) (.idx (.bor 3) (.int 0)) (.non))]
def b28 : List Eng.S :=
  [.put 4 true (.lst []),
    l28_2,
    .ret (.blt .tuple [.bor 4])]
def f28 : Eng.Fd := ⟨("_law_seen" : PySem.Str), [("plan" : PySem.Str), ("bad" : PySem.Str)], [("plan" : PySem.Str), ("bad" : PySem.Str), ("mouse" : PySem.Str), ("days" : PySem.Str), ("found" : PySem.Str), ("day" : PySem.Str), ("row" : PySem.Str), ("cup" : PySem.Str)], b28⟩
/-- 29: _law_bads(cups, many); 0=cups 1=many 2=one 3=found 4=cup 5=other -/
def q29_0 : Eng.E := .comp [4] (.name 4) (.rng [.var 0]) none (.tup [.var 4])
def q29_1 : Eng.E := .comp [5] (.name 5) (.rng [.bin .add (.bor 2) (.int 1), .var 0]) none (.tup [.var 2, .var 5])
def l29_2 : Eng.S := .fr (.name 2) (.rng [.var 0]) [.ext 3 (q29_1)]
def b29 : List Eng.S :=
  [.ifs (.cmp .eq (.bor 1) (.int 1)) [.ret (q29_0)] [],
    .put 3 true (.lst []),
    l29_2,
    .ret (.var 3)]
def f29 : Eng.Fd := ⟨("_law_bads" : PySem.Str), [("cups" : PySem.Str), ("many" : PySem.Str)], [("cups" : PySem.Str), ("many" : PySem.Str), ("one" : PySem.Str), ("found" : PySem.Str), ("cup" : PySem.Str), ("other" : PySem.Str)], b29⟩
/-- 30: _law_alike(cups, plan, many); 0=cups 1=plan 2=many 3=spot 4=one 5=place 6=seen_now 7=bads 8=bad -/
def q30_0 : Eng.E := .comp [8] (.name 8) (.seq (.bor 7)) none (.call 28 [.var 1, .var 8])
def l30_1 : Eng.S := .fr (.name 5) (.rng [.bin .add (.bor 3) (.int 1), .blt .len [.bor 7]]) [.ifs (.cmp .eq (.idx (.bor 6) (.bor 5)) (.idx (.bor 6) (.bor 3))) [.ret (.tup [.var 4, .idx (.bor 7) (.bor 5)])] []]
def l30_2 : Eng.S := .fr (.tup [.name 3, .name 4]) (.enum [.var 7]) [l30_1]
def b30 : List Eng.S :=
  [.par (7, false) (6, false) (.call 29 [.var 0, .var 2]) (.lst []),
    .put 6 false (q30_0),
    l30_2,
    .ret (.non)]
def f30 : Eng.Fd := ⟨("_law_alike" : PySem.Str), [("cups" : PySem.Str), ("plan" : PySem.Str), ("many" : PySem.Str)], [("cups" : PySem.Str), ("plan" : PySem.Str), ("many" : PySem.Str), ("spot" : PySem.Str), ("one" : PySem.Str), ("place" : PySem.Str), ("seen_now" : PySem.Str), ("bads" : PySem.Str), ("bad" : PySem.Str)], b30⟩
/-- 31: _law_is_plan(cups, thing); 0=cups 1=thing 2=mouse 3=row 4=one 5=later 6=cup -/
def q31_0 : Eng.E := .comp [6] (.name 6) (.seq (.bor 3)) none (.and [.call 25 [.var 6], .chn .le .lt (.int 0) (.bor 6) (.bor 0)])
def q31_1 : Eng.E := .comp [4, 5] (.tup [.name 4, .name 5]) (.zip [.var 3, .slc (.bor 3) (some (.int 1)) none]) none (.cmp .lt (.bor 4) (.bor 5))
def l31_2 : Eng.S := .fr (.name 3) (.seq (.var 2)) [.ifs (.or [.not (.isi .tuple (.bor 3)), .not (.blt .all [q31_0])]) [.ret (.bl false)] [], .ifs (.not (.blt .all [q31_1])) [.ret (.bl false)] []]
def l31_3 : Eng.S := .fr (.name 2) (.seq (.var 1)) [.ifs (.or [.not (.isi .tuple (.bor 2)), .not (.chn .le .le (.int 1) (.blt .len [.bor 2]) (.int 3)), .cmp .ne (.blt .len [.bor 2]) (.blt .len [.idx (.bor 1) (.int 0)])]) [.ret (.bl false)] [], l31_2]
def b31 : List Eng.S :=
  [.ifs (.or [.not (.isi .tuple (.bor 1)), .cmp .gt (.blt .len [.bor 1]) (.int 5)]) [.ret (.bl false)] [],
    l31_3,
    .ret (.bl true)]
def f31 : Eng.Fd := ⟨("_law_is_plan" : PySem.Str), [("cups" : PySem.Str), ("thing" : PySem.Str)], [("cups" : PySem.Str), ("thing" : PySem.Str), ("mouse" : PySem.Str), ("row" : PySem.Str), ("one" : PySem.Str), ("later" : PySem.Str), ("cup" : PySem.Str)], b31⟩
/-- 32: _law_most(mice, days); 0=mice 1=days 2=mouse 3=found -/
def l32_0 : Eng.S := .fr (.name 2) (.rng [.var 0]) [.put 3 false (.bin .mul (.bor 3) (.bin .add (.bor 1) (.int 1)))]
def b32 : List Eng.S :=
  [.put 3 false (.int 1),
    l32_0,
    .ret (.var 3)]
def f32 : Eng.Fd := ⟨("_law_most" : PySem.Str), [("mice" : PySem.Str), ("days" : PySem.Str)], [("mice" : PySem.Str), ("days" : PySem.Str), ("mouse" : PySem.Str), ("found" : PySem.Str)], b32⟩
/-- 33: _law_does_tell(cups, mice, days, thing); 0=cups 1=mice 2=days 3=thing 4=mouse -/
def q33_0 : Eng.E := .comp [4] (.name 4) (.seq (.bor 3)) none (.cmp .eq (.blt .len [.bor 4]) (.bor 2))
def b33 : List Eng.S :=
  [.ifs (.or [.not (.call 31 [.var 0, .var 3]), .cmp .ne (.blt .len [.bor 3]) (.bor 1), .not (.blt .all [q33_0])]) [.ret (.bl false)] [],
    .ret (.cmp .isN (.call 30 [.var 0, .var 3, .int 1]) (.non))]
def f33 : Eng.Fd := ⟨("_law_does_tell" : PySem.Str), [("cups" : PySem.Str), ("mice" : PySem.Str), ("days" : PySem.Str), ("thing" : PySem.Str)], [("cups" : PySem.Str), ("mice" : PySem.Str), ("days" : PySem.Str), ("thing" : PySem.Str), ("mouse" : PySem.Str)], b33⟩
/-- 34: _law_is_paper(cups, mice, days, thing); 0=cups 1=mice 2=days 3=thing 4=most -/
def b34 : List Eng.S :=
  [.ifs (.or [.not (.isi .tuple (.bor 3)), .cmp .ne (.blt .len [.bor 3]) (.int 2), .not (.isi .str (.idx (.bor 3) (.int 0)))]) [.ret (.bl false)] [],
    .ifs (.cmp .eq (.idx (.bor 3) (.int 0)) (.str ("plan" : PySem.Str))) [.ret (.call 33 [.var 0, .var 1, .var 2, .idx (.bor 3) (.int 1)])] [],
    .put 4 false (.call 32 [.var 1, .var 2]),
    .ret (.and [.cmp .eq (.idx (.bor 3) (.int 0)) (.str ("most" : PySem.Str)), .call 25 [.idx (.bor 3) (.int 1)], .cmp .eq (.idx (.bor 3) (.int 1)) (.bor 4), .cmp .gt (.bor 0) (.bor 4)])]
def f34 : Eng.Fd := ⟨("_law_is_paper" : PySem.Str), [("cups" : PySem.Str), ("mice" : PySem.Str), ("days" : PySem.Str), ("thing" : PySem.Str)], [("cups" : PySem.Str), ("mice" : PySem.Str), ("days" : PySem.Str), ("thing" : PySem.Str), ("most" : PySem.Str)], b34⟩
/-- 35: _law_are_bads_right(hand, cups, plan); 0=hand 1=cups 2=plan 3=seen 4=due 5=drawn 6=bad 7=bads 8=days 9=many 10=mouse 11=lot -/
def q35_0 : Eng.E := .comp [10] (.name 10) (.seq (.bor 2)) none (.call 23 [.var 0, .fre .cat [.lst [.non], .fre .rng [.var 8]]])
def q35_1 : Eng.E := .comp [11] (.name 11) (.seq (.bor 7)) (some (.cmp .eq (.call 28 [.var 2, .var 11]) (.bor 3))) (.var 11)
def l35_2 : Eng.S := .fr (.name 3) (.seq (.tup [.call 28 [.var 2, .var 6], .var 5])) [.put 4 false (.blt .tuple [q35_1]), .ifs (.cmp .ne (.blt .repr [.call 15 [.var 1, .var 2, .var 9, .var 3]]) (.blt .repr [.bor 4])) [.ret (.bl false)] []]
def b35 : List Eng.S :=
  [.put 9 false (.bin .add (.int 1) (.call 22 [.var 0, .int 2])),
    .parL [(7, false), (8, false)] [.call 29 [.var 1, .var 9], .ite (.cmp .gt (.blt .len [.bor 2]) (.int 0)) (.blt .len [.idx (.bor 2) (.int 0)]) (.int 1)],
    .put 6 false (.call 23 [.var 0, .var 7]),
    .put 5 false (.blt .tuple [q35_0]),
    l35_2,
    .ret (.cmp .inn (.bor 6) (.call 15 [.var 1, .var 2, .var 9, .call 11 [.var 1, .var 2, .var 6]]))]
def f35 : Eng.Fd := ⟨("_law_are_bads_right" : PySem.Str), [("hand" : PySem.Str), ("cups" : PySem.Str), ("plan" : PySem.Str)], [("hand" : PySem.Str), ("cups" : PySem.Str), ("plan" : PySem.Str), ("seen" : PySem.Str), ("due" : PySem.Str), ("drawn" : PySem.Str), ("bad" : PySem.Str), ("bads" : PySem.Str), ("days" : PySem.Str), ("many" : PySem.Str), ("mouse" : PySem.Str), ("lot" : PySem.Str)], b35⟩
/-- 36: _law_things(hand, paper_now, most); 0=hand 1=paper_now 2=most 3=some 4=odds 5=row 6=mouse 7=spot 8=base 9=odd -/
def q36_0 : Eng.E := .comp [9] (.name 9) (.seq (.bor 4)) none (.tup [.str ("plan" : PySem.Str), .bin .add (.bin .add (.slc (.bor 8) none (some (.var 7))) (.tup [.var 9])) (.slc (.bor 8) (some (.bin .add (.bor 7) (.int 1))) none)])
def b36 : List Eng.S :=
  [.put 8 false (.idx (.bor 1) (.int 1)),
    .put 3 false (.lst [.var 1, .tup [.str ("plan" : PySem.Str), .tup []], .tup [.str ("most" : PySem.Str), .var 2], .tup [.str ("most" : PySem.Str), .bin .add (.bor 2) (.int 1)], .tup [.str ("most" : PySem.Str), .bl true], .tup [.str ("most" : PySem.Str), .non]]),
    .put 3 false (.fre .cat [.bor 3, .lst [.tup [.str ("plan" : PySem.Str), .non], .tup [.str ("plan" : PySem.Str), .var 2]]]),
    .ifs (.and [.isi .tuple (.bor 8), .cmp .gt (.blt .len [.bor 8]) (.int 0)]) [.put 7 false (.call 22 [.var 0, .blt .len [.bor 8]]), .put 6 false (.idx (.bor 8) (.bor 7)), .put 5 false (.idx (.bor 6) (.int 0)), .put 4 true (.lst [.bin .add (.bor 6) (.tup [.tup []]), .slc (.bor 6) (some (.int 1)) none, .blt .rev [(.bor 6)], .bin .mul (.tup [.tup []]) (.blt .len [.bor 6]), .bin .add (.tup [.slc (.bor 5) (some (.int 1)) none]) (.slc (.bor 6) (some (.int 1)) none)]), .app 4 (.bin .add (.tup [.blt .rev [(.bor 5)]]) (.slc (.bor 6) (some (.int 1)) none)), .put 4 true (.fre .cat [.bor 4, .lst [.bin .add (.tup [.tup [.int 0]]) (.slc (.bor 6) (some (.int 1)) none), .bin .add (.tup [.bin .add (.bor 5) (.tup [.int 16])]) (.slc (.bor 6) (some (.int 1)) none), .fre .list [.bor 6], .bin .add (.tup [.non]) (.slc (.bor 6) (some (.int 1)) none)]]), .app 4 (.bin .add (.tup [.tup [.bl true]]) (.slc (.bor 6) (some (.int 1)) none)), .put 3 false (.fre .cat [.bor 3, q36_0]), .put 3 false (.fre .cat [.bor 3, .lst [.tup [.str ("plan" : PySem.Str), .slc (.bor 8) (some (.int 1)) none], .tup [.str ("plan" : PySem.Str), .bin .add (.bor 8) (.slc (.bor 8) none (some (.int 1)))], .tup [.str ("plan" : PySem.Str), .blt .rev [(.bor 8)]]]]), .put 3 false (.fre .cat [.bor 3, .lst [.tup [.str ("plan" : PySem.Str), .fre .list [.bor 8]], .tup [.str ("most" : PySem.Str), .var 8]]])] [],
    .put 3 false (.fre .cat [.bor 3, .lst [.fre .list [.bor 1], .blt .rev [(.bor 1)], .bin .add (.bor 1) (.tup [.int 0]), .slc (.bor 1) none (some (.int 1))]]),
    .ret (.fre .cat [.bor 3, .lst [.non, .int 0, .tup [], .dct [], .str ("plan" : PySem.Str), .call 26 [.var 0]]])]
def f36 : Eng.Fd := ⟨("_law_things" : PySem.Str), [("hand" : PySem.Str), ("paper_now" : PySem.Str), ("most" : PySem.Str)], [("hand" : PySem.Str), ("paper_now" : PySem.Str), ("most" : PySem.Str), ("some" : PySem.Str), ("odds" : PySem.Str), ("row" : PySem.Str), ("mouse" : PySem.Str), ("spot" : PySem.Str), ("base" : PySem.Str), ("odd" : PySem.Str)], b36⟩
/-- 37: _law_is_right(hand); 0=hand 1=thing 2=paper_now 3=cups 4=most 5=mice 6=days -/
def l37_0 : Eng.S := .fr (.name 1) (.seq (.slc (.call 24 [.var 0, .call 36 [.var 0, .var 2, .var 4]]) none (some (.int 9)))) [.ifs (.cmp .ne (.blt .repr [.call 20 [.var 3, .var 5, .var 6, .var 1]]) (.blt .repr [.call 34 [.var 3, .var 5, .var 6, .var 1]])) [.ret (.bl false)] []]
def b37 : List Eng.S :=
  [.par (5, false) (6, false) (.call 22 [.var 0, .int 6]) (.bin .add (.int 1) (.call 22 [.var 0, .int 3])),
    .put 4 false (.call 32 [.var 5, .var 6]),
    .put 3 false (.call 23 [.var 0, .lst [.bin .add (.int 2) (.call 22 [.var 0, .int 15]), .blt .max2 [.int 2, .blt .min2 [.int 16, .bor 4]], .blt .max2 [.int 2, .blt .min2 [.int 16, .bin .add (.bor 4) (.int 1)]]]]),
    .put 2 false (.call 19 [.var 3, .var 5, .var 6]),
    .ifs (.or [.cmp .ne (.blt .repr [.call 19 [.var 3, .var 5, .var 6]]) (.blt .repr [.bor 2]), .not (.isi .tuple (.bor 2)), .cmp .ne (.blt .len [.bor 2]) (.int 2)]) [.ret (.bl false)] [],
    .ifs (.and [.cmp .gt (.bor 3) (.bor 4), .cmp .ne (.blt .repr [.bor 2]) (.blt .repr [.tup [.str ("most" : PySem.Str), .var 4]])]) [.ret (.bl false)] [],
    .ifs (.and [.cmp .le (.bor 3) (.bor 4), .cmp .ne (.idx (.bor 2) (.int 0)) (.str ("plan" : PySem.Str))]) [.ret (.bl false)] [],
    .ifs (.and [.cmp .le (.bor 3) (.bor 4), .not (.call 33 [.var 3, .var 5, .var 6, .idx (.bor 2) (.int 1)])]) [.ret (.bl false)] [],
    .ifs (.cmp .isNotN (.call 20 [.var 3, .var 5, .var 6, .var 2]) (.bl true)) [.ret (.bl false)] [],
    l37_0,
    .ret (.bl true)]
def f37 : Eng.Fd := ⟨("_law_is_right" : PySem.Str), [("hand" : PySem.Str)], [("hand" : PySem.Str), ("thing" : PySem.Str), ("paper_now" : PySem.Str), ("cups" : PySem.Str), ("most" : PySem.Str), ("mice" : PySem.Str), ("days" : PySem.Str)], b37⟩
/-- 38: law(script); 0=script 1=step 2=cups 3=plan 4=hand -/
def l38_0 : Eng.S := .fr (.name 1) (.rng [.int 5]) [.put 2 false (.bin .add (.int 2) (.call 22 [.var 4, .int 6])), .ifs (.or [.not (.call 35 [.var 4, .var 2, .call 27 [.var 4, .var 2]]), .not (.call 37 [.var 4])]) [.ret (.bl false)] []]
def b38 : List Eng.S :=
  [.put 4 false (.call 21 [.var 0]),
    .put 3 false (.tup [.tup [.tup [.int 0, .int 1]], .tup [.tup [.int 0, .int 2]]]),
    .ifs (.or [.cmp .ne (.call 15 [.int 4, .var 3, .int 1, .tup [.int 0, .non]]) (.tup [.tup [.int 1]]), .cmp .ne (.call 15 [.int 4, .var 3, .int 2, .tup [.non, .non]]) (.tup [])]) [.ret (.bl false)] [],
    .ifs (.cmp .ne (.call 19 [.int 10, .int 2, .int 2]) (.tup [.str ("most" : PySem.Str), .int 9])) [.ret (.bl false)] [],
    .ifs (.cmp .isNotN (.call 20 [.int 9, .int 2, .int 2, .tup [.str ("plan" : PySem.Str), .tup [.tup [.tup [.int 0, .int 3, .int 6], .tup [.int 1, .int 4, .int 7]], .tup [.tup [.int 0, .int 1, .int 2], .tup [.int 3, .int 4, .int 5]]]]]) (.bl true)) [.ret (.bl false)] [],
    .ifs (.or [.cmp .ne (.call 19 [.int 2, .int 0, .int 1]) (.tup [.str ("most" : PySem.Str), .int 1]), .cmp .isNotN (.call 20 [.int 9, .int 2, .int 2, .tup [.str ("most" : PySem.Str), .int 9]]) (.bl false)]) [.ret (.bl false)] [],
    l38_0,
    .ret (.bl true)]
def f38 : Eng.Fd := ⟨("law" : PySem.Str), [("script" : PySem.Str)], [("script" : PySem.Str), ("step" : PySem.Str), ("cups" : PySem.Str), ("plan" : PySem.Str), ("hand" : PySem.Str)], b38⟩
def infs : List Eng.Inf := [⟨[("thing" : PySem.Str)], [], false⟩,
  ⟨[("thing" : PySem.Str), ("least" : PySem.Str), ("most" : PySem.Str)], [], false⟩,
  ⟨[("thing" : PySem.Str), ("least" : PySem.Str), ("most" : PySem.Str)], [], false⟩,
  ⟨[("thing" : PySem.Str), ("least" : PySem.Str), ("most" : PySem.Str), ("one" : PySem.Str)], [], false⟩,
  ⟨[("thing" : PySem.Str), ("one" : PySem.Str), ("other" : PySem.Str)], [], false⟩,
  ⟨[("thing" : PySem.Str), ("many" : PySem.Str)], [], false⟩,
  ⟨[("cups" : PySem.Str), ("days" : PySem.Str), ("thing" : PySem.Str), ("lot" : PySem.Str)], [], false⟩,
  ⟨[("cups" : PySem.Str), ("thing" : PySem.Str), ("mouse" : PySem.Str)], [], false⟩,
  ⟨[("cups" : PySem.Str), ("plan" : PySem.Str)], [], false⟩,
  ⟨[("mouse" : PySem.Str), ("bad" : PySem.Str), ("some" : PySem.Str), ("day" : PySem.Str), ("lot" : PySem.Str), ("cup" : PySem.Str)], [], false⟩,
  ⟨[("plan" : PySem.Str), ("bad" : PySem.Str), ("mouse" : PySem.Str)], [], false⟩,
  ⟨[("cups" : PySem.Str), ("plan" : PySem.Str), ("bad" : PySem.Str)], [], false⟩,
  ⟨[("cups" : PySem.Str), ("many" : PySem.Str), ("one" : PySem.Str), ("other" : PySem.Str), ("cup" : PySem.Str)], [], false⟩,
  ⟨[("cups" : PySem.Str), ("plan" : PySem.Str), ("many" : PySem.Str)], [], false⟩,
  ⟨[("cups" : PySem.Str), ("plan" : PySem.Str), ("many" : PySem.Str), ("at" : PySem.Str), ("one" : PySem.Str), ("other" : PySem.Str), ("seen" : PySem.Str), ("lots" : PySem.Str)], [], false⟩,
  ⟨[("cups" : PySem.Str), ("plan" : PySem.Str), ("many" : PySem.Str), ("seen" : PySem.Str), ("days" : PySem.Str), ("lot" : PySem.Str), ("day" : PySem.Str)], [], false⟩,
  ⟨[("mice" : PySem.Str), ("days" : PySem.Str), ("mouse" : PySem.Str), ("found" : PySem.Str)], [], false⟩,
  ⟨[("cups" : PySem.Str), ("mice" : PySem.Str), ("days" : PySem.Str), ("mouse" : PySem.Str), ("figures" : PySem.Str), ("step" : PySem.Str), ("plan" : PySem.Str), ("cup" : PySem.Str), ("day" : PySem.Str)], [6], false⟩,
  ⟨[("cups" : PySem.Str), ("mice" : PySem.Str), ("days" : PySem.Str)], [], false⟩,
  ⟨[("cups" : PySem.Str), ("mice" : PySem.Str), ("days" : PySem.Str), ("most" : PySem.Str)], [], false⟩,
  ⟨[("cups" : PySem.Str), ("mice" : PySem.Str), ("days" : PySem.Str), ("thing" : PySem.Str), ("most" : PySem.Str), ("mouse" : PySem.Str)], [], false⟩,
  ⟨[("script" : PySem.Str), ("cells" : PySem.Str), ("cell" : PySem.Str)], [], true⟩,
  ⟨[("hand" : PySem.Str), ("size" : PySem.Str), ("number" : PySem.Str), ("digit" : PySem.Str), ("cell" : PySem.Str)], [], false⟩,
  ⟨[("hand" : PySem.Str), ("things" : PySem.Str)], [], false⟩,
  ⟨[("hand" : PySem.Str), ("things" : PySem.Str), ("pool" : PySem.Str), ("found" : PySem.Str)], [2, 3], false⟩,
  ⟨[("thing" : PySem.Str)], [], false⟩,
  ⟨[("hand" : PySem.Str), ("turn" : PySem.Str), ("found" : PySem.Str)], [], false⟩,
  ⟨[("hand" : PySem.Str), ("cups" : PySem.Str), ("mouse" : PySem.Str), ("rows" : PySem.Str), ("days" : PySem.Str), ("often" : PySem.Str), ("plan" : PySem.Str), ("day" : PySem.Str), ("cup" : PySem.Str)], [6], false⟩,
  ⟨[("plan" : PySem.Str), ("bad" : PySem.Str), ("mouse" : PySem.Str), ("days" : PySem.Str), ("found" : PySem.Str), ("day" : PySem.Str), ("row" : PySem.Str), ("cup" : PySem.Str)], [4], false⟩,
  ⟨[("cups" : PySem.Str), ("many" : PySem.Str), ("one" : PySem.Str), ("found" : PySem.Str), ("cup" : PySem.Str), ("other" : PySem.Str)], [3], false⟩,
  ⟨[("cups" : PySem.Str), ("plan" : PySem.Str), ("many" : PySem.Str), ("spot" : PySem.Str), ("one" : PySem.Str), ("place" : PySem.Str), ("seen_now" : PySem.Str), ("bads" : PySem.Str), ("bad" : PySem.Str)], [], false⟩,
  ⟨[("cups" : PySem.Str), ("thing" : PySem.Str), ("mouse" : PySem.Str), ("row" : PySem.Str), ("one" : PySem.Str), ("later" : PySem.Str), ("cup" : PySem.Str)], [], false⟩,
  ⟨[("mice" : PySem.Str), ("days" : PySem.Str), ("mouse" : PySem.Str), ("found" : PySem.Str)], [], false⟩,
  ⟨[("cups" : PySem.Str), ("mice" : PySem.Str), ("days" : PySem.Str), ("thing" : PySem.Str), ("mouse" : PySem.Str)], [], false⟩,
  ⟨[("cups" : PySem.Str), ("mice" : PySem.Str), ("days" : PySem.Str), ("thing" : PySem.Str), ("most" : PySem.Str)], [], false⟩,
  ⟨[("hand" : PySem.Str), ("cups" : PySem.Str), ("plan" : PySem.Str), ("seen" : PySem.Str), ("due" : PySem.Str), ("drawn" : PySem.Str), ("bad" : PySem.Str), ("bads" : PySem.Str), ("days" : PySem.Str), ("many" : PySem.Str), ("mouse" : PySem.Str), ("lot" : PySem.Str)], [], false⟩,
  ⟨[("hand" : PySem.Str), ("paper_now" : PySem.Str), ("most" : PySem.Str), ("some" : PySem.Str), ("odds" : PySem.Str), ("row" : PySem.Str), ("mouse" : PySem.Str), ("spot" : PySem.Str), ("base" : PySem.Str), ("odd" : PySem.Str)], [4], false⟩,
  ⟨[("hand" : PySem.Str), ("thing" : PySem.Str), ("paper_now" : PySem.Str), ("cups" : PySem.Str), ("most" : PySem.Str), ("mice" : PySem.Str), ("days" : PySem.Str)], [], false⟩,
  ⟨[("script" : PySem.Str), ("step" : PySem.Str), ("cups" : PySem.Str), ("plan" : PySem.Str), ("hand" : PySem.Str)], [], false⟩]
def P : List Eng.Fd := [f0, f1, f2, f3, f4, f5, f6, f7, f8, f9, f10, f11, f12, f13, f14, f15, f16, f17, f18, f19, f20, f21, f22, f23, f24, f25, f26, f27, f28, f29, f30, f31, f32, f33, f34, f35, f36, f37, f38]
def Pg : Eng.Prg := ⟨P, T.sub, 10000⟩

theorem mk : Eng.mkAll T 40 fn infs = some P := by kernel_rfl
theorem fnsEq : (P.map fun f => (f.name, f.ps)) = T.fns := by kernel_rfl
theorem defs : Eng.Defs T fn P T.fns := by
  have h := Eng.mkAll_ok mk
  rw [fnsEq] at h
  exact h
end Law

set_option maxHeartbeats 4000000
/-! tools of the reckoning: loops, comprehensions, numbers -/
namespace Law
open PySem Eng PyProof.Rows
theorem loopW_stop {c : M Bool} {b : M Fl} {n : Nat} {e : Eng.Env} {S : Sto} (h : c e S = .ok false e S) : loopW c b (n + 1) e S = .ok .nx e S := by
  unfold loopW
  show M.bind c _ e S = _
  unfold M.bind
  rw [h]
  rfl
theorem loopW_on {c : M Bool} {b : M Fl} {n : Nat} {e e2 : Eng.Env} {S S2 : Sto} (h : c e S = .ok true e S) (hb : b e S = .ok .nx e2 S2) : loopW c b (n + 1) e S = loopW c b n e2 S2 := by
  rw [loopW]
  show M.bind c _ e S = _
  unfold M.bind
  rw [h]
  show M.bind b _ e S = _
  unfold M.bind
  rw [hb]
theorem evS_whl {Γ : Gm} {t : E} {b : List Eng.S} {e : Eng.Env} {S : Sto} : evS Γ (.whl t b) e S = loopW (do
      let x ← evE Γ t
      boolM x) (evSs Γ b) Γ.fuel e S := by rw [evS]
theorem cond_of {Γ : Gm} {t : E} {e : Eng.Env} {S : Sto} {b : Bool} (h : evE Γ t e S = .ok (.bl b) e S) : (do let x ← evE Γ t; boolM x : M Bool) e S = .ok b e S := by
  show M.bind _ _ e S = _
  unfold M.bind
  rw [h]
  rfl
theorem fmod_nat {a b : Nat} : (a : Int).fmod (b : Int) = ((a % b : Nat) : Int) := by
  rw [Int.fmod_eq_emod_of_nonneg _ (by omega)]
  exact (Int.natCast_emod a b).symm
theorem fdiv_nat {a b : Nat} : (a : Int).fdiv (b : Int) = ((a / b : Nat) : Int) := by
  rw [Int.fdiv_eq_ediv_of_nonneg _ (by omega)]
  exact (Int.natCast_ediv a b).symm
theorem deq_int {i j : Int} : deq (.int i) (.int j) = some (decide (i = j)) := rfl
theorem log_le {a m : Nat} (h : a < 2 ^ m) : a.log2 ≤ m := by
  by_cases h0 : a = 0
  · subst h0; rw [Nat.log2_zero]; exact Nat.zero_le _
  · exact Nat.le_of_lt ((Nat.log2_lt h0).mpr h)
theorem mulOk_p {a b : Nat} (h1 : a < 2 ^ 100) (h2 : b < 2 ^ 100) : mulOk (a : Int) (b : Int) = true := by
  have l1 := log_le h1
  have l2 := log_le h2
  unfold mulOk
  rw [Int.natAbs_natCast, Int.natAbs_natCast, decide_eq_true (p := a.log2 + b.log2 < 1000000) (by omega), Bool.or_true]
theorem divOk_p {a : Nat} (h0 : 0 < a) (h : a < 2 ^ 200) : divOk (a : Int) = true := by
  have l1 := log_le h
  unfold divOk
  rw [Int.natAbs_natCast, decide_eq_true (p := (0 : Int) < a ∧ a.log2 < 9000) ⟨by omega, by omega⟩, Bool.or_true]
/-- a def's run by its body and its names, told -/
theorem run_b {Γ : Gm} {f : Fd} {ds : List D} {S : Sto} (b : List Eng.S) (e : Eng.Env) (hb : f.body = b) (he : ds.map Slot.val ++ List.replicate (f.N.length - ds.length) Slot.emp = e) (h : ds.length = f.ps.length) : f.run Γ ds S = endR (evSs Γ b e S) := by
  rw [run_app h, hb, he]
def il (l : List Nat) : List D := l.map fun x => D.int (x : Nat)
def sD (l : List Nat) : D := .tup (il l)
theorem il_len {l : List Nat} : (il l).length = l.length := List.length_map _
/-- a for loop over told items, folded -/
theorem fr_fold {α β ω : Type} {G : Gm} {t : Tg} {b : List Eng.S} {S : Sto} (g : α → D) (E : β → ω → Eng.Env) (f : β → α → β) (P : List α → β → Prop) (hs : ∀ x xs c o, P (x :: xs) c → P xs (f c x) ∧ ∃ e1 o', bindT t (g x) (E c o) = some e1 ∧ evSs G b e1 S = .ok .nx (E (f c x) o') S) :
    ∀ (xs : List α) (c : β) (o : ω), P xs c → ∃ o', loopF (turnF t (evSs G b)) (xs.map g) (E c o) S = .ok .nx (E (xs.foldl f c) o') S
  | [], c, o, _ => ⟨o, rfl⟩
  | x :: xs, c, o, h => by
    obtain ⟨h1, e1, o', q1, q2⟩ := hs x xs c o h
    obtain ⟨o2, h3⟩ := fr_fold g E f P hs xs (f c x) o' h1
    refine ⟨o2, ?_⟩
    show M.bind (turnF t (evSs G b) (g x)) _ (E c o) S = _
    unfold M.bind
    rw [turnF_at q1, q2]
    exact h3
section
variable {Γ : Gm} {own : List Nat} {t : Tg} {it : Itr} {elt ce : E} {e e1 : Eng.Env} {S S1 : Sto} {α : Type}
theorem compL_G (F : D → M (List D)) (g : α → D) (h : α → List D) (e0 : Eng.Env) : ∀ xs : List α, (∀ x ∈ xs, ∃ e3, F (g x) e0 S = .ok (h x) e3 S ∧ wipeE e3 own = e0) → compL own F (xs.map g) e0 S = .ok (xs.flatMap h) e0 S
  | [], _ => rfl
  | x :: xs, hx => by
    obtain ⟨e3, q1, q2⟩ := hx x List.mem_cons_self
    have ih := compL_G F g h e0 xs fun y hy => hx y (List.mem_cons_of_mem _ hy)
    rw [List.map_cons, List.flatMap_cons]
    show (F (g x) >>= _) e0 S = _
    rw [bind_at q1]
    show (compL own F (xs.map g) >>= _) (wipeE e3 own) S = _
    rw [q2, bind_at ih]
    rfl
theorem comp_mapG (g : α → D) (h : α → D) (E2 : α → Eng.Env) {xs : List α} (hi : evI Γ it e S = .ok (xs.map g) e1 S1) (h1 : ∀ x ∈ xs, bindT t (g x) (wipeE e1 own) = some (E2 x)) (h2 : ∀ x ∈ xs, evE Γ elt (E2 x) S1 = .ok (h x) (E2 x) S1) (h3 : ∀ x ∈ xs, wipeE (E2 x) own = wipeE e1 own)
    (hb : backE e1 (wipeE e1 own) own = e1) (hz : xs.length ≤ sizeLine) : evE Γ (.comp own t it none elt) e S = .ok (.lst (xs.map h)) e1 S1 := by
  have hr : ∀ l : List α, (l.flatMap fun x => [h x]) = l.map h := fun l => by
    induction l with
    | nil => rfl
    | cons x l ih => rw [List.flatMap_cons, ih, List.map_cons]; rfl
  have := comp_of (t := t) (c := none) (elt := elt) (r := xs.map h) hi (by
    rw [← hr]
    exact compL_G _ g (fun x => [h x]) (wipeE e1 own) xs fun x hx => ⟨E2 x, turnC_one (h1 x hx) (h2 x hx), h3 x hx⟩) (by rw [List.length_map]; exact hz)
  rw [hb] at this
  exact this
theorem comp_filG (g : α → D) (p : α → Bool) (h : α → D) (E2 : α → Eng.Env) {xs : List α} (hi : evI Γ it e S = .ok (xs.map g) e1 S1) (h1 : ∀ x ∈ xs, bindT t (g x) (wipeE e1 own) = some (E2 x)) (hc : ∀ x ∈ xs, evE Γ ce (E2 x) S1 = .ok (.bl (p x)) (E2 x) S1)
    (h2 : ∀ x ∈ xs, p x = true → evE Γ elt (E2 x) S1 = .ok (h x) (E2 x) S1) (h3 : ∀ x ∈ xs, wipeE (E2 x) own = wipeE e1 own) (hb : backE e1 (wipeE e1 own) own = e1) (hz : xs.length ≤ sizeLine) : evE Γ (.comp own t it (some ce) elt) e S = .ok (.lst ((xs.filter p).map h)) e1 S1 := by
  have hr : ∀ l : List α, (l.flatMap fun x => if p x then [h x] else []) = (l.filter p).map h := fun l => by
    induction l with
    | nil => rfl
    | cons x l ih =>
      rw [List.flatMap_cons, ih, List.filter_cons]
      cases p x <;> rfl
  have := comp_of (t := t) (c := some ce) (elt := elt) (r := (xs.filter p).map h) hi (by
    rw [← hr]
    exact compL_G _ g (fun x => if p x then [h x] else []) (wipeE e1 own) xs fun x hx => ⟨E2 x, turnC_if (h1 x hx) (hc x hx) (fun z => h2 x hx z) (fun z => ⟨rfl, rfl⟩), h3 x hx⟩) (by
    rw [List.length_map]
    exact Nat.le_trans (List.length_filter_le _ _) hz)
  rw [hb] at this
  exact this
end
theorem evSs_step {G : Gm} {s : Eng.S} {r : List Eng.S} {e e2 : Eng.Env} {S S2 : Sto} (h : evS G s e S = .ok .nx e2 S2) : evSs G (s :: r) e S = evSs G r e2 S2 := by rw [evSs_cons, h, thenR_nx]
theorem evSs_ret {G : Gm} {s : Eng.S} {r : List Eng.S} {e e2 : Eng.Env} {S S2 : Sto} {d : D} (h : evS G s e S = .ok (.rt d) e2 S2) : endR (evSs G (s :: r) e S) = .ok d S2 := by rw [evSs_cons, h, thenR_rt]; rfl
theorem rngL_to {a b : Nat} : rngL (a : Nat) (b : Nat) = (List.range' a (b - a)).map fun k => D.int (k : Nat) := by
  unfold rngL
  rw [show ((b : Int) - (a : Int)).toNat = b - a by omega]
  apply List.ext_getElem
  · simp
  · intro i h1 h2
    simp
theorem evI_rng2 {G : Gm} {x y : E} {a b : Nat} {e : Eng.Env} {S : Sto} (ha : a ≤ 100000) (hb : b ≤ 100000) (h : evE G x e S = .ok (.int a) e S) (h2 : evE G y e S = .ok (.int b) e S) : evI G (.rng [x, y]) e S = .ok ((List.range' a (b - a)).map fun k => D.int (k : Nat)) e S := by
  have k1 : rngOk (a : Int) = true := rng_ok (by omega) (Int.le_trans (Int.ofNat_le.mpr ha) (by decide))
  have k2 : rngOk (b : Int) = true := rng_ok (by omega) (Int.le_trans (Int.ofNat_le.mpr hb) (by decide))
  have hd : drng [.int a, .int b] = some ((List.range' a (b - a)).map fun k => D.int (k : Nat)) := by
    show (if (rngOk (a : Int) && rngOk (b : Int)) = true then some (rngL a b) else none) = _
    rw [k1, k2, rngL_to]
    rfl
  rw [evI_rng, evEs_cons, h, Res.bind_ok, evEs_cons, h2, Res.bind_ok, evEs_nil, Res.bind_ok, Res.bind_ok, Res.bind_ok, hd]
  rfl
theorem evSs_one {G : Gm} {s : Eng.S} {e e2 : Eng.Env} {S S2 : Sto} (h : evS G s e S = .ok .nx e2 S2) : evSs G [s] e S = .ok .nx e2 S2 := by rw [evSs_step h, evSs_nil]
theorem line30k : (30000 : Nat) ≤ sizeLine := by decide
theorem cut_drop {xs : List D} {n : Nat} : Eng.cutD xs (some (n : Int)) none = xs.drop n := by
  unfold Eng.cutD
  have h1 : HT.sIx xs.length xs.length none = xs.length := rfl
  rw [h1]
  by_cases h : n ≤ xs.length
  · have h2 : HT.sIx xs.length 0 (some (n : Int)) = n := by
      unfold HT.sIx
      simp
      split <;> omega
    rw [h2, List.take_of_length_le (by rw [List.length_drop]; exact Nat.le_refl _)]
  · have h2 : HT.sIx xs.length 0 (some (n : Int)) = xs.length := by
      unfold HT.sIx
      simp
      split <;> omega
    rw [h2, List.drop_of_length_le (Nat.le_refl _), List.drop_of_length_le (by omega), List.take_nil]
theorem il_drop {l : List Nat} {n : Nat} : (il l).drop n = il (l.drop n) := by unfold il; rw [List.map_drop]
theorem il_rng (l : List Nat) : il l = (List.range' 0 l.length).map fun i => D.int (l.getD i 0 : Nat) := by
  unfold il
  apply List.ext_getElem
  · simp
  · intro i h1 h2
    simp at h1
    simp [h1]
theorem enum_map {h : Nat → D} : ∀ m a : Nat, enumD a ((List.range' a m).map h) = (List.range' a m).map fun i => D.tup [.int (i : Nat), h i]
  | 0, _ => rfl
  | m + 1, a => by
    rw [List.range'_succ, List.map_cons, List.map_cons]
    show D.tup [.int (a : Nat), h a] :: enumD (a + 1) _ = _
    rw [enum_map m (a + 1)]
theorem enum_il (l : List Nat) : enumD 0 (il l) = (List.range' 0 l.length).map fun i => D.tup [.int (i : Nat), .int (l.getD i 0 : Nat)] := by
  rw [il_rng, enum_map]
theorem fold_app {α β : Type} (g : α → List β) : ∀ (xs : List α) (acc : List β), xs.foldl (fun acc x => acc ++ g x) acc = acc ++ xs.flatMap g
  | [], acc => by simp
  | x :: xs, acc => by
    rw [List.foldl_cons, fold_app g xs, List.flatMap_cons, List.append_assoc]
theorem il_snoc {l : List Nat} {x : Nat} : il l ++ [D.int (x : Nat)] = il (l ++ [x]) := by
  unfold il
  rw [List.map_append]
  rfl
theorem nat_of {n : Int} (h : 0 ≤ n) : ∃ m : Nat, n = (m : Nat) := ⟨n.toNat, by omega⟩
theorem deq_two {a b c d : Int} : deq (.tup [.int a, .int b]) (.tup [.int c, .int d]) = some (decide (a = c) && decide (b = d)) := by
  have : deq (.tup [.int a, .int b]) (.tup [.int c, .int d]) = some (decide (a = c) && (decide (b = d) && true)) := rfl
  rw [this, Bool.and_true]
theorem max2_nat {a b : Nat} : dblt .max2 [.int a, .int b] = some (.int ((max a b : Nat) : Int)) := by
  show some (D.int (if (a : Int) < b then (b : Int) else a)) = _
  by_cases h : a < b
  · rw [if_pos (by omega), Nat.max_eq_right (by omega)]
  · rw [if_neg (by omega), Nat.max_eq_left (by omega)]
theorem min2_nat {a b : Nat} : dblt .min2 [.int a, .int b] = some (.int ((min a b : Nat) : Int)) := by
  show some (D.int (if (b : Int) < a then (b : Int) else a)) = _
  by_cases h : b < a
  · rw [if_pos (by omega), Nat.min_eq_right (by omega)]
  · rw [if_neg (by omega), Nat.min_eq_left (by omega)]
theorem evE_isE' {G : Gm} {i : Nat} {x y : PySem.Str} {e : Eng.Env} {S : Sto} (h : e[i]? = some (.exn y)) : evE G (.isE i x) e S = .ok (.bl (G.sub y x)) e S := by
  rw [evE]
  unfold isEM
  rw [h]
theorem evE_lam' {G : Gm} {w : Nat} {b : E} {e : Eng.Env} {S : Sto} {d : D} (h : G.word w b (e.map hideS) S = .ok d S) : evE G (.lam w b) e S = .ok d e S := by
  rw [evE]
  unfold wordM
  rw [h]
theorem sub_of {G : Gm} {x y : PySem.Str} {c : Bool} {sub : PySem.Str → PySem.Str → Bool} (hs : G.sub = sub) (h : sub x y = c) : G.sub x y = c := by
  rw [hs]
  exact h
theorem app_own {G : Gm} {S : Sto} {i : Nat} {x : E} {e : Eng.Env} {ws : List D} {d : D} (h0 : e[i]? = Option.some (.own ws)) (hx : evE G x e S = .ok d e S) (hl : ws.length < 1000) : evS G (.app i x) e S = .ok .nx (e.set i (.own (ws ++ [d]))) S := by
  have hg : getB i e S = .ok (.lst ws) e S := by unfold getB; rw [h0]
  rw [evS_app, hg, Res.bind_ok, asLst_lst, liftO_some, Res.bind_ok, hx, Res.bind_ok, appAt_ok h0 (Nat.lt_of_lt_of_le hl line1000), Res.bind_ok]
/-! ### numbers in lists -/
theorem shaped_ints {α : Type} (f : α → Int) (l : List α) : (D.lst (l.map fun x => D.int (f x))).shapedO = some (.list (l.map fun x => PyData.int (f x))) := by
  obtain ⟨p, h1, h2, _⟩ := shaped_ok (n := 1) (d := .lst (l.map fun x => D.int (f x))) okD_intsL (by decide)
  have e : D.py (.lst (l.map fun x => D.int (f x))) = some (.list (l.map fun x => PyData.int (f x))) := by
    unfold D.py
    rw [show (l.map fun x => D.int (f x)) = (l.map f).map D.int from by rw [List.map_map]; rfl, pyL_ints, List.map_map]
    rfl
  rw [e] at h2
  cases h2
  exact h1
theorem dIn_il {x : Nat} {l : List Nat} : dIn (.int (x : Nat)) (il l) = some (decide (x ∈ l)) := by
  unfold dIn
  rw [show (D.lst (il l)).shapedO = _ from shaped_ints (fun x : Nat => (x : Int)) l]
  show some ((l.map fun y : Nat => PyData.int (y : Nat)).any fun z => PyData.eqv z (.int (x : Nat))) = _
  congr 1
  induction l with
  | nil => rfl
  | cons a l ih =>
    rw [List.map_cons, List.any_cons, ih]
    have e : PyData.eqv (.int (a : Nat)) (.int (x : Nat)) = decide (x = a) := by
      show (decide ((a : Int) = (x : Int)) : Bool) = _
      rw [decide_eq_decide]
      omega
    rw [e]
    by_cases h : x = a <;> simp [h]
theorem inn_tup {x : Nat} {l : List Nat} : dcmp .inn (.int (x : Nat)) (.tup (il l)) = some (decide (x ∈ l)) := dIn_il
theorem inn_lst {x : Nat} {l : List Nat} : dcmp .inn (.int (x : Nat)) (.lst (il l)) = some (decide (x ∈ l)) := dIn_il
theorem notin_tup {x : Nat} {l : List Nat} : dcmp .notin (.int (x : Nat)) (.tup (il l)) = some (!decide (x ∈ l)) := by
  show (dIn _ _).map _ = _
  rw [dIn_il]
  rfl
theorem notin_lst {x : Nat} {l : List Nat} : dcmp .notin (.int (x : Nat)) (.lst (il l)) = some (!decide (x ∈ l)) := by
  show (dIn _ _).map _ = _
  rw [dIn_il]
  rfl
theorem okD_il {n : Nat} {l : List Nat} : okD (n + 1) (.tup (il l)) = true := okD_ints
theorem okD_ilL {n : Nat} {l : List Nat} : okD (n + 1) (.lst (il l)) = true := okD_intsL
/-! ### numbers sorted -/
def nat_le (a b : Nat) : Bool := decide (a ≤ b)
theorem int_ord (i : Int) : (D.int i).ordO = some (.int i) := rfl
theorem int_all : ∀ l : List Nat, ordAll (il l) = some (l.map fun x => PyData.int (x : Nat))
  | [] => rfl
  | a :: l => by
    show ordAll (D.int (a : Nat) :: il l) = _
    unfold ordAll
    rw [int_ord, int_all l]
    rfl
theorem int_data {a b : Nat} : PySem.W.dataLe false enc (D.int (a : Nat)) (D.int (b : Nat)) = nat_le a b := by
  rw [PySem.W.dataLe_eq]
  show (!PySem.W.dataLt (.int (b : Nat)) (.int (a : Nat))) = _
  rw [PySem.W.dataLt_int]
  unfold nat_le
  by_cases h : a ≤ b
  · rw [decide_eq_true h, decide_eq_false (by omega)]; rfl
  · rw [decide_eq_false h, decide_eq_true (by omega)]; rfl
theorem sort_il {l : List Nat} (hl : l.length ≤ sizeLine) : dfre .sorted [.lst (il l)] = some (.lst (il (isort nat_le l))) := by
  show dsort (il l) = _
  unfold dsort
  rw [int_all]
  simp only []
  rw [if_pos]
  · congr 2
    unfold il
    rw [isort_map]
    congr 1
    have : (fun x y : Nat => PySem.W.dataLe false enc (D.int (x : Nat)) (D.int (y : Nat))) = nat_le := by
      funext x y
      exact int_data
    rw [this]
  · unfold sortOk small
    rw [il_len, decide_eq_true hl]
    simp only [Bool.and_true]
    rw [Bool.and_eq_true, Bool.or_eq_true]
    refine ⟨List.all_eq_true.mpr fun p hp => List.all_eq_true.mpr fun q hq => ?_, .inr (List.all_eq_true.mpr fun p hp => ?_)⟩
    · obtain ⟨p', _, rfl⟩ := List.mem_map.mp hp
      obtain ⟨q', _, rfl⟩ := List.mem_map.mp hq
      rfl
    · obtain ⟨p', _, rfl⟩ := List.mem_map.mp hp
      rfl
end Law

set_option maxHeartbeats 4000000
/-! tools: the text of a value -/
namespace Law
open PySem Eng PyProof.Rows
theorem sok_app {a b : PySem.Str} (h1 : PyData.strOk a = true) (h2 : PyData.strOk b = true) : PyData.strOk (a ++ b) = true := by
  show (a.cps ++ b.cps).all _ = true
  rw [Array.all_append]
  exact Bool.and_eq_true_iff.mpr ⟨h1, h2⟩
theorem sok_of (s : String) : PyData.strOk (PySem.Str.ofString s) = true := by
  rw [PySem.Str.ofString_eq_toList]
  show (s.toList.map Char.toNat).toArray.all _ = true
  rw [List.all_toArray, List.all_eq_true]
  intro c hc
  obtain ⟨x, _, rfl⟩ := List.mem_map.mp hc
  refine decide_eq_true ?_
  have := x.valid
  have e : x.toNat = x.val.toNat := rfl
  rw [e]
  rcases this with h | h
  · exact Nat.lt_trans h (by decide)
  · exact h.2
theorem sok_join {sep : PySem.Str} (hs : PyData.strOk sep = true) : ∀ ts : List PySem.Str, (∀ t ∈ ts, PyData.strOk t = true) → PyData.strOk (PySem.Str.join sep ts) = true
  | [], _ => by unfold PySem.Str.join; decide +kernel
  | [x], h => h x List.mem_cons_self
  | x :: y :: r, h => sok_app (sok_app (h x List.mem_cons_self) hs) (sok_join hs (y :: r) fun t ht => h t (List.mem_cons_of_mem _ ht))
theorem sok_from : ∀ (ts : List PySem.Str) (k : Nat) (acc : PySem.Str), PyData.strOk acc = true → (∀ t ∈ ts, PyData.strOk t = true) → PyData.strOk (textFrom k acc ts) = true
  | [], k, acc, h, _ => h
  | t :: ts, k, acc, h, ht => by
    unfold textFrom
    exact sok_from ts (k + 1) _ (sok_app (sok_app h (sok_of _)) (ht t List.mem_cons_self)) fun x hx => ht x (List.mem_cons_of_mem _ hx)
/-- data whose text is told: so deep at most -/
def okR : Nat → D → Bool
  | _, .non => true
  | _, .bl _ => true
  | _, .int i => decide (i.natAbs < 10 ^ 40)
  | _, .str x => PyData.strOk x && decide (x.cps.size ≤ 40) && PyData.strOk (reprText x)
  | n + 1, .tup l => l.all (okR n)
  | n + 1, .lst l => l.all (okR n)
  | _, _ => false
mutual
def nd : D → Nat
  | .tup l => ndL l
  | .lst l => ndL l
  | _ => 40
def ndL : List D → Nat
  | [] => 0
  | d :: r => nd d + 1 + ndL r
end
@[simp] theorem nd_tup {l : List D} : nd (.tup l) = ndL l := by rw [nd]
@[simp] theorem nd_lst {l : List D} : nd (.lst l) = ndL l := by rw [nd]
@[simp] theorem ndL_nil : ndL [] = 0 := by rw [ndL]
@[simp] theorem ndL_cons {d : D} {r : List D} : ndL (d :: r) = nd d + 1 + ndL r := by rw [ndL]
/-- what is known of its data -/
structure Rp (p : PyData) (n z : Nat) : Prop where
  lay : p.canLay0 = true
  dep : p.depth ≤ n
  shw : p.showable = true
  lvs : p.leavesShort 41 = true
  blk : p.bulk ≤ z
  sok : PyData.strOk p.shown = true
theorem okR_flat {n : Nat} {d : D} (h : okR n d = true) (hd : d.flat = true) : ∃ p, d.py = some p ∧ Rp p n (nd d) := by
  cases d with
  | non => exact ⟨.none, by unfold D.py; rfl, rfl, Nat.zero_le _, rfl, rfl, Nat.zero_le _, by unfold PyData.shown; exact sok_of _⟩
  | bl b => exact ⟨.bool b, by unfold D.py; rfl, rfl, Nat.zero_le _, rfl, rfl, Nat.zero_le _, by unfold PyData.shown; cases b <;> exact sok_of _⟩
  | int i =>
    have hi : i.natAbs < 10 ^ 40 := by
      have h' : decide (i.natAbs < 10 ^ 40) = true := by cases n <;> exact h
      exact of_decide_eq_true h'
    have e1 := int_text_length_le10 (k := 40) (by decide) hi
    refine ⟨.int i, by unfold D.py; rfl, rfl, Nat.zero_le _, ?_, ?_, Nat.zero_le _, by unfold PyData.shown; exact sok_of _⟩
    · unfold PyData.showable
      refine decide_eq_true ?_
      by_cases h0 : i.natAbs = 0
      · rw [h0, Nat.log2_zero]; decide
      · exact Nat.lt_of_lt_of_le ((Nat.log2_lt h0).mpr (Nat.lt_of_lt_of_le hi (by decide : (10 : Nat) ^ 40 ≤ 2 ^ 140))) (by decide)
    · unfold PyData.leavesShort PyData.shown
      refine decide_eq_true ?_
      rw [PySem.ofString_length]
      exact e1
  | str x =>
    have h' : (PyData.strOk x && decide (x.cps.size ≤ 40) && PyData.strOk (reprText x)) = true := by cases n <;> exact h
    rw [Bool.and_eq_true, Bool.and_eq_true] at h'
    refine ⟨.str x, by unfold D.py; rfl, h'.1.1, Nat.zero_le _, rfl, ?_, of_decide_eq_true h'.1.2, by unfold PyData.shown; exact h'.2⟩
    have h2 : x.cps.all (· < 0x110000) = true := h'.1.1
    unfold PyData.leavesShort
    rw [List.all_eq_true]
    intro c hc
    rw [← Array.all_toList, List.all_eq_true] at h2
    exact decide_eq_true (Nat.lt_trans (of_decide_eq_true (h2 c hc)) (by decide))
  | _ => cases hd
theorem okR_py : ∀ {n : Nat} {d : D}, okR n d = true → ∃ p, d.py = some p ∧ Rp p n (nd d) := by
  intro n
  induction n with
  | zero =>
    intro d h
    cases d <;> first | exact okR_flat h rfl | cases h
  | succ n ih =>
    have all : ∀ l : List D, l.all (okR n) = true → ∃ ps, D.pyL l = some ps ∧ PyData.canLayAll0 ps = true ∧ PyData.depthAll ps ≤ n ∧ PyData.showableAll ps = true ∧ PyData.leavesShortAll 41 ps = true ∧ PyData.bulkAll ps ≤ ndL l ∧ ∀ t ∈ PyData.shownAll ps, PyData.strOk t = true := by
      intro l
      induction l with
      | nil => intro _; exact ⟨[], by unfold D.pyL; rfl, rfl, Nat.zero_le _, rfl, rfl, Nat.zero_le _, fun t ht => by unfold PyData.shownAll at ht; cases ht⟩
      | cons d l ihl =>
        intro h
        rw [List.all_cons, Bool.and_eq_true] at h
        obtain ⟨p, h1, r⟩ := ih h.1
        obtain ⟨ps, h4, h5, h6, h7, h8, h9, h10⟩ := ihl h.2
        have r2 := r.dep
        have r5 := r.blk
        refine ⟨p :: ps, by unfold D.pyL; rw [h1, h4], by unfold PyData.canLayAll0; rw [r.lay, h5]; rfl, ?_, by unfold PyData.showableAll; rw [r.shw, h7]; rfl, by unfold PyData.leavesShortAll; rw [r.lvs, h8]; rfl, ?_, fun t ht => ?_⟩
        · unfold PyData.depthAll; omega
        · unfold PyData.bulkAll ndL; omega
        · unfold PyData.shownAll at ht
          rcases List.mem_cons.mp ht with e | ht
          · subst e; exact r.sok
          · exact h10 t ht
    intro d h
    cases d with
    | tup l =>
      obtain ⟨ps, h1, h2, h3, h4, h5, h6, h7⟩ := all l h
      refine ⟨.tuple ps, by unfold D.py; rw [h1]; rfl, by unfold PyData.canLay0; exact h2, ?_, by unfold PyData.showable; exact h4, by unfold PyData.leavesShort; exact h5, by unfold PyData.bulk nd; exact h6, ?_⟩
      · unfold PyData.depth; omega
      · unfold PyData.shown tupleText
        exact sok_app (sok_app (sok_of _) (sok_join (sok_of _) _ h7)) (sok_of _)
    | lst l =>
      obtain ⟨ps, h1, h2, h3, h4, h5, h6, h7⟩ := all l h
      refine ⟨.list ps, by unfold D.py; rw [h1]; rfl, by unfold PyData.canLay0; exact h2, ?_, by unfold PyData.showable; exact h4, by unfold PyData.leavesShort; exact h5, by unfold PyData.bulk nd; exact h6, ?_⟩
      · unfold PyData.depth; omega
      · unfold PyData.shown listText
        exact sok_app (sok_from _ _ _ (sok_of _) h7) (sok_of _)
    | _ => first | exact okR_flat h rfl | cases h
theorem okR_rp {n : Nat} {d : D} (h : okR n d = true) (hn : n ≤ 60) (hz : nd d ≤ 10000) : ∃ s, d.rpO = some s ∧ PyData.strOk s = true := by
  obtain ⟨p, h1, r⟩ := okR_py h
  have sh : d.shapedO = some p := by
    unfold D.shapedO
    rw [h1]
    simp only []
    rw [if_pos]
    unfold SeqAt.shaped
    rw [r.lay, decide_eq_true (Nat.le_trans r.dep (Nat.le_trans hn (by decide)))]
    rfl
  have hl := PyData.shown_le_bulk 41 (by decide) p r.lvs
  have hb := r.blk
  have hl2 : p.shown.length ≤ sizeLine := by
    rw [sizeLine_eq]
    have : (41 + 2) * p.bulk ≤ 43 * 10000 := Nat.mul_le_mul_left _ (Nat.le_trans hb hz)
    omega
  refine ⟨p.shown, ?_, r.sok⟩
  have e : d.rpO = (match d.shapedO with
    | some p => if p.showable && decide (p.shown.length ≤ sizeLine) && PyData.strOk p.shown then some p.shown else none
    | none => none) := by
    cases d with
    | dic l => cases n <;> cases h
    | _ => rfl
  rw [e, sh]
  simp only []
  rw [r.shw, decide_eq_true hl2, r.sok]
  rfl
theorem okR_mono : ∀ {n : Nat} {d : D}, okR n d = true → okR (n + 1) d = true := by
  intro n
  induction n with
  | zero =>
    intro d h
    cases d <;> first | exact h | cases h
  | succ n ih =>
    intro d h
    cases d with
    | tup l => exact List.all_eq_true.mpr fun x hx => ih (List.all_eq_true.mp h x hx)
    | lst l => exact List.all_eq_true.mpr fun x hx => ih (List.all_eq_true.mp h x hx)
    | _ => first | exact h | cases h
theorem deq_str {s : PySem.Str} (h : PyData.strOk s = true) : deq (.str s) (.str s) = some true := deq_self 0 h
theorem ndL_le {l : List D} {b : Nat} (h : ∀ x ∈ l, nd x ≤ b) : ndL l ≤ (b + 1) * l.length := by
  induction l with
  | nil => exact Nat.zero_le _
  | cons x l ih =>
    unfold ndL
    have h1 := h x List.mem_cons_self
    have h2 := ih fun y hy => h y (List.mem_cons_of_mem _ hy)
    rw [List.length_cons, Nat.mul_add, Nat.mul_one]
    omega
end Law

set_option maxHeartbeats 4000000
/-! the draws -/
namespace Law
open PySem Eng PyProof.Rows
/-- the draws' state -/
def Hand (S : Sto) : Prop := ∃ (cells : List Int) (p q s t : Int), S = [[.lst (cells.map .int), .int p, .int q, .int s, .int t]] ∧ 0 ≤ p
section
variable {Γ : Nat → Gm} {k : Nat}
theorem r_draw (hR : Sem Pg Γ) {S : Sto} (hS : Hand S) {many : Int} (h1 : 1 ≤ many) (h2 : many ≤ 1000000) : ∃ n S', (Γ (k + 1)).call 22 [.ref 0, .int many] S = .ok (.int n) S' ∧ Hand S' ∧ 0 ≤ n ∧ n < many := by
  obtain ⟨cells, p, q, s, t, rfl, hp⟩ := hS
  rw [hR.step _ 22 f22 _ _ rfl]
  rw [run_app rfl]
  have hd : divOk many = true := divOk_s (by omega) (by omega)
  have hm : many ≠ 0 := by omega
  have hc : powOk 10 18 = true := by decide
  have hf : ∀ x : Int, 0 ≤ x.fmod many ∧ x.fmod many < many := fun x => fmod_in x (by omega)
  by_cases hq : q = 0
  · subst hq
    by_cases hl : p < cells.length
    · obtain ⟨c, hcell⟩ : ∃ c, cells[p.toNat]? = some c := ⟨cells[p.toNat]'(by omega), by simp⟩
      by_cases hbig : 1000000000000000000 ≤ c
      · have hpos : 0 < c := by omega
        simp [f22, b22, hl, hcell, hbig, hpos, atI_nn hp, L2.ixN, hd, hm, hc, divOk_s, mulOk_r, mulOk_l, mulOk_fm, hf]
        exact ⟨_, _, ⟨rfl, rfl⟩, ⟨_, _, _, _, _, rfl, by omega⟩, hf _⟩
      · simp [f22, b22, hl, hcell, hbig, atI_nn hp, L2.ixN, hd, hm, hc, divOk_s, mulOk_r, mulOk_l, mulOk_fm, hf]
        exact ⟨_, _, ⟨rfl, rfl⟩, ⟨_, _, _, _, _, rfl, by omega⟩, hf _⟩
    · simp [f22, b22, hl, L2.ixN, hd, hm, hc, divOk_s, mulOk_r, mulOk_l, mulOk_fm, hf]
      exact ⟨_, _, ⟨rfl, rfl⟩, ⟨_, _, _, _, _, rfl, by omega⟩, hf _⟩
  · by_cases hpos : 0 < q
    · simp [f22, b22, hq, hpos, L2.ixN, hd, hm, hc, divOk_s, mulOk_r, mulOk_l, mulOk_fm, hf]
      exact ⟨_, _, ⟨rfl, rfl⟩, ⟨_, _, _, _, _, rfl, by omega⟩, hf _⟩
    · simp [f22, b22, hq, hpos, L2.ixN, hd, hm, hc, divOk_s, mulOk_r, mulOk_l, mulOk_fm, hf]
      exact ⟨_, _, ⟨rfl, rfl⟩, ⟨_, _, _, _, _, rfl, by omega⟩, hf _⟩
theorem r_some (hR : Sem Pg Γ) {S : Sto} (hS : Hand S) {l : List D} (h1 : 1 ≤ l.length) (h2 : l.length ≤ 1000000) : ∃ x S', (Γ (k + 2)).call 23 [.ref 0, .lst l] S = .ok x S' ∧ Hand S' ∧ x ∈ l := by
  rw [hR.step _ 23 f23 _ _ rfl]
  rw [run_app rfl]
  obtain ⟨n, S', h3, h4, h5, h6⟩ := r_draw hR (k := k) hS (many := l.length) (by omega) (by omega)
  have h7 : L2.atI l n = some (l[n.toNat]'(by omega)) := by rw [atI_nn h5]; simp
  simp [f23, b23, h3, h7]
  exact ⟨_, _, ⟨rfl, rfl⟩, h4, List.getElem_mem _⟩
theorem evS_retC {Γ : Gm} {es : List E} {e : Eng.Env} {S : Sto} : evS Γ (.retC es) e S = Res.bind (evEs Γ es e S) fun ds e1 S1 => Res.bind (liftO ((dlst ds).bind asLst) e1 S1) fun l e2 S2 => .ok (.rt (.ref S2.length)) e2 (S2 ++ [l]) := by rw [evS]; rfl
theorem cut_ints (ns : List Int) (lo hi : Option Int) : ∃ ms : List Int, Eng.cutD (ns.map D.int) lo hi = ms.map D.int ∧ ms.length ≤ ns.length := by
  unfold Eng.cutD
  rw [List.length_map, ← List.map_drop, ← List.map_take]
  exact ⟨_, rfl, by simp; omega⟩
theorem r_law_hand (hR : Sem Pg Γ) {ns : List Int} (hn : ns.length ≤ 63) : ∃ S', (Γ (k + 1)).call 21 [.scr (ns.map D.int)] [] = .ok (.ref 0) S' ∧ Hand S' := by
  rw [hR.step _ 21 f21 _ _ rfl, run_app rfl]
  generalize Γ k = Γ
  obtain ⟨ms, h1, h2⟩ := cut_ints ns none (some 63)
  have hi : evI Γ (.seq (.slc (.bor 0) none (some (.int 63)))) [.val (.scr (ns.map D.int)), .emp, .emp] [] = .ok (ms.map D.int) [.val (.scr (ns.map D.int)), .emp, .emp] [] := by
    simp [slcO, h1]
  have hp36 : powOk 10 36 = true := by decide
  have hd36 : divOk 1000000000000000000000000000000000000 = true := by decide
  have hq : evE Γ q21_0 [.val (.scr (ns.map D.int)), .emp, .emp] [] = .ok (.lst ((ms.map D.int).map fun x => match x with | .int y => .int ((if y < 0 then -y else y).fmod 1000000000000000000000000000000000000) | _ => .non)) [.val (.scr (ns.map D.int)), .emp, .emp] [] :=
    comp_mapE (fun x => match x with | .int y => .int ((if y < 0 then -y else y).fmod 1000000000000000000000000000000000000) | _ => .non) (fun x => [.val (.scr (ns.map D.int)), .emp, .val x]) hi (fun x hx => rfl) (fun x hx => by
      obtain ⟨y, _, rfl⟩ := List.mem_map.mp hx
      simp [hp36, hd36]) (fun x hx => rfl) rfl (by have := line1000; simp; omega)
  obtain ⟨cs, hcs⟩ : ∃ cs : List Int, ((ms.map D.int).map fun x => match x with | .int y => D.int ((if y < 0 then -y else y).fmod 1000000000000000000000000000000000000) | _ => .non) = cs.map D.int := ⟨ms.map fun y => (if y < 0 then -y else y).fmod 1000000000000000000000000000000000000, by rw [List.map_map, List.map_map]; rfl⟩
  rw [hcs] at hq
  have hc5 : mulOk 7 (cs.length : Int) = true := mulOk_l (by decide)
  have t1 : evS Γ (.put 1 false q21_0) [.val (.scr (ns.map D.int)), .emp, .emp] [] = .ok .nx [.val (.scr (ns.map D.int)), .val (.lst (cs.map D.int)), .emp] [] := by simp [hq]
  have t2 : evS Γ (.retC [.var 1, .int 0, .int 0, .bin .add (.int 431) (.bin .mul (.int 7) (.blt .len [.bor 1])), .int 0]) [.val (.scr (ns.map D.int)), .val (.lst (cs.map D.int)), .emp] [] = .ok (.rt (.ref 0)) [.val (.scr (ns.map D.int)), .val (.lst (cs.map D.int)), .emp] [[.lst (cs.map D.int), .int 0, .int 0, .int (431 + 7 * cs.length), .int 0]] := by
    rw [evS_retC]
    simp [hc5]
  refine ⟨[[.lst (cs.map D.int), .int 0, .int 0, .int (431 + 7 * cs.length), .int 0]], ?_, ⟨cs, 0, 0, _, 0, rfl, by decide⟩⟩
  show endR (evSs Γ b21 [.val (.scr (ns.map D.int)), .emp, .emp] []) = _
  unfold b21
  rw [evSs_cons, t1, thenR_nx, evSs_cons, t2]
  rfl
theorem rng1 {G : Gm} {S S1 : Sto} {w : D} {x : E} {n : Nat} {e : Eng.Env} (hn : n ≤ 1000) (h : evE G x e S = .ok (.int (n : Nat)) e S1) : evI G (.rng [x]) e S = .ok ((List.range' 0 n).map fun k => D.int (k : Nat)) e S1 := by
  rw [evI_rng, evEs_cons, h, Res.bind_ok, evEs_nil, Res.bind_ok, Res.bind_ok, drng_nat (by omega)]
  rfl

def ev24 (t : D) (p f : List D) : Eng.Env := [.val (.ref 0), .val t, .own p, .own f]
theorem w24c {G : Gm} {S : Sto} {t : D} {p f : List D} : (do let x ← evE G (.cmp .gt (.blt .len [.bor 2]) (.int 0)); boolM x : M Bool) (ev24 t p f) S = .ok (decide (0 < p.length)) (ev24 t p f) S := cond_of (by
  simp [ev24])
theorem w24b {G : Gm} {S S1 : Sto} {t x : D} {p f : List D} {m : Nat} (hc : G.call 22 [.ref 0, .int (p.length : Nat)] S = .ok (.int (m : Nat)) S1) (hm : p[m]? = some x) (hz : m < 1000) (hf : f.length < 1000) : evSs G [.appPop 3 2 (.call 22 [.var 0, .blt .len [.bor 2]])] (ev24 t p f) S = .ok .nx (ev24 t (p.eraseIdx m) (f ++ [x])) S1 := by
  have hl : m < p.length := (List.getElem?_eq_some_iff.mp hm).1
  have h1 : popAt 2 (m : Nat) (ev24 t p f) S1 = .ok x (ev24 t (p.eraseIdx m) f) S1 := by
    have hx : L2.ixN p.length (m : Nat) = some m := by
      unfold L2.ixN
      rw [if_pos (by omega), if_pos (by omega), Int.toNat_natCast]
    have hr : rngOk (m : Nat) = true := rng_ok (by omega) (by omega)
    have h0 : (ev24 t p f)[2]? = some (.own p) := rfl
    unfold popAt
    rw [h0]
    simp only [hx, hm, hr]
    rfl
  have h2 : appAt 3 x (ev24 t (p.eraseIdx m) f) S1 = .ok () (ev24 t (p.eraseIdx m) (f ++ [x])) S1 := appAt_ok (i := 3) rfl (Nat.lt_of_lt_of_le hf line1000)
  have e1 : getB 3 (ev24 t p f) S = .ok (.lst f) (ev24 t p f) S := rfl
  have e2 : getB 2 (ev24 t p f) S = .ok (.lst p) (ev24 t p f) S := rfl
  have e3 : evE G (.call 22 [.var 0, .blt .len [.bor 2]]) (ev24 t p f) S = .ok (.int (m : Nat)) (ev24 t p f) S1 := by
    simp [ev24, hc]
  refine evSs_one ?_
  have e4 : asInt (.int (m : Nat)) = some ((m : Nat) : Int) := rfl
  rw [evS_appPop, e1, Res.bind_ok, asLst_lst, liftO_some, Res.bind_ok, e2, Res.bind_ok, asLst_lst, liftO_some, Res.bind_ok, e3, Res.bind_ok, e4, liftO_some, Res.bind_ok, h1, Res.bind_ok, h2, Res.bind_ok]
theorem shuf {G : Gm} {t : D} (hd : ∀ (S : Sto) (n : Nat), Hand S → 1 ≤ n → n ≤ 1000 → ∃ (m : Nat) (S' : Sto), G.call 22 [.ref 0, .int (n : Nat)] S = .ok (.int (m : Nat)) S' ∧ Hand S' ∧ m < n) :
    ∀ (n N : Nat) (p f : List D) (S : Sto), p.length = n → f.length + n ≤ 1000 → n + 1 ≤ N → Hand S → ∃ (f' : List D) (S' : Sto),
      loopW (do let x ← evE G (.cmp .gt (.blt .len [.bor 2]) (.int 0)); boolM x) (evSs G [.appPop 3 2 (.call 22 [.var 0, .blt .len [.bor 2]])]) N (ev24 t p f) S = .ok .nx (ev24 t [] f') S' ∧ Hand S' ∧ ∀ x ∈ f', x ∈ f ∨ x ∈ p
  | 0, N + 1, p, f, S, hp, hf, hN, hS => by
    have h0 : p = [] := List.eq_nil_of_length_eq_zero hp
    subst h0
    exact ⟨f, S, loopW_stop (by rw [w24c]; rfl), hS, fun x hx => .inl hx⟩
  | n + 1, N + 1, p, f, S, hp, hf, hN, hS => by
    obtain ⟨m, S1, h1, h2, h3⟩ := hd S p.length hS (by omega) (by omega)
    have hm : p[m]? = some p[m] := by simp
    obtain ⟨f', S2, h4, h5, h6⟩ := shuf hd n N (p.eraseIdx m) (f ++ [p[m]]) S1 (by rw [List.length_eraseIdx]; split <;> omega) (by rw [List.length_append, List.length_singleton]; omega) (by omega) h2
    refine ⟨f', S2, ?_, h5, fun x hx => ?_⟩
    · rw [loopW_on (e2 := ev24 t (p.eraseIdx m) (f ++ [p[m]])) (S2 := S1) (by rw [w24c]; rw [decide_eq_true (by omega)]) (w24b h1 hm (by omega) (by omega))]
      exact h4
    · rcases h6 x hx with h | h
      · rcases List.mem_append.mp h with h | h
        · exact .inl h
        · rw [List.mem_singleton.mp h]
          exact .inr (List.getElem_mem _)
      · exact .inr (List.mem_of_mem_eraseIdx h)
  | 0, 0, _, _, _, _, _, h, _ => absurd h (by omega)
  | n + 1, 0, _, _, _, _, _, h, _ => absurd h (by omega)
theorem r_nat (hR : Sem Pg Γ) {S : Sto} (hS : Hand S) {n : Nat} (h1 : 1 ≤ n) (h2 : n ≤ 1000) : ∃ (m : Nat) (S' : Sto), (Γ (k + 1)).call 22 [.ref 0, .int (n : Nat)] S = .ok (.int (m : Nat)) S' ∧ Hand S' ∧ m < n := by
  obtain ⟨i, S', h3, h4, h5, h6⟩ := r_draw hR (k := k) hS (many := (n : Int)) (by omega) (by omega)
  obtain ⟨m, rfl⟩ := nat_of h5
  exact ⟨m, S', h3, h4, by omega⟩
theorem r_shuffled (hR : Sem Pg Γ) {S : Sto} (hS : Hand S) {l : List D} (hl : l.length ≤ 500) : ∃ (l' : List D) (S' : Sto), (Γ (k + 2)).call 24 [.ref 0, .lst l] S = .ok (.lst l') S' ∧ Hand S' ∧ ∀ x ∈ l', x ∈ l := by
  rw [hR.step _ 24 f24 _ _ rfl, run_b b24 [.val (.ref 0), .val (.lst l), .emp, .emp] rfl rfl rfl]
  have hf : (Γ (k + 1)).fuel = 10000 := hR.fuel (k + 1)
  obtain ⟨f', S', h1, h2, h3⟩ := shuf (G := Γ (k + 1)) (t := .lst l) (fun S n hS a b => r_nat hR hS a b) l.length 10000 l [] S rfl (by simp; omega) (by omega) hS
  refine ⟨f', S', ?_, h2, fun x hx => (h3 x hx).elim (fun z => nomatch z) id⟩
  generalize Γ (k + 1) = G at hf h1
  have q1 : evS G (.par (2, true) (3, true) (.fre .list [.bor 1]) (.lst [])) [.val (.ref 0), .val (.lst l), .emp, .emp] S = .ok .nx (ev24 (.lst l) l []) S := by
    simp [ev24]
    rfl
  have q2 : evS G l24_0 (ev24 (.lst l) l []) S = .ok .nx (ev24 (.lst l) [] f') S' := by
    unfold l24_0
    rw [evS_whl, hf]
    exact h1
  unfold b24
  rw [evSs_step q1, evSs_step q2]
  simp [ev24]
/-- deep things -/
def Dp (d : D) : Prop := d.isiOk = true ∧ (∀ s, d = .str s → s = ("?" : PySem.Str)) ∧ (∀ l, d = .tup l → ∃ x, l = [x] ∧ x.isiOk = true ∧ ∀ s, x = .str s → s = ("?" : PySem.Str))
def ev26 (t f : Slot) : Eng.Env := [.val (.ref 0), t, f]
theorem r_deep (hR : Sem Pg Γ) {S : Sto} (hS : Hand S) : ∃ (d : D) (S' : Sto), (Γ (k + 3)).call 26 [.ref 0] S = .ok d S' ∧ Hand S' ∧ Dp d := by
  rw [hR.step _ 26 f26 _ _ rfl, run_b b26 (ev26 .emp .emp) rfl rfl rfl]
  obtain ⟨x, S1, h1, h2, h3⟩ := r_some hR (k := k) hS (l := [.non, .str ("?" : PySem.Str), .dic []]) (by decide) (by decide)
  have hx : Dp x := by
    simp only [List.mem_cons, List.not_mem_nil, or_false] at h3
    rcases h3 with e | e | e <;> subst e
    · exact ⟨rfl, fun s h => (nomatch h), fun l h => (nomatch h)⟩
    · exact ⟨rfl, fun s h => (by cases h; rfl), fun l h => (nomatch h)⟩
    · exact ⟨rfl, fun s h => (nomatch h), fun l h => (nomatch h)⟩
  obtain ⟨m, S2, h4, h5, h6⟩ := r_nat hR (k := k + 1) h2 (n := 25) (by decide) (by decide)
  have hn : ∀ S, Hand S → ∃ (m : Nat) (S' : Sto), (Γ (k + 2)).call 22 [.ref 0, .int (3 : Nat)] S = .ok (.int (m : Nat)) S' ∧ Hand S' ∧ m < 3 := fun S hS => r_nat hR (k := k + 1) hS (by decide) (by decide)
  generalize Γ (k + 2) = G at h1 h4 hn
  have q1 : evS G (.put 2 false (.call 23 [.var 0, .lst [.non, .str ("?" : PySem.Str), .dct []]])) (ev26 .emp .emp) S = .ok .nx (ev26 .emp (.val x)) S1 := by
    simp [ev26, h1]
  have hi : evI G (.rng [.bin .add (.int 1) (.call 22 [.var 0, .int 25])]) (ev26 .emp (.val x)) S1 = .ok ((List.range' 0 (1 + m)).map fun k => D.int (k : Nat)) (ev26 .emp (.val x)) S2 := by
    have h4' : G.call 22 [.ref 0, .int 25] S1 = .ok (.int (m : Nat)) S2 := h4
    have e5 : evE G (.bin .add (.int 1) (.call 22 [.var 0, .int 25])) (ev26 .emp (.val x)) S1 = .ok (.int ((1 + m : Nat) : Int)) (ev26 .emp (.val x)) S2 := by
      simp [ev26, h4']
    exact rng1 (w := .non) (by omega) e5
  obtain ⟨e2, S3, h7, h8⟩ := loopF_nat (turnF (.name 1) (evSs G [.put 2 false (.idx (.lst [.tup [.var 2], .lst [.var 2], .dct [(.inl 0, .var 2)]]) (.call 22 [.var 0, .int 3]))])) (1 + m) (fun i e S => Hand S ∧ ∃ t y, e = ev26 t (.val y) ∧ Dp y) (ev26 .emp (.val x)) S2 ⟨h5, .emp, x, rfl, hx⟩ (fun i e S _ ⟨hS, t, y, he, hy⟩ => by
    subst he
    obtain ⟨j, S', a1, a2, a3⟩ := hn S hS
    have a1' : G.call 22 [.ref 0, .int 3] S = .ok (.int (j : Nat)) S' := a1
    have key : ∀ z : D, L2.atI [.tup [y], .lst [y], .dic [(.inl 0, y)]] (j : Nat) = some z → evSs G [.put 2 false (.idx (.lst [.tup [.var 2], .lst [.var 2], .dct [(.inl 0, .var 2)]]) (.call 22 [.var 0, .int 3]))] (ev26 (.val (.int (i : Nat))) (.val y)) S = .ok .nx (ev26 (.val (.int (i : Nat))) (.val z)) S' := fun z hz => by
      refine evSs_one ?_
      simp [ev26, a1', hz]
    have j3 : j = 0 ∨ j = 1 ∨ j = 2 := by omega
    rcases j3 with e | e | e <;> subst e
    · refine ⟨.nx, _, S', (turnF_at rfl).trans (key _ rfl), .inl rfl, a2, _, _, rfl, rfl, (fun s h => nomatch h), fun l h => ?_⟩
      cases h
      exact ⟨y, rfl, hy.1, hy.2.1⟩
    · exact ⟨.nx, _, S', (turnF_at rfl).trans (key _ rfl), .inl rfl, a2, _, _, rfl, rfl, (fun s h => nomatch h), fun l h => nomatch h⟩
    · exact ⟨.nx, _, S', (turnF_at rfl).trans (key _ rfl), .inl rfl, a2, _, _, rfl, rfl, (fun s h => nomatch h), fun l h => nomatch h⟩)
  obtain ⟨hS3, t, y, rfl, hy⟩ := h8
  refine ⟨y, S3, ?_, hS3, hy⟩
  have q2 : evS G l26_0 (ev26 .emp (.val x)) S1 = .ok .nx (ev26 t (.val y)) S3 := by
    unfold l26_0
    rw [evS_fr, hi]
    exact h7
  unfold b26
  rw [evSs_step q1, evSs_step q2]
  simp [ev26]
end
end Law

set_option maxHeartbeats 4000000
/-! tools: data written as values, told apart -/
namespace Law
open PySem Eng PyProof.Rows
/-- f writes each thing as data, unlike ones unlike -/
structure Cd {α : Type} [DecidableEq α] (n : Nat) (f : α → D) (fp : α → PyData) : Prop where
  ok : ∀ x, okD n (f x) = true
  py : ∀ x, (f x).py = some (fp x)
  eq : ∀ x y, PyData.eqv (fp x) (fp y) = decide (x = y)
section
variable {α : Type} [DecidableEq α] {n : Nat} {f : α → D} {fp : α → PyData}
theorem Cd.pyL (c : Cd n f fp) : ∀ l : List α, D.pyL (l.map f) = some (l.map fp)
  | [] => by unfold D.pyL; rfl
  | x :: l => by
    rw [List.map_cons, List.map_cons]
    unfold D.pyL
    rw [c.py x, c.pyL l]
theorem Cd.eqAll (c : Cd n f fp) : ∀ a b : List α, PyData.eqvAll (a.map fp) (b.map fp) = decide (a = b)
  | [], [] => rfl
  | [], y :: b => by rw [decide_eq_false (by intro h; cases h)]; rfl
  | x :: a, [] => by rw [decide_eq_false (by intro h; cases h)]; rfl
  | x :: a, y :: b => by
    rw [List.map_cons, List.map_cons]
    unfold PyData.eqvAll
    rw [c.eq, c.eqAll a b]
    rw [Bool.eq_iff_iff, Bool.and_eq_true, decide_eq_true_iff, decide_eq_true_iff, decide_eq_true_iff]
    exact ⟨fun h => by rw [h.1, h.2], fun h => by injection h with h1 h2; exact ⟨h1, h2⟩⟩
theorem Cd.tup (c : Cd n f fp) : Cd (n + 1) (fun l : List α => D.tup (l.map f)) (fun l => PyData.tuple (l.map fp)) where
  ok := fun l => okD_tup fun x hx => by
    obtain ⟨y, _, rfl⟩ := List.mem_map.mp hx
    exact c.ok y
  py := fun l => by
    show D.py (.tup (l.map f)) = _
    unfold D.py
    rw [c.pyL]
    rfl
  eq := fun a b => by
    show PyData.eqv (.tuple (a.map fp)) (.tuple (b.map fp)) = _
    unfold PyData.eqv
    exact c.eqAll a b
theorem Cd.lst (c : Cd n f fp) : Cd (n + 1) (fun l : List α => D.lst (l.map f)) (fun l => PyData.list (l.map fp)) where
  ok := fun l => okD_lst fun x hx => by
    obtain ⟨y, _, rfl⟩ := List.mem_map.mp hx
    exact c.ok y
  py := fun l => by
    show D.py (.lst (l.map f)) = _
    unfold D.py
    rw [c.pyL]
    rfl
  eq := fun a b => by
    show PyData.eqv (.list (a.map fp)) (.list (b.map fp)) = _
    unfold PyData.eqv
    exact c.eqAll a b
theorem Cd.shaped (c : Cd n f fp) (hn : n ≤ 64) (x : α) : (f x).shapedO = some (fp x) := by
  obtain ⟨p, h1, h2, _⟩ := shaped_ok (c.ok x) hn
  rw [c.py] at h2
  cases h2
  exact h1
theorem Cd.deq (c : Cd n f fp) (hn : n ≤ 64) (x y : α) : Eng.deq (f x) (f y) = some (decide (x = y)) := by
  unfold Eng.deq
  rw [c.shaped hn, c.shaped hn]
  show some (PyData.eqv (fp x) (fp y)) = _
  rw [c.eq]
theorem any_eq {l : List α} {x : α} : (l.any fun y => decide (y = x)) = decide (x ∈ l) := by
  induction l with
  | nil => rfl
  | cons a l ih =>
    rw [List.any_cons, ih]
    by_cases h : a = x
    · subst h; simp
    · have : ¬ x = a := fun e => h e.symm
      simp [h, this]
theorem Cd.dIn (c : Cd n f fp) (hn : n ≤ 63) (x : α) (l : List α) : Eng.dIn (f x) (l.map f) = some (decide (x ∈ l)) := by
  have h1 := c.shaped (by omega) x
  have h2 := c.lst.shaped (by omega) l
  unfold Eng.dIn
  rw [h1]
  rw [show (D.lst (l.map f)).shapedO = some (.list (l.map fp)) from h2]
  show some ((l.map fp).any fun z => PyData.eqv z (fp x)) = _
  rw [List.any_map]
  have : ((fun z => PyData.eqv z (fp x)) ∘ fp) = fun y => decide (y = x) := by
    funext y
    exact c.eq y x
  rw [this, any_eq]
end
theorem cd_nat : Cd 0 (fun x : Nat => D.int (x : Nat)) (fun x => PyData.int (x : Nat)) where
  ok := fun _ => okD_int
  py := fun x => by unfold D.py; rfl
  eq := fun x y => by
    show (decide ((x : Int) = (y : Int)) : Bool) = _
    rw [decide_eq_decide]
    omega
/-- a number, or none -/
def oD : Option Nat → D
  | none => .non
  | some n => .int (n : Nat)
def oP : Option Nat → PyData
  | none => .none
  | some n => .int (n : Nat)
theorem cd_opt : Cd 0 oD oP where
  ok := fun x => by cases x <;> rfl
  py := fun x => by cases x <;> (unfold oD D.py; rfl)
  eq := fun x y => by
    cases x with
    | none => cases y <;> rfl
    | some a =>
      cases y with
      | none => rfl
      | some b =>
        show (decide ((a : Int) = (b : Int)) : Bool) = _
        rw [decide_eq_decide]
        constructor
        · intro h
          have : a = b := by omega
          rw [this]
        · intro h
          injection h with h
          omega
def oL (s : List (Option Nat)) : D := .tup (s.map oD)
theorem deq_oL (a b : List (Option Nat)) : deq (oL a) (oL b) = some (decide (a = b)) := cd_opt.tup.deq (by decide) a b
theorem deq_sD (a b : List Nat) : deq (sD a) (sD b) = some (decide (a = b)) := cd_nat.tup.deq (by decide) a b
theorem dIn_sD (a : List Nat) (l : List (List Nat)) : dIn (sD a) (l.map sD) = some (decide (a ∈ l)) := (cd_nat.tup.dIn (by decide) a l).trans (congrArg some (by rw [decide_eq_decide]))
end Law

set_option maxHeartbeats 4000000
/-! mice: plain facts -/
namespace Law
open PySem Eng PyProof.Rows
def enP {α : Type} : Nat → List α → List (Nat × α)
  | _, [] => []
  | a, x :: l => (a, x) :: enP (a + 1) l
theorem enP_len {α : Type} : ∀ (l : List α) (a : Nat), (enP a l).length = l.length
  | [], _ => rfl
  | x :: l, a => by
    show (enP (a + 1) l).length + 1 = _
    rw [enP_len l]
    rfl
theorem enum_enP {α : Type} (f : α → D) : ∀ (l : List α) (a : Nat), enumD a (l.map f) = (enP a l).map fun p => D.tup [.int (p.1 : Nat), f p.2]
  | [], _ => rfl
  | x :: l, a => by
    show D.tup [.int (a : Nat), f x] :: enumD (a + 1) (l.map f) = _
    rw [enum_enP f l]
    rfl
theorem enP_mem {α : Type} : ∀ (l : List α) (a i : Nat) (h : i < l.length), (a + i, l[i]) ∈ enP a l
  | [], _, i, h => absurd h (Nat.not_lt_zero _)
  | x :: l, a, 0, _ => List.mem_cons_self
  | x :: l, a, i + 1, h => by
    have := enP_mem l (a + 1) i (by simpa using h)
    rw [show a + (i + 1) = a + 1 + i by omega]
    exact List.mem_cons_of_mem _ this
theorem enP_at {α : Type} : ∀ (l : List α) (a : Nat) (p : Nat × α), p ∈ enP a l → ∃ i, ∃ h : i < l.length, p = (a + i, l[i])
  | [], _, p, h => by cases h
  | x :: l, a, p, h => by
    rcases List.mem_cons.mp (show p ∈ (a, x) :: enP (a + 1) l from h) with e | h
    · exact ⟨0, Nat.zero_lt_succ _, e⟩
    · obtain ⟨i, hi, e⟩ := enP_at l (a + 1) p h
      exact ⟨i + 1, Nat.succ_lt_succ hi, by rw [e]; simp; omega⟩

abbrev Pl := List (List (List Nat))
def mD (m : List (List Nat)) : D := .tup (m.map sD)
def pD (p : Pl) : D := .tup (p.map mD)
def hits (row bad : List Nat) : Bool := bad.any fun c => decide (c ∈ row)
def fdays (m : List (List Nat)) (bad : List Nat) : List Nat := ((enP 0 m).filter fun x => hits x.2 bad).map fun x => x.1
def fday (m : List (List Nat)) (bad : List Nat) : Option Nat := (fdays m bad).head?
def seen (p : Pl) (bad : List Nat) : List (Option Nat) := p.map fun m => fday m bad
def bads (cups many : Nat) : List (List Nat) := if many = 1 then (List.range' 0 cups).map fun c => [c] else (List.range' 0 cups).flatMap fun i => (List.range' (i + 1) (cups - (i + 1))).map fun j => [i, j]
/-- the first two alike -/
def alk (f : List Nat → List (Option Nat)) : List (List Nat) → Option (List Nat × List Nat)
  | [] => none
  | x :: r => match r.find? (fun y => decide (f y = f x)) with
    | some y => some (x, y)
    | none => alk f r
theorem alk_none {f : List Nat → List (Option Nat)} : ∀ {l : List (List Nat)}, l.Pairwise (fun x y => f y ≠ f x) → alk f l = none
  | [], _ => rfl
  | x :: r, h => by
    rw [List.pairwise_cons] at h
    unfold alk
    rw [List.find?_eq_none.mpr fun y hy => by simpa using h.1 y hy]
    exact alk_none h.2
/-- digits -/
def fig (days m c : Nat) : Nat := c / (days + 1) ^ m % (days + 1)
theorem digits {b : Nat} : ∀ (n x y : Nat), x < b ^ n → y < b ^ n → (∀ m, m < n → x / b ^ m % b = y / b ^ m % b) → x = y
  | 0, x, y, h1, h2, _ => by
    rw [Nat.pow_zero] at h1 h2
    omega
  | n + 1, x, y, h1, h2, h => by
    have h0 := h 0 (by omega)
    rw [Nat.pow_zero, Nat.div_one, Nat.div_one] at h0
    have hs : x / b = y / b := digits n (x / b) (y / b) (Nat.div_lt_of_lt_mul (by rw [Nat.pow_succ, Nat.mul_comm] at h1; exact h1)) (Nat.div_lt_of_lt_mul (by rw [Nat.pow_succ, Nat.mul_comm] at h2; exact h2)) fun m hm => by
      have := h (m + 1) (by omega)
      rw [Nat.pow_succ, Nat.mul_comm, ← Nat.div_div_eq_div_mul, ← Nat.div_div_eq_div_mul] at this
      exact this
    rw [← Nat.div_add_mod x b, ← Nat.div_add_mod y b, hs, h0]
def wrow (cups days m d : Nat) : List Nat := (List.range' 0 cups).filter fun c => decide (fig days m c = d)
def wmouse (cups days m : Nat) : List (List Nat) := (List.range' 0 days).map fun d => wrow cups days m d
def wplan (cups mice days : Nat) : Pl := (List.range' 0 mice).map fun m => wmouse cups days m
theorem enP_map {α β : Type} (f : α → β) : ∀ (l : List α) (a : Nat), enP a (l.map f) = (enP a l).map fun x => (x.1, f x.2)
  | [], _ => rfl
  | x :: l, a => by
    show (a, f x) :: enP (a + 1) (l.map f) = _
    rw [enP_map f l]
    rfl
theorem enP_rng : ∀ (n a : Nat), enP a (List.range' a n) = (List.range' a n).map fun i => (i, i)
  | 0, _ => rfl
  | n + 1, a => by
    rw [List.range'_succ, List.map_cons]
    show (a, a) :: enP (a + 1) _ = _
    rw [enP_rng n]
theorem fdays_w {cups days m c : Nat} (hc : c < cups) : fdays (wmouse cups days m) [c] = (List.range' 0 days).filter fun d => decide (fig days m c = d) := by
  have hm : ∀ d, hits (wrow cups days m d) [c] = decide (fig days m c = d) := fun d => by
    unfold hits wrow
    rw [List.any_cons, List.any_nil, Bool.or_false, decide_eq_decide, List.mem_filter]
    constructor
    · intro h; exact of_decide_eq_true h.2
    · intro h; exact ⟨List.mem_range'_1.mpr ⟨by omega, by omega⟩, decide_eq_true h⟩
  unfold fdays wmouse
  rw [enP_map, enP_rng, List.map_map, List.filter_map, List.map_map]
  have e1 : ((fun x : Nat × List Nat => hits x.2 [c]) ∘ ((fun x : Nat × Nat => (x.1, wrow cups days m x.2)) ∘ fun i => (i, i))) = fun d => decide (fig days m c = d) := by
    funext d
    exact hm d
  rw [e1]
  have e2 : ((fun x : Nat × List Nat => x.1) ∘ ((fun x : Nat × Nat => (x.1, wrow cups days m x.2)) ∘ fun i => (i, i))) = id := rfl
  rw [e2, List.map_id]
theorem fday_w {cups days m c : Nat} (hc : c < cups) : fday (wmouse cups days m) [c] = if fig days m c < days then some (fig days m c) else none := by
  unfold fday
  rw [fdays_w hc]
  by_cases h : fig days m c < days
  · rw [if_pos h]
    have hmem : fig days m c ∈ (List.range' 0 days).filter fun d => decide (fig days m c = d) := List.mem_filter.mpr ⟨List.mem_range'_1.mpr ⟨by omega, by omega⟩, decide_eq_true rfl⟩
    cases hl : (List.range' 0 days).filter fun d => decide (fig days m c = d) with
    | nil => rw [hl] at hmem; cases hmem
    | cons x r =>
      have hx : x ∈ (List.range' 0 days).filter fun d => decide (fig days m c = d) := by rw [hl]; exact List.mem_cons_self
      have := of_decide_eq_true (List.mem_filter.mp hx).2
      rw [List.head?_cons, this]
  · rw [if_neg h]
    rw [List.filter_eq_nil_iff.mpr]
    · rfl
    · intro d hd
      have := (List.mem_range'_1.mp hd).2
      simp
      omega
theorem fig_le {days m c : Nat} : fig days m c ≤ days := by
  have := Nat.mod_lt (c / (days + 1) ^ m) (show 0 < days + 1 by omega)
  unfold fig
  omega
/-- the written plan tells -/
theorem w_tells {cups mice days : Nat} (h : cups ≤ (days + 1) ^ mice) : alk (seen (wplan cups mice days)) (bads cups 1) = none := by
  apply alk_none
  unfold bads
  rw [if_pos rfl, List.pairwise_map]
  refine List.Pairwise.imp_of_mem ?_ List.pairwise_lt_range'
  intro a b ha hb hab e
  have h1 := (List.mem_range'_1.mp ha).2
  have h2 := (List.mem_range'_1.mp hb).2
  have := digits (b := days + 1) mice a b (by omega) (by omega) fun m hm => by
    unfold seen wplan at e
    rw [List.map_map, List.map_map] at e
    have e1 := List.map_inj_left.mp e m (List.mem_range'_1.mpr ⟨by omega, by omega⟩)
    have e2 : fday (wmouse cups days m) [b] = fday (wmouse cups days m) [a] := e1
    rw [fday_w (by omega), fday_w (by omega)] at e2
    have l1 := fig_le (days := days) (m := m) (c := a)
    have l2 := fig_le (days := days) (m := m) (c := b)
    show fig days m a = fig days m b
    by_cases q1 : fig days m b < days <;> by_cases q2 : fig days m a < days <;> simp [q1, q2] at e2 <;> omega
  omega
/-! rows that rise, below a bound -/
def ris : List Nat → Bool
  | a :: b :: r => decide (a < b) && ris (b :: r)
  | _ => true
def lotB (cups : Nat) (l : List Nat) : Bool := l.all (fun c => decide (c < cups)) && ris l
theorem ris_sorted : ∀ {l : List Nat}, l.Pairwise (· < ·) → ris l = true
  | [], _ => rfl
  | [_], _ => rfl
  | a :: b :: r, h => by
    rw [List.pairwise_cons] at h
    unfold ris
    rw [decide_eq_true (h.1 b List.mem_cons_self), ris_sorted h.2]
    rfl
/-- a plan: as many days for each mouse, rows of cups -/
def okP (cups days : Nat) (p : Pl) : Prop := p.length ≤ 5 ∧ 1 ≤ days ∧ days ≤ 3 ∧ ∀ m ∈ p, m.length = days ∧ ∀ r ∈ m, lotB cups r = true
theorem lot_sub {cups : Nat} {l : List Nat} (h : l.Sublist (List.range' 0 cups)) : lotB cups l = true := by
  unfold lotB
  rw [Bool.and_eq_true]
  refine ⟨List.all_eq_true.mpr fun c hc => decide_eq_true ?_, ris_sorted (List.Pairwise.sublist h List.pairwise_lt_range')⟩
  have := (List.mem_range'_1.mp (h.subset hc)).2
  omega
theorem okP_w {cups mice days : Nat} (h1 : mice ≤ 5) (h2 : 1 ≤ days) (h3 : days ≤ 3) : okP cups days (wplan cups mice days) := by
  refine ⟨by unfold wplan; rw [List.length_map, List.length_range']; exact h1, h2, h3, fun m hm => ?_⟩
  unfold wplan at hm
  obtain ⟨i, _, rfl⟩ := List.mem_map.mp hm
  refine ⟨by unfold wmouse; rw [List.length_map, List.length_range'], fun r hr => ?_⟩
  unfold wmouse at hr
  obtain ⟨d, _, rfl⟩ := List.mem_map.mp hr
  exact lot_sub List.filter_sublist
theorem lot_len {cups : Nat} {l : List Nat} (h : lotB cups l = true) : l.length ≤ cups := by
  unfold lotB at h
  rw [Bool.and_eq_true] at h
  have key : ∀ (l : List Nat) (a : Nat), ris (a :: l) = true → (∀ c ∈ (a :: l), c < cups) → (a :: l).length + a ≤ cups := by
    intro l
    induction l with
    | nil => intro a _ hc; have := hc a List.mem_cons_self; simp; omega
    | cons b l ih =>
      intro a hr hc
      unfold ris at hr
      rw [Bool.and_eq_true] at hr
      have := of_decide_eq_true hr.1
      have := ih b hr.2 fun c hm => hc c (List.mem_cons_of_mem _ hm)
      rw [List.length_cons] at this ⊢
      rw [List.length_cons]
      omega
  cases l with
  | nil => exact Nat.zero_le _
  | cons a l =>
    have := key l a h.2 fun c hc => of_decide_eq_true (List.all_eq_true.mp h.1 c hc)
    omega
end Law

set_option maxHeartbeats 4000000
/-! mice: what is a plan -/
namespace Law
open PySem Eng PyProof.Rows
def isI : D → Bool
  | .int _ => true
  | _ => false
def inW (d : D) (a b : Int) : Bool := match d with
  | .int i => decide (a ≤ i) && decide (i ≤ b)
  | _ => false
theorem inW_nat {x a b : Nat} : inW (.int (x : Nat)) (a : Nat) (b : Nat) = (decide (a ≤ x) && decide (x ≤ b)) := by
  unfold inW
  simp
def aw (d : D) (a b : Int) : Bool := match d with
  | .tup l => l.all fun x => inW x a b
  | _ => false
def prs (l : List Nat) : List (Nat × Nat) := l.zip (l.drop 1)
def pD2 (p : Nat × Nat) : D := .tup [.int (p.1 : Nat), .int (p.2 : Nat)]
theorem zip_il : ∀ l m : List Nat, zipD (il l) (il m) = (l.zip m).map pD2
  | [], m => by
    show zipD [] (il m) = _
    cases m <;> rfl
  | a :: l, [] => rfl
  | a :: l, b :: m => by
    show D.tup [.int (a : Nat), .int (b : Nat)] :: zipD (il l) (il m) = _
    rw [zip_il l m]
    rfl
theorem zip_next {G : Gm} {i : Nat} {l : List Nat} {e : Eng.Env} {S : Sto} (h : e[i]? = some (.val (sD l))) : evI G (.zip [.var i, .slc (.bor i) (some (.int 1)) none]) e S = .ok ((prs l).map pD2) e S := by
  have hs : slcO (sD l) (some 1) none = some (.tup (il (l.drop 1))) := by
    show some (D.tup (Eng.cutD (il l) (some ((1 : Nat) : Int)) none)) = _
    rw [cut_drop, il_drop]
  have hd : dzip [sD l, .tup (il (l.drop 1))] = some ((prs l).map pD2) := by
    show some (zipD (il l) (il (l.drop 1))) = _
    rw [zip_il]
    rfl
  generalize sD l = x at *
  generalize il (l.drop 1) = y at *
  simp [h, hs, hd]
def risB (l : List Nat) : Bool := (prs l).all fun p => decide (p.1 < p.2)
theorem ris_asc : ∀ {l : List Nat}, l.Pairwise (· < ·) → risB l = true
  | [], _ => rfl
  | [a], _ => rfl
  | a :: b :: r, h => by
    have h' := List.pairwise_cons.mp h
    have e : risB (a :: b :: r) = (decide (a < b) && risB (b :: r)) := rfl
    rw [e, ris_asc h'.2, decide_eq_true (h'.1 b List.mem_cons_self)]
    rfl
def szd (d : D) (a b : Int) : Bool := match d with
  | .tup l => decide (a ≤ (l.length : Nat)) && decide (((l.length : Nat) : Int) ≤ b)
  | _ => false
theorem aw_il {l : List Nat} {a b : Nat} (h : ∀ x ∈ l, a ≤ x ∧ x ≤ b) : aw (sD l) a b = true := by
  refine List.all_eq_true.mpr fun d hd => ?_
  obtain ⟨x, hx, rfl⟩ := List.mem_map.mp hd
  rw [inW_nat, decide_eq_true (h x hx).1, decide_eq_true (h x hx).2]
  rfl
theorem il_isi {l : List Nat} : ∀ d ∈ il l, d.isiOk = true := fun d hd => by
  obtain ⟨x, _, rfl⟩ := List.mem_map.mp hd
  rfl
theorem all_true {α : Type} {l : List α} : dblt .all [.lst (l.map fun _ => D.bl true)] = some (.bl true) := by
  rw [dblt_all (f := fun _ : α => true)]
  simp
def pl : Nat → D → Bool
  | _, .non => true
  | _, .bl _ => true
  | _, .int _ => true
  | _, .str x => PyData.strOk x
  | n + 1, .tup l => l.all (pl n) && decide (l.length ≤ 1000)
  | n + 1, .lst l => l.all (pl n) && decide (l.length ≤ 1000)
  | _, _ => false
theorem pl_int {n : Nat} {i : Int} : pl n (.int i) = true := by cases n <;> rfl
theorem pl_non {n : Nat} : pl n .non = true := by cases n <;> rfl
theorem fr_all {α ω : Type} {G : Gm} {t : Tg} {b : List Eng.S} {S : Sto} {d : D} (g : α → D) (E : ω → Eng.Env) (P : α → Bool) : ∀ (xs : List α) (o : ω), (∀ x ∈ xs, ∀ o, ∃ e1, bindT t (g x) (E o) = some e1 ∧ (P x = true → ∃ o', evSs G b e1 S = .ok .nx (E o') S) ∧ (P x = false → ∃ e2, evSs G b e1 S = .ok (.rt d) e2 S)) →
    (xs.all P = true → ∃ o', loopF (turnF t (evSs G b)) (xs.map g) (E o) S = .ok .nx (E o') S) ∧ (xs.all P = false → ∃ e2, loopF (turnF t (evSs G b)) (xs.map g) (E o) S = .ok (.rt d) e2 S)
  | [], o, _ => ⟨fun _ => ⟨o, rfl⟩, fun h => nomatch h⟩
  | x :: xs, o, hs => by
    obtain ⟨e1, q1, q2, q3⟩ := hs x List.mem_cons_self o
    rw [List.all_cons]
    cases hp : P x with
    | true =>
      obtain ⟨o', q⟩ := q2 hp
      obtain ⟨i1, i2⟩ := fr_all g E P xs o' fun y hy => hs y (List.mem_cons_of_mem _ hy)
      have st : loopF (turnF t (evSs G b)) ((x :: xs).map g) (E o) S = loopF (turnF t (evSs G b)) (xs.map g) (E o') S := by
        show M.bind (turnF t (evSs G b) (g x)) _ (E o) S = _
        unfold M.bind
        rw [turnF_at q1, q]
      rw [st, Bool.true_and]
      exact ⟨i1, i2⟩
    | false =>
      obtain ⟨e2, q⟩ := q3 hp
      refine ⟨fun h => (nomatch h), fun _ => ⟨e2, ?_⟩⟩
      show M.bind (turnF t (evSs G b) (g x)) _ (E o) S = _
      unfold M.bind
      rw [turnF_at q1, q]
      rfl
theorem deq_strs {a b : PySem.Str} (h1 : PyData.strOk a = true) (h2 : PyData.strOk b = true) : deq (.str a) (.str b) = some (decide (a = b)) := by
  obtain ⟨p, q1, q2, _⟩ := shaped_ok (n := 0) (d := .str a) h1 (by decide)
  obtain ⟨p', q3, q4, _⟩ := shaped_ok (n := 0) (d := .str b) h2 (by decide)
  have e1 : D.py (.str a) = some (.str a) := by unfold D.py; rfl
  have e2 : D.py (.str b) = some (.str b) := by unfold D.py; rfl
  rw [e1] at q2; cases q2
  rw [e2] at q4; cases q4
  unfold deq
  rw [q1, q3]
  show some (PyData.eqv (.str a) (.str b)) = _
  refine congrArg some ?_
  simp only [PyData.eqv]
  by_cases h : a = b
  · subst h; simp
  · simp [h]
theorem inW_same {y : D} {t : Int} : inW y t t = (match y with | .int i => decide (i = t) | _ => false) := by
  cases y <;> first | rfl | skip
  rename_i i
  show (decide (t ≤ i) && decide (i ≤ t)) = decide (i = t)
  rw [Bool.eq_iff_iff, Bool.and_eq_true, decide_eq_true_iff, decide_eq_true_iff, decide_eq_true_iff]
  omega
section
variable {Γ : Nat → Gm} {k : Nat} {S : Sto}
theorem r_is_integer (hR : Sem Pg Γ) {d : D} {S : Sto} (h : d.isiOk = true) : (Γ (k + 1)).call 0 [d] S = .ok (.bl (isI d)) S := by
  rw [hR.step _ 0 f0 _ _ rfl]
  cases d <;> first | rfl | cases h
theorem r_is_within (hR : Sem Pg Γ) {d : D} {a b : Int} {S : Sto} (h : d.isiOk = true) : (Γ (k + 2)).call 1 [d, .int a, .int b] S = .ok (.bl (inW d a b)) S := by
  rw [hR.step _ 1 f1 _ _ rfl]
  rw [run_app rfl]
  simp [f1, b1, r_is_integer hR h]
  cases d with
  | int i =>
    by_cases h1 : a ≤ i <;> simp [isI, inW, h1]
  | _ => simp [isI, inW]
theorem within_nat (hR : Sem Pg Γ) {n a b : Nat} (h1 : a ≤ n) (h2 : n ≤ b) : (Γ (k + 2)).call 1 [.int n, .int a, .int b] S = .ok (.bl true) S := by
  have := r_is_within (k := k) hR (d := .int (n : Nat)) (a := a) (b := b) (S := S) rfl
  rw [inW_nat, decide_eq_true h1, decide_eq_true h2] at this
  exact this
theorem q2 {G : Gm} {l : List D} {a b : Int} (hc : ∀ d ∈ l, G.call 1 [d, .int a, .int b] S = .ok (.bl (inW d a b)) S) (hn : l.length ≤ 1000) : evE G q3_0 [.val (.tup l), .val (.int a), .val (.int b), .emp] S = .ok (.lst (l.map fun d => .bl (inW d a b))) [.val (.tup l), .val (.int a), .val (.int b), .emp] S := by
  have hi : evI G (.seq (.bor 0)) [.val (.tup l), .val (.int a), .val (.int b), .emp] S = .ok l [.val (.tup l), .val (.int a), .val (.int b), .emp] S := by simp
  exact comp_mapE (own := [3]) (t := .name 3) (elt := .call 1 [.var 3, .var 1, .var 2]) (fun d => .bl (inW d a b)) (fun d => [.val (.tup l), .val (.int a), .val (.int b), .val d]) hi (fun x hx => rfl) (fun x hx => by simp [hc x hx]) (fun x hx => rfl) rfl (Nat.le_trans hn line1000)
theorem w2a {G : Gm} {q : E} {L : List D} {l : List D} {a b : D} {z : Bool} (hq : evE G q [.val (.tup l), .val a, .val b, .emp] S = .ok (.lst L) [.val (.tup l), .val a, .val b, .emp] S) (ha : dblt .all [.lst L] = some (.bl z)) : endR (evSs G [.ret (.and [.isi .tuple (.bor 0), .blt .all [q]])] [.val (.tup l), .val a, .val b, .emp] S) = .ok (.bl z) S := by
  simp [hq, ha]
theorem w2b {G : Gm} {q : E} {x a b : D} (hx : x.isiOk = true) (h : disi .tuple x = false) : endR (evSs G [.ret (.and [.isi .tuple (.bor 0), .blt .all [q]])] [.val x, .val a, .val b, .emp] S) = .ok (.bl false) S := by
  simp [hx, h]
theorem r_are (hR : Sem Pg Γ) {l : List D} {a b : Int} (hx : ∀ d ∈ l, d.isiOk = true) (hn : l.length ≤ 1000) : (Γ (k + 3)).call 3 [.tup l, .int a, .int b] S = .ok (.bl (aw (.tup l) a b)) S := by
  rw [hR.step _ 3 f3 _ _ rfl, run_b b3 [.val (.tup l), .val (.int a), .val (.int b), .emp] rfl rfl rfl]
  exact w2a (q2 (fun d hd => r_is_within hR (hx d hd)) hn) dblt_all
theorem r_are_no (hR : Sem Pg Γ) {x a b : D} (hx : x.isiOk = true) (h : disi .tuple x = false) : (Γ (k + 1)).call 3 [x, a, b] S = .ok (.bl false) S := by
  rw [hR.step _ 3 f3 _ _ rfl, run_b b3 [.val x, .val a, .val b, .emp] rfl rfl rfl]
  exact w2b hx h
theorem q3 {G : Gm} {l : List Nat} (hn : l.length ≤ 1000) : evE G q4_0 [.val (sD l), .emp, .emp] S = .ok (.lst ((prs l).map fun p => .bl (decide (p.1 < p.2)))) [.val (sD l), .emp, .emp] S :=
  comp_mapG (own := [1, 2]) (t := .tup [.name 1, .name 2]) (elt := .cmp .lt (.bor 1) (.bor 2)) pD2 (fun p => .bl (decide (p.1 < p.2))) (fun p => [.val (sD l), .val (.int (p.1 : Nat)), .val (.int (p.2 : Nat))]) (zip_next (i := 0) rfl) (fun x hx => rfl) (fun x hx => by simp) (fun x hx => rfl) rfl (by
    unfold prs
    rw [List.length_zip]
    exact Nat.le_trans (Nat.min_le_left _ _) (Nat.le_trans hn line1000))
theorem w3 {G : Gm} {q : E} {x : D} {L : List D} {z : Bool} (hq : evE G q [.val x, .emp, .emp] S = .ok (.lst L) [.val x, .emp, .emp] S) (ha : dblt .all [.lst L] = some (.bl z)) : endR (evSs G [.ret (.blt .all [q])] [.val x, .emp, .emp] S) = .ok (.bl z) S := by
  simp [hq, ha]
theorem r_rising (hR : Sem Pg Γ) {l : List Nat} (hn : l.length ≤ 1000) : (Γ (k + 1)).call 4 [sD l] S = .ok (.bl (risB l)) S := by
  rw [hR.step _ 4 f4 _ _ rfl, run_b b4 [.val (sD l), .emp, .emp] rfl rfl rfl]
  exact w3 (q3 hn) dblt_all
theorem w4 {G : Gm} {x : D} {n : Int} {b1 b3 : Bool} (h1 : G.call 3 [x, .int 0, .int (n - 1)] S = .ok (.bl b1) S) (h2 : b1 = true → G.call 4 [x] S = .ok (.bl b3) S) : endR (evSs G b5 [.val x, .val (.int n)] S) = .ok (.bl (b1 && b3)) S := by
  cases b1 with
  | false => simp [b5, h1]
  | true => simp [b5, h1, h2 rfl]
theorem r_is_sized (hR : Sem Pg Γ) {d : D} {a b : Int} {S : Sto} (h : d.isiOk = true) : (Γ (k + 1)).call 2 [d, .int a, .int b] S = .ok (.bl (szd d a b)) S := by
  rw [hR.step _ 2 f2 _ _ rfl, run_app rfl]
  cases d with
  | tup l => by_cases h1 : a ≤ (l.length : Nat) <;> simp [f2, Law.b2, szd, h1]
  | non => simp [f2, Law.b2, szd]
  | bl b => simp [f2, Law.b2, szd]
  | int i => simp [f2, Law.b2, szd]
  | str x => simp [f2, Law.b2, szd]
  | lst x => simp [f2, Law.b2, szd]
  | dic m => simp [f2, Law.b2, szd]
  | _ => cases h

theorem ris_eq : ∀ l : List Nat, risB l = ris l
  | [] => rfl
  | [_] => rfl
  | a :: b :: r => by
    have e : risB (a :: b :: r) = (decide (a < b) && risB (b :: r)) := rfl
    rw [e, ris_eq (b :: r), ris]
theorem pl_isi {n : Nat} {d : D} (h : pl n d = true) : d.isiOk = true := by
  cases d <;> first | rfl | (cases n <;> cases h)
theorem pl_tup {n : Nat} {l : List D} (h : pl (n + 1) (.tup l) = true) : (∀ x ∈ l, pl n x = true) ∧ l.length ≤ 1000 := by
  have h' : (l.all (pl n) && decide (l.length ≤ 1000)) = true := h
  rw [Bool.and_eq_true] at h'
  exact ⟨fun x hx => List.all_eq_true.mp h'.1 x hx, of_decide_eq_true h'.2⟩
theorem szd_no {d : D} {a b : Int} (h : disi .tuple d = false) : szd d a b = false := by
  cases d <;> first | rfl | cases h
/-! lots -/
def toN : D → Nat
  | .int i => i.toNat
  | _ => 0
def risD (l : List D) : Bool := risB (l.map toN)
def lotD (cups : Nat) (d : D) : Bool := match d with
  | .tup l => aw (.tup l) 0 ((cups : Int) - 1) && risD l
  | _ => false
theorem aw_nat {cups : Nat} : ∀ {l : List D}, aw (.tup l) 0 ((cups : Int) - 1) = true → ∃ ns : List Nat, l = il ns ∧ (∀ c ∈ ns, c < cups) ∧ l.map toN = ns
  | [], _ => ⟨[], rfl, fun c h => (nomatch h), rfl⟩
  | x :: l, h => by
    have h' : (inW x 0 ((cups : Int) - 1) && l.all fun d => inW d 0 ((cups : Int) - 1)) = true := h
    rw [Bool.and_eq_true] at h'
    obtain ⟨ns, h1, h2, h3⟩ := aw_nat (l := l) h'.2
    cases x with
    | int i =>
      have h4 : (decide ((0 : Int) ≤ i) && decide (i ≤ (cups : Int) - 1)) = true := h'.1
      rw [Bool.and_eq_true, decide_eq_true_iff, decide_eq_true_iff] at h4
      obtain ⟨n, rfl⟩ := nat_of h4.1
      refine ⟨n :: ns, by rw [h1]; rfl, fun c hc => ?_, ?_⟩
      · rcases List.mem_cons.mp hc with e | hc
        · omega
        · exact h2 c hc
      · rw [List.map_cons, h3]
        rfl
    | _ => exact absurd h'.1 Bool.false_ne_true
theorem lot_sD {cups : Nat} {l : List Nat} : lotD cups (sD l) = lotB cups l := by
  have hm : (il l).map toN = l := by
    unfold il
    rw [List.map_map]
    exact (List.map_congr_left fun x _ => (Int.toNat_natCast x : ((x : Nat) : Int).toNat = x)).trans (List.map_id l)
  show (((il l).all fun d => inW d 0 ((cups : Int) - 1)) && risB ((il l).map toN)) = _
  rw [hm, ris_eq]
  unfold lotB il
  rw [List.all_map]
  congr 2
  funext c
  show (decide ((0 : Int) ≤ (c : Nat)) && decide (((c : Nat) : Int) ≤ (cups : Int) - 1)) = decide (c < cups)
  rw [decide_eq_true (p := (0 : Int) ≤ (c : Nat)) (by omega), Bool.true_and, decide_eq_decide]
  omega
theorem lot_of {cups : Nat} {d : D} (h : lotD cups d = true) : ∃ l : List Nat, d = sD l ∧ lotB cups l = true := by
  cases d with
  | tup l =>
    have h' := h
    have h2 : (aw (.tup l) 0 ((cups : Int) - 1) && risD l) = true := h
    rw [Bool.and_eq_true] at h2
    obtain ⟨ns, h3, _, _⟩ := aw_nat h2.1
    subst h3
    refine ⟨ns, rfl, ?_⟩
    rw [← lot_sD]
    exact h'
  | _ => cases h
theorem r_lotD (hR : Sem Pg Γ) {n : Nat} {d : D} {cups : Nat} (hp : pl (n + 1) d = true) : (Γ (k + 4)).call 5 [d, .int (cups : Nat)] S = .ok (.bl (lotD cups d)) S := by
  rw [hR.step _ 5 f5 _ _ rfl, run_b b5 [.val d, .val (.int (cups : Nat))] rfl rfl rfl]
  cases d with
  | tup l =>
    obtain ⟨h1, h2⟩ := pl_tup hp
    refine w4 (r_are (k := k) hR (fun d hd => pl_isi (h1 d hd)) h2) fun h => ?_
    obtain ⟨ns, e, _, h3⟩ := aw_nat h
    show (Γ (k + 3)).call 4 [.tup l] S = .ok (.bl (risB (l.map toN))) S
    rw [h3, e]
    exact r_rising (k := k + 2) hR (by rw [← il_len, ← e]; exact h2)
  | _ => exact w4 (b1 := false) (b3 := true) (r_are_no (k := k + 2) hR (pl_isi hp) rfl) (fun h => nomatch h)
/-! mice -/
def mouseD (cups : Nat) (days : Int) (d : D) : Bool := match d with
  | .tup l => szd (.tup l) days days && l.all (lotD cups)
  | _ => false
theorem q6 {G : Gm} {l : List D} {c d : D} {f : D → Bool} (hc : ∀ x ∈ l, G.call 5 [x, c] S = .ok (.bl (f x)) S) (hn : l.length ≤ 1000) : evE G q6_0 [.val c, .val d, .val (.tup l), .emp] S = .ok (.lst (l.map fun x => .bl (f x))) [.val c, .val d, .val (.tup l), .emp] S := by
  have hi : evI G (.seq (.bor 2)) [.val c, .val d, .val (.tup l), .emp] S = .ok l [.val c, .val d, .val (.tup l), .emp] S := by simp
  exact comp_mapE (own := [3]) (t := .name 3) (elt := .call 5 [.var 3, .var 0]) (fun x => .bl (f x)) (fun x => [.val c, .val d, .val (.tup l), .val x]) hi (fun x hx => rfl) (fun x hx => by simp [hc x hx]) (fun x hx => rfl) rfl (Nat.le_trans hn line1000)
theorem w6 {G : Gm} {q : E} {c d m : D} {b1 b3 : Bool} {L : List D} (h1 : G.call 2 [m, d, d] S = .ok (.bl b1) S) (hq : b1 = true → evE G q [.val c, .val d, .val m, .emp] S = .ok (.lst L) [.val c, .val d, .val m, .emp] S) (ha : b1 = true → dblt .all [.lst L] = some (.bl b3)) : endR (evSs G [.ret (.and [.call 2 [.var 2, .var 1, .var 1], .blt .all [q]])] [.val c, .val d, .val m, .emp] S) = .ok (.bl (b1 && b3)) S := by
  cases b1 with
  | false => simp [h1]
  | true => simp [h1, hq rfl, ha rfl]
theorem r_mouse (hR : Sem Pg Γ) {n : Nat} {m : D} {cups : Nat} {days : Int} (hp : pl (n + 2) m = true) : (Γ (k + 5)).call 6 [.int (cups : Nat), .int days, m] S = .ok (.bl (mouseD cups days m)) S := by
  rw [hR.step _ 6 f6 _ _ rfl, run_b b6 [.val (.int (cups : Nat)), .val (.int days), .val m, .emp] rfl rfl rfl]
  have h1 := r_is_sized (k := k + 3) (S := S) hR (d := m) (a := days) (b := days) (pl_isi hp)
  cases m with
  | tup l =>
    obtain ⟨h2, h3⟩ := pl_tup hp
    exact w6 h1 (fun _ => q6 (fun x hx => r_lotD hR (h2 x hx)) h3) (fun _ => dblt_all)
  | _ => exact w6 (b3 := true) (L := []) h1 (fun h => nomatch h) (fun h => nomatch h)
/-! plans -/
def hdl : List D → Int
  | .tup x :: _ => (x.length : Nat)
  | _ => 0
def planD (cups : Nat) (d : D) : Bool := match d with
  | .tup l => decide (l.length ≤ 5) && l.all fun m => szd m 1 3 && mouseD cups (hdl l) m
  | _ => false
theorem all_and {α : Type} {f g : α → Bool} : ∀ l : List α, (l.all fun x => f x && g x) = (l.all f && l.all g)
  | [] => rfl
  | x :: l => by
    rw [List.all_cons, List.all_cons, List.all_cons, all_and l]
    cases f x <;> cases g x <;> cases l.all f <;> cases l.all g <;> rfl
theorem at0 {x : D} {r : List D} : L2.atI (x :: r) 0 = some x := by
  unfold L2.atI L2.ixN
  simp
def ev7 (c t : D) : Eng.Env := [.val c, .val t, .emp]
theorem q70 {G : Gm} {l : List D} {c : D} (hc : ∀ x ∈ l, G.call 2 [x, .int 1, .int 3] S = .ok (.bl (szd x 1 3)) S) (hn : l.length ≤ 1000) : evE G q7_0 (ev7 c (.tup l)) S = .ok (.lst (l.map fun x => .bl (szd x 1 3))) (ev7 c (.tup l)) S := by
  have hi : evI G (.seq (.bor 1)) (ev7 c (.tup l)) S = .ok l (ev7 c (.tup l)) S := by simp [ev7]
  exact comp_mapE (own := [2]) (t := .name 2) (elt := .call 2 [.var 2, .int 1, .cst (.int 3)]) (fun x => .bl (szd x 1 3)) (fun x => [.val c, .val (.tup l), .val x]) hi (fun x hx => rfl) (fun x hx => by simp [hc x hx]) (fun x hx => rfl) rfl (Nat.le_trans hn line1000)
theorem q71 {G : Gm} {l : List D} {c : D} {f : D → Bool} (hh : l.all (fun m => szd m 1 3) = true) (hc : ∀ x ∈ l, G.call 6 [c, .int (hdl l), x] S = .ok (.bl (f x)) S) (hn : l.length ≤ 1000) : evE G q7_1 (ev7 c (.tup l)) S = .ok (.lst (l.map fun x => .bl (f x))) (ev7 c (.tup l)) S := by
  have hi : evI G (.seq (.bor 1)) (ev7 c (.tup l)) S = .ok l (ev7 c (.tup l)) S := by simp [ev7]
  refine comp_mapE (own := [2]) (t := .name 2) (elt := .call 6 [.var 0, .blt .len [.idx (.bor 1) (.int 0)], .var 2]) (fun x => .bl (f x)) (fun x => [.val c, .val (.tup l), .val x]) hi (fun x hx => rfl) (fun x hx => ?_) (fun x hx => rfl) rfl (Nat.le_trans hn line1000)
  cases l with
  | nil => cases hx
  | cons y r =>
    rw [List.all_cons, Bool.and_eq_true] at hh
    cases y with
    | tup z =>
      have h0 : L2.atI (D.tup z :: r) 0 = some (.tup z) := at0
      have hc' : G.call 6 [c, .int (z.length : Nat), x] S = .ok (.bl (f x)) S := hc x hx
      simp [h0, hc']
    | _ => exact absurd hh.1 Bool.false_ne_true
theorem w7 {G : Gm} {q0 q1 : E} {c t : D} {b1 b3 b4 : Bool} {L0 L1 : List D} (h1 : G.call 2 [t, .int 0, .int 5] S = .ok (.bl b1) S) (h0 : b1 = true → evE G q0 (ev7 c t) S = .ok (.lst L0) (ev7 c t) S) (a0 : b1 = true → dblt .all [.lst L0] = some (.bl b3)) (h2 : b1 = true → b3 = true → evE G q1 (ev7 c t) S = .ok (.lst L1) (ev7 c t) S) (a1 : b1 = true → b3 = true → dblt .all [.lst L1] = some (.bl b4)) :
    endR (evSs G [.ifs (.or [.not (.call 2 [.var 1, .int 0, .cst (.int 5)]), .not (.blt .all [q0])]) [.ret (.bl false)] [], .ret (.blt .all [q1])] (ev7 c t) S) = .ok (.bl (b1 && (b3 && b4))) S := by
  unfold ev7 at *
  cases b1 with
  | false => simp [h1]
  | true =>
    have h0 := h0 rfl
    have a0 := a0 rfl
    cases b3 with
    | false => simp [h1, h0, a0]
    | true =>
      have h2 := h2 rfl rfl
      have a1 := a1 rfl rfl
      simp [h1, h0, a0, h2, a1]
theorem szd5 {l : List D} : szd (.tup l) 0 5 = decide (l.length ≤ 5) := by
  show (decide ((0 : Int) ≤ (l.length : Nat)) && decide (((l.length : Nat) : Int) ≤ 5)) = _
  rw [decide_eq_true (p := (0 : Int) ≤ (l.length : Nat)) (by omega), Bool.true_and, decide_eq_decide]
  omega
theorem r_is_plan (hR : Sem Pg Γ) {n : Nat} {t : D} {cups : Nat} (hp : pl (n + 3) t = true) : (Γ (k + 6)).call 7 [.int (cups : Nat), t] S = .ok (.bl (planD cups t)) S := by
  rw [hR.step _ 7 f7 _ _ rfl, run_b b7 (ev7 (.int (cups : Nat)) t) rfl rfl rfl]
  have h1 := r_is_sized (k := k + 4) (S := S) hR (d := t) (a := 0) (b := 5) (pl_isi hp)
  cases t with
  | tup l =>
    obtain ⟨h2, h3⟩ := pl_tup hp
    have := w7 (q0 := q7_0) (q1 := q7_1) (c := .int (cups : Nat)) h1 (fun _ => q70 (fun x hx => r_is_sized (k := k + 4) hR (pl_isi (h2 x hx))) h3) (fun _ => dblt_all) (fun _ hh => q71 hh (fun x hx => r_mouse hR (h2 x hx)) h3) (fun _ _ => dblt_all)
    rw [szd5, ← all_and] at this
    exact this
  | _ => exact w7 (q0 := q7_0) (q1 := q7_1) (c := .int (cups : Nat)) (b3 := true) (b4 := true) (L0 := []) (L1 := []) h1 (fun h => nomatch h) (fun h => nomatch h) (fun h => nomatch h) (fun h => nomatch h)
end
end Law

set_option maxHeartbeats 4000000
/-! tools: comprehensions of two clauses -/
namespace Law
open PySem Eng PyProof.Rows
def turn2 (Γ : Gm) (t : Tg) (c : Option E) (own2 : List Nat) (t2 : Tg) (it2 : Itr) (c2 : Option E) (elt : E) (x : D) : M (List D) := do
  Eng.bindM t x
  let k ← evC Γ c
  iteM k (do
    let ys ← evI Γ it2
    wipeM own2
    compL own2 (turnC Γ t2 c2 elt) ys) (M.pure [])
section
variable {Γ : Gm} {own own2 : List Nat} {t t2 : Tg} {it it2 : Itr} {elt : E} {c c2 : Option E} {e e1 : Eng.Env} {S : Sto} {α β : Type}
theorem evE_comp2 : evE Γ (.comp2 own own2 t it c t2 it2 c2 elt) e S = Res.bind (evI Γ it e S) fun xs e1 S1 => Res.bind (scopeM own (compL own (turn2 Γ t c own2 t2 it2 c2 elt) xs) e1 S1) fun r e2 S2 => liftO (dlst r) e2 S2 := by rw [evE]; rfl
theorem comp2_G (g : α → D) (g2 : α → β → D) (h : α → β → D) (E2 : α → Eng.Env) (E3 : α → β → Eng.Env) {xs : List α} {ys : α → List β} (hi : evI Γ it e S = .ok (xs.map g) e1 S) (h1 : ∀ x ∈ xs, bindT t (g x) (wipeE e1 own) = some (E2 x)) (h2 : ∀ x ∈ xs, evI Γ it2 (E2 x) S = .ok ((ys x).map (g2 x)) (E2 x) S)
    (h3 : ∀ x ∈ xs, ∀ y ∈ ys x, bindT t2 (g2 x y) (wipeE (E2 x) own2) = some (E3 x y)) (h4 : ∀ x ∈ xs, ∀ y ∈ ys x, evE Γ elt (E3 x y) S = .ok (h x y) (E3 x y) S) (h5 : ∀ x ∈ xs, ∀ y ∈ ys x, wipeE (E3 x y) own2 = wipeE (E2 x) own2)
    (h6 : ∀ x ∈ xs, wipeE (wipeE (E2 x) own2) own = wipeE e1 own) (hb : backE e1 (wipeE e1 own) own = e1) (hz : (xs.flatMap fun x => (ys x).map (h x)).length ≤ sizeLine) :
    evE Γ (.comp2 own own2 t it none t2 it2 none elt) e S = .ok (.lst (xs.flatMap fun x => (ys x).map (h x))) e1 S := by
  have hr : ∀ (x : α) (l : List β), (l.flatMap fun y => [h x y]) = l.map (h x) := fun x l => by
    induction l with
    | nil => rfl
    | cons y l ih => rw [List.flatMap_cons, ih, List.map_cons]; rfl
  have key : compL own (turn2 Γ t none own2 t2 it2 none elt) (xs.map g) (wipeE e1 own) S = .ok (xs.flatMap fun x => (ys x).map (h x)) (wipeE e1 own) S := by
    refine compL_G _ g (fun x => (ys x).map (h x)) (wipeE e1 own) xs fun x hx => ⟨wipeE (E2 x) own2, ?_, h6 x hx⟩
    have inner := compL_G (own := own2) (S := S) (turnC Γ t2 none elt) (g2 x) (fun y => [h x y]) (wipeE (E2 x) own2) (ys x) fun y hy => ⟨E3 x y, turnC_one (h3 x hx y hy) (h4 x hx y hy), h5 x hx y hy⟩
    rw [hr] at inner
    have a1 : Eng.bindM t (g x) (wipeE e1 own) S = .ok () (E2 x) S := by
      unfold Eng.bindM
      rw [h1 x hx]
    show M.bind (Eng.bindM t (g x)) _ (wipeE e1 own) S = _
    unfold M.bind
    rw [a1]
    show M.bind (evC Γ none) _ (E2 x) S = _
    have a2 : evC Γ none (E2 x) S = .ok true (E2 x) S := by rw [evC]; rfl
    unfold M.bind
    rw [a2]
    show M.bind (evI Γ it2) _ (E2 x) S = _
    unfold M.bind
    rw [h2 x hx]
    exact inner
  rw [evE_comp2, hi, Res.bind_ok]
  have sc : scopeM own (compL own (turn2 Γ t none own2 t2 it2 none elt) (xs.map g)) e1 S = .ok (xs.flatMap fun x => (ys x).map (h x)) e1 S := by
    unfold scopeM
    rw [key]
    show Res.ok _ (backE e1 (wipeE e1 own) own) S = _
    rw [hb]
  rw [sc, Res.bind_ok, dlst_line hz]
  rfl
theorem flat_len {f : α → List β} {b : Nat} : ∀ {xs : List α}, (∀ x ∈ xs, (f x).length ≤ b) → (xs.flatMap f).length ≤ b * xs.length
  | [], _ => Nat.zero_le _
  | x :: xs, h => by
    rw [List.flatMap_cons, List.length_append, List.length_cons, Nat.mul_add, Nat.mul_one]
    have h1 := h x List.mem_cons_self
    have h2 := flat_len (xs := xs) fun y hy => h y (List.mem_cons_of_mem _ hy)
    omega
end
end Law

set_option maxHeartbeats 4000000
/-! mice: what is seen; the bad cups -/
namespace Law
open PySem Eng PyProof.Rows
section
variable {G : Gm} {S : Sto}
theorem hd_eq {l : List Nat} {i : Nat} {e : Eng.Env} (h : e[i]? = some (.val (.lst (il l)))) : evE G (.ite (.cmp .gt (.blt .len [.bor i]) (.int 0)) (.idx (.bor i) (.int 0)) .non) e S = .ok (oD l.head?) e S := by
  cases l with
  | nil => simp [h, il, oD]
  | cons a r =>
    have h0 : L2.atI (il (a :: r)) 0 = some (.int (a : Nat)) := at0
    have hl : il (a :: r) ≠ [] := fun z => by cases z
    generalize hx : il (a :: r) = x at *
    simp [h, h0, hl, oD]
theorem any_hits {row bad : List Nat} : dblt .any [.lst (bad.map fun c => D.bl (decide (c ∈ row)))] = some (.bl (hits row bad)) := dblt_any
def ev9 (m b : D) (s d l c : Slot) : Eng.Env := [.val m, .val b, s, d, l, c]
theorem q90 {bad row : List Nat} {m : D} {s d : Slot} (hn : bad.length ≤ 1000) : evE G q9_0 (ev9 m (sD bad) s d (.val (sD row)) .emp) S = .ok (.lst (bad.map fun c => .bl (decide (c ∈ row)))) (ev9 m (sD bad) s d (.val (sD row)) .emp) S := by
  have hi : evI G (.seq (.bor 1)) (ev9 m (sD bad) s d (.val (sD row)) .emp) S = .ok (bad.map fun c => D.int (c : Nat)) (ev9 m (sD bad) s d (.val (sD row)) .emp) S := by simp [ev9, sD, il]
  refine comp_mapG (own := [5]) (t := .name 5) (elt := .cmp .inn (.bor 5) (.bor 4)) (fun c => D.int (c : Nat)) (fun c => .bl (decide (c ∈ row))) (fun c => ev9 m (sD bad) s d (.val (sD row)) (.val (.int (c : Nat)))) hi (fun x hx => rfl) (fun x hx => ?_) (fun x hx => rfl) rfl (Nat.le_trans hn line1000)
  have h1 : dcmp .inn (.int (x : Nat)) (sD row) = some (decide (x ∈ row)) := inn_tup
  generalize sD row = r at h1 ⊢
  simp [ev9, h1]
theorem any_of {q : E} {e : Eng.Env} {L : List D} {b : D} (h : evE G q e S = .ok (.lst L) e S) (ha : dblt .any [.lst L] = some b) : evE G (.blt .any [q]) e S = .ok b e S := by
  simp [h, ha]
theorem fil_fst {m : List (List Nat)} {bad : List Nat} : (((enP 0 m).filter fun x => hits x.2 bad).map fun x => D.int (x.1 : Nat)) = il (fdays m bad) := by
  unfold il fdays
  rw [List.map_map]
  rfl
theorem q91 {m : List (List Nat)} {bad : List Nat} {s : Slot} (hm : m.length ≤ 1000) (hn : bad.length ≤ 1000) : evE G q9_1 (ev9 (mD m) (sD bad) s .emp .emp .emp) S = .ok (.lst (il (fdays m bad))) (ev9 (mD m) (sD bad) s .emp .emp .emp) S := by
  have hi : evI G (.enum [.var 0]) (ev9 (mD m) (sD bad) s .emp .emp .emp) S = .ok ((enP 0 m).map fun p => D.tup [.int (p.1 : Nat), sD p.2]) (ev9 (mD m) (sD bad) s .emp .emp .emp) S := by
    have hd : denum [mD m] = some ((enP 0 m).map fun p => D.tup [.int (p.1 : Nat), sD p.2]) := by
      show some (enumD 0 (m.map sD)) = _
      rw [enum_enP]
    generalize mD m = x at hd ⊢
    simp [ev9, hd]
  rw [← fil_fst]
  refine comp_filG (own := [3, 4]) (t := .tup [.name 3, .name 4]) (ce := .blt .any [q9_0]) (elt := .var 3) (fun p : Nat × List Nat => D.tup [.int (p.1 : Nat), sD p.2]) (fun x : Nat × List Nat => hits x.2 bad) (fun x : Nat × List Nat => D.int (x.1 : Nat)) (fun p : Nat × List Nat => ev9 (mD m) (sD bad) s (.val (.int (p.1 : Nat))) (.val (sD p.2)) .emp) hi (fun x hx => rfl) (fun x hx => ?_) (fun x hx _ => ?_) (fun x hx => rfl) rfl (by rw [enP_len]; exact Nat.le_trans hm line1000)
  · exact any_of (q90 hn) any_hits
  · simp [ev9]
theorem put_v {i : Nat} {x : E} {e e1 : Eng.Env} {S1 : Sto} {d : D} (h : evE G x e S = .ok d e1 S1) : evS G (.put i false x) e S = .ok .nx (e1.set i (.val d)) S1 := by
  simp [h]
theorem ret_e {x : E} {e e1 : Eng.Env} {S1 : Sto} {d : D} {r : List Eng.S} (h : evE G x e S = .ok d e1 S1) : endR (evSs G (.ret x :: r) e S) = .ok d S1 := by
  simp [h]
theorem tup_of {q : E} {e e1 : Eng.Env} {S1 : Sto} {L : List D} (h : evE G q e S = .ok (.lst L) e1 S1) : evE G (.blt .tuple [q]) e S = .ok (.tup L) e1 S1 := by
  simp [h]
end
section
variable {Γ : Nat → Gm} {k : Nat} {S : Sto}
theorem r_first_day (hR : Sem Pg Γ) {m : List (List Nat)} {bad : List Nat} (hm : m.length ≤ 1000) (hn : bad.length ≤ 1000) : (Γ (k + 1)).call 9 [mD m, sD bad] S = .ok (oD (fday m bad)) S := by
  rw [hR.step _ 9 f9 _ _ rfl, run_b b9 (ev9 (mD m) (sD bad) .emp .emp .emp .emp) rfl rfl rfl]
  unfold b9
  refine (congrArg endR (evSs_step (put_v (i := 2) (q91 hm hn)))).trans ?_
  exact ret_e (hd_eq (i := 2) rfl)
theorem r_raw_seen (hR : Sem Pg Γ) {p : Pl} {bad : List Nat} (hp : p.length ≤ 1000) (hm : ∀ m ∈ p, m.length ≤ 1000) (hn : bad.length ≤ 1000) : (Γ (k + 2)).call 10 [pD p, sD bad] S = .ok (oL (seen p bad)) S := by
  rw [hR.step _ 10 f10 _ _ rfl, run_b b10 [.val (pD p), .val (sD bad), .emp] rfl rfl rfl]
  have hc : ∀ m ∈ p, (Γ (k + 1)).call 9 [mD m, sD bad] S = .ok (oD (fday m bad)) S := fun m h => r_first_day hR (hm m h) hn
  generalize Γ (k + 1) = G at hc ⊢
  have hi : evI G (.seq (.bor 0)) [.val (pD p), .val (sD bad), .emp] S = .ok (p.map mD) [.val (pD p), .val (sD bad), .emp] S := by simp [pD]
  have hq : evE G q10_0 [.val (pD p), .val (sD bad), .emp] S = .ok (.lst (p.map fun m => oD (fday m bad))) [.val (pD p), .val (sD bad), .emp] S := by
    refine comp_mapG (own := [2]) (t := .name 2) (elt := .call 9 [.var 2, .var 1]) mD (fun m => oD (fday m bad)) (fun m => [.val (pD p), .val (sD bad), .val (mD m)]) hi (fun x hx => rfl) (fun x hx => ?_) (fun x hx => rfl) rfl (Nat.le_trans hp line1000)
    have := hc x hx
    generalize mD x = y at this ⊢
    generalize sD bad = z at this ⊢
    simp [this]
  unfold b10
  refine (ret_e (tup_of hq)).trans ?_
  unfold oL seen
  rw [List.map_map]
  rfl
end
/-! the law's own -/
section
variable {G : Gm} {S : Sto}
def ev28 (p b : D) (m d f y r c : Slot) : Eng.Env := [.val p, .val b, m, d, f, y, r, c]
theorem q280 {bad row : List Nat} {p : D} {m d f y : Slot} (hn : bad.length ≤ 1000) : evE G q28_0 (ev28 p (sD bad) m d f y (.val (sD row)) .emp) S = .ok (.lst (bad.map fun c => .bl (decide (c ∈ row)))) (ev28 p (sD bad) m d f y (.val (sD row)) .emp) S := by
  have hi : evI G (.seq (.bor 1)) (ev28 p (sD bad) m d f y (.val (sD row)) .emp) S = .ok (bad.map fun c => D.int (c : Nat)) (ev28 p (sD bad) m d f y (.val (sD row)) .emp) S := by simp [ev28, sD, il]
  refine comp_mapG (own := [7]) (t := .name 7) (elt := .cmp .inn (.bor 7) (.bor 6)) (fun c => D.int (c : Nat)) (fun c => .bl (decide (c ∈ row))) (fun c => ev28 p (sD bad) m d f y (.val (sD row)) (.val (.int (c : Nat)))) hi (fun x hx => rfl) (fun x hx => ?_) (fun x hx => rfl) rfl (Nat.le_trans hn line1000)
  have h1 : dcmp .inn (.int (x : Nat)) (sD row) = some (decide (x ∈ row)) := inn_tup
  generalize sD row = r at h1 ⊢
  simp [ev28, h1]
theorem q281 {m : List (List Nat)} {bad : List Nat} {p : D} {d f : Slot} (hm : m.length ≤ 1000) (hn : bad.length ≤ 1000) : evE G q28_1 (ev28 p (sD bad) (.val (mD m)) d f .emp .emp .emp) S = .ok (.lst (il (fdays m bad))) (ev28 p (sD bad) (.val (mD m)) d f .emp .emp .emp) S := by
  have hi : evI G (.enum [.var 2]) (ev28 p (sD bad) (.val (mD m)) d f .emp .emp .emp) S = .ok ((enP 0 m).map fun p => D.tup [.int (p.1 : Nat), sD p.2]) (ev28 p (sD bad) (.val (mD m)) d f .emp .emp .emp) S := by
    have hd : denum [mD m] = some ((enP 0 m).map fun p => D.tup [.int (p.1 : Nat), sD p.2]) := by
      show some (enumD 0 (m.map sD)) = _
      rw [enum_enP]
    generalize mD m = x at hd ⊢
    simp [ev28, hd]
  rw [← fil_fst]
  refine comp_filG (own := [5, 6]) (t := .tup [.name 5, .name 6]) (ce := .blt .any [q28_0]) (elt := .var 5) (fun p : Nat × List Nat => D.tup [.int (p.1 : Nat), sD p.2]) (fun x : Nat × List Nat => hits x.2 bad) (fun x : Nat × List Nat => D.int (x.1 : Nat)) (fun q : Nat × List Nat => ev28 p (sD bad) (.val (mD m)) d f (.val (.int (q.1 : Nat))) (.val (sD q.2)) .emp) hi (fun x hx => rfl) (fun x hx => ?_) (fun x hx _ => ?_) (fun x hx => rfl) rfl (by rw [enP_len]; exact Nat.le_trans hm line1000)
  · exact any_of (q280 hn) any_hits
  · simp [ev28]
theorem l28 {p : D} {bad : List Nat} (hn : bad.length ≤ 1000) (ms : Pl) (acc : List (Option Nat)) (o : Slot × Slot) (hm : ∀ m ∈ ms, m.length ≤ 1000) (hz : acc.length + ms.length ≤ 1000) :
    ∃ o' : Slot × Slot, loopF (turnF (.name 2) (evSs G [.put 3 false (q28_1), .app 4 (.ite (.cmp .gt (.blt .len [.bor 3]) (.int 0)) (.idx (.bor 3) (.int 0)) (.non))])) (ms.map mD) (ev28 p (sD bad) o.1 o.2 (.own (acc.map oD)) .emp .emp .emp) S = .ok .nx (ev28 p (sD bad) o'.1 o'.2 (.own ((acc ++ ms.map fun m => fday m bad).map oD)) .emp .emp .emp) S := by
  obtain ⟨o', h⟩ := fr_fold (G := G) (t := .name 2) (b := [.put 3 false (q28_1), .app 4 (.ite (.cmp .gt (.blt .len [.bor 3]) (.int 0)) (.idx (.bor 3) (.int 0)) (.non))]) (S := S) mD (fun (acc : List (Option Nat)) (o : Slot × Slot) => ev28 p (sD bad) o.1 o.2 (.own (acc.map oD)) .emp .emp .emp) (fun acc m => acc ++ [fday m bad]) (fun xs acc => (∀ m ∈ xs, m.length ≤ 1000) ∧ acc.length + xs.length ≤ 1000) (fun m xs acc o h => by
    obtain ⟨h1, h2⟩ := h
    rw [List.length_cons] at h2
    refine ⟨⟨fun y hy => h1 y (List.mem_cons_of_mem _ hy), by rw [List.length_append, List.length_singleton]; omega⟩, ev28 p (sD bad) (.val (mD m)) o.2 (.own (acc.map oD)) .emp .emp .emp, (.val (mD m), .val (.lst (il (fdays m bad)))), rfl, ?_⟩
    rw [evSs_step (put_v (i := 3) (q281 (h1 m List.mem_cons_self) hn))]
    refine evSs_one ((app_own (i := 4) rfl (hd_eq (i := 3) rfl) (by rw [List.length_map]; omega)).trans ?_)
    rw [List.map_append]
    rfl) ms acc o ⟨hm, hz⟩
  refine ⟨o', ?_⟩
  rw [h, fold_app]
  have : (ms.flatMap fun m => [fday m bad]) = ms.map fun m => fday m bad := by
    clear h hm hz
    induction ms with
    | nil => rfl
    | cons m ms ih => rw [List.flatMap_cons, ih, List.map_cons]; rfl
  rw [this]
end
section
variable {Γ : Nat → Gm} {k : Nat} {S : Sto}
theorem r_lseen (hR : Sem Pg Γ) {p : Pl} {bad : List Nat} (hp : p.length ≤ 1000) (hm : ∀ m ∈ p, m.length ≤ 1000) (hn : bad.length ≤ 1000) : (Γ (k + 1)).call 28 [pD p, sD bad] S = .ok (oL (seen p bad)) S := by
  rw [hR.step _ 28 f28 _ _ rfl, run_b b28 (ev28 (pD p) (sD bad) .emp .emp .emp .emp .emp .emp) rfl rfl rfl]
  generalize Γ k = G
  obtain ⟨o', h⟩ := l28 (G := G) (S := S) (p := pD p) hn p [] (.emp, .emp) hm (by simpa using hp)
  have q1 : evS G (.put 4 true (.lst [])) (ev28 (pD p) (sD bad) .emp .emp .emp .emp .emp .emp) S = .ok .nx (ev28 (pD p) (sD bad) .emp .emp (.own []) .emp .emp .emp) S := by
    simp [ev28]
  have q2 : evS G l28_2 (ev28 (pD p) (sD bad) .emp .emp (.own []) .emp .emp .emp) S = .ok .nx (ev28 (pD p) (sD bad) o'.1 o'.2 (.own ((seen p bad).map oD)) .emp .emp .emp) S := by
    unfold l28_2
    rw [evS_fr]
    have hi : evI G (.seq (.var 0)) (ev28 (pD p) (sD bad) .emp .emp (.own []) .emp .emp .emp) S = .ok (p.map mD) (ev28 (pD p) (sD bad) .emp .emp (.own []) .emp .emp .emp) S := by simp [ev28, pD]
    rw [hi]
    exact h
  unfold b28
  rw [evSs_step q1, evSs_step q2]
  show _ = FR.ok (.tup ((seen p bad).map oD)) S
  generalize (seen p bad).map oD = z
  unfold ev28
  simp
end
end Law

set_option maxHeartbeats 4000000
/-! mice: bad cups, those seen alike -/
namespace Law
open PySem Eng PyProof.Rows
section
variable {G : Gm} {S : Sto}
theorem rngS {x : E} {n : Nat} {e : Eng.Env} (hn : n ≤ 1000) (h : evE G x e S = .ok (.int (n : Nat)) e S) : evI G (.rng [x]) e S = .ok ((List.range' 0 n).map fun k => D.int (k : Nat)) e S := rng1 (w := .non) hn h
theorem ext_own {i : Nat} {x : E} {e : Eng.Env} {ws ys : List D} (h0 : e[i]? = Option.some (.own ws)) (hx : evE G x e S = .ok (.lst ys) e S) (hl : ws.length + ys.length ≤ 1000) : evS G (.ext i x) e S = .ok .nx (e.set i (.own (ws ++ ys))) S := by
  have hg : getB i e S = .ok (.lst ws) e S := by unfold getB; rw [h0]
  have ha : extAt i ys e S = .ok () (e.set i (.own (ws ++ ys))) S := by
    unfold extAt
    rw [h0]
    simp only [decide_eq_true (Nat.le_trans hl line1000)]
    rfl
  rw [evS_ext, hg, Res.bind_ok, asLst_lst, liftO_some, Res.bind_ok, hx, Res.bind_ok, asLst_lst, liftO_some, Res.bind_ok, ha, Res.bind_ok]
def ev12 (c m : Nat) (a b u : Slot) : Eng.Env := [.val (.int (c : Nat)), .val (.int (m : Nat)), a, b, u]
theorem bads1 {c : Nat} : (bads c 1).map sD = (List.range' 0 c).map fun k => D.tup [.int (k : Nat)] := by
  unfold bads
  rw [if_pos rfl, List.map_map]
  rfl
theorem bads2 {c m : Nat} (h : m ≠ 1) : (bads c m).map sD = (List.range' 0 c).flatMap fun i => (List.range' (i + 1) (c - (i + 1))).map fun j => D.tup [.int (i : Nat), .int (j : Nat)] := by
  unfold bads
  rw [if_neg h, List.map_flatMap]
  refine congrArg (fun f => List.flatMap f (List.range' 0 c)) ?_
  funext i
  rw [List.map_map]
  rfl
theorem bads_len {c m : Nat} (h : c ≤ 16) : (bads c m).length ≤ 256 := by
  unfold bads
  split
  · rw [List.length_map, List.length_range']; omega
  · refine Nat.le_trans (flat_len (b := 16) fun i _ => ?_) ?_
    · rw [List.length_map, List.length_range']; omega
    · rw [List.length_range']
      have := Nat.mul_le_mul_left 16 h
      omega
theorem q120 {c m : Nat} (hc : c ≤ 16) : evE G q12_0 (ev12 c m .emp .emp .emp) S = .ok (.lst ((bads c 1).map sD)) (ev12 c m .emp .emp .emp) S := by
  rw [bads1]
  refine comp_mapG (own := [4]) (t := .name 4) (elt := .tup [.var 4]) (fun k => D.int (k : Nat)) (fun k => D.tup [.int (k : Nat)]) (fun k => ev12 c m .emp .emp (.val (.int (k : Nat)))) (rngS (n := c) (by omega) (by simp [ev12])) (fun x hx => rfl) (fun x hx => by simp [ev12]) (fun x hx => rfl) rfl (by rw [List.length_range']; exact Nat.le_trans (show c ≤ 1000 by omega) line1000)
theorem q121 {c m : Nat} (hc : c ≤ 16) (hm : m ≠ 1) : evE G q12_1 (ev12 c m .emp .emp .emp) S = .ok (.lst ((bads c m).map sD)) (ev12 c m .emp .emp .emp) S := by
  have hl := bads_len (c := c) (m := m) hc
  have hl2 : ((bads c m).map sD).length ≤ 256 := by rw [List.length_map]; exact hl
  rw [bads2 hm] at hl2 ⊢
  refine comp2_G (own := [2, 3]) (own2 := [3]) (t := .name 2) (t2 := .name 3) (elt := .tup [.var 2, .var 3]) (fun k => D.int (k : Nat)) (fun _ k => D.int (k : Nat)) (fun i j => D.tup [.int (i : Nat), .int (j : Nat)]) (fun i => ev12 c m (.val (.int (i : Nat))) .emp .emp) (fun i j => ev12 c m (.val (.int (i : Nat))) (.val (.int (j : Nat))) .emp)
    (rngS (n := c) (by omega) (by simp [ev12])) (fun x hx => rfl) (fun x hx => ?_) (fun x hx y hy => rfl) (fun x hx y hy => by simp [ev12]) (fun x hx y hy => rfl) (fun x hx => rfl) rfl (Nat.le_trans hl2 (Nat.le_trans (by decide) line1000))
  have := (List.mem_range'_1.mp hx).2
  exact evI_rng2 (a := x + 1) (b := c) (by omega) (by omega) (by simp [ev12]) (by simp [ev12])
theorem w12a {q0 q1 : E} {c m L : D} (h : deq m (.int 1) = some true) (q : evE G q0 [.val c, .val m, .emp, .emp, .emp] S = .ok L [.val c, .val m, .emp, .emp, .emp] S) : endR (evSs G [.ifs (.cmp .eq (.bor 1) (.int 1)) [.ret q0] [], .ret q1] [.val c, .val m, .emp, .emp, .emp] S) = .ok L S := by
  simp [h, q]
theorem w12b {q0 q1 : E} {c m L : D} (h : deq m (.int 1) = some false) (q : evE G q1 [.val c, .val m, .emp, .emp, .emp] S = .ok L [.val c, .val m, .emp, .emp, .emp] S) : endR (evSs G [.ifs (.cmp .eq (.bor 1) (.int 1)) [.ret q0] [], .ret q1] [.val c, .val m, .emp, .emp, .emp] S) = .ok L S := by
  simp [h, q]
theorem w29a {q0 : E} {c m L : D} {r : List Eng.S} (h : deq m (.int 1) = some true) (q : evE G q0 [.val c, .val m, .emp, .emp, .emp, .emp] S = .ok L [.val c, .val m, .emp, .emp, .emp, .emp] S) : endR (evSs G (.ifs (.cmp .eq (.bor 1) (.int 1)) [.ret q0] [] :: r) [.val c, .val m, .emp, .emp, .emp, .emp] S) = .ok L S := by
  simp [h, q]
theorem w29b {q0 : E} {c m : D} (h : deq m (.int 1) = some false) : evS G (.ifs (.cmp .eq (.bor 1) (.int 1)) [.ret q0] []) [.val c, .val m, .emp, .emp, .emp, .emp] S = .ok .nx [.val c, .val m, .emp, .emp, .emp, .emp] S := by
  simp [h]
theorem w29c {c m : Slot} {o u v : Slot} {L : List D} : endR (evSs G [.ret (.var 3)] [c, m, o, .own L, u, v] S) = .ok (.lst L) S := by
  simp
end
section
variable {Γ : Nat → Gm} {k : Nat} {S : Sto}
theorem r_bad_lots (hR : Sem Pg Γ) {c m : Nat} (hc : c ≤ 16) : (Γ (k + 1)).call 12 [.int (c : Nat), .int (m : Nat)] S = .ok (.lst ((bads c m).map sD)) S := by
  rw [hR.step _ 12 f12 _ _ rfl, run_b b12 (ev12 c m .emp .emp .emp) rfl rfl rfl]
  generalize Γ k = G
  unfold b12
  by_cases h : m = 1
  · subst h
    exact w12a (deq_int.trans (congrArg some (decide_eq_true (by omega)))) (q120 hc)
  · exact w12b (deq_int.trans (congrArg some (decide_eq_false (by omega)))) (q121 hc h)
end
/-! the law's own bad cups -/
section
variable {G : Gm} {S : Sto}
def ev29 (c m : Nat) (o f u v : Slot) : Eng.Env := [.val (.int (c : Nat)), .val (.int (m : Nat)), o, f, u, v]
theorem q290 {c m : Nat} (hc : c ≤ 16) : evE G q29_0 (ev29 c m .emp .emp .emp .emp) S = .ok (.lst ((bads c 1).map sD)) (ev29 c m .emp .emp .emp .emp) S := by
  rw [bads1]
  refine comp_mapG (own := [4]) (t := .name 4) (elt := .tup [.var 4]) (fun k => D.int (k : Nat)) (fun k => D.tup [.int (k : Nat)]) (fun k => ev29 c m .emp .emp (.val (.int (k : Nat))) .emp) (rngS (n := c) (by omega) (by simp [ev29])) (fun x hx => rfl) (fun x hx => by simp [ev29]) (fun x hx => rfl) rfl (by rw [List.length_range']; exact Nat.le_trans (show c ≤ 1000 by omega) line1000)
theorem q291 {c m i : Nat} {f : Slot} (hc : c ≤ 16) (hi : i < c) : evE G q29_1 (ev29 c m (.val (.int (i : Nat))) f .emp .emp) S = .ok (.lst (((List.range' (i + 1) (c - (i + 1))).map fun j => [i, j]).map sD)) (ev29 c m (.val (.int (i : Nat))) f .emp .emp) S := by
  rw [List.map_map]
  exact comp_mapG (own := [5]) (t := .name 5) (elt := .tup [.var 2, .var 5]) (fun k => D.int (k : Nat)) (sD ∘ fun j => [i, j]) (fun k => ev29 c m (.val (.int (i : Nat))) f .emp (.val (.int (k : Nat)))) (evI_rng2 (a := i + 1) (b := c) (by omega) (by omega) (by simp [ev29]) (by simp [ev29])) (fun x hx => rfl) (fun x hx => by simp [ev29]; rfl) (fun x hx => rfl) rfl (by rw [List.length_range']; exact Nat.le_trans (show c - (i + 1) ≤ 1000 by omega) line1000)
theorem l29 {c m : Nat} (hc : c ≤ 16) (xs : List Nat) (acc : List (List Nat)) (o : Slot) (hm : ∀ i ∈ xs, i < c) (hz : acc.length + 16 * xs.length ≤ 1000) :
    ∃ o' : Slot, loopF (turnF (.name 2) (evSs G [.ext 3 (q29_1)])) (xs.map fun i => D.int (i : Nat)) (ev29 c m o (.own (acc.map sD)) .emp .emp) S = .ok .nx (ev29 c m o' (.own ((acc ++ xs.flatMap fun i => (List.range' (i + 1) (c - (i + 1))).map fun j => [i, j]).map sD)) .emp .emp) S := by
  obtain ⟨o', h⟩ := fr_fold (G := G) (t := .name 2) (b := [.ext 3 (q29_1)]) (S := S) (fun i : Nat => D.int (i : Nat)) (fun (acc : List (List Nat)) (o : Slot) => ev29 c m o (.own (acc.map sD)) .emp .emp) (fun acc i => acc ++ (List.range' (i + 1) (c - (i + 1))).map fun j => [i, j]) (fun xs acc => (∀ i ∈ xs, i < c) ∧ acc.length + 16 * xs.length ≤ 1000) (fun i xs acc o h => by
    obtain ⟨h1, h2⟩ := h
    rw [List.length_cons] at h2
    have hl : ((List.range' (i + 1) (c - (i + 1))).map fun j => [i, j]).length ≤ 16 := by rw [List.length_map, List.length_range']; omega
    refine ⟨⟨fun y hy => h1 y (List.mem_cons_of_mem _ hy), by rw [List.length_append]; omega⟩, ev29 c m (.val (.int (i : Nat))) (.own (acc.map sD)) .emp .emp, .val (.int (i : Nat)), rfl, ?_⟩
    refine evSs_one ((ext_own (i := 3) rfl (q291 hc (h1 i List.mem_cons_self)) (by rw [List.length_map, List.length_map]; omega)).trans ?_)
    rw [List.map_append]
    rfl) xs acc o ⟨hm, hz⟩
  refine ⟨o', ?_⟩
  rw [h, fold_app]
end
section
variable {Γ : Nat → Gm} {k : Nat} {S : Sto}
theorem r_lbads (hR : Sem Pg Γ) {c m : Nat} (hc : c ≤ 16) : (Γ (k + 1)).call 29 [.int (c : Nat), .int (m : Nat)] S = .ok (.lst ((bads c m).map sD)) S := by
  rw [hR.step _ 29 f29 _ _ rfl, run_b b29 (ev29 c m .emp .emp .emp .emp) rfl rfl rfl]
  generalize Γ k = G
  unfold b29
  by_cases h : m = 1
  · subst h
    exact w29a (deq_int.trans (congrArg some (decide_eq_true (by omega)))) (q290 hc)
  · have q1 : evS G (.ifs (.cmp .eq (.bor 1) (.int 1)) [.ret (q29_0)] []) (ev29 c m .emp .emp .emp .emp) S = .ok .nx (ev29 c m .emp .emp .emp .emp) S := w29b (deq_int.trans (congrArg some (decide_eq_false (by omega))))
    have q2 : evS G (.put 3 true (.lst [])) (ev29 c m .emp .emp .emp .emp) S = .ok .nx (ev29 c m .emp (.own []) .emp .emp) S := by simp [ev29]
    obtain ⟨o', h1⟩ := l29 (G := G) (S := S) (m := m) hc (List.range' 0 c) [] .emp (fun i hi => by have := (List.mem_range'_1.mp hi).2; omega) (by rw [List.length_range', List.length_nil]; omega)
    have q3 : evS G l29_2 (ev29 c m .emp (.own []) .emp .emp) S = .ok .nx (ev29 c m o' (.own ((bads c m).map sD)) .emp .emp) S := by
      unfold l29_2
      rw [evS_fr]
      have hi : evI G (.rng [.var 0]) (ev29 c m .emp (.own []) .emp .emp) S = .ok ((List.range' 0 c).map fun k => D.int (k : Nat)) (ev29 c m .emp (.own []) .emp .emp) S := rngS (by omega) (by simp [ev29])
      rw [hi]
      refine h1.trans ?_
      rw [List.nil_append]
      unfold bads
      rw [if_neg h]
    rw [evSs_step q1, evSs_step q2, evSs_step q3]
    exact w29c
/-! checks -/
theorem pl_sD {n : Nat} {l : List Nat} (h : l.length ≤ 1000) : pl (n + 1) (sD l) = true := by
  show ((il l).all (pl n) && decide ((il l).length ≤ 1000)) = true
  rw [il_len, decide_eq_true h, Bool.and_true]
  exact List.all_eq_true.mpr fun x hx => by
    obtain ⟨y, _, rfl⟩ := List.mem_map.mp hx
    exact pl_int
theorem pl_mapT {n : Nat} {α : Type} {f : α → D} {l : List α} (h : l.length ≤ 1000) (hx : ∀ x ∈ l, pl n (f x) = true) : pl (n + 1) (.tup (l.map f)) = true := by
  show ((l.map f).all (pl n) && decide ((l.map f).length ≤ 1000)) = true
  rw [List.length_map, decide_eq_true h, Bool.and_true]
  exact List.all_eq_true.mpr fun x hx' => by
    obtain ⟨y, hy, rfl⟩ := List.mem_map.mp hx'
    exact hx y hy
theorem okP.pl {cups days : Nat} {p : Pl} (h : okP cups days p) (hc : cups ≤ 16) : Law.pl 3 (pD p) = true := by
  obtain ⟨h1, h2, h3, h4⟩ := h
  refine pl_mapT (by omega) fun m hm => ?_
  obtain ⟨h5, h6⟩ := h4 m hm
  refine pl_mapT (n := 1) (f := sD) (by omega) fun r hr => ?_
  have := lot_len (h6 r hr)
  exact pl_sD (by omega)
theorem szd_map {α : Type} {f : α → D} {l : List α} {a b : Int} : szd (.tup (l.map f)) a b = (decide (a ≤ (l.length : Nat)) && decide (((l.length : Nat) : Int) ≤ b)) := by
  show (decide (a ≤ ((l.map f).length : Nat)) && decide ((((l.map f).length : Nat) : Int) ≤ b)) = _
  rw [List.length_map]
theorem okP.planD {cups days : Nat} {p : Pl} (h : okP cups days p) : Law.planD cups (pD p) = true := by
  obtain ⟨h1, h2, h3, h4⟩ := h
  show (decide ((p.map mD).length ≤ 5) && (p.map mD).all fun m => szd m 1 3 && mouseD cups (hdl (p.map mD)) m) = true
  rw [List.length_map, decide_eq_true h1, Bool.true_and]
  refine List.all_eq_true.mpr fun x hx => ?_
  obtain ⟨m, hm, rfl⟩ := List.mem_map.mp hx
  obtain ⟨h5, h6⟩ := h4 m hm
  have hh : hdl (p.map mD) = (days : Nat) := by
    cases p with
    | nil => cases hm
    | cons y r =>
      show (((y.map sD).length : Nat) : Int) = _
      rw [List.length_map, (h4 y List.mem_cons_self).1]
  rw [hh]
  have hr : (m.map sD).all (lotD cups) = true := List.all_eq_true.mpr fun x hx => by
    obtain ⟨r, hr, rfl⟩ := List.mem_map.mp hx
    rw [lot_sD]
    exact h6 r hr
  show (szd (.tup (m.map sD)) 1 3 && (szd (.tup (m.map sD)) (days : Nat) (days : Nat) && (m.map sD).all (lotD cups))) = true
  rw [hr, szd_map, szd_map, h5, decide_eq_true (by omega), decide_eq_true (by omega), decide_eq_true (by omega)]
  rfl
theorem w8 {G : Gm} {c p : D} (h1 : G.call 1 [c, .int 2, .int 16] S = .ok (.bl true) S) (h2 : G.call 7 [c, p] S = .ok (.bl true) S) : endR (evSs G b8 [.val c, .val p] S) = .ok .non S := by
  simp [b8, h1, h2]
theorem r_check_plan (hR : Sem Pg Γ) {cups : Nat} {t : D} (h1 : 2 ≤ cups) (h2 : cups ≤ 16) (hp : Law.pl 3 t = true) (ht : planD cups t = true) : (Γ (k + 7)).call 8 [.int (cups : Nat), t] S = .ok .non S := by
  rw [hR.step _ 8 f8 _ _ rfl, run_b b8 [.val (.int (cups : Nat)), .val t] rfl rfl rfl]
  have := r_is_plan (k := k) (n := 0) (S := S) hR (cups := cups) hp
  rw [ht] at this
  exact w8 (within_nat (k := k + 4) hR (a := 2) (b := 16) h1 h2) this
theorem w13 {G : Gm} {c p m : D} (h1 : G.call 8 [c, p] S = .ok .non S) (h2 : G.call 1 [m, .int 1, .int 2] S = .ok (.bl true) S) : endR (evSs G b13 [.val c, .val p, .val m] S) = .ok .non S := by
  simp [b13, h1, h2]
theorem r_check_bad (hR : Sem Pg Γ) {cups many : Nat} {t : D} (h1 : 2 ≤ cups) (h2 : cups ≤ 16) (hp : Law.pl 3 t = true) (ht : planD cups t = true) (h3 : 1 ≤ many) (h4 : many ≤ 2) : (Γ (k + 8)).call 13 [.int (cups : Nat), t, .int (many : Nat)] S = .ok .non S := by
  rw [hR.step _ 13 f13 _ _ rfl, run_b b13 [.val (.int (cups : Nat)), .val t, .val (.int (many : Nat))] rfl rfl rfl]
  exact w13 (r_check_plan hR h1 h2 hp ht) (within_nat (k := k + 5) hR (a := 1) (b := 2) h3 h4)
end
end Law

set_option maxHeartbeats 4000000
/-! mice: the first two alike; lots seen so -/
namespace Law
open PySem Eng PyProof.Rows
def flO {α : Type} (R : α → D) (o : Option α) : Fl := match o with
  | some y => .rt (R y)
  | none => .nx
theorem loop_findG {α : Type} (F : D → M Fl) (p : α → Bool) (g R : α → D) (I : Eng.Env → Prop) (S : Sto) : ∀ (xs : List α) (e : Eng.Env), I e → (∀ x ∈ xs, ∀ e, I e → ∃ e2, F (g x) e S = .ok (if p x then .rt (R x) else .nx) e2 S ∧ I e2) →
    ∃ e2, loopF F (xs.map g) e S = .ok (flO R (xs.find? p)) e2 S ∧ I e2
  | [], e, h, _ => ⟨e, rfl, h⟩
  | x :: xs, e, h, hs => by
    obtain ⟨e2, h1, h2⟩ := hs x List.mem_cons_self e h
    cases hp : p x with
    | true =>
      rw [hp] at h1
      refine ⟨e2, ?_, h2⟩
      show M.bind (F (g x)) _ e S = _
      unfold M.bind
      rw [h1, List.find?_cons, hp]
      rfl
    | false =>
      rw [hp] at h1
      obtain ⟨e3, h3, h4⟩ := loop_findG F p g R I S xs e2 h2 fun y hy => hs y (List.mem_cons_of_mem _ hy)
      refine ⟨e3, ?_, h4⟩
      show M.bind (F (g x)) _ e S = _
      unfold M.bind
      rw [h1, List.find?_cons, hp]
      exact h3
def fdA (f : List Nat → List (Option Nat)) (x : List Nat) (r : List (List Nat)) : Option (List Nat) := r.find? fun y => decide (f y = f x)
theorem alk_cons {f : List Nat → List (Option Nat)} {x : List Nat} {r : List (List Nat)} : alk f (x :: r) = match fdA f x r with
  | some y => some (x, y)
  | none => alk f r := rfl
def flP (R : List Nat → List Nat → D) (o : Option (List Nat × List Nat)) : Fl := match o with
  | some y => .rt (R y.1 y.2)
  | none => .nx
theorem drop_next {α : Type} {l r : List α} {x : α} {i : Nat} (h : l.drop i = x :: r) : l.drop (i + 1) = r := by
  have := congrArg (List.drop 1) h
  rw [List.drop_drop] at this
  exact this
theorem loop_alk (F : D → M Fl) (f : List Nat → List (Option Nat)) (R : List Nat → List Nat → D) (I : Eng.Env → Prop) (S : Sto) (lots : List (List Nat)) (hs : ∀ (i : Nat) (x : List Nat) (r : List (List Nat)) (e : Eng.Env), lots.drop i = x :: r → I e → ∃ e2, F (.tup [.int (i : Nat), sD x]) e S = .ok (flO (R x) (fdA f x r)) e2 S ∧ I e2) :
    ∀ (xs : List (List Nat)) (a : Nat) (e : Eng.Env), lots.drop a = xs → I e → ∃ e2, loopF F ((enP a xs).map fun p => D.tup [.int (p.1 : Nat), sD p.2]) e S = .ok (flP R (alk f xs)) e2 S ∧ I e2
  | [], a, e, _, h => ⟨e, rfl, h⟩
  | x :: xs, a, e, hd, h => by
    obtain ⟨e2, h1, h2⟩ := hs a x xs e hd h
    rw [alk_cons]
    cases hf : fdA f x xs with
    | some y =>
      rw [hf] at h1
      refine ⟨e2, ?_, h2⟩
      show M.bind (F (.tup [.int (a : Nat), sD x])) _ e S = _
      unfold M.bind
      rw [h1]
      rfl
    | none =>
      rw [hf] at h1
      obtain ⟨e3, h3, h4⟩ := loop_alk F f R I S lots hs xs (a + 1) e2 (drop_next hd) h2
      refine ⟨e3, ?_, h4⟩
      show M.bind (F (.tup [.int (a : Nat), sD x])) _ e S = _
      unfold M.bind
      rw [h1]
      exact h3
section
variable {G : Gm} {S : Sto}
def ev14 (c p m : D) (a o r s l : Slot) : Eng.Env := [.val c, .val p, .val m, a, o, r, s, l]
def aD (x y : List Nat) : D := .tup [.str ("alike" : PySem.Str), sD x, sD y]
theorem w14i {c p m : D} {x y : List Nat} {f : List Nat → List (Option Nat)} {a l : Slot} (hc : G.call 10 [p, sD y] S = .ok (oL (f y)) S) : evSs G [.ifs (.cmp .eq (.call 10 [.var 1, .var 5]) (.bor 6)) [.ret (.tup [.cst (.str ("alike" : PySem.Str)), .var 4, .var 5])] []] (ev14 c p m a (.val (sD x)) (.val (sD y)) (.val (oL (f x))) l) S = .ok (if decide (f y = f x) then .rt (aD x y) else .nx) (ev14 c p m a (.val (sD x)) (.val (sD y)) (.val (oL (f x))) l) S := by
  have hq := deq_oL (f y) (f x)
  unfold aD
  generalize decide (f y = f x) = b at hq ⊢
  generalize sD y = sy at hc ⊢
  generalize sD x = sx at hc ⊢
  generalize oL (f y) = oy at hc hq ⊢
  generalize oL (f x) = ox at hc hq ⊢
  cases b <;> simp [ev14, hc, hq]
theorem w14s {c p m : D} {x : List Nat} {i : Nat} {lots : List (List Nat)} {r s : Slot} (hl : lots.length ≤ 1000) (hi : i ≤ 1000) : evI G (.seq (.slc (.bor 7) (some (.bin .add (.bor 3) (.int 1))) none)) (ev14 c p m (.val (.int (i : Nat))) (.val (sD x)) r s (.val (.lst (lots.map sD)))) S = .ok ((lots.drop (i + 1)).map sD) (ev14 c p m (.val (.int (i : Nat))) (.val (sD x)) r s (.val (.lst (lots.map sD)))) S := by
  have hs : slcO (.lst (lots.map sD)) (some ((i : Int) + 1)) none = some (.lst ((lots.drop (i + 1)).map sD)) := by
    show some (D.lst (Eng.cutD (lots.map sD) (some ((i + 1 : Nat) : Int)) none)) = _
    rw [cut_drop, List.map_drop]
  generalize lots.map sD = L at hs ⊢
  generalize sD x = sx
  simp [ev14, hs]
theorem w14 {c p m : D} {lots : List (List Nat)} {f : List Nat → List (Option Nat)} (hl : lots.length ≤ 1000) (hc : ∀ y ∈ lots, G.call 10 [p, sD y] S = .ok (oL (f y)) S) :
    ∃ e2, evS G l14_1 (ev14 c p m .emp .emp .emp .emp (.val (.lst (lots.map sD)))) S = .ok (flP aD (alk f lots)) e2 S ∧ ∃ a o r s, e2 = ev14 c p m a o r s (.val (.lst (lots.map sD))) := by
  have hi : evI G (.enum [.var 7]) (ev14 c p m .emp .emp .emp .emp (.val (.lst (lots.map sD)))) S = .ok ((enP 0 lots).map fun p => D.tup [.int (p.1 : Nat), sD p.2]) (ev14 c p m .emp .emp .emp .emp (.val (.lst (lots.map sD)))) S := by
    have hd : denum [.lst (lots.map sD)] = some ((enP 0 lots).map fun p => D.tup [.int (p.1 : Nat), sD p.2]) := by
      show some (enumD 0 (lots.map sD)) = _
      rw [enum_enP]
    generalize lots.map sD = x at hd ⊢
    simp [ev14, hd]
  unfold l14_1
  rw [evS_fr, hi]
  refine loop_alk _ f aD (fun e => ∃ a o r s, e = ev14 c p m a o r s (.val (.lst (lots.map sD)))) S lots (fun i x r e hd ⟨a, o, r', s, he⟩ => ?_) lots 0 _ rfl ⟨_, _, _, _, rfl⟩
  subst he
  have hxm : x ∈ lots := List.mem_of_mem_drop (by rw [hd]; exact List.mem_cons_self)
  have hil : i < lots.length := by
    rcases Nat.lt_or_ge i lots.length with h | h
    · exact h
    · rw [List.drop_of_length_le h] at hd; cases hd
  have hr : lots.drop (i + 1) = r := by
    exact drop_next hd
  rw [turnF_at (e2 := ev14 c p m (.val (.int (i : Nat))) (.val (sD x)) r' s (.val (.lst (lots.map sD)))) rfl]
  have q1 : evS G (.put 6 false (.call 10 [.var 1, .var 4])) (ev14 c p m (.val (.int (i : Nat))) (.val (sD x)) r' s (.val (.lst (lots.map sD)))) S = .ok .nx (ev14 c p m (.val (.int (i : Nat))) (.val (sD x)) r' (.val (oL (f x))) (.val (.lst (lots.map sD)))) S := by
    have h1 := hc x hxm
    have h2 : evE G (.call 10 [.var 1, .var 4]) (ev14 c p m (.val (.int (i : Nat))) (.val (sD x)) r' s (.val (.lst (lots.map sD)))) S = .ok (oL (f x)) (ev14 c p m (.val (.int (i : Nat))) (.val (sD x)) r' s (.val (.lst (lots.map sD)))) S := by
      generalize sD x = sx at h1 ⊢
      generalize oL (f x) = ox at h1 ⊢
      generalize lots.map sD = L
      simp [ev14, h1]
    exact put_v (i := 6) h2
  rw [evSs_step q1]
  obtain ⟨e2, h2, r2, h3⟩ := loop_findG (turnF (.name 5) (evSs G [.ifs (.cmp .eq (.call 10 [.var 1, .var 5]) (.bor 6)) [.ret (.tup [.cst (.str ("alike" : PySem.Str)), .var 4, .var 5])] []])) (fun y => decide (f y = f x)) sD (aD x) (fun e => ∃ r2, e = ev14 c p m (.val (.int (i : Nat))) (.val (sD x)) r2 (.val (oL (f x))) (.val (.lst (lots.map sD)))) S r (ev14 c p m (.val (.int (i : Nat))) (.val (sD x)) r' (.val (oL (f x))) (.val (.lst (lots.map sD)))) ⟨_, rfl⟩ (fun y hy e ⟨r2, he⟩ => by
    subst he
    refine ⟨ev14 c p m (.val (.int (i : Nat))) (.val (sD x)) (.val (sD y)) (.val (oL (f x))) (.val (.lst (lots.map sD))), (turnF_at rfl).trans (w14i (hc y ?_)), _, rfl⟩
    rw [← hr] at hy
    exact List.mem_of_mem_drop hy)
  subst h3
  refine ⟨ev14 c p m (.val (.int (i : Nat))) (.val (sD x)) r2 (.val (oL (f x))) (.val (.lst (lots.map sD))), ?_, _, _, _, _, rfl⟩
  have q2 : evS G l14_0 (ev14 c p m (.val (.int (i : Nat))) (.val (sD x)) r' (.val (oL (f x))) (.val (.lst (lots.map sD)))) S = .ok (flO (aD x) (fdA f x r)) (ev14 c p m (.val (.int (i : Nat))) (.val (sD x)) r2 (.val (oL (f x))) (.val (.lst (lots.map sD)))) S := by
    unfold l14_0
    rw [evS_fr, w14s hl (by omega), hr, Res.bind_ok]
    exact h2
  rw [evSs_cons, q2]
  cases fdA f x r <;> rfl
def tellD (o : Option (List Nat × List Nat)) : D := match o with
  | some y => aD y.1 y.2
  | none => .tup [.str ("tells" : PySem.Str)]
end
section
variable {Γ : Nat → Gm} {k : Nat} {S : Sto}
/-- what a plan must be -/
structure Pk (cups days many : Nat) (p : Pl) : Prop where
  p : okP cups days p
  c1 : 2 ≤ cups
  c2 : cups ≤ 16
  m1 : 1 ≤ many
  m2 : many ≤ 2
theorem okP.len {cups days : Nat} {p : Pl} (h : okP cups days p) : p.length ≤ 1000 ∧ ∀ m ∈ p, m.length ≤ 1000 := by
  obtain ⟨h1, h2, h3, h4⟩ := h
  refine ⟨by omega, fun m hm => ?_⟩
  have := (h4 m hm).1
  omega
theorem bads_mem {c m : Nat} (hc : c ≤ 16) {l : List Nat} (h : l ∈ bads c m) : l.length ≤ 2 ∧ (∀ x ∈ l, x < c) ∧ l.Pairwise (· < ·) ∧ 1 ≤ l.length := by
  unfold bads at h
  split at h
  · obtain ⟨x, hx, rfl⟩ := List.mem_map.mp h
    have := (List.mem_range'_1.mp hx).2
    refine ⟨by simp, fun y hy => ?_, by simp, by simp⟩
    rw [List.mem_singleton.mp hy]; omega
  · obtain ⟨i, hi, h⟩ := List.mem_flatMap.mp h
    obtain ⟨j, hj, rfl⟩ := List.mem_map.mp h
    have h1 := (List.mem_range'_1.mp hi)
    have h2 := (List.mem_range'_1.mp hj)
    refine ⟨by simp, fun y hy => ?_, by simp; omega, by simp⟩
    simp only [List.mem_cons, List.not_mem_nil, or_false] at hy
    rcases hy with e | e <;> omega
theorem r_plan_told (hR : Sem Pg Γ) {cups days many : Nat} {p : Pl} (h : Pk cups days many p) : (Γ (k + 9)).call 14 [.int (cups : Nat), pD p, .int (many : Nat)] S = .ok (tellD (alk (seen p) (bads cups many))) S := by
  rw [hR.step _ 14 f14 _ _ rfl, run_b b14 (ev14 (.int (cups : Nat)) (pD p) (.int (many : Nat)) .emp .emp .emp .emp .emp) rfl rfl rfl]
  have c1 := r_check_bad (k := k) (S := S) hR h.c1 h.c2 (h.p.pl h.c2) h.p.planD h.m1 h.m2
  have c2 := r_bad_lots (k := k + 7) (S := S) hR (c := cups) (m := many) h.c2
  have c3 : ∀ y ∈ bads cups many, (Γ (k + 8)).call 10 [pD p, sD y] S = .ok (oL (seen p y)) S := fun y hy => r_raw_seen (k := k + 6) hR h.p.len.1 h.p.len.2 (Nat.le_trans (bads_mem h.c2 hy).1 (by decide))
  have hb := bads_len (c := cups) (m := many) h.c2
  generalize Γ (k + 8) = G at c1 c2 c3
  obtain ⟨e2, h1, a, o, r, s, h2⟩ := w14 (G := G) (S := S) (c := .int (cups : Nat)) (p := pD p) (m := .int (many : Nat)) (lots := bads cups many) (f := seen p) (by omega) c3
  subst h2
  generalize hL : (bads cups many).map sD = L at *
  generalize alk (seen p) (bads cups many) = A at *
  generalize pD p = pd at *
  have q1 : evS G (.expr (.call 13 [.var 0, .var 1, .var 2])) (ev14 (.int (cups : Nat)) pd (.int (many : Nat)) .emp .emp .emp .emp .emp) S = .ok .nx (ev14 (.int (cups : Nat)) pd (.int (many : Nat)) .emp .emp .emp .emp .emp) S := by
    simp [ev14, c1]
  have q2 : evS G (.put 7 false (.call 12 [.var 0, .var 2])) (ev14 (.int (cups : Nat)) pd (.int (many : Nat)) .emp .emp .emp .emp .emp) S = .ok .nx (ev14 (.int (cups : Nat)) pd (.int (many : Nat)) .emp .emp .emp .emp (.val (.lst L))) S := by
    simp [ev14, c2]
  unfold b14
  rw [evSs_step q1, evSs_step q2, evSs_cons, h1]
  cases A with
  | some y => rfl
  | none =>
    show endR (evSs G [.ret (.tup [.cst (.str ("tells" : PySem.Str))])] _ S) = _
    unfold tellD ev14
    simp
end
end Law

set_option maxHeartbeats 4000000
/-! mice: the law's own two alike; lots seen so -/
namespace Law
open PySem Eng PyProof.Rows
theorem drop_rng {α : Type} (d : α) (l : List α) (i : Nat) : l.drop i = (List.range' i (l.length - i)).map fun j => l.getD j d := by
  apply List.ext_getElem
  · simp
  · intro j h1 h2
    simp at h1 h2
    simp
    rw [List.getElem?_eq_getElem (by omega)]
    rfl
section
variable {G : Gm} {S : Sto}
def ev30 (c p m : D) (s o q n b x : Slot) : Eng.Env := [.val c, .val p, .val m, s, o, q, n, b, x]
def prD (x y : List Nat) : D := .tup [sD x, sD y]
theorem q300 {c p m : D} {lots : List (List Nat)} {f : List Nat → List (Option Nat)} {n : Slot} (hl : lots.length ≤ 1000) (hc : ∀ y ∈ lots, G.call 28 [p, sD y] S = .ok (oL (f y)) S) : evE G q30_0 (ev30 c p m .emp .emp .emp n (.val (.lst (lots.map sD))) .emp) S = .ok (.lst (lots.map fun l => oL (f l))) (ev30 c p m .emp .emp .emp n (.val (.lst (lots.map sD))) .emp) S := by
  have hi : evI G (.seq (.bor 7)) (ev30 c p m .emp .emp .emp n (.val (.lst (lots.map sD))) .emp) S = .ok (lots.map sD) (ev30 c p m .emp .emp .emp n (.val (.lst (lots.map sD))) .emp) S := by
    generalize lots.map sD = L
    simp [ev30]
  refine comp_mapG (own := [8]) (t := .name 8) (elt := .call 28 [.var 1, .var 8]) sD (fun l => oL (f l)) (fun l => ev30 c p m .emp .emp .emp n (.val (.lst (lots.map sD))) (.val (sD l))) hi (fun x hx => rfl) (fun x hx => ?_) (fun x hx => rfl) rfl (Nat.le_trans hl line1000)
  have := hc x hx
  generalize sD x = sx at this ⊢
  generalize lots.map sD = L
  simp [ev30, this]
theorem at_nat {l : List D} {j : Nat} {x : D} (h : l[j]? = some x) : L2.atI l (j : Nat) = some x := by
  rw [atI_nn (by omega), Int.toNat_natCast]
  exact h
theorem w30i {c p m sx sy ox oy : D} {j i : Nat} {b : Bool} {L6 L7 : List D} {x : Slot} (h1 : L6[j]? = some oy) (h2 : L6[i]? = some ox) (h3 : L7[j]? = some sy) (hq : deq oy ox = some b) :
    evSs G [.ifs (.cmp .eq (.idx (.bor 6) (.bor 5)) (.idx (.bor 6) (.bor 3))) [.ret (.tup [.var 4, .idx (.bor 7) (.bor 5)])] []] (ev30 c p m (.val (.int (i : Nat))) (.val sx) (.val (.int (j : Nat))) (.val (.lst L6)) (.val (.lst L7)) x) S = .ok (if b then .rt (.tup [sx, sy]) else .nx) (ev30 c p m (.val (.int (i : Nat))) (.val sx) (.val (.int (j : Nat))) (.val (.lst L6)) (.val (.lst L7)) x) S := by
  have a1 := at_nat h1
  have a2 := at_nat h2
  have a3 := at_nat h3
  cases b <;> simp [ev30, a1, a2, a3, hq]
theorem w30 {c p m : D} {lots : List (List Nat)} {f : List Nat → List (Option Nat)} (hl : lots.length ≤ 1000) :
    ∃ e2, evS G l30_2 (ev30 c p m .emp .emp .emp (.val (.lst (lots.map fun l => oL (f l)))) (.val (.lst (lots.map sD))) .emp) S = .ok (flP prD (alk f lots)) e2 S := by
  have hi : evI G (.enum [.var 7]) (ev30 c p m .emp .emp .emp (.val (.lst (lots.map fun l => oL (f l)))) (.val (.lst (lots.map sD))) .emp) S = .ok ((enP 0 lots).map fun p => D.tup [.int (p.1 : Nat), sD p.2]) (ev30 c p m .emp .emp .emp (.val (.lst (lots.map fun l => oL (f l)))) (.val (.lst (lots.map sD))) .emp) S := by
    have hd : denum [.lst (lots.map sD)] = some ((enP 0 lots).map fun p => D.tup [.int (p.1 : Nat), sD p.2]) := by
      show some (enumD 0 (lots.map sD)) = _
      rw [enum_enP]
    generalize lots.map sD = x at hd ⊢
    simp [ev30, hd]
  unfold l30_2
  rw [evS_fr, hi, Res.bind_ok]
  obtain ⟨e2, h1, _⟩ := loop_alk (turnF (.tup [.name 3, .name 4]) (evSs G [l30_1])) f prD (fun e => ∃ a o r, e = ev30 c p m a o r (.val (.lst (lots.map fun l => oL (f l)))) (.val (.lst (lots.map sD))) .emp) S lots (fun i x r e hd ⟨a, o, r', he⟩ => by
    subst he
    have hil : i < lots.length := by
      rcases Nat.lt_or_ge i lots.length with h | h
      · exact h
      · rw [List.drop_of_length_le h] at hd; cases hd
    have hx : lots[i]? = some x := by
      have := congrArg (fun l : List (List Nat) => l[0]?) hd
      simpa using this
    have hr : lots.drop (i + 1) = r := drop_next hd
    rw [turnF_at (e2 := ev30 c p m (.val (.int (i : Nat))) (.val (sD x)) r' (.val (.lst (lots.map fun l => oL (f l)))) (.val (.lst (lots.map sD))) .emp) rfl]
    have hj : evI G (.rng [.bin .add (.bor 3) (.int 1), .blt .len [.bor 7]]) (ev30 c p m (.val (.int (i : Nat))) (.val (sD x)) r' (.val (.lst (lots.map fun l => oL (f l)))) (.val (.lst (lots.map sD))) .emp) S = .ok ((List.range' (i + 1) (lots.length - (i + 1))).map fun k => D.int (k : Nat)) (ev30 c p m (.val (.int (i : Nat))) (.val (sD x)) r' (.val (.lst (lots.map fun l => oL (f l)))) (.val (.lst (lots.map sD))) .emp) S := by
      have hz : ((lots.map sD).length : Nat) = lots.length := List.length_map _
      refine evI_rng2 (a := i + 1) (b := lots.length) (by omega) (by omega) (by simp [ev30]) ?_
      rw [← hz]
      generalize lots.map sD = L
      simp [ev30]
    obtain ⟨e2, h2, r2, h3⟩ := loop_findG (turnF (.name 5) (evSs G [.ifs (.cmp .eq (.idx (.bor 6) (.bor 5)) (.idx (.bor 6) (.bor 3))) [.ret (.tup [.var 4, .idx (.bor 7) (.bor 5)])] []])) (fun j => decide (f (lots.getD j []) = f x)) (fun j : Nat => D.int (j : Nat)) (fun j => prD x (lots.getD j [])) (fun e => ∃ r2, e = ev30 c p m (.val (.int (i : Nat))) (.val (sD x)) r2 (.val (.lst (lots.map fun l => oL (f l)))) (.val (.lst (lots.map sD))) .emp) S (List.range' (i + 1) (lots.length - (i + 1))) (ev30 c p m (.val (.int (i : Nat))) (.val (sD x)) r' (.val (.lst (lots.map fun l => oL (f l)))) (.val (.lst (lots.map sD))) .emp) ⟨_, rfl⟩ (fun j hj e ⟨r2, he⟩ => by
      subst he
      have hjl := (List.mem_range'_1.mp hj).2
      have hg : lots[j]? = some (lots.getD j []) := by
        rw [List.getElem?_eq_getElem (by omega), List.getD_eq_getElem?_getD, List.getElem?_eq_getElem (by omega)]
        rfl
      refine ⟨ev30 c p m (.val (.int (i : Nat))) (.val (sD x)) (.val (.int (j : Nat))) (.val (.lst (lots.map fun l => oL (f l)))) (.val (.lst (lots.map sD))) .emp, (turnF_at rfl).trans (w30i (oy := oL (f (lots.getD j []))) (ox := oL (f x)) ?_ ?_ ?_ (deq_oL _ _)), _, rfl⟩
      · rw [List.getElem?_map, hg]; rfl
      · rw [List.getElem?_map, hx]; rfl
      · rw [List.getElem?_map, hg]; rfl)
    subst h3
    refine ⟨ev30 c p m (.val (.int (i : Nat))) (.val (sD x)) r2 (.val (.lst (lots.map fun l => oL (f l)))) (.val (.lst (lots.map sD))) .emp, ?_, _, _, _, rfl⟩
    have q2 : evS G l30_1 (ev30 c p m (.val (.int (i : Nat))) (.val (sD x)) r' (.val (.lst (lots.map fun l => oL (f l)))) (.val (.lst (lots.map sD))) .emp) S = .ok (flO (prD x) (fdA f x r)) (ev30 c p m (.val (.int (i : Nat))) (.val (sD x)) r2 (.val (.lst (lots.map fun l => oL (f l)))) (.val (.lst (lots.map sD))) .emp) S := by
      unfold l30_1
      rw [evS_fr, hj, Res.bind_ok, h2]
      refine congrArg (fun z => Res.ok z _ S) ?_
      rw [← hr, drop_rng []]
      unfold fdA
      rw [List.find?_map]
      show flO _ ((List.range' (i + 1) (lots.length - (i + 1))).find? fun j => decide (f (lots.getD j []) = f x)) = flO (prD x) (((List.range' (i + 1) (lots.length - (i + 1))).find? fun j => decide (f (lots.getD j []) = f x)).map fun j => lots.getD j [])
      cases (List.range' (i + 1) (lots.length - (i + 1))).find? fun j => decide (f (lots.getD j []) = f x) <;> rfl
    rw [evSs_cons, q2]
    cases fdA f x r <;> rfl) lots 0 _ rfl ⟨_, _, _, rfl⟩
  exact ⟨e2, h1⟩
def pairD (o : Option (List Nat × List Nat)) : D := match o with
  | some y => prD y.1 y.2
  | none => .non
end
section
variable {Γ : Nat → Gm} {k : Nat} {S : Sto}
theorem r_alike (hR : Sem Pg Γ) {cups many : Nat} {p : Pl} (hc : cups ≤ 16) (hp : p.length ≤ 1000) (hm : ∀ m ∈ p, m.length ≤ 1000) : (Γ (k + 2)).call 30 [.int (cups : Nat), pD p, .int (many : Nat)] S = .ok (pairD (alk (seen p) (bads cups many))) S := by
  rw [hR.step _ 30 f30 _ _ rfl, run_b b30 (ev30 (.int (cups : Nat)) (pD p) (.int (many : Nat)) .emp .emp .emp .emp .emp .emp) rfl rfl rfl]
  have c2 := r_lbads (k := k) (S := S) hR (c := cups) (m := many) hc
  have c3 : ∀ y ∈ bads cups many, (Γ (k + 1)).call 28 [pD p, sD y] S = .ok (oL (seen p y)) S := fun y hy => r_lseen (k := k) hR hp hm (Nat.le_trans (bads_mem hc hy).1 (by decide))
  have hb := bads_len (c := cups) (m := many) hc
  generalize Γ (k + 1) = G at c2 c3
  have q3 := q300 (G := G) (S := S) (c := .int (cups : Nat)) (p := pD p) (m := .int (many : Nat)) (lots := bads cups many) (f := seen p) (n := .val (.lst [])) (by omega) c3
  obtain ⟨e2, h1⟩ := w30 (G := G) (S := S) (c := .int (cups : Nat)) (p := pD p) (m := .int (many : Nat)) (lots := bads cups many) (f := seen p) (by omega)
  generalize hL : (bads cups many).map sD = L at *
  generalize alk (seen p) (bads cups many) = A at *
  generalize (bads cups many).map (fun l => oL (seen p l)) = L6 at *
  generalize pD p = pd at *
  have q1 : evS G (.par (7, false) (6, false) (.call 29 [.var 0, .var 2]) (.lst [])) (ev30 (.int (cups : Nat)) pd (.int (many : Nat)) .emp .emp .emp .emp .emp .emp) S = .ok .nx (ev30 (.int (cups : Nat)) pd (.int (many : Nat)) .emp .emp .emp (.val (.lst [])) (.val (.lst L)) .emp) S := by
    simp [ev30, c2]
  unfold b30
  rw [evSs_step q1, evSs_step (put_v (i := 6) q3)]
  refine (congrArg endR (evSs_cons ..)).trans ?_
  refine (congrArg (fun z => endR (thenR z _)) h1).trans ?_
  cases A with
  | some y => rfl
  | none =>
    show endR (evSs G [.ret .non] _ S) = _
    simp [pairD]
end
end Law

set_option maxHeartbeats 4000000
/-! mice: lots seen so; the written plan; what is told -/
namespace Law
open PySem Eng PyProof.Rows
section
variable {G : Gm} {S : Sto}
theorem w11 {c p b L : D} {n : Nat} (h1 : G.call 8 [c, p] S = .ok .non S) (h2 : G.call 5 [b, c] S = .ok (.bl true) S) (h3 : dblt .len [b] = some (.int (n : Nat))) (n1 : 1 ≤ n) (n2 : n ≤ 2) (h4 : G.call 10 [p, b] S = .ok L S) : endR (evSs G b11 [.val c, .val p, .val b] S) = .ok L S := by
  have k1 : (1 : Int) ≤ n := by omega
  have k2 : (n : Int) ≤ 2 := by omega
  simp [b11, h1, h2, h3, k1, k2, h4]
theorem lot_bads {c m : Nat} (hc : c ≤ 16) {l : List Nat} (h : l ∈ bads c m) : lotB c l = true := by
  obtain ⟨h1, h2, h3, h4⟩ := bads_mem hc h
  unfold lotB
  rw [ris_sorted h3, Bool.and_true]
  exact List.all_eq_true.mpr fun x hx => decide_eq_true (h2 x hx)
def ev15 (c p m s : D) (d l y : Slot) : Eng.Env := [.val c, .val p, .val m, .val s, d, l, y]
/-- what may be seen -/
def okS (d0 : Nat) (s : List (Option Nat)) : Prop := ∀ o ∈ s, ∀ n, o = some n → n < d0
theorem q150 {c p m : D} {s : List (Option Nat)} {d0 : Nat} (hl : s.length ≤ 1000) (ho : okS d0 s) (hc : ∀ n, n < d0 → G.call 1 [.int (n : Nat), .int 0, .int ((d0 : Int) - 1)] S = .ok (.bl true) S) : evE G q15_0 (ev15 c p m (oL s) (.val (.int (d0 : Nat))) .emp .emp) S = .ok (.lst (s.map fun _ => .bl true)) (ev15 c p m (oL s) (.val (.int (d0 : Nat))) .emp .emp) S := by
  have hi : evI G (.seq (.bor 3)) (ev15 c p m (oL s) (.val (.int (d0 : Nat))) .emp .emp) S = .ok (s.map oD) (ev15 c p m (oL s) (.val (.int (d0 : Nat))) .emp .emp) S := by simp [ev15, oL]
  refine comp_mapG (own := [6]) (t := .name 6) (elt := .or [.cmp .isN (.bor 6) .non, .call 1 [.var 6, .int 0, .bin .sub (.bor 4) (.int 1)]]) oD (fun _ => .bl true) (fun o => ev15 c p m (oL s) (.val (.int (d0 : Nat))) .emp (.val (oD o))) hi (fun x hx => rfl) (fun x hx => ?_) (fun x hx => rfl) rfl (Nat.le_trans hl line1000)
  generalize oL s = sd
  cases x with
  | none => simp [ev15, oD, D.isNon]
  | some n =>
    have := hc n (ho _ hx n rfl)
    simp [ev15, oD, D.isNon, this]
theorem q151 {c p m d : D} {s : List (Option Nat)} {lots : List (List Nat)} {f : List Nat → List (Option Nat)} (hl : lots.length ≤ 1000) (h0 : G.call 12 [c, m] S = .ok (.lst (lots.map sD)) S) (hc : ∀ y ∈ lots, G.call 10 [p, sD y] S = .ok (oL (f y)) S) : evE G q15_1 (ev15 c p m (oL s) (.val d) .emp .emp) S = .ok (.lst ((lots.filter fun y => decide (f y = s)).map sD)) (ev15 c p m (oL s) (.val d) .emp .emp) S := by
  have hi : evI G (.seq (.call 12 [.var 0, .var 2])) (ev15 c p m (oL s) (.val d) .emp .emp) S = .ok (lots.map sD) (ev15 c p m (oL s) (.val d) .emp .emp) S := by
    generalize oL s = sd
    generalize lots.map sD = L at h0 ⊢
    simp [ev15, h0]
  refine comp_filG (own := [5]) (t := .name 5) (ce := .cmp .eq (.call 10 [.var 1, .var 5]) (.bor 3)) (elt := .var 5) sD (fun y => decide (f y = s)) sD (fun y => ev15 c p m (oL s) (.val d) (.val (sD y)) .emp) hi (fun x hx => rfl) (fun x hx => ?_) (fun x hx _ => ?_) (fun x hx => rfl) rfl (Nat.le_trans hl line1000)
  · have h1 := hc x hx
    have h2 := deq_oL (f x) s
    generalize decide (f x = s) = b at h2 ⊢
    generalize oL s = sd at h2 ⊢
    generalize oL (f x) = fd at h1 h2
    generalize sD x = sx at h1 ⊢
    simp [ev15, h1, h2]
  · generalize oL s = sd
    generalize sD x = sx
    simp [ev15]
theorem w15 {c p m s d : D} {q0 q1 : E} {L0 L1 : List D} {n : Nat} (h1 : G.call 13 [c, p, m] S = .ok .non S) (h2 : dblt .len [p] = some (.int (n : Nat))) (h3 : G.call 2 [s, .int (n : Nat), .int (n : Nat)] S = .ok (.bl true) S) (h4 : evE G (.ite (.cmp .gt (.blt .len [.bor 1]) (.int 0)) (.blt .len [.idx (.bor 1) (.int 0)]) (.int 0)) (ev15 c p m s .emp .emp .emp) S = .ok d (ev15 c p m s .emp .emp .emp) S)
    (h5 : evE G q0 (ev15 c p m s (.val d) .emp .emp) S = .ok (.lst L0) (ev15 c p m s (.val d) .emp .emp) S) (a5 : dblt .all [.lst L0] = some (.bl true)) (h6 : evE G q1 (ev15 c p m s (.val d) .emp .emp) S = .ok (.lst L1) (ev15 c p m s (.val d) .emp .emp) S) :
    endR (evSs G [.expr (.call 13 [.var 0, .var 1, .var 2]), .ifs (.not (.call 2 [.var 3, .blt .len [.bor 1], .blt .len [.bor 1]])) [.raise ("NoTaste" : PySem.Str)] [], .put 4 false (.ite (.cmp .gt (.blt .len [.bor 1]) (.int 0)) (.blt .len [.idx (.bor 1) (.int 0)]) (.int 0)), .ifs (.not (.blt .all [q0])) [.raise ("NoTaste" : PySem.Str)] [], .ret (.blt .tuple [q1])] (ev15 c p m s .emp .emp .emp) S) = .ok (.tup L1) S := by
  have s1 : evS G (.expr (.call 13 [.var 0, .var 1, .var 2])) (ev15 c p m s .emp .emp .emp) S = .ok .nx (ev15 c p m s .emp .emp .emp) S := by simp [ev15, h1]
  have s2 : evS G (.ifs (.not (.call 2 [.var 3, .blt .len [.bor 1], .blt .len [.bor 1]])) [.raise ("NoTaste" : PySem.Str)] []) (ev15 c p m s .emp .emp .emp) S = .ok .nx (ev15 c p m s .emp .emp .emp) S := by simp [ev15, h2, h3]
  have s3 : evS G (.ifs (.not (.blt .all [q0])) [.raise ("NoTaste" : PySem.Str)] []) (ev15 c p m s (.val d) .emp .emp) S = .ok .nx (ev15 c p m s (.val d) .emp .emp) S := by simp [h5, a5]
  rw [evSs_step s1, evSs_step s2, evSs_step (put_v (i := 4) h4)]
  refine (congrArg endR (evSs_step s3)).trans ?_
  exact ret_e (tup_of h6)
end
section
variable {Γ : Nat → Gm} {k : Nat} {S : Sto}
theorem r_seen_by (hR : Sem Pg Γ) {cups days many : Nat} {p : Pl} {b : List Nat} (h : Pk cups days many p) (hb : b ∈ bads cups many) : (Γ (k + 8)).call 11 [.int (cups : Nat), pD p, sD b] S = .ok (oL (seen p b)) S := by
  rw [hR.step _ 11 f11 _ _ rfl, run_b b11 [.val (.int (cups : Nat)), .val (pD p), .val (sD b)] rfl rfl rfl]
  obtain ⟨h1, h2, h3, h4⟩ := bads_mem h.c2 hb
  have c5 := r_lotD (k := k + 3) (n := 0) (S := S) hR (d := sD b) (cups := cups) (pl_sD (by omega))
  rw [lot_sD, lot_bads h.c2 hb] at c5
  have hl : dblt .len [sD b] = some (.int (b.length : Nat)) := by
    show some (D.int (((il b).length : Nat) : Int)) = _
    rw [il_len]
  exact w11 (r_check_plan (k := k) hR h.c1 h.c2 (h.p.pl h.c2) h.p.planD) c5 hl (by omega) h1 (r_raw_seen (k := k + 5) hR h.p.len.1 h.p.len.2 (by omega))
def dayN (p : Pl) : Nat := match p with
  | m :: _ => m.length
  | [] => 0
theorem len_pD {p : Pl} : dblt .len [pD p] = some (.int (p.length : Nat)) := by
  show some (D.int (((p.map mD).length : Nat) : Int)) = _
  rw [List.length_map]
theorem day_e {G : Gm} {p : Pl} {e : Eng.Env} {i : Nat} {z : Nat} {ze : E} (he : e[i]? = some (.val (pD p))) (hz : evE G ze e S = .ok (.int (z : Nat)) e S) : evE G (.ite (.cmp .gt (.blt .len [.bor i]) (.int 0)) (.blt .len [.idx (.bor i) (.int 0)]) ze) e S = .ok (.int ((if p = [] then z else dayN p : Nat) : Nat)) e S := by
  have hl := len_pD (p := p)
  cases p with
  | nil =>
    generalize pD [] = pd at he hl
    simp [he, hl, hz]
  | cons m r =>
    have h0 : dix (pD (m :: r)) (.int 0) = some (mD m) := at0
    have h1 : dblt .len [mD m] = some (.int (m.length : Nat)) := by
      show some (D.int (((m.map sD).length : Nat) : Int)) = _
      rw [List.length_map]
    have h2 : (0 : Int) < (((m :: r).length : Nat) : Int) := by rw [List.length_cons]; omega
    rw [if_neg (fun z => nomatch z)]
    show _ = Res.ok (D.int (m.length : Nat)) e S
    generalize mD m = md at h0 h1
    generalize (m :: r).length = n at hl h2
    generalize m.length = k at h1 ⊢
    have hx : ∃ l, pD (m :: r) = .tup l := ⟨_, rfl⟩
    generalize pD (m :: r) = pd at he hl h0 hx
    obtain ⟨l, rfl⟩ := hx
    simp [he, hl, h2, ixM, h0, h1]
    intro hn
    omega
theorem r_bad_for (hR : Sem Pg Γ) {cups days many : Nat} {p : Pl} {s : List (Option Nat)} (h : Pk cups days many p) (hs : s.length = p.length) (ho : okS (dayN p) s) : (Γ (k + 9)).call 15 [.int (cups : Nat), pD p, .int (many : Nat), oL s] S = .ok (.tup (((bads cups many).filter fun y => decide (seen p y = s)).map sD)) S := by
  rw [hR.step _ 15 f15 _ _ rfl, run_b b15 (ev15 (.int (cups : Nat)) (pD p) (.int (many : Nat)) (oL s) .emp .emp .emp) rfl rfl rfl]
  have c1 := r_check_bad (k := k) (S := S) hR h.c1 h.c2 (h.p.pl h.c2) h.p.planD h.m1 h.m2
  have c2 := r_bad_lots (k := k + 7) (S := S) hR (c := cups) (m := many) h.c2
  have c3 : ∀ y ∈ bads cups many, (Γ (k + 8)).call 10 [pD p, sD y] S = .ok (oL (seen p y)) S := fun y hy => r_raw_seen (k := k + 6) hR h.p.len.1 h.p.len.2 (Nat.le_trans (bads_mem h.c2 hy).1 (by decide))
  have hb := bads_len (c := cups) (m := many) h.c2
  have hpl := h.p.len.1
  have c4 := r_is_sized (k := k + 7) (S := S) hR (d := oL s) (a := (p.length : Nat)) (b := (p.length : Nat)) rfl
  rw [show szd (oL s) (p.length : Nat) (p.length : Nat) = true from by
    unfold oL
    rw [szd_map, hs, decide_eq_true (by omega)]
    rfl] at c4
  have c5 : ∀ n, n < dayN p → (Γ (k + 8)).call 1 [.int (n : Nat), .int 0, .int ((dayN p : Int) - 1)] S = .ok (.bl true) S := fun n hn => by
    have := within_nat (k := k + 6) (S := S) hR (n := n) (a := 0) (b := dayN p - 1) (by omega) (by omega)
    rw [show ((dayN p - 1 : Nat) : Int) = (dayN p : Int) - 1 by omega] at this
    exact this
  have hd : (if p = [] then 0 else dayN p) = dayN p := by cases p <;> rfl
  unfold b15
  refine w15 c1 len_pD c4 (d := .int (dayN p : Nat)) ?_ (q150 (by omega) ho c5) all_true (q151 (by omega) c2 c3)
  have := day_e (G := Γ (k + 8)) (S := S) (p := p) (e := ev15 (.int (cups : Nat)) (pD p) (.int (many : Nat)) (oL s) .emp .emp .emp) (i := 1) (z := 0) (ze := .int 0) rfl (by simp)
  rw [hd] at this
  exact this
end
end Law

set_option maxHeartbeats 4000000
/-! mice: most cups; the written plan; what is told -/
namespace Law
open PySem Eng PyProof.Rows
section
variable {G : Gm} {S : Sto}
def ev16 (n d : Nat) (m f : Slot) : Eng.Env := [.val (.int (n : Nat)), .val (.int (d : Nat)), m, f]
theorem pow_fold {b : Nat} : ∀ (n a c : Nat), (List.range' a n).foldl (fun c _ => c * b) c = c * b ^ n
  | 0, a, c => by simp
  | n + 1, a, c => by
    rw [List.range'_succ, List.foldl_cons, pow_fold n, Nat.pow_succ, Nat.mul_assoc, Nat.mul_comm b]
theorem w16 {n d c : Nat} {m : Slot} (hd : d ≤ 1000) : evS G (.put 3 false (.bin .mul (.bor 3) (.bin .add (.bor 1) (.int 1)))) (ev16 n d m (.val (.int (c : Nat)))) S = .ok .nx (ev16 n d m (.val (.int ((c * (d + 1) : Nat) : Nat)))) S := by
  have hm : mulOk (c : Int) ((d : Int) + 1) = true := mulOk_r (by omega)
  simp [ev16, hm]
theorem l16 {n d : Nat} (hd : d ≤ 1000) (hn : n ≤ 1000) : ∃ o, loopF (turnF (.name 2) (evSs G [.put 3 false (.bin .mul (.bor 3) (.bin .add (.bor 1) (.int 1)))])) ((List.range' 0 n).map fun k => D.int (k : Nat)) (ev16 n d .emp (.val (.int (1 : Nat)))) S = .ok .nx (ev16 n d o (.val (.int (((d + 1) ^ n : Nat) : Nat)))) S := by
  obtain ⟨o', h⟩ := fr_fold (G := G) (t := .name 2) (b := [.put 3 false (.bin .mul (.bor 3) (.bin .add (.bor 1) (.int 1)))]) (S := S) (fun i : Nat => D.int (i : Nat)) (fun (c : Nat) (o : Slot) => ev16 n d o (.val (.int (c : Nat)))) (fun c _ => c * (d + 1)) (fun _ _ => True) (fun i xs c o _ => ⟨trivial, ev16 n d (.val (.int (i : Nat))) (.val (.int (c : Nat))), .val (.int (i : Nat)), rfl, evSs_one (w16 hd)⟩) (List.range' 0 n) 1 .emp trivial
  rw [pow_fold, Nat.one_mul] at h
  exact ⟨o', h⟩
theorem w16a {n d : Nat} {l : Eng.S} {o : Slot} {x : D} (h : evS G l (ev16 n d .emp (.val (.int (1 : Nat)))) S = .ok .nx (ev16 n d o (.val x)) S) : endR (evSs G [.put 3 false (.int 1), l, .ret (.var 3)] (ev16 n d .emp .emp) S) = .ok x S := by
  rw [evSs_step (e2 := ev16 n d .emp (.val (.int (1 : Nat)))) (S2 := S) (by simp [ev16]), evSs_step h]
  simp [ev16]
theorem i16 {n d : Nat} {f : Slot} (hn : n ≤ 1000) : evI G (.rng [.var 0]) (ev16 n d .emp f) S = .ok ((List.range' 0 n).map fun k => D.int (k : Nat)) (ev16 n d .emp f) S := rngS hn (by simp [ev16])
end
section
variable {Γ : Nat → Gm} {k : Nat} {S : Sto}
theorem r_most (hR : Sem Pg Γ) {n d : Nat} (hd : d ≤ 1000) (hn : n ≤ 1000) : (Γ (k + 1)).call 16 [.int (n : Nat), .int (d : Nat)] S = .ok (.int (((d + 1) ^ n : Nat) : Nat)) S := by
  rw [hR.step _ 16 f16 _ _ rfl, run_b b16 (ev16 n d .emp .emp) rfl rfl rfl]
  generalize Γ k = G
  obtain ⟨o, h⟩ := l16 (G := G) (S := S) hd hn
  unfold b16
  refine w16a (o := o) ?_
  unfold l16_0
  rw [evS_fr, i16 hn]
  exact h
theorem r_lmost (hR : Sem Pg Γ) {n d : Nat} (hd : d ≤ 1000) (hn : n ≤ 1000) : (Γ (k + 1)).call 32 [.int (n : Nat), .int (d : Nat)] S = .ok (.int (((d + 1) ^ n : Nat) : Nat)) S := by
  rw [hR.step _ 32 f32 _ _ rfl, run_b b32 (ev16 n d .emp .emp) rfl rfl rfl]
  generalize Γ k = G
  obtain ⟨o, h⟩ := l16 (G := G) (S := S) hd hn
  unfold b32
  refine w16a (o := o) ?_
  unfold l32_0
  rw [evS_fr, i16 hn]
  exact h
end
/-! the written plan -/
section
variable {G : Gm} {S : Sto}
def ev17 (c m d : Nat) (y f s p u v : Slot) : Eng.Env := [.val (.int (c : Nat)), .val (.int (m : Nat)), .val (.int (d : Nat)), y, f, s, p, u, v]
def figs (c d i : Nat) : List Nat := (List.range' 0 c).map fun u => fig d i u
theorem q170 {c m d i : Nat} {y f p : Slot} (hc : c ≤ 1000) (hd : d ≤ 3) (hi : i ≤ 5) : evE G q17_0 (ev17 c m d y f (.val (.int (((d + 1) ^ i : Nat) : Nat))) p .emp .emp) S = .ok (.lst (il (figs c d i))) (ev17 c m d y f (.val (.int (((d + 1) ^ i : Nat) : Nat))) p .emp .emp) S := by
  have e : il (figs c d i) = (List.range' 0 c).map fun u => D.int (fig d i u : Nat) := by
    unfold il figs
    rw [List.map_map]
    rfl
  rw [e]
  have h1 : 0 < (d + 1) ^ i := Nat.pow_pos (by omega)
  have h2 : (d + 1) ^ i ≤ 4 ^ 5 := Nat.le_trans (Nat.pow_le_pow_left (by omega) i) (Nat.pow_le_pow_right (by decide) hi)
  have hk : divOk (((d + 1) ^ i : Nat) : Int) = true := divOk_s (by omega) (by have : (4 : Nat) ^ 5 = 1024 := rfl; omega)
  refine comp_mapG (own := [7]) (t := .name 7) (elt := .bin .mod (.bin .fdiv (.bor 7) (.bor 5)) (.bin .add (.bor 2) (.int 1))) (fun k => D.int (k : Nat)) (fun u => D.int (fig d i u : Nat)) (fun k => ev17 c m d y f (.val (.int (((d + 1) ^ i : Nat) : Nat))) p (.val (.int (k : Nat))) .emp) (rngS (n := c) hc (by simp [ev17])) (fun x hx => rfl) (fun x hx => ?_) (fun x hx => rfl) rfl (by rw [List.length_range']; exact Nat.le_trans hc line1000)
  unfold fig
  generalize (d + 1) ^ i = s at hk h1
  have hz : (d : Int) + 1 ≠ 0 := by omega
  have hm : ((x : Int).fdiv (s : Nat)).fmod ((d : Int) + 1) = ((x / s % (d + 1) : Nat) : Int) := by
    rw [fdiv_nat]
    exact fmod_nat (a := x / s) (b := d + 1)
  simp [ev17, hk, hz, hm]
theorem q171 {c m d i v : Nat} {y s p : Slot} (hc : c ≤ 1000) : evE G q17_1 (ev17 c m d y (.val (.lst (il (figs c d i)))) s p .emp (.val (.int (v : Nat)))) S = .ok (.lst (il (wrow c d i v))) (ev17 c m d y (.val (.lst (il (figs c d i)))) s p .emp (.val (.int (v : Nat)))) S := by
  have e : il (wrow c d i v) = ((List.range' 0 c).filter fun u => decide (fig d i u = v)).map fun k => D.int (k : Nat) := rfl
  rw [e]
  refine comp_filG (own := [7]) (t := .name 7) (ce := .cmp .eq (.idx (.bor 4) (.bor 7)) (.bor 8)) (elt := .var 7) (fun k => D.int (k : Nat)) (fun u => decide (fig d i u = v)) (fun k => D.int (k : Nat)) (fun k => ev17 c m d y (.val (.lst (il (figs c d i)))) s p (.val (.int (k : Nat))) (.val (.int (v : Nat)))) (rngS (n := c) hc (by generalize il (figs c d i) = L; simp [ev17])) (fun x hx => rfl) (fun x hx => ?_) (fun x hx _ => ?_) (fun x hx => rfl) rfl (by rw [List.length_range']; exact Nat.le_trans hc line1000)
  · have hx2 := (List.mem_range'_1.mp hx).2
    have h1 : (il (figs c d i))[x]? = some (.int (fig d i x : Nat)) := by
      unfold il figs
      rw [List.map_map, List.getElem?_map, List.getElem?_range' (by omega)]
      simp
    have h2 := at_nat h1
    have h3 : deq (.int (fig d i x : Nat)) (.int (v : Nat)) = some (decide (fig d i x = v)) := by
      rw [deq_int]
      refine congrArg some ?_
      rw [decide_eq_decide]
      omega
    generalize decide (fig d i x = v) = b at h3 ⊢
    generalize fig d i x = w at h2 h3
    generalize il (figs c d i) = L at h2 ⊢
    simp [ev17, h2, h3]
  · generalize il (figs c d i) = L
    simp [ev17]
theorem q172 {c m d i : Nat} {y s p : Slot} (hc : c ≤ 1000) (hd : d ≤ 3) : evE G q17_2 (ev17 c m d y (.val (.lst (il (figs c d i)))) s p .emp .emp) S = .ok (.lst ((wmouse c d i).map sD)) (ev17 c m d y (.val (.lst (il (figs c d i)))) s p .emp .emp) S := by
  have e : (wmouse c d i).map sD = (List.range' 0 d).map fun v => sD (wrow c d i v) := by
    unfold wmouse
    rw [List.map_map]
    rfl
  rw [e]
  exact comp_mapG (own := [8]) (t := .name 8) (elt := .blt .tuple [q17_1]) (fun k => D.int (k : Nat)) (fun v => sD (wrow c d i v)) (fun k => ev17 c m d y (.val (.lst (il (figs c d i)))) s p .emp (.val (.int (k : Nat)))) (rngS (n := d) (by omega) (by generalize il (figs c d i) = L; simp [ev17])) (fun x hx => rfl) (fun x hx => tup_of (q171 hc)) (fun x hx => rfl) rfl (by rw [List.length_range']; exact Nat.le_trans (show d ≤ 1000 by omega) line1000)
theorem l17 {c m d : Nat} (hc : c ≤ 1000) (hd : d ≤ 3) (hm : m ≤ 5) (h16 : ∀ i, i ≤ 5 → G.call 16 [.int (i : Nat), .int (d : Nat)] S = .ok (.int (((d + 1) ^ i : Nat) : Nat)) S) :
    ∃ o : Slot × Slot × Slot, evS G l17_3 (ev17 c m d .emp .emp .emp (.own []) .emp .emp) S = .ok .nx (ev17 c m d o.1 o.2.1 o.2.2 (.own ((wplan c m d).map mD)) .emp .emp) S := by
  have hi : evI G (.rng [.var 1]) (ev17 c m d .emp .emp .emp (.own []) .emp .emp) S = .ok ((List.range' 0 m).map fun k => D.int (k : Nat)) (ev17 c m d .emp .emp .emp (.own []) .emp .emp) S := rngS (by omega) (by simp [ev17])
  obtain ⟨o', h⟩ := fr_fold (G := G) (t := .name 3) (b := [.put 5 false (.call 16 [.var 3, .var 2]), .put 4 false (q17_0), .app 6 (.blt .tuple [q17_2])]) (S := S) (fun i : Nat => D.int (i : Nat)) (fun (acc : Pl) (o : Slot × Slot × Slot) => ev17 c m d o.1 o.2.1 o.2.2 (.own (acc.map mD)) .emp .emp) (fun acc i => acc ++ [wmouse c d i]) (fun xs acc => (∀ i ∈ xs, i ≤ 5) ∧ acc.length + xs.length ≤ 5) (fun i xs acc o h => by
    obtain ⟨h1, h2⟩ := h
    rw [List.length_cons] at h2
    have hi5 := h1 i List.mem_cons_self
    refine ⟨⟨fun y hy => h1 y (List.mem_cons_of_mem _ hy), by rw [List.length_append, List.length_singleton]; omega⟩, ev17 c m d (.val (.int (i : Nat))) o.2.1 o.2.2 (.own (acc.map mD)) .emp .emp, (.val (.int (i : Nat)), .val (.lst (il (figs c d i))), .val (.int (((d + 1) ^ i : Nat) : Nat))), rfl, ?_⟩
    have k1 : evE G (.call 16 [.var 3, .var 2]) (ev17 c m d (.val (.int (i : Nat))) o.2.1 o.2.2 (.own (acc.map mD)) .emp .emp) S = .ok (.int (((d + 1) ^ i : Nat) : Nat)) (ev17 c m d (.val (.int (i : Nat))) o.2.1 o.2.2 (.own (acc.map mD)) .emp .emp) S := by
      have := h16 i hi5
      generalize (d + 1) ^ i = z at this ⊢
      generalize acc.map mD = L
      simp [ev17, this]
    refine (evSs_step (put_v (i := 5) k1)).trans ?_
    refine (evSs_step (put_v (i := 4) (q170 (c := c) (m := m) (y := .val (.int (i : Nat))) (f := o.2.1) (p := .own (acc.map mD)) hc hd hi5))).trans ?_
    refine evSs_one ((app_own (i := 6) rfl (tup_of (q172 (y := .val (.int (i : Nat))) hc hd)) (by rw [List.length_map]; omega)).trans ?_)
    rw [List.map_append]
    rfl) (List.range' 0 m) [] (.emp, .emp, .emp) ⟨fun i hi => by have := (List.mem_range'_1.mp hi).2; omega, by rw [List.length_range', List.length_nil]; omega⟩
  refine ⟨o', ?_⟩
  unfold l17_3
  rw [evS_fr, hi]
  refine h.trans ?_
  rw [fold_app, List.nil_append]
  have : ((List.range' 0 m).flatMap fun i => [wmouse c d i]) = wplan c m d := by
    unfold wplan
    generalize List.range' 0 m = xs
    induction xs with
    | nil => rfl
    | cons x xs ih => rw [List.flatMap_cons, ih, List.map_cons]; rfl
  rw [this]
theorem w18 {c m d : D} (h1 : G.call 1 [c, .int 2, .int 16] S = .ok (.bl true) S) (h2 : G.call 1 [m, .int 0, .int 5] S = .ok (.bl true) S) (h3 : G.call 1 [d, .int 1, .int 3] S = .ok (.bl true) S) : endR (evSs G b18 [.val c, .val m, .val d] S) = .ok .non S := by
  simp [b18, h1, h2, h3]
def ev19 (c m d : D) (o : Slot) : Eng.Env := [.val c, .val m, .val d, o]
theorem w19 {c n m d w : D} {z b : Nat} (h1 : G.call 18 [.int (b : Nat), m, d] S = .ok .non S) (h2 : G.call 16 [m, d] S = .ok (.int (z : Nat)) S) (h3 : ¬ z < b → G.call 17 [.int (b : Nat), m, d] S = .ok w S) : endR (evSs G b19 (ev19 (.int (b : Nat)) m d .emp) S) = .ok (if z < b then .tup [.str ("most" : PySem.Str), .int (z : Nat)] else .tup [.str ("plan" : PySem.Str), w]) S := by
  by_cases h : z < b
  · have h' : (z : Int) < b := by omega
    rw [if_pos h]
    simp [b19, ev19, h1, h2, h]
  · have h' : ¬ (z : Int) < b := by omega
    rw [if_neg h]
    have h3 := h3 h
    simp [b19, ev19, h1, h2, h, h3]
end
/-- the numbers of a question about mice -/
structure Mk (cups mice days : Nat) : Prop where
  c1 : 2 ≤ cups
  c2 : cups ≤ 16
  m : mice ≤ 5
  d1 : 1 ≤ days
  d2 : days ≤ 3
def toldM (cups mice days : Nat) : D := if (days + 1) ^ mice < cups then .tup [.str ("most" : PySem.Str), .int (((days + 1) ^ mice : Nat) : Nat)] else .tup [.str ("plan" : PySem.Str), pD (wplan cups mice days)]
section
variable {Γ : Nat → Gm} {k : Nat} {S : Sto}
theorem r_written (hR : Sem Pg Γ) {c m d : Nat} (h : Mk c m d) : (Γ (k + 2)).call 17 [.int (c : Nat), .int (m : Nat), .int (d : Nat)] S = .ok (pD (wplan c m d)) S := by
  rw [hR.step _ 17 f17 _ _ rfl, run_b b17 (ev17 c m d .emp .emp .emp .emp .emp .emp) rfl rfl rfl]
  have h1 := h.c2
  have h2 := h.d2
  have h16 : ∀ i, i ≤ 5 → (Γ (k + 1)).call 16 [.int (i : Nat), .int (d : Nat)] S = .ok (.int (((d + 1) ^ i : Nat) : Nat)) S := fun i hi => r_most hR (by omega) (by omega)
  generalize Γ (k + 1) = G at h16
  obtain ⟨o, h3⟩ := l17 (G := G) (S := S) (c := c) (m := m) (d := d) (by omega) h.d2 h.m h16
  unfold b17 pD
  generalize (wplan c m d).map mD = L at h3 ⊢
  rw [evSs_step (e2 := ev17 c m d .emp .emp .emp (.own []) .emp .emp) (S2 := S) (by simp [ev17]), evSs_step h3]
  simp [ev17]
theorem r_check_mice (hR : Sem Pg Γ) {c m d : Nat} (h : Mk c m d) : (Γ (k + 3)).call 18 [.int (c : Nat), .int (m : Nat), .int (d : Nat)] S = .ok .non S := by
  rw [hR.step _ 18 f18 _ _ rfl, run_b b18 [.val (.int (c : Nat)), .val (.int (m : Nat)), .val (.int (d : Nat))] rfl rfl rfl]
  exact w18 (within_nat (k := k) hR (a := 2) (b := 16) h.c1 h.c2) (within_nat (k := k) hR (a := 0) (b := 5) (Nat.zero_le _) h.m) (within_nat (k := k) hR (a := 1) (b := 3) h.d1 h.d2)
theorem r_mice_told (hR : Sem Pg Γ) {c m d : Nat} (h : Mk c m d) : (Γ (k + 4)).call 19 [.int (c : Nat), .int (m : Nat), .int (d : Nat)] S = .ok (toldM c m d) S := by
  rw [hR.step _ 19 f19 _ _ rfl, run_b b19 (ev19 (.int (c : Nat)) (.int (m : Nat)) (.int (d : Nat)) .emp) rfl rfl rfl]
  have h1 := h.m
  have h2 := h.d2
  unfold toldM
  exact w19 (c := .non) (n := .non) (r_check_mice (k := k) hR h) (r_most (k := k + 2) hR (by omega) (by omega)) fun _ => r_written (k := k + 1) hR h
end
end Law

set_option maxHeartbeats 4000000
/-! mice: plans judged by the law -/
namespace Law
open PySem Eng PyProof.Rows
theorem list_of {β : Type} {f : β → D} {P : β → Prop} : ∀ {l : List D}, (∀ x ∈ l, ∃ y, x = f y ∧ P y) → ∃ ys : List β, l = ys.map f ∧ ∀ y ∈ ys, P y
  | [], _ => ⟨[], rfl, fun y h => nomatch h⟩
  | x :: l, h => by
    obtain ⟨y, e, hy⟩ := h x List.mem_cons_self
    obtain ⟨ys, e2, h2⟩ := list_of (l := l) fun z hz => h z (List.mem_cons_of_mem _ hz)
    subst e e2
    refine ⟨y :: ys, rfl, fun z hz => ?_⟩
    rcases List.mem_cons.mp hz with e | hz
    · exact e ▸ hy
    · exact h2 z hz
theorem mouse_of {cups : Nat} {h : Int} {m : D} (h1 : szd m 1 3 = true) (h2 : mouseD cups h m = true) : ∃ ms : List (List Nat), m = mD ms ∧ ((ms.length : Nat) : Int) = h ∧ 1 ≤ ms.length ∧ ms.length ≤ 3 ∧ ∀ r ∈ ms, lotB cups r = true := by
  cases m with
  | tup l =>
    have h3 : (szd (.tup l) h h && l.all (lotD cups)) = true := h2
    rw [Bool.and_eq_true] at h3
    obtain ⟨rs, e, hr⟩ := list_of (f := sD) (P := fun r => lotB cups r = true) (l := l) fun x hx => lot_of (List.all_eq_true.mp h3.2 x hx)
    subst e
    have a1 := h1
    have a2 := h3.1
    rw [szd_map, Bool.and_eq_true, decide_eq_true_iff, decide_eq_true_iff] at a1 a2
    exact ⟨rs, rfl, by omega, by omega, by omega, hr⟩
  | _ => cases h2
theorem plan_of {cups : Nat} {t : D} (h : planD cups t = true) : ∃ (p : Pl) (d : Nat), t = pD p ∧ okP cups d p := by
  cases t with
  | tup l =>
    have h1 : (decide (l.length ≤ 5) && l.all fun m => szd m 1 3 && mouseD cups (hdl l) m) = true := h
    rw [Bool.and_eq_true, decide_eq_true_iff] at h1
    obtain ⟨p, e, hp⟩ := list_of (f := mD) (P := fun ms => ((ms.length : Nat) : Int) = hdl l ∧ 1 ≤ ms.length ∧ ms.length ≤ 3 ∧ ∀ r ∈ ms, lotB cups r = true) (l := l) fun x hx => by
      have := List.all_eq_true.mp h1.2 x hx
      rw [Bool.and_eq_true] at this
      exact mouse_of this.1 this.2
    cases p with
    | nil => exact ⟨[], 1, by rw [e]; rfl, by simp, by decide, by decide, fun m hm => nomatch hm⟩
    | cons y r =>
      have hy := hp y List.mem_cons_self
      refine ⟨y :: r, y.length, by rw [e]; rfl, by rw [e, List.length_map] at h1; exact h1.1, hy.2.1, hy.2.2.1, fun m hm => ⟨?_, (hp m hm).2.2.2⟩⟩
      have := (hp m hm).1
      omega
  | _ => cases h
section
variable {G : Gm} {S : Sto}
def ev31 (c t : D) (m r o l u : Slot) : Eng.Env := [.val c, .val t, m, r, o, l, u]
theorem q310 {cups : Nat} {t : D} {m : Slot} {l : List D} (hn : l.length ≤ 1000) (hx : ∀ x ∈ l, x.isiOk = true) (hc : ∀ x ∈ l, G.call 25 [x] S = .ok (.bl (isI x)) S) : evE G q31_0 (ev31 (.int (cups : Nat)) t m (.val (.tup l)) .emp .emp .emp) S = .ok (.lst (l.map fun x => .bl (inW x 0 ((cups : Int) - 1)))) (ev31 (.int (cups : Nat)) t m (.val (.tup l)) .emp .emp .emp) S := by
  have hi : evI G (.seq (.bor 3)) (ev31 (.int (cups : Nat)) t m (.val (.tup l)) .emp .emp .emp) S = .ok l (ev31 (.int (cups : Nat)) t m (.val (.tup l)) .emp .emp .emp) S := by simp [ev31]
  refine comp_mapE (own := [6]) (t := .name 6) (elt := .and [.call 25 [.var 6], .chn .le .lt (.int 0) (.bor 6) (.bor 0)]) (fun x => .bl (inW x 0 ((cups : Int) - 1))) (fun x => ev31 (.int (cups : Nat)) t m (.val (.tup l)) .emp .emp (.val x)) hi (fun x hx => rfl) (fun x hxl => ?_) (fun x hx => rfl) rfl (Nat.le_trans hn line1000)
  have h1 := hc x hxl
  cases x with
  | int i =>
    have e : inW (.int i) 0 ((cups : Int) - 1) = (decide ((0 : Int) ≤ i) && decide (i < (cups : Nat))) := by
      show (decide ((0 : Int) ≤ i) && decide (i ≤ (cups : Int) - 1)) = _
      congr 1
      rw [decide_eq_decide]
      omega
    rw [e]
    by_cases h2 : (0 : Int) ≤ i <;> simp [ev31, h1, isI, h2]
  | _ => simp [ev31, h1, isI, inW]
theorem q311 {c t : D} {m : Slot} {l : List Nat} (hn : l.length ≤ 1000) : evE G q31_1 (ev31 c t m (.val (sD l)) .emp .emp .emp) S = .ok (.lst ((prs l).map fun p => .bl (decide (p.1 < p.2)))) (ev31 c t m (.val (sD l)) .emp .emp .emp) S :=
  comp_mapG (own := [4, 5]) (t := .tup [.name 4, .name 5]) (elt := .cmp .lt (.bor 4) (.bor 5)) pD2 (fun p => .bl (decide (p.1 < p.2))) (fun p => ev31 c t m (.val (sD l)) (.val (.int (p.1 : Nat))) (.val (.int (p.2 : Nat))) .emp) (zip_next (i := 3) rfl) (fun x hx => rfl) (fun x hx => by simp [ev31]) (fun x hx => rfl) rfl (by
    unfold prs
    rw [List.length_zip]
    exact Nat.le_trans (Nat.min_le_left _ _) (Nat.le_trans hn line1000))
/-- two tests of a row -/
def rowS (q0 q1 : E) : List Eng.S := [.ifs (.or [.not (.isi .tuple (.bor 3)), .not (.blt .all [q0])]) [.ret (.bl false)] [], .ifs (.not (.blt .all [q1])) [.ret (.bl false)] []]
theorem w31no {c t x : D} {m : Slot} {q0 q1 : E} (hx : x.isiOk = true) (h : disi .tuple x = false) : evSs G (rowS q0 q1) (ev31 c t m (.val x) .emp .emp .emp) S = .ok (.rt (.bl false)) (ev31 c t m (.val x) .emp .emp .emp) S := by
  simp [rowS, ev31, hx, h]
theorem w31a {c t : D} {m : Slot} {q0 q1 : E} {l L : List D} (h0 : evE G q0 (ev31 c t m (.val (.tup l)) .emp .emp .emp) S = .ok (.lst L) (ev31 c t m (.val (.tup l)) .emp .emp .emp) S) (a0 : dblt .all [.lst L] = some (.bl false)) : evSs G (rowS q0 q1) (ev31 c t m (.val (.tup l)) .emp .emp .emp) S = .ok (.rt (.bl false)) (ev31 c t m (.val (.tup l)) .emp .emp .emp) S := by
  unfold ev31 at *
  simp [rowS, h0, a0]
theorem w31b {c t : D} {m : Slot} {q0 q1 : E} {l L L1 : List D} {b : Bool} (h0 : evE G q0 (ev31 c t m (.val (.tup l)) .emp .emp .emp) S = .ok (.lst L) (ev31 c t m (.val (.tup l)) .emp .emp .emp) S) (a0 : dblt .all [.lst L] = some (.bl true)) (h1 : evE G q1 (ev31 c t m (.val (.tup l)) .emp .emp .emp) S = .ok (.lst L1) (ev31 c t m (.val (.tup l)) .emp .emp .emp) S) (a1 : dblt .all [.lst L1] = some (.bl b)) :
    evSs G (rowS q0 q1) (ev31 c t m (.val (.tup l)) .emp .emp .emp) S = .ok (if b then .nx else .rt (.bl false)) (ev31 c t m (.val (.tup l)) .emp .emp .emp) S := by
  unfold ev31 at *
  cases b <;> simp [rowS, h0, a0, h1, a1]
/-- a row judged -/
theorem w31r {n cups : Nat} {t r : D} {m : Slot} (hp : pl (n + 2) r = true) (hc : ∀ x : D, x.isiOk = true → G.call 25 [x] S = .ok (.bl (isI x)) S) : evSs G (rowS q31_0 q31_1) (ev31 (.int (cups : Nat)) t m (.val r) .emp .emp .emp) S = .ok (if lotD cups r then .nx else .rt (.bl false)) (ev31 (.int (cups : Nat)) t m (.val r) .emp .emp .emp) S := by
  cases r with
  | tup l =>
    obtain ⟨h1, h2⟩ := pl_tup hp
    have q0 := q310 (G := G) (S := S) (cups := cups) (t := t) (m := m) h2 (fun x hx => pl_isi (h1 x hx)) fun x hx => hc x (pl_isi (h1 x hx))
    have a0 : dblt .all [.lst (l.map fun x => D.bl (inW x 0 ((cups : Int) - 1)))] = some (.bl (aw (.tup l) 0 ((cups : Int) - 1))) := dblt_all
    cases ha : aw (.tup l) 0 ((cups : Int) - 1) with
    | false =>
      rw [ha] at a0
      have : lotD cups (.tup l) = false := by
        show (aw (.tup l) 0 ((cups : Int) - 1) && risD l) = false
        rw [ha]
        rfl
      rw [this]
      exact w31a q0 a0
    | true =>
      rw [ha] at a0
      obtain ⟨ns, e, _, h3⟩ := aw_nat ha
      have : lotD cups (.tup l) = risB ns := by
        show (aw (.tup l) 0 ((cups : Int) - 1) && risB (l.map toN)) = risB ns
        rw [ha, h3]
        rfl
      rw [this]
      subst e
      exact w31b q0 a0 (q311 (c := .int (cups : Nat)) (t := t) (m := m) (by rw [← il_len]; exact h2)) dblt_all
  | _ => exact w31no (pl_isi hp) rfl
theorem l31r {n cups : Nat} {t m : D} {l : List D} {r : Slot} (hp : ∀ x ∈ l, pl (n + 2) x = true) (hm : m = .tup l) (hc : ∀ x : D, x.isiOk = true → G.call 25 [x] S = .ok (.bl (isI x)) S) :
    (l.all (lotD cups) = true → ∃ r', evS G l31_2 (ev31 (.int (cups : Nat)) t (.val m) r .emp .emp .emp) S = .ok .nx (ev31 (.int (cups : Nat)) t (.val m) r' .emp .emp .emp) S) ∧ (l.all (lotD cups) = false → ∃ e2, evS G l31_2 (ev31 (.int (cups : Nat)) t (.val m) r .emp .emp .emp) S = .ok (.rt (.bl false)) e2 S) := by
  have hi : evI G (.seq (.var 2)) (ev31 (.int (cups : Nat)) t (.val m) r .emp .emp .emp) S = .ok (l.map id) (ev31 (.int (cups : Nat)) t (.val m) r .emp .emp .emp) S := by
    subst hm
    simp [ev31]
  have key := fr_all (G := G) (t := .name 3) (b := rowS q31_0 q31_1) (S := S) (d := .bl false) (id : D → D) (fun r : Slot => ev31 (.int (cups : Nat)) t (.val m) r .emp .emp .emp) (lotD cups) l r fun x hx o => by
    have h := w31r (G := G) (S := S) (cups := cups) (t := t) (m := .val m) (hp x hx) hc
    refine ⟨ev31 (.int (cups : Nat)) t (.val m) (.val x) .emp .emp .emp, rfl, fun hb => ⟨.val x, ?_⟩, fun hb => ⟨ev31 (.int (cups : Nat)) t (.val m) (.val x) .emp .emp .emp, ?_⟩⟩
    · rw [h, if_pos hb]
    · rw [h, hb]; rfl
  have e : evS G l31_2 (ev31 (.int (cups : Nat)) t (.val m) r .emp .emp .emp) S = loopF (turnF (.name 3) (evSs G (rowS q31_0 q31_1))) (l.map id) (ev31 (.int (cups : Nat)) t (.val m) r .emp .emp .emp) S := by
    unfold l31_2
    rw [evS_fr, hi]
    rfl
  rw [e]
  exact key
def mouS (l : Eng.S) : List Eng.S := [.ifs (.or [.not (.isi .tuple (.bor 2)), .not (.chn .le .le (.int 1) (.blt .len [.bor 2]) (.int 3)), .cmp .ne (.blt .len [.bor 2]) (.blt .len [.idx (.bor 1) (.int 0)])]) [.ret (.bl false)] [], l]
theorem w31m0 {c t x : D} {r : Slot} {l : Eng.S} (hx : x.isiOk = true) (h : disi .tuple x = false) : evSs G (mouS l) (ev31 c t (.val x) r .emp .emp .emp) S = .ok (.rt (.bl false)) (ev31 c t (.val x) r .emp .emp .emp) S := by
  simp [mouS, ev31, hx, h]
theorem w31m1 {c : D} {z y : List D} {ys : List D} {r : Slot} : evS G (.ifs (.or [.not (.isi .tuple (.bor 2)), .not (.chn .le .le (.int 1) (.blt .len [.bor 2]) (.int 3)), .cmp .ne (.blt .len [.bor 2]) (.blt .len [.idx (.bor 1) (.int 0)])]) [.ret (.bl false)] []) (ev31 c (.tup (.tup y :: ys)) (.val (.tup z)) r .emp .emp .emp) S = .ok (if szd (.tup z) 1 3 && szd (.tup z) (y.length : Nat) (y.length : Nat) then .nx else .rt (.bl false)) (ev31 c (.tup (.tup y :: ys)) (.val (.tup z)) r .emp .emp .emp) S := by
  have h0 : L2.atI (D.tup y :: ys) 0 = some (.tup y) := at0
  have e : szd (.tup z) (y.length : Nat) (y.length : Nat) = decide (z.length = y.length) := by
    show (decide (((y.length : Nat) : Int) ≤ (z.length : Nat)) && decide (((z.length : Nat) : Int) ≤ (y.length : Nat))) = _
    rw [Bool.eq_iff_iff, Bool.and_eq_true, decide_eq_true_iff, decide_eq_true_iff, decide_eq_true_iff]
    omega
  have e1 : szd (.tup z) 1 3 = (decide ((1 : Int) ≤ (z.length : Nat)) && decide (((z.length : Nat) : Int) ≤ 3)) := rfl
  have hq : deq (.int (z.length : Nat)) (.int (y.length : Nat)) = some (decide (z.length = y.length)) := by
    rw [deq_int]
    refine congrArg some ?_
    rw [decide_eq_decide]
    omega
  rw [e, e1]
  generalize decide (z.length = y.length) = b at hq ⊢
  have hl1 : dblt .len [.tup z] = some (.int (z.length : Nat)) := rfl
  have hl2 : dblt .len [.tup y] = some (.int (y.length : Nat)) := rfl
  generalize z.length = n at hl1 hq ⊢
  generalize y.length = k at hl2 hq
  by_cases h1 : (1 : Int) ≤ (n : Nat)
  · by_cases h2 : ((n : Nat) : Int) ≤ 3
    · rw [decide_eq_true h1, decide_eq_true h2]
      cases b <;> simp [ev31, hl1, hl2, h0, h1, h2, hq]
    · rw [decide_eq_true h1, decide_eq_false h2]
      simp [ev31, hl1, hl2, h0, h1, h2, hq]
  · rw [decide_eq_false h1]
    simp [ev31, hl1, hl2, h0, h1, hq]
end
end Law

set_option maxHeartbeats 4000000
/-! mice: papers judged -/
namespace Law
open PySem Eng PyProof.Rows
section
variable {G : Gm} {S : Sto}
theorem loopF_rt {F : D → M Fl} {x d : D} {xs : List D} {e e2 : Eng.Env} (h : F x e S = .ok (.rt d) e2 S) : loopF F (x :: xs) e S = .ok (.rt d) e2 S := by
  show M.bind (F x) _ e S = _
  unfold M.bind
  rw [h]
  rfl
def mB (cups : Nat) (l : List D) (m : D) : Bool := szd m 1 3 && mouseD cups (hdl l) m
/-- a mouse judged by the law -/
theorem w31m {n cups : Nat} {x : D} {y ys : List D} {r : Slot} (hp : pl (n + 3) x = true) (hc : ∀ x : D, x.isiOk = true → G.call 25 [x] S = .ok (.bl (isI x)) S) :
    (mB cups (.tup y :: ys) x = true → ∃ r', evSs G (mouS l31_2) (ev31 (.int (cups : Nat)) (.tup (.tup y :: ys)) (.val x) r .emp .emp .emp) S = .ok .nx (ev31 (.int (cups : Nat)) (.tup (.tup y :: ys)) (.val x) r' .emp .emp .emp) S) ∧ (mB cups (.tup y :: ys) x = false → ∃ e2, evSs G (mouS l31_2) (ev31 (.int (cups : Nat)) (.tup (.tup y :: ys)) (.val x) r .emp .emp .emp) S = .ok (.rt (.bl false)) e2 S) := by
  cases x with
  | tup z =>
    have s1 := w31m1 (G := G) (S := S) (c := .int (cups : Nat)) (z := z) (y := y) (ys := ys) (r := r)
    obtain ⟨l1, l2⟩ := l31r (G := G) (S := S) (cups := cups) (t := .tup (.tup y :: ys)) (m := .tup z) (l := z) (r := r) (pl_tup hp).1 rfl hc
    have e : mB cups (.tup y :: ys) (.tup z) = ((szd (.tup z) 1 3 && szd (.tup z) (y.length : Nat) (y.length : Nat)) && z.all (lotD cups)) := by
      show (szd (.tup z) 1 3 && (szd (.tup z) (y.length : Nat) (y.length : Nat) && z.all (lotD cups))) = _
      rw [Bool.and_assoc]
    rw [e]
    generalize (szd (.tup z) 1 3 && szd (.tup z) (y.length : Nat) (y.length : Nat)) = b at s1 ⊢
    unfold mouS
    rw [evSs_cons, s1]
    cases b with
    | false => exact ⟨fun h => (nomatch h), fun _ => ⟨_, rfl⟩⟩
    | true =>
      rw [Bool.true_and]
      refine ⟨fun h => ?_, fun h => ?_⟩
      · obtain ⟨r', h1⟩ := l1 h
        refine ⟨r', ?_⟩
        show evSs G [l31_2] (ev31 (.int (cups : Nat)) (.tup (.tup y :: ys)) (.val (.tup z)) r .emp .emp .emp) S = _
        exact evSs_one h1
      · obtain ⟨e2, h1⟩ := l2 h
        refine ⟨e2, ?_⟩
        show evSs G [l31_2] (ev31 (.int (cups : Nat)) (.tup (.tup y :: ys)) (.val (.tup z)) r .emp .emp .emp) S = _
        rw [evSs_cons, h1]
        rfl
  | _ => exact ⟨fun h => (nomatch h), fun _ => ⟨_, w31m0 (pl_isi hp) rfl⟩⟩
theorem l31 {n cups : Nat} {l : List D} (hp : ∀ x ∈ l, pl (n + 3) x = true) (hc : ∀ x : D, x.isiOk = true → G.call 25 [x] S = .ok (.bl (isI x)) S) :
    (l.all (mB cups l) = true → ∃ e2, evS G l31_3 (ev31 (.int (cups : Nat)) (.tup l) .emp .emp .emp .emp .emp) S = .ok .nx e2 S) ∧ (l.all (mB cups l) = false → ∃ e2, evS G l31_3 (ev31 (.int (cups : Nat)) (.tup l) .emp .emp .emp .emp .emp) S = .ok (.rt (.bl false)) e2 S) := by
  have e : evS G l31_3 (ev31 (.int (cups : Nat)) (.tup l) .emp .emp .emp .emp .emp) S = loopF (turnF (.name 2) (evSs G (mouS l31_2))) (l.map id) (ev31 (.int (cups : Nat)) (.tup l) .emp .emp .emp .emp .emp) S := by
    have hi : evI G (.seq (.var 1)) (ev31 (.int (cups : Nat)) (.tup l) .emp .emp .emp .emp .emp) S = .ok (l.map id) (ev31 (.int (cups : Nat)) (.tup l) .emp .emp .emp .emp .emp) S := by simp [ev31]
    unfold l31_3
    rw [evS_fr, hi]
    rfl
  rw [e]
  cases l with
  | nil => exact ⟨fun _ => ⟨_, rfl⟩, fun h => nomatch h⟩
  | cons x ys =>
    by_cases hx : ∃ y, x = .tup y
    · obtain ⟨y, rfl⟩ := hx
      obtain ⟨k1, k2⟩ := fr_all (G := G) (t := .name 2) (b := mouS l31_2) (S := S) (d := .bl false) (id : D → D) (fun o : Slot × Slot => ev31 (.int (cups : Nat)) (.tup (.tup y :: ys)) o.1 o.2 .emp .emp .emp) (mB cups (.tup y :: ys)) (.tup y :: ys) (.emp, .emp) fun x hx o => by
        obtain ⟨h1, h2⟩ := w31m (G := G) (S := S) (cups := cups) (x := x) (y := y) (ys := ys) (r := o.2) (hp x hx) hc
        refine ⟨ev31 (.int (cups : Nat)) (.tup (.tup y :: ys)) (.val x) o.2 .emp .emp .emp, rfl, fun hb => ?_, h2⟩
        obtain ⟨r', h3⟩ := h1 hb
        exact ⟨(.val x, r'), h3⟩
      refine ⟨fun h => ?_, k2⟩
      obtain ⟨o', h1⟩ := k1 h
      exact ⟨_, h1⟩
    · have hn : disi .tuple x = false := by
        cases x <;> first | rfl | exact absurd ⟨_, rfl⟩ hx
      have hb : (x :: ys).all (mB cups (x :: ys)) = false := by
        rw [List.all_cons]
        have : mB cups (x :: ys) x = false := by
          unfold mB
          rw [szd_no hn]
          rfl
        rw [this]
        rfl
      refine ⟨fun h => ?_, fun _ => ⟨ev31 (.int (cups : Nat)) (.tup (x :: ys)) (.val x) .emp .emp .emp .emp, loopF_rt ?_⟩⟩
      · rw [hb] at h; cases h
      · exact (turnF_at (e2 := ev31 (.int (cups : Nat)) (.tup (x :: ys)) (.val x) .emp .emp .emp .emp) rfl).trans (w31m0 (pl_isi (hp x List.mem_cons_self)) hn)
theorem w31t {c x : D} {l : Eng.S} (hx : x.isiOk = true) (h : disi .tuple x = false) : endR (evSs G [.ifs (.or [.not (.isi .tuple (.bor 1)), .cmp .gt (.blt .len [.bor 1]) (.int 5)]) [.ret (.bl false)] [], l, .ret (.bl true)] (ev31 c x .emp .emp .emp .emp .emp) S) = .ok (.bl false) S := by
  simp [ev31, hx, h]
theorem w31l {c : D} {l : List D} : evS G (.ifs (.or [.not (.isi .tuple (.bor 1)), .cmp .gt (.blt .len [.bor 1]) (.int 5)]) [.ret (.bl false)] []) (ev31 c (.tup l) .emp .emp .emp .emp .emp) S = .ok (if decide (l.length ≤ 5) then .nx else .rt (.bl false)) (ev31 c (.tup l) .emp .emp .emp .emp .emp) S := by
  have hl1 : dblt .len [.tup l] = some (.int (l.length : Nat)) := rfl
  generalize l.length = n at hl1 ⊢
  by_cases h : n ≤ 5
  · have h' : ¬ (5 : Int) < n := by omega
    rw [decide_eq_true h]
    simp [ev31, hl1, h']
  · have h' : (5 : Int) < n := by omega
    rw [decide_eq_false h]
    simp [ev31, hl1, h']
end
section
variable {Γ : Nat → Gm} {k : Nat} {S : Sto}
theorem r_lint (hR : Sem Pg Γ) {d : D} {S : Sto} (h : d.isiOk = true) : (Γ (k + 1)).call 25 [d] S = .ok (.bl (isI d)) S := by
  rw [hR.step _ 25 f25 _ _ rfl]
  cases d <;> first | rfl | cases h
theorem r_lplan (hR : Sem Pg Γ) {n : Nat} {t : D} {cups : Nat} (hp : pl (n + 4) t = true) : (Γ (k + 2)).call 31 [.int (cups : Nat), t] S = .ok (.bl (planD cups t)) S := by
  rw [hR.step _ 31 f31 _ _ rfl, run_b b31 (ev31 (.int (cups : Nat)) t .emp .emp .emp .emp .emp) rfl rfl rfl]
  have hc : ∀ x : D, x.isiOk = true → (Γ (k + 1)).call 25 [x] S = .ok (.bl (isI x)) S := fun x hx => r_lint hR hx
  generalize Γ (k + 1) = G at hc
  unfold b31
  cases t with
  | tup l =>
    obtain ⟨h1, h2⟩ := pl_tup hp
    obtain ⟨k1, k2⟩ := l31 (G := G) (S := S) (cups := cups) h1 hc
    have e : planD cups (.tup l) = (decide (l.length ≤ 5) && l.all (mB cups l)) := rfl
    rw [e, evSs_cons, w31l]
    cases decide (l.length ≤ 5) with
    | false => rfl
    | true =>
      show endR (evSs G [l31_3, .ret (.bl true)] (ev31 (.int (cups : Nat)) (.tup l) .emp .emp .emp .emp .emp) S) = _
      rw [Bool.true_and]
      cases hb : l.all (mB cups l) with
      | true =>
        obtain ⟨e2, h3⟩ := k1 hb
        rw [evSs_step h3]
        simp
      | false =>
        obtain ⟨e2, h3⟩ := k2 hb
        rw [evSs_cons, h3]
        rfl
  | _ => exact w31t (pl_isi hp) rfl
end
/-! it tells -/
def tl (cups mice days : Nat) (p : Pl) : Bool := decide (p.length = mice) && ((p.all fun m => decide (m.length = days)) && (alk (seen p) (bads cups 1)).isNone)
section
variable {G : Gm} {S : Sto}
theorem q330 {c n : D} {days : Nat} {p : Pl} (hp : p.length ≤ 1000) : evE G q33_0 [.val c, .val n, .val (.int (days : Nat)), .val (pD p), .emp] S = .ok (.lst (p.map fun m => .bl (decide (m.length = days)))) [.val c, .val n, .val (.int (days : Nat)), .val (pD p), .emp] S := by
  have hi : evI G (.seq (.bor 3)) [.val c, .val n, .val (.int (days : Nat)), .val (pD p), .emp] S = .ok (p.map mD) [.val c, .val n, .val (.int (days : Nat)), .val (pD p), .emp] S := by simp [pD]
  refine comp_mapG (own := [4]) (t := .name 4) (elt := .cmp .eq (.blt .len [.bor 4]) (.bor 2)) mD (fun m => .bl (decide (m.length = days))) (fun m => [.val c, .val n, .val (.int (days : Nat)), .val (pD p), .val (mD m)]) hi (fun x hx => rfl) (fun x hx => ?_) (fun x hx => rfl) rfl (Nat.le_trans hp line1000)
  have h1 : dblt .len [mD x] = some (.int (x.length : Nat)) := by
    show some (D.int (((x.map sD).length : Nat) : Int)) = _
    rw [List.length_map]
  have hq : deq (.int (x.length : Nat)) (.int (days : Nat)) = some (decide (x.length = days)) := by
    rw [deq_int]
    refine congrArg some ?_
    rw [decide_eq_decide]
    omega
  generalize decide (x.length = days) = b at hq ⊢
  generalize x.length = z at h1 hq
  generalize mD x = md at h1 ⊢
  generalize pD p = pd
  simp [h1, hq]
theorem w33 {c n d t pr : D} {q : E} {L : List D} {b1 b3 b4 : Bool} {z m : Nat} (hz : b1 = true → dblt .len [t] = some (.int (z : Nat))) (hn : n = .int (m : Nat)) (h1 : G.call 31 [c, t] S = .ok (.bl b1) S) (hq : b1 = true → evE G q [.val c, .val n, .val d, .val t, .emp] S = .ok (.lst L) [.val c, .val n, .val d, .val t, .emp] S) (ha : b1 = true → dblt .all [.lst L] = some (.bl b3)) (h2 : b1 = true → G.call 30 [c, t, .int 1] S = .ok pr S) (h3 : pr.isNon = b4) :
    endR (evSs G [.ifs (.or [.not (.call 31 [.var 0, .var 3]), .cmp .ne (.blt .len [.bor 3]) (.bor 1), .not (.blt .all [q])]) [.ret (.bl false)] [], .ret (.cmp .isN (.call 30 [.var 0, .var 3, .int 1]) .non)] [.val c, .val n, .val d, .val t, .emp] S) = .ok (.bl (b1 && (decide (z = m) && (b3 && b4)))) S := by
  subst hn h3
  cases b1 with
  | false => simp [h1]
  | true =>
    have hz := hz rfl
    have hq := hq rfl
    have ha := ha rfl
    have h2 := h2 rfl
    by_cases hm : z = m
    · subst hm
      rw [decide_eq_true (rfl : z = z)]
      cases b3 <;> simp [h1, hz, hq, ha, h2, deq_int]
    · have hm' : ¬ ((z : Nat) : Int) = m := by omega
      rw [decide_eq_false hm]
      simp [h1, hz, deq_int, hm']
theorem pair_non {o : Option (List Nat × List Nat)} : (pairD o).isNon = o.isNone := by cases o <;> rfl
end
section
variable {Γ : Nat → Gm} {k : Nat} {S : Sto}
theorem r_does (hR : Sem Pg Γ) {cups mice days d : Nat} {p : Pl} (hc : cups ≤ 16) (h : okP cups d p) : (Γ (k + 3)).call 33 [.int (cups : Nat), .int (mice : Nat), .int (days : Nat), pD p] S = .ok (.bl (tl cups mice days p)) S := by
  rw [hR.step _ 33 f33 _ _ rfl, run_b b33 [.val (.int (cups : Nat)), .val (.int (mice : Nat)), .val (.int (days : Nat)), .val (pD p), .emp] rfl rfl rfl]
  have h1 := r_lplan (k := k) (n := 0) (S := S) hR (cups := cups) (t := pD p) (by
    have := h.pl hc
    obtain ⟨a1, a2, a3, a4⟩ := h
    refine pl_mapT (n := 3) (by omega) fun m hm => pl_mapT (n := 2) (f := sD) (by have := (a4 m hm).1; omega) fun r hr => pl_sD (n := 1) (by have := lot_len ((a4 m hm).2 r hr); omega))
  rw [h.planD] at h1
  exact w33 (b1 := true) (fun _ => len_pD) rfl h1 (fun _ => q330 h.len.1) (fun _ => dblt_all) (fun _ => r_alike (k := k) (many := 1) hR hc h.len.1 h.len.2) pair_non
theorem r_does_no (hR : Sem Pg Γ) {n cups mice days : Nat} {t : D} (hp : pl (n + 4) t = true) (h : planD cups t = false) : (Γ (k + 3)).call 33 [.int (cups : Nat), .int (mice : Nat), .int (days : Nat), t] S = .ok (.bl false) S := by
  rw [hR.step _ 33 f33 _ _ rfl, run_b b33 [.val (.int (cups : Nat)), .val (.int (mice : Nat)), .val (.int (days : Nat)), .val t, .emp] rfl rfl rfl]
  have h1 := r_lplan (k := k) (S := S) hR (cups := cups) hp
  rw [h] at h1
  exact w33 (b1 := false) (z := 0) (b3 := true) (pr := .non) (L := []) (fun h => nomatch h) rfl h1 (fun h => nomatch h) (fun h => nomatch h) (fun h => nomatch h) rfl
end
end Law

set_option maxHeartbeats 4000000
/-! mice: papers judged by both -/
namespace Law
open PySem Eng PyProof.Rows
theorem sD_inj {a b : List Nat} (h : sD a = sD b) : a = b := by
  have h1 := deq_sD a b
  have h2 := deq_sD b b
  rw [h, h2] at h1
  simpa using h1
theorem mD_inj : ∀ {a b : List (List Nat)}, mD a = mD b → a = b := fun {a b} h => by
  injection h with h
  exact (List.map_inj_right fun x y e => sD_inj e).mp h
theorem pD_inj : ∀ {a b : Pl}, pD a = pD b → a = b := fun {a b} h => by
  injection h with h
  exact (List.map_inj_right fun x y e => mD_inj e).mp h
/-- things that may be judged -/
def Th (d : D) : Prop := pl 6 d = true ∨ Dp d
theorem Th.isi {d : D} (h : Th d) : d.isiOk = true := by
  rcases h with h | h
  · exact pl_isi h
  · exact h.1
/-- what a thing may be: no pair, a pair led by no word, a pair led by a word -/
theorem Th.cases {d : D} (h : Th d) : szd d 2 2 = false ∨ (∃ a b, d = .tup [a, b] ∧ a.isiOk = true ∧ disi .str a = false) ∨ ∃ s b, d = .tup [.str s, b] ∧ PyData.strOk s = true ∧ pl 5 b = true := by
  cases d with
  | tup l =>
    have e : szd (.tup l) 2 2 = decide (l.length = 2) := by
      show (decide ((2 : Int) ≤ (l.length : Nat)) && decide (((l.length : Nat) : Int) ≤ 2)) = _
      rw [Bool.eq_iff_iff, Bool.and_eq_true, decide_eq_true_iff, decide_eq_true_iff, decide_eq_true_iff]
      omega
    by_cases h2 : l.length = 2
    · right
      match l, h2 with
      | [a, b], _ =>
        rcases h with h | h
        · obtain ⟨h1, _⟩ := pl_tup h
          have ha := h1 a (by simp)
          have hb := h1 b (by simp)
          cases a with
          | str s => exact .inr ⟨s, b, rfl, ha, hb⟩
          | _ => exact .inl ⟨_, b, rfl, pl_isi ha, rfl⟩
        · obtain ⟨x, e2, _⟩ := h.2.2 _ rfl
          cases e2
    · left
      rw [e, decide_eq_false h2]
  | _ => exact .inl rfl
theorem at1 {a b : D} : L2.atI [a, b] 1 = some b := by
  unfold L2.atI L2.ixN
  simp
section
variable {G : Gm} {S : Sto}
def ev20 (c m d t : D) (o y : Slot) : Eng.Env := [.val c, .val m, .val d, .val t, o, y]
theorem w20a {c m d t : D} (h1 : G.call 18 [c, m, d] S = .ok .non S) (h2 : G.call 2 [t, .int 2, .int 2] S = .ok (.bl false) S) : endR (evSs G b20 (ev20 c m d t .emp .emp) S) = .ok (.bl false) S := by
  generalize hq : q20_0 = q
  unfold b20
  rw [hq]
  simp [ev20, h1, h2]
theorem w20b {c m d a b : D} (h1 : G.call 18 [c, m, d] S = .ok .non S) (h2 : G.call 2 [.tup [a, b], .int 2, .int 2] S = .ok (.bl true) S) (h3 : a.isiOk = true) (h4 : disi .str a = false) : endR (evSs G b20 (ev20 c m d (.tup [a, b]) .emp .emp) S) = .ok (.bl false) S := by
  have h0 : L2.atI [a, b] 0 = some a := at0
  generalize hq : q20_0 = q
  unfold b20
  rw [hq]
  simp [ev20, h1, h2, h0, h3, h4]
/-- the way to the words -/
theorem w20s {c m d b : D} {s : PySem.Str} {z : Nat} {r : List Eng.S} (h1 : G.call 18 [c, m, d] S = .ok .non S) (h2 : G.call 2 [.tup [.str s, b], .int 2, .int 2] S = .ok (.bl true) S) (h3 : G.call 16 [m, d] S = .ok (.int (z : Nat)) S) :
    evSs G (.expr (.call 18 [.var 0, .var 1, .var 2]) :: .ifs (.or [.not (.call 2 [.var 3, .int 2, .int 2]), .not (.isi .str (.idx (.bor 3) (.int 0)))]) [.ret (.bl false)] [] :: .put 4 false (.call 16 [.var 1, .var 2]) :: r) (ev20 c m d (.tup [.str s, b]) .emp .emp) S = evSs G r (ev20 c m d (.tup [.str s, b]) (.val (.int (z : Nat))) .emp) S := by
  have h0 : L2.atI [D.str s, b] 0 = some (.str s) := at0
  have s1 : evS G (.expr (.call 18 [.var 0, .var 1, .var 2])) (ev20 c m d (.tup [.str s, b]) .emp .emp) S = .ok .nx (ev20 c m d (.tup [.str s, b]) .emp .emp) S := by simp [ev20, h1]
  have s2 : evS G (.ifs (.or [.not (.call 2 [.var 3, .int 2, .int 2]), .not (.isi .str (.idx (.bor 3) (.int 0)))]) [.ret (.bl false)] []) (ev20 c m d (.tup [.str s, b]) .emp .emp) S = .ok .nx (ev20 c m d (.tup [.str s, b]) .emp .emp) S := by simp [ev20, h2, h0]
  have s3 : evS G (.put 4 false (.call 16 [.var 1, .var 2])) (ev20 c m d (.tup [.str s, b]) .emp .emp) S = .ok .nx (ev20 c m d (.tup [.str s, b]) (.val (.int (z : Nat))) .emp) S := by simp [ev20, h3]
  rw [evSs_step s1, evSs_step s2, evSs_step s3]
theorem w20m {m d b : D} {s : PySem.Str} {z c : Nat} {r : List Eng.S} {w : Bool} (hs : deq (.str s) (.str ("most" : PySem.Str)) = some true) (h1 : G.call 1 [b, .int (z : Nat), .int (z : Nat)] S = .ok (.bl w) S) :
    endR (evSs G (.ifs (.cmp .eq (.idx (.bor 3) (.int 0)) (.cst (.str ("most" : PySem.Str)))) [.ret (.and [.cmp .lt (.bor 4) (.bor 0), .call 1 [.idx (.bor 3) (.int 1), .var 4, .var 4]])] [] :: r) (ev20 (.int (c : Nat)) m d (.tup [.str s, b]) (.val (.int (z : Nat))) .emp) S) = .ok (.bl (decide (z < c) && w)) S := by
  have h0 : L2.atI [D.str s, b] 0 = some (.str s) := at0
  have h2 : L2.atI [D.str s, b] 1 = some b := at1
  by_cases h : z < c
  · rw [decide_eq_true h]
    simp [ev20, h0, hs, h, h2, h1]
  · rw [decide_eq_false h]
    simp [ev20, h0, hs, h, h2, h1]
theorem w20n {c m d b : D} {s : PySem.Str} {o : Slot} {r : List Eng.S} (hs : deq (.str s) (.str ("most" : PySem.Str)) = some false) :
    evSs G (.ifs (.cmp .eq (.idx (.bor 3) (.int 0)) (.cst (.str ("most" : PySem.Str)))) [.ret (.and [.cmp .lt (.bor 4) (.bor 0), .call 1 [.idx (.bor 3) (.int 1), .var 4, .var 4]])] [] :: r) (ev20 c m d (.tup [.str s, b]) o .emp) S = evSs G r (ev20 c m d (.tup [.str s, b]) o .emp) S := by
  have h0 : L2.atI [D.str s, b] 0 = some (.str s) := at0
  refine evSs_step ?_
  simp [ev20, h0, hs]
theorem w20x {c m d b : D} {s : PySem.Str} {o : Slot} {r : List Eng.S} (hs : deq (.str s) (.str ("plan" : PySem.Str)) = some false) :
    endR (evSs G (.ifs (.or [.cmp .ne (.idx (.bor 3) (.int 0)) (.cst (.str ("plan" : PySem.Str))), .not (.call 7 [.var 0, .idx (.bor 3) (.int 1)]), .cmp .ne (.blt .len [.idx (.bor 3) (.int 1)]) (.bor 1)]) [.ret (.bl false)] [] :: r) (ev20 c m d (.tup [.str s, b]) o .emp) S) = .ok (.bl false) S := by
  have h0 : L2.atI [D.str s, b] 0 = some (.str s) := at0
  simp [ev20, h0, hs]
theorem w20y {c m d b : D} {s : PySem.Str} {o : Slot} {r : List Eng.S} (hs : deq (.str s) (.str ("plan" : PySem.Str)) = some true) (h1 : G.call 7 [c, b] S = .ok (.bl false) S) :
    endR (evSs G (.ifs (.or [.cmp .ne (.idx (.bor 3) (.int 0)) (.cst (.str ("plan" : PySem.Str))), .not (.call 7 [.var 0, .idx (.bor 3) (.int 1)]), .cmp .ne (.blt .len [.idx (.bor 3) (.int 1)]) (.bor 1)]) [.ret (.bl false)] [] :: r) (ev20 c m d (.tup [.str s, b]) o .emp) S) = .ok (.bl false) S := by
  have h0 : L2.atI [D.str s, b] 0 = some (.str s) := at0
  have h2 : L2.atI [D.str s, b] 1 = some b := at1
  simp [ev20, h0, hs, h2, h1]
theorem w20z {c d b x : D} {s : PySem.Str} {o : Slot} {q : E} {L : List D} {z n : Nat} {b3 b4 : Bool} (hs : deq (.str s) (.str ("plan" : PySem.Str)) = some true) (h1 : G.call 7 [c, b] S = .ok (.bl true) S) (hl : dblt .len [b] = some (.int (z : Nat))) (hq : evE G q (ev20 c (.int (n : Nat)) d (.tup [.str s, b]) o .emp) S = .ok (.lst L) (ev20 c (.int (n : Nat)) d (.tup [.str s, b]) o .emp) S) (ha : dblt .all [.lst L] = some (.bl b3)) (h3 : G.call 14 [c, b, .int 1] S = .ok x S) (hx : deq x (.tup [.str ("tells" : PySem.Str)]) = some b4) :
    endR (evSs G [.ifs (.or [.cmp .ne (.idx (.bor 3) (.int 0)) (.cst (.str ("plan" : PySem.Str))), .not (.call 7 [.var 0, .idx (.bor 3) (.int 1)]), .cmp .ne (.blt .len [.idx (.bor 3) (.int 1)]) (.bor 1)]) [.ret (.bl false)] [], .ifs (.not (.blt .all [q])) [.ret (.bl false)] [], .ret (.cmp .eq (.call 14 [.var 0, .idx (.bor 3) (.int 1), .int 1]) (.tup [.cst (.str ("tells" : PySem.Str))]))] (ev20 c (.int (n : Nat)) d (.tup [.str s, b]) o .emp) S) = .ok (.bl (decide (z = n) && (b3 && b4))) S := by
  have h0 : L2.atI [D.str s, b] 0 = some (.str s) := at0
  have h2 : L2.atI [D.str s, b] 1 = some b := at1
  unfold ev20 at *
  by_cases hm : z = n
  · subst hm
    rw [decide_eq_true (rfl : z = z)]
    cases b3 <;> simp [h0, hs, h2, h1, hl, deq_int, hq, ha, h3, hx]
  · have hm' : ¬ ((z : Nat) : Int) = n := by omega
    rw [decide_eq_false hm]
    simp [h0, hs, h2, h1, hl, deq_int, hm']
theorem q200 {c n : D} {days : Nat} {p : Pl} {s : D} {o : Slot} (hp : p.length ≤ 1000) : evE G q20_0 (ev20 c n (.int (days : Nat)) (.tup [s, pD p]) o .emp) S = .ok (.lst (p.map fun m => .bl (decide (m.length = days)))) (ev20 c n (.int (days : Nat)) (.tup [s, pD p]) o .emp) S := by
  have h2 : L2.atI [s, pD p] 1 = some (pD p) := at1
  have hi : evI G (.seq (.idx (.bor 3) (.int 1))) (ev20 c n (.int (days : Nat)) (.tup [s, pD p]) o .emp) S = .ok (p.map mD) (ev20 c n (.int (days : Nat)) (.tup [s, pD p]) o .emp) S := by
    have hd : dseq (pD p) = some (p.map mD) := rfl
    generalize pD p = pd at h2 hd ⊢
    simp [ev20, h2, hd]
  refine comp_mapG (own := [5]) (t := .name 5) (elt := .cmp .eq (.blt .len [.bor 5]) (.bor 2)) mD (fun m => .bl (decide (m.length = days))) (fun m => ev20 c n (.int (days : Nat)) (.tup [s, pD p]) o (.val (mD m))) hi (fun x hx => rfl) (fun x hx => ?_) (fun x hx => rfl) rfl (Nat.le_trans hp line1000)
  have h1 : dblt .len [mD x] = some (.int (x.length : Nat)) := by
    show some (D.int (((x.map sD).length : Nat) : Int)) = _
    rw [List.length_map]
  have hq : deq (.int (x.length : Nat)) (.int (days : Nat)) = some (decide (x.length = days)) := by
    rw [deq_int]
    refine congrArg some ?_
    rw [decide_eq_decide]
    omega
  generalize decide (x.length = days) = b at hq ⊢
  generalize x.length = z at h1 hq
  generalize mD x = md at h1 ⊢
  generalize pD p = pd
  simp [ev20, h1, hq]
theorem tell_eq {o : Option (List Nat × List Nat)} : deq (tellD o) (.tup [.str ("tells" : PySem.Str)]) = some o.isNone := by
  cases o with
  | none => exact deq_self 1 (d := .tup [.str ("tells" : PySem.Str)]) (by decide +kernel)
  | some y =>
    obtain ⟨x, y⟩ := y
    have e1 : D.shapedO (.tup [.str ("tells" : PySem.Str)]) = some (.tuple [.str ("tells" : PySem.Str)]) := by
      obtain ⟨p, h1, h2, _⟩ := shaped_ok (n := 1) (d := .tup [.str ("tells" : PySem.Str)]) (by decide +kernel) (by decide)
      have : D.py (.tup [.str ("tells" : PySem.Str)]) = some (.tuple [.str ("tells" : PySem.Str)]) := by
        unfold D.py D.pyL D.pyL D.py
        rfl
      rw [this] at h2
      cases h2
      exact h1
    have e2 : D.shapedO (aD x y) = some (.tuple [.str ("alike" : PySem.Str), .tuple (x.map fun x => PyData.int (x : Nat)), .tuple (y.map fun x => PyData.int (x : Nat))]) := by
      have p1 := cd_nat.tup.py x
      have p2 := cd_nat.tup.py y
      have o1 := cd_nat.tup.ok x
      have o2 := cd_nat.tup.ok y
      obtain ⟨p, h1, h2, _⟩ := shaped_ok (n := 2) (d := aD x y) (by
        refine okD_tup fun d hd => ?_
        simp only [List.mem_cons, List.not_mem_nil, or_false] at hd
        rcases hd with e | e | e <;> subst e
        · exact sok_of _
        · exact o1
        · exact o2) (by decide)
      have : D.py (aD x y) = some (.tuple [.str ("alike" : PySem.Str), .tuple (x.map fun x => PyData.int (x : Nat)), .tuple (y.map fun x => PyData.int (x : Nat))]) := by
        have p0 : D.py (.str ("alike" : PySem.Str)) = some (.str ("alike" : PySem.Str)) := by unfold D.py; rfl
        have p3 : D.pyL [] = some [] := by unfold D.pyL; rfl
        have p1' : D.py (sD x) = some (.tuple (x.map fun x => PyData.int (x : Nat))) := p1
        have p2' : D.py (sD y) = some (.tuple (y.map fun x => PyData.int (x : Nat))) := p2
        unfold aD
        rw [D.py, D.pyL, p0, D.pyL, p1', D.pyL, p2', p3]
        rfl
      rw [this] at h2
      cases h2
      exact h1
    show deq (aD x y) _ = some false
    unfold deq
    rw [e1, e2]
    rfl
theorem w34a {c m d x : D} (hx : x.isiOk = true) (h : disi .tuple x = false) : endR (evSs G b34 [.val c, .val m, .val d, .val x, .emp] S) = .ok (.bl false) S := by
  unfold b34
  simp [hx, h]
theorem w34b {c m d : D} {l : List D} (h : l.length ≠ 2) : endR (evSs G b34 [.val c, .val m, .val d, .val (.tup l), .emp] S) = .ok (.bl false) S := by
  have hl : dblt .len [.tup l] = some (.int (l.length : Nat)) := rfl
  generalize l.length = n at hl h
  have h' : ¬ ((n : Nat) : Int) = 2 := by omega
  unfold b34
  simp [hl, deq_int, h']
theorem w34c {c m d a b : D} (h3 : a.isiOk = true) (h4 : disi .str a = false) : endR (evSs G b34 [.val c, .val m, .val d, .val (.tup [a, b]), .emp] S) = .ok (.bl false) S := by
  have h0 : L2.atI [a, b] 0 = some a := at0
  unfold b34
  simp [deq_int, h0, h3, h4]
theorem w34s {c m d b : D} {s : PySem.Str} {r : List Eng.S} : evSs G (.ifs (.or [.not (.isi .tuple (.bor 3)), .cmp .ne (.blt .len [.bor 3]) (.int 2), .not (.isi .str (.idx (.bor 3) (.int 0)))]) [.ret (.bl false)] [] :: r) [.val c, .val m, .val d, .val (.tup [.str s, b]), .emp] S = evSs G r [.val c, .val m, .val d, .val (.tup [.str s, b]), .emp] S := by
  have h0 : L2.atI [D.str s, b] 0 = some (.str s) := at0
  refine evSs_step ?_
  simp [deq_int, h0]
theorem w34p {c m d b x : D} {s : PySem.Str} {r : List Eng.S} (hs : deq (.str s) (.str ("plan" : PySem.Str)) = some true) (h1 : G.call 33 [c, m, d, b] S = .ok x S) : endR (evSs G (.ifs (.cmp .eq (.idx (.bor 3) (.int 0)) (.str ("plan" : PySem.Str))) [.ret (.call 33 [.var 0, .var 1, .var 2, .idx (.bor 3) (.int 1)])] [] :: r) [.val c, .val m, .val d, .val (.tup [.str s, b]), .emp] S) = .ok x S := by
  have h0 : L2.atI [D.str s, b] 0 = some (.str s) := at0
  have h2 : L2.atI [D.str s, b] 1 = some b := at1
  simp [h0, h2, hs, h1]
theorem w34n {c m d b : D} {s : PySem.Str} {r : List Eng.S} {z : Nat} (hs : deq (.str s) (.str ("plan" : PySem.Str)) = some false) (h1 : G.call 32 [m, d] S = .ok (.int (z : Nat)) S) : evSs G (.ifs (.cmp .eq (.idx (.bor 3) (.int 0)) (.str ("plan" : PySem.Str))) [.ret (.call 33 [.var 0, .var 1, .var 2, .idx (.bor 3) (.int 1)])] [] :: .put 4 false (.call 32 [.var 1, .var 2]) :: r) [.val c, .val m, .val d, .val (.tup [.str s, b]), .emp] S = evSs G r [.val c, .val m, .val d, .val (.tup [.str s, b]), .val (.int (z : Nat))] S := by
  have h0 : L2.atI [D.str s, b] 0 = some (.str s) := at0
  have s1 : evS G (.ifs (.cmp .eq (.idx (.bor 3) (.int 0)) (.str ("plan" : PySem.Str))) [.ret (.call 33 [.var 0, .var 1, .var 2, .idx (.bor 3) (.int 1)])] []) [.val c, .val m, .val d, .val (.tup [.str s, b]), .emp] S = .ok .nx [.val c, .val m, .val d, .val (.tup [.str s, b]), .emp] S := by simp [h0, hs]
  have s2 : evS G (.put 4 false (.call 32 [.var 1, .var 2])) [.val c, .val m, .val d, .val (.tup [.str s, b]), .emp] S = .ok .nx [.val c, .val m, .val d, .val (.tup [.str s, b]), .val (.int (z : Nat))] S := by simp [h1]
  rw [evSs_step s1, evSs_step s2]
theorem w34m {m d b : D} {s : PySem.Str} {z c : Nat} {w : Bool} (hs : deq (.str s) (.str ("most" : PySem.Str)) = some w) (h1 : G.call 25 [b] S = .ok (.bl (isI b)) S) :
    endR (evSs G [.ret (.and [.cmp .eq (.idx (.bor 3) (.int 0)) (.str ("most" : PySem.Str)), .call 25 [.idx (.bor 3) (.int 1)], .cmp .eq (.idx (.bor 3) (.int 1)) (.bor 4), .cmp .gt (.bor 0) (.bor 4)])] [.val (.int (c : Nat)), .val m, .val d, .val (.tup [.str s, b]), .val (.int (z : Nat))] S) = .ok (.bl (w && (decide (z < c) && inW b (z : Nat) (z : Nat)))) S := by
  have h0 : L2.atI [D.str s, b] 0 = some (.str s) := at0
  have h2 : L2.atI [D.str s, b] 1 = some b := at1
  rw [inW_same]
  cases w with
  | false => simp [h0, hs]
  | true =>
    cases b with
    | int i =>
      show _ = FR.ok (.bl (true && (decide (z < c) && decide (i = ((z : Nat) : Int))))) S
      by_cases h : i = (z : Nat)
      · subst h
        by_cases hz : z < c
        · rw [decide_eq_true hz]
          simp [h0, hs, h2, h1, isI, deq_int, hz]
        · rw [decide_eq_false hz]
          simp [h0, hs, h2, h1, isI, deq_int, hz]
      · rw [decide_eq_false h, Bool.and_false, Bool.and_false]
        simp [h0, hs, h2, h1, isI, deq_int, h]
    | _ => simp [h0, hs, h2, h1, isI]
end
section
variable {Γ : Nat → Gm} {k : Nat} {S : Sto}
theorem deq_w {s t : PySem.Str} (hs : PyData.strOk s = true) (ht : PyData.strOk t = true) : ∃ b, deq (.str s) (.str t) = some b := ⟨_, deq_strs hs ht⟩
theorem pm_ne {s : PySem.Str} (hs : PyData.strOk s = true) (h : deq (.str s) (.str ("most" : PySem.Str)) = some true) : deq (.str s) (.str ("plan" : PySem.Str)) = some false := by
  rw [deq_strs hs (sok_of _)] at h
  have := of_decide_eq_true (Option.some.inj h)
  subst this
  decide +kernel
/-- both judge alike -/
theorem r_judged (hR : Sem Pg Γ) {c m d : Nat} (hk : Mk c m d) {t : D} (h : Th t) : ∃ b : Bool, (Γ (k + 10)).call 20 [.int (c : Nat), .int (m : Nat), .int (d : Nat), t] S = .ok (.bl b) S ∧ (Γ (k + 10)).call 34 [.int (c : Nat), .int (m : Nat), .int (d : Nat), t] S = .ok (.bl b) S ∧
    (t = .tup [.str ("most" : PySem.Str), .int (((d + 1) ^ m : Nat) : Nat)] → (d + 1) ^ m < c → b = true) ∧ (∀ p d', t = .tup [.str ("plan" : PySem.Str), pD p] → okP c d' p → tl c m d p = true → b = true) := by
  have km := hk.m
  have kd := hk.d2
  have c18 := r_check_mice (k := k + 6) (S := S) hR hk
  have c16 := r_most (k := k + 8) (S := S) hR (n := m) (d := d) (by omega) (by omega)
  have c32 := r_lmost (k := k + 8) (S := S) hR (n := m) (d := d) (by omega) (by omega)
  have c2 := r_is_sized (k := k + 8) (S := S) hR (d := t) (a := 2) (b := 2) h.isi
  rw [hR.step _ 20 f20 _ _ rfl, run_b b20 (ev20 (.int (c : Nat)) (.int (m : Nat)) (.int (d : Nat)) t .emp .emp) rfl rfl rfl, hR.step _ 34 f34 _ _ rfl, run_b b34 [.val (.int (c : Nat)), .val (.int (m : Nat)), .val (.int (d : Nat)), .val t, .emp] rfl rfl rfl]
  rcases h.cases with q | ⟨a, b, e, q1, q2⟩ | ⟨s, b, e, q1, q2⟩
  · rw [q] at c2
    refine ⟨false, w20a c18 c2, ?_, fun e => ?_, fun p d' e => ?_⟩
    · cases t with
      | tup l =>
        refine w34b fun hl => ?_
        have : szd (.tup l) 2 2 = true := by
          show (decide ((2 : Int) ≤ (l.length : Nat)) && decide (((l.length : Nat) : Int) ≤ 2)) = true
          rw [hl]
          rfl
        rw [this] at q
        cases q
      | _ => exact w34a h.isi rfl
    · rw [e] at q; cases q
    · rw [e] at q; cases q
  · subst e
    refine ⟨false, w20b c18 c2 q1 q2, w34c q1 q2, fun e => ?_, fun p d' e => ?_⟩
    · cases e; cases q2
    · cases e; cases q2
  · subst e
    have bi := pl_isi q2
    obtain ⟨w, hw⟩ := deq_w (t := ("most" : PySem.Str)) q1 (sok_of _)
    cases w with
    | true =>
      have hp := pm_ne q1 hw
      have c1 := r_is_within (k := k + 7) (S := S) hR (d := b) (a := ((d + 1) ^ m : Nat)) (b := ((d + 1) ^ m : Nat)) bi
      refine ⟨decide ((d + 1) ^ m < c) && inW b (((d + 1) ^ m : Nat) : Nat) (((d + 1) ^ m : Nat) : Nat), ?_, ?_, fun e hlt => ?_, fun p d' e => ?_⟩
      · unfold b20
        rw [w20s c18 c2 c16]
        exact w20m hw c1
      · unfold b34
        rw [w34s, w34n hp c32]
        have := w34m (G := Γ (k + 9)) (S := S) (m := .int (m : Nat)) (d := .int (d : Nat)) (b := b) (z := (d + 1) ^ m) (c := c) hw (r_lint (k := k + 8) hR bi)
        rw [Bool.true_and] at this
        exact this
      · cases e
        rw [decide_eq_true hlt, inW_same]
        simp
      · cases e
        have : deq (.str ("plan" : PySem.Str)) (.str ("most" : PySem.Str)) = some false := by decide +kernel
        rw [this] at hw
        cases hw
    | false =>
      obtain ⟨v, hv⟩ := deq_w (t := ("plan" : PySem.Str)) q1 (sok_of _)
      have nm : D.tup [.str s, b] = .tup [.str ("most" : PySem.Str), .int (((d + 1) ^ m : Nat) : Nat)] → False := fun e => by
        cases e
        have : deq (.str ("most" : PySem.Str)) (.str ("most" : PySem.Str)) = some true := deq_str (sok_of _)
        rw [this] at hw
        cases hw
      cases v with
      | false =>
        refine ⟨false, ?_, ?_, fun e _ => (nm e).elim, fun p d' e => ?_⟩
        · unfold b20
          rw [w20s c18 c2 c16, w20n hw]
          exact w20x hv
        · unfold b34
          rw [w34s, w34n hv c32]
          exact w34m (G := Γ (k + 9)) (S := S) (m := .int (m : Nat)) (d := .int (d : Nat)) (b := b) (z := (d + 1) ^ m) (c := c) hw (r_lint (k := k + 8) hR bi)
        · cases e
          have : deq (.str ("plan" : PySem.Str)) (.str ("plan" : PySem.Str)) = some true := deq_str (sok_of _)
          rw [this] at hv
          cases hv
      | true =>
        have c7 := r_is_plan (k := k + 3) (n := 2) (S := S) hR (t := b) (cups := c) q2
        cases hb : planD c b with
        | false =>
          rw [hb] at c7
          refine ⟨false, ?_, ?_, fun e _ => (nm e).elim, fun p d' e ho _ => ?_⟩
          · unfold b20
            rw [w20s c18 c2 c16, w20n hw]
            exact w20y hv c7
          · unfold b34
            rw [w34s]
            exact w34p hv (r_does_no (k := k + 6) hR q2 hb)
          · cases e
            rw [ho.planD] at hb
            cases hb
        | true =>
          rw [hb] at c7
          obtain ⟨p, d', e, ho⟩ := plan_of hb
          subst e
          have c14 := r_plan_told (k := k) (S := S) (many := 1) hR ⟨ho, hk.c1, hk.c2, by decide, by decide⟩
          refine ⟨tl c m d p, ?_, ?_, fun e _ => (nm e).elim, fun p' d'' e ho' ht => ?_⟩
          · unfold b20
            rw [w20s c18 c2 c16, w20n hw]
            exact w20z hv c7 len_pD (q200 ho.len.1) dblt_all c14 tell_eq
          · unfold b34
            rw [w34s]
            exact w34p hv (r_does (k := k + 6) hR hk.c2 ho)
          · have : pD p = pD p' := by
              injection e with e
              injection e with _ e
              injection e
            have := pD_inj this
            subst this
            exact ht
end
end Law

set_option maxHeartbeats 4000000
/-! mice: plans drawn; lots seen so, held against the law's own -/
namespace Law
open PySem Eng PyProof.Rows
theorem compL_sub {own : List Nat} (F : D → M (List D)) (g : Nat → D) (e0 : Eng.Env) (I : Sto → Prop) : ∀ (xs : List Nat) (S : Sto), I S → (∀ x ∈ xs, ∀ S, I S → ∃ (b : Bool) (e3 : Eng.Env) (S2 : Sto), F (g x) e0 S = .ok (if b then [g x] else []) e3 S2 ∧ wipeE e3 own = e0 ∧ I S2) →
    ∃ (ys : List Nat) (S2 : Sto), ys.Sublist xs ∧ compL own F (xs.map g) e0 S = .ok (ys.map g) e0 S2 ∧ I S2
  | [], S, hS, _ => ⟨[], S, List.Sublist.refl _, rfl, hS⟩
  | x :: xs, S, hS, hx => by
    obtain ⟨b, e3, S1, q1, q2, q3⟩ := hx x List.mem_cons_self S hS
    obtain ⟨ys, S2, h1, h2, h3⟩ := compL_sub F g e0 I xs S1 q3 fun y hy => hx y (List.mem_cons_of_mem _ hy)
    refine ⟨if b then x :: ys else ys, S2, ?_, ?_, h3⟩
    · cases b with
      | true => exact h1.cons₂ x
      | false => exact h1.cons x
    · rw [List.map_cons]
      show (F (g x) >>= _) e0 S = _
      rw [bind_at q1]
      show (compL own F (xs.map g) >>= _) (wipeE e3 own) S1 = _
      rw [q2, bind_at h2]
      cases b <;> rfl
theorem compL_gen {α β : Type} {own : List Nat} (F : D → M (List D)) (f : α → D) (g : β → D) (P : β → Prop) (e0 : Eng.Env) (I : Sto → Prop) : ∀ (xs : List α) (S : Sto), I S → (∀ x ∈ xs, ∀ S, I S → ∃ (b : β) (e3 : Eng.Env) (S2 : Sto), F (f x) e0 S = .ok [g b] e3 S2 ∧ wipeE e3 own = e0 ∧ I S2 ∧ P b) →
    ∃ (ys : List β) (S2 : Sto), ys.length = xs.length ∧ (∀ y ∈ ys, P y) ∧ compL own F (xs.map f) e0 S = .ok (ys.map g) e0 S2 ∧ I S2
  | [], S, hS, _ => ⟨[], S, rfl, fun y hy => absurd hy (by simp), rfl, hS⟩
  | x :: xs, S, hS, hx => by
    obtain ⟨b, e3, S1, q1, q2, q3, q4⟩ := hx x List.mem_cons_self S hS
    obtain ⟨ys, S2, h1, h1', h2, h3⟩ := compL_gen F f g P e0 I xs S1 q3 fun y hy => hx y (List.mem_cons_of_mem _ hy)
    refine ⟨b :: ys, S2, by rw [List.length_cons, List.length_cons, h1], fun y hy => ?_, ?_, h3⟩
    · rcases List.mem_cons.mp hy with e | hy
      · rw [e]; exact q4
      · exact h1' y hy
    · rw [List.map_cons]
      show (F (f x) >>= _) e0 S = _
      rw [bind_at q1]
      show (compL own F (xs.map f) >>= _) (wipeE e3 own) S1 = _
      rw [q2, bind_at h2]
      rfl
section
variable {G : Gm} {S : Sto}
def DrawG (G : Gm) (n : Nat) : Prop := ∀ S, Hand S → ∃ (m : Nat) (S' : Sto), G.call 22 [.ref 0, .int (n : Nat)] S = .ok (.int (m : Nat)) S' ∧ Hand S' ∧ m < n
def ev27 (c : Nat) (m r : Slot) (d o : Nat) (p y u : Slot) : Eng.Env := [.val (.ref 0), .val (.int (c : Nat)), m, r, .val (.int (d : Nat)), .val (.int (o : Nat)), p, y, u]
theorem q270 {c d o : Nat} {m r p y : Slot} (hc : c ≤ 1000) (hS : Hand S) (hd : DrawG G o) : ∃ (ys : List Nat) (S2 : Sto), ys.Sublist (List.range' 0 c) ∧ evE G q27_0 (ev27 c m r d o p y .emp) S = .ok (.lst (il ys)) (ev27 c m r d o p y .emp) S2 ∧ Hand S2 := by
  obtain ⟨ys, S2, h1, h2, h3⟩ := compL_sub (own := [8]) (turnC G (.name 8) (some (.cmp .eq (.call 22 [.var 0, .var 5]) (.int 0))) (.var 8)) (fun k => D.int (k : Nat)) (ev27 c m r d o p y .emp) Hand (List.range' 0 c) S hS (fun x hx S hS => by
    obtain ⟨j, S', a1, a2, a3⟩ := hd S hS
    refine ⟨decide (j = 0), ev27 c m r d o p y (.val (.int (x : Nat))), S', turnC_if (e2 := ev27 c m r d o p y (.val (.int (x : Nat)))) (S1 := S') rfl ?_ (fun _ => by simp [ev27]) (fun _ => ⟨rfl, rfl⟩), rfl, a2⟩
    have hq : deq (.int (j : Nat)) (.int 0) = some (decide (j = 0)) := by
      rw [deq_int]
      refine congrArg some ?_
      rw [decide_eq_decide]
      omega
    generalize decide (j = 0) = b at hq ⊢
    simp [ev27, a1, hq])
  refine ⟨ys, S2, h1, ?_, h3⟩
  have hl := h1.length_le
  rw [List.length_range'] at hl
  have hz : ys.length ≤ 1000 := by omega
  have hi : evI G (.rng [.var 1]) (ev27 c m r d o p y .emp) S = .ok ((List.range' 0 c).map fun k => D.int (k : Nat)) (ev27 c m r d o p y .emp) S := rngS hc (by simp [ev27])
  exact comp_of (own := [8]) (t := .name 8) (c := some (.cmp .eq (.call 22 [.var 0, .var 5]) (.int 0))) (elt := .var 8) hi h2 (by rw [List.length_map]; exact Nat.le_trans hz line1000)
theorem q271 {c d o : Nat} {m r p : Slot} (hc : c ≤ 16) (hd3 : d ≤ 3) (hS : Hand S) (hd : DrawG G o) : ∃ (rs : List (List Nat)) (S2 : Sto), rs.length = d ∧ (∀ r ∈ rs, lotB c r = true) ∧ evE G q27_1 (ev27 c m r d o p .emp .emp) S = .ok (.lst (rs.map sD)) (ev27 c m r d o p .emp .emp) S2 ∧ Hand S2 := by
  obtain ⟨rs, S2, h1, h2, h3, h4⟩ := compL_gen (own := [7]) (turnC G (.name 7) none (.blt .tuple [q27_0])) (fun k => D.int (k : Nat)) sD (fun r => lotB c r = true) (ev27 c m r d o p .emp .emp) Hand (List.range' 0 d) S hS (fun x hx S hS => by
    obtain ⟨ys, S', a1, a2, a3⟩ := q270 (G := G) (S := S) (c := c) (d := d) (o := o) (m := m) (r := r) (p := p) (y := .val (.int (x : Nat))) (by omega) hS hd
    exact ⟨ys, ev27 c m r d o p (.val (.int (x : Nat))) .emp, S', turnC_one rfl (tup_of a2), rfl, a3, lot_sub a1⟩)
  rw [List.length_range'] at h1
  refine ⟨rs, S2, h1, h2, ?_, h4⟩
  have hz : rs.length ≤ 1000 := by omega
  have hi : evI G (.rng [.var 4]) (ev27 c m r d o p .emp .emp) S = .ok ((List.range' 0 d).map fun k => D.int (k : Nat)) (ev27 c m r d o p .emp .emp) S := rngS (by omega) (by simp [ev27])
  exact comp_of (own := [7]) (t := .name 7) (c := none) (elt := .blt .tuple [q27_0]) hi h3 (by rw [List.length_map]; exact Nat.le_trans hz line1000)
theorem l27 {c d o n : Nat} (hc : c ≤ 16) (hd3 : d ≤ 3) (hd : DrawG G o) (hS : Hand S) (hn : n ≤ 5) : ∃ (p : Pl) (m r : Slot) (S2 : Sto), loopF (turnF (.name 2) (evSs G [.put 3 false (q27_1), .app 6 (.blt .tuple [.bor 3])])) ((List.range' 0 n).map fun k => D.int (k : Nat)) (ev27 c .emp .emp d o (.own []) .emp .emp) S = .ok .nx (ev27 c m r d o (.own (p.map mD)) .emp .emp) S2 ∧ Hand S2 ∧ p.length = n ∧ ∀ m ∈ p, m.length = d ∧ ∀ r ∈ m, lotB c r = true := by
  obtain ⟨e2, S2, h1, h2, p, m, r, h3, h4, h5⟩ := loopF_nat (turnF (.name 2) (evSs G [.put 3 false (q27_1), .app 6 (.blt .tuple [.bor 3])])) n (fun i e S => Hand S ∧ ∃ (p : Pl) (m r : Slot), e = ev27 c m r d o (.own (p.map mD)) .emp .emp ∧ p.length = i ∧ ∀ m ∈ p, m.length = d ∧ ∀ r ∈ m, lotB c r = true) (ev27 c .emp .emp d o (.own []) .emp .emp) S ⟨hS, [], .emp, .emp, rfl, rfl, fun m h => nomatch h⟩ (fun i e S hi ⟨hS, p, m, r, he, hl, hp⟩ => by
    subst he
    obtain ⟨rs, S', a1, a2, a3, a4⟩ := q271 (G := G) (S := S) (c := c) (d := d) (o := o) (m := .val (.int (i : Nat))) (r := r) (p := .own (p.map mD)) hc hd3 hS hd
    refine ⟨.nx, ev27 c (.val (.int (i : Nat))) (.val (.lst (rs.map sD))) d o (.own ((p ++ [rs]).map mD)) .emp .emp, S', ?_, .inl rfl, a4, p ++ [rs], _, _, rfl, by rw [List.length_append, List.length_singleton, hl], fun m hm => ?_⟩
    · refine (turnF_at (e2 := ev27 c (.val (.int (i : Nat))) r d o (.own (p.map mD)) .emp .emp) rfl).trans ?_
      refine (evSs_step (put_v (i := 3) a3)).trans ?_
      refine evSs_one ((app_own (i := 6) (d := mD rs) rfl ?_ (by rw [List.length_map]; omega)).trans ?_)
      · show evE G (.blt .tuple [.bor 3]) (ev27 c (.val (.int (i : Nat))) (.val (.lst (rs.map sD))) d o (.own (p.map mD)) .emp .emp) S' = .ok (.tup (rs.map sD)) (ev27 c (.val (.int (i : Nat))) (.val (.lst (rs.map sD))) d o (.own (p.map mD)) .emp .emp) S'
        generalize rs.map sD = L
        generalize p.map mD = L2
        simp [ev27]
      · rw [List.map_append]
        rfl
    · rcases List.mem_append.mp hm with h | h
      · exact hp m h
      · rw [List.mem_singleton.mp h]
        exact ⟨a1, a2⟩)
  subst h3
  exact ⟨p, m, r, S2, h1, h2, h4, h5⟩
theorem w27 {x y : Slot} {p : List D} {c : Slot} {d o u v : Slot} : endR (evSs G [.ret (.blt .tuple [.bor 6])] [c, x, y, u, d, o, .own p, v, .emp] S) = .ok (.tup p) S := by simp
end
section
variable {Γ : Nat → Gm} {k : Nat} {S : Sto}
theorem drawG (hR : Sem Pg Γ) {n : Nat} (h1 : 1 ≤ n) (h2 : n ≤ 1000) : DrawG (Γ (k + 1)) n := fun S hS => r_nat hR hS h1 h2
theorem r_law_plan (hR : Sem Pg Γ) {c : Nat} (hc : c ≤ 16) (hS : Hand S) : ∃ (p : Pl) (d : Nat) (S' : Sto), (Γ (k + 3)).call 27 [.ref 0, .int (c : Nat)] S = .ok (pD p) S' ∧ Hand S' ∧ okP c d p := by
  rw [hR.step _ 27 f27 _ _ rfl, run_b b27 [.val (.ref 0), .val (.int (c : Nat)), .emp, .emp, .emp, .emp, .emp, .emp, .emp] rfl rfl rfl]
  obtain ⟨d, S1, a1, a2, a3⟩ := drawG (k := k + 1) hR (n := 3) (by decide) (by decide) S hS
  obtain ⟨x, S2, b1, b2', b3⟩ := r_some hR (k := k) a2 (l := [.int 2, .int 2, .int 4]) (by decide) (by decide)
  obtain ⟨o, rfl, ho1, ho2⟩ : ∃ o : Nat, x = .int (o : Nat) ∧ 1 ≤ o ∧ o ≤ 4 := by
    simp only [List.mem_cons, List.not_mem_nil, or_false] at b3
    rcases b3 with e | e | e
    · exact ⟨2, e, by decide, by decide⟩
    · exact ⟨2, e, by decide, by decide⟩
    · exact ⟨4, e, by decide, by decide⟩
  have hd := drawG (k := k + 1) hR (n := o) ho1 (by omega)
  obtain ⟨n, S3, c1, c2, c3⟩ := drawG (k := k + 1) hR (n := 5) (by decide) (by decide) S2 b2'
  generalize Γ (k + 2) = G at a1 b1 c1 hd ⊢
  obtain ⟨p, m, r, S4, h1, h2, h3, h4⟩ := l27 (G := G) (S := S3) (c := c) (d := 1 + d) (o := o) (n := n) hc (by omega) hd c2 (by omega)
  refine ⟨p, 1 + d, S4, ?_, h2, by omega, by omega, by omega, h4⟩
  have q1 : evS G (.parL [(4, false), (5, false), (6, true)] [.bin .add (.int 1) (.call 22 [.var 0, .int 3]), .call 23 [.var 0, .lst [.int 2, .int 2, .int 4]], .lst []]) [.val (.ref 0), .val (.int (c : Nat)), .emp, .emp, .emp, .emp, .emp, .emp, .emp] S = .ok .nx (ev27 c .emp .emp (1 + d) o (.own []) .emp .emp) S2 := by
    have a1' : G.call 22 [.ref 0, .int 3] S = .ok (.int (d : Nat)) S1 := a1
    simp [ev27, a1', b1]
  have q2 : evS G l27_2 (ev27 c .emp .emp (1 + d) o (.own []) .emp .emp) S2 = .ok .nx (ev27 c m r (1 + d) o (.own (p.map mD)) .emp .emp) S4 := by
    have hi : evI G (.rng [.call 22 [.var 0, .int 5]]) (ev27 c .emp .emp (1 + d) o (.own []) .emp .emp) S2 = .ok ((List.range' 0 n).map fun k => D.int (k : Nat)) (ev27 c .emp .emp (1 + d) o (.own []) .emp .emp) S3 := rng1 (w := .non) (by omega) (by
      have c1' : G.call 22 [.ref 0, .int 5] S2 = .ok (.int (n : Nat)) S3 := c1
      simp [ev27, c1'])
    unfold l27_2
    rw [evS_fr, hi]
    exact h1
  unfold b27 pD
  rw [evSs_step q1, evSs_step q2]
  exact w27
end
end Law

set_option maxHeartbeats 4000000
/-! mice: lots seen so, held against the law's own -/
namespace Law
open PySem Eng PyProof.Rows
theorem fday_lt {m : List (List Nat)} {b : List Nat} {n : Nat} (h : fday m b = some n) : n < m.length := by
  unfold fday at h
  have h1 : n ∈ fdays m b := List.mem_of_mem_head? (by rw [h]; rfl)
  unfold fdays at h1
  obtain ⟨x, hx, e⟩ := List.mem_map.mp h1
  obtain ⟨i, hi, e2⟩ := enP_at m 0 x (List.mem_filter.mp hx).1
  rw [e2] at e
  simp at e
  omega
theorem okP.day {c d : Nat} {p : Pl} (h : okP c d p) : ∀ m ∈ p, m.length = dayN p := fun m hm => by
  cases p with
  | nil => cases hm
  | cons y r => exact (h.2.2.2 m hm).1.trans (h.2.2.2 y List.mem_cons_self).1.symm
theorem seen_ok {c d : Nat} {p : Pl} {b : List Nat} (h : okP c d p) : okS (dayN p) (seen p b) := fun o ho n e => by
  subst e
  unfold seen at ho
  obtain ⟨m, hm, e⟩ := List.mem_map.mp ho
  rw [← h.day m hm]
  exact fday_lt e
section
variable {G : Gm} {S : Sto}
def ev35 (c : Nat) (p : D) (sn du dr bd bs ds mn : Slot) : Eng.Env := [.val (.ref 0), .val (.int (c : Nat)), .val p, sn, du, dr, bd, bs, ds, mn, .emp, .emp]
def ev35m (c : Nat) (p : D) (sn du dr bd bs ds mn mo lo : Slot) : Eng.Env := [.val (.ref 0), .val (.int (c : Nat)), .val p, sn, du, dr, bd, bs, ds, mn, mo, lo]
def SomeG (G : Gm) : Prop := ∀ S, Hand S → ∀ l : List D, 1 ≤ l.length → l.length ≤ 1000 → ∃ x S', G.call 23 [.ref 0, .lst l] S = .ok x S' ∧ Hand S' ∧ x ∈ l
theorem rng_dn {n : Nat} (h : n ≤ 3) : dfre .rng [.int (n : Nat)] = some (.lst ((List.range' 0 n).map fun k => D.int (k : Nat))) := by
  have h1 : drng [.int (n : Nat)] = some ((List.range' 0 n).map fun k => D.int (k : Nat)) := drng_nat (by omega)
  have h2 : dlst ((List.range' 0 n).map fun k => D.int (k : Nat)) = some (.lst ((List.range' 0 n).map fun k => D.int (k : Nat))) := dlst_le (by rw [List.length_map, List.length_range']; omega)
  have h3 : dfre .rng [.int (n : Nat)] = (drng [.int (n : Nat)]).bind dlst := by rw [dfre]
  rw [h3, h1, Option.bind_some, h2]
theorem cat_dn {n : Nat} (h : n ≤ 3) : dfre .cat [.lst [.non], .lst ((List.range' 0 n).map fun k => D.int (k : Nat))] = some (.lst (D.non :: (List.range' 0 n).map fun k => D.int (k : Nat))) := by
  have hl : ((List.range' 0 n).map fun k => D.int (k : Nat)).length ≤ 3 := by rw [List.length_map, List.length_range']; exact h
  generalize (List.range' 0 n).map (fun k => D.int (k : Nat)) = L at hl ⊢
  have := cat_lst (a := [.non]) (b := L) (Nat.le_trans (show [D.non].length + L.length ≤ 1000 by simp; omega) line1000)
  exact this
theorem some_e {G : Gm} {c : Nat} {p x y : D} {L : List D} {bd bs mn : Slot} {z : D} {S S' : Sto} (hr : dfre .rng [z] = some (.lst L)) (hcat : dfre .cat [.lst [.non], .lst L] = some (.lst (D.non :: L))) (a1 : G.call 23 [.ref 0, .lst (D.non :: L)] S = .ok y S') : evE G (.call 23 [.var 0, .fre .cat [.lst [.non], .fre .rng [.var 8]]]) (ev35m c p .emp .emp .emp bd bs (.val z) mn (.val x) .emp) S = .ok y (ev35m c p .emp .emp .emp bd bs (.val z) mn (.val x) .emp) S' := by
  simp [ev35m, hr, hcat, a1]
theorem q350 {c : Nat} {p : Pl} {dn : Nat} {bd bs mn : Slot} (hd : 1 ≤ dn ∧ dn ≤ 3) (hp : p.length ≤ 5) (hS : Hand S) (hG : SomeG G) : ∃ (s : List (Option Nat)) (S2 : Sto), s.length = p.length ∧ okS dn s ∧ evE G q35_0 (ev35 c (pD p) .emp .emp .emp bd bs (.val (.int (dn : Nat))) mn) S = .ok (.lst (s.map oD)) (ev35 c (pD p) .emp .emp .emp bd bs (.val (.int (dn : Nat))) mn) S2 ∧ Hand S2 := by
  obtain ⟨s, S2, h1, h2, h3, h4⟩ := compL_gen (own := [10]) (turnC G (.name 10) none (.call 23 [.var 0, .fre .cat [.lst [.non], .fre .rng [.var 8]]])) mD oD (fun o => ∀ n, o = some n → n < dn) (ev35 c (pD p) .emp .emp .emp bd bs (.val (.int (dn : Nat))) mn) Hand p S hS (fun x hx S hS => by
    obtain ⟨y, S', a1, a2, a3⟩ := hG S hS (D.non :: (List.range' 0 dn).map fun k => D.int (k : Nat)) (by simp) (by simp; omega)
    have hr := rng_dn (n := dn) hd.2
    have hcat := cat_dn (n := dn) hd.2
    have hy : ∃ o : Option Nat, y = oD o ∧ ∀ n, o = some n → n < dn := by
      rcases List.mem_cons.mp a3 with e | e
      · exact ⟨none, e, fun n h => nomatch h⟩
      · obtain ⟨k, hk, e⟩ := List.mem_map.mp e
        refine ⟨some k, e.symm, fun n h => ?_⟩
        cases h
        have := (List.mem_range'_1.mp hk).2
        omega
    obtain ⟨o, e, ho⟩ := hy
    subst e
    refine ⟨o, ev35m c (pD p) .emp .emp .emp bd bs (.val (.int (dn : Nat))) mn (.val (mD x)) .emp, S', turnC_one (e2 := ev35m c (pD p) .emp .emp .emp bd bs (.val (.int (dn : Nat))) mn (.val (mD x)) .emp) rfl ?_, rfl, a2, ho⟩
    exact some_e hr hcat a1)
  refine ⟨s, S2, h1, fun o ho => h2 o ho, ?_, h4⟩
  have hz : s.length ≤ 1000 := by omega
  have hi : evI G (.seq (.bor 2)) (ev35 c (pD p) .emp .emp .emp bd bs (.val (.int (dn : Nat))) mn) S = .ok (p.map mD) (ev35 c (pD p) .emp .emp .emp bd bs (.val (.int (dn : Nat))) mn) S := by
    have hd : dseq (pD p) = some (p.map mD) := rfl
    generalize pD p = pd at hd ⊢
    simp [ev35, hd]
  exact comp_of (own := [10]) (t := .name 10) (c := none) (elt := .call 23 [.var 0, .fre .cat [.lst [.non], .fre .rng [.var 8]]]) hi h3 (by rw [List.length_map]; exact Nat.le_trans hz line1000)
theorem q351 {c : Nat} {p : D} {s : List (Option Nat)} {lots : List (List Nat)} {f : List Nat → List (Option Nat)} {du dr bd ds mn : Slot} (hl : lots.length ≤ 1000) (hc : ∀ y ∈ lots, G.call 28 [p, sD y] S = .ok (oL (f y)) S) : evE G q35_1 (ev35 c p (.val (oL s)) du dr bd (.val (.lst (lots.map sD))) ds mn) S = .ok (.lst ((lots.filter fun y => decide (f y = s)).map sD)) (ev35 c p (.val (oL s)) du dr bd (.val (.lst (lots.map sD))) ds mn) S := by
  have hi : evI G (.seq (.bor 7)) (ev35 c p (.val (oL s)) du dr bd (.val (.lst (lots.map sD))) ds mn) S = .ok (lots.map sD) (ev35 c p (.val (oL s)) du dr bd (.val (.lst (lots.map sD))) ds mn) S := by
    generalize oL s = sd
    generalize lots.map sD = L
    simp [ev35]
  refine comp_filG (own := [11]) (t := .name 11) (ce := .cmp .eq (.call 28 [.var 2, .var 11]) (.bor 3)) (elt := .var 11) sD (fun y => decide (f y = s)) sD (fun y => ev35m c p (.val (oL s)) du dr bd (.val (.lst (lots.map sD))) ds mn .emp (.val (sD y))) hi (fun x hx => rfl) (fun x hx => ?_) (fun x hx _ => ?_) (fun x hx => rfl) rfl (Nat.le_trans hl line1000)
  · have h1 := hc x hx
    have h2 := deq_oL (f x) s
    generalize decide (f x = s) = b at h2 ⊢
    generalize oL s = sd at h2 ⊢
    generalize oL (f x) = fd at h1 h2
    generalize sD x = sx at h1 ⊢
    generalize lots.map sD = L
    simp [ev35m, h1, h2]
  · generalize oL s = sd
    generalize sD x = sx
    generalize lots.map sD = L
    simp [ev35m]
/-- a turn: both tell the same lots -/
theorem w35i {c : Nat} {p s L mn : D} {q : E} {Ls : List D} {tx : PySem.Str} {du dr bd bs ds : Slot} (hq : evE G q (ev35 c p (.val s) du dr bd bs ds (.val mn)) S = .ok (.lst Ls) (ev35 c p (.val s) du dr bd bs ds (.val mn)) S) (hc : G.call 15 [.int (c : Nat), p, mn, s] S = .ok (.tup Ls) S) (hr : dblt .repr [.tup Ls] = some (.str tx)) (hs : PyData.strOk tx = true) :
    evSs G [.put 4 false (.blt .tuple [q]), .ifs (.cmp .ne (.blt .repr [.call 15 [.var 1, .var 2, .var 9, .var 3]]) (.blt .repr [.bor 4])) [.ret (.bl false)] []] (ev35 c p (.val s) du dr bd bs ds (.val mn)) S = .ok .nx (ev35 c p (.val s) (.val (.tup Ls)) dr bd bs ds (.val mn)) S := by
  refine (evSs_step (put_v (i := 4) (tup_of hq))).trans ?_
  have hd := deq_str hs
  show evSs G _ (ev35 c p (.val s) (.val (.tup Ls)) dr bd bs ds (.val mn)) S = _
  generalize D.tup Ls = T at hc hr ⊢
  refine evSs_one ?_
  simp [ev35, hc, hr, hd]
theorem l35 {c : Nat} {p : D} {lots : List (List Nat)} {f : List Nat → List (Option Nat)} {many : Nat} {bd ds : Slot} {s1 s2 : List (Option Nat)} (hl : lots.length ≤ 100) (hc : ∀ y ∈ lots, G.call 28 [p, sD y] S = .ok (oL (f y)) S)
    (h15 : ∀ s, s = s1 ∨ s = s2 → G.call 15 [.int (c : Nat), p, .int (many : Nat), oL s] S = .ok (.tup ((lots.filter fun y => decide (f y = s)).map sD)) S) (hx : ∀ y ∈ lots, y.length ≤ 2 ∧ ∀ x ∈ y, x < 100) {b : List Nat} (hbd : bd = .val (sD b)) (h1 : f b = s1) (hb : b ∈ lots) :
    ∃ sn du, evS G l35_2 (ev35 c p .emp .emp (.val (oL s2)) bd (.val (.lst (lots.map sD))) ds (.val (.int (many : Nat)))) S = .ok .nx (ev35 c p sn du (.val (oL s2)) bd (.val (.lst (lots.map sD))) ds (.val (.int (many : Nat)))) S := by
  have turn : ∀ s, s = s1 ∨ s = s2 → ∀ (sn du : Slot), ∃ du', evSs G [.put 4 false (.blt .tuple [q35_1]), .ifs (.cmp .ne (.blt .repr [.call 15 [.var 1, .var 2, .var 9, .var 3]]) (.blt .repr [.bor 4])) [.ret (.bl false)] []] (ev35 c p (.val (oL s)) du (.val (oL s2)) bd (.val (.lst (lots.map sD))) ds (.val (.int (many : Nat)))) S = .ok .nx (ev35 c p (.val (oL s)) du' (.val (oL s2)) bd (.val (.lst (lots.map sD))) ds (.val (.int (many : Nat)))) S := fun s hs sn du => by
    have hq := q351 (G := G) (S := S) (c := c) (p := p) (s := s) (lots := lots) (f := f) (du := du) (dr := .val (oL s2)) (bd := bd) (ds := ds) (mn := .val (.int (many : Nat))) (by omega) hc
    have hf : ∀ y ∈ lots.filter fun y => decide (f y = s), y ∈ lots := fun y hy => (List.mem_filter.mp hy).1
    have hz : (lots.filter fun y => decide (f y = s)).length ≤ 100 := Nat.le_trans (List.length_filter_le _ _) hl
    have hsub : ∀ y ∈ lots.filter fun y => decide (f y = s), y.length ≤ 2 ∧ ∀ x ∈ y, x < 100 := fun y hy => hx y (hf y hy)
    have e15 := h15 s hs
    generalize (lots.filter fun y => decide (f y = s)) = fl at hq hz hsub e15
    have hok : okR 2 (.tup (fl.map sD)) = true := List.all_eq_true.mpr fun d hd => by
      obtain ⟨y, hy, rfl⟩ := List.mem_map.mp hd
      refine List.all_eq_true.mpr fun d hd => ?_
      obtain ⟨x, hx, rfl⟩ := List.mem_map.mp hd
      have := (hsub y hy).2 x hx
      refine decide_eq_true ?_
      rw [Int.natAbs_natCast]
      exact Nat.lt_trans this (by decide)
    have hnd : nd (.tup (fl.map sD)) ≤ 10000 := by
      rw [nd_tup]
      have h2 : ∀ d ∈ fl.map sD, nd d ≤ 82 := fun d hd => by
        obtain ⟨y, hy, rfl⟩ := List.mem_map.mp hd
        show nd (.tup (il y)) ≤ 82
        rw [nd_tup]
        have h3 : ∀ d ∈ il y, nd d ≤ 40 := fun d hd => by
          obtain ⟨x, _, rfl⟩ := List.mem_map.mp hd
          rw [nd]
          · exact Nat.le_refl _
          · intro _ z; cases z
          · intro _ z; cases z
        have h4 := ndL_le h3
        rw [il_len] at h4
        have := (hsub y hy).1
        have h5 : (40 + 1) * y.length ≤ 41 * 2 := Nat.mul_le_mul_left _ this
        omega
      have h6 := ndL_le h2
      rw [List.length_map] at h6
      have h7 : (82 + 1) * fl.length ≤ 83 * 100 := Nat.mul_le_mul_left _ hz
      omega
    obtain ⟨tx, r1, r2⟩ := okR_rp hok (by decide) hnd
    have hr : dblt .repr [.tup (fl.map sD)] = some (.str tx) := by
      show (D.rpO (.tup (fl.map sD))).map D.str = _
      rw [r1]
      rfl
    exact ⟨_, w35i (L := .non) hq e15 hr r2⟩
  have hi : evI G (.seq (.tup [.call 28 [.var 2, .var 6], .var 5])) (ev35 c p .emp .emp (.val (oL s2)) bd (.val (.lst (lots.map sD))) ds (.val (.int (many : Nat)))) S = .ok [oL s1, oL s2] (ev35 c p .emp .emp (.val (oL s2)) bd (.val (.lst (lots.map sD))) ds (.val (.int (many : Nat)))) S := by
    subst hbd
    have h28 := hc b hb
    rw [h1] at h28
    generalize oL s1 = o1 at h28 ⊢
    generalize oL s2 = o2
    generalize sD b = sb at h28 ⊢
    generalize lots.map sD = L
    simp [ev35, h28]
  obtain ⟨d1, t1⟩ := turn s1 (.inl rfl) .emp .emp
  obtain ⟨d2, t2⟩ := turn s2 (.inr rfl) (.val (oL s1)) d1
  refine ⟨.val (oL s2), d2, ?_⟩
  unfold l35_2
  rw [evS_fr, hi, Res.bind_ok]
  show M.bind (turnF (.name 3) (evSs G _) (oL s1)) _ (ev35 c p .emp .emp (.val (oL s2)) bd (.val (.lst (lots.map sD))) ds (.val (.int (many : Nat)))) S = _
  unfold M.bind
  rw [turnF_at (e2 := ev35 c p (.val (oL s1)) .emp (.val (oL s2)) bd (.val (.lst (lots.map sD))) ds (.val (.int (many : Nat)))) rfl, t1]
  show M.bind (turnF (.name 3) (evSs G _) (oL s2)) _ (ev35 c p (.val (oL s1)) d1 (.val (oL s2)) bd (.val (.lst (lots.map sD))) ds (.val (.int (many : Nat)))) S = _
  unfold M.bind
  rw [turnF_at (e2 := ev35 c p (.val (oL s2)) d1 (.val (oL s2)) bd (.val (.lst (lots.map sD))) ds (.val (.int (many : Nat)))) rfl, t2]
  rfl
theorem w35e {c : Nat} {p b sd mn : D} {lots : List D} {sn du dr bs ds : Slot} (h1 : G.call 11 [.int (c : Nat), p, b] S = .ok sd S) (h2 : G.call 15 [.int (c : Nat), p, mn, sd] S = .ok (.tup lots) S) (h3 : dIn b lots = some true) : endR (evSs G [.ret (.cmp .inn (.bor 6) (.call 15 [.var 1, .var 2, .var 9, .call 11 [.var 1, .var 2, .var 6]]))] (ev35 c p sn du dr (.val b) bs ds (.val mn)) S) = .ok (.bl true) S := by
  have h4 : dcmp .inn b (.tup lots) = some true := h3
  generalize D.tup lots = T at h2 h4
  simp [ev35, h1, h2, h4]
end
section
variable {Γ : Nat → Gm} {k : Nat} {S : Sto}
theorem someG (hR : Sem Pg Γ) : SomeG (Γ (k + 2)) := fun S hS l h1 h2 => r_some hR hS h1 (by omega)
theorem bads_len7 {c m : Nat} (h : c ≤ 7) (hm : 2 ≤ c) : (bads c m).length ≤ 100 ∧ 1 ≤ (bads c m).length := by
  unfold bads
  split
  · rw [List.length_map, List.length_range']; omega
  · constructor
    · refine Nat.le_trans (flat_len (b := 7) fun i _ => ?_) ?_
      · rw [List.length_map, List.length_range']; omega
      · rw [List.length_range']
        have := Nat.mul_le_mul_left 7 h
        omega
    · obtain ⟨n, rfl⟩ : ∃ n, c = n + 2 := ⟨c - 2, by omega⟩
      rw [List.range'_succ, List.flatMap_cons, List.length_append, List.length_map, List.length_range']
      omega
theorem r_bads_right (hR : Sem Pg Γ) {c d : Nat} {p : Pl} (hp : okP c d p) (hc1 : 2 ≤ c) (hc2 : c ≤ 7) (hS : Hand S) : ∃ S', (Γ (k + 10)).call 35 [.ref 0, .int (c : Nat), pD p] S = .ok (.bl true) S' ∧ Hand S' := by
  rw [hR.step _ 35 f35 _ _ rfl, run_b b35 (ev35 c (pD p) .emp .emp .emp .emp .emp .emp .emp) rfl rfl rfl]
  obtain ⟨n, S1, a1, a2, a3⟩ := drawG (k := k + 8) hR (n := 2) (by decide) (by decide) S hS
  have pk : Pk c d (1 + n) p := ⟨hp, hc1, by omega, by omega, by omega⟩
  obtain ⟨l1, l2⟩ := bads_len7 (c := c) (m := 1 + n) hc2 hc1
  have c29 := r_lbads (k := k + 8) (S := S1) hR (c := c) (m := 1 + n) (by omega)
  have hG := someG (k := k + 7) hR
  obtain ⟨x, S2, b1, b2', b3⟩ := hG S1 a2 ((bads c (1 + n)).map sD) (by rw [List.length_map]; exact l2) (by rw [List.length_map]; omega)
  obtain ⟨b, hb, e⟩ := List.mem_map.mp b3
  subst e
  have hdp := hp.day
  have hdn : 1 ≤ (if p = [] then 1 else dayN p) ∧ (if p = [] then 1 else dayN p) ≤ 3 := by
    obtain ⟨h1, h2, h3, h4⟩ := hp
    cases p with
    | nil => simp
    | cons y r =>
      have := (h4 y List.mem_cons_self).1
      simp [dayN]
      omega
  obtain ⟨s, S3, s1, s2, s3, s4⟩ := q350 (G := Γ (k + 9)) (S := S2) (c := c) (p := p) (dn := if p = [] then 1 else dayN p) (bd := .val (sD b)) (bs := .val (.lst ((bads c (1 + n)).map sD))) (mn := .val (.int ((1 + n : Nat) : Nat))) hdn hp.1 b2' hG
  have s2' : okS (dayN p) s := by
    cases p with
    | nil =>
      have : s = [] := List.eq_nil_of_length_eq_zero s1
      subst this
      exact fun o ho => nomatch ho
    | cons y r => exact s2
  have h28 : ∀ y ∈ bads c (1 + n), (Γ (k + 9)).call 28 [pD p, sD y] S3 = .ok (oL (seen p y)) S3 := fun y hy => r_lseen (k := k + 8) hR hp.len.1 hp.len.2 (Nat.le_trans (bads_mem (by omega) hy).1 (by decide))
  have h15 : ∀ t, t.length = p.length → okS (dayN p) t → (Γ (k + 9)).call 15 [.int (c : Nat), pD p, .int ((1 + n : Nat) : Nat), oL t] S3 = .ok (.tup (((bads c (1 + n)).filter fun y => decide (seen p y = t)).map sD)) S3 := fun t q1 q2 => r_bad_for (k := k) hR pk q1 q2
  have hsl : (seen p b).length = p.length := List.length_map _
  have h11 := r_seen_by (k := k + 1) (S := S3) hR pk hb
  generalize hGG : Γ (k + 9) = G at a1 c29 b1 s3 h28 h15 h11 ⊢
  obtain ⟨sn, du, hl⟩ := l35 (G := G) (S := S3) (c := c) (p := pD p) (lots := bads c (1 + n)) (f := seen p) (many := 1 + n) (bd := .val (sD b)) (ds := .val (.int ((if p = [] then 1 else dayN p : Nat) : Nat))) (s1 := seen p b) (s2 := s) l1 h28 (fun t ht => by
    rcases ht with e | e <;> subst e
    · exact h15 _ hsl (seen_ok hp)
    · exact h15 _ s1 s2') (fun y hy => ⟨(bads_mem (by omega) hy).1, fun x hx => by have := (bads_mem (by omega) hy).2.1 x hx; omega⟩) rfl rfl hb
  refine ⟨S3, ?_, s4⟩
  have q1 : evS G (.put 9 false (.bin .add (.int 1) (.call 22 [.var 0, .int 2]))) (ev35 c (pD p) .emp .emp .emp .emp .emp .emp .emp) S = .ok .nx (ev35 c (pD p) .emp .emp .emp .emp .emp .emp (.val (.int ((1 + n : Nat) : Nat)))) S1 := by
    have a1' : G.call 22 [.ref 0, .int 2] S = .ok (.int (n : Nat)) S1 := a1
    generalize pD p = pd
    simp [ev35, a1']
  have day := day_e (G := G) (S := S1) (p := p) (e := ev35 c (pD p) .emp .emp .emp .emp .emp .emp (.val (.int ((1 + n : Nat) : Nat)))) (i := 2) (z := 1) (ze := .int 1) rfl (by simp)
  have q2 : evS G (.parL [(7, false), (8, false)] [.call 29 [.var 1, .var 9], .ite (.cmp .gt (.blt .len [.bor 2]) (.int 0)) (.blt .len [.idx (.bor 2) (.int 0)]) (.int 1)]) (ev35 c (pD p) .emp .emp .emp .emp .emp .emp (.val (.int ((1 + n : Nat) : Nat)))) S1 = .ok .nx (ev35 c (pD p) .emp .emp .emp .emp (.val (.lst ((bads c (1 + n)).map sD))) (.val (.int ((if p = [] then 1 else dayN p : Nat) : Nat))) (.val (.int ((1 + n : Nat) : Nat)))) S1 := by
    have q0 : evE G (.call 29 [.var 1, .var 9]) (ev35 c (pD p) .emp .emp .emp .emp .emp .emp (.val (.int ((1 + n : Nat) : Nat)))) S1 = .ok (.lst ((bads c (1 + n)).map sD)) (ev35 c (pD p) .emp .emp .emp .emp .emp .emp (.val (.int ((1 + n : Nat) : Nat)))) S1 := by
      generalize (bads c (1 + n)).map sD = L at c29 ⊢
      generalize ((1 + n : Nat) : Int) = n1 at c29 ⊢
      generalize pD p = pd
      simp [ev35, c29]
    rw [evS_parL, evEs_cons, q0, Res.bind_ok, evEs_cons, day, Res.bind_ok, evEs_nil, Res.bind_ok, Res.bind_ok, Res.bind_ok]
    rfl
  have q3 : evS G (.put 6 false (.call 23 [.var 0, .var 7])) (ev35 c (pD p) .emp .emp .emp .emp (.val (.lst ((bads c (1 + n)).map sD))) (.val (.int ((if p = [] then 1 else dayN p : Nat) : Nat))) (.val (.int ((1 + n : Nat) : Nat)))) S1 = .ok .nx (ev35 c (pD p) .emp .emp .emp (.val (sD b)) (.val (.lst ((bads c (1 + n)).map sD))) (.val (.int ((if p = [] then 1 else dayN p : Nat) : Nat))) (.val (.int ((1 + n : Nat) : Nat)))) S2 := by
    generalize (bads c (1 + n)).map sD = L at b1 ⊢
    generalize sD b = sb at b1 ⊢
    generalize pD p = pd
    generalize (if p = [] then 1 else dayN p : Nat) = z
    simp [ev35, b1]
  have h15b := h15 _ hsl (seen_ok hp)
  have hin := dIn_sD b ((bads c (1 + n)).filter fun y => decide (seen p y = seen p b))
  rw [decide_eq_true (List.mem_filter.mpr ⟨hb, decide_eq_true rfl⟩)] at hin
  unfold b35
  refine (congrArg endR (evSs_step q1)).trans ?_
  refine (congrArg endR (evSs_step q2)).trans ?_
  refine (congrArg endR (evSs_step q3)).trans ?_
  refine (congrArg endR (evSs_step (put_v (i := 5) (tup_of s3)))).trans ?_
  refine (congrArg endR (evSs_step hl)).trans ?_
  exact w35e h11 h15b hin
end
end Law

set_option maxHeartbeats 4000000
/-! mice: things drawn -/
namespace Law
open PySem Eng PyProof.Rows
theorem cut_take {xs : List D} {n : Nat} : Eng.cutD xs none (some (n : Int)) = xs.take n := by
  unfold Eng.cutD
  have h1 : HT.sIx xs.length 0 none = 0 := rfl
  have h2 : HT.sIx xs.length xs.length (some (n : Int)) = min n xs.length := by
    show (if (n : Int) < 0 then ((n : Int) + (xs.length : Int)).toNat else min (n : Int).toNat xs.length) = _
    rw [if_neg (by omega), Int.toNat_natCast]
  rw [h1, h2, List.drop_zero, Nat.sub_zero]
  by_cases h : n ≤ xs.length
  · rw [Nat.min_eq_left h]
  · rw [Nat.min_eq_right (by omega), List.take_of_length_le (Nat.le_refl _), List.take_of_length_le (by omega)]
theorem add_tupN {xs ys : List D} (h : xs.length + ys.length ≤ 1000) : dbin .add (.tup xs) (.tup ys) = some (.tup (xs ++ ys)) := if_pos (Nat.le_trans h line1000)
theorem pl_tupI {n : Nat} {l : List D} (h : ∀ x ∈ l, pl n x = true) (hl : l.length ≤ 1000) : pl (n + 1) (.tup l) = true := by
  show (l.all (pl n) && decide (l.length ≤ 1000)) = true
  rw [decide_eq_true hl, Bool.and_true]
  exact List.all_eq_true.mpr h
theorem pl_lstI {n : Nat} {l : List D} (h : ∀ x ∈ l, pl n x = true) (hl : l.length ≤ 1000) : pl (n + 1) (.lst l) = true := by
  show (l.all (pl n) && decide (l.length ≤ 1000)) = true
  rw [decide_eq_true hl, Bool.and_true]
  exact List.all_eq_true.mpr h
theorem pl_bl {n : Nat} {b : Bool} : pl n (.bl b) = true := by cases n <;> rfl
theorem pl_str {n : Nat} {s : PySem.Str} (h : PyData.strOk s = true) : pl n (.str s) = true := by cases n <;> exact h
theorem pl_pair {n : Nat} {s : PySem.Str} {x : D} (h : PyData.strOk s = true) (hx : pl n x = true) : pl (n + 1) (.tup [.str s, x]) = true := pl_tupI (fun y hy => by
  simp only [List.mem_cons, List.not_mem_nil, or_false] at hy
  rcases hy with e | e <;> subst e
  · exact pl_str h
  · exact hx) (by simp)
section
variable {G : Gm} {S : Sto}
def ev36 (pa mo : D) (so od ro mu sp ba x : Slot) : Eng.Env := [.val (.ref 0), .val pa, .val mo, so, od, ro, mu, sp, ba, x]
theorem w36a {pa mo mu ro v1 v3 v4 v5 : D} {md : List D} {kk : Int} {so sp ba od : Slot} (h1 : dbin .add mu (.tup [.tup []]) = some v1) (h2 : slcO mu (some 1) none = some (.tup md)) (h3 : dblt .rev [mu] = some v3) (h4 : dblt .len [mu] = some (.int kk)) (h4' : dbin .mul (.tup [.tup []]) (.int kk) = some v4) (h5 : slcO ro (some 1) none = some v5) (ha : ∀ x, dbin .add (.tup [x]) (.tup md) = some (.tup (x :: md))) :
    evS G (.put 4 true (.lst [.bin .add (.bor 6) (.tup [.tup []]), .slc (.bor 6) (some (.int 1)) none, .blt .rev [(.bor 6)], .bin .mul (.tup [.tup []]) (.blt .len [.bor 6]), .bin .add (.tup [.slc (.bor 5) (some (.int 1)) none]) (.slc (.bor 6) (some (.int 1)) none)])) (ev36 pa mo so od (.val ro) (.val mu) sp ba .emp) S = .ok .nx (ev36 pa mo so (.own [v1, .tup md, v3, v4, .tup (v5 :: md)]) (.val ro) (.val mu) sp ba .emp) S := by
  simp [ev36, h1, h2, h3, h4, h4', h5, ha]
theorem w36b {pa mo mu ro w : D} {md od : List D} {so sp ba : Slot} (hl : od.length < 1000) (h2 : slcO mu (some 1) none = some (.tup md)) (h3 : dblt .rev [ro] = some w) (ha : ∀ x, dbin .add (.tup [x]) (.tup md) = some (.tup (x :: md))) :
    evS G (.app 4 (.bin .add (.tup [.blt .rev [(.bor 5)]]) (.slc (.bor 6) (some (.int 1)) none))) (ev36 pa mo so (.own od) (.val ro) (.val mu) sp ba .emp) S = .ok .nx (ev36 pa mo so (.own (od ++ [.tup (w :: md)])) (.val ro) (.val mu) sp ba .emp) S := by
  refine app_own (i := 4) rfl ?_ hl
  simp [ev36, h2, h3, ha]
theorem w36c {pa mo mu ro r16 lm : D} {md od ol : List D} {so sp ba : Slot} (hl : od.length ≤ 100) (h2 : slcO mu (some 1) none = some (.tup md)) (h3 : dbin .add ro (.tup [.int 16]) = some r16) (h4 : dfre .list [mu] = some lm) (ha : ∀ x, dbin .add (.tup [x]) (.tup md) = some (.tup (x :: md))) (hol : ol = [.tup (.tup [.int 0] :: md), .tup (r16 :: md), lm, .tup (.non :: md)]) :
    evS G (.put 4 true (.fre .cat [.bor 4, .lst [.bin .add (.tup [.tup [.int 0]]) (.slc (.bor 6) (some (.int 1)) none), .bin .add (.tup [.bin .add (.bor 5) (.tup [.int 16])]) (.slc (.bor 6) (some (.int 1)) none), .fre .list [.bor 6], .bin .add (.tup [.non]) (.slc (.bor 6) (some (.int 1)) none)]])) (ev36 pa mo so (.own od) (.val ro) (.val mu) sp ba .emp) S = .ok .nx (ev36 pa mo so (.own (od ++ ol)) (.val ro) (.val mu) sp ba .emp) S := by
  have hc : dfre .cat [.lst od, .lst ol] = some (.lst (od ++ ol)) := cat_lst (Nat.le_trans (by subst hol; simp; omega) line1000)
  subst hol
  simp [ev36, h2, h3, h4, ha, hc]
theorem w36d {pa mo mu ro : D} {md od : List D} {so sp ba : Slot} (hl : od.length < 1000) (h2 : slcO mu (some 1) none = some (.tup md)) (ha : ∀ x, dbin .add (.tup [x]) (.tup md) = some (.tup (x :: md))) :
    evS G (.app 4 (.bin .add (.tup [.tup [.bl true]]) (.slc (.bor 6) (some (.int 1)) none))) (ev36 pa mo so (.own od) (.val ro) (.val mu) sp ba .emp) S = .ok .nx (ev36 pa mo so (.own (od ++ [.tup (.tup [.bl true] :: md)])) (.val ro) (.val mu) sp ba .emp) S := by
  refine app_own (i := 4) rfl ?_ hl
  simp [ev36, h2, ha]
def pl1 (bs : List D) (i : Nat) (x : D) : D := .tup [.str ("plan" : PySem.Str), .tup (bs.take i ++ [x] ++ bs.drop (i + 1))]
theorem q360 {pa mo : D} {bs od : List D} {i : Nat} {so ro mu : Slot} (hl : od.length ≤ 100) (hb : bs.length ≤ 100) : evE G q36_0 (ev36 pa mo so (.own od) ro mu (.val (.int (i : Nat))) (.val (.tup bs)) .emp) S = .ok (.lst (od.map (pl1 bs i))) (ev36 pa mo so (.own od) ro mu (.val (.int (i : Nat))) (.val (.tup bs)) .emp) S := by
  have hi : evI G (.seq (.bor 4)) (ev36 pa mo so (.own od) ro mu (.val (.int (i : Nat))) (.val (.tup bs)) .emp) S = .ok od (ev36 pa mo so (.own od) ro mu (.val (.int (i : Nat))) (.val (.tup bs)) .emp) S := by simp [ev36]
  have s1 : slcO (.tup bs) none (some (i : Nat)) = some (.tup (bs.take i)) := by
    show some (D.tup (Eng.cutD bs none (some (i : Int)))) = _
    rw [cut_take]
  have s2 : slcO (.tup bs) (some ((i : Int) + 1)) none = some (.tup (bs.drop (i + 1))) := by
    show some (D.tup (Eng.cutD bs (some ((i + 1 : Nat) : Int)) none)) = _
    rw [cut_drop]
  refine comp_mapE (own := [9]) (t := .name 9) (elt := .tup [.str ("plan" : PySem.Str), .bin .add (.bin .add (.slc (.bor 8) none (some (.var 7))) (.tup [.var 9])) (.slc (.bor 8) (some (.bin .add (.bor 7) (.int 1))) none)]) (pl1 bs i) (fun x => ev36 pa mo so (.own od) ro mu (.val (.int (i : Nat))) (.val (.tup bs)) (.val x)) hi (fun x hx => rfl) (fun x hx => ?_) (fun x hx => rfl) rfl (Nat.le_trans hl (Nat.le_trans (by decide) line1000))
  have l1 : (bs.take i).length ≤ 100 := by rw [List.length_take]; omega
  have l2 : (bs.drop (i + 1)).length ≤ 100 := by rw [List.length_drop]; omega
  have a1 : dbin .add (.tup (bs.take i)) (.tup [x]) = some (.tup (bs.take i ++ [x])) := add_tupN (by simp; omega)
  have a2 : dbin .add (.tup (bs.take i ++ [x])) (.tup (bs.drop (i + 1))) = some (.tup (bs.take i ++ [x] ++ bs.drop (i + 1))) := add_tupN (by simp; omega)
  unfold pl1
  generalize bs.take i ++ [x] ++ bs.drop (i + 1) = r at a2 ⊢
  generalize bs.take i ++ [x] = r1 at a1 a2
  generalize bs.take i = r2 at s1 a1
  generalize bs.drop (i + 1) = r3 at s2 a2
  generalize D.tup bs = b at s1 s2 ⊢
  simp [ev36, s1, s2, a1, a2]
theorem catv {x y : E} {e e1 e2 : Eng.Env} {S1 S2 : Sto} {a b : List D} (hx : evE G x e S = .ok (.lst a) e1 S1) (hy : evE G y e1 S1 = .ok (.lst b) e2 S2) (hl : a.length + b.length ≤ 1000) : evE G (.fre .cat [x, y]) e S = .ok (.lst (a ++ b)) e2 S2 := by
  have hc : dfre .cat [.lst a, .lst b] = some (.lst (a ++ b)) := cat_lst (Nat.le_trans hl line1000)
  simp [hx, hy, hc]
theorem w36e {pa mo : D} {bs : List D} {bt br b1 bb : D} {od ro mu sp : Slot} {so : List D} (h1 : slcO (.tup bs) (some 1) none = some b1) (h2 : slcO (.tup bs) none (some 1) = some bt) (h3 : dbin .add (.tup bs) bt = some bb) (h4 : dblt .rev [.tup bs] = some br) :
    evE G (.lst [.tup [.str ("plan" : PySem.Str), .slc (.bor 8) (some (.int 1)) none], .tup [.str ("plan" : PySem.Str), .bin .add (.bor 8) (.slc (.bor 8) none (some (.int 1)))], .tup [.str ("plan" : PySem.Str), .blt .rev [(.bor 8)]]]) (ev36 pa mo (.val (.lst so)) od ro mu sp (.val (.tup bs)) .emp) S = .ok (.lst [.tup [.str ("plan" : PySem.Str), b1], .tup [.str ("plan" : PySem.Str), bb], .tup [.str ("plan" : PySem.Str), br]]) (ev36 pa mo (.val (.lst so)) od ro mu sp (.val (.tup bs)) .emp) S := by
  generalize D.tup bs = b at h1 h2 h3 h4 ⊢
  simp [ev36, h1, h2, h3, h4]
theorem w36f {pa mo b lb : D} {od ro mu sp : Slot} {so : List D} (h1 : dfre .list [b] = some lb) : evE G (.lst [.tup [.str ("plan" : PySem.Str), .fre .list [.bor 8]], .tup [.str ("most" : PySem.Str), .var 8]]) (ev36 pa mo (.val (.lst so)) od ro mu sp (.val b) .emp) S = .ok (.lst [.tup [.str ("plan" : PySem.Str), lb], .tup [.str ("most" : PySem.Str), b]]) (ev36 pa mo (.val (.lst so)) od ro mu sp (.val b) .emp) S := by
  simp [ev36, h1]
theorem w36g {pa mo : D} {od ro mu sp ba : Slot} {so : List D} : evE G (.bor 3) (ev36 pa mo (.val (.lst so)) od ro mu sp ba .emp) S = .ok (.lst so) (ev36 pa mo (.val (.lst so)) od ro mu sp ba .emp) S := by
  simp [ev36]
/-- the block for plans that are not empty -/
def blk36 : List Eng.S := [.put 7 false (.call 22 [.var 0, .blt .len [.bor 8]]), .put 6 false (.idx (.bor 8) (.bor 7)), .put 5 false (.idx (.bor 6) (.int 0)), .put 4 true (.lst [.bin .add (.bor 6) (.tup [.tup []]), .slc (.bor 6) (some (.int 1)) none, .blt .rev [(.bor 6)], .bin .mul (.tup [.tup []]) (.blt .len [.bor 6]), .bin .add (.tup [.slc (.bor 5) (some (.int 1)) none]) (.slc (.bor 6) (some (.int 1)) none)]), .app 4 (.bin .add (.tup [.blt .rev [(.bor 5)]]) (.slc (.bor 6) (some (.int 1)) none)), .put 4 true (.fre .cat [.bor 4, .lst [.bin .add (.tup [.tup [.int 0]]) (.slc (.bor 6) (some (.int 1)) none), .bin .add (.tup [.bin .add (.bor 5) (.tup [.int 16])]) (.slc (.bor 6) (some (.int 1)) none), .fre .list [.bor 6], .bin .add (.tup [.non]) (.slc (.bor 6) (some (.int 1)) none)]]), .app 4 (.bin .add (.tup [.tup [.bl true]]) (.slc (.bor 6) (some (.int 1)) none)), .put 3 false (.fre .cat [.bor 3, q36_0]), .put 3 false (.fre .cat [.bor 3, .lst [.tup [.str ("plan" : PySem.Str), .slc (.bor 8) (some (.int 1)) none], .tup [.str ("plan" : PySem.Str), .bin .add (.bor 8) (.slc (.bor 8) none (some (.int 1)))], .tup [.str ("plan" : PySem.Str), .blt .rev [(.bor 8)]]]]), .put 3 false (.fre .cat [.bor 3, .lst [.tup [.str ("plan" : PySem.Str), .fre .list [.bor 8]], .tup [.str ("most" : PySem.Str), .var 8]]])]
theorem w36s {pa mo row : D} {ml : List D} {so : List D} {od ro sp ba : Slot} {mu : D} (h : dix (.tup ml) (.int 0) = some row) (e : D.tup ml = mu) : evS G (.put 5 false (.idx (.bor 6) (.int 0))) (ev36 pa mo (.val (.lst so)) od ro (.val mu) sp ba .emp) S = .ok .nx (ev36 pa mo (.val (.lst so)) od (.val row) (.val mu) sp ba .emp) S := by
  subst e
  have h0 : L2.atI ml 0 = some row := h
  simp [ev36, h0]
theorem flat_rep {x d : D} {k : Nat} (h : d ∈ (List.replicate k [x]).flatten) : d = x := by
  obtain ⟨l, hl, hd⟩ := List.mem_flatten.mp h
  rw [(List.mem_replicate.mp hl).2] at hd
  exact List.mem_singleton.mp hd
theorem flat_len1 {x : D} {k : Nat} : (List.replicate k [x]).flatten.length = k := by simp
theorem w36 {pa mo : D} {bs : List D} {so : List D} (hS : Hand S) (hG : ∀ S n, Hand S → 1 ≤ n → n ≤ 1000 → ∃ (m : Nat) (S' : Sto), G.call 22 [.ref 0, .int (n : Nat)] S = .ok (.int (m : Nat)) S' ∧ Hand S' ∧ m < n) (h1 : 1 ≤ bs.length) (h2 : bs.length ≤ 5) (hb : ∀ m ∈ bs, ∃ ms : List (List Nat), m = mD ms ∧ 1 ≤ ms.length ∧ ms.length ≤ 3 ∧ ∀ r ∈ ms, r.length ≤ 16) (hso : so.length ≤ 20) (hpl : ∀ x ∈ so, pl 6 x = true) :
    ∃ (L : List D) (e2 : Eng.Env) (S2 : Sto), evSs G blk36 (ev36 pa mo (.val (.lst so)) .emp .emp .emp .emp (.val (.tup bs)) .emp) S = .ok .nx e2 S2 ∧ Hand S2 ∧ (∃ od ro mu sp, e2 = ev36 pa mo (.val (.lst L)) od ro mu sp (.val (.tup bs)) .emp) ∧ L.length ≤ 40 ∧ ∀ x ∈ L, pl 6 x = true := by
  obtain ⟨i, S1, d1, d2, d3⟩ := hG S bs.length hS h1 (by omega)
  obtain ⟨ms, em, m1, m2, m3⟩ := hb bs[i] (List.getElem_mem _)
  obtain ⟨r0, rs, e0⟩ : ∃ r0 rs, ms = r0 :: rs := by
    cases ms with
    | nil => simp at m1
    | cons a b => exact ⟨a, b, rfl⟩
  have hbi : bs[i]? = some (mD ms) := by rw [List.getElem?_eq_getElem d3, em]
  have plr : ∀ r ∈ ms, pl 3 (sD r) = true := fun r hr => pl_sD (n := 2) (by have := m3 r hr; omega)
  have plb : ∀ m ∈ bs, pl 4 m = true := fun m hm => by
    obtain ⟨ns, e, n1, n2, n3⟩ := hb m hm
    subst e
    exact pl_mapT (n := 3) (f := sD) (by omega) fun r hr => pl_sD (n := 2) (by have := n3 r hr; omega)
  -- the parts
  have hr0 : (il r0).length ≤ 16 := by
    rw [il_len]
    exact m3 r0 (by rw [e0]; exact List.mem_cons_self)
  have plI : ∀ x ∈ il r0, pl 2 x = true := fun x hx => by
    obtain ⟨y, _, rfl⟩ := List.mem_map.mp hx
    exact pl_int
  have hlm : (ms.map sD).length = ms.length := List.length_map _
  have plM : ∀ x ∈ ms.map sD, pl 3 x = true := fun x hx => by
    obtain ⟨r, hr, rfl⟩ := List.mem_map.mp hx
    exact plr r hr
  have hx0 : dix (.tup (ms.map sD)) (.int 0) = some (.tup (il r0)) := by
    rw [e0]
    exact at0
  have v1 : dbin .add (.tup (ms.map sD)) (.tup [.tup []]) = some (.tup (ms.map sD ++ [D.tup []])) := add_tupN (by simp; omega)
  have v2 : slcO (.tup (ms.map sD)) (some 1) none = some (.tup ((ms.map sD).drop 1)) := by
    show some (D.tup (Eng.cutD (ms.map sD) (some ((1 : Nat) : Int)) none)) = _
    rw [cut_drop]
  have v4 : dbin .mul (.tup [D.tup []]) (.int (ms.length : Nat)) = some (.tup (List.replicate ms.length [D.tup []]).flatten) := by
    have hk : (repOk 1 (ms.length : Nat) || decide (((ms.length : Nat) : Int) = 1)) = true := by
      unfold repOk
      by_cases h : ms.length = 1
      · rw [h]; rfl
      · rw [decide_eq_true (p := 1 ≠ 0 ∧ 1 ≤ 1000 ∧ (2 : Int) ≤ (ms.length : Nat) ∧ ((ms.length : Nat) : Int) ≤ 1000) ⟨by decide, by decide, by omega, by omega⟩]
        rfl
    show (if (repOk [D.tup []].length (ms.length : Nat) || decide (((ms.length : Nat) : Int) = 1)) = true then some (D.tup (List.replicate ((ms.length : Nat) : Int).toNat [D.tup []]).flatten) else none) = _
    rw [List.length_singleton, if_pos hk, Int.toNat_natCast]
  have v5 : slcO (.tup (il r0)) (some 1) none = some (.tup ((il r0).drop 1)) := by
    show some (D.tup (Eng.cutD (il r0) (some ((1 : Nat) : Int)) none)) = _
    rw [cut_drop]
  have v6 : dbin .add (.tup (il r0)) (.tup [.int 16]) = some (.tup (il r0 ++ [.int 16])) := add_tupN (by simp; omega)
  have hdl : ((ms.map sD).drop 1).length ≤ 3 := by rw [List.length_drop]; omega
  have pld : ∀ x ∈ (ms.map sD).drop 1, pl 3 x = true := fun x hx => plM x (List.mem_of_mem_drop hx)
  have plrd : ∀ x ∈ (il r0).drop 1, pl 2 x = true := fun x hx => plI x (List.mem_of_mem_drop hx)
  have hrd : ((il r0).drop 1).length ≤ 16 := by rw [List.length_drop]; omega
  have v7 : dblt .len [.tup (ms.map sD)] = some (.int (ms.length : Nat)) := by
    show some (D.int (((ms.map sD).length : Nat) : Int)) = _
    rw [hlm]
  have plc : ∀ x : D, pl 3 x = true → pl 4 (.tup (x :: (ms.map sD).drop 1)) = true := fun x hx => pl_tupI (fun y hy => by
    rcases List.mem_cons.mp hy with e | hy
    · exact e ▸ hx
    · exact pld y hy) (by rw [List.length_cons]; omega)
  have hem : mD ms = .tup (ms.map sD) := rfl
  rw [hem] at hbi
  have pE : ∀ n, pl (n + 1) (.tup []) = true := fun n => pl_tupI (fun x hx => nomatch hx) (by simp)
  have p1 : pl 4 (.tup (ms.map sD ++ [D.tup []])) = true := pl_tupI (fun x hx => by
    rcases List.mem_append.mp hx with h | h
    · exact plM x h
    · rw [List.mem_singleton.mp h]; exact pE 2) (by rw [List.length_append, hlm, List.length_singleton]; omega)
  have p2 : pl 4 (.tup ((ms.map sD).drop 1)) = true := pl_tupI pld (by omega)
  have p3 : pl 4 (.tup (ms.map sD).reverse) = true := pl_tupI (fun x hx => plM x (List.mem_reverse.mp hx)) (by rw [List.length_reverse]; omega)
  have p4 : pl 4 (.tup (List.replicate ms.length [D.tup []]).flatten) = true := pl_tupI (fun x hx => by rw [flat_rep hx]; exact pE 2) (by rw [flat_len1]; omega)
  have p5 := plc (.tup ((il r0).drop 1)) (pl_tupI plrd (by omega))
  have p6 := plc (.tup (il r0).reverse) (pl_tupI (fun x hx => plI x (List.mem_reverse.mp hx)) (by rw [List.length_reverse]; omega))
  have p7 := plc (.tup [.int 0]) (pl_tupI (fun x hx => by rw [List.mem_singleton.mp hx]; exact pl_int) (by simp))
  have p8 := plc (.tup (il r0 ++ [.int 16])) (pl_tupI (fun x hx => by
    rcases List.mem_append.mp hx with h | h
    · exact plI x h
    · rw [List.mem_singleton.mp h]; exact pl_int) (by rw [List.length_append, List.length_singleton]; omega))
  have p9 : pl 4 (.lst (ms.map sD)) = true := pl_lstI plM (by omega)
  have p10 := plc .non pl_non
  have p11 := plc (D.tup [.bl true]) (pl_tupI (fun x hx => by rw [List.mem_singleton.mp hx]; exact pl_bl) (by simp))
  have va : ∀ x, dbin .add (.tup [x]) (.tup ((ms.map sD).drop 1)) = some (.tup (x :: (ms.map sD).drop 1)) := fun x => add_tupN (by rw [List.length_singleton]; omega)
  have vr : dblt .rev [.tup (ms.map sD)] = some (.tup (ms.map sD).reverse) := rfl
  have vr0 : dblt .rev [.tup (il r0)] = some (.tup (il r0).reverse) := rfl
  have vl : dfre .list [.tup (ms.map sD)] = some (.lst (ms.map sD)) := rfl
  generalize D.tup (ms.map sD ++ [D.tup []]) = x1 at p1 v1
  generalize D.tup (ms.map sD).reverse = x3 at p3 vr
  generalize D.tup (List.replicate ms.length [D.tup []]).flatten = x4 at p4 v4
  generalize D.tup ((il r0).drop 1) = x5 at p5 v5
  generalize D.tup (il r0).reverse = x6 at p6 vr0
  generalize D.tup (il r0 ++ [.int 16]) = x8 at p8 v6
  generalize D.lst (ms.map sD) = x9 at p9 vl
  generalize (ms.map sD).drop 1 = md at *
  generalize D.tup (il r0) = row at *
  generalize hmuT : D.tup (ms.map sD) = mu at v1 v2 v7 vr vl hbi
  generalize hol : [D.tup (.tup [.int 0] :: md), .tup (x8 :: md), x9, .tup (.non :: md)] = ol
  have plol : ∀ x ∈ ol, pl 4 x = true := fun x hx => by
    subst hol
    simp only [List.mem_cons, List.not_mem_nil, or_false] at hx
    rcases hx with e | e | e | e <;> subst e <;> assumption
  have lol : ol.length = 4 := by subst hol; rfl
  have hod : ∀ x ∈ (([x1, .tup md, x3, x4, .tup (x5 :: md)] ++ [.tup (x6 :: md)]) ++ ol) ++ [.tup (.tup [.bl true] :: md)], pl 4 x = true := fun x hx => by
    rcases List.mem_append.mp hx with hx | hx
    · rcases List.mem_append.mp hx with hx | hx
      · simp only [List.mem_append, List.mem_cons, List.not_mem_nil, or_false] at hx
        rcases hx with (e | e | e | e | e) | e <;> subst e <;> assumption
      · exact plol x hx
    · rw [List.mem_singleton.mp hx]; exact p11
  have lod : ((([x1, D.tup md, x3, x4, D.tup (x5 :: md)] ++ [D.tup (x6 :: md)]) ++ ol) ++ [D.tup (D.tup [.bl true] :: md)]).length = 11 := by
    rw [List.length_append, List.length_append, lol]
    rfl
  have s1 : evS G (.put 7 false (.call 22 [.var 0, .blt .len [.bor 8]])) (ev36 pa mo (.val (.lst so)) .emp .emp .emp .emp (.val (.tup bs)) .emp) S = .ok .nx (ev36 pa mo (.val (.lst so)) .emp .emp .emp (.val (.int (i : Nat))) (.val (.tup bs)) .emp) S1 := by
    simp [ev36, d1]
  have s2 : evS G (.put 6 false (.idx (.bor 8) (.bor 7))) (ev36 pa mo (.val (.lst so)) .emp .emp .emp (.val (.int (i : Nat))) (.val (.tup bs)) .emp) S1 = .ok .nx (ev36 pa mo (.val (.lst so)) .emp .emp (.val mu) (.val (.int (i : Nat))) (.val (.tup bs)) .emp) S1 := by
    have := at_nat hbi
    simp [ev36, this]
  have s3 : evS G (.put 5 false (.idx (.bor 6) (.int 0))) (ev36 pa mo (.val (.lst so)) .emp .emp (.val mu) (.val (.int (i : Nat))) (.val (.tup bs)) .emp) S1 = .ok .nx (ev36 pa mo (.val (.lst so)) .emp (.val row) (.val mu) (.val (.int (i : Nat))) (.val (.tup bs)) .emp) S1 := w36s hx0 hmuT
  have s4 := w36a (G := G) (S := S1) (pa := pa) (mo := mo) (mu := mu) (ro := row) (so := .val (.lst so)) (sp := .val (.int (i : Nat))) (ba := .val (.tup bs)) (od := .emp) v1 v2 vr v7 v4 v5 va
  have s5 := w36b (G := G) (S := S1) (pa := pa) (mo := mo) (mu := mu) (ro := row) (so := .val (.lst so)) (sp := .val (.int (i : Nat))) (ba := .val (.tup bs)) (od := [x1, .tup md, x3, x4, .tup (x5 :: md)]) (by simp) v2 vr0 va
  have s6 := w36c (G := G) (S := S1) (pa := pa) (mo := mo) (mu := mu) (ro := row) (so := .val (.lst so)) (sp := .val (.int (i : Nat))) (ba := .val (.tup bs)) (od := [x1, .tup md, x3, x4, .tup (x5 :: md)] ++ [.tup (x6 :: md)]) (by simp) v2 v6 vl va hol.symm
  have s7 := w36d (G := G) (S := S1) (pa := pa) (mo := mo) (mu := mu) (ro := row) (so := .val (.lst so)) (sp := .val (.int (i : Nat))) (ba := .val (.tup bs)) (od := ([x1, .tup md, x3, x4, .tup (x5 :: md)] ++ [.tup (x6 :: md)]) ++ ol) (by rw [List.length_append, lol]; simp) v2 va
  generalize (([x1, .tup md, x3, x4, .tup (x5 :: md)] ++ [.tup (x6 :: md)]) ++ ol) ++ [.tup (.tup [.bl true] :: md)] = od at hod lod s7
  have q8 := catv (w36g (G := G) (S := S1) (pa := pa) (mo := mo) (od := .own od) (ro := .val row) (mu := .val mu) (sp := .val (.int (i : Nat))) (ba := .val (.tup bs)) (so := so)) (q360 (by omega) (by omega)) (by rw [List.length_map]; omega)
  have b1 : slcO (.tup bs) (some 1) none = some (.tup (bs.drop 1)) := by
    show some (D.tup (Eng.cutD bs (some ((1 : Nat) : Int)) none)) = _
    rw [cut_drop]
  have b2 : slcO (.tup bs) none (some 1) = some (.tup (bs.take 1)) := by
    show some (D.tup (Eng.cutD bs none (some ((1 : Nat) : Int)))) = _
    rw [cut_take]
  have b3 : dbin .add (.tup bs) (.tup (bs.take 1)) = some (.tup (bs ++ bs.take 1)) := add_tupN (by rw [List.length_take]; omega)
  have b4 : dblt .rev [.tup bs] = some (.tup bs.reverse) := rfl
  have q9 := catv (w36g (G := G) (S := S1) (pa := pa) (mo := mo) (od := .own od) (ro := .val row) (mu := .val mu) (sp := .val (.int (i : Nat))) (ba := .val (.tup bs)) (so := so ++ od.map (pl1 bs i))) (w36e b1 b2 b3 b4) (by rw [List.length_append, List.length_map]; simp; omega)
  have q10 := catv (w36g (G := G) (S := S1) (pa := pa) (mo := mo) (od := .own od) (ro := .val row) (mu := .val mu) (sp := .val (.int (i : Nat))) (ba := .val (.tup bs)) (so := (so ++ od.map (pl1 bs i)) ++ [.tup [.str ("plan" : PySem.Str), .tup (bs.drop 1)], .tup [.str ("plan" : PySem.Str), .tup (bs ++ bs.take 1)], .tup [.str ("plan" : PySem.Str), .tup bs.reverse]])) (w36f (lb := .lst bs) rfl) (by rw [List.length_append, List.length_append, List.length_map]; simp; omega)
  have fin : evSs G blk36 (ev36 pa mo (.val (.lst so)) .emp .emp .emp .emp (.val (.tup bs)) .emp) S = .ok .nx (ev36 pa mo (.val (.lst (((so ++ od.map (pl1 bs i)) ++ [D.tup [.str ("plan" : PySem.Str), D.tup (bs.drop 1)], D.tup [.str ("plan" : PySem.Str), D.tup (bs ++ bs.take 1)], D.tup [.str ("plan" : PySem.Str), D.tup bs.reverse]]) ++ [D.tup [.str ("plan" : PySem.Str), D.lst bs], D.tup [.str ("most" : PySem.Str), D.tup bs]]))) (.own od) (.val row) (.val mu) (.val (.int (i : Nat))) (.val (.tup bs)) .emp) S1 := by
    unfold blk36
    refine (evSs_step s1).trans ((evSs_step s2).trans ((evSs_step s3).trans ((evSs_step s4).trans ((evSs_step s5).trans ((evSs_step s6).trans ((evSs_step s7).trans ?_))))))
    refine (evSs_step (put_v (i := 3) q8)).trans ?_
    refine (evSs_step (put_v (i := 3) q9)).trans ?_
    exact evSs_one (put_v (i := 3) q10)
  refine ⟨_, _, S1, fin, d2, ⟨_, _, _, _, rfl⟩, ?_, ?_⟩
  · simp only [List.length_append, List.length_map, List.length_cons, List.length_nil]
    omega
  · intro x hx
    have sk : ∀ t : List D, t.length ≤ 100 → (∀ y ∈ t, pl 4 y = true) → ∀ s : PySem.Str, PyData.strOk s = true → pl 6 (.tup [.str s, .tup t]) = true := fun t ht hy s hs => pl_pair (n := 5) hs (pl_tupI (n := 4) hy (by omega))
    rcases List.mem_append.mp hx with hx | hx
    · rcases List.mem_append.mp hx with hx | hx
      · rcases List.mem_append.mp hx with hx | hx
        · exact hpl x hx
        · obtain ⟨y, hy, rfl⟩ := List.mem_map.mp hx
          refine sk _ (by simp only [List.length_append, List.length_take, List.length_drop, List.length_singleton]; omega) (fun z hz => ?_) _ (sok_of _)
          rcases List.mem_append.mp hz with hz | hz
          · rcases List.mem_append.mp hz with hz | hz
            · exact plb z (List.mem_of_mem_take hz)
            · rw [List.mem_singleton.mp hz]; exact hod y hy
          · exact plb z (List.mem_of_mem_drop hz)
      · simp only [List.mem_cons, List.not_mem_nil, or_false] at hx
        rcases hx with e | e | e <;> subst e
        · exact sk _ (by rw [List.length_drop]; omega) (fun z hz => plb z (List.mem_of_mem_drop hz)) _ (sok_of _)
        · refine sk _ (by rw [List.length_append, List.length_take]; omega) (fun z hz => ?_) _ (sok_of _)
          rcases List.mem_append.mp hz with hz | hz
          · exact plb z hz
          · exact plb z (List.mem_of_mem_take hz)
        · exact sk _ (by rw [List.length_reverse]; omega) (fun z hz => plb z (List.mem_reverse.mp hz)) _ (sok_of _)
    · simp only [List.mem_cons, List.not_mem_nil, or_false] at hx
      rcases hx with e | e <;> subst e
      · exact pl_pair (n := 5) (sok_of _) (pl_lstI (n := 4) plb (by omega))
      · exact sk _ (by omega) plb _ (sok_of _)
end
end Law

set_option maxHeartbeats 4000000
/-! mice: things, all right -/
namespace Law
open PySem Eng PyProof.Rows
section
variable {G : Gm} {S : Sto}
/-- what a paper holds -/
inductive Bs : D → Prop
  | num (z : Nat) : Bs (.int (z : Nat))
  | pls (bs : List D) (h2 : bs.length ≤ 5) (hb : ∀ m ∈ bs, ∃ ms : List (List Nat), m = mD ms ∧ 1 ≤ ms.length ∧ ms.length ≤ 3 ∧ ∀ r ∈ ms, r.length ≤ 16) : Bs (.tup bs)
theorem Bs.pl {b : D} (h : Bs b) : Law.pl 5 b = true := by
  cases h with
  | num z => exact pl_int
  | pls bs h2 hb =>
    refine pl_tupI (fun m hm => ?_) (by omega)
    obtain ⟨ns, e, n1, n2, n3⟩ := hb m hm
    subst e
    exact pl_mapT (n := 3) (f := sD) (by omega) fun r hr => pl_sD (n := 2) (by have := n3 r hr; omega)
theorem blk_no {pa mo ba : D} {so : List D} {b : Bool} (hx : ba.isiOk = true) (h : disi .tuple ba = false ∨ ba = .tup []) : evS G (.ifs (.and [.isi .tuple (.bor 8), .cmp .gt (.blt .len [.bor 8]) (.int 0)]) blk36 []) (ev36 pa mo (.val (.lst so)) .emp .emp .emp .emp (.val ba) .emp) S = .ok .nx (ev36 pa mo (.val (.lst so)) .emp .emp .emp .emp (.val ba) .emp) S := by
  generalize blk36 = B
  rcases h with h | h
  · simp [ev36, hx, h]
  · subst h
    simp [ev36]
theorem ifs_true {t : E} {A B : List Eng.S} {e : Eng.Env} (h : evE G t e S = .ok (.bl true) e S) : evS G (.ifs t A B) e S = evSs G A e S := by
  simp [h]
theorem blk_yes {pa mo : D} {bs so : List D} {e2 : Eng.Env} {S2 : Sto} {B : List Eng.S} (h : 1 ≤ bs.length) (hq : evSs G B (ev36 pa mo (.val (.lst so)) .emp .emp .emp .emp (.val (.tup bs)) .emp) S = .ok .nx e2 S2) : evS G (.ifs (.and [.isi .tuple (.bor 8), .cmp .gt (.blt .len [.bor 8]) (.int 0)]) B []) (ev36 pa mo (.val (.lst so)) .emp .emp .emp .emp (.val (.tup bs)) .emp) S = .ok .nx e2 S2 := by
  have hl : dblt .len [.tup bs] = some (.int (bs.length : Nat)) := rfl
  have hn : bs ≠ [] := fun z => by subst z; simp at h
  have hc : evE G (.and [.isi .tuple (.bor 8), .cmp .gt (.blt .len [.bor 8]) (.int 0)]) (ev36 pa mo (.val (.lst so)) .emp .emp .emp .emp (.val (.tup bs)) .emp) S = .ok (.bl true) (ev36 pa mo (.val (.lst so)) .emp .emp .emp .emp (.val (.tup bs)) .emp) S := by
    simp [ev36]
    omega
  exact (ifs_true hc).trans hq
theorem w36u {pa mo ba s : D} {r : List Eng.S} {l1 : List D} {z : Nat} (hp : L2.atI l1 1 = some ba) (hpa : pa = .tup l1) (hmo : mo = .int (z : Nat)) :
    evSs G (.put 8 false (.idx (.bor 1) (.int 1)) :: .put 3 false (.lst [.var 1, .tup [.str ("plan" : PySem.Str), .tup []], .tup [.str ("most" : PySem.Str), .var 2], .tup [.str ("most" : PySem.Str), .bin .add (.bor 2) (.int 1)], .tup [.str ("most" : PySem.Str), .bl true], .tup [.str ("most" : PySem.Str), .non]]) :: .put 3 false (.fre .cat [.bor 3, .lst [.tup [.str ("plan" : PySem.Str), .non], .tup [.str ("plan" : PySem.Str), .var 2]]]) :: r) (ev36 pa mo .emp .emp .emp .emp .emp .emp .emp) S = evSs G r (ev36 pa mo (.val (.lst [pa, .tup [.str ("plan" : PySem.Str), .tup []], .tup [.str ("most" : PySem.Str), mo], .tup [.str ("most" : PySem.Str), .int ((z : Int) + 1)], .tup [.str ("most" : PySem.Str), .bl true], .tup [.str ("most" : PySem.Str), .non], .tup [.str ("plan" : PySem.Str), .non], .tup [.str ("plan" : PySem.Str), mo]])) .emp .emp .emp .emp (.val ba) .emp) S := by
  subst hpa
  have s1 : evS G (.put 8 false (.idx (.bor 1) (.int 1))) (ev36 (.tup l1) mo .emp .emp .emp .emp .emp .emp .emp) S = .ok .nx (ev36 (.tup l1) mo .emp .emp .emp .emp .emp (.val ba) .emp) S := by simp [ev36, hp]
  generalize D.tup l1 = pa at s1 ⊢
  have s2 : evS G (.put 3 false (.lst [.var 1, .tup [.str ("plan" : PySem.Str), .tup []], .tup [.str ("most" : PySem.Str), .var 2], .tup [.str ("most" : PySem.Str), .bin .add (.bor 2) (.int 1)], .tup [.str ("most" : PySem.Str), .bl true], .tup [.str ("most" : PySem.Str), .non]])) (ev36 pa mo .emp .emp .emp .emp .emp (.val ba) .emp) S = .ok .nx (ev36 pa mo (.val (.lst [pa, .tup [.str ("plan" : PySem.Str), .tup []], .tup [.str ("most" : PySem.Str), mo], .tup [.str ("most" : PySem.Str), .int ((z : Int) + 1)], .tup [.str ("most" : PySem.Str), .bl true], .tup [.str ("most" : PySem.Str), .non]])) .emp .emp .emp .emp (.val ba) .emp) S := by
    subst hmo
    simp [ev36]
  have s3 := catv (G := G) (S1 := S) (w36g (G := G) (S := S) (pa := pa) (mo := mo) (od := .emp) (ro := .emp) (mu := .emp) (sp := .emp) (ba := .val ba) (so := [pa, .tup [.str ("plan" : PySem.Str), .tup []], .tup [.str ("most" : PySem.Str), mo], .tup [.str ("most" : PySem.Str), .int ((z : Int) + 1)], .tup [.str ("most" : PySem.Str), .bl true], .tup [.str ("most" : PySem.Str), .non]]))
    (y := .lst [.tup [.str ("plan" : PySem.Str), .non], .tup [.str ("plan" : PySem.Str), .var 2]]) (b := [.tup [.str ("plan" : PySem.Str), .non], .tup [.str ("plan" : PySem.Str), mo]]) (e2 := ev36 pa mo (.val (.lst [pa, .tup [.str ("plan" : PySem.Str), .tup []], .tup [.str ("most" : PySem.Str), mo], .tup [.str ("most" : PySem.Str), .int ((z : Int) + 1)], .tup [.str ("most" : PySem.Str), .bl true], .tup [.str ("most" : PySem.Str), .non]])) .emp .emp .emp .emp (.val ba) .emp) (S2 := S) (by simp [ev36]) (by simp)
  exact (evSs_step s1).trans ((evSs_step s2).trans (evSs_step (put_v (i := 3) s3)))
theorem w36v {mo : D} {a b : D} {L : List D} {od ro mu sp ba : Slot} (hL : L.length ≤ 900) : evS G (.put 3 false (.fre .cat [.bor 3, .lst [.fre .list [.bor 1], .blt .rev [(.bor 1)], .bin .add (.bor 1) (.tup [.int 0]), .slc (.bor 1) none (some (.int 1))]])) (ev36 (.tup [a, b]) mo (.val (.lst L)) od ro mu sp ba .emp) S = .ok .nx (ev36 (.tup [a, b]) mo (.val (.lst (L ++ [.lst [a, b], .tup [b, a], .tup [a, b, .int 0], .tup [a]]))) od ro mu sp ba .emp) S := by
  have h1 : dfre .list [.tup [a, b]] = some (.lst [a, b]) := rfl
  have h2 : dblt .rev [.tup [a, b]] = some (.tup [b, a]) := rfl
  have h3 : dbin .add (.tup [a, b]) (.tup [.int 0]) = some (.tup [a, b, .int 0]) := add_tupN (by simp)
  have h4 : slcO (.tup [a, b]) none (some 1) = some (.tup [a]) := by
    show some (D.tup (Eng.cutD [a, b] none (some ((1 : Nat) : Int)))) = _
    rw [cut_take]
    rfl
  generalize D.tup [a, b] = pa at h1 h2 h3 h4 ⊢
  have hy : evE G (.lst [.fre .list [.bor 1], .blt .rev [(.bor 1)], .bin .add (.bor 1) (.tup [.int 0]), .slc (.bor 1) none (some (.int 1))]) (ev36 pa mo (.val (.lst L)) od ro mu sp ba .emp) S = .ok (.lst [.lst [a, b], .tup [b, a], .tup [a, b, .int 0], .tup [a]]) (ev36 pa mo (.val (.lst L)) od ro mu sp ba .emp) S := by
    simp [ev36, h1, h2, h3, h4]
  have hq := catv (w36g (so := L)) hy (by simp; omega)
  exact put_v (i := 3) hq
theorem w36w {pa mo x : D} {L : List D} {od ro mu sp ba : Slot} {S2 : Sto} (hL : L.length ≤ 900) (hc : G.call 26 [.ref 0] S = .ok x S2) : endR (evSs G [.ret (.fre .cat [.bor 3, .lst [.non, .int 0, .tup [], .dct [], .str ("plan" : PySem.Str), .call 26 [.var 0]]])] (ev36 pa mo (.val (.lst L)) od ro mu sp ba .emp) S) = .ok (.lst (L ++ [.non, .int 0, .tup [], .dic [], .str ("plan" : PySem.Str), x])) S2 := by
  have hy : evE G (.lst [.non, .int 0, .tup [], .dct [], .str ("plan" : PySem.Str), .call 26 [.var 0]]) (ev36 pa mo (.val (.lst L)) od ro mu sp ba .emp) S = .ok (.lst [.non, .int 0, .tup [], .dic [], .str ("plan" : PySem.Str), x]) (ev36 pa mo (.val (.lst L)) od ro mu sp ba .emp) S2 := by
    simp [ev36, hc]
  exact ret_e (catv (w36g (so := L)) hy (by simp; omega))
theorem pl_tw {n : Nat} {a b : D} (ha : pl n a = true) (hb : pl n b = true) : pl (n + 1) (.tup [a, b]) = true := pl_tupI (fun y hy => by
  simp only [List.mem_cons, List.not_mem_nil, or_false] at hy
  rcases hy with e | e <;> subst e <;> assumption) (by simp)
theorem things8 {a b mo : D} {z : Nat} (ha : pl 5 a = true) (hb : pl 5 b = true) (hmo : mo = .int (z : Nat)) : ∀ x ∈ [D.tup [a, b], .tup [.str ("plan" : PySem.Str), .tup []], .tup [.str ("most" : PySem.Str), mo], .tup [.str ("most" : PySem.Str), .int ((z : Int) + 1)], .tup [.str ("most" : PySem.Str), .bl true], .tup [.str ("most" : PySem.Str), .non], .tup [.str ("plan" : PySem.Str), .non], .tup [.str ("plan" : PySem.Str), mo]], pl 6 x = true := fun x hx => by
  subst hmo
  simp only [List.mem_cons, List.not_mem_nil, or_false] at hx
  rcases hx with e | e | e | e | e | e | e | e <;> subst e
  · exact pl_tw ha hb
  · exact pl_pair (sok_of _) (pl_tupI (fun x h => nomatch h) (by simp))
  · exact pl_pair (sok_of _) pl_int
  · exact pl_pair (sok_of _) pl_int
  · exact pl_pair (sok_of _) pl_bl
  · exact pl_pair (sok_of _) pl_non
  · exact pl_pair (sok_of _) pl_non
  · exact pl_pair (sok_of _) pl_int
end
section
variable {Γ : Nat → Gm} {k : Nat} {S : Sto}
theorem r_things (hR : Sem Pg Γ) {s : PySem.Str} {b : D} {z : Nat} (hs : PyData.strOk s = true) (hb : Bs b) (hS : Hand S) : ∃ (L : List D) (S' : Sto), (Γ (k + 4)).call 36 [.ref 0, .tup [.str s, b], .int (z : Nat)] S = .ok (.lst L) S' ∧ Hand S' ∧ L.length ≤ 60 ∧ ∀ x ∈ L, Th x := by
  rw [hR.step _ 36 f36 _ _ rfl, run_b b36 (ev36 (.tup [.str s, b]) (.int (z : Nat)) .emp .emp .emp .emp .emp .emp .emp) rfl rfl rfl]
  have hG : ∀ S n, Hand S → 1 ≤ n → n ≤ 1000 → ∃ (m : Nat) (S' : Sto), (Γ (k + 3)).call 22 [.ref 0, .int (n : Nat)] S = .ok (.int (m : Nat)) S' ∧ Hand S' ∧ m < n := fun S n hS h1 h2 => r_nat (k := k + 2) hR hS h1 h2
  have hD : ∀ S, Hand S → ∃ (d : D) (S' : Sto), (Γ (k + 3)).call 26 [.ref 0] S = .ok d S' ∧ Hand S' ∧ Dp d := fun S hS => r_deep (k := k) hR hS
  generalize Γ (k + 3) = G at hG hD ⊢
  have p8 := things8 (a := .str s) (b := b) (mo := .int (z : Nat)) (pl_str hs) hb.pl rfl
  have mid : ∃ (L : List D) (S2 : Sto) (od ro mu sp : Slot), evS G (.ifs (.and [.isi .tuple (.bor 8), .cmp .gt (.blt .len [.bor 8]) (.int 0)]) blk36 []) (ev36 (.tup [.str s, b]) (.int (z : Nat)) (.val (.lst [.tup [.str s, b], .tup [.str ("plan" : PySem.Str), .tup []], .tup [.str ("most" : PySem.Str), .int (z : Nat)], .tup [.str ("most" : PySem.Str), .int ((z : Int) + 1)], .tup [.str ("most" : PySem.Str), .bl true], .tup [.str ("most" : PySem.Str), .non], .tup [.str ("plan" : PySem.Str), .non], .tup [.str ("plan" : PySem.Str), .int (z : Nat)]])) .emp .emp .emp .emp (.val b) .emp) S = .ok .nx (ev36 (.tup [.str s, b]) (.int (z : Nat)) (.val (.lst L)) od ro mu sp (.val b) .emp) S2 ∧ Hand S2 ∧ L.length ≤ 40 ∧ ∀ x ∈ L, pl 6 x = true := by
    cases hb with
    | num z' => exact ⟨_, S, .emp, .emp, .emp, .emp, blk_no (b := true) rfl (.inl rfl), hS, by simp, p8⟩
    | pls bs h2 hb' =>
      by_cases h1 : 1 ≤ bs.length
      · obtain ⟨L, e2, S2, q1, q2, ⟨od, ro, mu, sp, q3⟩, q4, q5⟩ := w36 (G := G) (S := S) (pa := .tup [.str s, .tup bs]) (mo := .int (z : Nat)) hS hG h1 h2 hb' (so := [.tup [.str s, .tup bs], .tup [.str ("plan" : PySem.Str), .tup []], .tup [.str ("most" : PySem.Str), .int (z : Nat)], .tup [.str ("most" : PySem.Str), .int ((z : Int) + 1)], .tup [.str ("most" : PySem.Str), .bl true], .tup [.str ("most" : PySem.Str), .non], .tup [.str ("plan" : PySem.Str), .non], .tup [.str ("plan" : PySem.Str), .int (z : Nat)]]) (by simp) p8
        subst q3
        exact ⟨L, S2, od, ro, mu, sp, blk_yes h1 q1, q2, q4, q5⟩
      · have h0 : bs = [] := List.eq_nil_of_length_eq_zero (by omega)
        subst h0
        exact ⟨_, S, .emp, .emp, .emp, .emp, blk_no (b := true) rfl (.inr rfl), hS, by simp, p8⟩
  obtain ⟨L, S2, od, ro, mu, sp, m1, m2, m3, m4⟩ := mid
  obtain ⟨x, S3, d1, d2, d3⟩ := hD S2 m2
  refine ⟨(L ++ [.lst [.str s, b], .tup [b, .str s], .tup [.str s, b, .int 0], .tup [.str s]]) ++ [.non, .int 0, .tup [], .dic [], .str ("plan" : PySem.Str), x], S3, ?_, d2, ?_, ?_⟩
  · unfold b36
    refine (congrArg endR (w36u (G := G) (S := S) (ba := b) (z := z) (s := .non) at1 rfl rfl)).trans ?_
    refine (congrArg endR (evSs_step m1)).trans ?_
    refine (congrArg endR (evSs_step (w36v (G := G) (S := S2) (by omega)))).trans ?_
    exact w36w (by simp; omega) d1
  · simp only [List.length_append, List.length_cons, List.length_nil]
    omega
  · intro y hy
    have pb := hb.pl
    have ps : pl 5 (.str s) = true := pl_str hs
    rcases List.mem_append.mp hy with hy | hy
    · left
      rcases List.mem_append.mp hy with hy | hy
      · exact m4 y hy
      · simp only [List.mem_cons, List.not_mem_nil, or_false] at hy
        rcases hy with e | e | e | e <;> subst e
        · refine pl_lstI (fun y hy => ?_) (by simp)
          simp only [List.mem_cons, List.not_mem_nil, or_false] at hy
          rcases hy with e | e <;> subst e <;> assumption
        · exact pl_tw pb ps
        · refine pl_tupI (fun y hy => ?_) (by simp)
          simp only [List.mem_cons, List.not_mem_nil, or_false] at hy
          rcases hy with e | e | e <;> subst e
          · exact ps
          · exact pb
          · exact pl_int
        · refine pl_tupI (fun y hy => ?_) (by simp)
          rw [List.mem_singleton.mp hy]
          exact ps
    · simp only [List.mem_cons, List.not_mem_nil, or_false] at hy
      rcases hy with e | e | e | e | e | e <;> subst e
      · exact .inl pl_non
      · exact .inl pl_int
      · exact .inl (pl_tupI (fun x h => nomatch h) (by simp))
      · exact .inr ⟨rfl, fun s h => (nomatch h), fun l h => nomatch h⟩
      · exact .inl (pl_str (sok_of _))
      · exact .inr d3
end
end Law

set_option maxHeartbeats 4000000
/-! mice: all right -/
namespace Law
open PySem Eng PyProof.Rows
theorem lotB_lt {c : Nat} {l : List Nat} (h : lotB c l = true) : ∀ x ∈ l, x < c := fun x hx => by
  unfold lotB at h
  rw [Bool.and_eq_true] at h
  exact of_decide_eq_true (List.all_eq_true.mp h.1 x hx)
theorem nd_int {i : Int} : nd (.int i) = 40 := by
  rw [nd]
  · intro _ z; cases z
  · intro _ z; cases z
theorem nd_str {s : PySem.Str} : nd (.str s) = 40 := by
  rw [nd]
  · intro _ z; cases z
  · intro _ z; cases z
theorem okR_i {n : Nat} {x : Nat} (h : x < 100000) : okR n (.int (x : Nat)) = true := by
  have : decide (((x : Nat) : Int).natAbs < 10 ^ 40) = true := decide_eq_true (by rw [Int.natAbs_natCast]; exact Nat.lt_trans h (by decide))
  cases n <;> exact this
theorem okR_sD {n : Nat} {l : List Nat} (h : ∀ x ∈ l, x < 100000) : okR (n + 1) (sD l) = true := List.all_eq_true.mpr fun d hd => by
  obtain ⟨x, hx, rfl⟩ := List.mem_map.mp hd
  exact okR_i (h x hx)
theorem okR_map {α : Type} {n : Nat} {f : α → D} {l : List α} (h : ∀ x ∈ l, okR n (f x) = true) : okR (n + 1) (.tup (l.map f)) = true := List.all_eq_true.mpr fun d hd => by
  obtain ⟨x, hx, rfl⟩ := List.mem_map.mp hd
  exact h x hx
theorem nd_map {α : Type} {f : α → D} {l : List α} {b : Nat} (h : ∀ x ∈ l, nd (f x) ≤ b) : nd (.tup (l.map f)) ≤ (b + 1) * l.length := by
  rw [nd_tup]
  have := ndL_le (l := l.map f) (b := b) fun d hd => by
    obtain ⟨x, hx, rfl⟩ := List.mem_map.mp hd
    exact h x hx
  rw [List.length_map] at this
  exact this
theorem told_rp {c m d : Nat} (h : Mk c m d) : ∃ tx, (toldM c m d).rpO = some tx ∧ PyData.strOk tx = true := by
  unfold toldM
  have h4 : (d + 1) ^ m ≤ 4 ^ 5 := Nat.le_trans (Nat.pow_le_pow_left (by have := h.d2; omega) m) (Nat.pow_le_pow_right (by decide) h.m)
  split
  · refine okR_rp (n := 4) ?_ (by decide) ?_
    · refine List.all_eq_true.mpr fun x hx => ?_
      simp only [List.mem_cons, List.not_mem_nil, or_false] at hx
      rcases hx with e | e <;> subst e
      · decide +kernel
      · exact okR_i (Nat.lt_of_le_of_lt h4 (by decide))
    · rw [nd_tup, ndL_cons, ndL_cons, ndL_nil, nd_str, nd_int]
      decide
  · have hp := okP_w (cups := c) (mice := m) (days := d) h.m h.d1 h.d2
    have c2 := h.c2
    generalize wplan c m d = p at hp ⊢
    obtain ⟨p1, p2, p3, p4⟩ := hp
    have lt : ∀ ms ∈ p, ∀ r ∈ ms, ∀ x ∈ r, x < 100000 := fun ms hm r hr x hx => by
      have := lotB_lt ((p4 ms hm).2 r hr) x hx
      omega
    refine okR_rp (n := 4) ?_ (by decide) ?_
    · refine List.all_eq_true.mpr fun x hx => ?_
      simp only [List.mem_cons, List.not_mem_nil, or_false] at hx
      rcases hx with e | e <;> subst e
      · decide +kernel
      · exact okR_map fun ms hm => okR_map (f := sD) fun r hr => okR_sD (lt ms hm r hr)
    · rw [nd_tup, ndL_cons, ndL_cons, ndL_nil, nd_str]
      have n1 : ∀ ms ∈ p, nd (mD ms) ≤ 1971 := fun ms hm => by
        have n2 : ∀ r ∈ ms, nd (sD r) ≤ 656 := fun r hr => by
          have n3 := nd_map (f := fun x : Nat => D.int (x : Nat)) (l := r) (b := 40) fun x _ => by rw [nd_int]; exact Nat.le_refl _
          have n4 := lot_len ((p4 ms hm).2 r hr)
          have n5 : (40 + 1) * r.length ≤ 41 * 16 := Nat.mul_le_mul_left _ (by omega)
          exact Nat.le_trans n3 n5
        have n6 := nd_map (f := sD) (l := ms) n2
        have n7 := (p4 ms hm).1
        have n8 : (656 + 1) * ms.length ≤ 657 * 3 := Nat.mul_le_mul_left _ (by omega)
        exact Nat.le_trans n6 n8
      have n9 := nd_map (f := mD) (l := p) n1
      have n10 : (1971 + 1) * p.length ≤ 1972 * 5 := Nat.mul_le_mul_left _ p1
      have n11 : nd (pD p) ≤ 1972 * 5 := Nat.le_trans n9 n10
      omega
theorem told_th {c m d : Nat} (h : Mk c m d) : Th (toldM c m d) ∧ ∃ s b, toldM c m d = .tup [.str s, b] ∧ PyData.strOk s = true ∧ Bs b := by
  have key : ∃ s b, toldM c m d = .tup [.str s, b] ∧ PyData.strOk s = true ∧ Bs b := by
    unfold toldM
    split
    · exact ⟨_, _, rfl, sok_of _, .num _⟩
    · have hp := okP_w (cups := c) (mice := m) (days := d) h.m h.d1 h.d2
      have c2 := h.c2
      obtain ⟨p1, p2, p3, p4⟩ := hp
      refine ⟨_, _, rfl, sok_of _, .pls _ (by rw [List.length_map]; exact p1) fun x hx => ?_⟩
      obtain ⟨ms, hm, rfl⟩ := List.mem_map.mp hx
      exact ⟨ms, rfl, by have := (p4 ms hm).1; omega, by have := (p4 ms hm).1; omega, fun r hr => by have := lot_len ((p4 ms hm).2 r hr); omega⟩
  obtain ⟨s, b, e, h1, h2⟩ := key
  exact ⟨.inl (by rw [e]; exact pl_pair h1 h2.pl), s, b, e, h1, h2⟩
section
variable {G : Gm} {S : Sto}
def ev37 (t p c o m d : Slot) : Eng.Env := [.val (.ref 0), t, p, c, o, m, d]
theorem w37a {m d : Nat} {S1 S2 : Sto} (h1 : G.call 22 [.ref 0, .int 6] S = .ok (.int (m : Nat)) S1) (h2 : G.call 22 [.ref 0, .int 3] S1 = .ok (.int (d : Nat)) S2) : evS G (.par (5, false) (6, false) (.call 22 [.var 0, .int 6]) (.bin .add (.int 1) (.call 22 [.var 0, .int 3]))) (ev37 .emp .emp .emp .emp .emp .emp) S = .ok .nx (ev37 .emp .emp .emp .emp (.val (.int (m : Nat))) (.val (.int ((1 + d : Nat) : Nat)))) S2 := by
  simp [ev37, h1, h2]
theorem w37b {m d z : D} (h : G.call 32 [m, d] S = .ok z S) : evS G (.put 4 false (.call 32 [.var 5, .var 6])) (ev37 .emp .emp .emp .emp (.val m) (.val d)) S = .ok .nx (ev37 .emp .emp .emp (.val z) (.val m) (.val d)) S := by
  simp [ev37, h]
theorem w37c {m d x : D} {z a y1 y2 : Nat} {S1 S2 : Sto} (h1 : G.call 22 [.ref 0, .int 15] S = .ok (.int (a : Nat)) S1) (e1 : y1 = max 2 (min 16 z)) (e2 : y2 = max 2 (min 16 (z + 1))) (h2 : G.call 23 [.ref 0, .lst [.int ((2 + a : Nat) : Nat), .int (y1 : Nat), .int (y2 : Nat)]] S1 = .ok x S2) :
    evS G (.put 3 false (.call 23 [.var 0, .lst [.bin .add (.int 2) (.call 22 [.var 0, .int 15]), .blt .max2 [.int 2, .blt .min2 [.int 16, .bor 4]], .blt .max2 [.int 2, .blt .min2 [.int 16, .bin .add (.bor 4) (.int 1)]]]])) (ev37 .emp .emp .emp (.val (.int (z : Nat))) (.val m) (.val d)) S = .ok .nx (ev37 .emp .emp (.val x) (.val (.int (z : Nat))) (.val m) (.val d)) S2 := by
  have m1 : dblt .min2 [.int 16, .int (z : Nat)] = some (.int ((min 16 z : Nat) : Nat)) := min2_nat (a := 16)
  have m2 : dblt .min2 [.int 16, .int ((z : Int) + 1)] = some (.int ((min 16 (z + 1) : Nat) : Nat)) := min2_nat (a := 16) (b := z + 1)
  have m3 : dblt .max2 [.int 2, .int ((min 16 z : Nat) : Nat)] = some (.int (y1 : Nat)) := by subst e1; exact max2_nat (a := 2)
  have m4 : dblt .max2 [.int 2, .int ((min 16 (z + 1) : Nat) : Nat)] = some (.int (y2 : Nat)) := by subst e2; exact max2_nat (a := 2)
  generalize ((min 16 z : Nat) : Int) = v1 at m1 m3
  generalize ((min 16 (z + 1) : Nat) : Int) = v2 at m2 m4
  have h2' : G.call 23 [.ref 0, .lst [.int (2 + (a : Int)), .int (y1 : Nat), .int (y2 : Nat)]] S1 = .ok x S2 := h2
  generalize (y1 : Int) = w1 at m3 h2'
  generalize (y2 : Int) = w2 at m4 h2'
  clear h2
  simp [ev37, h1, m1, m2, m3, m4, h2']
theorem w37d {c m d x : D} (h : G.call 19 [c, m, d] S = .ok x S) : evS G (.put 2 false (.call 19 [.var 3, .var 5, .var 6])) (ev37 .emp .emp (.val c) z' (.val m) (.val d)) S = .ok .nx (ev37 .emp (.val x) (.val c) z' (.val m) (.val d)) S := by
  simp [ev37, h]
theorem w37e {c m d a b : D} {z : Slot} {tx : PySem.Str} (h : G.call 19 [c, m, d] S = .ok (.tup [a, b]) S) (hr : dblt .repr [.tup [a, b]] = some (.str tx)) (hs : PyData.strOk tx = true) : evS G (.ifs (.or [.cmp .ne (.blt .repr [.call 19 [.var 3, .var 5, .var 6]]) (.blt .repr [.bor 2]), .not (.isi .tuple (.bor 2)), .cmp .ne (.blt .len [.bor 2]) (.int 2)]) [.ret (.bl false)] []) (ev37 .emp (.val (.tup [a, b])) (.val c) z (.val m) (.val d)) S = .ok .nx (ev37 .emp (.val (.tup [a, b])) (.val c) z (.val m) (.val d)) S := by
  have hd := deq_str hs
  simp [ev37, h, hr, hd, deq_int]
theorem w37f {m d p : D} {c z : Nat} {tx : PySem.Str} (hr : z < c → dblt .repr [p] = some (.str tx) ∧ p = .tup [.str ("most" : PySem.Str), .int (z : Nat)]) (hs : PyData.strOk tx = true) : evS G (.ifs (.and [.cmp .gt (.bor 3) (.bor 4), .cmp .ne (.blt .repr [.bor 2]) (.blt .repr [.tup [.str ("most" : PySem.Str), .var 4]])]) [.ret (.bl false)] []) (ev37 .emp (.val p) (.val (.int (c : Nat))) (.val (.int (z : Nat))) (.val m) (.val d)) S = .ok .nx (ev37 .emp (.val p) (.val (.int (c : Nat))) (.val (.int (z : Nat))) (.val m) (.val d)) S := by
  have hd := deq_str hs
  by_cases h : z < c
  · obtain ⟨h1, h2⟩ := hr h
    have h3 : dblt .repr [.tup [.str ("most" : PySem.Str), .int (z : Nat)]] = some (.str tx) := by rw [← h2]; exact h1
    have h' : (z : Int) < c := by omega
    simp [ev37, h, h1, h3, hd]
  · have h' : ¬ (z : Int) < c := by omega
    simp [ev37, h]
theorem w37g {m d b : D} {c z : Nat} {s : PySem.Str} (hr : ¬ z < c → deq (.str s) (.str ("plan" : PySem.Str)) = some true) : evS G (.ifs (.and [.cmp .le (.bor 3) (.bor 4), .cmp .ne (.idx (.bor 2) (.int 0)) (.str ("plan" : PySem.Str))]) [.ret (.bl false)] []) (ev37 .emp (.val (.tup [.str s, b])) (.val (.int (c : Nat))) (.val (.int (z : Nat))) (.val m) (.val d)) S = .ok .nx (ev37 .emp (.val (.tup [.str s, b])) (.val (.int (c : Nat))) (.val (.int (z : Nat))) (.val m) (.val d)) S := by
  have h0 : L2.atI [D.str s, b] 0 = some (.str s) := at0
  by_cases h : z < c
  · have h' : ¬ (c : Int) ≤ z := by omega
    have h'' : ¬ c ≤ z := by omega
    simp [ev37, h'']
  · have h' : (c : Int) ≤ z := by omega
    have h'' : c ≤ z := by omega
    have hq := hr h
    simp [ev37, h'', h0, hq]
theorem w37h {m d a b : D} {c z : Nat} (hr : ¬ z < c → G.call 33 [.int (c : Nat), m, d, b] S = .ok (.bl true) S) : evS G (.ifs (.and [.cmp .le (.bor 3) (.bor 4), .not (.call 33 [.var 3, .var 5, .var 6, .idx (.bor 2) (.int 1)])]) [.ret (.bl false)] []) (ev37 .emp (.val (.tup [a, b])) (.val (.int (c : Nat))) (.val (.int (z : Nat))) (.val m) (.val d)) S = .ok .nx (ev37 .emp (.val (.tup [a, b])) (.val (.int (c : Nat))) (.val (.int (z : Nat))) (.val m) (.val d)) S := by
  have h1 : L2.atI [a, b] 1 = some b := at1
  by_cases h : z < c
  · have h'' : ¬ c ≤ z := by omega
    simp [ev37, h'']
  · have h'' : c ≤ z := by omega
    have hq := hr h
    simp [ev37, h'', h1, hq]
theorem w37i {c m d p : D} {z : Slot} (h : G.call 20 [c, m, d, p] S = .ok (.bl true) S) : evS G (.ifs (.cmp .isNotN (.call 20 [.var 3, .var 5, .var 6, .var 2]) (.bl true)) [.ret (.bl false)] []) (ev37 .emp (.val p) (.val c) z (.val m) (.val d)) S = .ok .nx (ev37 .emp (.val p) (.val c) z (.val m) (.val d)) S := by
  simp [ev37, h]
theorem w37j {c m d t : D} {z : Slot} {b : Bool} (h1 : G.call 20 [c, m, d, t] S = .ok (.bl b) S) (h2 : G.call 34 [c, m, d, t] S = .ok (.bl b) S) : evSs G [.ifs (.cmp .ne (.blt .repr [.call 20 [.var 3, .var 5, .var 6, .var 1]]) (.blt .repr [.call 34 [.var 3, .var 5, .var 6, .var 1]])) [.ret (.bl false)] []] (ev37 (.val t) p' (.val c) z (.val m) (.val d)) S = .ok .nx (ev37 (.val t) p' (.val c) z (.val m) (.val d)) S := by
  obtain ⟨tx, r1, r2⟩ := okR_rp (n := 0) (d := .bl b) rfl (by decide) (by rw [nd] <;> first | decide | (intro _ z; cases z))
  have hr : dblt .repr [.bl b] = some (.str tx) := by
    show (D.rpO (.bl b)).map D.str = _
    rw [r1]
    rfl
  have hd := deq_str r2
  refine evSs_one ?_
  simp [ev37, h1, h2, hr, hd]
theorem w37k {c m d p z : D} {L L' : List D} {S1 S2 : Sto} (h1 : G.call 36 [.ref 0, p, z] S = .ok (.lst L) S1) (h2 : G.call 24 [.ref 0, .lst L] S1 = .ok (.lst L') S2) : evI G (.seq (.slc (.call 24 [.var 0, .call 36 [.var 0, .var 2, .var 4]]) none (some (.int 9)))) (ev37 .emp (.val p) (.val c) (.val z) (.val m) (.val d)) S = .ok (L'.take 9) (ev37 .emp (.val p) (.val c) (.val z) (.val m) (.val d)) S2 := by
  have h3 : slcO (.lst L') none (some 9) = some (.lst (L'.take 9)) := by
    show some (D.lst (Eng.cutD L' none (some ((9 : Nat) : Int)))) = _
    rw [cut_take]
  simp [ev37, h1, h2, h3]
end
section
variable {Γ : Nat → Gm} {k : Nat} {S : Sto}
theorem r_right (hR : Sem Pg Γ) (hS : Hand S) : ∃ S', (Γ (k + 11)).call 37 [.ref 0] S = .ok (.bl true) S' ∧ Hand S' := by
  rw [hR.step _ 37 f37 _ _ rfl, run_b b37 (ev37 .emp .emp .emp .emp .emp .emp) rfl rfl rfl]
  obtain ⟨m, S1, a1, a2, a3⟩ := drawG (k := k + 9) hR (n := 6) (by decide) (by decide) S hS
  obtain ⟨d, S2, b1, b2', b3⟩ := drawG (k := k + 9) hR (n := 3) (by decide) (by decide) S1 a2
  obtain ⟨a, S3, c1, c2, c3⟩ := drawG (k := k + 9) hR (n := 15) (by decide) (by decide) S2 b2'
  have e32 := r_lmost (k := k + 9) (S := S2) hR (n := m) (d := 1 + d) (by omega) (by omega)
  generalize hz : (1 + d + 1) ^ m = z at e32
  have hz1 : 1 ≤ z := by rw [← hz]; exact Nat.pow_pos (by omega)
  obtain ⟨x, S4, d1, d2, d3⟩ := r_some hR (k := k + 8) c2 (l := [.int ((2 + a : Nat) : Nat), .int ((max 2 (min 16 z) : Nat) : Nat), .int ((max 2 (min 16 (z + 1)) : Nat) : Nat)]) (by simp) (by simp)
  obtain ⟨c, ex, hc1, hc2⟩ : ∃ c : Nat, x = .int (c : Nat) ∧ 2 ≤ c ∧ c ≤ 16 := by
    simp only [List.mem_cons, List.not_mem_nil, or_false] at d3
    rcases d3 with e | e | e
    · exact ⟨_, e, by omega, by omega⟩
    · exact ⟨_, e, by omega, by omega⟩
    · exact ⟨_, e, by omega, by omega⟩
  subst ex
  have mk : Mk c m (1 + d) := ⟨hc1, hc2, by omega, by omega, by omega⟩
  have t19 := r_mice_told (k := k + 6) (S := S4) hR mk
  obtain ⟨tx, rp1, rp2⟩ := told_rp mk
  obtain ⟨th, s, b, et, hs, hb⟩ := told_th mk
  obtain ⟨bo, j1, j2, j3, j4⟩ := r_judged (k := k) (S := S4) hR mk th
  have hw := okP_w (cups := c) (mice := m) (days := 1 + d) mk.m mk.d1 mk.d2
  have htl : ¬ z < c → tl c m (1 + d) (wplan c m (1 + d)) = true := fun h => by
    unfold tl
    have := w_tells (cups := c) (mice := m) (days := 1 + d) (by omega)
    rw [this]
    have l1 : (wplan c m (1 + d)).length = m := by unfold wplan; rw [List.length_map, List.length_range']
    have l2 : (wplan c m (1 + d)).all (fun x => decide (x.length = 1 + d)) = true := List.all_eq_true.mpr fun x hx => decide_eq_true (hw.2.2.2 x hx).1
    rw [l1, l2, decide_eq_true rfl]
    rfl
  have hbo : bo = true := by
    by_cases h : z < c
    · refine j3 ?_ (by rw [hz]; exact h)
      unfold toldM
      rw [hz, if_pos h]
    · refine j4 (wplan c m (1 + d)) (1 + d) ?_ hw (htl h)
      unfold toldM
      rw [hz, if_neg h]
  subst hbo
  have h33 : ¬ z < c → (Γ (k + 10)).call 33 [.int (c : Nat), .int (m : Nat), .int ((1 + d : Nat) : Nat), b] S4 = .ok (.bl true) S4 := fun h => by
    have hh := r_does (k := k + 7) (S := S4) (mice := m) (days := 1 + d) hR mk.c2 hw
    rw [htl h] at hh
    have : b = pD (wplan c m (1 + d)) := by
      unfold toldM at et
      rw [hz, if_neg h] at et
      injection et with et
      injection et with _ et
      injection et with et
      exact et.symm
    rw [this]
    exact hh
  have hpl : ¬ z < c → deq (.str s) (.str ("plan" : PySem.Str)) = some true := fun h => by
    have : s = ("plan" : PySem.Str) := by
      unfold toldM at et
      rw [hz, if_neg h] at et
      injection et with et
      injection et with et
      injection et with et
      exact et.symm
    rw [this]
    exact deq_str (sok_of _)
  have hmo : z < c → D.tup [.str s, b] = .tup [.str ("most" : PySem.Str), .int (z : Nat)] := fun h => by
    rw [← et]
    unfold toldM
    rw [hz, if_pos h]
  obtain ⟨L, S5, f1, f2, f3, f4⟩ := r_things (k := k + 6) hR (s := s) (b := b) (z := z) hs hb d2
  obtain ⟨L', S6, g1, g2, g3⟩ := r_shuffled (k := k + 8) hR f2 (l := L) (by omega)
  have hj : ∀ t ∈ L'.take 9, ∃ b : Bool, (Γ (k + 10)).call 20 [.int (c : Nat), .int (m : Nat), .int ((1 + d : Nat) : Nat), t] S6 = .ok (.bl b) S6 ∧ (Γ (k + 10)).call 34 [.int (c : Nat), .int (m : Nat), .int ((1 + d : Nat) : Nat), t] S6 = .ok (.bl b) S6 := fun t ht => by
    obtain ⟨b, q1, q2, _, _⟩ := r_judged (k := k) (S := S6) hR mk (f4 t (g3 t (List.mem_of_mem_take ht)))
    exact ⟨b, q1, q2⟩
  rw [et] at t19 rp1 j1
  have hr : dblt .repr [.tup [.str s, b]] = some (.str tx) := by
    show (D.rpO (.tup [.str s, b])).map D.str = _
    rw [rp1]
    rfl
  generalize Γ (k + 10) = G at *
  refine ⟨S6, ?_, g2⟩
  obtain ⟨k1, _⟩ := fr_all (G := G) (t := .name 1) (b := [.ifs (.cmp .ne (.blt .repr [.call 20 [.var 3, .var 5, .var 6, .var 1]]) (.blt .repr [.call 34 [.var 3, .var 5, .var 6, .var 1]])) [.ret (.bl false)] []]) (S := S6) (d := .bl false) (id : D → D) (fun o : Slot => ev37 o (.val (.tup [.str s, b])) (.val (.int (c : Nat))) (.val (.int (z : Nat))) (.val (.int (m : Nat))) (.val (.int ((1 + d : Nat) : Nat)))) (fun _ => true) (L'.take 9) .emp fun t ht o => by
    obtain ⟨bb, q1, q2⟩ := hj t ht
    exact ⟨_, rfl, fun _ => ⟨.val t, w37j q1 q2⟩, fun h => nomatch h⟩
  obtain ⟨o', k2⟩ := k1 (List.all_eq_true.mpr fun _ _ => rfl)
  have q10 : evS G l37_0 (ev37 .emp (.val (.tup [.str s, b])) (.val (.int (c : Nat))) (.val (.int (z : Nat))) (.val (.int (m : Nat))) (.val (.int ((1 + d : Nat) : Nat)))) S4 = .ok .nx (ev37 o' (.val (.tup [.str s, b])) (.val (.int (c : Nat))) (.val (.int (z : Nat))) (.val (.int (m : Nat))) (.val (.int ((1 + d : Nat) : Nat)))) S6 := by
    unfold l37_0
    rw [evS_fr, w37k f1 g1, Res.bind_ok]
    have := k2
    rw [List.map_id] at this
    exact this
  unfold b37
  refine (congrArg endR (evSs_step (w37a (G := G) a1 b1))).trans ?_
  refine (congrArg endR (evSs_step (w37b (G := G) e32))).trans ?_
  refine (congrArg endR (evSs_step (w37c (G := G) c1 rfl rfl d1))).trans ?_
  refine (congrArg endR (evSs_step (w37d (G := G) t19))).trans ?_
  refine (congrArg endR (evSs_step (w37e (G := G) t19 hr rp2))).trans ?_
  refine (congrArg endR (evSs_step (w37f (G := G) (fun h => ⟨hr, hmo h⟩) rp2))).trans ?_
  refine (congrArg endR (evSs_step (w37g (G := G) hpl))).trans ?_
  refine (congrArg endR (evSs_step (w37h (G := G) h33))).trans ?_
  refine (congrArg endR (evSs_step (w37i (G := G) j1))).trans ?_
  refine (congrArg endR (evSs_step q10)).trans ?_
  simp
end
end Law

set_option maxHeartbeats 4000000
/-! mice: the law -/
namespace Law
open PySem Eng PyProof.Rows
def pc : Pl := [[[0, 1]], [[0, 2]]]
def p9 : Pl := [[[0, 3, 6], [1, 4, 7]], [[0, 1, 2], [3, 4, 5]]]
section
variable {G : Gm} {S : Sto}
def ev38 (s st c p h : Slot) : Eng.Env := [s, st, c, p, h]
theorem w38f {s : Slot} : evE G (.tup [.tup [.tup [.int 0, .int 1]], .tup [.tup [.int 0, .int 2]]]) (ev38 s .emp .emp .emp (.val (.ref 0))) S = .ok (pD pc) (ev38 s .emp .emp .emp (.val (.ref 0))) S := by
  have e : pD pc = .tup [.tup [.tup [.int 0, .int 1]], .tup [.tup [.int 0, .int 2]]] := rfl
  rw [e]
  simp
theorem w38a {s : Slot} {pv v1 v2 : D} (h1 : G.call 15 [.int 4, pv, .int 1, .tup [.int 0, .non]] S = .ok v1 S) (h2 : G.call 15 [.int 4, pv, .int 2, .tup [.non, .non]] S = .ok v2 S) (e1 : deq v1 (.tup [.tup [.int 1]]) = some true) (e2 : deq v2 (.tup []) = some true) :
    evS G (.ifs (.or [.cmp .ne (.call 15 [.int 4, .var 3, .int 1, .tup [.int 0, .non]]) (.tup [.tup [.int 1]]), .cmp .ne (.call 15 [.int 4, .var 3, .int 2, .tup [.non, .non]]) (.tup [])]) [.ret (.bl false)] []) (ev38 s .emp .emp (.val pv) (.val (.ref 0))) S = .ok .nx (ev38 s .emp .emp (.val pv) (.val (.ref 0))) S := by
  simp [ev38, h1, h2, e1, e2]
theorem w38b {e : Eng.Env} {v : D} (h1 : G.call 19 [.int 10, .int 2, .int 2] S = .ok v S) (e1 : deq v (.tup [.str ("most" : PySem.Str), .int 9]) = some true) :
    evS G (.ifs (.cmp .ne (.call 19 [.int 10, .int 2, .int 2]) (.tup [.str ("most" : PySem.Str), .int 9])) [.ret (.bl false)] []) e S = .ok .nx e S := by
  simp [h1, e1]
theorem w38c {e : Eng.Env} (h1 : G.call 20 [.int 9, .int 2, .int 2, .tup [.str ("plan" : PySem.Str), .tup [.tup [.tup [.int 0, .int 3, .int 6], .tup [.int 1, .int 4, .int 7]], .tup [.tup [.int 0, .int 1, .int 2], .tup [.int 3, .int 4, .int 5]]]]] S = .ok (.bl true) S) :
    evS G (.ifs (.cmp .isNotN (.call 20 [.int 9, .int 2, .int 2, .tup [.str ("plan" : PySem.Str), .tup [.tup [.tup [.int 0, .int 3, .int 6], .tup [.int 1, .int 4, .int 7]], .tup [.tup [.int 0, .int 1, .int 2], .tup [.int 3, .int 4, .int 5]]]]]) (.bl true)) [.ret (.bl false)] []) e S = .ok .nx e S := by
  simp [h1]
theorem w38d {e : Eng.Env} {v : D} (h1 : G.call 19 [.int 2, .int 0, .int 1] S = .ok v S) (e1 : deq v (.tup [.str ("most" : PySem.Str), .int 1]) = some true) (h2 : G.call 20 [.int 9, .int 2, .int 2, .tup [.str ("most" : PySem.Str), .int 9]] S = .ok (.bl false) S) :
    evS G (.ifs (.or [.cmp .ne (.call 19 [.int 2, .int 0, .int 1]) (.tup [.str ("most" : PySem.Str), .int 1]), .cmp .isNotN (.call 20 [.int 9, .int 2, .int 2, .tup [.str ("most" : PySem.Str), .int 9]]) (.bl false)]) [.ret (.bl false)] []) e S = .ok .nx e S := by
  simp [h1, e1, h2]
theorem w38e {s p st co : Slot} {c : Nat} {pl : D} {S1 S2 S3 S4 : Sto} (h1 : G.call 22 [.ref 0, .int 6] S = .ok (.int (c : Nat)) S1) (h2 : G.call 27 [.ref 0, .int ((2 + c : Nat) : Nat)] S1 = .ok pl S2) (h3 : G.call 35 [.ref 0, .int ((2 + c : Nat) : Nat), pl] S2 = .ok (.bl true) S3) (h4 : G.call 37 [.ref 0] S3 = .ok (.bl true) S4) :
    evSs G [.put 2 false (.bin .add (.int 2) (.call 22 [.var 4, .int 6])), .ifs (.or [.not (.call 35 [.var 4, .var 2, .call 27 [.var 4, .var 2]]), .not (.call 37 [.var 4])]) [.ret (.bl false)] []] (ev38 s st co p (.val (.ref 0))) S = .ok .nx (ev38 s st (.val (.int ((2 + c : Nat) : Nat))) p (.val (.ref 0))) S4 := by
  have s1 : evS G (.put 2 false (.bin .add (.int 2) (.call 22 [.var 4, .int 6]))) (ev38 s st co p (.val (.ref 0))) S = .ok .nx (ev38 s st (.val (.int ((2 + c : Nat) : Nat))) p (.val (.ref 0))) S1 := by
    simp [ev38, h1]
  refine (evSs_step s1).trans ?_
  generalize ((2 + c : Nat) : Int) = z at h2 h3 ⊢
  refine evSs_one ?_
  simp [ev38, h2, h3, h4]
end
section
variable {Γ : Nat → Gm} {k : Nat} {S : Sto}
theorem pk1 : okP 4 1 pc := by
  refine ⟨by decide, by decide, by decide, fun m hm => ?_⟩
  simp only [pc, List.mem_cons, List.not_mem_nil, or_false] at hm
  rcases hm with e | e <;> subst e <;> exact ⟨rfl, fun r hr => by rw [List.mem_singleton.mp hr]; decide⟩
theorem pk9 : okP 9 2 p9 := by
  refine ⟨by decide, by decide, by decide, fun m hm => ?_⟩
  simp only [p9, List.mem_cons, List.not_mem_nil, or_false] at hm
  rcases hm with e | e <;> subst e <;> refine ⟨rfl, fun r hr => ?_⟩ <;> simp only [List.mem_cons, List.not_mem_nil, or_false] at hr <;> rcases hr with e | e <;> subst e <;> decide
theorem most_no (hR : Sem Pg Γ) : (Γ (k + 10)).call 20 [.int 9, .int 2, .int 2, .tup [.str ("most" : PySem.Str), .int 9]] S = .ok (.bl false) S := by
  have hk : Mk 9 2 2 := ⟨by decide, by decide, by decide, by decide, by decide⟩
  have c18 := r_check_mice (k := k + 6) (S := S) hR hk
  have c16 := r_most (k := k + 8) (S := S) hR (n := 2) (d := 2) (by omega) (by omega)
  have c2 := r_is_sized (k := k + 8) (S := S) hR (d := .tup [.str ("most" : PySem.Str), .int 9]) (a := 2) (b := 2) rfl
  have c1 := r_is_within (k := k + 7) (S := S) hR (d := .int 9) (a := ((2 + 1) ^ 2 : Nat)) (b := ((2 + 1) ^ 2 : Nat)) rfl
  show (Γ (k + 10)).call 20 [.int ((9 : Nat) : Int), .int ((2 : Nat) : Int), .int ((2 : Nat) : Int), .tup [.str ("most" : PySem.Str), .int 9]] S = _
  rw [hR.step _ 20 f20 _ _ rfl, run_b b20 (ev20 (.int ((9 : Nat) : Int)) (.int ((2 : Nat) : Int)) (.int ((2 : Nat) : Int)) (.tup [.str ("most" : PySem.Str), .int 9]) .emp .emp) rfl rfl rfl]
  unfold b20
  rw [w20s c18 c2 c16]
  refine (w20m (deq_str (sok_of _)) c1).trans ?_
  rfl
theorem r_law (hR : Sem Pg Γ) (ns : List Int) (hn : ns.length ≤ 63) : ∃ S', (Γ (k + 12)).call (P.length - 1) [.scr (ns.map D.int)] [] = .ok (.bl true) S' := by
  show ∃ S', (Γ (k + 12)).call 38 [.scr (ns.map D.int)] [] = .ok (.bl true) S'
  rw [hR.step _ 38 f38 _ _ rfl, run_b b38 (ev38 (.val (.scr (ns.map D.int))) .emp .emp .emp .emp) rfl rfl rfl]
  obtain ⟨S1, h1, h2⟩ := r_law_hand (k := k + 10) hR hn
  have k1 : Pk 4 1 1 pc := ⟨pk1, by decide, by decide, by decide, by decide⟩
  have k2 : Pk 4 1 2 pc := ⟨pk1, by decide, by decide, by decide, by decide⟩
  have b1 := r_bad_for (k := k + 2) (S := S1) hR (s := [some 0, none]) k1 rfl (fun o ho n e => by
    subst e
    simp only [List.mem_cons, List.not_mem_nil, or_false, reduceCtorEq] at ho
    cases ho
    decide)
  have b2 := r_bad_for (k := k + 2) (S := S1) hR (s := [none, none]) k2 rfl (fun o ho n e => by
    subst e
    simp at ho)
  rw [show (bads 4 1).filter (fun y => decide (seen pc y = [some 0, none])) = [[1]] from by decide] at b1
  rw [show (bads 4 2).filter (fun y => decide (seen pc y = [none, none])) = [] from by decide] at b2
  have m1 : Mk 10 2 2 := ⟨by decide, by decide, by decide, by decide, by decide⟩
  have m2 : Mk 2 0 1 := ⟨by decide, by decide, by decide, by decide, by decide⟩
  have m9 : Mk 9 2 2 := ⟨by decide, by decide, by decide, by decide, by decide⟩
  have t1 := r_mice_told (k := k + 7) (S := S1) hR m1
  have t2 := r_mice_told (k := k + 7) (S := S1) hR m2
  have no := most_no (k := k + 1) (S := S1) hR
  have th9 : Th (.tup [.str ("plan" : PySem.Str), pD p9]) := .inl (pl_pair (sok_of _) (Bs.pl (.pls _ (by decide) fun x hx => by
    obtain ⟨ms, hm, rfl⟩ := List.mem_map.mp hx
    refine ⟨ms, rfl, ?_⟩
    simp only [p9, List.mem_cons, List.not_mem_nil, or_false] at hm
    rcases hm with e | e <;> subst e <;> refine ⟨by decide, by decide, fun r hr => ?_⟩ <;> simp only [List.mem_cons, List.not_mem_nil, or_false] at hr <;> rcases hr with e | e <;> subst e <;> decide)))
  obtain ⟨bo, j1, _, _, j4⟩ := r_judged (k := k + 1) (S := S1) hR m9 th9
  have hbo := j4 p9 2 rfl pk9 (by decide +kernel)
  subst hbo
  have loop : ∃ (e2 : Eng.Env) (S2 : Sto), evS (Γ (k + 11)) l38_0 (ev38 (.val (.scr (ns.map D.int))) .emp .emp (.val (pD pc)) (.val (.ref 0))) S1 = .ok .nx e2 S2 := by
    have hi : evI (Γ (k + 11)) (.rng [.int 5]) (ev38 (.val (.scr (ns.map D.int))) .emp .emp (.val (pD pc)) (.val (.ref 0))) S1 = .ok ((List.range' 0 5).map fun k => D.int (k : Nat)) (ev38 (.val (.scr (ns.map D.int))) .emp .emp (.val (pD pc)) (.val (.ref 0))) S1 := rng1 (w := .non) (by decide) (by simp)
    obtain ⟨e2, S2, q1, _⟩ := loopF_nat (turnF (.name 1) (evSs (Γ (k + 11)) [.put 2 false (.bin .add (.int 2) (.call 22 [.var 4, .int 6])), .ifs (.or [.not (.call 35 [.var 4, .var 2, .call 27 [.var 4, .var 2]]), .not (.call 37 [.var 4])]) [.ret (.bl false)] []])) 5 (fun i e S => Hand S ∧ ∃ st co, e = ev38 (.val (.scr (ns.map D.int))) st co (.val (pD pc)) (.val (.ref 0))) (ev38 (.val (.scr (ns.map D.int))) .emp .emp (.val (pD pc)) (.val (.ref 0))) S1 ⟨h2, .emp, .emp, rfl⟩ (fun i e S _ ⟨hS, st, co, he⟩ => by
      subst he
      obtain ⟨c, Sa, a1, a2, a3⟩ := drawG (k := k + 10) hR (n := 6) (by decide) (by decide) S hS
      obtain ⟨p, d, Sb, c1, c2, c3⟩ := r_law_plan (k := k + 8) hR (c := 2 + c) (by omega) a2
      obtain ⟨Sc, d1, d2⟩ := r_bads_right (k := k + 1) hR c3 (by omega) (by omega) c2
      obtain ⟨Sd, e1, e2⟩ := r_right (k := k) hR d2
      exact ⟨.nx, ev38 (.val (.scr (ns.map D.int))) (.val (.int (i : Nat))) (.val (.int ((2 + c : Nat) : Nat))) (.val (pD pc)) (.val (.ref 0)), Sd, (turnF_at (e2 := ev38 (.val (.scr (ns.map D.int))) (.val (.int (i : Nat))) co (.val (pD pc)) (.val (.ref 0))) rfl).trans (w38e a1 c1 d1 e1), .inl rfl, e2, _, _, rfl⟩)
    refine ⟨e2, S2, ?_⟩
    unfold l38_0
    rw [evS_fr, hi]
    exact q1
  obtain ⟨e2, S2, hl⟩ := loop
  refine ⟨S2, ?_⟩
  have q1 : evS (Γ (k + 11)) (.put 4 false (.call 21 [.var 0])) (ev38 (.val (.scr (ns.map D.int))) .emp .emp .emp .emp) [] = .ok .nx (ev38 (.val (.scr (ns.map D.int))) .emp .emp .emp (.val (.ref 0))) S1 := by
    generalize D.scr (ns.map D.int) = sv at h1 ⊢
    simp [ev38, h1]
  have q2 := put_v (i := 3) (w38f (G := Γ (k + 11)) (S := S1) (s := .val (.scr (ns.map D.int))))
  unfold b38
  refine (congrArg endR (evSs_step q1)).trans ?_
  refine (congrArg endR (evSs_step q2)).trans ?_
  refine (congrArg endR (evSs_step (w38a b1 b2 (deq_self 2 (by decide)) (deq_self 2 (by decide))))).trans ?_
  refine (congrArg endR (evSs_step (w38b t1 (deq_self 1 (by decide +kernel))))).trans ?_
  refine (congrArg endR (evSs_step (w38c j1))).trans ?_
  refine (congrArg endR (evSs_step (w38d t2 (deq_self 1 (by decide +kernel)) no))).trans ?_
  refine (congrArg endR (evSs_step hl)).trans ?_
  simp
end
end Law

set_option maxHeartbeats 0
/-! The head of the law. -/
namespace Law
open PySem PySem.Spec PyProof.Rows L2
abbrev hk : PySem.W.Hook := Eng.hookX 4 T fn
def ob (s : PySem.W.SharedT) : He.AlX := Eng.obsXG 4 T fn (HandSHeadRun.getT s)
theorem ob_eq (s : PySem.W.SharedT) : ob s = hk.obs s.abs := Eng.obsXG_eq (HandSHeadRun.getT_eq s)
def lawAt : Nat := R.prog.main.body.length - 1
def loose : List PySem.Str := R.prog.boundNames.filter fun n => n != "law"
theorem run (w : World) : HandSHeadRun.RunEq R (PySem.W.view R.prog [lawAt]) hk ob 6000 loose w := by
  intro os
  kernel_rfl
end Law

set_option maxHeartbeats 0
open PySem PySem.W PySem.Calls PyProof.Rows
theorem Law.holds (ev : ∀ ns : List Int, ns.length ≤ 63 → (∀ z ∈ ns, Builtin.Int.intBits z ≤ 1048576) → ∃ S', (Eng.gam Law.Pg 100).call (Law.P.length - 1) [.scr (ns.map Eng.D.int)] [] = .ok (.bl true) S') : PySem.Challenge.rw_beastriddles_k31_whole_lots_seen_so_and.Holds := by
  w_on; o_law
  refine HandSHeadRun.head_any (r := Law.R) (q := view Law.R.prog [Law.lawAt]) (H := Law.hk) (ob := Law.ob) (M := 6000) (loose := Law.loose) (d := HandSHeadRun.topDef Law.R.prog Law.lawAt) (kwd := []) Law.ob_eq
    (by kernel_rfl) (fun s => by kernel_rfl) Law.run (by kernel_rfl) (by kernel_rfl) (by kernel_rfl) (by rfl) (by first | assumption | decide +kernel) (by decide +kernel) ⟨rfl, rfl, rfl, rfl, rfl, by decide +kernel⟩ ?hw ?hc
  case hw => w_witness2
  case hc =>
    exact Eng.law_end (l := Law.rw0) (n := 63) (k := 100) (Pg := Law.Pg) (i := Law.P.length - 1) (x := "script") rfl (by decide) (by kernel_rfl) ⟨rfl, by decide, by decide⟩ (fun _ _ => rfl) Law.defs (by kernel_rfl) ev

set_option maxHeartbeats 0
/-! the law's proof -/
namespace Law
open PySem Eng PyProof.Rows
theorem ev (ns : List Int) (hn : ns.length ≤ 63) (_ : ∀ z ∈ ns, Builtin.Int.intBits z ≤ 1048576) : ∃ S', (gam Pg 100).call (P.length - 1) [.scr (ns.map D.int)] [] = .ok (.bl true) S' :=
  r_law (Γ := gam Pg) (k := 88) sem_gam ns hn
end Law
theorem PySem.Challenge.cw_beastriddles_k31_whole_lots_seen_so_and_holds : PySem.Challenge.rw_beastriddles_k31_whole_lots_seen_so_and.Holds :=
  Law.holds Law.ev

