import PyProof.Rows.All
import HandS.ForMost
import HandS.ForExc
import KE.SortKeyed
import HandS.ExcCtx
import HandS.ExcInit
import HandS.ExcOwn
import HandS.Wide
import HandS.WideBits
import HandS.TupAny
import HandS.IsInst
import HandS.SortInts
import HandS.Flow
import KE.SortData
import HandS.Conv
import HandS.Strs
import HandS.Deep
import HandS.RevTup
import HandS.Rev
import HandS.Comp
import HandS.Zip
import HandS.TryMany
import HandS.Defaults
import HandS.HeadHook4
import HandS.EndBits
import HandS.Ends
import HandS.Head2
import HandS.HeadEnd
import KE.KStateDown
import HandS.Head0
import HandS.Head1
import PySem.Challenge.RW_sourcestold_k75_rising_rows
set_option Elab.async false
set_option linter.all false
namespace T
open PySem
/-- a value as a tree: everything that is never changed again -/
inductive D where
  | non
  | bl (b : Bool)
  | int (i : Int)
  | str (s : Str)
  | tup (xs : List D)
  | lst (xs : List D)
  | dct (k : Bool) (ks vs : List D)
  | ins (c : Nat) (ns : List Nat) (vs : List D)
  | exc (c : Nat) (ns : List Nat) (vs : List D)
  deriving Inhabited
/-- a value with what its holder alone holds: lists, dicts, objects that may still change -/
inductive O where
  | pure (d : D)
  | lst (xs : List O)
  | dct (k : Bool) (ks : List D) (vs : List O)
  | ins (c : Nat) (ns : List Nat) (vs : List O)
  deriving Inhabited
mutual
def O.fz : O → D
  | .pure d => d
  | .lst xs => .lst (O.fzs xs)
  | .dct k ks vs => .dct k ks (O.fzs vs)
  | .ins c ns vs => .ins c ns (O.fzs vs)
def O.fzs : List O → List D
  | [] => []
  | x :: xs => x.fz :: O.fzs xs
end
theorem O.fzs_map : ∀ xs : List O, O.fzs xs = xs.map O.fz
  | [] => rfl
  | x :: xs => by rw [O.fzs, List.map_cons, O.fzs_map xs]
-- no list, no dict within: it can stand on nothing that changes
mutual
def D.lf : D → Bool
  | .tup xs => D.lfs xs
  | .lst _ => false
  | .dct _ _ _ => false
  | .ins _ _ vs => D.lfs vs
  | .exc _ _ vs => D.lfs vs
  | .non => true
  | .bl _ => true
  | .int _ => true
  | .str _ => true
def D.lfs : List D → Bool
  | [] => true
  | x :: xs => x.lf && D.lfs xs
end
mutual
def O.free : O → Bool
  | .pure d => d.lf
  | .lst xs => O.frees xs
  | .dct _ ks vs => D.lfs ks && O.frees vs
  | .ins _ _ vs => O.frees vs
def O.frees : List O → Bool
  | [] => true
  | x :: xs => x.free && O.frees xs
end
abbrev Env := List (Option O)
structure Exn where
  c : Nat
  ns : List Nat
  vs : List D
abbrev Oc (α : Type) := Option (Except Exn α × Env)
def Oc.bind {α β : Type} (x : Oc α) (f : α → Env → Oc β) : Oc β := match x with
  | none => none
  | some (.error e, env) => some (.error e, env)
  | some (.ok a, env) => f a env
@[reducible] def ok {α : Type} (a : α) (env : Env) : Oc α := some (.ok a, env)
inductive Step where
  | ix (n : Nat)
  | fld (f : Nat)
  deriving DecidableEq
def lkp {α : Type} : List Nat → List α → Nat → Option α
  | n :: ns, v :: vs, f => if n = f then some v else lkp ns vs f
  | _, _, _ => none
def O.sub : O → Step → Option O
  | .lst xs, .ix n => xs[n]?
  | .ins _ ns vs, .fld f => lkp ns vs f
  | _, _ => none
def O.at : O → List Step → Option O
  | o, [] => some o
  | o, s :: p => match o.sub s with
    | some o' => o'.at p
    | none => none
def setF {α : Type} : List Nat → List α → Nat → α → List Nat × List α
  | n :: ns, v :: vs, f, x => if n = f then (n :: ns, x :: vs) else let r := setF ns vs f x; (n :: r.1, v :: r.2)
  | _, _, f, x => ([f], [x])
/-- the same with another thing at a place -/
def O.put : O → List Step → O → Option O
  | _, [], x => some x
  | .lst xs, .ix n :: p, x => match xs[n]? with
    | some o' => match o'.put p x with
      | some y => some (.lst (xs.set n y))
      | none => none
    | none => none
  | .ins c ns vs, .fld f :: p, x => match lkp ns vs f with
    | some o' => match o'.put p x with
      | some y => let r := setF ns vs f y; some (.ins c r.1 r.2)
      | none => none
    | none => none
  | _, _, _ => none
def Env.at (env : Env) (i : Nat) (p : List Step) : Option O := match env[i]? with
  | some (some o) => o.at p
  | _ => none
def Env.put (env : Env) (i : Nat) (p : List Step) (x : O) : Option Env := match env[i]? with
  | some (some o) => match o.put p x with
    | some o' => some (env.set i (some o'))
    | none => none
  | _ => none
def Env.freeze (env : Env) (i : Nat) (p : List Step) : Option (D × Env) := match env.at i p with
  | some o => match env.put i p (.pure o.fz) with
    | some env' => some (o.fz, env')
    | none => none
  | none => none
inductive R where
  | var (i : Nat)
  | con (d : D)
  | glb (g : Nat)
  | idx (a b : R)
  | att (a : R) (f : Nat)
inductive Arg where
  | val (d : D)
  | ref (i : Nat) (p : List Step)
def lenOk (n : Nat) : Bool := decide (n ≤ 16777216)
def D.same : D → D → Bool := fun _ _ => false
-- how a key is found: by ints, texts, tuples of them
mutual
def D.keq : D → D → Bool
  | .int i, .int j => decide (i = j)
  | .str s, .str t => decide (s = t)
  | .tup xs, .tup ys => D.keqs xs ys
  | _, _ => false
def D.keqs : List D → List D → Bool
  | [], [] => true
  | x :: xs, y :: ys => x.keq y && D.keqs xs ys
  | _, _ => false
end
def lkD {α : Type} : List D → List α → D → Option α
  | k :: ks, v :: vs, x => if k.keq x then some v else lkD ks vs x
  | _, _, _ => none
def D.idx : D → D → Option D
  | .lst xs, .int i => L2.atI xs i
  | .tup xs, .int i => L2.atI xs i
  | .str s, .int i => if lenOk s.length then (L2.atI s.cps.toList i).map fun c => .str ⟨#[c]⟩ else none
  | .dct false ks vs, x => lkD ks vs x
  | _, _ => none
def D.att (fld : Nat → Nat → Bool) : D → Nat → Option D
  | .ins c ns vs, f => if fld c f then lkp ns vs f else none
  | _, _ => none
def O.idx : O → D → Option (Step × O)
  | .lst xs, .int i => match L2.ixN xs.length i with
    | some n => match xs[n]? with
      | some o => some (.ix n, o)
      | none => none
    | none => none
  | _, _ => none
def O.att (fld : Nat → Nat → Bool) : O → Nat → Option (Step × O)
  | .ins c ns vs, f => if fld c f then match lkp ns vs f with
      | some o => some (.fld f, o)
      | none => none
    else none
  | _, _ => none
def argAt (i : Nat) (p : List Step) : O → Arg
  | .pure d => .val d
  | _ => .ref i p
/-- what is known of the program -/
structure Ctx where
  /-- the constants of the module -/
  G : Nat → Option D
  /-- classes: the first under the second -/
  sub : Nat → Nat → Option Bool
  /-- the defs: what they give, and what their parameters hold behind -/
  fn : Nat → List O → Option (Except Exn O × List O)
  /-- which parameters they change -/
  br : Nat → List Bool
  /-- a class's __init__ -/
  ini : Nat → Option Nat
  /-- a class's method -/
  mth : Nat → Nat → Option Nat
  /-- a class's fields -/
  fld : Nat → Nat → Bool
  /-- the fields of an error's class, in the order of __init__'s parameters -/
  exf : Nat → Option (List Nat)
  /-- errors' classes: the first is caught by the second -/
  exs : Nat → Nat → Option Bool
def evalR (C : Ctx) (env : Env) : R → Option Arg
  | .var i => match env[i]? with
    | some (some o) => some (argAt i [] o)
    | _ => none
  | .con d => some (.val d)
  | .glb g => match C.G g with
    | some d => some (.val d)
    | none => none
  | .idx a b => match evalR C env a, evalR C env b with
    | some (.val d), some (.val k) => match d.idx k with
      | some x => some (.val x)
      | none => none
    | some (.ref i p), some (.val k) => match env.at i p with
      | some (.dct false ks vs) => match lkD ks vs k with
        | some (.pure d) => some (.val d)
        | _ => none
      | some o => match o.idx k with
        | some (s, o') => some (argAt i (p ++ [s]) o')
        | none => none
      | none => none
    | _, _ => none
  | .att a f => match evalR C env a with
    | some (.val d) => match d.att C.fld f with
      | some x => some (.val x)
      | none => none
    | some (.ref i p) => match env.at i p with
      | some o => match o.att C.fld f with
        | some (s, o') => some (argAt i (p ++ [s]) o')
        | none => none
      | none => none
    | none => none
def Arg.view (env : Env) : Arg → Option D
  | .val d => some d
  | .ref i p => match env.at i p with
    | some o => some o.fz
    | none => none
-- lists and dicts alone
mutual
def O.noIns : O → Bool
  | .pure _ => true
  | .lst xs => O.noInss xs
  | .dct _ _ vs => O.noInss vs
  | .ins _ _ _ => false
def O.noInss : List O → Bool
  | [] => true
  | x :: xs => x.noIns && O.noInss xs
end
def Env.loose (env : Env) (i : Nat) (p : List Step) : Bool := match env.at i p with
  | some o => o.noIns
  | none => false
/-- what is held at these places may change no more: how it looks, whether it is lists and dicts alone, and the frame behind -/
def freezes : List Arg → Env → Option (List D × Bool × Env)
  | [], env => some ([], true, env)
  | .val d :: as, env => match freezes as env with
    | some (ds, l, env') => some (d :: ds, l, env')
    | none => none
  | .ref i p :: as, env => match env.freeze i p with
    | some (d, env1) => match freezes as env1 with
      | some (ds, l, env') => some (d :: ds, env.loose i p && l, env')
      | none => none
    | none => none
inductive Ty where
  | int | bool | str | tup | lst | dct | cls (c : Nat)
inductive Op where
  | add | sub | mul | fdiv | mod | pow
  | neg | not
  | eq | ne | lt | le | gt | ge | inn | nin | is | isn
  | tup | lst
  | idx | slc (lo hi : Bool)
  | att (f : Nat)
  | len | abs | max2 | min2 | int1 | bitl
  | tupof | lstof | lrng | lrev
  | sorted | sum | all | any
  | index
  | isi (ts : List Ty)
def mulOk (i j : Int) : Bool := decide (i.natAbs.log2 + j.natAbs.log2 < 1000000)
def divOk (j : Int) : Bool := decide (j ≠ 0) && decide (j.natAbs.log2 < 9000)
def powOk (i j : Int) : Bool := decide (0 ≤ j) && decide (j ≤ 1000000) && decide (i.natAbs < 18446744073709551616)
def rngOk (i : Int) : Bool := decide (-4611686018427387904 ≤ i) && decide (i < 4611686018427387904)
mutual
def D.py : D → Option PyData
  | .non => some .none
  | .bl b => some (.bool b)
  | .int i => some (.int i)
  | .str s => some (.str s)
  | .tup xs => match D.pys xs with
    | some ps => some (.tuple ps)
    | none => none
  | .lst xs => match D.pys xs with
    | some ps => some (.list ps)
    | none => none
  | .dct _ _ _ => none
  | .ins _ _ _ => none
  | .exc _ _ _ => none
def D.pys : List D → Option (List PyData)
  | [] => some []
  | x :: xs => match x.py, D.pys xs with
    | some p, some ps => some (p :: ps)
    | _, _ => none
end
def eqD (x y : D) : Option Bool := match x.py, y.py with
  | some p, some q => if SeqAt.shaped p && SeqAt.shaped q then some (PyData.eqv p q) else none
  | _, _ => none
def D.flat : D → Bool
  | .non => true
  | .bl _ => true
  | .int _ => true
  | .str _ => true
  | _ => false
def D.toV : D → L2.V
  | .bl b => .bl b
  | .int i => .int i
  | .str s => .str s
  | _ => .non
/-- == of flat things -/
def D.feq (x y : D) : Bool := L2.eqV x.toV y.toV
def eqA : D → D → Option Bool
  | .int i, .int j => some (decide (i = j))
  | .str s, .str t => some (decide (s = t))
  | x, y => eqD x y
def inD (x : D) : D → Option Bool
  | .tup ys => if x.flat && ys.all D.flat then some (ys.any fun y => y.feq x) else none
  | .lst ys => if x.flat && ys.all D.flat then some (ys.any fun y => y.feq x) else none
  | _ => none
def D.isNon : D → Bool
  | .non => true
  | _ => false
def intsOf : List D → Option (List Int)
  | [] => some []
  | .int i :: r => match intsOf r with
    | some is => some (i :: is)
    | none => none
  | _ => none
def blsOf : List D → Option (List Bool)
  | [] => some []
  | .bl i :: r => match blsOf r with
    | some is => some (i :: is)
    | none => none
  | _ => none
def D.pyd (d : D) : PyData := d.py.getD .none
def leD (x y : D) : Bool := PySem.W.dataLe false D.pyd x y
def sortD (ds : List D) : List D := ds.mergeSort leD
/-- what sorted takes: data of one kind -/
def sortOk (ds : List D) : Bool := (ds.all fun d => d.py.isSome && SeqAt.shaped d.pyd) && (ds.all fun d => ds.all fun e => PySem.W.alike d.pyd e.pyd) && ((ds.all fun d => match d with
    | .tup (_ :: _) => true
    | _ => false) || ds.all fun d => match d with
    | .non => false
    | .tup _ => false
    | _ => true)
def idxOf (y : D) : List D → Nat → Option Nat
  | [], _ => none
  | x :: xs, n => if x.feq y then some n else idxOf y xs (n + 1)
def D.truth : D → Option Bool
  | .non => some false
  | .bl b => some b
  | .int i => some (i != 0)
  | .str s => if lenOk s.length then some ((s.length : Int) != 0) else none
  | .tup xs => some (!xs.isEmpty)
  | .lst xs => some (!xs.isEmpty)
  | .dct false ks _ => some (!ks.isEmpty)
  | _ => none
def irange (lo : Int) : Nat → List D
  | 0 => []
  | n + 1 => .int lo :: irange (lo + 1) n
def optInt : Option D → Option (Option Int)
  | none => some none
  | some (.int i) => some (some i)
  | _ => none
/-- the part from lo to hi -/
def cut {α : Type} (xs : List α) (lo hi : Option Int) : List α := (xs.drop (HT.sIx xs.length 0 lo)).take (HT.sIx xs.length xs.length hi - HT.sIx xs.length 0 lo)
def slcD (x : D) (lo hi : Option Int) : Option O := match x with
  | .tup xs => some (.pure (.tup (cut xs lo hi)))
  | .lst xs => some (.lst ((cut xs lo hi).map .pure))
  | _ => none
/-- a kind of thing -/
inductive Tag where
  | non | bool | int | str | tup | lst | dct | cls (c : Nat)
def D.tag : D → Option Tag
  | .non => some .non
  | .bl _ => some .bool
  | .int _ => some .int
  | .str _ => some .str
  | .tup _ => some .tup
  | .lst _ => some .lst
  | .dct _ _ _ => some .dct
  | .ins c _ _ => some (.cls c)
  | .exc _ _ _ => none
def tagIs (sub : Nat → Nat → Option Bool) : Tag → Ty → Option Bool
  | .cls c, .cls c' => sub c c'
  | .cls c, _ => match sub c c with
    | some _ => some false
    | none => none
  | t, .cls c => match sub c c with
    | some _ => some false
    | none => none
  | .bool, .bool => some true
  | .bool, .int => some true
  | .int, .int => some true
  | .str, .str => some true
  | .tup, .tup => some true
  | .lst, .lst => some true
  | .dct, .dct => some true
  | _, _ => some false
def tysIs (sub : Nat → Nat → Option Bool) (t : Tag) : List Ty → Option Bool
  | [] => some false
  | ty :: ts => match tagIs sub t ty, tysIs sub t ts with
    | some true, some _ => some true
    | some false, some b => some b
    | _, _ => none
def tysHave (sub : Nat → Nat → Option Bool) (ts : List Ty) (d : D) : Option Bool := match d.tag with
  | some t => tysIs sub t ts
  | none => none
@[reducible] def pD (d : D) : Option O := some (.pure d)
def f1 (g : D → Option O) : List D → Option O
  | [x] => g x
  | _ => none
def f2 (g : D → D → Option O) : List D → Option O
  | [x, y] => g x y
  | _ => none
def f3 (g : D → D → D → Option O) : List D → Option O
  | [x, y, z] => g x y z
  | _ => none
def addD : D → D → Option O
  | .int i, .int j => pD (.int (i + j))
  | .tup xs, .tup ys => if lenOk (xs.length + ys.length) then pD (.tup (xs ++ ys)) else none
  | .lst xs, .lst ys => if lenOk (xs.length + ys.length) then some (.lst ((xs ++ ys).map .pure)) else none
  | .str s, .str t => if lenOk (s.length + t.length) then pD (.str (s ++ t)) else none
  | _, _ => none
def subD : D → D → Option O
  | .int i, .int j => pD (.int (i - j))
  | _, _ => none
def mulD : D → D → Option O
  | .int i, .int j => if mulOk i j then pD (.int (i * j)) else none
  | _, _ => none
def fdivD : D → D → Option O
  | .int i, .int j => if divOk j then pD (.int (i.fdiv j)) else none
  | _, _ => none
def modD : D → D → Option O
  | .int i, .int j => if decide (j ≠ 0) then pD (.int (i.fmod j)) else none
  | _, _ => none
def powD : D → D → Option O
  | .int i, .int j => if powOk i j then pD (.int (i ^ j.toNat)) else none
  | _, _ => none
def negD : D → Option O
  | .int i => pD (.int (-i))
  | _ => none
def notD (x : D) : Option O := match x.truth with
  | some b => pD (.bl (!b))
  | none => none
def blD : Option Bool → Option O
  | some b => pD (.bl b)
  | none => none
def nbD : Option Bool → Option O
  | some b => pD (.bl (!b))
  | none => none
def ltD : D → D → Option O
  | .int i, .int j => pD (.bl (decide (i < j)))
  | _, _ => none
def leD' : D → D → Option O
  | .int i, .int j => pD (.bl (decide (i ≤ j)))
  | _, _ => none
def gtD : D → D → Option O
  | .int i, .int j => pD (.bl (decide (j < i)))
  | _, _ => none
def geD : D → D → Option O
  | .int i, .int j => pD (.bl (decide (j ≤ i)))
  | _, _ => none
def isD (x y : D) : Option O := if y.isNon then pD (.bl x.isNon) else none
def isnD (x y : D) : Option O := if y.isNon then pD (.bl (!x.isNon)) else none
def dO : Option D → Option O
  | some d => pD d
  | none => none
def slc2 (x lo : D) (hi : Option Int) : Option O := match lo with
  | .int i => slcD x (some i) hi
  | _ => none
def slc3 (x hi : D) : Option O := match hi with
  | .int i => slcD x none (some i)
  | _ => none
def slc4 (x lo hi : D) : Option O := match lo, hi with
  | .int i, .int j => slcD x (some i) (some j)
  | _, _ => none
def lenD : D → Option O
  | .tup xs => pD (.int xs.length)
  | .lst xs => pD (.int xs.length)
  | .str s => if lenOk s.length then pD (.int s.length) else none
  | .dct false ks _ => pD (.int ks.length)
  | _ => none
def absD : D → Option O
  | .int i => pD (.int (if i < 0 then -i else i))
  | _ => none
def max2D : D → D → Option O
  | .int i, .int j => pD (.int (if j > i then j else i))
  | _, _ => none
def min2D : D → D → Option O
  | .int i, .int j => pD (.int (if j < i then j else i))
  | _, _ => none
def int1D : D → Option O
  | .int i => pD (.int i)
  | .bl b => pD (.int (if b then 1 else 0))
  | _ => none
def bitlD : D → Option O
  | .int i => pD (.int (if i = 0 then 0 else i.natAbs.log2 + 1))
  | _ => none
def tupofD : D → Option O
  | .lst xs => pD (.tup xs)
  | .tup xs => pD (.tup xs)
  | _ => none
def lstofD : D → Option O
  | .lst xs => some (.lst (xs.map .pure))
  | .tup xs => some (.lst (xs.map .pure))
  | _ => none
def lrngD : D → Option O
  | .int j => if rngOk j && lenOk j.toNat then some (.lst ((irange 0 j.toNat).map .pure)) else none
  | _ => none
def lrevD : D → Option O
  | .lst xs => some (.lst (xs.reverse.map .pure))
  | _ => none
def sortedD : D → Option O
  | .lst xs => if sortOk xs then some (.lst ((sortD xs).map .pure)) else none
  | .tup xs => if sortOk xs then some (.lst ((sortD xs).map .pure)) else none
  | _ => none
def sumD : D → Option O
  | .lst xs => match intsOf xs with
    | some ns => pD (.int ns.sum)
    | none => none
  | _ => none
def allD : D → Option O
  | .lst xs => match blsOf xs with
    | some bs => pD (.bl (bs.all id))
    | none => none
  | _ => none
def anyD : D → Option O
  | .lst xs => match blsOf xs with
    | some bs => pD (.bl (bs.any id))
    | none => none
  | _ => none
def idxOk (y : D) (xs : List D) : Option O := if y.flat && xs.all D.flat then match idxOf y xs 0 with
    | some n => pD (.int n)
    | none => none
  else none
def indexD (x y : D) : Option O := match x with
  | .lst xs => idxOk y xs
  | .tup xs => idxOk y xs
  | _ => none
def opD (C : Ctx) : Op → List D → Option O
  | .add => f2 addD
  | .sub => f2 subD
  | .mul => f2 mulD
  | .fdiv => f2 fdivD
  | .mod => f2 modD
  | .pow => f2 powD
  | .neg => f1 negD
  | .not => f1 notD
  | .eq => f2 fun x y => blD (eqA x y)
  | .ne => f2 fun x y => nbD (eqA x y)
  | .lt => f2 ltD
  | .le => f2 leD'
  | .gt => f2 gtD
  | .ge => f2 geD
  | .inn => f2 fun x y => blD (inD x y)
  | .nin => f2 fun x y => nbD (inD x y)
  | .is => f2 isD
  | .isn => f2 isnD
  | .tup => fun xs => if lenOk xs.length then pD (.tup xs) else none
  | .lst => fun xs => if lenOk xs.length then some (.lst (xs.map .pure)) else none
  | .idx => f2 fun x k => dO (x.idx k)
  | .slc false false => f1 fun x => slcD x none none
  | .slc true false => f2 fun x i => slc2 x i none
  | .slc false true => f2 slc3
  | .slc true true => f3 slc4
  | .att f => f1 fun x => dO (x.att C.fld f)
  | .len => f1 lenD
  | .abs => f1 absD
  | .max2 => f2 max2D
  | .min2 => f2 min2D
  | .int1 => f1 int1D
  | .bitl => f1 bitlD
  | .tupof => f1 tupofD
  | .lstof => f1 lstofD
  | .lrng => f1 lrngD
  | .lrev => f1 lrevD
  | .sorted => f1 sortedD
  | .sum => f1 sumD
  | .all => f1 allD
  | .any => f1 anyD
  | .index => f2 indexD
  | .isi ts => f1 fun x => blD (tysHave C.sub ts x)
inductive Tg where
  | nm (i : Nat)
  | tp (ts : List Tg)
inductive ItK where
  | seq | rng1 | rng2 | rng3 | zip2 | zip3 | enum | enumS | items | vals | rev
inductive MutK where
  | popAt | pop
mutual
inductive E where
  | rd (r : R)
  | op (o : Op) (es : Es)
  | and (a b : E)
  | or (a b : E)
  | ife (t a b : E)
  | chn (o1 o2 : Op) (a b c : E)
  | lsn (es : Es)
  | call (f : Nat) (es : Es)
  | mk (c : Nat) (es : Es)
  | mth (m : Nat) (a : E) (es : Es)
  | bmt (o : Op) (a : E) (es : Es)
  | mut (m : MutK) (r : R) (es : Es)
  | app (r : R) (e : E)
  | lc (elt : E) (tg : Tg) (k : ItK) (it : Es) (ifs : Es) (own : List Nat)
  | lc2 (elt : E) (tg : Tg) (k : ItK) (it : Es) (ifs : Es) (tg1 : Tg) (k1 : ItK) (it1 : Es) (ifs1 : Es) (own own1 : List Nat)
inductive Es where
  | nil
  | cons (e : E) (es : Es)
end
def E.isRd : E → Bool
  | .rd _ => true
  | _ => false
def Es.allRd : Es → Bool
  | .nil => true
  | .cons e es => e.isRd && es.allRd
def argOf (C : Ctx) (e : E) (x : Oc O) (env : Env) : Oc Arg := match e with
  | .rd r => match evalR C env r with
    | some a => ok a env
    | none => none
  | _ => match x with
    | some (.ok o, env') => ok (.val o.fz) env'
    | some (.error e, env') => some (.error e, env')
    | none => none
/-- a place within a thing is held fast before anything else is reckoned -/
def pin (a : Arg) (env : Env) : Option (Arg × Env) := match a with
  | .ref i (s :: p) => match env.freeze i (s :: p) with
    | some (d, env') => some (.val d, env')
    | none => none
  | a => some (a, env)
def pinIf (b : Bool) (a : Arg) (env : Env) : Option (Arg × Env) := if b then some (a, env) else pin a env
def hold (a : Arg) (env : Env) : Oc O := match a with
  | .val d => ok (.pure d) env
  | .ref i p => match env.freeze i p with
    | some (d, env') => ok (.pure d) env'
    | none => none
-- where the result cannot stand on what was lent, its holder has it back
def opRes (r : List D → Option O) (as : List Arg) (env : Env) : Oc O := match freezes as env with
  | some (ds, l, env') => match r ds with
    | some o => ok o (if o.free && l then env else env')
    | none => none
  | none => none
/-- a value that stays: what was read is held fast -/
def valOf (C : Ctx) (r : R) (env : Env) : Oc O := match evalR C env r with
  | some a => hold a env
  | none => none
/-- the places that are only read; those that may change -/
def lent : List Bool → List Arg → List Arg
  | false :: bs, a :: as => a :: lent bs as
  | true :: bs, _ :: as => lent bs as
  | _, _ => []
def given : List Bool → List Arg → List Nat
  | true :: bs, .ref i [] :: as => i :: given bs as
  | _ :: bs, _ :: as => given bs as
  | _, _ => []
def wipeE (env : Env) : List Nat → Env
  | [] => env
  | i :: is => (wipeE env is).set i none
/-- the arguments as the callee has them: what it may change as it is, all else held fast -/
def argsO : List Bool → List Arg → List D → Env → Option (List O)
  | [], [], [], _ => some []
  | true :: bs, .ref i [] :: as, ds, env => match env[i]? with
    | some (some o) => match argsO bs as ds env with
      | some os => some (o :: os)
      | none => none
    | _ => none
  | true :: bs, .val d :: as, ds, env => match argsO bs as ds env with
    | some os => some (.pure d :: os)
    | none => none
  | false :: bs, _ :: as, d :: ds, env => match argsO bs as ds env with
    | some os => some (.pure d :: os)
    | none => none
  | _, _, _, _ => none
/-- what the callee left of the things that it may change -/
def backs : List Bool → List Arg → List O → Env → Option Env
  | [], [], [], env => some env
  | true :: bs, .ref i [] :: as, o :: os, env => backs bs as os (env.set i (some o))
  | _ :: bs, _ :: as, _ :: os, env => backs bs as os env
  | _, _, _, _ => none
def freeR : Except Exn O → Bool
  | .ok o => o.free
  | .error x => D.lfs x.vs
/-- a def f is called; pre: what stands ahead of the arguments -/
def callRes (C : Ctx) (bs : List Bool) (as : List Arg) (run : List O → Option (Except Exn O × List O)) (env : Env) : Oc O := if decide (given bs as).Nodup then match freezes (lent bs as) (wipeE env (given bs as)) with
    | some (ds, l, env1) => match argsO bs as ds env with
      | some os => match run os with
        | some (r, post) => match backs bs as post (if freeR r && O.frees post && l then wipeE env (given bs as) else env1) with
          | some env2 => some (r, env2)
          | none => none
        | none => none
      | none => none
    | none => none
  else none
/-- a new instance: self is what __init__ leaves -/
def makeRun (C : Ctx) (c f : Nat) (os : List O) : Option (Except Exn O × List O) := match C.fn f (.ins c [] [] :: os) with
  | some (.ok (.pure .non), o :: post) => some (.ok o, post)
  | some (.error x, _ :: post) => some (.error x, post)
  | _ => none
def callF (C : Ctx) (f : Nat) (as : List Arg) (env : Env) : Oc O := callRes C (C.br f) as (C.fn f) env
def makeRes (C : Ctx) (c f : Nat) (as : List Arg) (env : Env) : Oc O := match C.br f with
  | true :: bs => callRes C bs as (makeRun C c f) env
  | _ => none
/-- an operator's method -/
def Op.own : Op → Option Nat
  | .add => some 0
  | .sub => some 1
  | .mul => some 2
  | .eq => some 3
  | .ne => some 3
  | .len => some 4
  | _ => none
def Op.neg? : Op → Bool
  | .ne => true
  | _ => false
def headCls (env : Env) : List Arg → Option Nat
  | a :: _ => match a.view env with
    | some (.ins c _ _) => some c
    | _ => none
  | [] => none
/-- what must be known ahead of the last operand -/
def pre3 : List Arg → Bool
  | [_, .val (.int _), _] => true
  | _ => false
def opPre : Op → List Arg → Bool
  | .slc true true => pre3
  | _ => fun _ => true
def opOrCall (C : Ctx) (o : Op) (as : List Arg) (env : Env) : Oc O := if opPre o as then opRes (opD C o) as env else none
def mthRes (C : Ctx) (m : Nat) (as : List Arg) (env : Env) : Oc O := match headCls env as with
  | some c => match C.mth c m with
    | some f => callF C f as env
    | none => none
  | none => none
/-- methods of lists, texts, ints: what must be known of the receiver at once -/
def bmOk : Op → Option D → Bool
  | .index, some (.lst _) => true
  | .index, some (.tup _) => true
  | .bitl, some (.int _) => true
  | _, _ => false
def kindS : Option D → Option D → Bool
  | some (.lst _), some (.lst _) => true
  | some (.tup _), some (.tup _) => true
  | some (.int _), some (.int _) => true
  | _, _ => false
def seqOf : D → Option (List D)
  | .lst xs => some xs
  | .tup xs => some xs
  | _ => none
def zip2D : List D → List D → List D
  | x :: xs, y :: ys => .tup [x, y] :: zip2D xs ys
  | _, _ => []
def enumD (k : Int) : List D → List D
  | [] => []
  | x :: xs => .tup [.int k, x] :: enumD (k + 1) xs
def iterD : ItK → List D → Option (List D)
  | .seq, [x] => seqOf x
  | .rng1, [.int j] => if rngOk j then some (irange 0 j.toNat) else none
  | .rng2, [.int i, .int j] => if rngOk i && rngOk j then some (irange i (j - i).toNat) else none
  | .zip2, [x, y] => match seqOf x, seqOf y with
    | some xs, some ys => some (zip2D xs ys)
    | _, _ => none
  | .enum, [.lst xs] => some (enumD 0 xs)
  | _, _ => none
mutual
def assignD (P : Nat → Bool) : Tg → D → Env → Option Env
  | .nm i, d, env => if P i || decide (env.length ≤ i) then none else some (env.set i (some (.pure d)))
  | .tp ts, .tup ds, env => assignDs P ts ds env
  | _, _, _ => none
def assignDs (P : Nat → Bool) : List Tg → List D → Env → Option Env
  | [], [], env => some env
  | t :: ts, d :: ds, env => match assignD P t d env with
    | some env' => assignDs P ts ds env'
    | none => none
  | _, _, _ => none
end
def assignO (P : Nat → Bool) (t : Tg) (o : O) (env : Env) : Option Env := match t with
  | .nm i => if P i || decide (env.length ≤ i) then none else some (env.set i (some o))
  | t => assignD P t o.fz env
def wipeOk (env : Env) (own : List Nat) : Bool := own.all fun i => match env[i]? with
  | some none => true
  | some (some (.pure _)) => true
  | _ => false
def restore (env env' : Env) : List Nat → Env
  | [] => env'
  | i :: is => (restore env env' is).set i (env[i]?.getD none)
/-- a comprehension's turns -/
def lcLoop (P : Nat → Bool) (own : List Nat) (tg : Tg) (test : Env → Oc Bool) (elt : List O → Env → Oc (List O)) : List D → List O → Env → Oc (List O)
  | [], acc, env => ok acc env
  | x :: xs, acc, env => match assignD P tg x (wipeE env own) with
    | none => none
    | some env1 => match test env1 with
      | some (.ok true, env2) => match elt acc env2 with
        | some (.ok acc', env3) => lcLoop P own tg test elt xs acc' env3
        | _ => none
      | some (.ok false, env2) => lcLoop P own tg test elt xs acc env2
      | _ => none
def truthOf (env : Env) : Arg → Option Bool
  | a => match a.view env with
    | some d => d.truth
    | none => none
/-- one more -/
def lcPut (elt : Env → Oc O) (acc : List O) (env : Env) : Oc (List O) := match elt env with
  | some (.ok o, env1) => if lenOk (acc.length + 1) then ok (acc ++ [o]) env1 else none
  | _ => none
def lcRun (own : List Nat) (tg : Tg) (k : ItK) (test : Env → Oc Bool) (elt : Env → Oc O) (as : List Arg) (env : Env) : Oc O := match freezes as env with
  | none => none
  | some (ds, _, env1) => match iterD k ds with
    | none => none
    | some xs => if wipeOk env1 own then match lcLoop (fun i => !own.contains i) own tg test (lcPut elt) xs [] env1 with
      | some (.ok acc, env2) => ok (.lst acc) (restore env1 env2 own)
      | _ => none
      else none
/-- the inner walk -/
def lcIn (own own1 : List Nat) (tg1 : Tg) (k1 : ItK) (it1 : Env → Oc (List Arg)) (test1 : Env → Oc Bool) (elt : Env → Oc O) (acc : List O) (env : Env) : Oc (List O) := match it1 env with
  | some (.ok as, env0) => match freezes as env0 with
    | none => none
    | some (ds, _, env1) => match iterD k1 ds with
      | none => none
      | some xs => lcLoop (fun i => !own1.contains i) own1 tg1 test1 (lcPut elt) xs acc env1
  | _ => none
def lcRun2 (own own1 : List Nat) (tg : Tg) (k : ItK) (test : Env → Oc Bool) (tg1 : Tg) (k1 : ItK) (it1 : Env → Oc (List Arg)) (test1 : Env → Oc Bool) (elt : Env → Oc O) (as : List Arg) (env : Env) : Oc O := match freezes as env with
  | none => none
  | some (ds, _, env1) => match iterD k ds with
    | none => none
    | some xs => if wipeOk env1 own then match lcLoop (fun i => !own.contains i) own tg test (lcIn own own1 tg1 k1 it1 test1 elt) xs [] env1 with
      | some (.ok acc, env2) => ok (.lst acc) (restore env1 env2 own)
      | _ => none
      else none
def mutD : MutK → O → List D → Option (O × O)
  | .popAt, .lst xs, [.int i] => if rngOk i then match L2.ixN xs.length i with
      | some n => match xs[n]? with
        | some o => some (o, .lst (xs.eraseIdx n))
        | none => none
      | none => none
    else none
  | .pop, .lst xs, [] => match xs[xs.length - 1]? with
    | some o => some (o, .lst (xs.eraseIdx (xs.length - 1)))
    | none => none
  | _, _, _ => none
/-- a name that stands for a list of its own -/
def lstAt (C : Ctx) (env : Env) (r : R) : Option Nat := match evalR C env r with
  | some (.ref i []) => match env[i]? with
    | some (some (.lst _)) => some i
    | _ => none
  | _ => none
def appRun (i : Nat) (o : O) (env : Env) : Oc O := match env[i]? with
  | some (some (.lst xs)) => if lenOk (xs.length + 1) then ok (.pure .non) (env.set i (some (.lst (xs ++ [o])))) else none
  | _ => none
def mutRun (m : MutK) (i : Nat) (ds : List D) (env : Env) : Oc O := match env[i]? with
  | some (some (.lst xs)) => match mutD m (.lst xs) ds with
    | some (x, o') => ok x (env.set i (some o'))
    | none => none
  | _ => none
mutual
def evalE (C : Ctx) : E → Env → Oc O
  | .rd r, env => valOf C r env
  | .op o es, env => match evalEs C es env with
    | some (.ok as, env1) => opOrCall C o as env1
    | some (.error x, env1) => some (.error x, env1)
    | none => none
  | .and a b, env => match argOf C a (evalE C a env) env with
    | some (.ok x, env1) => match truthOf env1 x with
      | some true => evalE C b env1
      | some false => hold x env1
      | none => none
    | some (.error x, env1) => some (.error x, env1)
    | none => none
  | .or a b, env => match argOf C a (evalE C a env) env with
    | some (.ok x, env1) => match truthOf env1 x with
      | some false => evalE C b env1
      | some true => hold x env1
      | none => none
    | some (.error x, env1) => some (.error x, env1)
    | none => none
  | .ife t a b, env => match argOf C t (evalE C t env) env with
    | some (.ok x, env1) => match truthOf env1 x with
      | some true => evalE C a env1
      | some false => evalE C b env1
      | none => none
    | some (.error x, env1) => some (.error x, env1)
    | none => none
  | .chn o1 o2 a b c, env => match argOf C a (evalE C a env) env with
    | some (.ok (.val x), env1) => match argOf C b (evalE C b env1) env1 with
      | some (.ok (.val y), env2) => match opD C o1 [x, y] with
        | some (.pure (.bl true)) => match argOf C c (evalE C c env2) env2 with
          | some (.ok (.val z), env3) => match opD C o2 [y, z] with
            | some (.pure (.bl k)) => ok (.pure (.bl k)) env3
            | _ => none
          | some (.ok _, _) => none
          | some (.error x, env3) => some (.error x, env3)
          | none => none
        | some (.pure (.bl false)) => ok (.pure (.bl false)) env2
        | _ => none
      | some (.ok _, _) => none
      | some (.error x, env2) => some (.error x, env2)
      | none => none
    | some (.ok _, _) => none
    | some (.error x, env1) => some (.error x, env1)
    | none => none
  | .lsn es, env => match evalOs C es env with
    | some (.ok os, env1) => if lenOk os.length then ok (.lst os) env1 else none
    | some (.error x, env1) => some (.error x, env1)
    | none => none
  | .call f es, env => match evalEs C es env with
    | some (.ok as, env1) => callF C f as env1
    | some (.error x, env1) => some (.error x, env1)
    | none => none
  | .mk c es, env => match C.ini c with
    | some f => match evalEs C es env with
      | some (.ok as, env1) => makeRes C c f as env1
      | some (.error x, env1) => some (.error x, env1)
      | none => none
    | none => none
  | .mth m a es, env => match argOf C a (evalE C a env) env with
    | some (.ok x, env1) => match pinIf es.allRd x env1 with
      | some (x, env2) => match evalEs C es env2 with
        | some (.ok as, env3) => mthRes C m (x :: as) env3
        | some (.error x, env3) => some (.error x, env3)
        | none => none
      | none => none
    | some (.error x, env1) => some (.error x, env1)
    | none => none
  | .bmt o a es, env => match argOf C a (evalE C a env) env with
    | some (.ok x, env1) => if bmOk o (x.view env1) then match pinIf es.allRd x env1 with
      | some (x', env2) => match evalEs C es env2 with
        | some (.ok as, env3) => if kindS (x.view env1) (x'.view env3) then opRes (opD C o) (x' :: as) env3 else none
        | some (.error x, env3) => some (.error x, env3)
        | none => none
      | none => none
      else none
    | some (.error x, env1) => some (.error x, env1)
    | none => none
  | .mut m r es, env => match lstAt C env r with
    | some i => match evalEs C es env with
      | some (.ok as, env1) => match freezes as env1 with
        | some (ds, _, env2) => mutRun m i ds env2
        | none => none
      | some (.error x, env1) => some (.error x, env1)
      | none => none
    | none => none
  | .app r e, env => match lstAt C env r with
    | some i => match evalE C e env with
      | some (.ok o, env1) => appRun i o env1
      | some (.error x, env1) => some (.error x, env1)
      | none => none
    | none => none
  | .lc elt tg k it ifs own, env => match evalEs C it env with
    | some (.ok as, env1) => lcRun own tg k (fun env => evalIfs C ifs env) (fun env => evalE C elt env) as env1
    | some (.error x, env1) => some (.error x, env1)
    | none => none
  | .lc2 elt tg k it ifs tg1 k1 it1 ifs1 own own1, env => match evalEs C it env with
    | some (.ok as, env1) => lcRun2 own own1 tg k (fun env => evalIfs C ifs env) tg1 k1 (fun env => evalEs C it1 env) (fun env => evalIfs C ifs1 env) (fun env => evalE C elt env) as env1
    | some (.error x, env1) => some (.error x, env1)
    | none => none
def evalEs (C : Ctx) : Es → Env → Oc (List Arg)
  | .nil, env => ok [] env
  | .cons e es, env => match argOf C e (evalE C e env) env with
    | some (.ok x, env1) => match pinIf es.allRd x env1 with
      | some (x, env2) => match evalEs C es env2 with
        | some (.ok as, env3) => ok (x :: as) env3
        | some (.error x, env3) => some (.error x, env3)
        | none => none
      | none => none
    | some (.error x, env1) => some (.error x, env1)
    | none => none
def evalOs (C : Ctx) : Es → Env → Oc (List O)
  | .nil, env => ok [] env
  | .cons e es, env => match evalE C e env with
    | some (.ok o, env1) => match evalOs C es env1 with
      | some (.ok os, env2) => ok (o :: os) env2
      | some (.error x, env2) => some (.error x, env2)
      | none => none
    | some (.error x, env1) => some (.error x, env1)
    | none => none
def evalIfs (C : Ctx) : Es → Env → Oc Bool
  | .nil, env => ok true env
  | .cons e es, env => match argOf C e (evalE C e env) env with
    | some (.ok x, env1) => match truthOf env1 x with
      | some true => evalIfs C es env1
      | some false => ok false env1
      | none => none
    | some (.error x, env1) => some (.error x, env1)
    | none => none
end
inductive Fl where
  | nx | brk | cnt | ret (o : O)
mutual
inductive S where
  | asg (t : Tg) (e : E)
  | par (i j : Nat) (a b : E)
  | sti (r : R) (k e : E)
  | stf (r : R) (f : Nat) (e : E)
  | exp (e : E)
  | ret (e : E)
  | retf (e : E)
  | ret0
  | ife (t : E) (a b : Ss)
  | for_ (tg : Tg) (k : ItK) (it : Es) (b : Ss)
  | whl (t : E) (b : Ss)
  | brk
  | cnt
  | pas
  | rai (c : Nat) (es : Es)
  | try_ (b : Ss) (hs : Hs)
inductive Ss where
  | nil
  | cons (s : S) (r : Ss)
inductive Hs where
  | nil
  | cons (c : Nat) (n : Option Nat) (b : Ss) (r : Hs)
end
def forLoop (P : Nat → Bool) (tg : Tg) (body : Env → Oc Fl) : List D → Env → Oc Fl
  | [], env => ok .nx env
  | x :: xs, env => match assignD P tg x env with
    | none => none
    | some env1 => match body env1 with
      | some (.ok .nx, env2) => forLoop P tg body xs env2
      | some (.ok .cnt, env2) => forLoop P tg body xs env2
      | some (.ok .brk, env2) => ok .nx env2
      | some (.ok (.ret o), env2) => ok (.ret o) env2
      | some (.error x, env2) => some (.error x, env2)
      | none => none
def whileLoop (test : Env → Option (Except Exn Bool × Env)) (body : Env → Option (Except Exn Fl × Env)) (env : Env) : Option (Except Exn Fl × Env) := do
  match ← test env with
  | (.ok true, env1) => do
    match ← body env1 with
    | (.ok .nx, env2) => whileLoop test body env2
    | (.ok .cnt, env2) => whileLoop test body env2
    | (.ok .brk, env2) => ok .nx env2
    | (.ok (.ret o), env2) => ok (.ret o) env2
    | (.error x, env2) => some (.error x, env2)
  | (.ok false, env1) => ok .nx env1
  | (.error x, env1) => some (.error x, env1) partial_fixpoint
def forRun (P : Nat → Bool) (tg : Tg) (k : ItK) (body : Env → Oc Fl) (as : List Arg) (env : Env) : Oc Fl := match freezes as env with
  | some (ds, _, env1) => match iterD k ds with
    | some xs => forLoop P tg body xs env1
    | none => none
  | none => none
def setIx (o : O) (k : D) (x : O) : Option O := match o, k with
  | .lst xs, .int i => match L2.ixN xs.length i with
    | some n => some (.lst (xs.set n x))
    | none => none
  | _, _ => none
def setFld (fld : Nat → Nat → Bool) (o : O) (f : Nat) (x : O) : Option O := match o with
  | .ins c ns vs => if fld c f && decide (ns.length < 1000) then some (.ins c (setF ns vs f x).1 (setF ns vs f x).2) else none
  | _ => none
def excHas (C : Ctx) (x : Exn) (c : Nat) : Option Bool := C.exs x.c c
mutual
def exec (C : Ctx) (P : Nat → Bool) : S → Env → Oc Fl
  | .asg t e, env => match evalE C e env with
    | some (.ok o, env1) => match assignO P t o env1 with
      | some env2 => ok .nx env2
      | none => none
    | some (.error x, env1) => some (.error x, env1)
    | none => none
  | .par i j a b, env => match evalE C a env with
    | some (.ok x, env1) => match evalE C b env1 with
      | some (.ok y, env2) => if P i || P j || decide (env2.length ≤ i) || decide (env2.length ≤ j) || decide (i = j) then none else ok .nx ((env2.set i (some x)).set j (some y))
      | some (.error x, env2) => some (.error x, env2)
      | none => none
    | some (.error x, env1) => some (.error x, env1)
    | none => none
  | .sti r k e, env => match evalE C e env with
    | some (.ok x, env1) => match evalR C env1 r with
      | some (.ref i p) => match argOf C k (evalE C k env1) env1 with
        | some (.ok (.val kd), env2) => if p.isEmpty || k.isRd then match env2.at i p with
            | some o => match setIx o kd x with
              | some o' => match env2.put i p o' with
                | some env3 => ok .nx env3
                | none => none
              | none => none
            | none => none
          else none
        | some (.ok _, _) => none
        | some (.error x, env2) => some (.error x, env2)
        | none => none
      | _ => none
    | some (.error x, env1) => some (.error x, env1)
    | none => none
  | .stf r f e, env => match evalE C e env with
    | some (.ok x, env1) => match evalR C env1 r with
      | some (.ref i p) => match env1.at i p with
        | some o => match setFld C.fld o f x with
          | some o' => match env1.put i p o' with
            | some env2 => ok .nx env2
            | none => none
          | none => none
        | none => none
      | _ => none
    | some (.error x, env1) => some (.error x, env1)
    | none => none
  | .exp e, env => match evalE C e env with
    | some (.ok _, env1) => ok .nx env1
    | some (.error x, env1) => some (.error x, env1)
    | none => none
  | .ret e, env => match evalE C e env with
    | some (.ok o, env1) => ok (.ret o) env1
    | some (.error x, env1) => some (.error x, env1)
    | none => none
  | .retf e, env => match evalE C e env with
    | some (.ok o, env1) => ok (.ret (.pure o.fz)) env1
    | some (.error x, env1) => some (.error x, env1)
    | none => none
  | .ret0, env => ok (.ret (.pure .non)) env
  | .ife t a b, env => match argOf C t (evalE C t env) env with
    | some (.ok x, env1) => match truthOf env1 x with
      | some true => execs C P a env1
      | some false => execs C P b env1
      | none => none
    | some (.error x, env1) => some (.error x, env1)
    | none => none
  | .for_ tg k it b, env => match evalEs C it env with
    | some (.ok as, env1) => forRun P tg k (fun env => execs C P b env) as env1
    | some (.error x, env1) => some (.error x, env1)
    | none => none
  | .whl t b, env => whileLoop (fun env => match argOf C t (evalE C t env) env with
    | some (.ok x, env1) => match truthOf env1 x with
      | some k => ok k env1
      | none => none
    | some (.error x, env1) => some (.error x, env1)
    | none => none) (fun env => execs C P b env) env
  | .brk, env => ok .brk env
  | .cnt, env => ok .cnt env
  | .pas, env => ok .nx env
  | .rai c es, env => match C.exf c with
    | some ns => match evalEs C es env with
      | some (.ok as, env1) => match freezes as env1 with
        | some (ds, _, env2) => if decide (ns.length = ds.length) && decide (ds.length ≤ 1000) then some (.error ⟨c, ns, ds⟩, env2) else none
        | none => none
      | some (.error x, env1) => some (.error x, env1)
      | none => none
    | none => none
  | .try_ b hs, env => match execs C P b env with
    | some (.error x, env1) => handle C P hs x env1
    | r => r
def execs (C : Ctx) (P : Nat → Bool) : Ss → Env → Oc Fl
  | .nil, env => ok .nx env
  | .cons s r, env => match exec C P s env with
    | some (.ok .nx, env1) => execs C P r env1
    | r => r
def handle (C : Ctx) (P : Nat → Bool) : Hs → Exn → Env → Oc Fl
  | .nil, x, env => some (.error x, env)
  | .cons c n b r, x, env => match excHas C x c with
    | some true => match n with
      | none => execs C P b env
      | some i => match execs C P b (env.set i (some (.pure (.exc x.c x.ns x.vs)))) with
        | some (.ok f, env1) => some (.ok f, env1.set i none)
        | _ => none
    | some false => handle C P r x env
    | none => none
end
structure Def where
  n : Nat
  np : Nat
  body : Ss
def parm (br : List Bool) (i : Nat) : Bool := br.getD i false
def posts : List Bool → Env → Option (List O)
  | [], _ => some []
  | true :: bs, some o :: env => match posts bs env with
    | some os => some (o :: os)
    | none => none
  | false :: bs, _ :: env => match posts bs env with
    | some os => some (.pure .non :: os)
    | none => none
  | _, _ => none
def wrapR (br : List Bool) (r : Except Exn O) (env : Env) : Option (Except Exn O × List O) := match posts br env with
  | some os => some (r, os)
  | none => none
def runDef (C : Ctx) (br : List Bool) (d : Def) (os : List O) : Option (Except Exn O × List O) := if decide (os.length = d.np) && decide (br.length = d.np) && decide (d.np ≤ d.n) then
    match execs C (parm br) d.body (os.map some ++ List.replicate (d.n - d.np) none) with
    | some (.ok (.ret o), env) => wrapR br (.ok o) env
    | some (.ok .nx, env) => wrapR br (.ok (.pure .non)) env
    | some (.error x, env) => wrapR br (.error x) env
    | _ => none
  else none
end T
namespace T
open PySem L2
structure Cn where
  K : PySem.W.Frag
  CA : Nat → Addr
  FN : Nat → Str
  inj : ∀ f g, FN f = FN g → f = g
def keyOf : D → Option Key
  | .int i => some (.inl i)
  | .str s => some (.inr s)
  | _ => none
def keysOf : List D → Option (List Key)
  | [] => some []
  | d :: ds => match keyOf d, keysOf ds with
    | some k, some ks => some (k :: ks)
    | _, _ => none
def tkeysOf : List D → Option (List (List Key))
  | [] => some []
  | .tup xs :: ds => match keysOf xs, tkeysOf ds with
    | some k, some ks => some (k :: ks)
    | _, _ => none
  | _ => none
/-- a tuple that stands as it is: of no class of the program's own, without a dict -/
def TupN (K : PySem.W.Frag) (F : Hp) (a : Addr) (vs : List V) : Prop :=
  (∃ o, F a = some (.frz o (.tup vs)) ∧ o.dict = none ∧ o.cls = .type "tuple") ∨
    ∃ (o : Obj) (its : Array Value) (n : Nat), K.lookup a = some o ∧ o.cls = .type "tuple" ∧ o.data = .seq its n ∧ its.size ≤ sizeLine ∧ Vals vs its.toList ∧ o.dict = none
mutual
def Rep (c : Cn) (F : Hp) : D → V → Prop
  | .non, v => v = .non
  | .bl b, v => v = .bl b
  | .int i, v => v = .int i
  | .str s, v => v = .str s
  | .tup ds, v => ∃ a vs, v = .ref a ∧ TupN c.K F a vs ∧ Reps c F ds vs
  | .lst ds, v => ∃ a vs, v = .ref a ∧ SqL c.K F a vs ∧ Reps c F ds vs
  | .dct false ks ds, v => ∃ a kvs, v = .ref a ∧ F a = some (.dK kvs) ∧ keysOf ks = some (kvs.map (·.1)) ∧ Reps c F ds (kvs.map (·.2))
  | .dct true ks ds, v => ∃ a kvs, v = .ref a ∧ F a = some (.dT kvs) ∧ tkeysOf ks = some (kvs.map (·.1)) ∧ Reps c F ds (kvs.map (·.2))
  | .ins k ns ds, v => ∃ a dx fs, v = .ref a ∧ F a = some (.ins (c.CA k) dx fs) ∧ fs.map (·.1) = ns.map c.FN ∧ Reps c F ds (fs.map (·.2))
  | .exc _ _ _, _ => False
def Reps (c : Cn) (F : Hp) : List D → List V → Prop
  | [], vs => vs = []
  | d :: ds, vs => ∃ v r, vs = v :: r ∧ Rep c F d v ∧ Reps c F ds r
end
mutual
def RepO (c : Cn) (F H : Hp) : O → V → List Addr → Prop
  | .pure d, v, L => Rep c F d v ∧ L = []
  | .lst os, v, L => ∃ a vs L', v = .ref a ∧ H a = some (.lst vs) ∧ RepOs c F H os vs L' ∧ L = a :: L'
  | .dct false ks os, v, L => ∃ a kvs L', v = .ref a ∧ H a = some (.dK kvs) ∧ keysOf ks = some (kvs.map (·.1)) ∧ RepOs c F H os (kvs.map (·.2)) L' ∧ L = a :: L'
  | .dct true ks os, v, L => ∃ a kvs L', v = .ref a ∧ H a = some (.dT kvs) ∧ tkeysOf ks = some (kvs.map (·.1)) ∧ RepOs c F H os (kvs.map (·.2)) L' ∧ L = a :: L'
  | .ins k ns os, v, L => ∃ a dx fs L', v = .ref a ∧ H a = some (.ins (c.CA k) dx fs) ∧ fs.map (·.1) = ns.map c.FN ∧ RepOs c F H os (fs.map (·.2)) L' ∧ L = a :: L'
def RepOs (c : Cn) (F H : Hp) : List O → List V → List Addr → Prop
  | [], vs, L => vs = [] ∧ L = []
  | o :: os, vs, L => ∃ v r L1 L2, vs = v :: r ∧ RepO c F H o v L1 ∧ RepOs c F H os r L2 ∧ L = L1 ++ L2
end
def RepS (c : Cn) (F H : Hp) : Option O → Option V → List Addr → Prop
  | none, _, L => L = []
  | some o, x, L => ∃ v, x = some v ∧ RepO c F H o v L
def RepE (c : Cn) (F H : Hp) : Env → List (Option V) → List Addr → Prop
  | [], σ, L => σ = [] ∧ L = []
  | o :: env, σ, L => ∃ x r L1 L2, σ = x :: r ∧ RepS c F H o x L1 ∧ RepE c F H env r L2 ∧ L = L1 ++ L2
abbrev Ex (F F' : Hp) : Prop := ∀ a o, F a = some o → F' a = some o
theorem Ex.refl (F : Hp) : Ex F F := fun _ _ h => h
theorem Ex.trans {F F' F'' : Hp} (a : Ex F F') (b : Ex F' F'') : Ex F F'' := fun x o h => b x o (a x o h)
theorem Ex.new {H : Hp} {p : Addr} {o : HO} (h : H p = none) : Ex H (upd H p o) := fun a u e => by
  rw [upd_ne (ne_of_none e h)]
  exact e
theorem ex_rd {H H' : Hp} {a : Addr} {u : HO} (e : Ex H H') (h : Rd H a u) : Rd H' a u := by
  rcases h with h | ⟨o, h⟩
  · exact .inl (e a _ h)
  · exact .inr ⟨o, e a _ h⟩
theorem ex_l {K : PySem.W.Frag} {H H' : Hp} {a : Addr} {xs : List V} (e : Ex H H') (h : SqL K H a xs) : SqL K H' a xs := by
  rcases h with h | h
  · exact .inl (ex_rd e h)
  · exact .inr h
theorem TupN.mono {K : PySem.W.Frag} {H H' : Hp} {a : Addr} {xs : List V} (e : Ex H H') (h : TupN K H a xs) : TupN K H' a xs := by
  rcases h with ⟨o, h1, h2⟩ | h
  · exact .inl ⟨o, e _ _ h1, h2⟩
  · exact .inr h
theorem TupN.sq {K : PySem.W.Frag} {H : Hp} {a : Addr} {xs : List V} (h : TupN K H a xs) : SqT K H a xs := by
  rcases h with ⟨o, h1, _⟩ | ⟨o, its, n, h1, h2, h3, h4, h5, _⟩
  · exact .inl (.inr ⟨o, h1⟩)
  · exact .inr ⟨o, its, n, h1, h2, h3, h4, h5⟩
theorem ex_t {K : PySem.W.Frag} {H H' : Hp} {a : Addr} {xs : List V} (e : Ex H H') (h : TupN K H a xs) : SqT K H' a xs := (h.mono e).sq
section
variable {c : Cn} {F F' H H' : Hp}
mutual
theorem Rep.mono (e : Ex F F') : ∀ {d : D} {v : V}, Rep c F d v → Rep c F' d v
  | .non, _, h => h
  | .bl _, _, h => h
  | .int _, _, h => h
  | .str _, _, h => h
  | .tup ds, v, h => by
    obtain ⟨a, vs, e1, e2, e3⟩ := h
    exact ⟨a, vs, e1, e2.mono e, Reps.mono e e3⟩
  | .lst ds, v, h => by
    obtain ⟨a, vs, e1, e2, e3⟩ := h
    exact ⟨a, vs, e1, ex_l e e2, Reps.mono e e3⟩
  | .dct false ks ds, v, h => by
    obtain ⟨a, kvs, e1, e2, e3, e4⟩ := h
    exact ⟨a, kvs, e1, e _ _ e2, e3, Reps.mono e e4⟩
  | .dct true ks ds, v, h => by
    obtain ⟨a, kvs, e1, e2, e3, e4⟩ := h
    exact ⟨a, kvs, e1, e _ _ e2, e3, Reps.mono e e4⟩
  | .ins k ns ds, v, h => by
    obtain ⟨a, dx, fs, e1, e2, e3, e4⟩ := h
    exact ⟨a, dx, fs, e1, e _ _ e2, e3, Reps.mono e e4⟩
  | .exc _ _ _, _, h => h.elim
theorem Reps.mono (e : Ex F F') : ∀ {ds : List D} {vs : List V}, Reps c F ds vs → Reps c F' ds vs
  | [], _, h => h
  | d :: ds, vs, h => by
    obtain ⟨v, r, e1, e2, e3⟩ := h
    exact ⟨v, r, e1, Rep.mono e e2, Reps.mono e e3⟩
end
mutual
/-- the frozen part may grow; what is held must stand -/
theorem RepO.mono (e : Ex F F') : ∀ {o : O} {v : V} {L : List Addr}, (∀ a ∈ L, ∀ u, H a = some u → H' a = some u) → RepO c F H o v L → RepO c F' H' o v L
  | .pure d, v, L, _, h => ⟨Rep.mono e h.1, h.2⟩
  | .lst os, v, L, k, h => by
    obtain ⟨a, vs, L', e1, e2, e3, rfl⟩ := h
    exact ⟨a, vs, L', e1, k a List.mem_cons_self _ e2, RepOs.mono e (fun b hb => k b (List.mem_cons_of_mem _ hb)) e3, rfl⟩
  | .dct false ks os, v, L, k, h => by
    obtain ⟨a, kvs, L', e1, e2, e3, e4, rfl⟩ := h
    exact ⟨a, kvs, L', e1, k a List.mem_cons_self _ e2, e3, RepOs.mono e (fun b hb => k b (List.mem_cons_of_mem _ hb)) e4, rfl⟩
  | .dct true ks os, v, L, k, h => by
    obtain ⟨a, kvs, L', e1, e2, e3, e4, rfl⟩ := h
    exact ⟨a, kvs, L', e1, k a List.mem_cons_self _ e2, e3, RepOs.mono e (fun b hb => k b (List.mem_cons_of_mem _ hb)) e4, rfl⟩
  | .ins c ns os, v, L, k, h => by
    obtain ⟨a, dx, fs, L', e1, e2, e3, e4, rfl⟩ := h
    exact ⟨a, dx, fs, L', e1, k a List.mem_cons_self _ e2, e3, RepOs.mono e (fun b hb => k b (List.mem_cons_of_mem _ hb)) e4, rfl⟩
theorem RepOs.mono (e : Ex F F') : ∀ {os : List O} {vs : List V} {L : List Addr}, (∀ a ∈ L, ∀ u, H a = some u → H' a = some u) → RepOs c F H os vs L → RepOs c F' H' os vs L
  | [], _, _, _, h => h
  | o :: os, vs, L, k, h => by
    obtain ⟨v, r, L1, L2, e1, e2, e3, rfl⟩ := h
    exact ⟨v, r, L1, L2, e1, RepO.mono e (fun b hb => k b (List.mem_append_left _ hb)) e2, RepOs.mono e (fun b hb => k b (List.mem_append_right _ hb)) e3, rfl⟩
end
theorem RepS.mono (e : Ex F F') {o : Option O} {x : Option V} {L : List Addr} (k : ∀ a ∈ L, ∀ u, H a = some u → H' a = some u) (h : RepS c F H o x L) : RepS c F' H' o x L := by
  cases o with
  | none => exact h
  | some o =>
    obtain ⟨v, e1, e2⟩ := h
    exact ⟨v, e1, RepO.mono e k e2⟩
theorem RepE.mono (e : Ex F F') : ∀ {env : Env} {σ : List (Option V)} {L : List Addr}, (∀ a ∈ L, ∀ u, H a = some u → H' a = some u) → RepE c F H env σ L → RepE c F' H' env σ L
  | [], _, _, _, h => h
  | o :: env, σ, L, k, h => by
    obtain ⟨x, r, L1, L2, e1, e2, e3, rfl⟩ := h
    exact ⟨x, r, L1, L2, e1, RepS.mono e (fun b hb => k b (List.mem_append_left _ hb)) e2, RepE.mono e (fun b hb => k b (List.mem_append_right _ hb)) e3, rfl⟩
mutual
/-- what is held stands in the heap -/
theorem RepO.dom : ∀ {o : O} {v : V} {L : List Addr}, RepO c F H o v L → ∀ a ∈ L, H a ≠ none
  | .pure d, v, L, h, a, ha => by rw [h.2] at ha; cases ha
  | .lst os, v, L, h, a, ha => by
    obtain ⟨b, vs, L', e1, e2, e3, rfl⟩ := h
    rcases List.mem_cons.mp ha with rfl | ha
    · rw [e2]; simp
    · exact RepOs.dom e3 a ha
  | .dct false ks os, v, L, h, a, ha => by
    obtain ⟨b, kvs, L', e1, e2, e3, e4, rfl⟩ := h
    rcases List.mem_cons.mp ha with rfl | ha
    · rw [e2]; simp
    · exact RepOs.dom e4 a ha
  | .dct true ks os, v, L, h, a, ha => by
    obtain ⟨b, kvs, L', e1, e2, e3, e4, rfl⟩ := h
    rcases List.mem_cons.mp ha with rfl | ha
    · rw [e2]; simp
    · exact RepOs.dom e4 a ha
  | .ins c ns os, v, L, h, a, ha => by
    obtain ⟨b, dx, fs, L', e1, e2, e3, e4, rfl⟩ := h
    rcases List.mem_cons.mp ha with rfl | ha
    · rw [e2]; simp
    · exact RepOs.dom e4 a ha
theorem RepOs.dom : ∀ {os : List O} {vs : List V} {L : List Addr}, RepOs c F H os vs L → ∀ a ∈ L, H a ≠ none
  | [], _, _, h, a, ha => by rw [h.2] at ha; cases ha
  | o :: os, vs, L, h, a, ha => by
    obtain ⟨v, r, L1, L2, e1, e2, e3, rfl⟩ := h
    rcases List.mem_append.mp ha with ha | ha
    · exact RepO.dom e2 a ha
    · exact RepOs.dom e3 a ha
end
theorem RepE.dom : ∀ {env : Env} {σ : List (Option V)} {L : List Addr}, RepE c F H env σ L → ∀ a ∈ L, H a ≠ none
  | [], _, _, h, a, ha => by rw [h.2] at ha; cases ha
  | o :: env, σ, L, h, a, ha => by
    obtain ⟨x, r, L1, L2, e1, e2, e3, rfl⟩ := h
    rcases List.mem_append.mp ha with ha | ha
    · cases o with
      | none => rw [show L1 = [] from e2] at ha; cases ha
      | some o =>
        obtain ⟨v, _, e2⟩ := e2
        exact e2.dom a ha
    · exact RepE.dom e3 a ha
mutual
/-- held fast: all of it frozen -/
theorem RepO.froz (e : Ex F F') : ∀ {o : O} {v : V} {L : List Addr}, (∀ a ∈ L, ∀ u, H a = some u → F' a = some u) → RepO c F H o v L → Rep c F' o.fz v
  | .pure d, v, L, _, h => Rep.mono e h.1
  | .lst os, v, L, k, h => by
    obtain ⟨a, vs, L', e1, e2, e3, rfl⟩ := h
    exact ⟨a, vs, e1, .inl (.inl (k a List.mem_cons_self _ e2)), RepOs.froz e (fun b hb => k b (List.mem_cons_of_mem _ hb)) e3⟩
  | .dct false ks os, v, L, k, h => by
    obtain ⟨a, kvs, L', e1, e2, e3, e4, rfl⟩ := h
    exact ⟨a, kvs, e1, k a List.mem_cons_self _ e2, e3, RepOs.froz e (fun b hb => k b (List.mem_cons_of_mem _ hb)) e4⟩
  | .dct true ks os, v, L, k, h => by
    obtain ⟨a, kvs, L', e1, e2, e3, e4, rfl⟩ := h
    exact ⟨a, kvs, e1, k a List.mem_cons_self _ e2, e3, RepOs.froz e (fun b hb => k b (List.mem_cons_of_mem _ hb)) e4⟩
  | .ins c ns os, v, L, k, h => by
    obtain ⟨a, dx, fs, L', e1, e2, e3, e4, rfl⟩ := h
    exact ⟨a, dx, fs, e1, k a List.mem_cons_self _ e2, e3, RepOs.froz e (fun b hb => k b (List.mem_cons_of_mem _ hb)) e4⟩
theorem RepOs.froz (e : Ex F F') : ∀ {os : List O} {vs : List V} {L : List Addr}, (∀ a ∈ L, ∀ u, H a = some u → F' a = some u) → RepOs c F H os vs L → Reps c F' (O.fzs os) vs
  | [], _, _, _, h => h.1
  | o :: os, vs, L, k, h => by
    obtain ⟨v, r, L1, L2, e1, e2, e3, rfl⟩ := h
    exact ⟨v, r, e1, RepO.froz e (fun b hb => k b (List.mem_append_left _ hb)) e2, RepOs.froz e (fun b hb => k b (List.mem_append_right _ hb)) e3⟩
end
/-- lists and dicts -/
def isLD : HO → Prop
  | .lst _ => True
  | .dK _ => True
  | .dT _ => True
  | _ => False
mutual
/-- what stands on no list may do without them -/
theorem Rep.thaw (e : ∀ a u, F a = some u → F' a = some u ∨ isLD u) : ∀ {d : D} {v : V}, d.lf = true → Rep c F d v → Rep c F' d v
  | .non, _, _, h => h
  | .bl _, _, _, h => h
  | .int _, _, _, h => h
  | .str _, _, _, h => h
  | .tup ds, v, l, h => by
    obtain ⟨a, vs, e1, e2, e3⟩ := h
    refine ⟨a, vs, e1, ?_, Reps.thaw e (by simpa [D.lf] using l) e3⟩
    rcases e2 with ⟨o, e2, e4⟩ | e2
    · rcases e _ _ e2 with q | q
      · exact .inl ⟨o, q, e4⟩
      · exact q.elim
    · exact .inr e2
  | .lst ds, v, l, h => by simp [D.lf] at l
  | .dct _ ks ds, v, l, h => by simp [D.lf] at l
  | .ins k ns ds, v, l, h => by
    obtain ⟨a, dx, fs, e1, e2, e3, e4⟩ := h
    refine ⟨a, dx, fs, e1, ?_, e3, Reps.thaw e (by simpa [D.lf] using l) e4⟩
    rcases e _ _ e2 with q | q
    · exact q
    · exact q.elim
  | .exc _ _ _, _, _, h => h.elim
theorem Reps.thaw (e : ∀ a u, F a = some u → F' a = some u ∨ isLD u) : ∀ {ds : List D} {vs : List V}, D.lfs ds = true → Reps c F ds vs → Reps c F' ds vs
  | [], _, _, h => h
  | d :: ds, vs, l, h => by
    obtain ⟨v, r, e1, e2, e3⟩ := h
    have l' : d.lf = true ∧ D.lfs ds = true := by simpa [D.lfs] using l
    exact ⟨v, r, e1, Rep.thaw e l'.1 e2, Reps.thaw e l'.2 e3⟩
end
mutual
theorem RepO.thaw (e : ∀ a u, F a = some u → F' a = some u ∨ isLD u) : ∀ {o : O} {v : V} {L : List Addr}, o.free = true → RepO c F H o v L → RepO c F' H o v L
  | .pure d, v, L, l, h => ⟨Rep.thaw e (by simpa [O.free] using l) h.1, h.2⟩
  | .lst os, v, L, l, h => by
    obtain ⟨a, vs, L', e1, e2, e3, rfl⟩ := h
    exact ⟨a, vs, L', e1, e2, RepOs.thaw e (by simpa [O.free] using l) e3, rfl⟩
  | .dct false ks os, v, L, l, h => by
    obtain ⟨a, kvs, L', e1, e2, e3, e4, rfl⟩ := h
    have l' : D.lfs ks = true ∧ O.frees os = true := by simpa [O.free] using l
    exact ⟨a, kvs, L', e1, e2, e3, RepOs.thaw e l'.2 e4, rfl⟩
  | .dct true ks os, v, L, l, h => by
    obtain ⟨a, kvs, L', e1, e2, e3, e4, rfl⟩ := h
    have l' : D.lfs ks = true ∧ O.frees os = true := by simpa [O.free] using l
    exact ⟨a, kvs, L', e1, e2, e3, RepOs.thaw e l'.2 e4, rfl⟩
  | .ins c ns os, v, L, l, h => by
    obtain ⟨a, dx, fs, L', e1, e2, e3, e4, rfl⟩ := h
    exact ⟨a, dx, fs, L', e1, e2, e3, RepOs.thaw e (by simpa [O.free] using l) e4, rfl⟩
theorem RepOs.thaw (e : ∀ a u, F a = some u → F' a = some u ∨ isLD u) : ∀ {os : List O} {vs : List V} {L : List Addr}, O.frees os = true → RepOs c F H os vs L → RepOs c F' H os vs L
  | [], _, _, _, h => h
  | o :: os, vs, L, l, h => by
    obtain ⟨v, r, L1, L2, e1, e2, e3, rfl⟩ := h
    have l' : o.free = true ∧ O.frees os = true := by simpa [O.frees] using l
    exact ⟨v, r, L1, L2, e1, RepO.thaw e l'.1 e2, RepOs.thaw e l'.2 e3, rfl⟩
end
end
/-- the value at a place -/
inductive VAt (c : Cn) (H : Hp) : V → List Step → V → Prop
  | nil (v : V) : VAt c H v [] v
  | ix {a : Addr} {vs : List V} {n : Nat} {v w : V} {p : List Step} : H a = some (.lst vs) → vs[n]? = some v → VAt c H v p w → VAt c H (.ref a) (.ix n :: p) w
  | fld {a C dx : Addr} {fs : List (Str × V)} {f : Nat} {v w : V} {p : List Step} : H a = some (.ins C dx fs) → fs.lookup (c.FN f) = some v → VAt c H v p w → VAt c H (.ref a) (.fld f :: p) w
section
variable {c : Cn} {F F' H H' : Hp}
theorem VAt.uniq {v w w' : V} {p : List Step} (h : VAt c H v p w) : VAt c H v p w' → w = w' := by
  induction h with
  | nil v => intro h'; cases h'; rfl
  | ix h1 h2 _ ih =>
    intro h'
    cases h' with
    | ix h1' h2' h3' =>
      rw [h1] at h1'
      cases h1'
      rw [h2] at h2'
      cases h2'
      exact ih h3'
  | fld h1 h2 _ ih =>
    intro h'
    cases h' with
    | fld h1' h2' h3' =>
      rw [h1] at h1'
      cases h1'
      rw [h2] at h2'
      cases h2'
      exact ih h3'
theorem VAt.snoc {v w w' : V} {p q : List Step} (h : VAt c H v p w) : VAt c H w q w' → VAt c H v (p ++ q) w' := by
  induction h with
  | nil v => exact fun h => h
  | ix h1 h2 _ ih => exact fun h => .ix h1 h2 (ih h)
  | fld h1 h2 _ ih => exact fun h => .fld h1 h2 (ih h)
theorem RepOs.length : ∀ {os : List O} {vs : List V} {L : List Addr}, RepOs c F H os vs L → vs.length = os.length
  | [], _, _, h => by rw [h.1]; rfl
  | o :: os, vs, L, h => by
    obtain ⟨v, r, L1, L2, rfl, e2, e3, rfl⟩ := h
    rw [List.length_cons, List.length_cons, RepOs.length e3]
theorem RepE.length : ∀ {os : Env} {vs : List (Option V)} {L : List Addr}, RepE c F H os vs L → vs.length = os.length
  | [], _, _, h => by rw [h.1]; rfl
  | o :: os, vs, L, h => by
    obtain ⟨v, r, L1, L2, rfl, e2, e3, rfl⟩ := h
    rw [List.length_cons, List.length_cons, RepE.length e3]
theorem Reps.length : ∀ {ds : List D} {vs : List V}, Reps c F ds vs → vs.length = ds.length
  | [], _, h => by rw [show _ = [] from h]; rfl
  | d :: ds, vs, h => by
    obtain ⟨v, r, rfl, e2, e3⟩ := h
    rw [List.length_cons, List.length_cons, Reps.length e3]
theorem Reps.get : ∀ {ds : List D} {vs : List V} {n : Nat} {d : D}, Reps c F ds vs → ds[n]? = some d → ∃ v, vs[n]? = some v ∧ Rep c F d v
  | [], _, _, _, _, h => by simp at h
  | d :: ds, vs, 0, x, h, e => by
    obtain ⟨v, r, rfl, e2, e3⟩ := h
    simp at e
    subst e
    exact ⟨v, rfl, e2⟩
  | d :: ds, vs, n + 1, x, h, e => by
    obtain ⟨v, r, rfl, e2, e3⟩ := h
    exact Reps.get (n := n) e3 (by simpa using e)
/-- one of the things held, and another in its place -/
theorem RepOs.at : ∀ {os : List O} {vs : List V} {L : List Addr} {n : Nat} {o : O}, RepOs c F H os vs L → os[n]? = some o →
    ∃ v A L1 B, vs[n]? = some v ∧ L = A ++ L1 ++ B ∧ RepO c F H o v L1 ∧ ∀ (F' H' : Hp) (o' : O) (v' : V) (L1' : List Addr), Ex F F' → (∀ a ∈ A ++ B, ∀ u, H a = some u → H' a = some u) → RepO c F' H' o' v' L1' →
      RepOs c F' H' (os.set n o') (vs.set n v') (A ++ L1' ++ B)
  | [], _, _, _, _, _, h => by simp at h
  | x :: os, vs, L, 0, o, h, e => by
    obtain ⟨v, r, L1, L2, rfl, e2, e3, rfl⟩ := h
    simp at e
    subst e
    refine ⟨v, [], L1, L2, rfl, by simp, e2, fun F' H' o' v' L1' ex k h' => ?_⟩
    exact ⟨v', r, L1', L2, rfl, h', RepOs.mono ex (fun a ha => k a (by simpa using ha)) e3, by simp⟩
  | x :: os, vs, L, n + 1, o, h, e => by
    obtain ⟨v, r, L1, L2, rfl, e2, e3, rfl⟩ := h
    obtain ⟨v1, A, M, B, h1, rfl, h3, h4⟩ := RepOs.at (n := n) (o := o) e3 (by simpa using e)
    refine ⟨v1, L1 ++ A, M, B, by simpa using h1, by simp, h3, fun F' H' o' v' L1' ex k h' => ?_⟩
    refine ⟨v, r.set n v', L1, A ++ L1' ++ B, rfl, RepO.mono ex (fun a ha => k a (by simp [ha])) e2, h4 F' H' o' v' L1' ex (fun a ha => k a (by
      rcases List.mem_append.mp ha with q | q <;> simp [q])) h', by simp⟩
theorem RepE.at : ∀ {os : Env} {vs : List (Option V)} {L : List Addr} {n : Nat} {o : Option O}, RepE c F H os vs L → os[n]? = some o →
    ∃ v A L1 B, vs[n]? = some v ∧ L = A ++ L1 ++ B ∧ RepS c F H o v L1 ∧ ∀ (F' H' : Hp) (o' : Option O) (v' : Option V) (L1' : List Addr), Ex F F' → (∀ a ∈ A ++ B, ∀ u, H a = some u → H' a = some u) → RepS c F' H' o' v' L1' →
      RepE c F' H' (os.set n o') (vs.set n v') (A ++ L1' ++ B)
  | [], _, _, _, _, _, h => by simp at h
  | x :: os, vs, L, 0, o, h, e => by
    obtain ⟨v, r, L1, L2, rfl, e2, e3, rfl⟩ := h
    simp at e
    subst e
    refine ⟨v, [], L1, L2, rfl, by simp, e2, fun F' H' o' v' L1' ex k h' => ?_⟩
    exact ⟨v', r, L1', L2, rfl, h', RepE.mono ex (fun a ha => k a (by simpa using ha)) e3, by simp⟩
  | x :: os, vs, L, n + 1, o, h, e => by
    obtain ⟨v, r, L1, L2, rfl, e2, e3, rfl⟩ := h
    obtain ⟨v1, A, M, B, h1, rfl, h3, h4⟩ := RepE.at (n := n) (o := o) e3 (by simpa using e)
    refine ⟨v1, L1 ++ A, M, B, by simpa using h1, by simp, h3, fun F' H' o' v' L1' ex k h' => ?_⟩
    refine ⟨v, r.set n v', L1, A ++ L1' ++ B, rfl, RepS.mono ex (fun a ha => k a (by simp [ha])) e2, h4 F' H' o' v' L1' ex (fun a ha => k a (by
      rcases List.mem_append.mp ha with q | q <;> simp [q])) h', by simp⟩
/-- where a field stands -/
theorem lkp_ix {α : Type} : ∀ {ns : List Nat} {vs : List α} {f : Nat} {x : α}, lkp ns vs f = some x → ∃ n, ns[n]? = some f ∧ vs[n]? = some x ∧ (∀ m, m < n → ns[m]? ≠ some f) ∧ ∀ y, setF ns vs f y = (ns, vs.set n y)
  | [], _, _, _, h => by simp [lkp] at h
  | _ :: _, [], _, _, h => by simp [lkp] at h
  | k :: ns, v :: vs, f, x, h => by
    unfold lkp at h
    by_cases e : k = f
    · rw [if_pos e] at h
      cases h
      exact ⟨0, by simp [e], rfl, fun m hm => absurd hm (Nat.not_lt_zero _), fun y => by unfold setF; rw [if_pos e]; rfl⟩
    · rw [if_neg e] at h
      obtain ⟨n, h1, h2, h3, h4⟩ := lkp_ix h
      refine ⟨n + 1, by simpa using h1, by simpa using h2, fun m hm => ?_, fun y => ?_⟩
      · cases m with
        | zero => simpa using e
        | succ m => simpa using h3 m (Nat.lt_of_succ_lt_succ hm)
      · unfold setF
        rw [if_neg e, h4]
        rfl
theorem lookup_at {fs : List (Str × V)} : ∀ {n : Nat} {s : Str} {v : V}, (fs.map (·.1))[n]? = some s → (fs.map (·.2))[n]? = some v → (∀ m, m < n → (fs.map (·.1))[m]? ≠ some s) → fs.lookup s = some v := by
  induction fs with
  | nil => intro n s v h; simp at h
  | cons p fs ih =>
    obtain ⟨k, x⟩ := p
    intro n s v h1 h2 h3
    cases n with
    | zero =>
      simp at h1 h2
      subst h1
      subst h2
      simp [List.lookup]
    | succ n =>
      have e : ¬ s = k := fun e => h3 0 (Nat.succ_pos _) (by simp [e])
      have e' : (s == k) = false := by simp [e]
      simp only [List.lookup, e']
      exact ih (n := n) (by simpa using h1) (by simpa using h2) fun m hm => by simpa using h3 (m + 1) (Nat.succ_lt_succ hm)
theorem names_at {c : Cn} {fs : List (Str × V)} {ns : List Nat} {n f : Nat} {v : V} (e : fs.map (·.1) = ns.map c.FN) (h1 : ns[n]? = some f) (h2 : (fs.map (·.2))[n]? = some v) (h3 : ∀ m, m < n → ns[m]? ≠ some f) : fs.lookup (c.FN f) = some v := by
  refine lookup_at (n := n) (by rw [e, List.getElem?_map, h1]; rfl) h2 fun m hm q => ?_
  rw [e, List.getElem?_map] at q
  cases z : ns[m]? with
  | none => rw [z] at q; cases q
  | some g =>
    rw [z] at q
    have q' : c.FN g = c.FN f := Option.some.inj q
    exact h3 m hm (by rw [z, c.inj _ _ q'])
theorem set_self {α : Type} {l : List α} {n : Nat} {x : α} (h : l[n]? = some x) : l.set n x = l := by
  obtain ⟨hl, e⟩ := List.getElem?_eq_some_iff.mp h
  rw [← e]
  exact List.set_getElem_self hl
/-- a thing within a thing, and another put there that is the same object -/
theorem RepO.at : ∀ {p : List Step} {o : O} {v : V} {L : List Addr} {o1 : O}, RepO c F H o v L → o.at p = some o1 →
    ∃ v1 A L1 B, VAt c H v p v1 ∧ L = A ++ L1 ++ B ∧ RepO c F H o1 v1 L1 ∧ ∀ (F' H' : Hp) (o1' : O) (L1' : List Addr), Ex F F' → (∀ a ∈ A ++ B, ∀ u, H a = some u → H' a = some u) → RepO c F' H' o1' v1 L1' →
      ∃ o', o.put p o1' = some o' ∧ RepO c F' H' o' v (A ++ L1' ++ B)
  | [], o, v, L, o1, h, e => by
    have e' : o = o1 := by simpa [O.at] using e
    subst e'
    refine ⟨v, [], L, [], .nil v, by simp, h, fun F' H' o1' L1' ex k h' => ⟨o1', rfl, by simpa using h'⟩⟩
  | s :: p, o, v, L, o1, h, e => by
    unfold O.at at e
    cases q : o.sub s with
    | none => rw [q] at e; cases e
    | some o2 =>
      rw [q] at e
      dsimp only at e
      cases o with
      | pure d => cases s <;> simp [O.sub] at q
      | dct k ks vs => cases s <;> simp [O.sub] at q
      | lst xs =>
        cases s with
        | fld f => simp [O.sub] at q
        | ix n =>
          have q' : xs[n]? = some o2 := q
          obtain ⟨a, vs, L', rfl, e2, e3, rfl⟩ := h
          obtain ⟨w, A, M, B, h1, rfl, h3, h4⟩ := RepOs.at e3 q'
          obtain ⟨v1, A', L1, B', h5, rfl, h6, h7⟩ := RepO.at h3 e
          refine ⟨v1, a :: (A ++ A'), L1, B' ++ B, .ix e2 h1 h5, by simp, h6, fun F' H' o1' L1' ex k h' => ?_⟩
          obtain ⟨o', p1, p2⟩ := h7 F' H' o1' L1' ex (fun b hb => k b (by
            rcases List.mem_append.mp hb with z | z <;> simp [z])) h'
          refine ⟨.lst (xs.set n o'), by simp [O.put, q', p1], a, vs, (A ++ (A' ++ L1' ++ B') ++ B), rfl, k a (by simp) _ e2, ?_, by simp⟩
          have r := h4 F' H' o' w (A' ++ L1' ++ B') ex (fun b hb => k b (by
            rcases List.mem_append.mp hb with z | z <;> simp [z])) p2
          rwa [set_self h1] at r
      | ins k ns vs =>
        cases s with
        | ix n => simp [O.sub] at q
        | fld f =>
          have q' : lkp ns vs f = some o2 := q
          obtain ⟨a, dx, fs, L', rfl, e2, e3, e4, rfl⟩ := h
          obtain ⟨n, n1, n2, n3, n4⟩ := lkp_ix q'
          obtain ⟨w, A, M, B, h1, rfl, h3, h4⟩ := RepOs.at e4 n2
          obtain ⟨v1, A', L1, B', h5, rfl, h6, h7⟩ := RepO.at h3 e
          refine ⟨v1, a :: (A ++ A'), L1, B' ++ B, .fld e2 (names_at e3 n1 h1 n3) h5, by simp, h6, fun F' H' o1' L1' ex k' h' => ?_⟩
          obtain ⟨o', p1, p2⟩ := h7 F' H' o1' L1' ex (fun b hb => k' b (by
            rcases List.mem_append.mp hb with z | z <;> simp [z])) h'
          refine ⟨.ins k ns (vs.set n o'), by simp [O.put, q', p1, n4], a, dx, fs, (A ++ (A' ++ L1' ++ B') ++ B), rfl, k' a (by simp) _ e2, e3, ?_, by simp⟩
          have r := h4 F' H' o' w (A' ++ L1' ++ B') ex (fun b hb => k' b (by
            rcases List.mem_append.mp hb with z | z <;> simp [z])) p2
          rwa [set_self h1] at r
end
end T
namespace T
open PySem L2
variable {c : Cn} {F F' F'' H H' H'' : Hp} {L L' L'' : List Addr} {σ : St} {env env' : Env}
structure Cfg (c : Cn) (F H : Hp) (σ : St) (env : Env) (L : List Addr) : Prop where
  ex : Ex F H
  rep : RepE c F H env σ L
  nd : L.Nodup
  ow : ∀ a ∈ L, F a = none
structure After (F H : Hp) (L : List Addr) (F' H' : Hp) (L' : List Addr) : Prop where
  fs : Ex F F'
  fr : ∀ a o, H a = some o → a ∉ L → H' a = some o
  dm : ∀ a, H a ≠ none → H' a ≠ none
  lo : ∀ a ∈ L', a ∈ L ∨ H a = none
  fn : ∀ a, F' a ≠ none → F a ≠ none ∨ a ∈ L ∨ H a = none
theorem After.refl (F H : Hp) (L : List Addr) : After F H L F H L := ⟨Ex.refl F, fun _ _ h _ => h, fun _ h => h, fun _ h => .inl h, fun _ h => .inl h⟩
theorem After.trans (a : After F H L F' H' L') (b : After F' H' L' F'' H'' L'') : After F H L F'' H'' L'' where
  fs := a.fs.trans b.fs
  fr := fun x o h n => by
    refine b.fr x o (a.fr x o h n) fun m => ?_
    rcases a.lo x m with q | q
    · exact n q
    · rw [h] at q; cases q
  dm := fun x h => b.dm x (a.dm x h)
  lo := fun x h => by
    rcases b.lo x h with q | q
    · exact a.lo x q
    · refine .inr ?_
      cases e : H x with
      | none => rfl
      | some o => exact absurd q (a.dm x (by rw [e]; simp))
  fn := fun x h => by
    rcases b.fn x h with q | q | q
    · exact a.fn x q
    · exact .inr (a.lo x q)
    · refine .inr (.inr ?_)
      cases e : H x with
      | none => rfl
      | some o => exact absurd q (a.dm x (by rw [e]; simp))
theorem After.sub (a : After F H L F' H' L') (h : ∀ x ∈ L'', x ∈ L') : After F H L F' H' L'' := ⟨a.fs, a.fr, a.dm, fun x m => a.lo x (h x m), a.fn⟩
/-- what is held elsewhere stays -/
theorem After.hold (a : After F H L F' H' L') {o : O} {v : V} {M : List Addr} (h : RepO c F H o v M) (d : ∀ x ∈ M, x ∉ L) (ow : ∀ x ∈ M, F x = none) :
    RepO c F' H' o v M ∧ (∀ x ∈ M, x ∉ L') ∧ ∀ x ∈ M, F' x = none := by
  refine ⟨RepO.mono a.fs (fun x hx u e => a.fr x u e (d x hx)) h, fun x hx m => ?_, fun x hx => ?_⟩
  · rcases a.lo x m with q | q
    · exact d x hx q
    · exact h.dom x hx q
  · cases e : F' x with
    | none => rfl
    | some u =>
      rcases a.fn x (by rw [e]; simp) with q | q | q
      · exact absurd (ow x hx) q
      · exact absurd q (d x hx)
      · exact absurd q (h.dom x hx)
theorem Cfg.len (g : Cfg c F H σ env L) : σ.length = env.length := g.rep.length
def addF (F H : Hp) (M : List Addr) : Hp := fun a => if a ∈ M then H a else F a
theorem addF_in {M : List Addr} {a : Addr} (h : a ∈ M) : addF F H M a = H a := if_pos h
theorem addF_out {M : List Addr} {a : Addr} (h : a ∉ M) : addF F H M a = F a := if_neg h
theorem ex_addF {M : List Addr} (ow : ∀ a ∈ M, F a = none) : Ex F (addF F H M) := fun a o e => by
  rw [addF_out]
  · exact e
  · intro h
    rw [ow a h] at e
    cases e
theorem addF_ex {M : List Addr} (e : Ex F H) : Ex (addF F H M) H := fun a o h => by
  by_cases m : a ∈ M
  · rwa [addF_in m] at h
  · rw [addF_out m] at h
    exact e a o h
/-- a place in a frame -/
theorem Cfg.at (g : Cfg c F H σ env L) {i : Nat} {p : List Step} {o : O} (h : env.at i p = some o) :
    ∃ v0 v A L1 B, σ[i]? = some (some v0) ∧ VAt c H v0 p v ∧ L = A ++ L1 ++ B ∧ RepO c F H o v L1 ∧ ∀ (F' H' : Hp) (o' : O) (L1' : List Addr), Ex F F' → (∀ a ∈ A ++ B, ∀ u, H a = some u → H' a = some u) → RepO c F' H' o' v L1' →
      ∃ env', env.put i p o' = some env' ∧ RepE c F' H' env' σ (A ++ L1' ++ B) := by
  unfold Env.at at h
  cases q : env[i]? with
  | none => rw [q] at h; cases h
  | some s =>
    cases s with
    | none => rw [q] at h; cases h
    | some o0 =>
      rw [q] at h
      dsimp only at h
      obtain ⟨x, A, M, B, h1, rfl, ⟨v0, rfl, h3⟩, h4⟩ := g.rep.at q
      obtain ⟨v, A', L1, B', h5, rfl, h6, h7⟩ := h3.at h
      refine ⟨v0, v, A ++ A', L1, B' ++ B, h1, h5, by simp, h6, fun F' H' o' L1' ex k h' => ?_⟩
      obtain ⟨o2, p1, p2⟩ := h7 F' H' o' L1' ex (fun a ha => k a (by
        rcases List.mem_append.mp ha with z | z <;> simp [z])) h'
      refine ⟨env.set i (some o2), by simp [Env.put, q, p1], ?_⟩
      have r := h4 F' H' (some o2) (some v0) (A' ++ L1' ++ B') ex (fun a ha => k a (by
        rcases List.mem_append.mp ha with z | z <;> simp [z])) ⟨v0, rfl, p2⟩
      rw [set_self h1] at r
      simpa using r
theorem mem3 {α : Type} {a : α} {A M B : List α} : a ∈ A ++ M ++ B ↔ a ∈ A ++ B ∨ a ∈ M := by
  simp only [List.mem_append]
  constructor
  · rintro ((h | h) | h)
    · exact .inl (.inl h)
    · exact .inr h
    · exact .inl (.inr h)
  · rintro ((h | h) | h)
    · exact .inl (.inl h)
    · exact .inr h
    · exact .inl (.inr h)
theorem nodup3 {α : Type} {A M B : List α} (h : (A ++ M ++ B).Nodup) : (A ++ B).Nodup ∧ M.Nodup ∧ ∀ a ∈ M, a ∉ A ++ B := by
  have h' := List.nodup_append.mp h
  have h2 := List.nodup_append.mp h'.1
  refine ⟨?_, h2.2.1, fun a ha m => ?_⟩
  · refine List.nodup_append.mpr ⟨h2.1, h'.2.1, fun a ha b hb => h'.2.2 a (List.mem_append_left _ ha) b hb⟩
  · rcases List.mem_append.mp m with q | q
    · exact h2.2.2 a q a ha rfl
    · exact h'.2.2 a (List.mem_append_right _ ha) a q rfl
theorem nodup3' {α : Type} {A M B : List α} (h1 : (A ++ B).Nodup) (h2 : M.Nodup) (h3 : ∀ a ∈ M, a ∉ A ++ B) : (A ++ M ++ B).Nodup := by
  have h := List.nodup_append.mp h1
  refine List.nodup_append.mpr ⟨List.nodup_append.mpr ⟨h.1, h2, fun a ha b hb e => ?_⟩, h.2.1, fun a ha b hb e => ?_⟩
  · subst e
    exact h3 a hb (List.mem_append_left _ ha)
  · subst e
    rcases List.mem_append.mp ha with q | q
    · exact h.2.2 a q a hb rfl
    · exact h3 a q (List.mem_append_right _ hb)
/-- what a freezing is: a part M of what is held goes over to the frozen -/
structure Frz (c : Cn) (F H : Hp) (σ : St) (L M : List Addr) (env' : Env) (L' : List Addr) : Prop where
  cfg : Cfg c (addF F H M) H σ env' L'
  sub : ∀ a, a ∈ L ↔ a ∈ L' ∨ a ∈ M
  dis : ∀ a ∈ M, a ∉ L'
theorem Frz.after {M : List Addr} (g : Cfg c F H σ env L) (z : Frz c F H σ L M env' L') : After F H L (addF F H M) H L' where
  fs := ex_addF fun a ha => g.ow a ((z.sub a).mpr (.inr ha))
  fr := fun _ _ h _ => h
  dm := fun _ h => h
  lo := fun a ha => .inl ((z.sub a).mpr (.inl ha))
  fn := fun a ha => by
    by_cases m : a ∈ M
    · exact .inr (.inl ((z.sub a).mpr (.inr m)))
    · rw [addF_out m] at ha
      exact .inl ha
theorem addF_nil : addF F H [] = F := by
  funext a
  rw [addF_out (by simp)]
theorem addF_addF {M M' : List Addr} : addF (addF F H M) H M' = addF F H (M ++ M') := by
  funext a
  by_cases m' : a ∈ M'
  · rw [addF_in m', addF_in (List.mem_append_right _ m')]
  · rw [addF_out m']
    by_cases m : a ∈ M
    · rw [addF_in m, addF_in (List.mem_append_left _ m)]
    · rw [addF_out m, addF_out (by simp [m, m'])]
theorem Frz.refl (g : Cfg c F H σ env L) : Frz c F H σ L [] env L := ⟨by rw [addF_nil]; exact g, fun a => by simp, fun a h => by simp at h⟩
theorem Frz.trans {M M' : List Addr} {env'' : Env} (z : Frz c F H σ L M env' L') (z' : Frz c (addF F H M) H σ L' M' env'' L'') : Frz c F H σ L (M ++ M') env'' L'' where
  cfg := by rw [← addF_addF]; exact z'.cfg
  sub := fun a => by rw [z.sub, z'.sub, List.mem_append, or_assoc, or_comm (a := a ∈ M')]
  dis := fun a ha m => by
    rcases List.mem_append.mp ha with q | q
    · exact z.dis a q ((z'.sub a).mpr (.inl m))
    · exact z'.dis a q m
theorem Cfg.freeze (g : Cfg c F H σ env L) {i : Nat} {p : List Step} {d : D} (h : env.freeze i p = some (d, env')) :
    ∃ M L' v0 v o, Frz c F H σ L M env' L' ∧ σ[i]? = some (some v0) ∧ VAt c H v0 p v ∧ Rep c (addF F H M) d v ∧ env.at i p = some o ∧ d = o.fz ∧ RepO c F H o v M := by
  unfold Env.freeze at h
  cases q : env.at i p with
  | none => rw [q] at h; cases h
  | some o =>
    rw [q] at h
    dsimp only at h
    obtain ⟨v0, v, A, L1, B, h1, h2, rfl, h4, h5⟩ := g.at q
    have nd := nodup3 g.nd
    have ow : ∀ a ∈ L1, F a = none := fun a ha => g.ow a (mem3.mpr (.inr ha))
    have fz : Rep c (addF F H L1) o.fz v := RepO.froz (ex_addF ow) (fun a ha u e => by rw [addF_in ha]; exact e) h4
    obtain ⟨env2, e1, e2⟩ := h5 (addF F H L1) H (.pure o.fz) [] (ex_addF ow) (fun _ _ _ e => e) ⟨fz, rfl⟩
    rw [e1] at h
    cases h
    refine ⟨L1, A ++ B, v0, v, o, ⟨⟨addF_ex g.ex, by simpa using e2, nd.1, fun a ha => ?_⟩, fun a => mem3, fun a ha => nd.2.2 a ha⟩, h1, h2, fz, rfl, rfl, h4⟩
    rw [addF_out (fun m => nd.2.2 a m ha)]
    exact g.ow a (mem3.mpr (.inl ha))
def ArgRep (c : Cn) (F H : Hp) (σ : St) : Arg → V → Prop
  | .val d, v => Rep c F d v
  | .ref i p, v => ∃ v0, σ[i]? = some (some v0) ∧ VAt c H v0 p v
def ArgsRep (c : Cn) (F H : Hp) (σ : St) : List Arg → List V → Prop
  | [], vs => vs = []
  | a :: as, vs => ∃ v r, vs = v :: r ∧ ArgRep c F H σ a v ∧ ArgsRep c F H σ as r
theorem ArgRep.mono {a : Arg} {v : V} (e : Ex F F') (h : ArgRep c F H σ a v) : ArgRep c F' H σ a v := by
  cases a with
  | val d => exact Rep.mono e h
  | ref i p => exact h
theorem ArgsRep.mono (e : Ex F F') : ∀ {as : List Arg} {vs : List V}, ArgsRep c F H σ as vs → ArgsRep c F' H σ as vs
  | [], _, h => h
  | a :: as, vs, h => by
    obtain ⟨v, r, e1, e2, e3⟩ := h
    exact ⟨v, r, e1, e2.mono e, ArgsRep.mono e e3⟩
mutual
theorem RepO.isLD : ∀ {o : O} {v : V} {L : List Addr}, o.noIns = true → RepO c F H o v L → ∀ a ∈ L, ∃ u, H a = some u ∧ isLD u
  | .pure d, v, L, _, h, a, ha => by rw [h.2] at ha; cases ha
  | .lst os, v, L, n, h, a, ha => by
    obtain ⟨b, vs, L', e1, e2, e3, rfl⟩ := h
    rcases List.mem_cons.mp ha with rfl | ha
    · exact ⟨_, e2, trivial⟩
    · exact RepOs.isLD (by simpa [O.noIns] using n) e3 a ha
  | .dct false ks os, v, L, n, h, a, ha => by
    obtain ⟨b, kvs, L', e1, e2, e3, e4, rfl⟩ := h
    rcases List.mem_cons.mp ha with rfl | ha
    · exact ⟨_, e2, trivial⟩
    · exact RepOs.isLD (by simpa [O.noIns] using n) e4 a ha
  | .dct true ks os, v, L, n, h, a, ha => by
    obtain ⟨b, kvs, L', e1, e2, e3, e4, rfl⟩ := h
    rcases List.mem_cons.mp ha with rfl | ha
    · exact ⟨_, e2, trivial⟩
    · exact RepOs.isLD (by simpa [O.noIns] using n) e4 a ha
  | .ins k ns os, v, L, n, h, a, ha => by simp [O.noIns] at n
theorem RepOs.isLD : ∀ {os : List O} {vs : List V} {L : List Addr}, O.noInss os = true → RepOs c F H os vs L → ∀ a ∈ L, ∃ u, H a = some u ∧ isLD u
  | [], _, _, _, h, a, ha => by rw [h.2] at ha; cases ha
  | o :: os, vs, L, n, h, a, ha => by
    obtain ⟨v, r, L1, L2, e1, e2, e3, rfl⟩ := h
    have n' : o.noIns = true ∧ O.noInss os = true := by simpa [O.noInss] using n
    rcases List.mem_append.mp ha with ha | ha
    · exact RepO.isLD n'.1 e2 a ha
    · exact RepOs.isLD n'.2 e3 a ha
end
theorem ArgRep.uniq {i : Nat} {p : List Step} {v0 v w : V} (h : ArgRep c F H σ (.ref i p) w) (h1 : σ[i]? = some (some v0)) (h2 : VAt c H v0 p v) : w = v := by
  obtain ⟨v1, e1, e2⟩ := h
  rw [h1] at e1
  cases e1
  exact e2.uniq h2
/-- the looks of what is held fast stand in what is frozen then -/
theorem Cfg.freezes : ∀ {as : List Arg} {vs : List V} {F : Hp} {env : Env} {L : List Addr} {ds : List D} {l : Bool}, Cfg c F H σ env L → freezes as env = some (ds, l, env') → ArgsRep c F H σ as vs →
    ∃ M L', Frz c F H σ L M env' L' ∧ Reps c (addF F H M) ds vs ∧ (l = true → ∀ a ∈ M, ∃ u, H a = some u ∧ isLD u)
  | [], vs, F, env, L, ds, l, g, h, r => by
    simp only [T.freezes, Option.some.injEq, Prod.mk.injEq] at h
    obtain ⟨rfl, rfl, rfl⟩ := h
    exact ⟨[], L, .refl g, r, fun _ a ha => by cases ha⟩
  | .val d :: as, vs, F, env, L, ds, l, g, h, r => by
    obtain ⟨v, r, rfl, r1, r2⟩ := r
    unfold T.freezes at h
    cases q : T.freezes as env with
    | none => rw [q] at h; cases h
    | some y =>
      obtain ⟨ds', l', env1⟩ := y
      rw [q] at h
      cases h
      obtain ⟨M, L', z, z2, z3⟩ := Cfg.freezes g q r2
      exact ⟨M, L', z, ⟨v, r, rfl, Rep.mono (z.after g).fs r1, z2⟩, z3⟩
  | .ref i p :: as, vs, F, env, L, ds, l, g, h, r => by
    obtain ⟨v, r, rfl, r1, r2⟩ := r
    unfold T.freezes at h
    cases q : env.freeze i p with
    | none => rw [q] at h; cases h
    | some y =>
      obtain ⟨d, env1⟩ := y
      rw [q] at h
      dsimp only at h
      cases q2 : T.freezes as env1 with
      | none => rw [q2] at h; cases h
      | some y =>
        obtain ⟨ds', l', env2⟩ := y
        rw [q2] at h
        cases h
        obtain ⟨M, L1, v0, v', o, z, h1, h2, h3, h4, rfl, h5⟩ := g.freeze q
        obtain rfl := r1.uniq h1 h2
        obtain ⟨M', L', z', z2, z3⟩ := Cfg.freezes z.cfg q2 (r2.mono (z.after g).fs)
        have zz := z.trans z'
        refine ⟨M ++ M', L', zz, ⟨v, r, rfl, ?_, ?_⟩, fun hl a ha => ?_⟩
        · rw [← addF_addF]
          exact Rep.mono (z'.after z.cfg).fs h3
        · rw [← addF_addF]
          exact z2
        · have hl' : env.loose i p = true ∧ l' = true := by simpa using hl
          rcases List.mem_append.mp ha with ha | ha
          · refine RepO.isLD ?_ h5 a ha
            have := hl'.1
            unfold Env.loose at this
            rw [h4] at this
            exact this
          · exact z3 hl'.2 a ha
/-- what an operation without effects makes: the known stands, new things come -/
structure Grow (F H F' H' : Hp) (Lv : List Addr) : Prop where
  fs : Ex F F'
  hs : Ex H H'
  fh : Ex F' H'
  fn : ∀ a, F' a ≠ none → F a ≠ none ∨ H a = none
  lv : ∀ a ∈ Lv, H a = none ∧ F' a = none
  nd : Lv.Nodup
theorem Grow.refl (e : Ex F H) : Grow F H F H [] := ⟨Ex.refl F, Ex.refl H, e, fun _ h => .inl h, fun _ h => absurd h (by simp), List.nodup_nil⟩
/-- the frame and a value beside it -/
structure Cfv (c : Cn) (F H : Hp) (σ : St) (env : Env) (L : List Addr) (o : O) (v : V) (Lv : List Addr) : Prop where
  cfg : Cfg c F H σ env L
  val : RepO c F H o v Lv
  nd : (L ++ Lv).Nodup
  ow : ∀ a ∈ Lv, F a = none
/-- behind such an operation upon arguments that were held fast: they may come back to their holder -/
theorem Frz.grow {M Lv : List Addr} {o : O} {v : V} {k : Bool} (g : Cfg c F H σ env L) (z : Frz c F H σ L M env' L') (ld : k = true → ∀ a ∈ M, ∃ u, H a = some u ∧ isLD u) (w : Grow (addF F H M) H F' H' Lv)
    (r : RepO c F' H' o v Lv) : ∃ F'' L'', After F H L F'' H' (L'' ++ Lv) ∧ Cfv c F'' H' σ (if o.free && k then env else env') L'' o v Lv := by
  by_cases hk : (o.free && k) = true
  · rw [if_pos hk]
    have hk' : o.free = true ∧ k = true := by simpa using hk
    let F'' : Hp := fun a => if a ∈ M then none else F' a
    have inM : ∀ a, a ∈ M → F'' a = none := fun a ha => if_pos ha
    have outM : ∀ a, a ∉ M → F'' a = F' a := fun a ha => if_neg ha
    have exF : Ex F F'' := fun a u e => by
      have hm : a ∉ M := fun m => by
        rw [g.ow a ((z.sub a).mpr (.inr m))] at e
        cases e
      rw [outM a hm]
      exact w.fs a u (by rw [addF_out hm]; exact e)
    have lvH : ∀ a ∈ Lv, a ∉ L := fun a ha m => g.rep.dom a m (w.lv a ha).1
    have cfg : Cfg c F'' H' σ env L := ⟨fun a u e => by
        by_cases m : a ∈ M
        · rw [inM a m] at e; cases e
        · rw [outM a m] at e
          exact w.fh a u e, RepE.mono exF (fun a _ u e => w.hs a u e) g.rep, g.nd, fun a ha => by
        by_cases m : a ∈ M
        · exact inM a m
        · rw [outM a m]
          cases e : F' a with
          | none => rfl
          | some u =>
            rcases w.fn a (by rw [e]; simp) with q | q
            · rw [addF_out m] at q
              exact absurd (g.ow a ha) q
            · exact absurd q (g.rep.dom a ha)⟩
    refine ⟨F'', L, ⟨exF, fun a u e _ => w.hs a u e, fun a h => ?_, fun a ha => ?_, fun a ha => ?_⟩, cfg, ?_, ?_, fun a ha => ?_⟩
    · cases e : H a with
      | none => exact absurd e h
      | some u => rw [w.hs a u e]; simp
    · rcases List.mem_append.mp ha with q | q
      · exact .inl q
      · exact .inr (w.lv a q).1
    · by_cases m : a ∈ M
      · exact .inr (.inl ((z.sub a).mpr (.inr m)))
      · rw [outM a m] at ha
        rcases w.fn a ha with q | q
        · rw [addF_out m] at q
          exact .inl q
        · exact .inr (.inr q)
    · refine RepO.thaw (fun a u e => ?_) hk'.1 r
      by_cases m : a ∈ M
      · right
        obtain ⟨u', e1, e2⟩ := ld hk'.2 a m
        have e3 := w.fs a u' (by rw [addF_in m]; exact e1)
        rw [e] at e3
        cases e3
        exact e2
      · left
        rw [outM a m]
        exact e
    · exact List.nodup_append.mpr ⟨g.nd, w.nd, fun a ha b hb e => lvH b hb (e ▸ ha)⟩
    · by_cases m : a ∈ M
      · exact inM a m
      · rw [outM a m]
        exact (w.lv a ha).2
  · rw [if_neg hk]
    have lvH : ∀ a ∈ Lv, a ∉ L' := fun a ha m => z.cfg.rep.dom a m (w.lv a ha).1
    have cfg : Cfg c F' H' σ env' L' := ⟨w.fh, RepE.mono w.fs (fun a _ u e => w.hs a u e) z.cfg.rep, z.cfg.nd, fun a ha => by
        cases e : F' a with
        | none => rfl
        | some u =>
          rcases w.fn a (by rw [e]; simp) with q | q
          · exact absurd (z.cfg.ow a ha) q
          · exact absurd q (z.cfg.rep.dom a ha)⟩
    refine ⟨F', L', ⟨(z.after g).fs.trans w.fs, fun a u e _ => w.hs a u e, fun a h => ?_, fun a ha => ?_, fun a ha => ?_⟩, cfg, r, ?_, fun a ha => (w.lv a ha).2⟩
    · cases e : H a with
      | none => exact absurd e h
      | some u => rw [w.hs a u e]; simp
    · rcases List.mem_append.mp ha with q | q
      · exact .inl ((z.sub a).mpr (.inl q))
      · exact .inr (w.lv a q).1
    · rcases w.fn a ha with q | q
      · exact (z.after g).fn a q
      · exact .inr (.inr q)
    · exact List.nodup_append.mpr ⟨z.cfg.nd, w.nd, fun a ha b hb e => lvH b hb (e ▸ ha)⟩
end T
namespace T
open PySem L2
def T0 (X : Cx) (e : Expr) : TE := fun σ H Q => ∀ (pins : List (Addr × Obj)) (s : Shared), Inv X pins σ H s → wpAny (model X.prog X.w) X.A (eval e X.env) (EP X pins σ Q) X.xe s
theorem pe0 {X : Cx} {e : Expr} : PE X e (T0 X e) := ⟨fun pins s _ _ _ I h => h pins s I⟩
theorem T0.of {X : Cx} {e : Expr} {t : TE} (h : PE X e t) {σ : St} {H : Hp} {Q : VK} (q : t σ H Q) : T0 X e σ H Q := fun pins s I => h.run pins s σ H Q I q
theorem T0.mono {X : Cx} {e : Expr} {σ : St} {H : Hp} {Q Q' : VK} (h : T0 X e σ H Q) (k : ∀ v H', Q v H' → Q' v H') : T0 X e σ H Q' := fun pins s I =>
  wpAny_mono (h pins s I) (fun u s' ⟨v, H', I', r, q⟩ => ⟨v, H', I', r, k v H' q⟩) fun _ _ h => h
def T0A (X : Cx) (es : List Expr) : TA := fun σ H Q => ∀ (pos : Pos) (pins : List (Addr × Obj)) (s : Shared), Inv X pins σ H s → wpAny (model X.prog X.w) X.A (spliced (backTo pos (starEach es X.env))) (AP X pins σ Q) X.xe s
theorem pa0 {X : Cx} {es : List Expr} : PA X es (T0A X es) := ⟨fun pos pins s _ _ _ I h => h pos pins s I⟩
theorem T0A.of {X : Cx} {es : List Expr} {t : TA} (h : PA X es t) {σ : St} {H : Hp} {Q : List V → Hp → Prop} (q : t σ H Q) : T0A X es σ H Q := fun pos pins s I => h.run pos pins s σ H Q I q
theorem T0A.mono {X : Cx} {es : List Expr} {σ : St} {H : Hp} {Q Q' : List V → Hp → Prop} (h : T0A X es σ H Q) (k : ∀ v H', Q v H' → Q' v H') : T0A X es σ H Q' := fun pos pins s I =>
  wpAny_mono (h pos pins s I) (fun u s' ⟨v, H', I', r, q⟩ => ⟨v, H', I', r, k v H' q⟩) fun _ _ h => h
def T0T (X : Cx) (e : Expr) : TT := fun σ H Q => ∀ (pins : List (Addr × Obj)) (s : Shared), Inv X pins σ H s → wpAny (model X.prog X.w) X.A (isTrue e X.env (eval e X.env)) (TP X pins σ Q) X.xe s
theorem pt0 {X : Cx} {e : Expr} : PT X e (T0T X e) := ⟨fun pins s _ _ _ I h => h pins s I⟩
theorem T0T.of {X : Cx} {e : Expr} {t : TT} (h : PT X e t) {σ : St} {H : Hp} {Q : Bool → Hp → Prop} (q : t σ H Q) : T0T X e σ H Q := fun pins s I => h.run pins s σ H Q I q
def T0S (X : Cx) (st : Stmt) : TS := fun D σ H => ∀ (pins : List (Addr × Obj)) (s : Shared), Inv X pins σ H s → wpAny (model X.prog X.w) X.A (PySem.exec st X.env) (SP X pins D) X.xe s
theorem ps0 {X : Cx} {st : Stmt} : PS X st (T0S X st) := ⟨fun pins s _ _ _ I h => h pins s I⟩
theorem T0S.of {X : Cx} {st : Stmt} {t : TS} (h : PS X st t) {σ : St} {H : Hp} {D : Ends} (q : t D σ H) : T0S X st D σ H := fun pins s I => h.run pins s σ H D I q
def T0Ss (X : Cx) (st : List Stmt) : TS := fun D σ H => ∀ (pins : List (Addr × Obj)) (s : Shared), Inv X pins σ H s → wpAny (model X.prog X.w) X.A (PySem.execs st X.env) (SP X pins D) X.xe s
theorem pss0 {X : Cx} {st : List Stmt} : PSs X st (T0Ss X st) := ⟨fun pins s _ _ _ I h => h pins s I⟩
theorem T0Ss.of {X : Cx} {st : List Stmt} {t : TS} (h : PSs X st t) {σ : St} {H : Hp} {D : Ends} (q : t D σ H) : T0Ss X st D σ H := fun pins s I => h.run pins s σ H D I q
structure Sy where
  gn : List Str
  /-- the defs: the global name, if they have one -/
  fn : List (Option Str)
  cl : List Str
  mt : List Str
  fd : List Str
structure Pg where
  P : Program
  w : World
  mg : Str → Option Value
  base : Heap
  c : Cn
  y : Sy
  /-- the defs: where they lie, how they bind -/
  fa : Nat → Addr
  fd : Nat → FuncData
  ps : Nat → List Str
/-- a class of the program's own -/
structure ClsK (K : PySem.W.Frag) (C : Addr) : Prop where
  cls : Cls K C
  ha : PySem.W.findIn K (.ref C) "__class__" = some (some (.builtin "object.__class__"))
  hn : PySem.W.specialIn K (.builtin "object.__class__") "__get__" = some (some (.builtin "getset_descriptor.__get__"))
  ht : PySem.W.takesIn K (.builtin "object.__class__") = some true
  hm : PySem.W.mroIn K C (.type "object") = some true
def tagV (c : Cn) : Tag → Value
  | .non => .type "NoneType"
  | .bool => .type "bool"
  | .int => .type "int"
  | .str => .type "str"
  | .tup => .type "tuple"
  | .lst => .type "list"
  | .dct => .type "dict"
  | .cls k => .ref (c.CA k)
def tyV (c : Cn) : Ty → Value
  | .int => .type "int"
  | .bool => .type "bool"
  | .str => .type "str"
  | .tup => .type "tuple"
  | .lst => .type "list"
  | .dct => .type "dict"
  | .cls k => .ref (c.CA k)
def bltNames : List Str := ["len", "abs", "max", "min", "int", "tuple", "list", "range", "sorted", "sum", "all", "any", "isinstance", "zip", "enumerate", "reversed", "str", "bool", "dict", "set", "divmod", "ord"]
/-- the heap behind an error's __init__: its fields, the last one ahead -/
def exH (c : Cn) (H : Hp) (a dx : Addr) (k : Nat) (fs : List (Str × V)) : Hp := upd (upd H dx (exd dx fs)) a (exo a (c.CA k) (some dx))
/-- names and values, the last ahead -/
def revF (c : Cn) : List Nat → List V → List (Str × V) → List (Str × V)
  | f :: ns, v :: vs, acc => revF c ns vs ((c.FN f, v) :: acc)
  | _, _, acc => acc
/-- what the __init__ of an error's class promises -/
def spX (c : Cn) (k : Nat) (ns : List Nat) : Sp := fun vs H Q _ => ∃ a us, vs = .ref a :: us ∧ us.length = ns.length ∧ H a = some (exo a (c.CA k) none) ∧ ∀ dx, H dx = none → dx ≠ a → Q .non (exH c H a dx k (revF c ns us []))
/-- an error's class -/
structure ExK (p : Pg) (k : Nat) (ns : List Nat) : Prop where
  oex : OexC p.c.K (p.c.CA k)
  ne : ns ≠ []
  nd : ns.Nodup
  ini : ∃ fI fd ps, PySem.W.findIn p.c.K (.ref (p.c.CA k)) "__init__" = some (some (.ref fI)) ∧ PySem.W.typeIn p.c.K (.ref fI) = some (.type "function") ∧ Binds p.c.K fd ps [] ∧
    FnOk p.P p.w p.c.K p.mg p.base (L2N.CX p.P p.w) 1 fI fd ps (spX p.c k ns)
structure Top (p : Pg) (C : Ctx) : Prop where
  glb : ∀ g x d, p.y.gn[g]? = some x → C.G g = some d → ∃ u v, p.mg x = some u ∧ RelV v u ∧ ∀ F, Rep p.c F d v
  blt : ∀ x ∈ bltNames, p.mg x = none
  fld : ∀ k f, C.fld k f = true → Cls p.c.K (p.c.CA k) ∧ NoAttr p.c.K (p.c.CA k) (p.c.FN f)
  kn : ∀ k b, C.sub k k = some b → ClsK p.c.K (p.c.CA k)
  kit : ∀ t ty b, tagIs C.sub t ty = some b → PySem.W.kitOne p.c.K (tagV p.c t) (tyV p.c ty) = some b
  cln : ∀ (k : Nat) x, p.y.cl[k]? = some x → p.mg x = some (.ref (p.c.CA k))
  fdn : ∀ (f : Nat) x, p.y.fd[f]? = some x → p.c.FN f = x
  fna : ∀ (f : Nat) x, p.y.fn[f]? = some (some x) → p.mg x = some (.ref (p.fa f)) ∧ PySem.W.keepIn p.c.K (.ref (p.fa f)) = true ∧ Binds p.c.K (p.fd f) (p.ps f) []
  mka : ∀ k f, C.ini k = some f → Mk p.c.K (p.c.CA k) (p.fa f) ∧ Binds p.c.K (p.fd f) (p.ps f) []
  exk : ∀ k ns, C.exf k = some ns → ExK p k ns
  exm : ∀ k k' b, C.exs k k' = some b → PySem.W.exmOne p.c.K (.ref (p.c.CA k)) (.ref (p.c.CA k')) = some b
  rfl' : ∀ k k' b, C.sub k k' = some b → ∃ b', C.sub k k = some b'
/-- where a body runs -/
structure Good (p : Pg) (n : Nat) (NN : List Str) (sc : Scope) (W : WX) (X : Cx) : Prop where
  prog : X.prog = p.P
  w : X.w = p.w
  K : X.K = p.c.K
  mg : X.mg = p.mg
  base : X.base = p.base
  N : X.N = NN
  nd : NN.Nodup
  sc : X.env.scope = sc
  calm : X.calm = true
  room : Room (3 * n + 2) X.A
  pass : PassesOwn (model X.prog X.w) X.A X.env X.xe
  takes : L2N.Takes X W
def isK (sc : Scope) (x : Str) : Bool := match sc.names.lookup x with
  | some .local => true
  | some .cell => true
  | some .free => true
  | _ => false
def okVar (N : List Str) (sc : Scope) (i : Nat) (x : Str) : Bool := N[i]? == some x && isK sc x && !(x == ("__debug__" : Str)) && !(x == ("__classdict__" : Str))
def okGl (sc : Scope) (x : Str) : Bool := sc.names.lookup x == some .globalImplicit && !(x == ("__debug__" : Str)) && !(x == ("__name__" : Str))
def okCon : D → Const → Bool
  | .non, .none => true
  | .bl b, .bool b' => b == b'
  | .int i, .int j => decide (i = j)
  | .str s, .str t => s == t
  | _, _ => false
def okR (y : Sy) (N : List Str) (sc : Scope) : R → Expr → Bool
  | .var i, .Name x _ => okVar N sc i x
  | .con d, .Constant k _ _ => okCon d k
  | .glb g, .Name x _ => y.gn[g]? == some x && okGl sc x
  | .idx a b, .Subscript ea eb _ => okR y N sc a ea && okR y N sc b eb
  | .att a f, .Attribute ea x _ => okR y N sc a ea && y.fd[f]? == some x
  | _, _ => false
/-- neither a star, nor a slice, nor super() -/
def plainE : Expr → Bool
  | .Starred _ _ => false
  | .Slice _ _ _ _ => false
  | .Call (.Name _ _) [] [] _ => false
  | .Set _ _ _ => false
  | _ => true
theorem plain_ix {b : Expr} (h : plainE b = true) : PlainIx b := by
  intro o i
  cases b <;> first
    | rfl
    | (simp [plainE] at h)
theorem plain_att {e : Expr} (h : plainE e = true) (f : Str) (env : PySem.Env) (w : Sem Value) : attributeBase e f env w = w := by
  cases e <;> first
    | rfl
    | skip
  rename_i func args kw pos
  cases func <;> first
    | rfl
    | skip
  cases args <;> first
    | rfl
    | skip
  cases kw <;> first
    | rfl
    | (simp [plainE] at h)
theorem plain_star {e : Expr} {es : List Expr} {env : PySem.Env} (h : plainE e = true) : starEach (e :: es) env = (false, eval e env) :: starEach es env := by
  cases e <;> first
    | rfl
    | (simp [plainE] at h)
theorem okR_plain {y : Sy} {N : List Str} {sc : Scope} : ∀ {r : R} {e : Expr}, okR y N sc r e = true → plainE e = true := by
  intro r e h
  cases r <;> cases e <;> first
    | rfl
    | (simp [okR] at h)
theorem beq_opt {α : Type} [DecidableEq α] {a b : Option α} (h : (a == b) = true) : a = b := by simpa using h
theorem isK_vis {sc : Scope} {x : Str} (h : isK sc x = true) : Vis sc x := by
  unfold isK at h
  unfold Vis
  cases q : sc.names.lookup x with
  | none => rw [q] at h; cases h
  | some k =>
    rw [q] at h
    cases k <;> first
      | (cases h; done)
      | simp
section
variable {p : Pg} {C : Ctx} {n : Nat} {N : List Str} {sc : Scope} {W : WX} {X : Cx} {F H : Hp} {σ : St} {env : Env} {L : List Addr}
theorem Good.var (G : Good p n N sc W X) {i : Nat} {x : Str} {pos : Pos} (h : okVar N sc i x = true) : PE X (.Name x pos) (tVar i) := by
  unfold okVar at h
  simp only [Bool.and_eq_true, Bool.not_eq_true'] at h
  obtain ⟨⟨⟨h1, h2⟩, h3⟩, h4⟩ := h
  exact pe_var (by rw [G.N]; exact beq_opt h1) (by rw [G.sc]; exact isK_vis h2) h3 h4
theorem Good.gl (G : Good p n N sc W X) {x : Str} (h : okGl sc x = true) : Gl X x ∧ (x == ("__debug__" : Str)) = false ∧ x ≠ "__name__" := by
  unfold okGl at h
  simp only [Bool.and_eq_true, Bool.not_eq_true'] at h
  obtain ⟨⟨h1, h3⟩, h4⟩ := h
  refine ⟨?_, h3, by simpa using h4⟩
  show X.env.scope.names.lookup x = _
  rw [G.sc]
  exact beq_opt h1
theorem atI_rep {c : Cn} {ds : List D} {vs : List V} {i : Int} {d : D} (h : Reps c F ds vs) (e : atI ds i = some d) : ∃ v, atI vs i = some v ∧ Rep c F d v := by
  unfold atI at e ⊢
  rw [h.length]
  cases q : ixN ds.length i with
  | none => rw [q] at e; cases e
  | some n =>
    rw [q] at e
    exact h.get (n := n) e
theorem keyOf_v {c : Cn} {d : D} {k : Key} {v : V} (h : keyOf d = some k) (r : Rep c F d v) : v = kV k := by
  cases d <;> simp only [keyOf, reduceCtorEq, Option.some.injEq] at h
  · subst h; exact r
  · subst h; exact r
theorem keq_key {d e : D} {k k' : Key} (h : keyOf d = some k) (h' : keyOf e = some k') : d.keq e = decide (k = k') := by
  cases d <;> simp only [keyOf, reduceCtorEq, Option.some.injEq] at h <;> cases e <;> simp only [keyOf, reduceCtorEq, Option.some.injEq] at h' <;> subst h <;> subst h' <;> simp [D.keq]
theorem keq_keyOf {d e : D} {k : Key} (h : keyOf d = some k) (q : d.keq e = true) : ∃ k', keyOf e = some k' := by
  cases d <;> simp only [keyOf, reduceCtorEq, Option.some.injEq] at h <;> cases e <;> simp [D.keq] at q <;> exact ⟨_, rfl⟩
/-- a dict's look-up -/
theorem lkD_val {α : Type} : ∀ {ks : List D} {os : List α} {kk : List Key} {x : D} {o : α}, keysOf ks = some kk → ks.length = os.length → lkD ks os x = some o → ∃ (k : Key) (n : Nat), keyOf x = some k ∧ os[n]? = some o ∧
    ∀ kvs : List (Key × V), kvs.map (·.1) = kk → (kvs.map (·.2))[n]? = valV kvs k
  | [], os, _, x, o, _, _, h => by simp [lkD] at h
  | d :: ks, [], _, x, o, _, hl, h => by simp at hl
  | d :: ks, a :: os, kk, x, o, hk, hl, h => by
    unfold keysOf at hk
    cases q1 : keyOf d with
    | none => rw [q1] at hk; cases hk
    | some k1 =>
      cases q2 : keysOf ks with
      | none => rw [q1, q2] at hk; cases hk
      | some kk' =>
        rw [q1, q2] at hk
        cases hk
        unfold lkD at h
        by_cases e : d.keq x = true
        · rw [if_pos e] at h
          cases h
          obtain ⟨k, hx⟩ := keq_keyOf q1 e
          have ek : k1 = k := by
            rw [keq_key q1 hx] at e
            exact of_decide_eq_true e
          subst ek
          refine ⟨k1, 0, hx, rfl, fun kvs hm => ?_⟩
          cases kvs with
          | nil => simp at hm
          | cons kv kvs =>
            obtain ⟨k2, v2⟩ := kv
            simp only [List.map_cons, List.cons.injEq] at hm
            obtain ⟨rfl, _⟩ := hm
            simp [valV]
        · rw [if_neg e] at h
          obtain ⟨k, n, h1, h2, h3⟩ := lkD_val q2 (by simpa using hl) h
          refine ⟨k, n + 1, h1, by simpa using h2, fun kvs hm => ?_⟩
          cases kvs with
          | nil => simp at hm
          | cons kv kvs =>
            obtain ⟨k2, v2⟩ := kv
            simp only [List.map_cons, List.cons.injEq] at hm
            obtain ⟨rfl, hm⟩ := hm
            have ne : ¬ k2 = k := fun z => e (by rw [keq_key q1 h1]; simpa using z)
            have := h3 kvs hm
            simp only [List.map_cons, List.getElem?_cons_succ, this]
            simp [valV, ne]
theorem Good.units (G : Good p n N sc W X) : X.A.units + 64 < cLine := G.room.units
end
section
variable {p : Pg} {C : Ctx} {n : Nat} {N : List Str} {sc : Scope} {W : WX} {X : Cx} {F H : Hp} {σ : St} {env : Env} {L : List Addr}
/-- an item of what is frozen -/
theorem idx_rep (G : Good p n N sc W X) (ex : Ex F H) {d k x : D} (e : d.idx k = some x) {ea eb : Expr} {pos : Pos} (pl : plainE eb = true) {Q : VK}
    (h : T0 X ea σ H fun v H1 => Rep p.c F d v ∧ T0 X eb σ H1 fun w H2 => Rep p.c F k w ∧ Ex F H2 ∧ ∀ z, Rep p.c F x z → Q z H2) : T0 X (.Subscript ea eb pos) σ H Q := by
  have hu := G.units
  cases d with
  | lst ds =>
    cases k <;> simp only [D.idx, reduceCtorEq] at e
    rename_i i
    refine T0.of (pe_ix ix_list pe0 pe0 (plain_ix pl)) (h.mono fun v H1 ⟨hv, h2⟩ => h2.mono fun w H2 ⟨hw, ex2, q⟩ => ?_)
    obtain ⟨a, vs, rfl, h3, h4⟩ := hv
    obtain ⟨z, z1, z2⟩ := atI_rep h4 e
    exact ⟨a, vs, i, z, rfl, hw, by rw [G.K]; exact ex_l ex2 h3, z1, q z z2⟩
  | tup ds =>
    cases k <;> simp only [D.idx, reduceCtorEq] at e
    rename_i i
    refine T0.of (pe_ix ix_tup pe0 pe0 (plain_ix pl)) (h.mono fun v H1 ⟨hv, h2⟩ => h2.mono fun w H2 ⟨hw, ex2, q⟩ => ?_)
    obtain ⟨a, vs, rfl, h3, h4⟩ := hv
    obtain ⟨z, z1, z2⟩ := atI_rep h4 e
    exact ⟨a, vs, i, z, rfl, hw, by rw [G.K]; exact ex_t ex2 h3, z1, q z z2⟩
  | str s =>
    cases k <;> simp only [D.idx, reduceCtorEq] at e
    rename_i i
    by_cases hl : lenOk s.length = true
    · rw [if_pos hl] at e
      cases q0 : atI s.cps.toList i with
      | none => rw [q0] at e; cases e
      | some cc =>
        rw [q0] at e
        cases e
        refine T0.of (pe_ix ix_str pe0 pe0 (plain_ix pl)) (h.mono fun v H1 ⟨hv, h2⟩ => h2.mono fun w H2 ⟨hw, ex2, q⟩ => ?_)
        exact ⟨s, i, cc, hv, hw, by rw [sizeLine_eq]; exact of_decide_eq_true hl, q0, q _ rfl⟩
    · rw [if_neg hl] at e
      cases e
  | dct b ks ds =>
    cases b with
    | true => simp [D.idx] at e
    | false =>
      have e' : lkD ks ds k = some x := by simpa [D.idx] using e
      refine T0.of (pe_dget (by omega) pe0 pe0 (plain_ix pl)) (h.mono fun v H1 ⟨hv, h2⟩ => h2.mono fun w H2 ⟨hw, ex2, q⟩ => ?_)
      obtain ⟨a, kvs, rfl, h3, h4, h5⟩ := hv
      have hl : ks.length = ds.length := by
        have l1 : ∀ {ks : List D} {kk : List Key}, keysOf ks = some kk → ks.length = kk.length := by
          intro ks
          induction ks with
          | nil => intro kk h; cases h; rfl
          | cons d ks ih =>
            intro kk h
            unfold keysOf at h
            cases q1 : keyOf d <;> rw [q1] at h
            · cases h
            · cases q2 : keysOf ks <;> rw [q2] at h
              · cases h
              · cases h
                rw [List.length_cons, List.length_cons, ih q2]
        rw [l1 h4, List.length_map, ← h5.length, List.length_map]
      obtain ⟨kk, m, k1, k2, k3⟩ := lkD_val h4 hl e'
      obtain ⟨z, z1, z2⟩ := h5.get k2
      have kw := keyOf_v k1 hw
      subst kw
      refine ⟨a, z, rfl, ?_, q z z2⟩
      have g := DGet.k (k := kk) (ex2 _ _ h3)
      rw [← k3 kvs rfl, z1] at g
      exact g
  | non => simp [D.idx] at e
  | bl _ => simp [D.idx] at e
  | int _ => simp [D.idx] at e
  | ins _ _ _ => simp [D.idx] at e
  | exc _ _ _ => simp [D.idx] at e
theorem att_rep (G : Good p n N sc W X) (T : Top p C) (ex : Ex F H) {d x : D} {f : Nat} (e : d.att C.fld f = some x) {ea : Expr} {fx : Str} {pos : Pos} (hf : p.y.fd[f]? = some fx) (pl : plainE ea = true) {Q : VK}
    (h : T0 X ea σ H fun v H1 => Rep p.c F d v ∧ Ex F H1 ∧ ∀ z, Rep p.c F x z → Q z H1) : T0 X (.Attribute ea fx pos) σ H Q := by
  have hfx := T.fdn f fx hf
  subst hfx
  cases d with
  | ins k ns ds =>
    have e' : (if C.fld k f then lkp ns ds f else none) = some x := e
    by_cases hc : C.fld k f = true
    · rw [if_pos hc] at e'
      refine T0.of (pe_fld pe0 (plain_att pl _ _ _)) (h.mono fun v H1 ⟨hv, ex2, q⟩ => ?_)
      obtain ⟨a, dx, fs, rfl, h3, h4, h5⟩ := hv
      obtain ⟨m, m1, m2, m3, _⟩ := lkp_ix e'
      obtain ⟨z, z1, z2⟩ := h5.get m2
      exact ⟨a, _, dx, fs, z, rfl, ex2 _ _ h3, by rw [G.K]; exact (T.fld k f hc).1, by rw [G.K]; exact (T.fld k f hc).2, names_at h4 m1 z1 m3, q z z2⟩
    · rw [if_neg hc] at e'
      cases e'
  | exc _ _ _ => simp [D.att] at e
  | non => simp [D.att] at e
  | bl _ => simp [D.att] at e
  | int _ => simp [D.att] at e
  | str _ => simp [D.att] at e
  | tup _ => simp [D.att] at e
  | lst _ => simp [D.att] at e
  | dct _ _ _ => simp [D.att] at e
theorem con_rep {d : D} {k : Const} {j : Nat} {pos : Pos} {c : Cn} (h : okCon d k = true) {Q : VK} (q : ∀ v, Rep c F d v → Q v H) : T0 X (.Constant k j pos) σ H Q := by
  cases d <;> cases k <;> simp only [okCon, Bool.false_eq_true] at h
  · exact T0.of pe_non (q _ rfl)
  · have e := beq_iff_eq.mp h
    subst e
    exact T0.of pe_bl (q _ rfl)
  · have e := of_decide_eq_true h
    subst e
    exact T0.of pe_int (q _ rfl)
  · rename_i s1 s2
    have e : s1 = s2 := by simpa using h
    subst e
    exact T0.of pe_str (q _ rfl)
/-- what is at a place of a frame -/
theorem Cfg.arg {c : Cn} (g : Cfg c F H σ env L) {i : Nat} {p : List Step} {o : O} {v0 v : V} (h1 : σ[i]? = some (some v0)) (h2 : VAt c H v0 p v) {M : List Addr} (h3 : RepO c F H o v M) : ArgRep c F H σ (argAt i p o) v := by
  cases o <;> first
    | exact h3.1
    | exact ⟨v0, h1, h2⟩
theorem soundR (T : Top p C) (G : Good p n N sc W X) (g : Cfg p.c F H σ env L) : ∀ {r : R} {e : Expr} {a : Arg} {Q : VK}, okR p.y N sc r e = true → evalR C env r = some a → (∀ v, ArgRep p.c F H σ a v → Q v H) → T0 X e σ H Q
  | .var i, e, a, Q, ok, ev, q => by
    cases e <;> simp only [okR, Bool.false_eq_true] at ok
    rename_i x pos
    refine T0.of (G.var ok) ?_
    unfold evalR at ev
    cases h : env[i]? with
    | none => rw [h] at ev; cases ev
    | some s =>
      cases s with
      | none => rw [h] at ev; cases ev
      | some o =>
        rw [h] at ev
        cases ev
        obtain ⟨x, A, L1, B, h1, _, ⟨v, rfl, h3⟩, _⟩ := g.rep.at h
        exact ⟨v, h1, q v (g.arg h1 (.nil v) h3)⟩
  | .con d, e, a, Q, ok, ev, q => by
    cases e <;> simp only [okR, Bool.false_eq_true] at ok
    cases ev
    exact con_rep ok q
  | .glb k, e, a, Q, ok, ev, q => by
    cases e <;> simp only [okR, Bool.false_eq_true] at ok
    rename_i x pos
    simp only [Bool.and_eq_true] at ok
    unfold evalR at ev
    cases h : C.G k with
    | none => rw [h] at ev; cases ev
    | some d =>
      rw [h] at ev
      cases ev
      obtain ⟨u, v, h1, h2, h3⟩ := T.glb k x d (beq_opt ok.1) h
      obtain ⟨g1, g2, g3⟩ := G.gl ok.2
      exact T0.of (pe_glob g1 (by rw [G.mg]; exact h1) h2 g2) (q v (h3 F))
  | .idx ra rb, e, a, Q, ok, ev, q => by
    cases e <;> simp only [okR, Bool.false_eq_true] at ok
    rename_i ea eb pos
    simp only [Bool.and_eq_true] at ok
    have pl := okR_plain ok.2
    unfold evalR at ev
    cases ha : evalR C env ra with
    | none => rw [ha] at ev; simp at ev
    | some aa =>
      cases hb : evalR C env rb with
      | none =>
        rw [ha, hb] at ev
        cases aa <;> simp at ev
      | some ab =>
        rw [ha, hb] at ev
        cases ab with
        | ref i p' => cases aa <;> simp at ev
        | val k =>
          have ihb : ∀ {Q : VK}, (∀ v, Rep p.c F k v → Q v H) → T0 X eb σ H Q := fun {Q} q => soundR T G g ok.2 hb q
          cases aa with
          | val d =>
            dsimp only at ev
            cases hd : d.idx k with
            | none => rw [hd] at ev; cases ev
            | some x =>
              rw [hd] at ev
              cases ev
              refine idx_rep G g.ex hd pl ?_
              exact soundR T G g ok.1 ha fun v hv => ⟨hv, ihb fun w hw => ⟨hw, g.ex, fun z hz => q z hz⟩⟩
          | ref i pp =>
            dsimp only at ev
            cases ho : env.at i pp with
            | none => rw [ho] at ev; cases ev
            | some o =>
              rw [ho] at ev
              obtain ⟨v0, v, A, L1, B, h1, h2, _, h4, _⟩ := g.at ho
              cases o with
              | pure d =>
                exact (by simp [O.idx] at ev : False).elim
              | ins k1 ns vs =>
                exact (by simp [O.idx] at ev : False).elim
              | dct bb ks os =>
                cases bb with
                | true => exact (by simp [O.idx] at ev : False).elim
                | false =>
                  dsimp only at ev
                  cases hl : lkD ks os k with
                  | none => rw [hl] at ev; cases ev
                  | some o1 =>
                    rw [hl] at ev
                    cases o1 <;> simp only [reduceCtorEq, Option.some.injEq] at ev
                    rename_i d
                    subst ev
                    obtain ⟨a, kvs, L', rfl, e2, e3, e4, _⟩ := h4
                    have l1 : ∀ {ks : List D} {kk : List Key}, keysOf ks = some kk → ks.length = kk.length := by
                      intro ks
                      induction ks with
                      | nil => intro kk h; cases h; rfl
                      | cons d ks ih =>
                        intro kk h
                        unfold keysOf at h
                        cases q1 : keyOf d <;> rw [q1] at h
                        · cases h
                        · cases q2 : keysOf ks <;> rw [q2] at h
                          · cases h
                          · cases h
                            rw [List.length_cons, List.length_cons, ih q2]
                    obtain ⟨kk, m, k1, k2, k3⟩ := lkD_val e3 (by rw [l1 e3, List.length_map, ← e4.length, List.length_map]) hl
                    obtain ⟨z, _, M, _, z1, _, z2, _⟩ := e4.at k2
                    have hu := G.units
                    refine T0.of (pe_dget (by omega) pe0 pe0 (plain_ix pl)) (soundR T G g ok.1 ha fun v hv => ihb fun w hw => ?_)
                    obtain rfl := hv.uniq h1 h2
                    have kw := keyOf_v k1 hw
                    subst kw
                    refine ⟨a, z, rfl, ?_, q z z2.1⟩
                    have g := DGet.k (k := kk) e2
                    rw [← k3 kvs rfl, z1] at g
                    exact g
              | lst xs =>
                dsimp only at ev
                cases k <;> simp only [O.idx, reduceCtorEq] at ev
                rename_i j
                cases hn : ixN xs.length j with
                | none => rw [hn] at ev; cases ev
                | some m =>
                  rw [hn] at ev
                  dsimp only at ev
                  cases hx : xs[m]? with
                  | none => rw [hx] at ev; cases ev
                  | some o1 =>
                    rw [hx] at ev
                    cases ev
                    obtain ⟨a, vs, L', rfl, e2, e3, _⟩ := h4
                    obtain ⟨z, _, M, _, z1, _, z2, _⟩ := e3.at hx
                    refine T0.of (pe_ix ix_list pe0 pe0 (plain_ix pl)) (soundR T G g ok.1 ha fun v hv => ihb fun w hw => ?_)
                    obtain rfl := hv.uniq h1 h2
                    refine ⟨a, vs, j, z, rfl, hw, .of e2, ?_, q z (g.arg h1 (h2.snoc (.ix e2 z1 (.nil z))) z2)⟩
                    unfold atI
                    rw [e3.length, hn]
                    exact z1
  | .att ra f, e, a, Q, ok, ev, q => by
    cases e <;> simp only [okR, Bool.false_eq_true] at ok
    rename_i ea fx pos
    simp only [Bool.and_eq_true] at ok
    have pl := okR_plain ok.1
    unfold evalR at ev
    cases ha : evalR C env ra with
    | none => rw [ha] at ev; simp at ev
    | some aa =>
      rw [ha] at ev
      cases aa with
      | val d =>
        dsimp only at ev
        cases hd : d.att C.fld f with
        | none => rw [hd] at ev; cases ev
        | some x =>
          rw [hd] at ev
          cases ev
          exact att_rep G T g.ex hd (beq_opt ok.2) pl (soundR T G g ok.1 ha fun v hv => ⟨hv, g.ex, fun z hz => q z hz⟩)
      | ref i pp =>
        dsimp only at ev
        cases ho : env.at i pp with
        | none => rw [ho] at ev; cases ev
        | some o =>
          rw [ho] at ev
          obtain ⟨v0, v, A, L1, B, h1, h2, _, h4, _⟩ := g.at ho
          dsimp only at ev
          cases o <;> simp only [O.att, reduceCtorEq] at ev
          rename_i k ns os
          by_cases hc : C.fld k f = true
          · rw [if_pos hc] at ev
            cases hl : lkp ns os f with
            | none => rw [hl] at ev; cases ev
            | some o1 =>
              rw [hl] at ev
              cases ev
              have hfx := T.fdn f fx (beq_opt ok.2)
              subst hfx
              obtain ⟨a, dx, fs, L', rfl, e2, e3, e4, _⟩ := h4
              obtain ⟨m, m1, m2, m3, _⟩ := lkp_ix hl
              obtain ⟨z, _, M, _, z1, _, z2, _⟩ := e4.at m2
              refine T0.of (pe_fld pe0 (plain_att pl _ _ _)) (soundR T G g ok.1 ha fun v hv => ?_)
              obtain rfl := hv.uniq h1 h2
              have nm := names_at e3 m1 z1 m3
              exact ⟨a, _, dx, fs, z, rfl, e2, by rw [G.K]; exact (T.fld k f hc).1, by rw [G.K]; exact (T.fld k f hc).2, nm, q z (g.arg h1 (h2.snoc (.fld e2 nm (.nil z))) z2)⟩
          · rw [if_neg hc] at ev
            cases ev
end
end T
namespace T
open PySem L2
/-- expressions one behind the other -/
def T0L (X : Cx) : List Expr → L2.St → Hp → (List V → Hp → Prop) → Prop
  | [], _, H, Q => Q [] H
  | e :: es, σ, H, Q => T0 X e σ H fun v H1 => T0L X es σ H1 fun vs H2 => Q (v :: vs) H2
theorem T0L.mono {X : Cx} {σ : L2.St} : ∀ {es : List Expr} {H : Hp} {Q Q' : List V → Hp → Prop}, T0L X es σ H Q → (∀ vs H', Q vs H' → Q' vs H') → T0L X es σ H Q'
  | [], _, _, _, h, k => k _ _ h
  | e :: es, _, _, _, h, k => T0.mono h fun v H1 h1 => T0L.mono h1 fun vs H2 h2 => k _ _ h2
theorem T0L.args {X : Cx} {σ : L2.St} : ∀ {es : List Expr}, es.all plainE = true → ∀ {H : Hp} {Q : List V → Hp → Prop}, T0L X es σ H Q → T0A X es σ H Q
  | [], _, _, _, h => T0A.of pa_nil h
  | e :: es, pl, _, _, h => by
    have pl' : plainE e = true ∧ es.all plainE = true := by simpa using pl
    refine T0A.of (pa_cons pe0 pa0 (plain_star pl'.1)) (T0.mono h fun v H1 h1 => T0L.args pl'.2 h1)
/-- what is known of a value at once -/
def Kn : Arg → V → Prop
  | .val (.int i), v => v = .int i
  | _, _ => True
/-- expressions one behind the other, what is known of each -/
def T0K (X : Cx) : List Expr → List Arg → L2.St → Hp → (List V → Hp → Prop) → Prop
  | [], [], _, H, Q => Q [] H
  | e :: es, a :: as, σ, H, Q => T0 X e σ H fun v H1 => Kn a v ∧ T0K X es as σ H1 fun vs H2 => Q (v :: vs) H2
  | _, _, _, _, _ => False
theorem T0K.mono {X : Cx} {σ : L2.St} : ∀ {es : List Expr} {as : List Arg} {H : Hp} {Q Q' : List V → Hp → Prop}, T0K X es as σ H Q → (∀ vs H', Q vs H' → Q' vs H') → T0K X es as σ H Q'
  | [], [], _, _, _, h, k => k _ _ h
  | e :: es, a :: as, _, _, _, h, k => T0.mono h fun v H1 ⟨h0, h1⟩ => ⟨h0, T0K.mono h1 fun vs H2 h2 => k _ _ h2⟩
  | [], _ :: _, _, _, _, h, _ => False.elim h
  | _ :: _, [], _, _, _, h, _ => False.elim h
theorem T0K.toL {X : Cx} {σ : L2.St} : ∀ {es : List Expr} {as : List Arg} {H : Hp} {Q : List V → Hp → Prop}, T0K X es as σ H Q → T0L X es σ H Q
  | [], [], _, _, h => h
  | e :: es, a :: as, _, _, h => T0.mono h fun v H1 ⟨_, h1⟩ => T0K.toL h1
  | [], _ :: _, _, _, h => False.elim h
  | _ :: _, [], _, _, h => False.elim h
section
variable {p : Pg} {C : Ctx} {n : Nat} {N : List Str} {sc : Scope} {W : WX} {X : Cx} {F H : Hp} {σ : L2.St} {c : Cn} {Q : VK}
/-- where an operation without effects ends -/
def Fin (c : Cn) (o : O) (ds : List D) (Q : VK) (vs : List V) (H : Hp) : Prop := ∃ F, Ex F H ∧ Reps c F ds vs ∧ ∀ F' H' z Lv, Grow F H F' H' Lv → RepO c F' H' o z Lv → Q z H'
theorem Reps.nil_iff {c : Cn} {F : Hp} {vs : List V} (h : Reps c F [] vs) : vs = [] := h
theorem Fin.one {o : O} {x : D} {v : V} (h : Fin c o [x] Q [v] H) : ∃ F, Ex F H ∧ Rep c F x v ∧ ∀ F' H' z Lv, Grow F H F' H' Lv → RepO c F' H' o z Lv → Q z H' := by
  obtain ⟨F, e, ⟨v', r, q, h1, h2⟩, k⟩ := h
  cases q
  exact ⟨F, e, h1, k⟩
theorem Fin.two {o : O} {x y : D} {v w : V} (h : Fin c o [x, y] Q [v, w] H) : ∃ F, Ex F H ∧ Rep c F x v ∧ Rep c F y w ∧ ∀ F' H' z Lv, Grow F H F' H' Lv → RepO c F' H' o z Lv → Q z H' := by
  obtain ⟨F, e, ⟨v', r, q, h1, ⟨w', r', q', h2, h3⟩⟩, k⟩ := h
  cases q
  cases q'
  exact ⟨F, e, h1, h2, k⟩
theorem Fin.three {o : O} {x y z : D} {v w u : V} (h : Fin c o [x, y, z] Q [v, w, u] H) : ∃ F, Ex F H ∧ Rep c F x v ∧ Rep c F y w ∧ Rep c F z u ∧ ∀ F' H' z Lv, Grow F H F' H' Lv → RepO c F' H' o z Lv → Q z H' := by
  obtain ⟨F, e, ⟨v', r, q, h1, ⟨w', r', q', h2, ⟨u', r'', q'', h3, _⟩⟩⟩, k⟩ := h
  cases q
  cases q'
  cases q''
  exact ⟨F, e, h1, h2, h3, k⟩
/-- it gives what was there -/
theorem fin_old {d : D} (ex : Ex F H) (k : ∀ F' H' z Lv, Grow F H F' H' Lv → RepO c F' H' (.pure d) z Lv → Q z H') {z : V} (r : Rep c F d z) : Q z H := k F H z [] (.refl ex) ⟨r, rfl⟩
theorem ex_upd {o : HO} {a : Addr} (ex : Ex F H) : Ex (upd F a o) (upd H a o) := fun b u e => by
  by_cases q : b = a
  · subst q
    rwa [upd_same] at e ⊢
  · rw [upd_ne q] at e ⊢
    exact ex b u e
theorem free_of (ex : Ex F H) {a : Addr} (h : H a = none) : F a = none := by
  cases e : F a with
  | none => rfl
  | some u =>
    rw [ex a u e] at h
    cases h
/-- a new thing that nobody changes -/
theorem grow_new {o : HO} {a : Addr} (ex : Ex F H) (h : H a = none) : Grow F H (upd F a o) (upd H a o) [] := ⟨Ex.new (free_of ex h), Ex.new h, ex_upd ex, fun b hb => by
    by_cases q : b = a
    · subst q
      exact .inr h
    · rw [upd_ne q] at hb
      exact .inl hb, fun _ h => absurd h (by simp), List.nodup_nil⟩
/-- a new thing that its holder may change -/
theorem grow_own {o : HO} {a : Addr} (ex : Ex F H) (h : H a = none) : Grow F H F (upd H a o) [a] := ⟨Ex.refl F, Ex.new h, ex.trans (Ex.new h), fun b hb => .inl hb, fun b hb => by
    have e : b = a := by simpa using hb
    subst e
    exact ⟨h, free_of ex h⟩, by simp⟩
/-- what a new tuple is known by -/
def NewT (H : Hp) (Q : VK) (vs : List V) : Prop := ∀ a o, o.dict = none → o.cls = .type "tuple" → H a = none → Q (.ref a) (upd H a (.frz o (.tup vs)))
theorem fin_tup {ds : List D} {vs : List V} (ex : Ex F H) (k : ∀ F' H' z Lv, Grow F H F' H' Lv → RepO c F' H' (.pure (.tup ds)) z Lv → Q z H') (r : Reps c F ds vs) : NewT H Q vs := fun a o hd hc h =>
  k _ _ _ _ (grow_new ex h) ⟨⟨a, vs, rfl, .inl ⟨o, upd_same, hd, hc⟩, Reps.mono (Ex.new (free_of ex h)) r⟩, rfl⟩
theorem repOs_pure {H' : Hp} : ∀ {ds : List D} {vs : List V}, Reps c F ds vs → RepOs c F H' (ds.map .pure) vs []
  | [], _, h => ⟨h, rfl⟩
  | d :: ds, vs, h => by
    obtain ⟨v, r, rfl, h1, h2⟩ := h
    exact ⟨v, r, [], [], rfl, ⟨h1, rfl⟩, repOs_pure h2, rfl⟩
theorem fin_lst {ds : List D} {vs : List V} (ex : Ex F H) (k : ∀ F' H' z Lv, Grow F H F' H' Lv → RepO c F' H' (.lst (ds.map .pure)) z Lv → Q z H') (r : Reps c F ds vs) : ∀ a, H a = none → Q (.ref a) (upd H a (.lst vs)) := fun a h =>
  k _ _ _ _ (grow_own ex h) ⟨a, vs, [], rfl, upd_same, repOs_pure r, rfl⟩
theorem Reps.append {xs ys : List D} : ∀ {us vs : List V}, Reps c F xs us → Reps c F ys vs → Reps c F (xs ++ ys) (us ++ vs) := by
  induction xs with
  | nil =>
    intro us vs h h'
    rw [show us = [] from h]
    exact h'
  | cons x xs ih =>
    intro us vs h h'
    obtain ⟨v, r, rfl, h1, h2⟩ := h
    exact ⟨v, r ++ vs, rfl, h1, ih h2 h'⟩
theorem Reps.reverse {xs : List D} : ∀ {us : List V}, Reps c F xs us → Reps c F xs.reverse us.reverse := by
  induction xs with
  | nil =>
    intro us h
    rw [show us = [] from h]
    rfl
  | cons x xs ih =>
    intro us h
    obtain ⟨v, r, rfl, h1, h2⟩ := h
    rw [List.reverse_cons, List.reverse_cons]
    exact (ih h2).append ⟨v, [], rfl, h1, rfl⟩
theorem Reps.drop {xs : List D} : ∀ {us : List V} (n : Nat), Reps c F xs us → Reps c F (xs.drop n) (us.drop n) := by
  induction xs with
  | nil =>
    intro us n h
    rw [show us = [] from h]
    simp [Reps]
  | cons x xs ih =>
    intro us n h
    obtain ⟨v, r, rfl, h1, h2⟩ := h
    cases n with
    | zero => exact ⟨v, r, rfl, h1, h2⟩
    | succ n => exact ih n h2
theorem Reps.take {xs : List D} : ∀ {us : List V} (n : Nat), Reps c F xs us → Reps c F (xs.take n) (us.take n) := by
  induction xs with
  | nil =>
    intro us n h
    rw [show us = [] from h]
    simp [Reps]
  | cons x xs ih =>
    intro us n h
    obtain ⟨v, r, rfl, h1, h2⟩ := h
    cases n with
    | zero => rfl
    | succ n => exact ⟨v, _, rfl, h1, ih n h2⟩
theorem Reps.cut {xs : List D} {us : List V} (h : Reps c F xs us) (lo hi : Option Int) : Reps c F (T.cut xs lo hi) (cutV us lo hi) := by
  unfold T.cut cutV
  rw [h.length]
  exact (h.drop _).take _
/-- a list of ints -/
theorem Reps.ints : ∀ {xs : List D} {us : List V} {ns : List Int}, Reps c F xs us → intsOf xs = some ns → us = ns.map V.int ∧ xs = ns.map D.int
  | [], us, ns, h, e => by
    cases e
    exact ⟨h, rfl⟩
  | x :: xs, us, ns, h, e => by
    obtain ⟨v, r, rfl, h1, h2⟩ := h
    cases x <;> simp only [intsOf, reduceCtorEq] at e
    rename_i i
    cases q : intsOf xs with
    | none => rw [q] at e; cases e
    | some is =>
      rw [q] at e
      cases e
      obtain ⟨rfl, rfl⟩ := Reps.ints h2 q
      rw [show v = .int i from h1]
      exact ⟨rfl, rfl⟩
theorem Reps.bls : ∀ {xs : List D} {us : List V} {ns : List Bool}, Reps c F xs us → blsOf xs = some ns → us = ns.map V.bl ∧ xs = ns.map D.bl
  | [], us, ns, h, e => by
    cases e
    exact ⟨h, rfl⟩
  | x :: xs, us, ns, h, e => by
    obtain ⟨v, r, rfl, h1, h2⟩ := h
    cases x <;> simp only [blsOf, reduceCtorEq] at e
    rename_i i
    cases q : blsOf xs with
    | none => rw [q] at e; cases e
    | some is =>
      rw [q] at e
      cases e
      obtain ⟨rfl, rfl⟩ := Reps.bls h2 q
      rw [show v = .bl i from h1]
      exact ⟨rfl, rfl⟩
theorem reps_ints {ns : List Int} : Reps c F (ns.map D.int) (ns.map V.int) := by
  induction ns with
  | nil => rfl
  | cons n ns ih => exact ⟨_, _, rfl, rfl, ih⟩
/-- flat things -/
theorem flat_rep {d : D} {v : V} (h : d.flat = true) (r : Rep c F d v) : v = d.toV ∧ flatV v = true := by
  cases d <;> simp only [D.flat, Bool.false_eq_true] at h
  · exact ⟨r, by rw [show v = .non from r]; rfl⟩
  · rename_i b
    exact ⟨r, by rw [show v = .bl b from r]; rfl⟩
  · rename_i i
    exact ⟨r, by rw [show v = .int i from r]; rfl⟩
  · rename_i s
    exact ⟨r, by rw [show v = .str s from r]; rfl⟩
theorem flats_rep : ∀ {ds : List D} {vs : List V}, ds.all D.flat = true → Reps c F ds vs → vs = ds.map D.toV ∧ vs.all flatV = true
  | [], vs, _, r => by rw [show vs = [] from r]; exact ⟨rfl, rfl⟩
  | d :: ds, vs, h, r => by
    obtain ⟨v, r, rfl, r1, r2⟩ := r
    have h' : d.flat = true ∧ ds.all D.flat = true := by simpa using h
    obtain ⟨e1, e2⟩ := flat_rep h'.1 r1
    obtain ⟨e3, e4⟩ := flats_rep h'.2 r2
    subst e1
    subst e3
    exact ⟨rfl, by rw [List.all_cons, e2, e4]; rfl⟩
theorem any_feq {x : D} (ds : List D) : inV x.toV (ds.map D.toV) = ds.any fun y => y.feq x := by
  unfold inV
  rw [List.any_map]
  rfl
mutual
/-- as data -/
theorem Rep.data {H' : Hp} (ex : Ex F H') : ∀ {d : D} {v : V} {q : PyData}, d.py = some q → Rep c F d v → Dp c.K H' v q
  | .non, v, q, e, r => by
    cases e
    rw [show v = .non from r]
    exact .non
  | .bl b, v, q, e, r => by
    cases e
    rw [show v = .bl b from r]
    exact .bl b
  | .int i, v, q, e, r => by
    cases e
    rw [show v = .int i from r]
    exact .int i
  | .str s, v, q, e, r => by
    cases e
    rw [show v = .str s from r]
    exact .str s
  | .tup ds, v, q, e, r => by
    obtain ⟨a, vs, rfl, r1, r2⟩ := r
    unfold D.py at e
    cases h : D.pys ds with
    | none => rw [h] at e; cases e
    | some qs =>
      rw [h] at e
      cases e
      exact .tup (ex_t ex r1) (Reps.data ex h r2)
  | .lst ds, v, q, e, r => by
    obtain ⟨a, vs, rfl, r1, r2⟩ := r
    unfold D.py at e
    cases h : D.pys ds with
    | none => rw [h] at e; cases e
    | some qs =>
      rw [h] at e
      cases e
      exact .lst (ex_l ex r1) (Reps.data ex h r2)
  | .dct _ _ _, _, _, e, _ => by simp [D.py] at e
  | .ins _ _ _, _, _, e, _ => by simp [D.py] at e
  | .exc _ _ _, _, _, e, _ => by simp [D.py] at e
theorem Reps.data {H' : Hp} (ex : Ex F H') : ∀ {ds : List D} {vs : List V} {qs : List PyData}, D.pys ds = some qs → Reps c F ds vs → DpAll c.K H' vs qs
  | [], vs, qs, e, r => by
    cases e
    rw [show vs = [] from r]
    exact .nil
  | d :: ds, vs, qs, e, r => by
    obtain ⟨v, r, rfl, r1, r2⟩ := r
    unfold D.pys at e
    cases h1 : d.py with
    | none => rw [h1] at e; cases e
    | some q =>
      cases h2 : D.pys ds with
      | none => rw [h1, h2] at e; cases e
      | some qs' =>
        rw [h1, h2] at e
        cases e
        exact .cons (Rep.data ex h1 r1) (Reps.data ex h2 r2)
end
theorem plain_mark {e : Expr} {op : CmpOp} (h : plainE e = true) : behindInMarks op e = false := by
  cases e <;> first
    | rfl
    | (simp [plainE] at h)
theorem plain_last {e f : Expr} {op op' : CmpOp} (h : plainE f = true) : lastMarks [op, op'] [e, f] = false := by
  show lastMarks [op'] [f] = false
  exact plain_mark h
theorem plain_true {e : Expr} (h : plainE e = true) (hb : ∀ o vs q, e ≠ .BoolOp o vs q) (hn : ∀ x q, e ≠ .UnaryOp .Not x q) (hi : ∀ t a b q, e ≠ .IfExp t a b q) (hc : ∀ l o cs q, e ≠ .Compare l o cs q) {env : PySem.Env} (w : Sem Value) :
    isTrue e env w = (do let v ← w; standAt e.pos; holding [v] (truthy v)) := by
  cases e <;> first
    | rfl
    | (exfalso; exact hb _ _ _ rfl)
    | (exfalso; exact hi _ _ _ _ rfl)
    | (exfalso; exact hc _ _ _ _ rfl)
    | skip
  rename_i op x q
  cases op <;> first
    | rfl
    | (exfalso; exact hn _ _ rfl)
end
def okBin : Op → Operator → Bool
  | .add, .Add => true
  | .sub, .Sub => true
  | .mul, .Mult => true
  | .fdiv, .FloorDiv => true
  | .mod, .Mod => true
  | .pow, .Pow => true
  | _, _ => false
def okCmp : Op → CmpOp → Bool
  | .eq, .Eq => true
  | .ne, .NotEq => true
  | .lt, .Lt => true
  | .le, .LtE => true
  | .gt, .Gt => true
  | .ge, .GtE => true
  | .inn, .In => true
  | .nin, .NotIn => true
  | .is, .Is => true
  | .isn, .IsNot => true
  | _, _ => false
theorem pe_tupN {X : Cx} {es : List Expr} {t : TA} {k : Nat} {pos : Pos} (h : PA X es t) : PE X (.Tuple es k pos) (fun σ H Q => t σ H fun xs H1 => xs.length ≤ sizeLine ∧ NewT H1 Q xs) := by
  refine ⟨fun pins s σ H Q I hq => wpAny_Tuple_spliced (thn (h.run pos pins s σ H _ I hq) fun us s1 ⟨xs, H1, I1, r, z, q⟩ => ⟨?_, ?_⟩)⟩
  · rw [← r.length]
    exact z
  · refine ⟨.ref s1.heap.objs.size, upd H1 s1.heap.objs.size (.frz { cls := .type "tuple", data := .seq us.toArray } (.tup xs)), I1.laid (t' := s1.toks) (fun b u e => Heap.get?_push_of_some _ e) (Nat.le_refl _) ?_, rfl, q _ _ rfl rfl (I1.hok.fresh (Nat.le_refl _))⟩
    exact ⟨Heap.get?_push_size _ rfl, z, us, r, ⟨_, Heap.get?_push_size _ rfl, rfl, _, rfl⟩⟩
theorem op_catN {X : Cx} : OpR X (binaryOp .Add) (fun x y H Q => ∃ a b xs ys, x = .ref a ∧ y = .ref b ∧ SqT X.K H a xs ∧ SqT X.K H b ys ∧ xs.length + ys.length ≤ sizeLine ∧ (xs = [] → Q (.ref b) H) ∧ (xs ≠ [] → ys = [] → Q (.ref a) H) ∧ (xs ≠ [] → ys ≠ [] → NewT H Q (xs ++ ys))) := by
  intro pins s σ H x y v u Q I rx ry h
  obtain ⟨a, b, xs, ys, rfl, rfl, ha, hb, hz, q0, q1, q2⟩ := h
  cases rx
  cases ry
  obtain ⟨its, r1, p1, _⟩ := I.tuple ha
  obtain ⟨its2, r2, p2, _⟩ := I.tuple hb
  by_cases hx : xs = []
  · subst hx
    cases r1
    exact cat_tup0 p1 p2 ⟨.ref b, H, I, rfl, q0 rfl⟩
  · refine HT.cat_tup p1 p2 (fun z => hx (r1.nil_iff.mp z)) (fun z => ⟨.ref a, H, I, rfl, q1 hx (r2.nil_iff.mp z)⟩) (fun z => ?_) (by rw [← r1.length, ← r2.length]; exact hz)
    refine ⟨.ref s.heap.objs.size, _, I.laid (t' := s.toks) (o := .frz { cls := .type "tuple", data := .seq (its ++ its2).toArray } (.tup (xs ++ ys))) (fun b ob q => Heap.get?_push_of_some _ q) (Nat.le_refl _) ?_, rfl, q2 hx (fun w => z (r2.nil_iff.mpr w)) _ _ rfl rfl (I.hok.fresh (Nat.le_refl _))⟩
    exact ⟨Heap.get?_push_size _ rfl, by rw [List.length_append]; exact hz, _, r1.append r2, PyProof.Rows.IsTup.new _ _⟩
theorem sl_tupN {X : Cx} : SlR X (fun x lo hi H Q => ∃ a xs, x = .ref a ∧ SqT X.K H a xs ∧ (HT.sIx xs.length 0 lo = 0 ∧ HT.sIx xs.length xs.length hi = xs.length → Q (.ref a) H) ∧ (¬ (HT.sIx xs.length 0 lo = 0 ∧ HT.sIx xs.length xs.length hi = xs.length) → NewT H Q (cutV xs lo hi))) := by
  intro pins s σ H x v vl vu lo hi sl Q I rx hs pl pu h
  obtain ⟨a, xs, rfl, hx, q1, q2⟩ := h
  cases rx
  obtain ⟨its, r, ht, hz⟩ := I.tuple hx
  have hlen : its.toArray.size = xs.length := by
    rw [List.size_toArray]
    exact r.length.symm
  refine ⟨"tuple", _, PyProof.Rows.slot_tuple_getitem.lookup, ht.typeIs, ?_⟩
  by_cases hw : HT.sIx xs.length 0 lo = 0 ∧ HT.sIx xs.length xs.length hi = xs.length
  · exact getItem_tuple_whole ht hs pl pu (by rw [hlen]; exact hw) ⟨.ref a, H, I, rfl, q1 hw⟩
  · refine HT.getItem_tuple_cut ht hs pl pu (by rw [hlen]; exact hw) ?_ (by rw [hlen]; exact hz)
    rw [hlen]
    refine ⟨.ref s.heap.objs.size, _, I.laid (t' := s.toks) (o := .frz { cls := .type "tuple", data := .seq ((its.toArray.toList.drop (HT.sIx xs.length 0 lo)).take (HT.sIx xs.length xs.length hi - HT.sIx xs.length 0 lo)).toArray } (.tup (cutV xs lo hi))) (fun b ob q => Heap.get?_push_of_some _ q) (Nat.le_refl _) ?_, rfl, q2 hw _ _ rfl rfl (I.hok.fresh (Nat.le_refl _))⟩
    exact ⟨Heap.get?_push_size _ rfl, Nat.le_trans (cutV_length xs lo hi) hz, _, (r.drop (HT.sIx xs.length 0 lo)).take (HT.sIx xs.length xs.length hi - HT.sIx xs.length 0 lo), PyProof.Rows.IsTup.new _ _⟩
theorem call_tupleN {X : Cx} : CallR X (.type "tuple") (fun xs H Q => ∃ p ys, xs = [.ref p] ∧ ((SqL X.K H p ys ∧ NewT H Q ys) ∨ (SqT X.K H p ys ∧ Q (.ref p) H))) := by
  intro pins s σ H xs us Q I r h
  obtain ⟨p, ys, rfl, h⟩ := h
  obtain ⟨u, rfl, rx⟩ := vals1 r
  cases rx
  rcases h with ⟨hq, q⟩ | ⟨hq, q⟩
  · obtain ⟨its, r', pl, hz⟩ := I.list hq
    have hlen := r'.length
    refine call_tuple_list pl.isList (fun h' kp => ?_) (by simp only [List.size_toArray] <;> omega)
    have I1 : Inv X pins σ H { s with heap := h' } := I.kept (t' := s.toks) kp
    exact ⟨.ref h'.objs.size, upd H h'.objs.size (.frz { cls := .type "tuple", data := .seq its.toArray } (.tup ys)), I1.laid (t' := s.toks) (fun b o e => Heap.get?_push_of_some _ e) (Nat.le_refl _) ⟨Heap.get?_push_size _ rfl, hz, its, r', PyProof.Rows.IsTup.new _ _⟩, rfl, q _ _ rfl rfl (I1.hok.fresh (Nat.le_refl _))⟩
  · obtain ⟨its, r', pl, hz⟩ := I.tuple hq
    exact call_tuple_same pl ⟨.ref p, H, I, rfl, q⟩
theorem op_catL {X : Cx} : OpR X (binaryOp .Add) (fun x y H Q => ∃ a b xs ys, x = .ref a ∧ y = .ref b ∧ SqL X.K H a xs ∧ SqL X.K H b ys ∧ xs.length + ys.length ≤ sizeLine ∧ ∀ p, H p = none → Q (.ref p) (upd H p (.lst (xs ++ ys)))) := by
  intro pins s σ H x y v u Q I rx ry h
  obtain ⟨l, b, xs, zs, rfl, rfl, hH, hB, hz, q⟩ := h
  cases rx
  cases ry
  obtain ⟨its, r, pl, hl⟩ := I.list hH
  obtain ⟨its2, r2, pl2, hl2⟩ := I.list hB
  have l1 := r.length
  have l2 := r2.length
  obtain ⟨⟨cls, dd, data, sl⟩, ho, hc, n, hd⟩ := pl.isList
  obtain ⟨⟨cls2, dd2, data2, sl2⟩, ho2, hc2, n2, hd2⟩ := pl2.isList
  simp only at hc hd hc2 hd2
  subst hc hd hc2 hd2
  have e : its.toArray ++ its2.toArray = (its ++ its2).toArray := by simp
  refine concat_meets ⟨_, ho, rfl⟩ ⟨_, ho2, rfl⟩ noFill_list_add seq_list_add PySem.F.slot_list_add PySem.F.entry_list_add (PySem.F.args_list_add_2 _ _) (PyProof.Rows.list_addW l b its.toArray its2.toArray n n2 dd dd2 sl sl2 (by simp only [List.size_toArray]; omega)) ⟨ho, ho2, ?_⟩
  rw [e]
  exact ⟨.ref _, _, I.lnew (t' := s.toks) (r.append r2) (by rw [List.length_append]; omega), rfl, q _ I.fresh⟩
theorem mulOk_ok {i j : Int} (h : mulOk i j = true) : CMulW i j := by
  unfold mulOk at h
  unfold CMulW
  exact of_decide_eq_true h
theorem op_fdivG {X : Cx} : OpR X (binaryOp .FloorDiv) (rI (fun _ j => j ≠ 0 ∧ j.natAbs.log2 < 9000) fun i j => .int (i.fdiv j)) := opI fun i j _ _ _ _ _ hc q =>
  PyProof.Rows.floordiv_int hc.1 q (.inl (PyProof.noPylong_of_log2 hc.2))
section
variable {p : Pg} {C : Ctx} {n : Nat} {N : List Str} {sc : Scope} {W : WX} {X : Cx} {F H : Hp} {σ : L2.St} {c : Cn} {Q : VK}
theorem bin_ok (G : Good p n N sc W X) {o : Op} {o' : Operator} (hm : okBin o o' = true) {x y : D} {r : O} (e : opD C o [x, y] = some r) {ea eb : Expr} {pos : Pos} (h : T0L X [ea, eb] σ H (Fin p.c r [x, y] Q)) :
    T0 X (.BinOp ea o' eb pos) σ H Q := by
  have go : ∀ {r' : R2}, OpR X (binaryOp o') r' → (∀ v w H2, Fin p.c r [x, y] Q [v, w] H2 → r' v w H2 Q) → T0 X (.BinOp ea o' eb pos) σ H Q := fun hr k =>
    T0.of (pe_op hr pe0 pe0) (T0.mono h fun v H1 h1 => T0.mono h1 fun w H2 h2 => k v w H2 h2)
  cases o <;> cases o' <;> simp only [okBin, Bool.false_eq_true] at hm
  · -- +
    cases x <;> cases y <;> simp only [opD, f2, addD, reduceCtorEq] at e
    · cases e
      refine go op_add fun v w H2 k => ?_
      obtain ⟨F, ex, h1, h2, k⟩ := k.two
      exact ⟨_, _, h1, h2, fin_old ex k rfl⟩
    · split at e <;> cases e
      rename_i i j hl
      refine go op_add_str fun v w H2 k => ?_
      obtain ⟨F, ex, h1, h2, k⟩ := k.two
      exact ⟨_, _, h1, h2, by rw [sizeLine_eq]; exact of_decide_eq_true hl, fin_old ex k rfl⟩
    · split at e <;> cases e
      rename_i xs ys hl
      refine go op_catN fun v w H2 k => ?_
      obtain ⟨F, ex, ⟨a, vs, rfl, h1, h2⟩, ⟨b, ws, rfl, h3, h4⟩, kf⟩ := k.two
      clear k
      have l1 := h2.length
      have l2 := h4.length
      refine ⟨a, b, vs, ws, rfl, rfl, by rw [G.K]; exact ex_t ex h1, by rw [G.K]; exact ex_t ex h3, by rw [sizeLine_eq, l1, l2]; exact of_decide_eq_true hl, fun z => ?_, fun _ z => ?_, fun _ _ => fin_tup ex kf (h2.append h4)⟩
      · subst z
        have e : xs = [] := List.eq_nil_of_length_eq_zero (by rw [← l1]; rfl)
        subst e
        exact fin_old ex kf ⟨b, ws, rfl, h3, h4⟩
      · subst z
        have e : ys = [] := List.eq_nil_of_length_eq_zero (by rw [← l2]; rfl)
        subst e
        exact fin_old ex kf ⟨a, vs, rfl, h1, by rw [List.append_nil]; exact h2⟩
    · split at e <;> cases e
      rename_i xs ys hl
      refine go op_catL fun v w H2 k => ?_
      obtain ⟨F, ex, ⟨a, vs, rfl, h1, h2⟩, ⟨b, ws, rfl, h3, h4⟩, kf⟩ := k.two
      clear k
      have l1 := h2.length
      have l2 := h4.length
      refine ⟨a, b, vs, ws, rfl, rfl, by rw [G.K]; exact ex_l ex h1, by rw [G.K]; exact ex_l ex h3, by rw [sizeLine_eq, l1, l2]; exact of_decide_eq_true hl, fin_lst ex kf (h2.append h4)⟩
  · cases x <;> cases y <;> simp only [opD, f2, subD, reduceCtorEq] at e
    cases e
    refine go op_sub fun v w H2 k => ?_
    obtain ⟨F, ex, h1, h2, k⟩ := k.two
    exact ⟨_, _, h1, h2, fin_old ex k rfl⟩
  · cases x <;> cases y <;> simp only [opD, f2, mulD, reduceCtorEq] at e
    split at e <;> cases e
    rename_i i j hl
    refine go op_mulW fun v w H2 k => ?_
    obtain ⟨F, ex, h1, h2, k⟩ := k.two
    exact ⟨_, _, h1, h2, mulOk_ok hl, fin_old ex k rfl⟩
  · cases x <;> cases y <;> simp only [opD, f2, fdivD, reduceCtorEq] at e
    split at e <;> cases e
    rename_i i j hl
    refine go op_fdivG fun v w H2 k => ?_
    obtain ⟨F, ex, h1, h2, k⟩ := k.two
    have hl' : j ≠ 0 ∧ j.natAbs.log2 < 9000 := by
      unfold divOk at hl
      simpa using hl
    exact ⟨_, _, h1, h2, hl', fin_old ex k rfl⟩
  · cases x <;> cases y <;> simp only [opD, f2, modD, reduceCtorEq] at e
    split at e <;> cases e
    rename_i i j hl
    refine go op_modN fun v w H2 k => ?_
    obtain ⟨F, ex, h1, h2, k⟩ := k.two
    exact ⟨_, _, h1, h2, of_decide_eq_true hl, fin_old ex k rfl⟩
  · cases x <;> cases y <;> simp only [opD, f2, powD, reduceCtorEq] at e
    split at e <;> cases e
    rename_i i j hl
    refine go op_pow fun v w H2 k => ?_
    obtain ⟨F, ex, h1, h2, k⟩ := k.two
    have hl' : CPow i j := by
      unfold powOk at hl
      simp only [Bool.and_eq_true, decide_eq_true_eq] at hl
      exact ⟨hl.1.1, hl.1.2, hl.2⟩
    exact ⟨_, _, h1, h2, hl', fin_old ex k rfl⟩
theorem rep_non {d : D} {v : V} (r : Rep c F d v) : decide (v = .non) = d.isNon := by
  cases d with
  | non => rw [show v = _ from r]; rfl
  | bl _ => rw [show v = _ from r]; rfl
  | int _ => rw [show v = _ from r]; rfl
  | str _ => rw [show v = _ from r]; rfl
  | tup _ => obtain ⟨a, vs, rfl, _⟩ := r; rfl
  | lst _ => obtain ⟨a, vs, rfl, _⟩ := r; rfl
  | dct b _ _ =>
    cases b
    · obtain ⟨a, kvs, rfl, _⟩ := r; rfl
    · obtain ⟨a, kvs, rfl, _⟩ := r; rfl
  | ins _ _ _ => obtain ⟨a, dx, fs, rfl, _⟩ := r; rfl
  | exc _ _ _ => exact False.elim r
theorem in_ok (G : Good p n N sc W X) {neg : Bool} {x y : D} {b : Bool} (e : inD x y = some b) {v w : V} {H2 : Hp} (k : Fin p.c (.pure (.bl (if neg then !b else b))) [x, y] Q [v, w] H2) : rIn X.K neg v w H2 Q := by
  obtain ⟨F, ex, h1, h2, kf⟩ := k.two
  clear k
  have fin : ∀ (ys : List D), (x.flat && ys.all D.flat) = true → b = ys.any (fun y => y.feq x) → ∀ (a : Addr) (vs : List V), Reps p.c F ys vs → (SqL X.K H2 a vs ∨ SqT X.K H2 a vs) → rIn X.K neg v (.ref a) H2 Q := fun ys hf eb a vs r sq => by
    have hf' : x.flat = true ∧ ys.all D.flat = true := by simpa using hf
    obtain ⟨rfl, e2⟩ := flat_rep hf'.1 h1
    obtain ⟨rfl, e4⟩ := flats_rep hf'.2 r
    refine ⟨a, _, rfl, sq, e2, e4, ?_⟩
    rw [any_feq, ← eb]
    exact fin_old ex kf rfl
  cases y <;> simp only [inD, reduceCtorEq] at e
  · split at e <;> cases e
    rename_i ys hf
    obtain ⟨a, vs, rfl, h3, h4⟩ := h2
    exact fin ys hf rfl a vs h4 (.inr (by rw [G.K]; exact ex_t ex h3))
  · split at e <;> cases e
    rename_i ys hf
    obtain ⟨a, vs, rfl, h3, h4⟩ := h2
    exact fin ys hf rfl a vs h4 (.inl (by rw [G.K]; exact ex_l ex h3))
theorem eqD_ok {b : Bool} {d e : D} (h : eqD d e = some b) : ∃ q q', d.py = some q ∧ e.py = some q' ∧ SeqAt.shaped q = true ∧ SeqAt.shaped q' = true ∧ b = PyData.eqv q q' := by
  unfold eqD at h
  cases h1 : d.py with
  | none => rw [h1] at h; cases h
  | some q =>
    cases h2 : e.py with
    | none => rw [h1, h2] at h; cases h
    | some q' =>
      rw [h1, h2] at h
      dsimp only at h
      by_cases hs : (SeqAt.shaped q && SeqAt.shaped q') = true
      · rw [if_pos hs] at h
        cases h
        have hs' : SeqAt.shaped q = true ∧ SeqAt.shaped q' = true := by simpa using hs
        exact ⟨q, q', rfl, rfl, hs'.1, hs'.2, rfl⟩
      · rw [if_neg hs] at h
        cases h
theorem eqA_ok (G : Good p n N sc W X) {d e : D} {b : Bool} (h : eqA d e = some b) :
    (∃ r' : R2, OpR X (compareOp .Eq) r' ∧ ∀ {Q : VK} {v w H2}, Fin p.c (.pure (.bl b)) [d, e] Q [v, w] H2 → r' v w H2 Q) ∧
    (∃ r' : R2, OpR X (compareOp .NotEq) r' ∧ ∀ {Q : VK} {v w H2}, Fin p.c (.pure (.bl (!b))) [d, e] Q [v, w] H2 → r' v w H2 Q) := by
  have hu := G.units
  unfold eqA at h
  split at h
  · rename_i i j
    cases h
    refine ⟨⟨rEq, op_eq, fun {Q v w H2} k => ?_⟩, ⟨rNe, op_ne, fun {Q v w H2} k => ?_⟩⟩
    · obtain ⟨F, ex, h1, h2, kf⟩ := k.two
      clear k
      cases h1
      cases h2
      refine ⟨rfl, ?_⟩
      have e : decide (V.int i = V.int j) = decide (i = j) := by simp
      rw [e]
      exact fin_old ex kf rfl
    · obtain ⟨F, ex, h1, h2, kf⟩ := k.two
      clear k
      cases h1
      cases h2
      refine ⟨rfl, ?_⟩
      have e : decide (V.int i = V.int j) = decide (i = j) := by simp
      rw [e]
      exact fin_old ex kf rfl
  · rename_i i j
    cases h
    refine ⟨⟨rEq, op_eq, fun {Q v w H2} k => ?_⟩, ⟨rNe, op_ne, fun {Q v w H2} k => ?_⟩⟩
    · obtain ⟨F, ex, h1, h2, kf⟩ := k.two
      clear k
      cases h1
      cases h2
      refine ⟨rfl, ?_⟩
      have e : decide (V.str i = V.str j) = decide (i = j) := by simp
      rw [e]
      exact fin_old ex kf rfl
    · obtain ⟨F, ex, h1, h2, kf⟩ := k.two
      clear k
      cases h1
      cases h2
      refine ⟨rfl, ?_⟩
      have e : decide (V.str i = V.str j) = decide (i = j) := by simp
      rw [e]
      exact fin_old ex kf rfl
  · obtain ⟨q, q', e1, e2, s1, s2, rfl⟩ := eqD_ok h
    refine ⟨⟨_, op_eqD hu, fun {Q v w H2} k => ?_⟩, ⟨_, op_neD hu, fun {Q v w H2} k => ?_⟩⟩
    · obtain ⟨F, ex, h1, h2, kf⟩ := k.two
      clear k
      exact ⟨q, q', by rw [G.K]; exact Rep.data ex e1 h1, by rw [G.K]; exact Rep.data ex e2 h2, s1, s2, fin_old ex kf rfl⟩
    · obtain ⟨F, ex, h1, h2, kf⟩ := k.two
      clear k
      exact ⟨q, q', by rw [G.K]; exact Rep.data ex e1 h1, by rw [G.K]; exact Rep.data ex e2 h2, s1, s2, fin_old ex kf rfl⟩
theorem cmpR_ok (G : Good p n N sc W X) {o : Op} {o' : CmpOp} (hm : okCmp o o' = true) {x y : D} {r : O} (e : opD C o [x, y] = some r) :
    ∃ r' : R2, OpR X (compareOp o') r' ∧ ∀ {Q : VK} {v w H2}, Fin p.c r [x, y] Q [v, w] H2 → r' v w H2 Q := by
  have onI : ∀ {f : Int → Int → V} {g : Int → Int → D} {r : O} {i j : Int}, (∀ F, Rep p.c F (g i j) (f i j)) → ∀ {Q : VK} {v w H2}, Fin p.c (.pure (g i j)) [.int i, .int j] Q [v, w] H2 → rI0 f v w H2 Q := fun {f g r i j} hr {Q v w H2} k => by
    obtain ⟨F, ex, h1, h2, kf⟩ := k.two
    exact ⟨i, j, h1, h2, fin_old ex kf (hr F)⟩
  cases o <;> cases o' <;> simp only [okCmp, Bool.false_eq_true] at hm
  · simp only [opD, f2] at e
    cases h : eqA x y with
    | none => rw [h] at e; cases e
    | some b =>
      rw [h] at e
      cases e
      exact (eqA_ok G h).1
  · simp only [opD, f2] at e
    cases h : eqA x y with
    | none => rw [h] at e; cases e
    | some b =>
      rw [h] at e
      cases e
      exact (eqA_ok G h).2
  · cases x <;> cases y <;> simp only [opD, f2, ltD, reduceCtorEq] at e
    cases e
    exact ⟨_, op_lt, onI (r := default) (f := fun i j => .bl (decide (i < j))) (g := fun i j => .bl (decide (i < j))) fun _ => rfl⟩
  · cases x <;> cases y <;> simp only [opD, f2, leD', reduceCtorEq] at e
    cases e
    exact ⟨_, op_le, onI (r := default) (f := fun i j => .bl (decide (i ≤ j))) (g := fun i j => .bl (decide (i ≤ j))) fun _ => rfl⟩
  · cases x <;> cases y <;> simp only [opD, f2, gtD, reduceCtorEq] at e
    cases e
    exact ⟨_, op_gt, onI (r := default) (f := fun i j => .bl (decide (j < i))) (g := fun i j => .bl (decide (j < i))) fun _ => rfl⟩
  · cases x <;> cases y <;> simp only [opD, f2, geD, reduceCtorEq] at e
    cases e
    exact ⟨_, op_ge, onI (r := default) (f := fun i j => .bl (decide (j ≤ i))) (g := fun i j => .bl (decide (j ≤ i))) fun _ => rfl⟩
  · simp only [opD, f2] at e
    cases h : inD x y with
    | none => rw [h] at e; cases e
    | some b =>
      rw [h] at e
      cases e
      exact ⟨_, op_in_seq, fun k => in_ok G (neg := false) h k⟩
  · simp only [opD, f2] at e
    cases h : inD x y with
    | none => rw [h] at e; cases e
    | some b =>
      rw [h] at e
      cases e
      exact ⟨_, op_notIn_seq, fun k => in_ok G (neg := true) h k⟩
  · cases y <;> simp only [opD, f2, isD, D.isNon, Bool.false_eq_true, if_true, if_false, reduceCtorEq] at e
    cases e
    refine ⟨_, op_isN, fun {Q v w H2} k => ?_⟩
    obtain ⟨F, ex, h1, h2, kf⟩ := k.two
    clear k
    refine ⟨h2, ?_⟩
    rw [rep_non h1]
    exact fin_old ex kf rfl
  · cases y <;> simp only [opD, f2, isnD, D.isNon, Bool.false_eq_true, if_true, if_false, reduceCtorEq] at e
    cases e
    refine ⟨_, op_notN, fun {Q v w H2} k => ?_⟩
    obtain ⟨F, ex, h1, h2, kf⟩ := k.two
    clear k
    refine ⟨h2, ?_⟩
    rw [rep_non h1]
    exact fin_old ex kf rfl
theorem cmp_ok (G : Good p n N sc W X) {o : Op} {o' : CmpOp} (hm : okCmp o o' = true) {x y : D} {r : O} (e : opD C o [x, y] = some r) {ea eb : Expr} {pos : Pos} (pl : plainE eb = true) (h : T0L X [ea, eb] σ H (Fin p.c r [x, y] Q)) :
    T0 X (.Compare ea [o'] [eb] pos) σ H Q := by
  obtain ⟨r', h1, h2⟩ := cmpR_ok G hm e
  exact T0.of (pe_cmpR h1 pe0 pe0 (plain_mark pl)) (T0.mono h fun v H1 h1 => T0.mono h1 fun w H2 k => h2 k)
end
end T
namespace PySem.W
open PySem PySem.Calls PyProof.Rows
section
variable {prog : Program} {w : World} {A : Around} {E : Value → Shared → Prop} {s : Shared} {vs : List Value}
theorem tq_collect {l : Addr} {ty : String} {o : Obj} {n : Nat} (hty : ty = "list" ∨ ty = "tuple") (h0 : s.heap.get? l = some o) (h1 : o.cls = .type ty) (h2 : o.data = .seq vs.toArray n) {Q : List Value → Shared → Prop}
    (q : Q vs { s with heap := (s.heap.push (seqObj "list" #[] 0)).update s.heap.objs.size (Obj.mapSeq (· ++ vs.toArray)) }) (hs : vs.length ≤ sizeLine) : wpAny (model prog w) A (collect (.ref l)) Q E s := by
  have e0 : (s.heap.push (seqObj "list" #[] 0)).get? l = some o := Heap.get?_push_of_some _ h0
  have e1 : (s.heap.push (seqObj "list" #[] 0)).get? s.heap.objs.size = some (seqObj "list" #[] 0) := Heap.get?_push_size _ rfl
  unfold collect
  refine wpAny_bind (wpAny_runValue (codeAny_builtin entry_proto_collect' (wpAny_bind (wpAny_newList (wpAny_pure ⟨Code.quiet_builtin _ (by decide +kernel), codeAny_builtin entry_list_iadd' ?g⟩)))))
  case g =>
    show wpAny _ _ (Builtin.List.listExtendWith (.ref s.heap.objs.size) (.ref l) (.ref s.heap.objs.size)) _ _ { s with heap := s.heap.push (seqObj "list" #[] 0) }
    unfold Builtin.List.listExtendWith
    refine wpAny_bind (wpAny_typeOf (T := ty) ⟨o, e0, h1⟩ ?_)
    have hc : (Builtin.List.listSameRef (.ref s.heap.objs.size) (.ref l) || Value.type ty == .type "list" || Value.type ty == .type "tuple") = true := by
      rcases hty with rfl | rfl
      · have z : (Value.type "list" == Value.type "list") = true := rfl
        rw [z]
        simp
      · have z : (Value.type "tuple" == Value.type "tuple") = true := rfl
        rw [z]
        simp
    rw [if_pos hc]
    refine wpAny_bind (listItems_at e0 h2 (wpAny_bind (listItems_at (xs := #[]) (n := 0) e1 rfl ?_)))
    rw [if_neg (by simp)]
    refine wpAny_bind (listUpdate_at (xs := #[]) (n := 0) e1 rfl (wpAny_pure ?_) (Nat.zero_le _) (by
      show (#[] ++ vs.toArray).size ≤ sizeLine + 1
      simp only [Array.size_append, List.size_toArray, List.length_nil]
      omega))
    refine wpAny_bind (wpAny_load (get?_update_seq e1 _) ?_)
    show wpAny _ _ (pure ((#[] : Array Value) ++ vs.toArray).toList) Q E _
    have z : ((#[] : Array Value) ++ vs.toArray).toList = vs := by simp
    rw [z]
    exact wpAny_pure q
/-- sorted of a list or a tuple is list.sort of a copy -/
theorem tq_sorted {l : Addr} {ty : String} {o : Obj} {n : Nat} (hty : ty = "list" ∨ ty = "tuple") (h0 : s.heap.get? l = some o) (h1 : o.cls = .type ty) (h2 : o.data = .seq vs.toArray n) {kw : List (Str × Value)} {Q : Value → Shared → Prop}
    (hs : vs.length ≤ sizeLine) (a1 : argsOk "sorted" ⟨[.ref l], kw⟩) (a2 : ∀ x, argsOk "list.sort" ⟨[.ref x], kw⟩)
    (b : ∀ E' : Value → Shared → Prop, wpAny (model prog w) A.in1.in1 (Builtin.«list.sort» ⟨[.ref (s.heap.objs.size + 1)], kw⟩) (fun f s' => f = .done (.ret .none) ∧ Q (.ref (s.heap.objs.size + 1)) s') E' { s with heap := copyHeap s.heap vs }) :
    wpAny (model prog w) A (call (.builtin "sorted") [.ref l] kw) Q E s := by
  have sz : ((s.heap.push (seqObj "list" #[] 0)).update s.heap.objs.size (Obj.mapSeq (· ++ vs.toArray))).objs.size = s.heap.objs.size + 1 := by rw [Heap.size_update, size_push']
  refine call_function_entry_kw kind_sorted plain_sorted entry_sorted a1 ?_
  unfold Builtin.«sorted»
  refine wpAny_bind (m := checkCount "sorted" 1 1 _) (wpAny_pure (wpAny_bind (tq_collect hty h0 h1 h2 (wpAny_bind (wpAny_newList ?_ hs)) hs)))
  show wpAny _ _ _ _ _ { s with heap := copyHeap s.heap vs }
  rw [sz]
  refine wpAny_bind (wpAny_holding (wpAny_call_entry_kw slot_list_sort ⟨_, copyHeap_at s.heap vs, rfl⟩ entry_list_sort ?g (a2 _)))
  case g =>
    show wpAny (model prog w) A.in1.in1 (Builtin.«list.sort» ⟨[.ref (s.heap.objs.size + 1)], kw⟩) _ _ _
    exact wpAny_mono (b _) (fun f s' ⟨e, q⟩ => by
      subst e
      exact ⟨_, rfl, wpAny_pure ⟨_, rfl, q⟩⟩) fun _ _ e => e
variable {β : Type} {bs : List β} {enc : β → PyData} {R : Value → β → Prop}
theorem tq_sorted_data {l : Addr} {ty : String} {o : Obj} {n : Nat} (hty : ty = "list" ∨ ty = "tuple") (h0 : s.heap.get? l = some o) (h1 : o.cls = .type ty) (h2 : o.data = .seq vs.toArray n) {Q : Value → Shared → Prop}
    (e : EachIs R vs bs) (er : EachIs (fun v b => ∃ as, Reads s.heap v (enc b) as) vs bs) (hal : AllAlike (bs.map enc)) (hk : Sortable (bs.map enc)) (hL : bs.length ≤ sizeLine) (hu : ∀ b, b ∈ bs → A.units + 2 + (enc b).depth < cLine)
    (h : ∀ out, out.length = bs.length → EachIs R out (bs.mergeSort (dataLe false enc)) → Q (.ref (s.heap.objs.size + 1)) { s with heap := sortedAll s.heap vs (List.toArray out) }) :
    wpAny (model prog w) A (call (.builtin "sorted") [.ref l]) Q E s := by
  have er' : EachIs (fun v b => ∃ as, Reads (sortingHeap (copyHeap s.heap vs) (s.heap.objs.size + 1) vs) v (enc b) as) vs bs := er.mono fun _ _ ⟨as, r⟩ => ⟨as, PyProof.Rows.Reads.keeps (fun _ _ => sorting_copy_old) r⟩
  have hL' : vs.length ≤ sizeLine := by rw [e.length]; exact hL
  refine tq_sorted hty h0 h1 h2 hL' (args_sorted1 _) (fun _ => args_list_sort _) fun E' => list_sort_vals (s := { s with heap := copyHeap s.heap vs }) (copyHeap_at s.heap vs)
    (SortsAt.data (s := { s with heap := sortingHeap (copyHeap s.heap vs) (s.heap.objs.size + 1) vs }) (each_map (R := fun v d => ∃ as, Reads (sortingHeap (copyHeap s.heap vs) (s.heap.objs.size + 1) vs) v d as) enc er') hal hk (bound_map hu)) hL' ⟨rfl, ?_⟩
  exact h _ (by rw [sortVals_length false rfl]; exact e.length) (sortVals_data false e er' hal)
end
end PySem.W
namespace T
open PySem L2
variable {p : Pg} {C : Ctx} {n : Nat} {N : List Str} {sc : Scope} {W : WX} {X : Cx} {F H : Hp} {σ : L2.St} {c : Cn} {Q : VK}
theorem keysOf_len : ∀ {ks : List D} {kk : List Key}, keysOf ks = some kk → ks.length = kk.length := by
  intro ks
  induction ks with
  | nil => intro kk h; cases h; rfl
  | cons d ks ih =>
    intro kk h
    unfold keysOf at h
    cases q1 : keyOf d <;> rw [q1] at h
    · cases h
    · cases q2 : keysOf ks <;> rw [q2] at h
      · cases h
      · cases h
        rw [List.length_cons, List.length_cons, ih q2]
theorem isEmpty_len {α β : Type} {xs : List α} {ys : List β} (h : xs.length = ys.length) : xs.isEmpty = ys.isEmpty := by
  cases xs <;> cases ys <;> simp at h ⊢
theorem truth_rep (ex : Ex F H) {d : D} {v : V} {b : Bool} (e : d.truth = some b) (r : Rep c F d v) : TruV c.K v H b := by
  cases d with
  | non =>
    cases e
    rw [show v = .non from r]
    rfl
  | bl k =>
    cases e
    rw [show v = .bl b from r]
    rfl
  | int i =>
    cases e
    rw [show v = .int i from r]
    rfl
  | str s =>
    simp only [D.truth] at e
    split at e <;> cases e
    rename_i hl
    rw [show v = .str s from r]
    exact ⟨by rw [sizeLine_eq]; exact of_decide_eq_true hl, rfl⟩
  | tup xs =>
    cases e
    obtain ⟨a, vs, rfl, h1, h2⟩ := r
    exact .inr (.inl ⟨vs, ex_t ex h1, by rw [isEmpty_len h2.length]⟩)
  | lst xs =>
    cases e
    obtain ⟨a, vs, rfl, h1, h2⟩ := r
    exact .inl ⟨vs, ex_l ex h1, by rw [isEmpty_len h2.length]⟩
  | dct k ks vs =>
    cases k with
    | true => simp [D.truth] at e
    | false =>
      have e' : b = !ks.isEmpty := by simpa [D.truth] using e.symm
      obtain ⟨a, kvs, rfl, h1, h2, h3⟩ := r
      exact .inr (.inr ⟨kvs, ex _ _ h1, by rw [e', isEmpty_len ((keysOf_len h2).trans (List.length_map ..))]⟩)
  | ins _ _ _ => simp [D.truth] at e
  | exc _ _ _ => simp [D.truth] at e
theorem neg_ok {x : D} {r : O} (e : opD C .neg [x] = some r) {ea : Expr} {pos : Pos} (h : T0L X [ea] σ H (Fin p.c r [x] Q)) : T0 X (.UnaryOp .USub ea pos) σ H Q := by
  cases x <;> simp only [opD, f1, negD, reduceCtorEq] at e
  cases e
  refine T0.of (pe_un un_neg pe0) (T0.mono h fun v H1 k => ?_)
  obtain ⟨F, ex, h1, kf⟩ := k.one
  exact ⟨_, h1, fin_old ex kf rfl⟩
theorem not_ok (G : Good p n N sc W X) {x : D} {r : O} (e : opD C .not [x] = some r) {ea : Expr} {pos : Pos} (h : T0L X [ea] σ H (Fin p.c r [x] Q)) : T0 X (.UnaryOp .Not ea pos) σ H Q := by
  simp only [opD, f1, notD] at e
  cases hx : x.truth with
  | none => rw [hx] at e; cases e
  | some b =>
    rw [hx] at e
    cases e
    refine T0.of (pe_notT pe0) (T0.mono h fun v H1 k => ?_)
    obtain ⟨F, ex, h1, kf⟩ := k.one
    exact ⟨b, by rw [G.K]; exact truth_rep ex hx h1, fin_old ex kf rfl⟩
theorem tup_ok {ds : List D} {r : O} (e : opD C .tup ds = some r) {es : List Expr} (pl : es.all plainE = true) {k : Nat} {pos : Pos} (h : T0L X es σ H (Fin p.c r ds Q)) : T0 X (.Tuple es k pos) σ H Q := by
  simp only [opD] at e
  split at e <;> cases e
  rename_i hl
  refine T0.of (pe_tupN pa0) (T0A.mono (T0L.args pl h) fun vs H1 k => ?_)
  obtain ⟨F, ex, h1, kf⟩ := k
  exact ⟨by rw [sizeLine_eq, h1.length]; exact of_decide_eq_true hl, fin_tup ex kf h1⟩
theorem lst_ok {ds : List D} {r : O} (e : opD C .lst ds = some r) {es : List Expr} (pl : es.all plainE = true) {pos : Pos} (h : T0L X es σ H (Fin p.c r ds Q)) : T0 X (.List es pos) σ H Q := by
  simp only [opD] at e
  split at e <;> cases e
  rename_i hl
  refine T0.of (pe_lst pa0) (T0A.mono (T0L.args pl h) fun vs H1 k => ?_)
  obtain ⟨F, ex, h1, kf⟩ := k
  exact ⟨by rw [sizeLine_eq, h1.length]; exact of_decide_eq_true hl, fin_lst ex kf h1⟩
theorem idx_ok (G : Good p n N sc W X) {d k : D} {r : O} (e : opD C .idx [d, k] = some r) {ea eb : Expr} {pos : Pos} (pl : plainE eb = true) (h : T0L X [ea, eb] σ H (Fin p.c r [d, k] Q)) : T0 X (.Subscript ea eb pos) σ H Q := by
  have hu := G.units
  simp only [opD, f2] at e
  cases hx : d.idx k with
  | none => rw [hx] at e; cases e
  | some x =>
    rw [hx] at e
    cases e
    have go : ∀ {r' : R2}, IxR X r' → (∀ v w H2, Fin p.c (.pure x) [d, k] Q [v, w] H2 → r' v w H2 Q) → T0 X (.Subscript ea eb pos) σ H Q := fun hr kk =>
      T0.of (pe_ix hr pe0 pe0 (plain_ix pl)) (T0.mono h fun v H1 h1 => T0.mono h1 fun w H2 h2 => kk v w H2 h2)
    cases d with
    | lst ds =>
      cases k <;> simp only [D.idx, reduceCtorEq] at hx
      refine go ix_list fun v w H2 kk => ?_
      obtain ⟨F, ex, ⟨a, vs, rfl, h3, h4⟩, hw, kf⟩ := kk.two
      obtain ⟨z, z1, z2⟩ := atI_rep h4 hx
      exact ⟨a, vs, _, z, rfl, hw, by rw [G.K]; exact ex_l ex h3, z1, fin_old ex kf z2⟩
    | tup ds =>
      cases k <;> simp only [D.idx, reduceCtorEq] at hx
      refine go ix_tup fun v w H2 kk => ?_
      obtain ⟨F, ex, ⟨a, vs, rfl, h3, h4⟩, hw, kf⟩ := kk.two
      obtain ⟨z, z1, z2⟩ := atI_rep h4 hx
      exact ⟨a, vs, _, z, rfl, hw, by rw [G.K]; exact ex_t ex h3, z1, fin_old ex kf z2⟩
    | str s =>
      cases k <;> simp only [D.idx, reduceCtorEq] at hx
      rename_i i
      split at hx
      · rename_i hl
        cases q0 : atI s.cps.toList i with
        | none => rw [q0] at hx; cases hx
        | some cc =>
          rw [q0] at hx
          cases hx
          refine go ix_str fun v w H2 kk => ?_
          obtain ⟨F, ex, hv, hw, kf⟩ := kk.two
          exact ⟨s, i, cc, hv, hw, by rw [sizeLine_eq]; exact of_decide_eq_true hl, q0, fin_old ex kf rfl⟩
      · cases hx
    | dct b ks ds =>
      cases b with
      | true => simp [D.idx] at hx
      | false =>
        have e' : lkD ks ds k = some x := by simpa [D.idx] using hx
        refine T0.of (pe_dget (by omega) pe0 pe0 (plain_ix pl)) (T0.mono h fun v H1 h1 => T0.mono h1 fun w H2 kk => ?_)
        obtain ⟨F, ex, ⟨a, kvs, rfl, h3, h4, h5⟩, hw, kf⟩ := kk.two
        obtain ⟨kk', m, k1, k2, k3⟩ := lkD_val h4 ((keysOf_len h4).trans (by rw [List.length_map, ← h5.length, List.length_map])) e'
        obtain ⟨z, z1, z2⟩ := h5.get k2
        have kw := keyOf_v k1 hw
        subst kw
        refine ⟨a, z, rfl, ?_, fin_old ex kf z2⟩
        have g := DGet.k (k := kk') (ex _ _ h3)
        rw [← k3 kvs rfl, z1] at g
        exact g
    | non => simp [D.idx] at hx
    | bl _ => simp [D.idx] at hx
    | int _ => simp [D.idx] at hx
    | ins _ _ _ => simp [D.idx] at hx
    | exc _ _ _ => simp [D.idx] at hx
theorem att_ok (G : Good p n N sc W X) (T : Top p C) {d : D} {f : Nat} {r : O} (e : opD C (.att f) [d] = some r) {ea : Expr} {fx : Str} {pos : Pos} (hf : p.y.fd[f]? = some fx) (pl : plainE ea = true) (h : T0L X [ea] σ H (Fin p.c r [d] Q)) :
    T0 X (.Attribute ea fx pos) σ H Q := by
  simp only [opD, f1] at e
  cases hx : d.att C.fld f with
  | none => rw [hx] at e; cases e
  | some x =>
    rw [hx] at e
    cases e
    have hfx := T.fdn f fx hf
    subst hfx
    cases d with
    | ins k ns ds =>
      have e' : (if C.fld k f then lkp ns ds f else none) = some x := hx
      split at e'
      · rename_i hc
        refine T0.of (pe_fld pe0 (plain_att pl _ _ _)) (T0.mono h fun v H1 kk => ?_)
        obtain ⟨F, ex, ⟨a, dx, fs, rfl, h3, h4, h5⟩, kf⟩ := kk.one
        obtain ⟨m, m1, m2, m3, _⟩ := lkp_ix e'
        obtain ⟨z, z1, z2⟩ := h5.get m2
        exact ⟨a, _, dx, fs, z, rfl, ex _ _ h3, by rw [G.K]; exact (T.fld k f hc).1, by rw [G.K]; exact (T.fld k f hc).2, names_at h4 m1 z1 m3, fin_old ex kf z2⟩
      · cases e'
    | non => simp [D.att] at hx
    | bl _ => simp [D.att] at hx
    | int _ => simp [D.att] at hx
    | str _ => simp [D.att] at hx
    | tup _ => simp [D.att] at hx
    | lst _ => simp [D.att] at hx
    | dct _ _ _ => simp [D.att] at hx
    | exc _ _ _ => simp [D.att] at hx
theorem slT_ok (G : Good p n N sc W X) {xs : List D} {lo hi : Option Int} {v : V} {H2 : Hp} (ex : Ex F H2) (rv : Rep p.c F (.tup xs) v) (kf : ∀ F' H' z Lv, Grow F H2 F' H' Lv → RepO p.c F' H' (.pure (.tup (cut xs lo hi))) z Lv → Q z H') : (fun x lo hi H Q => ∃ a xs, x = V.ref a ∧ SqT X.K H a xs ∧ (HT.sIx xs.length 0 lo = 0 ∧ HT.sIx xs.length xs.length hi = xs.length → Q (V.ref a) H) ∧ (¬ (HT.sIx xs.length 0 lo = 0 ∧ HT.sIx xs.length xs.length hi = xs.length) → NewT H Q (cutV xs lo hi))) v lo hi H2 Q := by
  obtain ⟨a, vs, rfl, h1, h2⟩ := rv
  refine ⟨a, vs, rfl, by rw [G.K]; exact ex_t ex h1, fun w => ?_, fun w => fin_tup ex kf (h2.cut lo hi)⟩
  refine fin_old ex kf ⟨a, vs, rfl, h1, ?_⟩
  have e2 : cut xs lo hi = xs := by
    unfold cut
    rw [← h2.length, w.1, w.2]
    simp [h2.length]
  rw [e2]
  exact h2
theorem slL_ok (G : Good p n N sc W X) {xs : List D} {lo hi : Option Int} {v : V} {H2 : Hp} (ex : Ex F H2) (rv : Rep p.c F (.lst xs) v) (kf : ∀ F' H' z Lv, Grow F H2 F' H' Lv → RepO p.c F' H' (.lst ((cut xs lo hi).map .pure)) z Lv → Q z H') : rSlL X.K v lo hi H2 Q := by
  obtain ⟨a, vs, rfl, h1, h2⟩ := rv
  exact ⟨a, vs, rfl, by rw [G.K]; exact ex_l ex h1, fin_lst ex kf (h2.cut lo hi)⟩
end T
namespace T
open PySem L2
variable {p : Pg} {C : Ctx} {n : Nat} {N : List Str} {sc : Scope} {W : WX} {X : Cx} {F H : Hp} {σ : L2.St} {c : Cn} {Q : VK}
theorem plain_any {es : List Expr} {pos : Pos} {env : PySem.Env} (h : es.all plainE = true) : (backTo pos (starEach es env)).any (·.1) = false := by
  induction es with
  | nil => rfl
  | cons e es ih =>
    have h' : plainE e = true ∧ es.all plainE = true := by simpa using h
    rw [plain_star h'.1]
    have ih' := ih h'.2
    unfold backTo at ih' ⊢
    simp only [List.map_cons, List.any_cons, Bool.false_or]
    exact ih'
theorem callB_ok (G : Good p n N sc W X) (T : Top p C) {nm : Str} {id : String} (hb : nm ∈ bltNames) (hv : bootBuiltins nm = some (.builtin id)) (hg : okGl sc nm = true) {r' : List V → Hp → VK → Prop} (hc : CallR X (.builtin id) r') {ds : List D} {r : O}
    (hk : ∀ vs H2, Fin p.c r ds Q vs H2 → r' vs H2 Q) {e : Expr} {es : List Expr} {q pos : Pos} (pl : (e :: es).all plainE = true) (h : T0L X (e :: es) σ H (Fin p.c r ds Q)) : T0 X (.Call (.Name nm q) (e :: es) [] pos) σ H Q := by
  obtain ⟨g1, g2, g3⟩ := G.gl hg
  have pl' : plainE e = true ∧ es.all plainE = true := by simpa using pl
  exact T0.of (pe_callB hc g1 (by rw [G.mg]; exact T.blt nm hb) hv pa0 g3 g2 (plain_star pl'.1) (plain_any pl'.2)) (T0A.mono (T0L.args pl h) fun vs H1 k => hk vs H1 k)
theorem callTy_ok (G : Good p n N sc W X) (T : Top p C) {nm : Str} {ty : String} (hb : nm ∈ bltNames) (hv : bootBuiltins nm = some (.type ty)) (hg : okGl sc nm = true) {r' : List V → Hp → VK → Prop} (hc : CallR X (.type ty) r') {ds : List D} {r : O}
    (hk : ∀ vs H2, Fin p.c r ds Q vs H2 → r' vs H2 Q) {e : Expr} {es : List Expr} {q pos : Pos} (pl : (e :: es).all plainE = true) (h : T0L X (e :: es) σ H (Fin p.c r ds Q)) : T0 X (.Call (.Name nm q) (e :: es) [] pos) σ H Q := by
  obtain ⟨g1, g2, g3⟩ := G.gl hg
  have pl' : plainE e = true ∧ es.all plainE = true := by simpa using pl
  exact T0.of (pe_callTy hc g1 (by rw [G.mg]; exact T.blt nm hb) hv pa0 g3 g2 (plain_star pl'.1) (plain_any pl'.2)) (T0A.mono (T0L.args pl h) fun vs H1 k => hk vs H1 k)
theorem Fin.args1 {o : O} {x : D} {vs : List V} (h : Fin c o [x] Q vs H) : ∃ v F, vs = [v] ∧ Ex F H ∧ Rep c F x v ∧ ∀ F' H' z Lv, Grow F H F' H' Lv → RepO c F' H' o z Lv → Q z H' := by
  obtain ⟨F, e, ⟨v', r, rfl, h1, h2⟩, k⟩ := h
  rw [show r = [] from h2]
  exact ⟨v', F, rfl, e, h1, k⟩
theorem Fin.args2 {o : O} {x y : D} {vs : List V} (h : Fin c o [x, y] Q vs H) : ∃ v w F, vs = [v, w] ∧ Ex F H ∧ Rep c F x v ∧ Rep c F y w ∧ ∀ F' H' z Lv, Grow F H F' H' Lv → RepO c F' H' o z Lv → Q z H' := by
  obtain ⟨F, e, ⟨v', r, rfl, h1, ⟨w', r', rfl, h2, h3⟩⟩, k⟩ := h
  rw [show r' = [] from h3]
  exact ⟨v', w', F, rfl, e, h1, h2, k⟩
theorem reps_each {us : List Value} {vs : List V} {ds : List D} (rv : Vals vs us) (rd : Reps c F ds vs) : PySem.W.EachIs (fun u d => ∃ v, RelV v u ∧ Rep c F d v) us ds := by
  induction ds generalizing vs us with
  | nil =>
    rw [show vs = [] from rd] at rv
    cases rv
    exact .nil
  | cons d ds ih =>
    obtain ⟨v, r, rfl, h1, h2⟩ := rd
    cases rv with
    | cons a b => exact .cons ⟨v, a, h1⟩ (ih b h2)
theorem each_reps {us : List Value} {ds : List D} (h : PySem.W.EachIs (fun u d => ∃ v, RelV v u ∧ Rep c F d v) us ds) : ∃ vs, Vals vs us ∧ Reps c F ds vs := by
  induction h with
  | nil => exact ⟨[], .nil, rfl⟩
  | cons a b ih =>
    obtain ⟨v, h1, h2⟩ := a
    obtain ⟨vs, h3, h4⟩ := ih
    exact ⟨v :: vs, .cons h1 h3, v, vs, rfl, h2, h4⟩
theorem each_reads {pins : List (Addr × Obj)} {s : Shared} (hK : X.K = c.K) (I : Inv X pins σ H s) (ex : Ex F H) {us : List Value} {ds : List D} (ok : ∀ d ∈ ds, d.py.isSome = true) (h : PySem.W.EachIs (fun u d => ∃ v, RelV v u ∧ Rep c F d v) us ds) :
    PySem.W.EachIs (fun u d => ∃ as, Reads s.heap u (D.pyd d) as) us ds := by
  induction h with
  | nil => exact .nil
  | @cons u d us ds a b ih =>
    obtain ⟨v, h1, h2⟩ := a
    refine .cons ?_ (ih fun d hd => ok d (List.mem_cons_of_mem _ hd))
    have hs := ok d List.mem_cons_self
    cases hp : d.py with
    | none => rw [hp] at hs; cases hs
    | some q =>
      have e : D.pyd d = q := by
        unfold D.pyd
        rw [hp]
        rfl
      rw [e]
      exact Dp.reads I q v u (by rw [hK]; exact Rep.data ex hp h2) h1
theorem sortOk_facts {ds : List D} (h : sortOk ds = true) : (∀ d ∈ ds, d.py.isSome = true ∧ SeqAt.shaped d.pyd = true) ∧ PySem.W.AllAlike (ds.map D.pyd) ∧ PySem.W.Sortable (ds.map D.pyd) := by
  unfold sortOk at h
  simp only [Bool.and_eq_true, Bool.or_eq_true, List.all_eq_true] at h
  obtain ⟨⟨h1, h2⟩, h3⟩ := h
  refine ⟨h1, ?_, ?_⟩
  · intro d hd d' hd'
    obtain ⟨x, hx, rfl⟩ := List.mem_map.mp hd
    obtain ⟨y, hy, rfl⟩ := List.mem_map.mp hd'
    exact h2 x hx y hy
  · rcases h3 with h3 | h3
    · left
      intro d hd
      obtain ⟨x, hx, rfl⟩ := List.mem_map.mp hd
      have a := h3 x hx
      have b := (h1 x hx).1
      cases x with
      | tup l =>
        cases l with
        | nil => cases a
        | cons y ys =>
          unfold D.pyd
          unfold D.py D.pys at b ⊢
          cases q1 : y.py with
          | none => rw [q1] at b; simp at b
          | some z =>
            cases q2 : D.pys ys with
            | none => rw [q1, q2] at b; simp at b
            | some zs => exact ⟨z, zs, by simp⟩
      | _ => cases a
    · right
      intro d hd
      obtain ⟨x, hx, rfl⟩ := List.mem_map.mp hd
      have a := h3 x hx
      have b := (h1 x hx).1
      cases x with
      | non => cases a
      | tup l => cases a
      | bl _ => simp [D.pyd, D.py]
      | int _ => simp [D.pyd, D.py]
      | str _ => simp [D.pyd, D.py]
      | lst xs =>
        unfold D.pyd
        unfold D.py at b ⊢
        cases q1 : D.pys xs with
        | none => rw [q1] at b; simp at b
        | some z => simp
      | dct _ _ _ => simp [D.py] at b
      | ins _ _ _ => simp [D.py] at b
      | exc _ _ _ => simp [D.py] at b
theorem sq_ex {K : PySem.W.Frag} {a : Addr} {xs : List V} (e : Ex F H) (h : SqT K F a xs) : SqT K H a xs := by
  rcases h with h | h
  · exact .inl (ex_rd e h)
  · exact .inr h
theorem cr_sortedX (hK : X.K = c.K) (hr : Room n X.A) : CallR X (.builtin "sorted") (fun vs H Q => ∃ a ds us F, vs = [.ref a] ∧ (SqL c.K F a us ∨ SqT c.K F a us) ∧ Ex F H ∧ Reps c F ds us ∧ sortOk ds = true ∧ ∀ ws q, Reps c F (sortD ds) ws → H q = none → Q (.ref q) (upd H q (.lst ws))) := by
  intro pins s σ H vs us' Q I r h
  obtain ⟨a, ds, us, F, rfl, hs, ex, rd, ok, q⟩ := h
  rw [Vals.ref1 r]
  have main : ∀ (its : List Value) (ty : String) (o : Obj) (m : Nat), Vals us its → us.length ≤ sizeLine → (ty = "list" ∨ ty = "tuple") → s.heap.get? a = some o → o.cls = .type ty → o.data = .seq its.toArray m →
      wpAny (model X.prog X.w) X.A (call (.builtin "sorted") [.ref a]) (EP X pins σ Q) X.xe s := fun its ty o m rv hz hty h0 h1 h2 => by
    obtain ⟨f1, f2, f3⟩ := sortOk_facts ok
    have e := reps_each rv rd
    have hl := rd.length
    refine PySem.W.tq_sorted_data (enc := D.pyd) hty h0 h1 h2 e (each_reads hK I ex (fun d hd => (f1 d hd).1) e) f2 f3 (by rw [← hl]; exact hz) (fun d hd => ?_) fun out hlen ho => ?_
    · have h1 := SeqAt.depth_of_shaped (f1 d hd).2
      have h2 := hr.un
      omega
    · obtain ⟨ws, w1, w2⟩ := each_reps ho
      obtain ⟨ep, he'⟩ := PyProof.Rows.sortedAll_at s.heap its out.toArray
      have wl : ws.length ≤ sizeLine := by rw [w1.length, hlen, ← hl]; exact hz
      exact ⟨.ref _, upd H (s.heap.objs.size + 1) (.lst ws), I.laid (t' := s.toks) (fun _ _ => PyProof.Rows.sortedAll_old) (Nat.le_succ _) ⟨wl, out, ep, w1, he'⟩, rfl, q ws _ w2 (I.hok.fresh (Nat.le_succ _))⟩
  rcases hs with hs | hs
  · obtain ⟨its, rv, pl, hz⟩ := I.list (by rw [hK]; exact ex_l ex hs)
    obtain ⟨o, ho, hc, m, hd⟩ := pl.isList
    exact main its _ o m rv hz (.inl rfl) ho hc hd
  · obtain ⟨its, rv, pl, hz⟩ := I.tuple (by rw [hK]; exact sq_ex ex hs)
    obtain ⟨o, ho, hc, m, hd⟩ := pl
    exact main its _ o m rv hz (.inr rfl) ho hc hd
def okB : Op → Str → Bool
  | .len, x => x == ("len" : Str)
  | .abs, x => x == ("abs" : Str)
  | .max2, x => x == ("max" : Str)
  | .min2, x => x == ("min" : Str)
  | .int1, x => x == ("int" : Str)
  | .tupof, x => x == ("tuple" : Str)
  | .lstof, x => x == ("list" : Str)
  | .sorted, x => x == ("sorted" : Str)
  | .sum, x => x == ("sum" : Str)
  | .all, x => x == ("all" : Str)
  | .any, x => x == ("any" : Str)
  | _, _ => false
theorem bln (x : Str) (h : x ∈ bltNames := by decide +kernel) : x ∈ bltNames := h
theorem f1_some {g : D → Option O} {ds : List D} {r : O} (e : f1 g ds = some r) : ∃ x, ds = [x] ∧ g x = some r := by
  cases ds with
  | nil => cases e
  | cons x ds =>
    cases ds with
    | nil => exact ⟨x, rfl, e⟩
    | cons y ds => cases e
theorem f2_some {g : D → D → Option O} {ds : List D} {r : O} (e : f2 g ds = some r) : ∃ x y, ds = [x, y] ∧ g x y = some r := by
  cases ds with
  | nil => cases e
  | cons x ds =>
    cases ds with
    | nil => cases e
    | cons y ds =>
      cases ds with
      | nil => exact ⟨x, y, rfl, e⟩
      | cons z ds => cases e
theorem f3_some {g : D → D → D → Option O} {ds : List D} {r : O} (e : f3 g ds = some r) : ∃ x y z, ds = [x, y, z] ∧ g x y z = some r := by
  cases ds with
  | nil => cases e
  | cons x ds =>
    cases ds with
    | nil => cases e
    | cons y ds =>
      cases ds with
      | nil => cases e
      | cons z ds =>
        cases ds with
        | nil => exact ⟨x, y, z, rfl, e⟩
        | cons _ _ => cases e
theorem boot_blt_abs : bootBuiltins "abs" = some (.builtin "abs") := by decide +kernel
theorem boot_blt_max : bootBuiltins "max" = some (.builtin "max") := by decide +kernel
theorem boot_blt_min : bootBuiltins "min" = some (.builtin "min") := by decide +kernel
theorem boot_blt_int : bootBuiltins "int" = some (.type "int") := by decide +kernel
theorem boot_blt_tuple : bootBuiltins "tuple" = some (.type "tuple") := by decide +kernel
theorem boot_blt_list : bootBuiltins "list" = some (.type "list") := by decide +kernel
theorem boot_blt_sorted : bootBuiltins "sorted" = some (.builtin "sorted") := by decide +kernel
theorem boot_blt_sum : bootBuiltins "sum" = some (.builtin "sum") := by decide +kernel
theorem boot_blt_all : bootBuiltins "all" = some (.builtin "all") := by decide +kernel
theorem boot_blt_any : bootBuiltins "any" = some (.builtin "any") := by decide +kernel
theorem bi_ok (G : Good p n N sc W X) (T : Top p C) {o : Op} {nm : Str} (ho : okB o nm = true) (hg : okGl sc nm = true) {ds : List D} {r : O} (ev : opD C o ds = some r) {ea : Expr} {es : List Expr} {q pos : Pos} (pl : (ea :: es).all plainE = true)
    (h : T0L X (ea :: es) σ H (Fin p.c r ds Q)) : T0 X (.Call (.Name nm q) (ea :: es) [] pos) σ H Q := by
  cases o <;> simp only [okB, Bool.false_eq_true] at ho
  · -- len
    obtain rfl := eq_of_beq ho
    obtain ⟨x, rfl, e⟩ := f1_some (g := lenD) ev
    have seq : ∀ {xs : List D}, (x = .tup xs ∨ x = .lst xs) → r = .pure (.int xs.length) → T0 X (.Call (.Name "len" q) (ea :: es) [] pos) σ H Q := fun {xs} hx hr => by
      subst hr
      refine callB_ok G T (bln _) PySem.boot_len hg call_len_seq (fun vs H2 k => ?_) pl h
      obtain ⟨v, F, rfl, ex, h1, kf⟩ := k.args1
      rcases hx with rfl | rfl
      · obtain ⟨a, vs, rfl, h3, h4⟩ := h1
        exact ⟨a, vs, rfl, .inr (by rw [G.K]; exact ex_t ex h3), fin_old ex kf (by rw [h4.length]; rfl)⟩
      · obtain ⟨a, vs, rfl, h3, h4⟩ := h1
        exact ⟨a, vs, rfl, .inl (by rw [G.K]; exact ex_l ex h3), fin_old ex kf (by rw [h4.length]; rfl)⟩
    cases x <;> simp only [lenD, reduceCtorEq] at e
    · split at e <;> cases e
      rename_i s hl
      refine callB_ok G T (bln _) PySem.boot_len hg call_len_str (fun vs H2 k => ?_) pl h
      obtain ⟨v, F, rfl, ex, h1, kf⟩ := k.args1
      exact ⟨s, by rw [show v = .str s from h1], by rw [sizeLine_eq]; exact of_decide_eq_true hl, fin_old ex kf rfl⟩
    · cases e
      exact seq (.inl rfl) rfl
    · cases e
      exact seq (.inr rfl) rfl
    · rename_i b ks vs
      cases b <;> simp only [reduceCtorEq] at e
      cases e
      refine callB_ok G T (bln _) PySem.boot_len hg call_lenD (fun vs H2 k => ?_) pl h
      obtain ⟨v, F, rfl, ex, ⟨a, kvs, rfl, h2, h3, h4⟩, kf⟩ := k.args1
      exact ⟨a, kvs, rfl, ex _ _ h2, fin_old ex kf (by rw [keysOf_len h3, List.length_map]; rfl)⟩
  · -- abs
    obtain rfl := eq_of_beq ho
    obtain ⟨x, rfl, e⟩ := f1_some (g := absD) ev
    cases x <;> simp only [absD, reduceCtorEq] at e
    cases e
    refine callB_ok G T (bln _) boot_blt_abs hg call_abs (fun vs H2 k => ?_) pl h
    obtain ⟨v, F, rfl, ex, h1, kf⟩ := k.args1
    exact ⟨_, by rw [show v = _ from h1], fin_old ex kf rfl⟩
  · -- max
    obtain rfl := eq_of_beq ho
    obtain ⟨x, y, rfl, e⟩ := f2_some (g := max2D) ev
    cases x <;> cases y <;> simp only [max2D, reduceCtorEq] at e
    cases e
    refine callB_ok G T (bln _) boot_blt_max hg (call_max2 G.calm) (fun vs H2 k => ?_) pl h
    obtain ⟨v, w, F, rfl, ex, h1, h2, kf⟩ := k.args2
    exact ⟨_, _, by rw [show v = _ from h1, show w = _ from h2], fin_old ex kf rfl⟩
  · -- min
    obtain rfl := eq_of_beq ho
    obtain ⟨x, y, rfl, e⟩ := f2_some (g := min2D) ev
    cases x <;> cases y <;> simp only [min2D, reduceCtorEq] at e
    cases e
    refine callB_ok G T (bln _) boot_blt_min hg (call_min2 G.calm) (fun vs H2 k => ?_) pl h
    obtain ⟨v, w, F, rfl, ex, h1, h2, kf⟩ := k.args2
    exact ⟨_, _, by rw [show v = _ from h1, show w = _ from h2], fin_old ex kf rfl⟩
  · -- int
    obtain rfl := eq_of_beq ho
    obtain ⟨x, rfl, e⟩ := f1_some (g := int1D) ev
    refine callTy_ok G T (bln _) boot_blt_int hg call_int1 (fun vs H2 k => ?_) pl h
    obtain ⟨v, F, rfl, ex, h1, kf⟩ := k.args1
    cases x <;> simp only [int1D, reduceCtorEq] at e
    · cases e
      exact .inr ⟨_, by rw [show v = _ from h1], fin_old ex kf rfl⟩
    · cases e
      exact .inl ⟨_, by rw [show v = _ from h1], fin_old ex kf rfl⟩
  · -- tuple
    obtain rfl := eq_of_beq ho
    obtain ⟨x, rfl, e⟩ := f1_some (g := tupofD) ev
    refine callTy_ok G T (bln _) boot_blt_tuple hg call_tupleN (fun vs H2 k => ?_) pl h
    obtain ⟨v, F, rfl, ex, h1, kf⟩ := k.args1
    cases x <;> simp only [tupofD, reduceCtorEq] at e
    · cases e
      obtain ⟨a, vs, rfl, h3, h4⟩ := h1
      exact ⟨a, vs, rfl, .inr ⟨by rw [G.K]; exact ex_t ex h3, fin_old ex kf ⟨a, vs, rfl, h3, h4⟩⟩⟩
    · cases e
      obtain ⟨a, vs, rfl, h3, h4⟩ := h1
      exact ⟨a, vs, rfl, .inl ⟨by rw [G.K]; exact ex_l ex h3, fin_tup ex kf h4⟩⟩
  · -- list
    obtain rfl := eq_of_beq ho
    obtain ⟨x, rfl, e⟩ := f1_some (g := lstofD) ev
    refine callTy_ok G T (bln _) boot_blt_list hg call_list_of (fun vs H2 k => ?_) pl h
    obtain ⟨v, F, rfl, ex, h1, kf⟩ := k.args1
    cases x <;> simp only [lstofD, reduceCtorEq] at e
    · cases e
      obtain ⟨a, vs, rfl, h3, h4⟩ := h1
      exact ⟨a, vs, rfl, .inr (by rw [G.K]; exact ex_t ex h3), fin_lst ex kf h4⟩
    · cases e
      obtain ⟨a, vs, rfl, h3, h4⟩ := h1
      exact ⟨a, vs, rfl, .inl (by rw [G.K]; exact ex_l ex h3), fin_lst ex kf h4⟩
  · -- sorted
    obtain rfl := eq_of_beq ho
    obtain ⟨x, rfl, e⟩ := f1_some (g := sortedD) ev
    refine callB_ok G T (bln _) boot_blt_sorted hg (cr_sortedX (c := p.c) G.K G.room) (fun vs H2 k => ?_) pl h
    obtain ⟨v, F, rfl, ex, h1, kf⟩ := k.args1
    cases x <;> simp only [sortedD, reduceCtorEq] at e
    · split at e <;> cases e
      rename_i xs hs
      obtain ⟨a, vs, rfl, h3, h4⟩ := h1
      exact ⟨a, xs, vs, F, rfl, .inr h3.sq, ex, h4, hs, fun ws q hw hq => fin_lst ex kf hw q hq⟩
    · split at e <;> cases e
      rename_i xs hs
      obtain ⟨a, vs, rfl, h3, h4⟩ := h1
      exact ⟨a, xs, vs, F, rfl, .inl h3, ex, h4, hs, fun ws q hw hq => fin_lst ex kf hw q hq⟩
  · -- sum
    obtain rfl := eq_of_beq ho
    obtain ⟨x, rfl, e⟩ := f1_some (g := sumD) ev
    refine callB_ok G T (bln _) boot_blt_sum hg (cr_sum G.calm) (fun vs H2 k => ?_) pl h
    obtain ⟨v, F, rfl, ex, h1, kf⟩ := k.args1
    cases x <;> simp only [sumD, reduceCtorEq] at e
    rename_i xs
    cases hi : intsOf xs with
    | none => rw [hi] at e; cases e
    | some ns =>
      rw [hi] at e
      cases e
      obtain ⟨a, vs, rfl, h3, h4⟩ := h1
      obtain ⟨rfl, _⟩ := h4.ints hi
      exact ⟨a, ns, rfl, by rw [G.K]; exact ex_l ex h3, fin_old ex kf rfl⟩
  · -- all
    obtain rfl := eq_of_beq ho
    obtain ⟨x, rfl, e⟩ := f1_some (g := allD) ev
    refine callB_ok G T (bln _) boot_blt_all hg (cr_all G.calm) (fun vs H2 k => ?_) pl h
    obtain ⟨v, F, rfl, ex, h1, kf⟩ := k.args1
    cases x <;> simp only [allD, reduceCtorEq] at e
    rename_i xs
    cases hi : blsOf xs with
    | none => rw [hi] at e; cases e
    | some ns =>
      rw [hi] at e
      cases e
      obtain ⟨a, vs, rfl, h3, h4⟩ := h1
      obtain ⟨rfl, _⟩ := h4.bls hi
      exact ⟨a, ns, rfl, by rw [G.K]; exact ex_l ex h3, fin_old ex kf rfl⟩
  · -- any
    obtain rfl := eq_of_beq ho
    obtain ⟨x, rfl, e⟩ := f1_some (g := anyD) ev
    refine callB_ok G T (bln _) boot_blt_any hg (cr_any G.calm) (fun vs H2 k => ?_) pl h
    obtain ⟨v, F, rfl, ex, h1, kf⟩ := k.args1
    cases x <;> simp only [anyD, reduceCtorEq] at e
    rename_i xs
    cases hi : blsOf xs with
    | none => rw [hi] at e; cases e
    | some ns =>
      rw [hi] at e
      cases e
      obtain ⟨a, vs, rfl, h3, h4⟩ := h1
      obtain ⟨rfl, _⟩ := h4.bls hi
      exact ⟨a, ns, rfl, by rw [G.K]; exact ex_l ex h3, fin_old ex kf rfl⟩
end T
namespace T
open PySem L2
variable {p : Pg} {C : Ctx} {n : Nat} {N : List Str} {sc : Scope} {W : WX} {X : Cx} {F H : Hp} {σ : L2.St} {c : Cn} {Q : VK}
theorem slc0_ok (G : Good p n N sc W X) {ds : List D} {r : O} (ev : opD C (.slc false false) ds = some r) {ea : Expr} {q pos : Pos} (h : T0L X [ea] σ H (Fin p.c r ds Q)) : T0 X (.Subscript ea (.Slice none none none q) pos) σ H Q := by
  obtain ⟨x, rfl, e⟩ := f1_some (g := fun x => slcD x none none) ev
  cases x <;> simp only [slcD, reduceCtorEq] at e
  · cases e
    refine T0.of (pe_slice sl_tupN pe0 po_none po_none) (T0.mono h fun v H1 k => ?_)
    obtain ⟨F, ex, h1, kf⟩ := k.one
    exact slT_ok G ex h1 kf
  · cases e
    refine T0.of (pe_slice sl_list pe0 po_none po_none) (T0.mono h fun v H1 k => ?_)
    obtain ⟨F, ex, h1, kf⟩ := k.one
    exact slL_ok G ex h1 kf
theorem slc1_ok (G : Good p n N sc W X) {ds : List D} {r : O} (ev : opD C (.slc true false) ds = some r) {ea eb : Expr} {q pos : Pos} (h : T0L X [ea, eb] σ H (Fin p.c r ds Q)) : T0 X (.Subscript ea (.Slice (some eb) none none q) pos) σ H Q := by
  obtain ⟨x, y, rfl, e⟩ := f2_some (g := fun x i => slc2 x i none) ev
  cases y <;> simp only [slc2, reduceCtorEq] at e
  cases x <;> simp only [slcD, reduceCtorEq] at e
  · cases e
    refine T0.of (pe_slice sl_tupN pe0 (po_some pe0) po_none) (T0.mono h fun v H1 h1 => T0.mono h1 fun w H2 k => ?_)
    obtain ⟨F, ex, h1, h2, kf⟩ := k.two
    exact ⟨_, h2, slT_ok G ex h1 kf⟩
  · cases e
    refine T0.of (pe_slice sl_list pe0 (po_some pe0) po_none) (T0.mono h fun v H1 h1 => T0.mono h1 fun w H2 k => ?_)
    obtain ⟨F, ex, h1, h2, kf⟩ := k.two
    exact ⟨_, h2, slL_ok G ex h1 kf⟩
theorem slc2_ok (G : Good p n N sc W X) {ds : List D} {r : O} (ev : opD C (.slc false true) ds = some r) {ea eb : Expr} {q pos : Pos} (h : T0L X [ea, eb] σ H (Fin p.c r ds Q)) : T0 X (.Subscript ea (.Slice none (some eb) none q) pos) σ H Q := by
  obtain ⟨x, y, rfl, e⟩ := f2_some (g := slc3) ev
  cases y <;> simp only [slc3, reduceCtorEq] at e
  cases x <;> simp only [slcD, reduceCtorEq] at e
  · cases e
    refine T0.of (pe_slice sl_tupN pe0 po_none (po_some pe0)) (T0.mono h fun v H1 h1 => T0.mono h1 fun w H2 k => ?_)
    obtain ⟨F, ex, h1, h2, kf⟩ := k.two
    exact ⟨_, h2, slT_ok G ex h1 kf⟩
  · cases e
    refine T0.of (pe_slice sl_list pe0 po_none (po_some pe0)) (T0.mono h fun v H1 h1 => T0.mono h1 fun w H2 k => ?_)
    obtain ⟨F, ex, h1, h2, kf⟩ := k.two
    exact ⟨_, h2, slL_ok G ex h1 kf⟩
theorem slc3_ok (G : Good p n N sc W X) {ds : List D} {r : O} (ev : opD C (.slc true true) ds = some r) {as : List Arg} (hp : opPre (.slc true true) as = true) {ea eb ec : Expr} {q pos : Pos} (h : T0K X [ea, eb, ec] as σ H (Fin p.c r ds Q)) :
    T0 X (.Subscript ea (.Slice (some eb) (some ec) none q) pos) σ H Q := by
  obtain ⟨x, y, z, rfl, e⟩ := f3_some (g := slc4) ev
  obtain ⟨a1, j, a3, rfl⟩ : ∃ a1 j a3, as = [a1, .val (.int j), a3] := by
    have hp' : pre3 as = true := hp
    unfold pre3 at hp'
    split at hp'
    · exact ⟨_, _, _, rfl⟩
    · cases hp'
  cases y <;> cases z <;> simp only [slc4, reduceCtorEq] at e
  cases x <;> simp only [slcD, reduceCtorEq] at e
  · cases e
    refine T0.of (pe_slice sl_tupN pe0 (po_some pe0) (po_some pe0)) (T0.mono h fun v H1 ⟨_, h1⟩ => T0.mono h1 fun w H2 ⟨hw, h2⟩ => ⟨j, hw, T0.mono h2 fun u H3 ⟨_, k⟩ => ?_⟩)
    obtain ⟨F, ex, r1, r2, r3, kf⟩ := Fin.three k
    have e1 : V.int j = V.int _ := (show w = .int j from hw).symm.trans r2
    cases e1
    exact ⟨_, r3, slT_ok G ex r1 kf⟩
  · cases e
    refine T0.of (pe_slice sl_list pe0 (po_some pe0) (po_some pe0)) (T0.mono h fun v H1 ⟨_, h1⟩ => T0.mono h1 fun w H2 ⟨hw, h2⟩ => ⟨j, hw, T0.mono h2 fun u H3 ⟨_, k⟩ => ?_⟩)
    obtain ⟨F, ex, r1, r2, r3, kf⟩ := Fin.three k
    have e1 : V.int j = V.int _ := (show w = .int j from hw).symm.trans r2
    cases e1
    exact ⟨_, r3, slL_ok G ex r1 kf⟩
theorem rep_ty (T : Top p C) (ex : Ex F H) {d : D} {v : V} {t : Tag} (ht : d.tag = some t) (kn : ∀ k, t = .cls k → ∃ b, C.sub k k = some b) (r : Rep p.c F d v) : TyX p.c.K H v (tagV p.c t) := by
  have seqT : ∀ {a : Addr} {vs : List V}, TupN p.c.K F a vs → TyX p.c.K H (.ref a) (.type "tuple") := fun {a vs} h => by
    rcases h with ⟨o, h, _⟩ | ⟨o, its, m, h1, h2, _⟩
    · exact .fTuple (ex _ _ h)
    · exact .kTuple h1 h2
  have seqL : ∀ {a : Addr} {vs : List V}, SqL p.c.K F a vs → TyX p.c.K H (.ref a) (.type "list") := fun {a vs} h => by
    rcases h with (h | ⟨o, h⟩) | ⟨o, its, m, h1, h2, _⟩
    · exact .base (.lst (ex _ _ h))
    · exact .base (.frz (ex _ _ h))
    · exact .kList h1 h2
  cases d with
  | non =>
    cases ht
    rw [show v = _ from r]
    exact .base .non
  | bl b =>
    cases ht
    rw [show v = _ from r]
    exact .base (.bl b)
  | int i =>
    cases ht
    rw [show v = _ from r]
    exact .base (.int i)
  | str s =>
    cases ht
    rw [show v = _ from r]
    exact .base (.str s)
  | tup xs =>
    cases ht
    obtain ⟨a, vs, rfl, h1, _⟩ := r
    exact seqT h1
  | lst xs =>
    cases ht
    obtain ⟨a, vs, rfl, h1, _⟩ := r
    exact seqL h1
  | dct b ks vs =>
    cases ht
    cases b
    · obtain ⟨a, kvs, rfl, h1, _⟩ := r
      exact .base (.dK (ex _ _ h1))
    · obtain ⟨a, kvs, rfl, h1, _⟩ := r
      exact .base (.dT (ex _ _ h1))
  | ins k ns vs =>
    cases ht
    obtain ⟨a, dx, fs, rfl, h1, _⟩ := r
    obtain ⟨b, hb⟩ := kn k rfl
    have kk := T.kn k b hb
    exact .base (.ins (ex _ _ h1) kk.cls kk.ha kk.hn kk.ht kk.hm)
  | exc _ _ _ => cases ht
/-- the class that a name names -/
def okTy (y : Sy) (sc : Scope) : Ty → Expr → Bool
  | .int, .Name x _ => x == ("int" : Str) && okGl sc x
  | .bool, .Name x _ => x == ("bool" : Str) && okGl sc x
  | .str, .Name x _ => x == ("str" : Str) && okGl sc x
  | .tup, .Name x _ => x == ("tuple" : Str) && okGl sc x
  | .lst, .Name x _ => x == ("list" : Str) && okGl sc x
  | .dct, .Name x _ => x == ("dict" : Str) && okGl sc x
  | .cls k, .Name x _ => y.cl[k]? == some x && okGl sc x
  | _, _ => false
def tyW (c : Cn) : Ty → V
  | .int => .ty "int"
  | .bool => .ty "bool"
  | .str => .ty "str"
  | .tup => .ty "tuple"
  | .lst => .ty "list"
  | .dct => .ty "dict"
  | .cls k => .ref (c.CA k)
theorem tyW_cls (t : Ty) : ClsV (tyW c t) (tyV c t) := by
  cases t <;> first
    | exact .ty _
    | exact .own _
theorem okTy_plain {y : Sy} {t : Ty} {e : Expr} (h : okTy y sc t e = true) : plainE e = true := by
  cases t <;> cases e <;> first
    | rfl
    | (simp [okTy] at h)
theorem boot_blt_bool : bootBuiltins "bool" = some (.type "bool") := by decide +kernel
theorem boot_blt_str : bootBuiltins "str" = some (.type "str") := by decide +kernel
theorem boot_blt_dict : bootBuiltins "dict" = some (.type "dict") := by decide +kernel
theorem ty_name (G : Good p n N sc W X) (T : Top p C) {t : Ty} {e : Expr} (h : okTy p.y sc t e = true) : PE X e (tC (tyW p.c t)) := by
  have go : ∀ {nm : Str} {ty : String} {q : Pos}, nm ∈ bltNames → bootBuiltins nm = some (.type ty) → okGl sc nm = true → PE X (.Name nm q) (tC (.ty ty)) := fun {nm ty q} hb hv hg => by
    obtain ⟨g1, g2, g3⟩ := G.gl hg
    exact pe_bltn g1 (by rw [G.mg]; exact T.blt nm hb) hv rfl g3 g2
  cases t <;> cases e <;> simp only [okTy, Bool.false_eq_true, Bool.and_eq_true] at h
  · obtain ⟨h1, h2⟩ := h
    obtain rfl := eq_of_beq h1
    exact go (bln _) boot_blt_int h2
  · obtain ⟨h1, h2⟩ := h
    obtain rfl := eq_of_beq h1
    exact go (bln _) boot_blt_bool h2
  · obtain ⟨h1, h2⟩ := h
    obtain rfl := eq_of_beq h1
    exact go (bln _) boot_blt_str h2
  · obtain ⟨h1, h2⟩ := h
    obtain rfl := eq_of_beq h1
    exact go (bln _) boot_blt_tuple h2
  · obtain ⟨h1, h2⟩ := h
    obtain rfl := eq_of_beq h1
    exact go (bln _) boot_blt_list h2
  · obtain ⟨h1, h2⟩ := h
    obtain rfl := eq_of_beq h1
    exact go (bln _) boot_blt_dict h2
  · obtain ⟨h1, h2⟩ := h
    obtain ⟨g1, g2, g3⟩ := G.gl h2
    exact pe_glob g1 (by rw [G.mg]; exact T.cln _ _ (beq_opt h1)) rfl g2
theorem tag_kn {sub : Nat → Nat → Option Bool} {t : Tag} {ts : List Ty} {b : Bool} (h : tysIs sub t ts = some b) (hne : ts ≠ []) : True := trivial
theorem tagIs_kn {sub : Nat → Nat → Option Bool} (refl : ∀ k k' b, sub k k' = some b → ∃ b', sub k k = some b') {k : Nat} {ty : Ty} {b : Bool} (h : tagIs sub (.cls k) ty = some b) : ∃ b', sub k k = some b' := by
  cases ty with
  | cls k' => exact refl k k' b h
  | _ =>
    simp only [tagIs] at h
    cases q : sub k k with
    | none => rw [q] at h; cases h
    | some b' => exact ⟨b', rfl⟩
theorem kit_any (T : Top p C) {t : Tag} : ∀ {ts : List Ty} {b : Bool}, tysIs C.sub t ts = some b → PySem.W.kitAny p.c.K (tagV p.c t) (ts.map (tyV p.c)) = some b
  | [], b, h => by
    cases h
    rfl
  | ty :: ts, b, h => by
    unfold tysIs at h
    cases h1 : tagIs C.sub t ty with
    | none => rw [h1] at h; simp at h
    | some b1 =>
      cases h2 : tysIs C.sub t ts with
      | none =>
        rw [h1, h2] at h
        cases b1 <;> simp at h
      | some b2 =>
        rw [h1, h2] at h
        refine kitAny_cons (T.kit t ty b1 h1) (fun e => ?_) fun e => ?_
        · subst e
          cases h
          exact kit_any T h2
        · subst e
          cases h
          rfl
theorem boot_blt_isi : bootBuiltins "isinstance" = some (.builtin "isinstance") := by decide +kernel
theorem pa_names (G : Good p n N sc W X) (T : Top p C) : ∀ {ts : List Ty} {es : List Expr}, (ts.length = es.length ∧ ∀ x ∈ ts.zip es, okTy p.y sc x.1 x.2 = true) → PA X es (fun _ H Q => Q (ts.map (tyW p.c)) H)
  | [], [], _ => ⟨fun pos pins s σ H Q I h => pa_nil.run pos pins s σ H Q I h⟩
  | t :: ts, e :: es, h => by
    have h1 := h.2 (t, e) (by simp)
    have ih := pa_names G T (ts := ts) (es := es) ⟨by simpa using h.1, fun x hx => h.2 x (List.mem_cons_of_mem _ hx)⟩
    exact ⟨fun pos pins s σ H Q I hq => (pa_cons (ty_name G T h1) ih (plain_star (okTy_plain h1))).run pos pins s σ H Q I hq⟩
  | [], _ :: _, h => by simp at h
  | _ :: _, [], h => by simp at h
theorem isi1_ok (G : Good p n N sc W X) (T : Top p C) (rf : ∀ k k' b, C.sub k k' = some b → ∃ b', C.sub k k = some b') (hg : okGl sc "isinstance" = true) {t : Ty} {ds : List D} {r : O} (ev : opD C (.isi [t]) ds = some r) {ea eb : Expr} (hb : okTy p.y sc t eb = true) {q pos : Pos} (pl : plainE ea = true)
    (h : T0L X [ea] σ H (Fin p.c r ds Q)) : T0 X (.Call (.Name "isinstance" q) [ea, eb] [] pos) σ H Q := by
  obtain ⟨x, rfl, e⟩ := f1_some (g := fun x => blD (tysHave C.sub [t] x)) ev
  cases h1 : x.tag with
  | none =>
    unfold tysHave at e
    rw [h1] at e
    cases e
  | some tg =>
    unfold tysHave at e
    rw [h1] at e
    dsimp only at e
    unfold tysIs tysIs at e
    cases h2 : tagIs C.sub tg t with
    | none => rw [h2] at e; cases e
    | some b =>
      have e' : r = .pure (.bl b) := by
        rw [h2] at e
        cases b <;> cases e <;> rfl
      subst e'
      obtain ⟨g1, g2, g3⟩ := G.gl hg
      refine T0.of (pe_callB call_isi g1 (by rw [G.mg]; exact T.blt _ (bln _)) boot_blt_isi (pa_cons pe0 (pa_cons (ty_name G T hb) pa_nil (plain_star (okTy_plain hb))) (plain_star pl)) g3 g2 (plain_star pl) (plain_any (by simp [okTy_plain hb]))) (T0.mono h fun v H1 k => ?_)
      obtain ⟨F, ex, r1, kf⟩ := k.one
      refine ⟨v, tyW p.c t, tagV p.c tg, tyV p.c t, b, rfl, tyW_cls t, ?_, by rw [G.K]; exact T.kit tg t b h2, fin_old ex kf rfl⟩
      rw [G.K]
      exact rep_ty T ex h1 (fun k hk => by subst hk; exact tagIs_kn rf h2) r1
theorem isiT_ok (G : Good p n N sc W X) (T : Top p C) (rf : ∀ k k' b, C.sub k k' = some b → ∃ b', C.sub k k = some b') (hg : okGl sc "isinstance" = true) {ts : List Ty} (hne : ts.length ≤ 100) {ds : List D} {r : O} (ev : opD C (.isi ts) ds = some r) {ea : Expr} {es : List Expr}
    (hb : ts.length = es.length ∧ ∀ x ∈ ts.zip es, okTy p.y sc x.1 x.2 = true) (hn : ts ≠ []) {k : Nat} {q q2 pos : Pos} (pl : plainE ea = true) (h : T0L X [ea] σ H (Fin p.c r ds Q)) : T0 X (.Call (.Name "isinstance" q) [ea, .Tuple es k q2] [] pos) σ H Q := by
  obtain ⟨x, rfl, e⟩ := f1_some (g := fun x => blD (tysHave C.sub ts x)) ev
  unfold tysHave at e
  cases h1 : x.tag with
  | none => rw [h1] at e; cases e
  | some tg =>
    rw [h1] at e
    dsimp only at e
    cases h2 : tysIs C.sub tg ts with
    | none => rw [h2] at e; cases e
    | some b =>
      rw [h2] at e
      cases e
      obtain ⟨g1, g2, g3⟩ := G.gl hg
      refine T0.of (pe_callB call_isiT g1 (by rw [G.mg]; exact T.blt _ (bln _)) boot_blt_isi (pa_cons pe0 (pa_cons (pe_tup (pa_names G T hb)) pa_nil rfl) (plain_star pl)) g3 g2 (plain_star pl) (plain_any (by simp [plainE]))) (T0.mono h fun v H1 k => ?_)
      obtain ⟨F, ex, r1, kf⟩ := k.one
      refine ⟨by rw [List.length_map, sizeLine_eq]; omega, fun tp htp => ?_⟩
      refine ⟨v, tp, ts.map (tyW p.c), tagV p.c tg, ts.map (tyV p.c), b, rfl, upd_same, ?_, ?_, by rw [G.K]; exact kit_any T h2, ?_⟩
      · clear hb hn h2 hne h kf ev
        induction ts with
        | nil => exact .nil
        | cons t ts ih => exact .cons (tyW_cls t) (ih)
      · rw [G.K]
        refine rep_ty T (ex.trans (Ex.new htp)) h1 (fun k hk => ?_) r1
        subst hk
        cases ts with
        | nil => exact absurd rfl hn
        | cons t ts =>
          unfold tysIs at h2
          cases q1 : tagIs C.sub (.cls k) t with
          | none => rw [q1] at h2; simp at h2
          | some b1 => exact tagIs_kn rf q1
      · exact kf _ _ _ _ ⟨Ex.refl F, Ex.new htp, ex.trans (Ex.new htp), fun _ h => .inl h, fun _ h => absurd h (by simp), List.nodup_nil⟩ ⟨rfl, rfl⟩
end T
namespace RT
open PySem PySem.W PySem.Calls PyProof.Rows
section
variable {prog : Program} {w : World} {A : Around} {E : Value → Shared → Prop} {s : Shared}
abbrev rvO : Obj := { cls := .type "list", data := .seq #[] }
theorem tq_ext_rev {R : Result → Shared → Prop} {it l S : Addr} {items : Array Value} {c₀ : Nat} (hh : A.handled = none) (hit : s.heap.IsRevIter it l ((items.size : Int) - 1)) (hl : s.heap.IsList l items) (hne : l ≠ it) (hn : items.size ≤ sizeLine)
    (hS : s.heap.get? S = some { cls := .type "list", data := .seq #[] c₀ }) (hSi : S ≠ it) (hSl : S ≠ l) (res : Value)
    (k : ∀ h' tk acc' c', (∀ b o, b ≠ S → b ≠ it → s.heap.get? b = some o → h'.get? b = some o) → h'.get? S = some { cls := .type "list", dict := none, data := .seq acc' c', slots := #[] } →
      ItemsOf (fun i v => items[items.size - 1 - i]? = some v) acc' items.size → R (.ok (.ret res)) { s with heap := h', toks := tk }) :
    wpAny (model prog w) A.in1 (Builtin.List.listExtendWith (.ref S) (.ref it) res)
      (fun fin s' => match fin with
        | .done f => R (.ok f) s'
        | .again c' => c'.quiet = true ∧ codeAny (model prog w) A c' R s') (fun e s' => R (.error e) s') s := by
  have W := (Walks.listRev (prog := prog) (w := w) (A := A.in1) hh it l hne items).toS
  have nS : S ∉ [it, l] := by
    simp only [List.mem_cons, List.not_mem_nil, or_false, not_or]
    exact ⟨hSi, hSl⟩
  have ty : s.TypeIs (.ref it) "list_reverseiterator" := hit.typeIs
  have sm : Builtin.List.listSameRef (.ref S) (.ref it) = false := by simp [Builtin.List.listSameRef, hSi]
  have e0 : ((items.size : Nat) : Int) - 1 - ((0 : Nat) : Int) = (items.size : Int) - 1 := by omega
  unfold Builtin.List.listExtendWith
  refine wpAny_bind (wpAny_typeOf ty ?_)
  have nc : ¬ (Builtin.List.listSameRef (.ref S) (.ref it) || Value.type "list_reverseiterator" == .type "list" || Value.type "list_reverseiterator" == .type "tuple") = true := by
    rw [sm]
    decide
  rw [if_neg nc]
  refine wpAny_bind (wpAny_pyIter_revIter hit (wpAny_bind (wpAny_holding ?_)))
  unfold Builtin.List.listLengthHint
  refine wpAny_bind (wpAny_specialOf ty nolen_lri ?_)
  show wpAny _ A.in1 (specialOf (Value.ref it) (Str.ofString "__length_hint__") >>= _) _ _ _
  refine wpAny_bind (wpAny_specialOf ty hint_lri ?_)
  generalize hid : ("list_reverseiterator.__length_hint__" : String) = id0
  wp_delta
  have sp : splitId id0 = some ("list_reverseiterator", "__length_hint__") := by
    subst hid
    decide +kernel
  rw [sp]
  subst hid
  refine wpAny_bind (wpAny_isInstance (b := true) ty (by rw [isSubtype_type]; kernel_rfl) (wpAny_pure ?_))
  rw [if_neg (by decide)]
  refine wpAny_pure ⟨plainId_quiet F.plain_extend_loop _, codeAny_extend_loopS W hn _ nS _ items.size 0 _ _ _ rfl (Nat.zero_le _) ⟨Nat.zero_le _, by rw [e0]; exact hit, hl⟩ hS (ItemsOf.nil _) fun s' acc' c' mv hS' ha => ?_⟩
  rw [Moved.eq_with mv]
  refine k s'.heap s'.toks acc' c' (fun b o b1 b2 e => mv.heap b o (fun m => ?_) e) hS' ha
  rcases List.mem_cons.mp m with z | z
  · exact b1 z
  · exact b2 (List.mem_singleton.mp z)
theorem tq_list_rev {it l : Addr} {items : Array Value} {Q : Value → Shared → Prop} (hh : A.handled = none) (hit : s.heap.IsRevIter it l ((items.size : Int) - 1)) (hl : s.heap.IsList l items) (hne : l ≠ it) (hn : items.size ≤ sizeLine)
    (k : ∀ h' tk acc' c', (∀ b o, b ≠ it → s.heap.get? b = some o → h'.get? b = some o) → h'.get? s.heap.objs.size = some { cls := .type "list", dict := none, data := .seq acc' c', slots := #[] } →
      ItemsOf (fun i v => items[items.size - 1 - i]? = some v) acc' items.size → Q (.ref s.heap.objs.size) { s with heap := h', toks := tk }) :
    wpAny (model prog w) A (call (.type "list") [.ref it]) Q E s := by
  refine callType_codes (Q₁ := fun obj s₁ => obj = .ref s.heap.objs.size ∧ s₁ = { s with heap := s.heap.push rvO }) F.called_list (F.typeCall_list_1 _) F.entry_list_init (code_list_new _ ⟨rfl, rfl⟩) fun obj s₁ h₁ => ?_
  obtain ⟨rfl, rfl⟩ := h₁
  obtain ⟨oi, hoi, _⟩ := _root_.id hit
  obtain ⟨ol, hol, _⟩ := _root_.id hl
  have n1 : s.heap.objs.size ≠ it := Nat.ne_of_gt (Heap.lt_size hoi)
  have n2 : s.heap.objs.size ≠ l := Nat.ne_of_gt (Heap.lt_size hol)
  have q0 : (s.heap.push rvO).get? s.heap.objs.size = some rvO := Heap.get?_push_size _ rfl
  have q1 := Heap.get?_update_self (Obj.mapSeq (fun _ => (#[] : Array Value))) q0 rfl
  have oth : ∀ b o, b ≠ s.heap.objs.size → s.heap.get? b = some o → ((s.heap.push rvO).update s.heap.objs.size (Obj.mapSeq (fun _ => (#[] : Array Value)))).get? b = some o := fun b o hb e =>
    (Heap.get?_update_other _ _ (Ne.symm hb)).trans (Heap.get?_push_of_some _ e)
  refine ⟨⟨_, q0, rfl⟩, F.args_list_init_2 _ _, ?_⟩
  show wpAny _ _ (do
    let old ← Builtin.List.listItems (.ref s.heap.objs.size)
    Builtin.List.listUpdate (.ref s.heap.objs.size) (fun _ => #[])
    letGo old.toList.reverse
    Builtin.List.listExtendWith (.ref s.heap.objs.size) (.ref it) .none) _ _ _
  refine wpAny_bind ?_
  unfold Builtin.List.listItems
  refine wpAny_bind (wpAny_seqItems q0 rfl (wpAny_pure ?_))
  show wpAny _ _ (updateSeq s.heap.objs.size (fun _ => #[]) >>= fun _ => letGo (#[] : Array Value).toList.reverse >>= fun _ => Builtin.List.listExtendWith (.ref s.heap.objs.size) (.ref it) .none) _ _ _
  refine wpAny_bind (wpAny_updateSeq q0 rfl (wpAny_bind (wpAny_letGo ?_)))
  refine tq_ext_rev (A := A.in1) (items := items) (l := l) hh ?_ ?_ hne hn q1 n1 n2 .none fun h' tk acc' c' hk hS' ha => ?_
  · exact hit.at fun o e => oth it o (Ne.symm n1) e
  · obtain ⟨m, e1⟩ := hl
    exact ⟨m, oth l m (Ne.symm n2) e1.1, e1.2⟩
  · exact ⟨rfl, k h' tk acc' c' (fun b o b2 e => hk b o (Nat.ne_of_lt (Heap.lt_size e)) b2 (oth b o (Nat.ne_of_lt (Heap.lt_size e)) e)) hS' ha⟩
end
end RT
namespace T
open PySem L2
section
variable {X : Cx}
theorem tq_pe_lstRev {e : Expr} {te : TE} {p p2 pos pos2 : Pos} (hc : X.calm = true) (hg : Gl X "list") (hm : X.mg "list" = none) (hg2 : Gl X "reversed") (hm2 : X.mg "reversed" = none) (he : PE X e te) (hs : starEach [e] X.env = (false, eval e X.env) :: starEach [] X.env) :
    PE X (.Call (.Name "list" p) [.Call (.Name "reversed" p2) [e] [] pos2] [] pos) (fun σ H Q => te σ H fun v H1 => ∃ (a : Addr) (xs : List V), v = .ref a ∧ SqL X.K H1 a xs ∧ ∀ q, H1 q = none → Q (.ref q) (upd H1 q (.lst xs.reverse))) := by
  have h2 : starEach [.Call (.Name "reversed" p2) [e] [] pos2] X.env = (false, eval (.Call (.Name "reversed" p2) [e] [] pos2) X.env) :: starEach [] X.env := rfl
  refine ⟨fun pins s σ H Q I h => ?_⟩
  refine PyProof.Rows.Call_ (ld_blt I hg hm PyProof.Rows.boot_list (PyProof.Rows.callWith_type1 (PyProof.Rows.args_cons (PyProof.Rows.Call_ (ld_blt I hg2 hm2 PyProof.Rows.boot_reversed (PyProof.Rows.callWith_type1 (PyProof.Rows.args_cons (thn (he.run pins s σ H _ I h) fun u s1 ⟨v, H1, I1, r1, q1⟩ => PyProof.Rows.args_nil ?_) hs) hs rfl))) h2) h2 rfl))
  obtain ⟨a, xs, rfl, hq, q⟩ := q1
  obtain rfl : u = Value.ref a := r1
  obtain ⟨its, rv, pl, hz⟩ := I1.list hq
  refine PySem.call_reversed_list pl.isList (PyProof.Rows.args_nil ?_)
  obtain ⟨ol, hol, _⟩ := id pl.isList
  have hn : its.toArray.size ≤ sizeLine := by
    rw [List.size_toArray, ← rv.length]
    exact hz
  have sz : (s1.heap.push (PySem.revObj a ((its.toArray.size : Int) - 1))).objs.size = s1.heap.objs.size + 1 := Heap.size_push ..
  refine RT.tq_list_rev (s := { s1 with heap := s1.heap.push (PySem.revObj a ((its.toArray.size : Int) - 1)) }) (I1.ok.hd hc) ⟨_, Heap.get?_push_size _ rfl, rfl, rfl⟩ (pl.isList.push _) (Nat.ne_of_lt (Heap.lt_size hol)) hn fun h' tk acc c' hk e' hi => ?_
  have hp : s1.heap.objs.size ≤ (s1.heap.push (PySem.revObj a ((its.toArray.size : Int) - 1))).objs.size := by
    rw [sz]
    exact Nat.le_succ _
  refine ⟨.ref _, upd H1 _ (.lst xs.reverse), I1.laid (t' := tk) (fun b o e => hk b o (Nat.ne_of_lt (Heap.lt_size e)) (Heap.get?_push_of_some _ e)) hp (show ObjOk X.prog X.w _ _ _ (.lst xs.reverse) from ⟨?_, acc.toList, c', RT.vals_rev rv hi, ?_⟩), rfl, q _ (I1.hok.fresh hp)⟩
  · rw [List.length_reverse]
    exact hz
  · rw [Array.toArray_toList]
    exact e'
end
section
variable {X : Cx}
/-- t.index(y), flat items -/
def rIndexT (K : PySem.W.Frag) : V → List V → Hp → VK → Prop := fun x xs H Q => ∃ (a : Addr) (ys : List V) (y : V) (j : Nat) (z : V), x = V.ref a ∧ xs = [y] ∧ SqT K H a ys ∧ flatV y = true ∧ ys.all flatV = true ∧ ys[j]? = some z ∧ eqV z y = true ∧
  (∀ (m : Nat) (z' : V), m < j → ys[m]? = some z' → eqV z' y = false) ∧ Q (.int (j : Nat)) H
theorem mt_indexT : MtR X "tuple.index" (rIndexT X.K) := by
  intro pins s σ H x xs v us Q I rx rxs h
  obtain ⟨a, ys, y, j, z, rfl, rfl, hs, fy, fys, hz, hzj, hno, q⟩ := h
  cases rx
  obtain ⟨uy, rfl, ry⟩ := vals1 rxs
  obtain ⟨its, rv, pl, hlen⟩ := I.tuple hs
  obtain ⟨⟨cls, dd, data, sl⟩, ho, hc, n, hd⟩ := pl
  simp only at hc hd
  subst hc hd
  have hvl := rv.length
  obtain ⟨u, hu, ru⟩ := rv.get hz
  obtain ⟨hjl, hje⟩ := List.getElem?_eq_some_iff.mp hu
  have hj : j < its.toArray.size := by simpa using hjl
  refine call_meets PySem.F.slot_tuple_index ⟨_, ho, rfl⟩ PySem.F.entry_tuple_index (PySem.F.args_tuple_index_2 _ _) (TI.tuple_indexAt a its.toArray n dd sl uy (eqU y) j hj ?_ fun m hm hmj => ?_)
    ⟨ho, fun w hw => mem_eqAt ry fy rv fys w (by simpa using hw), ⟨.int (j : Nat), H, I.tok _, ⟨_, rfl⟩, q⟩⟩
  · have e1 : its.toArray[j] = u := by simpa using hje
    rw [e1, eqU_of ru (flat_at fys hz)]
    exact hzj
  · have hml : m < its.length := by simpa using hm
    have hmy : m < ys.length := by omega
    have hy' : ys[m]? = some ys[m] := List.getElem?_eq_getElem hmy
    obtain ⟨u2, hu2, ru2⟩ := rv.get hy'
    obtain ⟨_, hme⟩ := List.getElem?_eq_some_iff.mp hu2
    have e1 : its.toArray[m] = u2 := by simpa using hme
    rw [e1, eqU_of ru2 (flat_at fys hy')]
    exact hno m _ hmj hy'
/-- a tuple that is tracked, as a receiver -/
theorem tupN_is {pins : List (Addr × Obj)} {σ : L2.St} {H : Hp} {s : Shared} {a : Addr} {xs : List V} (I : Inv X pins σ H s) (h : TupN X.K H a xs) : s.TypeIs (.ref a) "tuple" ∧ ∀ b, Value.ref a = .ref b → ∃ ob, s.heap.get? b = some ob ∧ ob.dict = none := by
  rcases h with ⟨o, h1, h2, h3⟩ | ⟨o, its, n, h1, h2, h3, h4, h5, h6⟩
  · have ok := I.hok a _ h1
    have e : s.heap.get? a = some o := ok.1
    refine ⟨⟨o, e, h3⟩, fun b q => ?_⟩
    cases q
    exact ⟨o, e, h2⟩
  · have e := I.kIn a o h1
    refine ⟨⟨o, e, h2⟩, fun b q => ?_⟩
    cases q
    exact ⟨o, e, h6⟩
theorem pe_bmT {o e : Expr} {es : List Expr} {to : TE} {t : TA} {name : Str} {apos cpos : Pos} {id : String} {r : V → List V → Hp → VK → Prop} (slot : Slot "tuple" name id) (hty : typeOf (.builtin id) = pure (.type "method_descriptor")) (hm : MtR X id r) (ho : PE X o to) (ha : PA X (e :: es) t)
    (hbase : attributeBase o name X.env (eval o X.env) = eval o X.env)
    (hfew : ((backTo cpos (starEach (e :: es) X.env)).all (fun x => !x.1) && (backToKw cpos (keywordEach [] X.env)).all (fun x => x.1.isSome)
      && decide ((e :: es).length + ([] : List Keyword).length + (if ([] : List Keyword).isEmpty then 0 else 1) < 30)) = true)
    (hline : (apos.endLine == cpos.line) = true) (hs : starEach (e :: es) X.env = (false, eval e X.env) :: starEach es X.env) (hplain : (backTo cpos (starEach es X.env)).any (·.1) = false) :
    PE X (.Call (.Attribute o name apos) (e :: es) [] cpos) (fun σ H Q => to σ H fun x H1 => (∃ a xs, x = .ref a ∧ TupN X.K H1 a xs) ∧ t σ H1 fun ys H2 => r x ys H2 Q) := by
  refine ⟨fun pins s σ H Q I h => ?_⟩
  refine wpAny_Call_method_late hbase hfew hline rfl (thn (ho.run pins s σ H _ I h) fun v s1 ⟨x, H1, I1, r1, ⟨a, xs, ex, ht⟩, q1⟩ => ?_)
  subst ex
  cases r1
  obtain ⟨h1, h2⟩ := tupN_is I1 ht
  refine ⟨"tuple", id, PySem.F.plainAttrs_tuple, slot, hty, h1, h2, ?_⟩
  have hA := ha.run cpos pins s1 σ H1 _ I1 q1
  rw [hs] at hA ⊢
  refine Calls.callWith_builtin (by show (false || (backTo cpos (starEach es X.env)).any (·.1)) = false; rw [hplain] <;> rfl) (Calls.evalArgs_plain ?_)
  exact thn hA fun us s2 ⟨vs, H2, I2, r2, q2⟩ => hm pins s2 σ H2 (.ref a) vs (.ref a) us Q I2 rfl r2 q2
end
section
variable {p : Pg} {C : Ctx} {n : Nat} {N : List Str} {sc : Scope} {W : WX} {X : Cx} {F H : Hp} {σ : L2.St} {c : Cn} {Q : VK}
theorem idxOf_some {y : D} : ∀ {xs : List D} {k m : Nat}, idxOf y xs k = some m → ∃ j x, m = k + j ∧ xs[j]? = some x ∧ x.feq y = true ∧ ∀ i x', i < j → xs[i]? = some x' → x'.feq y = false
  | [], k, m, h => by cases h
  | x :: xs, k, m, h => by
    unfold idxOf at h
    by_cases e : x.feq y = true
    · rw [if_pos e] at h
      cases h
      exact ⟨0, x, rfl, rfl, e, fun i x' hi => absurd hi (Nat.not_lt_zero _)⟩
    · rw [if_neg e] at h
      obtain ⟨j, x1, h1, h2, h3, h4⟩ := idxOf_some h
      refine ⟨j + 1, x1, by omega, by simpa using h2, h3, fun i x' hi hx => ?_⟩
      cases i with
      | zero =>
        simp at hx
        subst hx
        simpa using e
      | succ i => exact h4 i x' (by omega) (by simpa using hx)
theorem plain_few {e : Expr} {es : List Expr} {pos : Pos} {env : PySem.Env} (pl : (e :: es).all plainE = true) (hl : es.length < 20) :
    ((backTo pos (starEach (e :: es) env)).all (fun x => !x.1) && (backToKw pos (keywordEach [] env)).all (fun x => x.1.isSome) && decide ((e :: es).length + ([] : List Keyword).length + (if ([] : List Keyword).isEmpty then 0 else 1) < 30)) = true := by
  have h1 : (backTo pos (starEach (e :: es) env)).all (fun x => !x.1) = true := by
    have := plain_any (pos := pos) (env := env) pl
    rw [List.any_eq_false] at this
    rw [List.all_eq_true]
    intro x hx
    have h := this x hx
    cases q : x.1 with
    | true => exact absurd q h
    | false => rfl
  have h2 : (backToKw pos (keywordEach [] env)).all (fun x => x.1.isSome) = true := rfl
  rw [h1, h2]
  simp only [List.length_cons, List.length_nil, List.isEmpty_nil, if_true, Bool.true_and, decide_eq_true_eq]
  omega
/-- what is known of a receiver at once -/
def BmK (c : Cn) (d : D) (v : V) (H : Hp) : Prop := ∃ F, Ex F H ∧ Rep c F d v
theorem index_ok (G : Good p n N sc W X) {x : D} {ds : List D} {r : O} (ev : opD C .index (x :: ds) = some r) {ea eb : Expr} {apos cpos : Pos} (hl : (apos.endLine == cpos.line) = true) (pa : plainE ea = true) (pb : plainE eb = true)
    {t : Tag} (ht : x.tag = some t) (h : T0 X ea σ H fun v H1 => (∀ xs, x = .tup xs → ∃ a vs, v = .ref a ∧ TupN X.K H1 a vs) ∧ (∀ xs, x = .lst xs → ∃ a vs, v = .ref a ∧ SqL X.K H1 a vs) ∧ T0L X [eb] σ H1 fun vs H2 => Fin p.c r (x :: ds) Q (v :: vs) H2) :
    T0 X (.Call (.Attribute ea "index" apos) [eb] [] cpos) σ H Q := by
  obtain ⟨x', y, e0, e⟩ := f2_some (g := indexD) ev
  cases e0
  have one : ∀ {xs : List D}, idxOk y xs = some r → ∃ j z, r = .pure (.int (j : Nat)) ∧ y.flat = true ∧ xs.all D.flat = true ∧ xs[j]? = some z ∧ z.feq y = true ∧ ∀ i x', i < j → xs[i]? = some x' → x'.feq y = false := fun {xs} e => by
    unfold idxOk at e
    split at e
    · rename_i hf
      have hf' : y.flat = true ∧ xs.all D.flat = true := by simpa using hf
      cases q : idxOf y xs 0 with
      | none => rw [q] at e; cases e
      | some m =>
        rw [q] at e
        cases e
        obtain ⟨j, z, rfl, h2, h3, h4⟩ := idxOf_some q
        exact ⟨j, z, by simp, hf'.1, hf'.2, h2, h3, h4⟩
    · cases e
  have vals : ∀ {xs : List D} {vs : List V} {v : V} {j : Nat} {z : D} {F : Hp}, Reps p.c F xs vs → Rep p.c F y v → y.flat = true → xs.all D.flat = true → xs[j]? = some z → z.feq y = true → (∀ i x', i < j → xs[i]? = some x' → x'.feq y = false) →
      ∃ w, flatV v = true ∧ vs.all flatV = true ∧ vs[j]? = some w ∧ eqV w v = true ∧ ∀ (m : Nat) (z' : V), m < j → vs[m]? = some z' → eqV z' v = false := fun {xs vs v j z F} rs ry fy fxs hz hq hno => by
    obtain ⟨rfl, f1⟩ := flat_rep fy ry
    obtain ⟨rfl, f2⟩ := flats_rep fxs rs
    refine ⟨z.toV, f1, f2, by rw [List.getElem?_map, hz]; rfl, hq, fun m z' hm hz' => ?_⟩
    rw [List.getElem?_map] at hz'
    cases q : xs[m]? with
    | none => rw [q] at hz'; cases hz'
    | some x' =>
      rw [q] at hz'
      cases hz'
      exact hno m x' hm q
  have pls : [eb].all plainE = true := by simp [pb]
  cases x <;> simp only [indexD, reduceCtorEq] at e
  · obtain ⟨j, z, rfl, fy, fxs, hz, hq, hno⟩ := one e
    refine T0.of (pe_bmT PySem.F.slot_tuple_index PySem.F.type_tuple_index mt_indexT pe0 (pa_cons pe0 pa_nil (plain_star pb)) (plain_att pa _ _ _) (plain_few pls (by simp)) hl (plain_star pb) rfl) (T0.mono h fun v H1 ⟨k1, _, k2⟩ => ⟨k1 _ rfl, T0.mono k2 fun w H2 k => ?_⟩)
    obtain ⟨F, ex, ⟨a, vs, e1, h1, h2⟩, h3, kf⟩ := Fin.two k
    subst e1
    obtain ⟨z', f1, f2, f3, f4, f5⟩ := vals h2 h3 fy fxs hz hq hno
    exact ⟨a, vs, w, j, z', rfl, rfl, by rw [G.K]; exact ex_t ex h1, f1, f2, f3, f4, f5, fin_old ex kf rfl⟩
  · obtain ⟨j, z, rfl, fy, fxs, hz, hq, hno⟩ := one e
    refine T0.of (pe_bm PySem.F.plainAttrs_list PySem.F.slot_list_index PySem.F.type_list_index mt_index pe0 (pa_cons pe0 pa_nil (plain_star pb)) (plain_att pa _ _ _) (plain_few pls (by simp)) hl (plain_star pb) rfl) (T0.mono h fun v H1 ⟨_, k1, k2⟩ => ?_)
    obtain ⟨a, vs, rfl, ha⟩ := k1 _ rfl
    refine ⟨.inl ⟨rfl, vs, ha⟩, T0.mono k2 fun w H2 k => ?_⟩
    obtain ⟨F, ex, ⟨a', vs', e1, h1, h2⟩, h3, kf⟩ := Fin.two k
    cases e1
    obtain ⟨z', f1, f2, f3, f4, f5⟩ := vals h2 h3 fy fxs hz hq hno
    exact ⟨a, vs', w, j, z', rfl, rfl, by rw [G.K]; exact ex_l ex h1, f1, f2, f3, f4, f5, fin_old ex kf rfl⟩
theorem bits_eq (i : Int) : ((Builtin.Int.intBits i : Nat) : Int) = if i = 0 then 0 else ((i.natAbs.log2 : Nat) : Int) + 1 := by
  unfold Builtin.Int.intBits
  by_cases h : i = 0
  · subst h
    rfl
  · have e : (i == 0) = false := by simpa using h
    rw [e, if_neg h]
    simp
theorem bitl_ok {ds : List D} {r : O} (ev : opD C .bitl ds = some r) {ea : Expr} {apos cpos : Pos} (hl : (apos.endLine == cpos.line) = true) (pa : plainE ea = true) (h : T0L X [ea] σ H (Fin p.c r ds Q)) :
    T0 X (.Call (.Attribute ea "bit_length" apos) [] [] cpos) σ H Q := by
  obtain ⟨x, rfl, e⟩ := f1_some (g := bitlD) ev
  cases x <;> simp only [bitlD, reduceCtorEq] at e
  rename_i i
  cases e
  refine T0.of (pe_bits pe0 (plain_att pa _ _ _) hl) (T0.mono h fun v H1 k => ?_)
  obtain ⟨F, ex, h1, kf⟩ := Fin.one k
  refine ⟨i, h1, ?_⟩
  refine fin_old ex kf ?_
  show V.int _ = V.int _
  rw [bits_eq]
theorem irange_map : ∀ (m : Nat) (lo : Int), irange lo m = (List.range m).map fun i => D.int (lo + (i : Nat))
  | 0, _ => rfl
  | m + 1, lo => by
    rw [irange, irange_map m, List.range_succ_eq_map, List.map_cons, List.map_map]
    refine congr (congrArg _ ?_) (List.map_congr_left fun a _ => ?_)
    · simp
    · show D.int _ = D.int _
      congr 1
      rw [Nat.succ_eq_add_one]
      push_cast
      omega
theorem reps_rg {F : Hp} (j : Int) : Reps c F (irange 0 j.toNat) (rgV 0 j) := by
  have e : rgV 0 j = (((List.range j.toNat).map fun i => (0 : Int) + (i : Nat))).map V.int := by
    unfold rgV
    rw [List.map_map, Int.sub_zero]
    rfl
  rw [e, irange_map]
  have e2 : (List.range j.toNat).map (fun i => D.int ((0 : Int) + (i : Nat))) = (((List.range j.toNat).map fun i => (0 : Int) + (i : Nat))).map D.int := by
    rw [List.map_map]
    rfl
  rw [e2]
  exact reps_ints
theorem lrng_ok (G : Good p n N sc W X) (T : Top p C) (g1 : okGl sc "list" = true) (g2 : okGl sc "range" = true) {ds : List D} {r : O} (ev : opD C .lrng ds = some r) {ea : Expr} {q1 q2 pos2 pos : Pos} (pa : plainE ea = true) (h : T0L X [ea] σ H (Fin p.c r ds Q)) :
    T0 X (.Call (.Name "list" q1) [.Call (.Name "range" q2) [ea] [] pos2] [] pos) σ H Q := by
  obtain ⟨x, rfl, e⟩ := f1_some (g := lrngD) ev
  cases x <;> simp only [lrngD, reduceCtorEq] at e
  rename_i j
  split at e <;> cases e
  rename_i hj
  obtain ⟨a1, a2, a3⟩ := G.gl g1
  obtain ⟨b1, b2, b3⟩ := G.gl g2
  refine T0.of (pe_listRg G.calm a1 (by rw [G.mg]; exact T.blt _ (bln _)) (prg_1 b1 (by rw [G.mg]; exact T.blt _ (bln _)) pe0 (plain_star pa))) (T0.mono h fun v H1 k => ?_)
  obtain ⟨F, ex, h1, kf⟩ := Fin.one k
  have hj' : (decide (-4611686018427387904 ≤ j) = true ∧ decide (j < 4611686018427387904) = true) ∧ decide (j.toNat ≤ 16777216) = true := by
    unfold rngOk lenOk at hj
    simpa [Bool.and_eq_true] using hj
  have e1 := of_decide_eq_true hj'.1.1
  have e2 := of_decide_eq_true hj'.1.2
  have e3 := of_decide_eq_true hj'.2
  refine ⟨j, h1, ⟨by decide, by decide, e1, e2, ?_⟩, fin_lst ex kf (reps_rg j)⟩
  rw [Int.sub_zero]
  exact e3
theorem lrev_ok (G : Good p n N sc W X) (T : Top p C) (g1 : okGl sc "list" = true) (g2 : okGl sc "reversed" = true) {ds : List D} {r : O} (ev : opD C .lrev ds = some r) {ea : Expr} {q1 q2 pos2 pos : Pos} (pa : plainE ea = true) (h : T0L X [ea] σ H (Fin p.c r ds Q)) :
    T0 X (.Call (.Name "list" q1) [.Call (.Name "reversed" q2) [ea] [] pos2] [] pos) σ H Q := by
  obtain ⟨x, rfl, e⟩ := f1_some (g := lrevD) ev
  cases x <;> simp only [lrevD, reduceCtorEq] at e
  cases e
  obtain ⟨a1, a2, a3⟩ := G.gl g1
  obtain ⟨b1, b2, b3⟩ := G.gl g2
  refine T0.of (tq_pe_lstRev G.calm a1 (by rw [G.mg]; exact T.blt _ (bln _)) b1 (by rw [G.mg]; exact T.blt _ (bln _)) pe0 (plain_star pa)) (T0.mono h fun v H1 k => ?_)
  obtain ⟨F, ex, h1, kf⟩ := Fin.one k
  obtain ⟨a, vs, rfl, h2, h3⟩ := h1
  exact ⟨a, vs, rfl, by rw [G.K]; exact ex_l ex h2, fin_lst ex kf h3.reverse⟩
end
end T
namespace T
open PySem L2
variable {p : Pg} {C : Ctx} {n : Nat} {N : List Str} {sc : Scope} {W : WX} {X : Cx} {F H F1 H1 : Hp} {σ : L2.St} {c : Cn} {Q : VK} {env env1 : Env} {L L1 : List Addr}
/-- what stands of an error -/
def XRep (c : Cn) (F : Hp) (x : Exn) (d : Option Addr) : Prop := ∃ dx fs vs, d = some dx ∧ F dx = some (.xd fs) ∧ Reps c F x.vs vs ∧ x.ns.length = x.vs.length ∧ ∀ (i : Nat) (m : Nat) (v : V), x.ns[i]? = some m → vs[i]? = some v → fs.lookup (c.FN m) = some v
def OkP (c : Cn) (F H : Hp) (L : List Addr) (σ : L2.St) (env1 : Env) (o : O) (Q : VK) : Prop := ∀ F1 H1 L1 v Lv, After F H L F1 H1 (L1 ++ Lv) → Cfv c F1 H1 σ env1 L1 o v Lv → Q v H1
def ErP (c : Cn) (F H : Hp) (L : List Addr) (σ : L2.St) (W : WX) (env1 : Env) (x : Exn) : Prop := ∀ F1 H1 L1 d, After F H L F1 H1 L1 → Cfg c F1 H1 σ env1 L1 → XRep c F1 x d → W (.ref (c.CA x.c)) d σ H1
def OutE (c : Cn) (F H : Hp) (L : List Addr) (σ : L2.St) (W : WX) (Q : VK) : Except Exn O × Env → Prop
  | (.ok o, env1) => OkP c F H L σ env1 o Q
  | (.error x, env1) => ErP c F H L σ W env1 x
def ArgP (c : Cn) (F H : Hp) (L : List Addr) (σ : L2.St) (env1 : Env) (x : Arg) (Q : VK) : Prop := ∀ F1 H1 L1 v, After F H L F1 H1 L1 → Cfg c F1 H1 σ env1 L1 → ArgRep c F1 H1 σ x v → Q v H1
def OutA (c : Cn) (F H : Hp) (L : List Addr) (σ : L2.St) (W : WX) (Q : VK) : Except Exn Arg × Env → Prop
  | (.ok x, env1) => ArgP c F H L σ env1 x Q
  | (.error x, env1) => ErP c F H L σ W env1 x
def ArgsP (c : Cn) (F H : Hp) (L : List Addr) (σ : L2.St) (env1 : Env) (as : List Arg) (R : List V → Hp → Prop) : Prop := ∀ F1 H1 L1 vs, After F H L F1 H1 L1 → Cfg c F1 H1 σ env1 L1 → ArgsRep c F1 H1 σ as vs → R vs H1
theorem ErP.after (h : ErP c F H L σ W env x) (a : After F H L F1 H1 L1) : ErP c F1 H1 L1 σ W env x := fun F2 H2 L2 d b g r => h F2 H2 L2 d (a.trans b) g r
theorem OkP.after {o : O} (h : OkP c F H L σ env o Q) (a : After F H L F1 H1 L1) : OkP c F1 H1 L1 σ env o Q := fun F2 H2 L2 v Lv b g => h F2 H2 L2 v Lv (a.trans b) g
theorem OutE.after {out : Except Exn O × Env} (h : OutE c F H L σ W Q out) (a : After F H L F1 H1 L1) : OutE c F1 H1 L1 σ W Q out := by
  obtain ⟨r, e⟩ := out
  cases r with
  | ok o => exact OkP.after h a
  | error x => exact ErP.after h a
/-- a new value, held fast -/
theorem Cfv.settle {o : O} {v : V} {Lv : List Addr} (g : Cfv c F1 H1 σ env1 L1 o v Lv) (a : After F H L F1 H1 (L1 ++ Lv)) :
    After F H L (addF F1 H1 Lv) H1 L1 ∧ Cfg c (addF F1 H1 Lv) H1 σ env1 L1 ∧ Rep c (addF F1 H1 Lv) o.fz v := by
  have nd := List.nodup_append.mp g.nd
  refine ⟨⟨a.fs.trans (ex_addF g.ow), a.fr, a.dm, fun x hx => a.lo x (List.mem_append_left _ hx), fun x hx => ?_⟩, ⟨addF_ex g.cfg.ex, RepE.mono (ex_addF g.ow) (fun _ _ _ e => e) g.cfg.rep, g.cfg.nd, fun x hx => ?_⟩, RepO.froz (ex_addF g.ow) (fun x hx u e => by rw [addF_in hx]; exact e) g.val⟩
  · by_cases m : x ∈ Lv
    · exact .inr (a.lo x (List.mem_append_right _ m))
    · rw [addF_out m] at hx
      exact a.fn x hx
  · rw [addF_out fun m => nd.2.2 x hx x m rfl]
    exact g.cfg.ow x hx
/-- a place, held fast -/
theorem freeze_ok (g : Cfg c F H σ env L) {i : Nat} {p : List Step} {d : D} (e : env.freeze i p = some (d, env1)) {v : V} (r : ArgRep c F H σ (.ref i p) v) : ∃ F1 L1, After F H L F1 H L1 ∧ Cfg c F1 H σ env1 L1 ∧ Rep c F1 d v := by
  obtain ⟨M, L', v0, v', o, z, h1, h2, h3, h4, rfl, h5⟩ := g.freeze e
  obtain rfl := r.uniq h1 h2
  exact ⟨_, L', z.after g, z.cfg, h3⟩
theorem hold_ok (g : Cfg c F H σ env L) {a : Arg} {o : O} (e : hold a env = some (.ok o, env1)) (q : OkP c F H L σ env1 o Q) {v : V} (r : ArgRep c F H σ a v) : Q v H := by
  cases a with
  | val d =>
    cases e
    exact q F H L v [] ((After.refl F H L).sub (by simp)) ⟨g, ⟨r, rfl⟩, by simpa using g.nd, fun _ h => absurd h (by simp)⟩
  | ref i p =>
    unfold hold at e
    dsimp only at e
    cases h : env.freeze i p with
    | none => rw [h] at e; cases e
    | some y =>
      obtain ⟨d, env'⟩ := y
      rw [h] at e
      cases e
      obtain ⟨F1, L1, a, g1, r1⟩ := freeze_ok g h r
      exact q F1 H L1 v [] (a.sub (by simp)) ⟨g1, ⟨r1, rfl⟩, by simpa using g1.nd, fun _ h => absurd h (by simp)⟩
theorem hold_noerr {a : Arg} {x : Exn} (e : hold a env = some (.error x, env1)) : False := by
  cases a with
  | val d => cases e
  | ref i p =>
    unfold hold at e
    dsimp only at e
    cases h : env.freeze i p with
    | none => rw [h] at e; cases e
    | some y => rw [h] at e; cases e
theorem pin_ok (g : Cfg c F H σ env L) {a a' : Arg} (e : pin a env = some (a', env1)) {v : V} (r : ArgRep c F H σ a v) : ∃ F1 L1, After F H L F1 H L1 ∧ Cfg c F1 H σ env1 L1 ∧ ArgRep c F1 H σ a' v ∧ (∀ i s p, a' ≠ .ref i (s :: p)) := by
  cases a with
  | val d =>
    cases e
    exact ⟨F, L, .refl F H L, g, r, fun _ _ _ h => by cases h⟩
  | ref i p =>
    cases p with
    | nil =>
      cases e
      exact ⟨F, L, .refl F H L, g, r, fun _ _ _ h => by cases h⟩
    | cons s p =>
      unfold pin at e
      dsimp only at e
      cases h : env.freeze i (s :: p) with
      | none => rw [h] at e; cases e
      | some y =>
        obtain ⟨d, env'⟩ := y
        rw [h] at e
        cases e
        obtain ⟨F1, L1, a, g1, r1⟩ := freeze_ok g h r
        exact ⟨F1, L1, a, g1, r1, fun _ _ _ h => by cases h⟩
/-- it stays what it is -/
theorem ArgRep.stay {a : Arg} {v : V} (r : ArgRep c F H σ a v) (e : Ex F F1) (h : ∀ i s p, a ≠ .ref i (s :: p)) : ArgRep c F1 H1 σ a v := by
  cases a with
  | val d => exact Rep.mono e r
  | ref i p =>
    cases p with
    | nil =>
      obtain ⟨v0, e1, e2⟩ := r
      cases e2
      exact ⟨v, e1, .nil v⟩
    | cons s p => exact absurd rfl (h i s p)
def parts (y : Sy) (sc : Scope) : Op → Expr → Option (List Expr)
  | .neg, .UnaryOp .USub ea _ => some [ea]
  | .not, .UnaryOp .Not ea _ => some [ea]
  | .tup, .Tuple eas _ _ => some eas
  | .lst, .List eas _ => some eas
  | .idx, .Subscript ea eb _ => some [ea, eb]
  | .slc false false, .Subscript ea (.Slice none none none _) _ => some [ea]
  | .slc true false, .Subscript ea (.Slice (some eb) none none _) _ => some [ea, eb]
  | .slc false true, .Subscript ea (.Slice none (some eb) none _) _ => some [ea, eb]
  | .slc true true, .Subscript ea (.Slice (some eb) (some ec) none _) _ => some [ea, eb, ec]
  | .att f, .Attribute ea x _ => if y.fd[f]? == some x then some [ea] else none
  | .lrng, .Call (.Name a _) [.Call (.Name b _) [ea] [] _] [] _ => if a == ("list" : Str) && b == ("range" : Str) && okGl sc "list" && okGl sc "range" then some [ea] else none
  | .lrev, .Call (.Name a _) [.Call (.Name b _) [ea] [] _] [] _ => if a == ("list" : Str) && b == ("reversed" : Str) && okGl sc "list" && okGl sc "reversed" then some [ea] else none
  | .isi [t], .Call (.Name a _) [ea, .Name b q] [] _ => if a == ("isinstance" : Str) && okGl sc "isinstance" && okTy y sc t (.Name b q) then some [ea] else none
  | .isi ts, .Call (.Name a _) [ea, .Tuple es _ _] [] _ => if a == ("isinstance" : Str) && okGl sc "isinstance" && decide (ts.length = es.length) && decide (ts.length ≤ 100) && !ts.isEmpty && (ts.zip es).all (fun x => okTy y sc x.1 x.2) then some [ea] else none
  | o, .BinOp ea o' eb _ => if okBin o o' then some [ea, eb] else none
  | o, .Compare ea [o'] [eb] _ => if okCmp o o' then some [ea, eb] else none
  | o, .Call (.Name nm _) (ea :: eas) [] _ => if okB o nm && okGl sc nm then some (ea :: eas) else none
  | _, _ => none
def refl' (C : Ctx) : Prop := ∀ k k' b, C.sub k k' = some b → ∃ b', C.sub k k = some b'
theorem two_of {ds : List D} {g : D → D → Option O} {r : O} (e : f2 g ds = some r) : ∃ x y, ds = [x, y] := by
  obtain ⟨x, y, h, _⟩ := f2_some e
  exact ⟨x, y, h⟩
theorem bin_two {o : Op} {o' : Operator} (h : okBin o o' = true) {ds : List D} {r : O} (e : opD C o ds = some r) : ∃ x y, ds = [x, y] := by
  cases o <;> cases o' <;> simp only [okBin, Bool.false_eq_true] at h <;> exact two_of e
theorem cmp_two {o : Op} {o' : CmpOp} (h : okCmp o o' = true) {ds : List D} {r : O} (e : opD C o ds = some r) : ∃ x y, ds = [x, y] := by
  cases o <;> cases o' <;> simp only [okCmp, Bool.false_eq_true] at h <;> exact two_of e
theorem op_ok (T : Top p C) (rf : refl' C) (G : Good p n N sc W X) {o : Op} {e : Expr} {eas : List Expr} (hp : parts p.y sc o e = some eas) (pl : eas.all plainE = true) {ds : List D} {r : O} (ev : opD C o ds = some r) {as : List Arg} (pre : opPre o as = true)
    (h : T0K X eas as σ H (Fin p.c r ds Q)) : T0 X e σ H Q := by
  have hL := h.toL
  unfold parts at hp
  split at hp
  · cases hp
    obtain ⟨x, rfl, _⟩ := f1_some (g := negD) ev
    exact neg_ok ev hL
  · cases hp
    obtain ⟨x, rfl, _⟩ := f1_some (g := notD) ev
    exact not_ok G ev hL
  · cases hp
    exact tup_ok ev pl hL
  · cases hp
    exact lst_ok ev pl hL
  · cases hp
    obtain ⟨x, y, rfl, _⟩ := f2_some (g := fun x k => dO (x.idx k)) ev
    simp only [List.all_cons, List.all_nil, Bool.and_true, Bool.and_eq_true] at pl
    exact idx_ok G ev pl.2 hL
  · cases hp
    exact slc0_ok G ev hL
  · cases hp
    exact slc1_ok G ev hL
  · cases hp
    exact slc2_ok G ev hL
  · cases hp
    exact slc3_ok G ev pre h
  · split at hp <;> cases hp
    rename_i hf
    obtain ⟨x, rfl, _⟩ := f1_some (g := fun x => dO (x.att C.fld _)) ev
    simp only [List.all_cons, List.all_nil, Bool.and_true] at pl
    exact att_ok G T ev (beq_opt hf) pl hL
  · split at hp <;> cases hp
    rename_i hf
    simp only [Bool.and_eq_true] at hf
    obtain ⟨⟨⟨h1, h2⟩, h3⟩, h4⟩ := hf
    obtain rfl := eq_of_beq h1
    obtain rfl := eq_of_beq h2
    simp only [List.all_cons, List.all_nil, Bool.and_true] at pl
    exact lrng_ok G T h3 h4 ev pl hL
  · split at hp <;> cases hp
    rename_i hf
    simp only [Bool.and_eq_true] at hf
    obtain ⟨⟨⟨h1, h2⟩, h3⟩, h4⟩ := hf
    obtain rfl := eq_of_beq h1
    obtain rfl := eq_of_beq h2
    simp only [List.all_cons, List.all_nil, Bool.and_true] at pl
    exact lrev_ok G T h3 h4 ev pl hL
  · split at hp <;> cases hp
    rename_i hf
    simp only [Bool.and_eq_true] at hf
    obtain ⟨⟨h1, h2⟩, h3⟩ := hf
    obtain rfl := eq_of_beq h1
    simp only [List.all_cons, List.all_nil, Bool.and_true] at pl
    exact isi1_ok G T rf h2 ev h3 pl hL
  · split at hp <;> cases hp
    rename_i hf
    simp only [Bool.and_eq_true, decide_eq_true_eq, Bool.not_eq_true', List.all_eq_true] at hf
    obtain ⟨⟨⟨⟨⟨h1, h2⟩, h3⟩, h4⟩, h5⟩, h6⟩ := hf
    obtain rfl := eq_of_beq h1
    simp only [List.all_cons, List.all_nil, Bool.and_true] at pl
    exact isiT_ok G T rf h2 h4 ev ⟨h3, h6⟩ (fun z => by rw [z] at h5; cases h5) pl hL
  · split at hp <;> cases hp
    rename_i hf
    have h2 := bin_two hf ev
    obtain ⟨x, y, rfl⟩ := h2
    exact bin_ok G hf ev hL
  · split at hp <;> cases hp
    rename_i hf
    have h2 := cmp_two hf ev
    obtain ⟨x, y, rfl⟩ := h2
    simp only [List.all_cons, List.all_nil, Bool.and_true, Bool.and_eq_true] at pl
    exact cmp_ok G hf ev pl.2 hL
  · split at hp <;> cases hp
    rename_i hf
    simp only [Bool.and_eq_true] at hf
    exact bi_ok G T hf.1 hf.2 ev pl hL
  · cases hp
end T
namespace T
open PySem L2
variable {p : Pg} {C : Ctx} {n : Nat} {N : List Str} {sc : Scope} {W : WX} {X : Cx} {F H F1 H1 : Hp} {σ : L2.St} {c : Cn} {Q : VK} {env env1 : Env} {L L1 : List Addr}
def noSl3 : Op → Bool
  | .slc true true => false
  | _ => true
def Nope : List V → Hp → Prop := fun _ _ => False
theorem bi_err (G : Good p n N sc W X) (T : Top p C) {o : Op} {nm : Str} (ho : okB o nm = true) (hg : okGl sc nm = true) {ea : Expr} {es : List Expr} {q pos : Pos} (pl : (ea :: es).all plainE = true)
    (h : T0L X (ea :: es) σ H Nope) : T0 X (.Call (.Name nm q) (ea :: es) [] pos) σ H Q := by
  have go : ∀ {ds : List D} {r : O}, opD C o ds = some r → T0 X (.Call (.Name nm q) (ea :: es) [] pos) σ H Q := fun {ds r} ev => bi_ok G T ho hg ev pl (T0L.mono h fun _ _ z => z.elim)
  cases o <;> simp only [okB, Bool.false_eq_true] at ho
  · exact go (ds := [.tup []]) rfl
  · exact go (ds := [.int 0]) rfl
  · exact go (ds := [.int 0, .int 0]) rfl
  · exact go (ds := [.int 0, .int 0]) rfl
  · exact go (ds := [.int 0]) rfl
  · exact go (ds := [.lst []]) rfl
  · exact go (ds := [.lst []]) rfl
  · exact go (ds := [.lst []]) (r := .lst []) (by simp [opD, f1, sortedD, sortOk, sortD])
  · exact go (ds := [.lst []]) rfl
  · exact go (ds := [.lst []]) rfl
  · exact go (ds := [.lst []]) rfl
theorem op_err (T : Top p C) (G : Good p n N sc W X) {o : Op} {e : Expr} {eas : List Expr} (hp : parts p.y sc o e = some eas) (pl : eas.all plainE = true) (ns : noSl3 o = true) (h : T0L X eas σ H Nope) : T0 X e σ H Q := by
  have no : ∀ {R : List V → Hp → Prop}, T0L X eas σ H R := fun {R} => T0L.mono h fun _ _ z => z.elim
  unfold parts at hp
  split at hp
  · cases hp
    exact neg_ok (p := p) (C := C) (x := .int 0) (r := .pure (.int 0)) rfl no
  · cases hp
    exact not_ok (C := C) (x := .non) G rfl no
  · cases hp
    exact tup_ok (p := p) (C := C) (ds := []) rfl pl no
  · cases hp
    exact lst_ok (p := p) (C := C) (ds := []) rfl pl no
  · cases hp
    simp only [List.all_cons, List.all_nil, Bool.and_true, Bool.and_eq_true] at pl
    exact idx_ok (C := C) (d := .tup [.non]) (k := .int 0) G rfl pl.2 no
  · cases hp
    exact slc0_ok (C := C) (ds := [.tup []]) G rfl no
  · cases hp
    exact slc1_ok (C := C) (ds := [.tup [], .int 0]) G rfl no
  · cases hp
    exact slc2_ok (C := C) (ds := [.tup [], .int 0]) G rfl no
  · cases ns
  · split at hp <;> cases hp
    simp only [List.all_cons, List.all_nil, Bool.and_true] at pl
    exact T0.of (pe_fld pe0 (plain_att pl _ _ _)) (T0.mono h fun _ _ z => z.elim)
  · split at hp <;> cases hp
    rename_i hf
    simp only [Bool.and_eq_true] at hf
    obtain ⟨⟨⟨h1, h2⟩, h3⟩, h4⟩ := hf
    obtain rfl := eq_of_beq h1
    obtain rfl := eq_of_beq h2
    simp only [List.all_cons, List.all_nil, Bool.and_true] at pl
    exact lrng_ok (ds := [.int 0]) G T h3 h4 (r := .lst []) (by simp [opD, f1, lrngD, rngOk, lenOk, irange]) pl no
  · split at hp <;> cases hp
    rename_i hf
    simp only [Bool.and_eq_true] at hf
    obtain ⟨⟨⟨h1, h2⟩, h3⟩, h4⟩ := hf
    obtain rfl := eq_of_beq h1
    obtain rfl := eq_of_beq h2
    simp only [List.all_cons, List.all_nil, Bool.and_true] at pl
    exact lrev_ok (ds := [.lst []]) G T h3 h4 rfl pl no
  · split at hp <;> cases hp
    rename_i hf
    simp only [Bool.and_eq_true] at hf
    obtain ⟨⟨h1, h2⟩, h3⟩ := hf
    obtain rfl := eq_of_beq h1
    simp only [List.all_cons, List.all_nil, Bool.and_true] at pl
    obtain ⟨g1, g2, g3⟩ := G.gl h2
    exact T0.of (pe_callB call_isi g1 (by rw [G.mg]; exact T.blt _ (bln _)) boot_blt_isi (pa_cons pe0 (pa_cons (ty_name G T h3) pa_nil (plain_star (okTy_plain h3))) (plain_star pl)) g3 g2 (plain_star pl) (plain_any (by simp [okTy_plain h3]))) (T0.mono h fun _ _ z => z.elim)
  · split at hp <;> cases hp
    rename_i hf
    simp only [Bool.and_eq_true, decide_eq_true_eq, Bool.not_eq_true', List.all_eq_true] at hf
    obtain ⟨⟨⟨⟨⟨h1, h2⟩, h3⟩, h4⟩, h5⟩, h6⟩ := hf
    obtain rfl := eq_of_beq h1
    simp only [List.all_cons, List.all_nil, Bool.and_true] at pl
    obtain ⟨g1, g2, g3⟩ := G.gl h2
    exact T0.of (pe_callB call_isiT g1 (by rw [G.mg]; exact T.blt _ (bln _)) boot_blt_isi (pa_cons pe0 (pa_cons (pe_tup (pa_names G T ⟨h3, h6⟩)) pa_nil rfl) (plain_star pl)) g3 g2 (plain_star pl) (plain_any (by simp [plainE]))) (T0.mono h fun _ _ z => z.elim)
  · split at hp <;> cases hp
    exact T0.of (pe_op (r := fun _ _ _ _ => False) (fun _ _ _ _ _ _ _ _ _ _ _ _ z => z.elim) pe0 pe0) (T0.mono h fun _ _ h1 => T0.mono h1 fun _ _ z => z.elim)
  · split at hp <;> cases hp
    simp only [List.all_cons, List.all_nil, Bool.and_true, Bool.and_eq_true] at pl
    exact T0.of (pe_cmpR (r := fun _ _ _ _ => False) (fun _ _ _ _ _ _ _ _ _ _ _ _ z => z.elim) pe0 pe0 (plain_mark pl.2)) (T0.mono h fun _ _ h1 => T0.mono h1 fun _ _ z => z.elim)
  · split at hp <;> cases hp
    rename_i hf
    simp only [Bool.and_eq_true] at hf
    exact bi_err G T hf.1 hf.2 pl h
  · cases hp
/-- an operation upon arguments -/
theorem opRes_ok (g : Cfg c F H σ env L) {as : List Arg} {vs : List V} (r : ArgsRep c F H σ as vs) {ds : List D} {l : Bool} {env' : Env} (h : freezes as env = some (ds, l, env')) {o : O} (q : OkP c F H L σ (if o.free && l then env else env') o Q) : Fin c o ds Q vs H := by
  obtain ⟨M, L', z, z2, z3⟩ := g.freezes h r
  refine ⟨_, z.cfg.ex, z2, fun F' H' v Lv w rv => ?_⟩
  obtain ⟨F'', L'', a, cf⟩ := z.grow g z3 w rv
  exact q F'' H' L'' v Lv a cf
theorem opRes_inv {as : List Arg} {f : List D → Option O} {out : Except Exn O × Env} (e : opRes f as env = some out) : ∃ ds l env' o, freezes as env = some (ds, l, env') ∧ f ds = some o ∧ out = (.ok o, if o.free && l then env else env') := by
  unfold opRes at e
  cases h : freezes as env with
  | none => rw [h] at e; cases e
  | some y =>
    obtain ⟨ds, l, env'⟩ := y
    rw [h] at e
    dsimp only at e
    cases h2 : f ds with
    | none => rw [h2] at e; cases e
    | some o =>
      rw [h2] at e
      cases e
      exact ⟨ds, l, env', o, rfl, h2, rfl⟩
end T
namespace T
open PySem L2
variable {p : Pg} {C : Ctx} {n : Nat} {N : List Str} {sc : Scope} {W : WX} {X : Cx} {F F' F1 F2 H H1 : Hp} {σ : L2.St} {c : Cn} {Q : VK} {env env1 : Env} {L L' L1 M : List Addr}
theorem Cfg.take (g : Cfg c F H σ env L) {i : Nat} {o : O} (h : env[i]? = some (some o)) : ∃ v L0 M, σ[i]? = some (some v) ∧ Cfg c F H σ (env.set i none) L0 ∧ RepO c F H o v M ∧ (∀ a, a ∈ L ↔ a ∈ L0 ∨ a ∈ M) ∧ M.Nodup ∧ ∀ a ∈ M, a ∉ L0 := by
  obtain ⟨x, A, M, B, h1, rfl, ⟨v, rfl, h3⟩, h4⟩ := g.rep.at h
  have nd := nodup3 g.nd
  have r := h4 F H none (some v) [] (Ex.refl F) (fun _ _ _ e => e) rfl
  rw [set_self h1] at r
  exact ⟨v, A ++ B, M, h1, ⟨g.ex, by simpa using r, nd.1, fun a ha => g.ow a (mem3.mpr (.inl ha))⟩, h3, fun a => mem3, nd.2.1, nd.2.2⟩
theorem Cfg.give (g : Cfg c F H σ env L) {i : Nat} {o : O} {v : V} (h : env[i]? = some none) (hv : σ[i]? = some (some v)) (r : RepO c F H o v M) (nd : M.Nodup) (dis : ∀ a ∈ M, a ∉ L) (ow : ∀ a ∈ M, F a = none) :
    ∃ L', Cfg c F H σ (env.set i (some o)) L' ∧ ∀ a, a ∈ L' ↔ a ∈ L ∨ a ∈ M := by
  obtain ⟨x, A, M0, B, h1, rfl, h3, h4⟩ := g.rep.at h
  rw [show M0 = [] from h3] at g dis
  rw [h1] at hv
  cases hv
  have r2 := h4 F H (some o) (some v) M (Ex.refl F) (fun _ _ _ e => e) ⟨v, rfl, r⟩
  rw [set_self h1] at r2
  have nd0 : (A ++ B).Nodup := by simpa using g.nd
  refine ⟨A ++ M ++ B, ⟨g.ex, r2, nodup3' nd0 nd fun a ha => by simpa using dis a ha, fun a ha => ?_⟩, fun a => ?_⟩
  · rcases mem3.mp ha with q | q
    · exact g.ow a (by simpa using q)
    · exact ow a q
  · rw [h3]
    rw [mem3]
    simp
def RepAt (c : Cn) (F H : Hp) (env : Env) (σ : L2.St) : List Nat → List Addr → Prop
  | [], L => L = []
  | i :: is, L => ∃ o v L1 L2, env[i]? = some (some o) ∧ σ[i]? = some (some v) ∧ RepO c F H o v L1 ∧ RepAt c F H env σ is L2 ∧ L = L1 ++ L2
theorem wipeE_len {is : List Nat} : (wipeE env is).length = env.length := by
  induction is with
  | nil => rfl
  | cons i is ih => rw [wipeE, List.length_set, ih]
theorem wipeE_out {i : Nat} : ∀ {is : List Nat}, i ∉ is → (wipeE env is)[i]? = env[i]?
  | [], _ => rfl
  | j :: is, h => by
    rw [wipeE, List.getElem?_set_ne (fun e => h (by rw [e]; exact List.mem_cons_self)), wipeE_out fun m => h (List.mem_cons_of_mem _ m)]
theorem wipeE_in {i : Nat} : ∀ {is : List Nat}, i ∈ is → i < env.length → (wipeE env is)[i]? = some none
  | [], h, _ => absurd h (by simp)
  | j :: is, h, hl => by
    rw [wipeE]
    by_cases e : j = i
    · subst e
      rw [List.getElem?_set_self (by rw [wipeE_len]; exact hl)]
    · rw [List.getElem?_set_ne e]
      exact wipeE_in (by
        rcases List.mem_cons.mp h with q | q
        · exact absurd q.symm e
        · exact q) hl
theorem wipe_ok (g : Cfg c F H σ env L) : ∀ {is : List Nat}, is.Nodup → (∀ i ∈ is, ∃ o, env[i]? = some (some o)) →
    ∃ L0 Lb, Cfg c F H σ (wipeE env is) L0 ∧ (∀ a, a ∈ L ↔ a ∈ L0 ∨ a ∈ Lb) ∧ Lb.Nodup ∧ (∀ a ∈ Lb, a ∉ L0) ∧ RepAt c F H env σ is Lb
  | [], _, _ => ⟨L, [], g, fun a => by simp, List.nodup_nil, fun _ h => absurd h (by simp), rfl⟩
  | i :: is, nd, h => by
    have nd' := List.nodup_cons.mp nd
    obtain ⟨L0, Lb, g0, h1, h2, h3, h4⟩ := wipe_ok g nd'.2 (fun j hj => h j (List.mem_cons_of_mem _ hj))
    obtain ⟨o, ho⟩ := h i List.mem_cons_self
    obtain ⟨v, L0', M, k1, k2, k3, k4, k5, k6⟩ := g0.take (i := i) (o := o) (by rw [wipeE_out nd'.1]; exact ho)
    refine ⟨L0', M ++ Lb, k2, fun a => ?_, List.nodup_append.mpr ⟨k5, h2, fun a ha b hb e => ?_⟩, fun a ha => ?_, ⟨o, v, M, Lb, ho, k1, k3, h4, rfl⟩⟩
    · rw [h1, k4, List.mem_append, or_assoc]
    · subst e
      exact h3 a hb ((k4 a).mpr (.inr ha))
    · rcases List.mem_append.mp ha with q | q
      · exact k6 a q
      · exact fun m => h3 a q ((k4 a).mpr (.inl m))
def lentV : List Bool → List V → List V
  | false :: bs, v :: vs => v :: lentV bs vs
  | true :: bs, _ :: vs => lentV bs vs
  | _, _ => []
theorem lent_rep : ∀ {bs : List Bool} {as : List Arg} {vs : List V}, ArgsRep c F H σ as vs → ArgsRep c F H σ (lent bs as) (lentV bs vs)
  | [], as, vs, _ => by cases as <;> exact rfl
  | b :: bs, [], vs, h => by
    rw [show vs = [] from h]
    cases b <;> exact rfl
  | b :: bs, a :: as, vs, h => by
    obtain ⟨v, r, rfl, h1, h2⟩ := h
    cases b
    · exact ⟨v, _, rfl, h1, lent_rep (bs := bs) h2⟩
    · exact lent_rep (bs := bs) h2
theorem argsO_ok {env0 : Env} (ex : Ex F F1) (rh : env0 = env) : ∀ {bs : List Bool} {as : List Arg} {ds : List D} {os : List O} {vs : List V} {L : List Addr}, argsO bs as ds env0 = some os → ArgsRep c F H σ as vs → RepAt c F H env σ (given bs as) L → Reps c F1 ds (lentV bs vs) → RepOs c F1 H os vs L
  | [], [], ds, os, vs, L, h, ha, hr, hd => by
    cases ds with
    | nil =>
      cases h
      exact ⟨ha, hr⟩
    | cons d ds => cases h
  | [], _ :: _, ds, os, vs, L, h, _, _, _ => by cases ds <;> cases h
  | true :: bs, [], ds, os, vs, L, h, _, _, _ => by cases ds <;> cases h
  | false :: bs, [], ds, os, vs, L, h, _, _, _ => by cases ds <;> cases h
  | true :: bs, .val d :: as, ds, os, vs, L, h, ha, hr, hd => by
    obtain ⟨v, r, rfl, h1, h2⟩ := ha
    unfold argsO at h
    cases q : argsO bs as ds env0 with
    | none => rw [q] at h; cases h
    | some os' =>
      rw [q] at h
      cases h
      exact ⟨v, r, [], L, rfl, ⟨Rep.mono ex h1, rfl⟩, argsO_ok ex rh q h2 hr hd, rfl⟩
  | true :: bs, .ref i (s :: p) :: as, ds, os, vs, L, h, ha, hr, hd => by cases ds <;> cases h
  | true :: bs, .ref i [] :: as, ds, os, vs, L, h, ha, hr, hd => by
    obtain ⟨v, r, rfl, h1, h2⟩ := ha
    unfold argsO at h
    cases q0 : env0[i]? with
    | none => rw [q0] at h; cases h
    | some s =>
      cases s with
      | none => rw [q0] at h; cases h
      | some o =>
        rw [q0] at h
        dsimp only at h
        cases q : argsO bs as ds env0 with
        | none => rw [q] at h; cases h
        | some os' =>
          rw [q] at h
          cases h
          obtain ⟨o', v', L1, L2, k1, k2, k3, k4, rfl⟩ := hr
          rw [rh, k1] at q0
          cases q0
          obtain ⟨v0, e1, e2⟩ := h1
          rw [k2] at e1
          cases e1
          cases e2
          exact ⟨_, r, L1, L2, rfl, RepO.mono ex (fun _ _ _ e => e) k3, argsO_ok ex rh q h2 k4 hd, rfl⟩
  | false :: bs, a :: as, ds, os, vs, L, h, ha, hr, hd => by
    obtain ⟨v, r, rfl, h1, h2⟩ := ha
    cases ds with
    | nil => cases a <;> cases h
    | cons d ds =>
      unfold argsO at h
      cases q : argsO bs as ds env0 with
      | none => rw [q] at h; cases h
      | some os' =>
        rw [q] at h
        cases h
        obtain ⟨v', r', e, h3, h4⟩ := hd
        cases e
        have hg : given (false :: bs) (a :: as) = given bs as := by cases a <;> rfl
        rw [hg] at hr
        exact ⟨v, r, [], L, rfl, ⟨h3, rfl⟩, argsO_ok ex rh q h2 hr h4, rfl⟩
/-- what the callee left in its parameters -/
def PostR (c : Cn) (F H : Hp) : List Bool → List O → List V → List Addr → Prop
  | true :: bs, o :: os, v :: vs, L => ∃ L1 L2, RepO c F H o v L1 ∧ PostR c F H bs os vs L2 ∧ L = L1 ++ L2
  | false :: bs, _ :: os, _ :: vs, L => PostR c F H bs os vs L
  | [], [], [], L => L = []
  | _, _, _, _ => False
theorem PostR.thaw (e : ∀ a u, F a = some u → F' a = some u ∨ isLD u) : ∀ {bs : List Bool} {os : List O} {vs : List V} {L : List Addr}, O.frees os = true → PostR c F H bs os vs L → PostR c F' H bs os vs L
  | [], [], [], L, _, h => h
  | true :: bs, o :: os, v :: vs, L, l, h => by
    obtain ⟨L1, L2, h1, h2, rfl⟩ := h
    have l' : o.free = true ∧ O.frees os = true := by simpa [O.frees] using l
    exact ⟨L1, L2, RepO.thaw e l'.1 h1, PostR.thaw e l'.2 h2, rfl⟩
  | false :: bs, o :: os, v :: vs, L, l, h => by
    have l' : o.free = true ∧ O.frees os = true := by simpa [O.frees] using l
    exact PostR.thaw (bs := bs) (os := os) (vs := vs) e l'.2 h
  | [], [], _ :: _, _, _, h => h.elim
  | [], _ :: _, _, _, _, h => h.elim
  | true :: _, [], _, _, _, h => h.elim
  | true :: _, _ :: _, [], _, _, h => h.elim
  | false :: _, [], _, _, _, h => h.elim
  | false :: _, _ :: _, [], _, _, h => h.elim
theorem backs_ok {env2 : Env} : ∀ {bs : List Bool} {as : List Arg} {post : List O} {vs : List V} {env : Env} {L Lp : List Addr}, backs bs as post env = some env2 → Cfg c F1 H1 σ env L → ArgsRep c F H σ as vs → PostR c F1 H1 bs post vs Lp → (given bs as).Nodup →
    (∀ i ∈ given bs as, env[i]? = some none) → Lp.Nodup → (∀ a ∈ Lp, a ∉ L) → (∀ a ∈ Lp, F1 a = none) → ∃ L2, Cfg c F1 H1 σ env2 L2 ∧ ∀ a ∈ L2, a ∈ L ∨ a ∈ Lp
  | [], [], [], vs, env, L, Lp, h, g, ha, hp, _, _, _, _, _ => by
    cases h
    exact ⟨L, g, fun a ha => .inl ha⟩
  | [], [], _ :: _, vs, env, L, Lp, h, _, _, _, _, _, _, _, _ => by cases h
  | [], _ :: _, post, vs, env, L, Lp, h, _, _, _, _, _, _, _, _ => by cases post <;> cases h
  | b :: bs, [], post, vs, env, L, Lp, h, _, _, _, _, _, _, _, _ => by cases b <;> cases post <;> cases h
  | false :: bs, .val _ :: as, [], vs, env, L, Lp, h, _, _, _, _, _, _, _, _ => by cases h
  | false :: bs, .ref _ _ :: as, [], vs, env, L, Lp, h, _, _, _, _, _, _, _, _ => by cases h
  | true :: bs, .val _ :: as, [], vs, env, L, Lp, h, _, _, _, _, _, _, _, _ => by cases h
  | true :: bs, .ref _ [] :: as, [], vs, env, L, Lp, h, _, _, _, _, _, _, _, _ => by cases h
  | true :: bs, .ref _ (_ :: _) :: as, [], vs, env, L, Lp, h, _, _, _, _, _, _, _, _ => by cases h
  | false :: bs, a :: as, o :: os, vs, env, L, Lp, h, g, ha, hp, nd, hn, n2, dis, ow => by
    obtain ⟨v, r, rfl, h1, h2⟩ := ha
    have hb : backs (false :: bs) (a :: as) (o :: os) env = backs bs as os env := by cases a <;> rfl
    have hg : given (false :: bs) (a :: as) = given bs as := by cases a <;> rfl
    rw [hb] at h
    rw [hg] at nd hn
    exact backs_ok h g h2 hp nd hn n2 dis ow
  | true :: bs, .val d :: as, o :: os, vs, env, L, Lp, h, g, ha, hp, nd, hn, n2, dis, ow => by
    obtain ⟨v, r, rfl, h1, h2⟩ := ha
    obtain ⟨M1, M2, p1, p2, rfl⟩ := hp
    have n2' := List.nodup_append.mp n2
    obtain ⟨L2, k1, k2⟩ := backs_ok (bs := bs) (as := as) h g h2 p2 nd hn n2'.2.1 (fun a ha => dis a (List.mem_append_right _ ha)) (fun a ha => ow a (List.mem_append_right _ ha))
    exact ⟨L2, k1, fun a ha => (k2 a ha).imp id fun q => List.mem_append_right _ q⟩
  | true :: bs, .ref i (s :: p) :: as, o :: os, vs, env, L, Lp, h, g, ha, hp, nd, hn, n2, dis, ow => by
    obtain ⟨v, r, rfl, h1, h2⟩ := ha
    obtain ⟨M1, M2, p1, p2, rfl⟩ := hp
    have n2' := List.nodup_append.mp n2
    obtain ⟨L2, k1, k2⟩ := backs_ok (bs := bs) (as := as) h g h2 p2 nd hn n2'.2.1 (fun a ha => dis a (List.mem_append_right _ ha)) (fun a ha => ow a (List.mem_append_right _ ha))
    exact ⟨L2, k1, fun a ha => (k2 a ha).imp id fun q => List.mem_append_right _ q⟩
  | true :: bs, .ref i [] :: as, o :: os, vs, env, L, Lp, h, g, ha, hp, nd, hn, n2, dis, ow => by
    obtain ⟨v, r, rfl, ⟨v0, h1, h1'⟩, h2⟩ := ha
    cases h1'
    obtain ⟨M1, M2, p1, p2, rfl⟩ := hp
    have n2' := List.nodup_append.mp n2
    have nd' : i ∉ given bs as ∧ (given bs as).Nodup := List.nodup_cons.mp nd
    obtain ⟨L1, g1, m1⟩ := g.give (hn i List.mem_cons_self) h1 p1 n2'.1 (fun a ha => dis a (List.mem_append_left _ ha)) (fun a ha => ow a (List.mem_append_left _ ha))
    obtain ⟨L2, k1, k2⟩ := backs_ok (bs := bs) (as := as) h g1 h2 p2 nd'.2 (fun j hj => by
      rw [List.getElem?_set_ne (fun e => nd'.1 (by rw [e]; exact hj))]
      exact hn j (List.mem_cons_of_mem _ hj)) n2'.2.1 (fun a ha m => by
      rcases (m1 a).mp m with q | q
      · exact dis a (List.mem_append_right _ ha) q
      · exact n2'.2.2 a q a ha rfl) (fun a ha => ow a (List.mem_append_right _ ha))
    refine ⟨L2, k1, fun a ha => ?_⟩
    rcases k2 a ha with q | q
    · rcases (m1 a).mp q with z | z
      · exact .inl z
      · exact .inr (List.mem_append_left _ z)
    · exact .inr (List.mem_append_right _ q)
/-- a frame beside what is changed -/
theorem Cfg.over {Lb Lr : List Addr} (g : Cfg c F H σ env L) (a : After F H Lb F1 H1 Lr) (ex : Ex F1 H1) (dis : ∀ x ∈ L, x ∉ Lb) : Cfg c F1 H1 σ env L ∧ ∀ x ∈ L, x ∉ Lr := by
  refine ⟨⟨ex, RepE.mono a.fs (fun x hx u e => a.fr x u e (dis x hx)) g.rep, g.nd, fun x hx => ?_⟩, fun x hx m => ?_⟩
  · cases e : F1 x with
    | none => rfl
    | some u =>
      rcases a.fn x (by rw [e]; simp) with q | q | q
      · exact absurd (g.ow x hx) q
      · exact absurd q (dis x hx)
      · exact absurd q (g.rep.dom x hx)
  · rcases a.lo x m with q | q
    · exact dis x hx q
    · exact g.rep.dom x hx q
theorem After.beside {Lb Lr : List Addr} (a : After F H Lb F1 H1 Lr) (L : List Addr) : After F H (L ++ Lb) F1 H1 (L ++ Lr) where
  fs := a.fs
  fr := fun x o e n => a.fr x o e fun m => n (List.mem_append_right _ m)
  dm := a.dm
  lo := fun x hx => by
    rcases List.mem_append.mp hx with q | q
    · exact .inl (List.mem_append_left _ q)
    · exact (a.lo x q).imp (fun z => List.mem_append_right _ z) id
  fn := fun x hx => by
    rcases a.fn x hx with q | q | q
    · exact .inl q
    · exact .inr (.inl (List.mem_append_right _ q))
    · exact .inr (.inr q)
/-- how a def's outcome is asked for -/
def Ran (c : Cn) (bs : List Bool) (vs : List V) (F H : Hp) (L : List Addr) (Q : VK) (E : XK) : Except Exn O × List O → Prop
  | (.ok o, post) => ∀ F1 H1 L1 Lv v, After F H L F1 H1 (L1 ++ Lv) → Ex F1 H1 → PostR c F1 H1 bs post vs L1 → RepO c F1 H1 o v Lv → (L1 ++ Lv).Nodup → (∀ a ∈ L1 ++ Lv, F1 a = none) → Q v H1
  | (.error x, post) => ∀ F1 H1 L1 d, After F H L F1 H1 L1 → Ex F1 H1 → PostR c F1 H1 bs post vs L1 → L1.Nodup → (∀ a ∈ L1, F1 a = none) → XRep c F1 x d → E (.ref (c.CA x.c)) d H1
def Runs (c : Cn) (run : List O → Option (Except Exn O × List O)) (bs : List Bool) (vs : List V) (H : Hp) (Q : VK) (E : XK) : Prop :=
  ∃ F os L out, Ex F H ∧ RepOs c F H os vs L ∧ L.Nodup ∧ (∀ a ∈ L, F a = none) ∧ run os = some out ∧ Ran c bs vs F H L Q E out
theorem given_has {bs : List Bool} : ∀ {as : List Arg} {ds : List D} {os : List O} {env : Env}, argsO bs as ds env = some os → ∀ i ∈ given bs as, ∃ o, env[i]? = some (some o) := by
  induction bs with
  | nil => intro as ds os env h i hi; cases as <;> simp [given] at hi
  | cons b bs ih =>
    intro as ds os env h i hi
    cases as with
    | nil => cases b <;> simp [given] at hi
    | cons a as =>
      cases b with
      | false =>
        have hg : given (false :: bs) (a :: as) = given bs as := by cases a <;> rfl
        rw [hg] at hi
        cases ds with
        | nil => cases a <;> cases h
        | cons d ds =>
          unfold argsO at h
          cases q : argsO bs as ds env with
          | none => rw [q] at h; cases h
          | some os' => exact ih q i hi
      | true =>
        cases a with
        | val d =>
          unfold argsO at h
          cases q : argsO bs as ds env with
          | none => rw [q] at h; cases h
          | some os' => exact ih q i hi
        | ref j pp =>
          cases pp with
          | cons s pp => cases ds <;> cases h
          | nil =>
            unfold argsO at h
            cases q0 : env[j]? with
            | none => rw [q0] at h; cases h
            | some s =>
              cases s with
              | none => rw [q0] at h; cases h
              | some o =>
                rw [q0] at h
                dsimp only at h
                cases q : argsO bs as ds env with
                | none => rw [q] at h; cases h
                | some os' =>
                  rcases List.mem_cons.mp hi with e | e
                  · subst e
                    exact ⟨o, q0⟩
                  · exact ih q i e
theorem freeze_none {i j : Nat} {pp : List Step} {d : D} (h : env.freeze j pp = some (d, env1)) (hn : env[i]? = some none) : env1[i]? = some none := by
  unfold Env.freeze Env.at at h
  cases q : env[j]? with
  | none => rw [q] at h; cases h
  | some s =>
    cases s with
    | none => rw [q] at h; cases h
    | some o =>
      rw [q] at h
      dsimp only at h
      cases q2 : o.at pp with
      | none => rw [q2] at h; cases h
      | some o2 =>
        rw [q2] at h
        dsimp only at h
        unfold Env.put at h
        rw [q] at h
        dsimp only at h
        cases q3 : o.put pp (.pure o2.fz) with
        | none => rw [q3] at h; cases h
        | some o3 =>
          rw [q3] at h
          cases h
          have ne : j ≠ i := fun e => by
            subst e
            rw [q] at hn
            cases hn
          rw [List.getElem?_set_ne ne]
          exact hn
theorem freezes_none {i : Nat} : ∀ {as : List Arg} {ds : List D} {l : Bool} {env env1 : Env}, freezes as env = some (ds, l, env1) → env[i]? = some none → env1[i]? = some none
  | [], ds, l, env, env1, h, hn => by
    cases h
    exact hn
  | .val d :: as, ds, l, env, env1, h, hn => by
    unfold freezes at h
    cases q : freezes as env with
    | none => rw [q] at h; cases h
    | some y =>
      obtain ⟨a, b, e⟩ := y
      rw [q] at h
      cases h
      exact freezes_none q hn
  | .ref j pp :: as, ds, l, env, env1, h, hn => by
    unfold freezes at h
    cases q : env.freeze j pp with
    | none => rw [q] at h; cases h
    | some y =>
      obtain ⟨d, e0⟩ := y
      rw [q] at h
      dsimp only at h
      cases q2 : freezes as e0 with
      | none => rw [q2] at h; cases h
      | some y =>
        obtain ⟨a, b, e⟩ := y
        rw [q2] at h
        cases h
        exact freezes_none q2 (freeze_none q hn)
theorem Reps.thaw' {F F' : Hp} (e : ∀ a u, F a = some u → F' a = some u ∨ isLD u) {ds : List D} {vs : List V} (l : D.lfs ds = true) (h : Reps c F ds vs) : Reps c F' ds vs := Reps.thaw e l h
theorem callRes_ok (g : Cfg c F H σ env L) {bs : List Bool} {as : List Arg} {vs : List V} (r : ArgsRep c F H σ as vs) {run : List O → Option (Except Exn O × List O)} {out : Except Exn O × Env} (e : callRes C bs as run env = some out) :
    OutE c F H L σ W Q out → Runs c run bs vs H Q fun cls d H' => W cls d σ H' := by
  intro q
  unfold callRes at e
  split at e
  · rename_i hnd
    have nd : (given bs as).Nodup := of_decide_eq_true hnd
    cases h : freezes (lent bs as) (wipeE env (given bs as)) with
    | none => rw [h] at e; cases e
    | some y =>
      obtain ⟨ds, l, env1⟩ := y
      rw [h] at e
      dsimp only at e
      cases h2 : argsO bs as ds env with
      | none => rw [h2] at e; cases e
      | some os =>
        rw [h2] at e
        dsimp only at e
        cases h3 : run os with
        | none => rw [h3] at e; cases e
        | some y =>
          obtain ⟨res, post⟩ := y
          rw [h3] at e
          dsimp only at e
          obtain ⟨L0, Lb, g0, m0, n0, d0, r0⟩ := wipe_ok g nd (given_has h2)
          obtain ⟨M, L', z, z2, z3⟩ := g0.freezes h (lent_rep r)
          have exF : Ex F (addF F H M) := (z.after g0).fs
          have ro := argsO_ok exF rfl h2 r r0 z2
          have lbF : ∀ a ∈ Lb, F a = none := fun a ha => g.ow a ((m0 a).mpr (.inr ha))
          have lbM : ∀ a ∈ Lb, a ∉ M := fun a ha m => d0 a ha ((z.sub a).mpr (.inr m))
          have lbF' : ∀ a ∈ Lb, addF F H M a = none := fun a ha => by rw [addF_out (lbM a ha)]; exact lbF a ha
          refine ⟨addF F H M, os, Lb, (res, post), z.cfg.ex, ro, n0, lbF', h3, ?_⟩
          -- what stands behind the call
          have key : ∀ {F1 H1 : Hp} {L1 Lr : List Addr}, After (addF F H M) H Lb F1 H1 Lr → Ex F1 H1 → PostR c F1 H1 bs post vs L1 → (∀ a ∈ L1, a ∈ Lr) → L1.Nodup → (∀ a ∈ Lr, F1 a = none) →
              ∀ env2, backs bs as post (if freeR res && O.frees post && l then wipeE env (given bs as) else env1) = some env2 → ∃ F2 L2, After F H L F2 H1 (L2 ++ Lr) ∧ Ex F2 H1 ∧ Cfg c F2 H1 σ env2 L2 ∧ (∀ a ∈ L2, a ∈ L1 ∨ a ∉ Lr) ∧ (∀ a ∈ Lr, F2 a = none) ∧
                ((freeR res && O.frees post && l) = false → F2 = F1) ∧ ((freeR res && O.frees post && l) = true → ∀ a u, F1 a = some u → F2 a = some u ∨ isLD u) := by
            intro F1 H1 L1 Lr a ex po sub n1 ow env2 hb
            by_cases hk : (freeR res && O.frees post && l) = true
            · rw [if_pos hk] at hb
              have hk' : (freeR res = true ∧ O.frees post = true) ∧ l = true := by simpa [Bool.and_eq_true] using hk
              let F2 : Hp := fun a => if a ∈ M then none else F1 a
              have inM : ∀ a, a ∈ M → F2 a = none := fun a ha => if_pos ha
              have outM : ∀ a, a ∉ M → F2 a = F1 a := fun a ha => if_neg ha
              have thaw : ∀ a u, F1 a = some u → F2 a = some u ∨ isLD u := fun b u hu => by
                by_cases hm : b ∈ M
                · right
                  obtain ⟨u', e1, e2⟩ := z3 hk'.2 b hm
                  have e3 := a.fs b u' (by rw [addF_in hm]; exact e1)
                  rw [hu] at e3
                  cases e3
                  exact e2
                · left
                  rw [outM b hm]
                  exact hu
              have a2 : After F H Lb F2 H1 Lr := ⟨fun b u hu => by
                  have hm : b ∉ M := fun m => by
                    rw [g0.ow b ((z.sub b).mpr (.inr m))] at hu
                    cases hu
                  rw [outM b hm]
                  exact a.fs b u (by rw [addF_out hm]; exact hu), a.fr, a.dm, a.lo, fun b hb => by
                  by_cases hm : b ∈ M
                  · rw [inM b hm] at hb
                    exact absurd rfl hb
                  · rw [outM b hm] at hb
                    rcases a.fn b hb with w | w
                    · rw [addF_out hm] at w
                      exact .inl w
                    · exact .inr w⟩
              have ex2 : Ex F2 H1 := fun b u hu => by
                by_cases hm : b ∈ M
                · rw [inM b hm] at hu
                  cases hu
                · rw [outM b hm] at hu
                  exact ex b u hu
              obtain ⟨g2, dis⟩ := g0.over a2 ex2 (fun b hb m => d0 b m hb)
              have ow2 : ∀ b ∈ Lr, F2 b = none := fun b hb => by
                by_cases hm : b ∈ M
                · exact inM b hm
                · rw [outM b hm]
                  exact ow b hb
              obtain ⟨L2, g3, sub2⟩ := backs_ok hb g2 r (PostR.thaw thaw hk'.1.2 po) nd (fun i hi => by
                obtain ⟨o, ho⟩ := given_has h2 i hi
                exact wipeE_in hi (List.getElem?_eq_some_iff.mp ho).1) n1 (fun b hb m => dis b m (sub b hb)) (fun b hb => ow2 b (sub b hb))
              refine ⟨F2, L2, ?_, ex2, g3, fun b hb => (sub2 b hb).elim (fun w => .inr (dis b w)) .inl, ow2, fun w => (by rw [hk] at w; cases w), fun _ => thaw⟩
              have s0 : After F H L F H (L0 ++ Lb) := (After.refl F H L).sub fun b hb => (m0 b).mpr (List.mem_append.mp hb)
              refine (s0.trans (a2.beside L0)).sub fun b hb => ?_
              rcases List.mem_append.mp hb with w | w
              · rcases sub2 b w with w | w
                · exact List.mem_append_left _ w
                · exact List.mem_append_right _ (sub b w)
              · exact List.mem_append_right _ w
            · rw [if_neg hk] at hb
              have hk' : (freeR res && O.frees post && l) = false := by simpa using hk
              have d1 : ∀ b ∈ L', b ∉ Lb := fun b hb m => d0 b m ((z.sub b).mpr (.inl hb))
              obtain ⟨g2, dis⟩ := z.cfg.over a ex d1
              have no1 : ∀ i ∈ given bs as, env1[i]? = some none := fun i hi => by
                obtain ⟨o, ho⟩ := given_has h2 i hi
                exact freezes_none h (wipeE_in hi (List.getElem?_eq_some_iff.mp ho).1)
              obtain ⟨L2, g3, sub2⟩ := backs_ok hb g2 r po nd no1 n1 (fun b hb m => dis b m (sub b hb)) (fun b hb => ow b (sub b hb))
              refine ⟨F1, L2, ?_, ex, g3, fun b hb => (sub2 b hb).elim (fun w => .inr (dis b w)) .inl, ow, fun _ => rfl, fun w => (by rw [hk'] at w; cases w)⟩
              have s0 : After F H L (addF F H M) H (L' ++ Lb) := by
                have s1 := (After.refl F H L).sub (L'' := L0 ++ Lb) fun b hb => (m0 b).mpr (List.mem_append.mp hb)
                have s2 := (z.after g0).beside Lb
                refine (s1.trans ?_)
                refine ⟨s2.fs, fun x o e n => s2.fr x o e fun m => n (by rcases List.mem_append.mp m with w | w <;> simp [w]), s2.dm, fun x hx => ?_, fun x hx => ?_⟩
                · rcases List.mem_append.mp hx with w | w
                  · exact .inl (List.mem_append_left _ ((z.sub x).mpr (.inl w)))
                  · exact .inl (List.mem_append_right _ w)
                · rcases s2.fn x hx with w | w | w
                  · exact .inl w
                  · exact .inr (.inl (by rcases List.mem_append.mp w with w | w <;> simp [w]))
                  · exact .inr (.inr w)
              refine (s0.trans (a.beside L')).sub fun b hb => ?_
              rcases List.mem_append.mp hb with w | w
              · rcases sub2 b w with w | w
                · exact List.mem_append_left _ w
                · exact List.mem_append_right _ (sub b w)
              · exact List.mem_append_right _ w
          cases hb : backs bs as post (if freeR res && O.frees post && l then wipeE env (given bs as) else env1) with
          | none => rw [hb] at e; cases e
          | some env2 =>
            rw [hb] at e
            cases e
            cases res with
            | ok o =>
              intro F1 H1 L1 Lv v a ex po rv nd1 ow
              obtain ⟨F2, L2, b1, b2, b3, b4, b5, b6, b7⟩ := key a ex po (fun b hb => List.mem_append_left _ hb) (List.nodup_append.mp nd1).1 ow env2 hb
              have nn := List.nodup_append.mp nd1
              refine q F2 H1 L2 v Lv (b1.sub fun b hb => ?_) ⟨b3, ?_, List.nodup_append.mpr ⟨b3.nd, nn.2.1, fun x hx y hy e => ?_⟩, fun b hb => b5 b (List.mem_append_right _ hb)⟩
              · rcases List.mem_append.mp hb with w | w
                · exact List.mem_append_left _ w
                · exact List.mem_append_right _ (List.mem_append_right _ w)
              · by_cases hk : (freeR (.ok o) && O.frees post && l) = true
                · have hk' : (freeR (.ok o) = true ∧ O.frees post = true) ∧ l = true := by simpa [Bool.and_eq_true] using hk
                  exact RepO.thaw (b7 hk) hk'.1.1 rv
                · rw [b6 (by simpa using hk)]
                  exact rv
              · subst e
                rcases b4 x hx with w | w
                · exact nn.2.2 x w x hy rfl
                · exact w (List.mem_append_right _ hy)
            | error x =>
              intro F1 H1 L1 d a ex po nd1 ow xr
              obtain ⟨F2, L2, b1, b2, b3, b4, b5, b6, b7⟩ := key a ex po (fun b hb => hb) nd1 ow env2 hb
              refine q F2 H1 L2 d (b1.sub fun b hb => List.mem_append_left _ hb) b3 ?_
              by_cases hk : (freeR (.error x) && O.frees post && l) = true
              · have hk' : (freeR (.error x) = true ∧ O.frees post = true) ∧ l = true := by simpa [Bool.and_eq_true] using hk
                obtain ⟨dx, fs, ws, e1, e2, e3, e4, e5⟩ := xr
                refine ⟨dx, fs, ws, e1, ?_, Reps.thaw (b7 hk) hk'.1.1 e3, e4, e5⟩
                rcases b7 hk dx _ e2 with w | w
                · exact w
                · exact w.elim
              · rw [b6 (by simpa using hk)]
                exact xr
  · cases e
end T
namespace T
open PySem L2
def E.tame : E → Bool
  | .rd _ => true
  | .op _ es => es.allRd
  | _ => false
def Es.tame : Es → Bool
  | .nil => true
  | .cons e es => e.tame && es.tame
def Tg.isTp : Tg → Bool
  | .tp _ => true
  | .nm _ => false
-- targets
mutual
def okTg (N : List Str) (sc : Scope) : Tg → Expr → Bool
  | .nm i, .Name x _ => N[i]? == some x && (match sc.names.lookup x with
    | some .local => true
    | some .cell => true
    | _ => false)
  | .tp ts, .Tuple es _ _ => okTgs N sc ts es
  | _, _ => false
def okTgs (N : List Str) (sc : Scope) : List Tg → List Expr → Bool
  | [], [] => true
  | t :: ts, e :: es => okTg N sc t e && okTgs N sc ts es
  | _, _ => false
end
/-- what is walked: the parts of the text -/
def itParts (sc : Scope) (tp : Bool) : ItK → Expr → Option (List Expr)
  | .seq, e => some [e]
  | .rng1, .Call (.Name a _) [ea] [] _ => if a == ("range" : Str) && okGl sc "range" then some [ea] else none
  | .rng2, .Call (.Name a _) [ea, eb] [] _ => if a == ("range" : Str) && okGl sc "range" then some [ea, eb] else none
  | .zip2, .Call (.Name a _) [ea, eb] [] _ => if tp && a == ("zip" : Str) && okGl sc "zip" then some [ea, eb] else none
  | .enum, .Call (.Name a _) [ea] [] _ => if tp && a == ("enumerate" : Str) && okGl sc "enumerate" then some [ea] else none
  | _, _ => none
/-- o.m(..) -/
def methP : Expr → Option (Expr × Str × List Expr × Bool)
  | .Call (.Attribute ea x ap) es [] cp => some (ea, x, es, ap.endLine == cp.line)
  | _ => none
theorem methP_some {e ea : Expr} {x : Str} {es : List Expr} {l : Bool} (h : methP e = some (ea, x, es, l)) : ∃ ap cp, e = .Call (.Attribute ea x ap) es [] cp ∧ (ap.endLine == cp.line) = l := by
  unfold methP at h
  split at h
  · cases h
    exact ⟨_, _, rfl, rfl⟩
  · cases h
/-- [elt for tg in it if ..] -/
def lcP : Expr → Option (Expr × Expr × Expr × List Expr × Scope)
  | .ListComp e [⟨t, i, f, 0⟩] sc _ => some (e, t, i, f, sc)
  | _ => none
theorem lcP_some {x e t i : Expr} {f : List Expr} {sc : Scope} (h : lcP x = some (e, t, i, f, sc)) : ∃ pos, x = .ListComp e [⟨t, i, f, 0⟩] sc pos := by
  unfold lcP at h
  split at h
  · cases h
    exact ⟨_, rfl⟩
  · cases h
def lc2P : Expr → Option (Expr × Expr × Expr × List Expr × Expr × Expr × List Expr × Scope)
  | .ListComp e [⟨t, i, f, 0⟩, ⟨t1, i1, f1, 0⟩] sc _ => some (e, t, i, f, t1, i1, f1, sc)
  | _ => none
theorem lc2P_some {x e t i t1 i1 : Expr} {f f1 : List Expr} {sc : Scope} (h : lc2P x = some (e, t, i, f, t1, i1, f1, sc)) : ∃ pos, x = .ListComp e [⟨t, i, f, 0⟩, ⟨t1, i1, f1, 0⟩] sc pos := by
  unfold lc2P at h
  split at h
  · cases h
    exact ⟨_, rfl⟩
  · cases h
def bmName : Op → Str → Nat → Bool
  | .index, x, 1 => x == ("index" : Str)
  | .bitl, x, 0 => x == ("bit_length" : Str)
  | _, _, _ => false
def mutName : MutK → Str → Nat → Bool
  | .pop, x, 0 => x == ("pop" : Str)
  | .popAt, x, 1 => x == ("pop" : Str)
  | _, _, _ => false
mutual
def okE (y : Sy) (N : List Str) (sc : Scope) : E → Expr → Bool
  | .rd r, e => okR y N sc r e
  | .op o es, e => (noSl3 o || es.tame) && match parts y sc o e with
    | some eas => okEs y N sc es eas
    | none => false
  | .and a b, .BoolOp .And (ea :: eb :: r) pos => okE y N sc a ea && match r with
    | [] => okE y N sc b eb
    | _ => okE y N sc b (.BoolOp .And (eb :: r) pos)
  | .or a b, .BoolOp .Or (ea :: eb :: r) pos => okE y N sc a ea && match r with
    | [] => okE y N sc b eb
    | _ => okE y N sc b (.BoolOp .Or (eb :: r) pos)
  | .ife t a b, .IfExp et ea eb _ => okE y N sc t et && okE y N sc a ea && okE y N sc b eb
  | .chn o1 o2 a b c, .Compare ea [p1, p2] [eb, ec] _ => okCmp o1 p1 && okCmp o2 p2 && okE y N sc a ea && okE y N sc b eb && okE y N sc c ec && plainE ec
  | .lsn es, .List eas _ => okEs y N sc es eas
  | .call f es, .Call (.Name x _) (ea :: eas) [] _ => y.fn[f]? == some (some x) && okGl sc x && okEs y N sc es (ea :: eas)
  | .mk c es, .Call (.Name x _) (ea :: eas) [] _ => y.cl[c]? == some x && okGl sc x && okEs y N sc es (ea :: eas)
  | .bmt o a es, e => match methP e with
    | some (ea, x, eas, l) => l && bmName o x eas.length && plainE ea && okE y N sc a ea && okEs y N sc es eas
    | none => false
  | .mut m r es, e => match methP e with
    | some (ea, x, eas, l) => l && mutName m x eas.length && okR y N sc r ea && okEs y N sc es eas
    | none => false
  | .app r a, e => match methP e with
    | some (ea, x, [eb], l) => l && x == ("append" : Str) && okR y N sc r ea && plainE eb && okE y N sc a eb
    | _ => false
  | .lc elt tg k it ifs own, e => match lcP e with
    | some (eelt, etg, eit, eifs, scope) => blkC N sc scope (own.map fun i => (N.getD i "", i)) && okTg N scope tg etg && decide (eifs.length ≤ 1) && (match itParts sc tg.isTp k eit with
      | some eas => okEs y N sc it eas
      | none => false) && okEs y N (relS scope sc) ifs eifs && okE y N (relS scope sc) elt eelt
    | none => false
  | .lc2 elt tg k it ifs tg1 k1 it1 ifs1 own own1, e => match lc2P e with
    | some (eelt, etg, eit, eifs, etg1, eit1, eifs1, scope) => blkC N sc scope (own.map fun i => (N.getD i "", i)) && own1.all (fun i => own.contains i) && okTg N scope tg etg && okTg N scope tg1 etg1 && decide (eifs.length ≤ 1) && decide (eifs1.length ≤ 1) && (match itParts sc tg.isTp k eit with
      | some eas => okEs y N sc it eas
      | none => false) && (match itParts (relS scope sc) tg1.isTp k1 eit1 with
      | some eas => okEs y N (relS scope sc) it1 eas
      | none => false) && okEs y N (relS scope sc) ifs eifs && okEs y N (relS scope sc) ifs1 eifs1 && okE y N (relS scope sc) elt eelt
    | none => false
  | _, _ => false
def okEs (y : Sy) (N : List Str) (sc : Scope) : Es → List Expr → Bool
  | .nil, [] => true
  | .cons e es, ea :: eas => okE y N sc e ea && plainE ea && okEs y N sc es eas
  | _, _ => false
end
/-- the defs keep what the tree code says of them -/
structure Prom (p : Pg) (C : Ctx) (n : Nat) : Prop where
  ok : ∀ f, FnOk p.P p.w p.c.K p.mg p.base (L2N.CX p.P p.w) (3 * n) (p.fa f) (p.fd f) (p.ps f) (fun vs H Q E => Runs p.c (C.fn f) (C.br f) vs H Q E)
def SE (p : Pg) (C : Ctx) (n : Nat) (N : List Str) (e : E) : Prop := ∀ {sc : Scope} {W : WX} {X : Cx} {σ : L2.St} {F H : Hp} {L : List Addr} {env : Env} {out : Except Exn O × Env} {ea : Expr} {Q : VK}, Good p n N sc W X → Cfg p.c F H σ env L → okE p.y N sc e ea = true → evalE C e env = some out →
  OutE p.c F H L σ W Q out → T0 X ea σ H Q
def SEs (p : Pg) (C : Ctx) (n : Nat) (N : List Str) (es : Es) : Prop := ∀ {sc : Scope} {W : WX} {X : Cx} {σ : L2.St} {F H : Hp} {L : List Addr} {env : Env} {out : Except Exn (List Arg) × Env} {eas : List Expr}, Good p n N sc W X → Cfg p.c F H σ env L → okEs p.y N sc es eas = true → evalEs C es env = some out →
  (∀ as env1, out = (.ok as, env1) → ∀ {R : List V → Hp → Prop}, ArgsP p.c F H L σ env1 as R → T0K X eas as σ H R) ∧ (∀ x env1, out = (.error x, env1) → ErP p.c F H L σ W env1 x → ∀ {R : List V → Hp → Prop}, T0L X eas σ H R)
section
variable {p : Pg} {C : Ctx} {n : Nat} {N : List Str} {sc : Scope} {W : WX} {X : Cx} {F F1 H H1 : Hp} {σ : L2.St} {Q : VK} {env env1 : Env} {L L1 : List Addr}
/-- as an argument -/
theorem SE.arg (T : Top p C) {e : E} (s : SE p C n N e) (G : Good p n N sc W X) (g : Cfg p.c F H σ env L) {ea : Expr} (hk : okE p.y N sc e ea = true) {out : Except Exn Arg × Env} (ev : argOf C e (evalE C e env) env = some out) (q : OutA p.c F H L σ W Q out) : T0 X ea σ H Q := by
  have go : ∀ (x : Oc O), evalE C e env = x → (match x with
    | some (.ok o, env') => ok (Arg.val o.fz) env'
    | some (.error e, env') => some (.error e, env')
    | none => none) = some out → T0 X ea σ H Q := fun x hx ev => by
    subst hx
    cases h : evalE C e env with
    | none => rw [h] at ev; cases ev
    | some y =>
      obtain ⟨r, env'⟩ := y
      rw [h] at ev
      cases r with
      | ok o =>
        cases ev
        refine s G g hk h fun F1 H1 L1 v Lv a cf => ?_
        obtain ⟨a1, g1, r1⟩ := cf.settle a
        exact q _ H1 L1 v a1 g1 r1
      | error x =>
        cases ev
        exact s G g hk h q
  cases e with
  | rd r =>
    unfold argOf at ev
    dsimp only at ev
    cases h : evalR C env r with
    | none => rw [h] at ev; cases ev
    | some a =>
      rw [h] at ev
      cases ev
      exact soundR T G g (by simpa [okE] using hk) h fun v hv => q F H L v (.refl F H L) g hv
  | _ => exact go _ rfl ev
theorem se_rd (T : Top p C) (r : R) : SE p C n N (.rd r) := by
  intro sc W X σ F H L env out ea Q G g hk ev q
  unfold evalE valOf at ev
  cases h : evalR C env r with
  | none => rw [h] at ev; cases ev
  | some a =>
    rw [h] at ev
    dsimp only at ev
    obtain ⟨o, env1⟩ := out
    cases o with
    | error x => exact (hold_noerr ev).elim
    | ok o =>
      refine soundR T G g (by simpa [okE] using hk) h fun v hv => hold_ok g ev q hv
theorem Arg.kn {a : Arg} {v : V} (h : ArgRep p.c F H σ a v) : Kn a v := by
  cases a with
  | ref i p => exact trivial
  | val d =>
    cases d <;> first
      | exact trivial
      | exact h
/-- reads alone: nothing changes -/
theorem ses_rd (T : Top p C) (G : Good p n N sc W X) (g : Cfg p.c F H σ env L) : ∀ {es : Es} {eas : List Expr} {out : Except Exn (List Arg) × Env}, es.allRd = true → okEs p.y N sc es eas = true → evalEs C es env = some out →
    ∃ as, out = (.ok as, env) ∧ ∀ {R : List V → Hp → Prop}, (∀ vs, ArgsRep p.c F H σ as vs → R vs H) → T0K X eas as σ H R
  | .nil, eas, out, _, hk, ev => by
    cases eas with
    | cons e eas => simp [okEs] at hk
    | nil =>
      cases ev
      exact ⟨[], rfl, fun {R} k => k [] rfl⟩
  | .cons e es, eas, out, rd, hk, ev => by
    cases eas with
    | nil => simp [okEs] at hk
    | cons ea eas =>
      have rd' : e.isRd = true ∧ es.allRd = true := by simpa [Es.allRd] using rd
      have hk' : (okE p.y N sc e ea = true ∧ plainE ea = true) ∧ okEs p.y N sc es eas = true := by simpa [okEs, Bool.and_eq_true] using hk
      cases e <;> first
        | (exact Bool.noConfusion (show false = true from rd'.1))
        | skip
      rename_i r
      unfold evalEs argOf at ev
      dsimp only at ev
      cases h : evalR C env r with
      | none => rw [h] at ev; cases ev
      | some a =>
        rw [h] at ev
        dsimp only at ev
        rw [show pinIf es.allRd a env = some (a, env) from by rw [rd'.2]; rfl] at ev
        dsimp only at ev
        cases h2 : evalEs C es env with
        | none => rw [h2] at ev; cases ev
        | some y =>
          obtain ⟨as, rfl, k⟩ := ses_rd T G g rd'.2 hk'.2 h2
          rw [h2] at ev
          cases ev
          refine ⟨a :: as, rfl, fun {R} q => ?_⟩
          exact soundR T G g (by simpa [okE] using hk'.1.1) h fun v hv => ⟨Arg.kn hv, k fun vs hvs => q (v :: vs) ⟨v, vs, rfl, hv, hvs⟩⟩
theorem ses_nil : SEs p C n N .nil := by
  intro sc W X σ F H L env out eas G g hk ev
  cases eas with
  | cons e eas => simp [okEs] at hk
  | nil =>
    cases ev
    refine ⟨fun as env1 e {R} q => ?_, fun x env1 e => by cases e⟩
    cases e
    exact q F H L [] (.refl F H L) g rfl
theorem ses_cons (T : Top p C) {e : E} {es : Es} (s : SE p C n N e) (ss : SEs p C n N es) : SEs p C n N (.cons e es) := by
  intro sc W X σ F H L env out eas G g hk ev
  cases eas with
  | nil => simp [okEs] at hk
  | cons ea eas =>
    have hk' : (okE p.y N sc e ea = true ∧ plainE ea = true) ∧ okEs p.y N sc es eas = true := by simpa [okEs, Bool.and_eq_true] using hk
    unfold evalEs at ev
    cases h : argOf C e (evalE C e env) env with
    | none => rw [h] at ev; cases ev
    | some y =>
      obtain ⟨r, env1⟩ := y
      rw [h] at ev
      cases r with
      | error x =>
        cases ev
        refine ⟨fun as env1 e => by (cases e), fun x' env' e er {R} => ?_⟩
        cases e
        exact s.arg T G g hk'.1.1 h er
      | ok a =>
        dsimp only at ev
        cases h1 : pinIf es.allRd a env1 with
        | none => rw [h1] at ev; cases ev
        | some y =>
          obtain ⟨a', env2⟩ := y
          rw [h1] at ev
          dsimp only at ev
          cases h2 : evalEs C es env2 with
          | none => rw [h2] at ev; cases ev
          | some y =>
            obtain ⟨r2, env3⟩ := y
            rw [h2] at ev
            by_cases rd : es.allRd = true
            · rw [rd] at h1
              cases h1
              cases r2 with
              | error x =>
                cases ev
                refine ⟨fun as env1 e => by (cases e), fun x' env' e er {R} => ?_⟩
                cases e
                refine s.arg T G g hk'.1.1 h fun F1 H1 L1 v a1 g1 r1 => ?_
                obtain ⟨as, e, _⟩ := ses_rd T G g1 rd hk'.2 h2
                cases e
              | ok as =>
                cases ev
                refine ⟨fun as' env' e {R} q => ?_, fun x env1 e => by (cases e)⟩
                cases e
                refine s.arg T G g hk'.1.1 h fun F1 H1 L1 v a1 g1 r1 => ⟨Arg.kn r1, ?_⟩
                obtain ⟨as', e, k⟩ := ses_rd T G g1 rd hk'.2 h2
                cases e
                exact k fun vs hvs => q F1 H1 L1 (v :: vs) a1 g1 ⟨v, vs, rfl, r1, hvs⟩
            · have rd' : es.allRd = false := by simpa using rd
              rw [rd'] at h1
              have h1' : pin a env1 = some (a', env2) := h1
              cases r2 with
              | error x =>
                cases ev
                refine ⟨fun as env1 e => by (cases e), fun x' env' e er {R} => ?_⟩
                cases e
                refine s.arg T G g hk'.1.1 h fun F1 H1 L1 v a1 g1 r1 => ?_
                obtain ⟨F2, L2, a2, g2, r2, st⟩ := pin_ok g1 h1' r1
                exact (ss G g2 hk'.2 h2).2 x env3 rfl (er.after (a1.trans a2))
              | ok as =>
                cases ev
                refine ⟨fun as' env' e {R} q => ?_, fun x env1 e => by (cases e)⟩
                cases e
                refine s.arg T G g hk'.1.1 h fun F1 H1 L1 v a1 g1 r1 => ?_
                obtain ⟨F2, L2, a2, g2, r2, st⟩ := pin_ok g1 h1' r1
                refine ⟨Arg.kn r2, (ss G g2 hk'.2 h2).1 as env3 rfl fun F3 H3 L3 vs a3 g3 r3 => ?_⟩
                exact q F3 H3 L3 (v :: vs) ((a1.trans a2).trans a3) g3 ⟨v, vs, rfl, r2.stay a3.fs st, r3⟩
theorem okEs_plain : ∀ {y : Sy} {es : Es} {eas : List Expr}, okEs y N sc es eas = true → eas.all plainE = true
  | _, .nil, [], _ => rfl
  | _, .nil, _ :: _, h => by simp [okEs] at h
  | _, .cons _ _, [], h => by simp [okEs] at h
  | y, .cons e es, ea :: eas, h => by
    have h' : (okE y N sc e ea = true ∧ plainE ea = true) ∧ okEs y N sc es eas = true := by simpa [okEs, Bool.and_eq_true] using h
    rw [List.all_cons, h'.1.2, okEs_plain h'.2]
    rfl
theorem rd_noerr : ∀ {es : Es} {env env1 : Env} {x : Exn}, es.allRd = true → evalEs C es env = some (.error x, env1) → False
  | .nil, env, env1, x, _, h => by cases h
  | .cons e es, env, env1, x, rd, h => by
    have rd' : e.isRd = true ∧ es.allRd = true := by simpa [Es.allRd] using rd
    cases e <;> first
      | (exact Bool.noConfusion (show false = true from rd'.1))
      | skip
    rename_i r
    unfold evalEs argOf at h
    dsimp only at h
    cases h1 : evalR C env r with
    | none => rw [h1] at h; cases h
    | some a =>
      rw [h1] at h
      dsimp only at h
      rw [show pinIf es.allRd a env = some (a, env) from by rw [rd'.2]; rfl] at h
      dsimp only at h
      cases h2 : evalEs C es env with
      | none => rw [h2] at h; cases h
      | some y =>
        obtain ⟨r2, env3⟩ := y
        cases r2 with
        | ok as => rw [h2] at h; cases h
        | error x' => exact rd_noerr rd'.2 h2
theorem op_noerr {o : Op} {as : List Arg} {env env1 : Env} {x : Exn} (h : opOrCall C o as env = some (.error x, env1)) : False := by
  unfold opOrCall at h
  split at h
  · obtain ⟨ds, l, env'', o', _, _, e⟩ := opRes_inv h
    cases e
  · cases h
theorem tame1 {e : E} {env env1 : Env} {x : Exn} (t : e.tame = true) (h : argOf C e (evalE C e env) env = some (.error x, env1)) : False := by
  cases e <;> first
    | (exact Bool.noConfusion (show false = true from t))
    | skip
  · rename_i r
    unfold argOf at h
    dsimp only at h
    cases h1 : evalR C env r with
    | none => rw [h1] at h; cases h
    | some a => rw [h1] at h; cases h
  · rename_i o es
    have t' : es.allRd = true := by simpa [E.tame] using t
    unfold argOf evalE at h
    dsimp only at h
    cases h1 : evalEs C es env with
    | none => rw [h1] at h; cases h
    | some y =>
      obtain ⟨r, env'⟩ := y
      cases r with
      | error x' => exact rd_noerr t' h1
      | ok as =>
        rw [h1] at h
        dsimp only at h
        cases h2 : opOrCall C o as env' with
        | none => rw [h2] at h; cases h
        | some out =>
          obtain ⟨r, env2⟩ := out
          cases r with
          | ok o' => rw [h2] at h; cases h
          | error x' => exact op_noerr h2
theorem tame_noerr : ∀ {es : Es} {env env1 : Env} {x : Exn}, es.tame = true → evalEs C es env = some (.error x, env1) → False
  | .nil, env, env1, x, _, h => by cases h
  | .cons e es, env, env1, x, t, h => by
    have t' : e.tame = true ∧ es.tame = true := by simpa [Es.tame] using t
    unfold evalEs at h
    cases h1 : argOf C e (evalE C e env) env with
    | none => rw [h1] at h; cases h
    | some y =>
      obtain ⟨r, env'⟩ := y
      cases r with
      | error x' => exact tame1 t'.1 h1
      | ok a =>
        rw [h1] at h
        dsimp only at h
        cases h2 : pinIf es.allRd a env' with
        | none => rw [h2] at h; cases h
        | some y =>
          obtain ⟨a', env2⟩ := y
          rw [h2] at h
          dsimp only at h
          cases h3 : evalEs C es env2 with
          | none => rw [h3] at h; cases h
          | some y =>
            obtain ⟨r2, env3⟩ := y
            cases r2 with
            | ok as => rw [h3] at h; cases h
            | error x' => exact tame_noerr t'.2 h3
theorem se_op (T : Top p C) {o : Op} {es : Es} (ss : SEs p C n N es) : SE p C n N (.op o es) := by
  intro sc W X σ F H L env out ea Q G g hk ev q
  unfold okE at hk
  rw [Bool.and_eq_true] at hk
  cases hp : parts p.y sc o ea with
  | none => rw [hp] at hk; cases hk.2
  | some eas =>
    rw [hp] at hk
    have hk2 : okEs p.y N sc es eas = true := hk.2
    have pl := okEs_plain hk2
    unfold evalE at ev
    cases h : evalEs C es env with
    | none => rw [h] at ev; cases ev
    | some y =>
      obtain ⟨r, env1⟩ := y
      rw [h] at ev
      cases r with
      | ok as =>
        dsimp only at ev
        unfold opOrCall at ev
        split at ev
        · rename_i pre
          obtain ⟨ds, l, env', o', hz, hd, rfl⟩ := opRes_inv ev
          refine op_ok T T.rfl' G hp pl hd pre ((ss G g hk2 h).1 as env1 rfl fun F1 H1 L1 vs a g1 r1 => ?_)
          exact opRes_ok g1 r1 hz (OkP.after q a)
        · cases ev
      | error x =>
        cases ev
        rcases Bool.or_eq_true _ _ ▸ hk.1 with ns | sf
        · exact op_err T G hp pl ns ((ss G g hk2 h).2 x env1 rfl q)
        · exact (tame_noerr sf h).elim
end
end T
namespace T
open PySem L2
section
variable {p : Pg} {C : Ctx} {n : Nat} {N : List Str} {sc : Scope} {W : WX} {X : Cx} {F F1 F' H H1 H' : Hp} {σ : L2.St} {Q : VK} {env env1 : Env} {L L1 : List Addr} {c : Cn}
theorem Grow.after (w : Grow F H F' H' []) : After F H [] F' H' [] := ⟨w.fs, fun a o e _ => w.hs a o e, fun a h => by
    cases e : H a with
    | none => exact absurd e h
    | some u => rw [w.hs a u e]; simp, fun a h => absurd h (by simp), fun a h => (w.fn a h).imp id .inr⟩
theorem Cfg.grow (g : Cfg c F H σ env L) (w : Grow F H F' H' []) : After F H L F' H' L ∧ Cfg c F' H' σ env L := by
  have a := w.after
  obtain ⟨g2, _⟩ := g.over a w.fh (fun x _ => by simp)
  have b := a.beside L
  rw [List.append_nil] at b
  exact ⟨b, g2⟩
theorem truthOf_ok (g : Cfg c F H σ env L) {a : Arg} {v : V} {b : Bool} (e : truthOf env a = some b) (r : ArgRep c F H σ a v) : TruV c.K v H b := by
  cases a with
  | val d => exact truth_rep g.ex e r
  | ref i q =>
    unfold truthOf Arg.view at e
    dsimp only at e
    cases h : env.at i q with
    | none => rw [h] at e; cases e
    | some o =>
      rw [h] at e
      dsimp only at e
      obtain ⟨v0, v', A, L1, B, h1, h2, rfl, h4, h5⟩ := g.at h
      obtain rfl := r.uniq h1 h2
      have ow : ∀ a ∈ L1, F a = none := fun a ha => g.ow a (mem3.mpr (.inr ha))
      exact truth_rep (addF_ex (M := L1) g.ex) e (RepO.froz (ex_addF ow) (fun a ha u e => by rw [addF_in ha]; exact e) h4)
/-- a test: it ends, it is so -/
def TstP (c : Cn) (F H : Hp) (L : List Addr) (σ : L2.St) (env1 : Env) (t : Bool) (Q : Bool → Hp → Prop) : Prop := ∀ F1 H1 L1, After F H L F1 H1 L1 → Cfg c F1 H1 σ env1 L1 → Q t H1
def ST (p : Pg) (C : Ctx) (n : Nat) (N : List Str) (e : E) : Prop := ∀ {sc : Scope} {W : WX} {X : Cx} {σ : L2.St} {F H : Hp} {L : List Addr} {env : Env} {ea : Expr} {Q : Bool → Hp → Prop}, Good p n N sc W X → Cfg p.c F H σ env L → okE p.y N sc e ea = true →
  (∀ o env1 t, evalE C e env = some (.ok o, env1) → o.fz.truth = some t → TstP p.c F H L σ env1 t Q → T0T X ea σ H Q) ∧ (∀ x env1, evalE C e env = some (.error x, env1) → ErP p.c F H L σ W env1 x → T0T X ea σ H Q)
/-- a test's outcome, by the argument -/
theorem ST.arg (T : Top p C) {e : E} (st : ST p C n N e) (G : Good p n N sc W X) (g : Cfg p.c F H σ env L) {ea : Expr} (hk : okE p.y N sc e ea = true) {Q : Bool → Hp → Prop} :
    (∀ x env1 t, argOf C e (evalE C e env) env = some (.ok x, env1) → truthOf env1 x = some t → TstP p.c F H L σ env1 t Q → T0T X ea σ H Q) ∧ (∀ x env1, argOf C e (evalE C e env) env = some (.error x, env1) → ErP p.c F H L σ W env1 x → T0T X ea σ H Q) := by
  have gen : argOf C e (evalE C e env) env = (match evalE C e env with
      | some (.ok o, env') => ok (Arg.val o.fz) env'
      | some (.error e, env') => some (.error e, env')
      | none => none) → (∀ x env1 t, argOf C e (evalE C e env) env = some (.ok x, env1) → truthOf env1 x = some t → TstP p.c F H L σ env1 t Q → T0T X ea σ H Q) ∧ (∀ x env1, argOf C e (evalE C e env) env = some (.error x, env1) → ErP p.c F H L σ W env1 x → T0T X ea σ H Q) := fun e0 => by
    rw [e0]
    cases h : evalE C e env with
    | none => exact ⟨fun x env1 t ev => (by cases ev), fun x env1 ev => (by cases ev)⟩
    | some y =>
      obtain ⟨r, env'⟩ := y
      cases r with
      | ok o =>
        refine ⟨fun x env1 t ev tr q => ?_, fun x env1 ev => (by cases ev)⟩
        cases ev
        exact (st G g hk).1 o _ t h tr q
      | error x0 =>
        refine ⟨fun x env1 t ev => by (cases ev), fun x env1 ev er => ?_⟩
        cases ev
        exact (st G g hk).2 _ _ h er
  cases e with
  | rd r =>
    have pl : plainE ea = true := okR_plain (y := p.y) (N := N) (sc := sc) (r := r) (by simpa [okE] using hk)
    have hk' : okR p.y N sc r ea = true := by simpa [okE] using hk
    refine ⟨fun x env1 t ev tr q => ?_, fun x env1 ev er => ?_⟩
    · unfold argOf at ev
      dsimp only at ev
      cases h : evalR C env r with
      | none => rw [h] at ev; cases ev
      | some a =>
        rw [h] at ev
        cases ev
        have hb : ∀ o vs q, ea ≠ .BoolOp o vs q := fun o vs q e => by rw [e] at hk'; cases r <;> simp [okR] at hk'
        have hn : ∀ x q, ea ≠ .UnaryOp .Not x q := fun o q e => by rw [e] at hk'; cases r <;> simp [okR] at hk'
        have hi : ∀ t a b q, ea ≠ .IfExp t a b q := fun t a b q e => by rw [e] at hk'; cases r <;> simp [okR] at hk'
        have hc : ∀ l o cs q, ea ≠ .Compare l o cs q := fun l o cs q e => by rw [e] at hk'; cases r <;> simp [okR] at hk'
        refine T0T.of (pt_truth pe0 fun w => plain_true pl hb hn hi hc w) (soundR T G g hk' h fun v hv => ⟨t, ?_, q F H L (.refl F H L) g⟩)
        rw [G.K]
        exact truthOf_ok g tr hv
    · unfold argOf at ev
      dsimp only at ev
      cases h : evalR C env r with
      | none => rw [h] at ev; cases ev
      | some a => rw [h] at ev; cases ev
  | _ => exact gen rfl
def plainT : Expr → Bool
  | .BoolOp _ _ _ => false
  | .UnaryOp .Not _ _ => false
  | .IfExp _ _ _ _ => false
  | .Compare _ _ _ _ => false
  | e => plainE e
theorem plainT_true {e : Expr} (h : plainT e = true) {env : PySem.Env} (w : Sem Value) : isTrue e env w = (do let v ← w; standAt e.pos; holding [v] (truthy v)) := by
  refine plain_true (e := e) ?_ (fun o vs q e' => ?_) (fun x q e' => ?_) (fun t a b q e' => ?_) (fun l o cs q e' => ?_) w
  · unfold plainT at h
    split at h <;> first
      | (cases h; done)
      | exact h
  · subst e'; cases h
  · subst e'; cases h
  · subst e'; cases h
  · subst e'; cases h
/-- by its value -/
theorem ST.plain (T : Top p C) {e : E} (s : SE p C n N e) (G : Good p n N sc W X) (g : Cfg p.c F H σ env L) {ea : Expr} (hk : okE p.y N sc e ea = true) (pl : plainT ea = true) {Q : Bool → Hp → Prop} :
    (∀ o env1 t, evalE C e env = some (.ok o, env1) → o.fz.truth = some t → TstP p.c F H L σ env1 t Q → T0T X ea σ H Q) ∧ (∀ x env1, evalE C e env = some (.error x, env1) → ErP p.c F H L σ W env1 x → T0T X ea σ H Q) := by
  refine ⟨fun o env1 t ev tr q => ?_, fun x env1 ev er => ?_⟩
  · refine T0T.of (pt_truth pe0 fun w => plainT_true pl w) (s G g hk ev fun F1 H1 L1 v Lv a cf => ?_)
    obtain ⟨a1, g1, r1⟩ := cf.settle a
    exact ⟨t, by rw [G.K]; exact truth_rep g1.ex tr r1, q _ H1 L1 a1 g1⟩
  · exact T0T.of (pt_truth pe0 fun w => plainT_true pl w) (s G g hk ev er)
def T0W (X : Cx) (e : Expr) : TT := fun σ H Q => ∀ (wh : Sem Value) (pins : List (Addr × Obj)) (s : Shared), Inv X pins σ H s → wpAny (model X.prog X.w) X.A (isTrue e X.env wh) (TP X pins σ Q) X.xe s
theorem pw0 {e : Expr} : PW X e (T0W X e) := ⟨fun wh pins s _ _ _ I h => h wh pins s I⟩
theorem T0W.of {e : Expr} {t : TT} (h : PW X e t) {σ : L2.St} {H : Hp} {Q : Bool → Hp → Prop} (q : t σ H Q) : T0W X e σ H Q := fun wh pins s I => h.run wh pins s σ H Q I q
theorem T0W.ofT {op : BoolOp} {vs : List Expr} {q : Pos} {Q : Bool → Hp → Prop} (h : T0T X (.BoolOp op vs q) σ H Q) : T0W X (.BoolOp op vs q) σ H Q := fun wh pins s I => h pins s I
theorem T0W.toT {op : BoolOp} {vs : List Expr} {q : Pos} {Q : Bool → Hp → Prop} (h : T0W X (.BoolOp op vs q) σ H Q) : T0T X (.BoolOp op vs q) σ H Q := fun pins s I => h _ pins s I
theorem T0T.mono {e : Expr} {Q Q' : Bool → Hp → Prop} (h : T0T X e σ H Q) (k : ∀ b H', Q b H' → Q' b H') : T0T X e σ H Q' := fun pins s I =>
  wpAny_mono (h pins s I) (fun u s' ⟨H', I', q⟩ => ⟨H', I', k u H' q⟩) fun _ _ h => h
theorem okE_and {y : Sy} {a b : E} {ea eb : Expr} {r : List Expr} {q : Pos} (h : okE y N sc (.and a b) (.BoolOp .And (ea :: eb :: r) q) = true) : okE y N sc a ea = true ∧ ((r = [] ∧ okE y N sc b eb = true) ∨ okE y N sc b (.BoolOp .And (eb :: r) q) = true) := by
  unfold okE at h
  rw [Bool.and_eq_true] at h
  refine ⟨h.1, ?_⟩
  cases r with
  | nil => exact .inl ⟨rfl, h.2⟩
  | cons _ _ => exact .inr h.2
theorem okE_or {y : Sy} {a b : E} {ea eb : Expr} {r : List Expr} {q : Pos} (h : okE y N sc (.or a b) (.BoolOp .Or (ea :: eb :: r) q) = true) : okE y N sc a ea = true ∧ ((r = [] ∧ okE y N sc b eb = true) ∨ okE y N sc b (.BoolOp .Or (eb :: r) q) = true) := by
  unfold okE at h
  rw [Bool.and_eq_true] at h
  refine ⟨h.1, ?_⟩
  cases r with
  | nil => exact .inl ⟨rfl, h.2⟩
  | cons _ _ => exact .inr h.2
theorem and_form {y : Sy} {a b : E} {ea : Expr} (h : okE y N sc (.and a b) ea = true) : ∃ e1 e2 r q, ea = .BoolOp .And (e1 :: e2 :: r) q := by
  cases ea <;> first
    | (exact Bool.noConfusion (show false = true from h))
    | skip
  rename_i op vs q
  cases op
  · cases vs with
    | nil => exact Bool.noConfusion (show false = true from h)
    | cons e1 vs =>
      cases vs with
      | nil => exact Bool.noConfusion (show false = true from h)
      | cons e2 vs => exact ⟨_, _, _, _, rfl⟩
  · cases vs with
    | nil => exact Bool.noConfusion (show false = true from h)
    | cons e1 vs =>
      cases vs with
      | nil => exact Bool.noConfusion (show false = true from h)
      | cons e2 vs => exact Bool.noConfusion (show false = true from h)
end
end T
namespace T
open PySem L2
section
variable {p : Pg} {C : Ctx} {n : Nat} {N : List Str} {sc : Scope} {W : WX} {X : Cx} {F F1 F' H H1 H' : Hp} {σ : L2.St} {Q : VK} {env env1 : Env} {L L1 : List Addr} {c : Cn}
theorem or_form {y : Sy} {a b : E} {ea : Expr} (h : okE y N sc (.or a b) ea = true) : ∃ e1 e2 r q, ea = .BoolOp .Or (e1 :: e2 :: r) q := by
  cases ea <;> first
    | (exact Bool.noConfusion (show false = true from h))
    | skip
  rename_i op vs q
  cases op
  · cases vs with
    | nil => exact Bool.noConfusion (show false = true from h)
    | cons e1 vs =>
      cases vs with
      | nil => exact Bool.noConfusion (show false = true from h)
      | cons e2 vs => exact Bool.noConfusion (show false = true from h)
  · cases vs with
    | nil => exact Bool.noConfusion (show false = true from h)
    | cons e1 vs =>
      cases vs with
      | nil => exact Bool.noConfusion (show false = true from h)
      | cons e2 vs => exact ⟨_, _, _, _, rfl⟩
theorem se_and (T : Top p C) {a b : E} (sa : SE p C n N a) (sb : SE p C n N b) : SE p C n N (.and a b) := by
  intro sc W X σ F H L env out ea Q G g hk ev q
  obtain ⟨e1, e2, r, ps, rfl⟩ := and_form hk
  obtain ⟨k1, k2⟩ := okE_and hk
  refine T0.of (pe_andT (ta := T0 X e1) (tb := T0 X (.BoolOp .And (e2 :: r) ps)) pe0 pe0) ?_
  have rest : ∀ {env1 : Env} {out : Except Exn O × Env} {F1 H1 : Hp} {L1 : List Addr}, Cfg p.c F1 H1 σ env1 L1 → evalE C b env1 = some out → OutE p.c F1 H1 L1 σ W Q out → T0 X (.BoolOp .And (e2 :: r) ps) σ H1 Q := fun {env1 out F1 H1 L1} g1 e q => by
    rcases k2 with ⟨rfl, k2⟩ | k2
    · exact T0.of (pe_one pe0) (sb G g1 k2 e q)
    · exact sb G g1 k2 e q
  unfold evalE at ev
  cases h : argOf C a (evalE C a env) env with
  | none => rw [h] at ev; cases ev
  | some y =>
    obtain ⟨ra, env1⟩ := y
    rw [h] at ev
    cases ra with
    | error x =>
      cases ev
      exact sa.arg T G g k1 h q
    | ok x =>
      dsimp only at ev
      refine sa.arg T G g k1 h fun F1 H1 L1 v a1 g1 r1 => ?_
      cases h2 : truthOf env1 x with
      | none => rw [h2] at ev; cases ev
      | some k =>
        rw [h2] at ev
        refine ⟨k, by rw [G.K]; exact truthOf_ok g1 h2 r1, ?_⟩
        cases k with
        | true => exact rest g1 ev (q.after a1)
        | false =>
          obtain ⟨o, env2⟩ := out
          cases o with
          | error x' => exact (hold_noerr ev).elim
          | ok o => exact hold_ok g1 ev (OkP.after q a1) r1
theorem se_or (T : Top p C) {a b : E} (sa : SE p C n N a) (sb : SE p C n N b) : SE p C n N (.or a b) := by
  intro sc W X σ F H L env out ea Q G g hk ev q
  obtain ⟨e1, e2, r, ps, rfl⟩ := or_form hk
  obtain ⟨k1, k2⟩ := okE_or hk
  refine T0.of (pe_orT (ta := T0 X e1) (tb := T0 X (.BoolOp .Or (e2 :: r) ps)) pe0 pe0) ?_
  have rest : ∀ {env1 : Env} {out : Except Exn O × Env} {F1 H1 : Hp} {L1 : List Addr}, Cfg p.c F1 H1 σ env1 L1 → evalE C b env1 = some out → OutE p.c F1 H1 L1 σ W Q out → T0 X (.BoolOp .Or (e2 :: r) ps) σ H1 Q := fun {env1 out F1 H1 L1} g1 e q => by
    rcases k2 with ⟨rfl, k2⟩ | k2
    · exact T0.of (pe_one pe0) (sb G g1 k2 e q)
    · exact sb G g1 k2 e q
  unfold evalE at ev
  cases h : argOf C a (evalE C a env) env with
  | none => rw [h] at ev; cases ev
  | some y =>
    obtain ⟨ra, env1⟩ := y
    rw [h] at ev
    cases ra with
    | error x =>
      cases ev
      exact sa.arg T G g k1 h q
    | ok x =>
      dsimp only at ev
      refine sa.arg T G g k1 h fun F1 H1 L1 v a1 g1 r1 => ?_
      cases h2 : truthOf env1 x with
      | none => rw [h2] at ev; cases ev
      | some k =>
        rw [h2] at ev
        refine ⟨k, by rw [G.K]; exact truthOf_ok g1 h2 r1, ?_⟩
        cases k with
        | false => exact rest g1 ev (q.after a1)
        | true =>
          obtain ⟨o, env2⟩ := out
          cases o with
          | error x' => exact (hold_noerr ev).elim
          | ok o => exact hold_ok g1 ev (OkP.after q a1) r1
/-- what is held has the truth that it had -/
theorem hold_truth {x : Arg} {o : O} {t : Bool} (e : hold x env = some (.ok o, env1)) (h : truthOf env x = some t) : o.fz.truth = some t := by
  cases x with
  | val d =>
    cases e
    exact h
  | ref i q =>
    unfold hold Env.freeze at e
    unfold truthOf Arg.view at h
    dsimp only at e h
    cases h1 : env.at i q with
    | none => rw [h1] at h; cases h
    | some o1 =>
      rw [h1] at e h
      dsimp only at e h
      cases h2 : env.put i q (.pure o1.fz) with
      | none => rw [h2] at e; cases e
      | some e2 =>
        rw [h2] at e
        cases e
        exact h
theorem hold_cfg (g : Cfg c F H σ env L) {x : Arg} {o : O} (e : hold x env = some (.ok o, env1)) : ∃ F1 L1, After F H L F1 H L1 ∧ Cfg c F1 H σ env1 L1 := by
  cases x with
  | val d =>
    cases e
    exact ⟨F, L, .refl F H L, g⟩
  | ref i q =>
    unfold hold at e
    dsimp only at e
    cases h : env.freeze i q with
    | none => rw [h] at e; cases e
    | some y =>
      obtain ⟨d, env'⟩ := y
      rw [h] at e
      cases e
      obtain ⟨M, L', v0, v', o, z, _⟩ := g.freeze h
      exact ⟨_, L', z.after g, z.cfg⟩
theorem TstP.after {t : Bool} {Q : Bool → Hp → Prop} (h : TstP c F H L σ env t Q) (a : After F H L F1 H1 L1) : TstP c F1 H1 L1 σ env t Q := fun F2 H2 L2 b g => h F2 H2 L2 (a.trans b) g
theorem st_and (T : Top p C) {a b : E} (sa : ST p C n N a) (sb : ST p C n N b) : ST p C n N (.and a b) := by
  intro sc W X σ F H L env ea Q G g hk
  obtain ⟨e1, e2, r, ps, rfl⟩ := and_form hk
  obtain ⟨k1, k2⟩ := okE_and hk
  have wh : T0T X e1 σ H (fun c H1 => if c = true then T0W X (.BoolOp .And (e2 :: r) ps) σ H1 Q else Q false H1) → T0T X (.BoolOp .And (e1 :: e2 :: r) ps) σ H Q := fun h => T0W.toT (T0W.of (pw_and pt0 pw0) h)
  have rest : ∀ {env1 : Env} {F1 H1 : Hp} {L1 : List Addr}, Cfg p.c F1 H1 σ env1 L1 →
      (∀ o env2 t, evalE C b env1 = some (.ok o, env2) → o.fz.truth = some t → TstP p.c F1 H1 L1 σ env2 t Q → T0W X (.BoolOp .And (e2 :: r) ps) σ H1 Q) ∧ (∀ x env2, evalE C b env1 = some (.error x, env2) → ErP p.c F1 H1 L1 σ W env2 x → T0W X (.BoolOp .And (e2 :: r) ps) σ H1 Q) := fun {env1 F1 H1 L1} g1 => by
    rcases k2 with ⟨rfl, k2⟩ | k2
    · exact ⟨fun o env2 t h1 h2 h3 => T0W.of (pw_and1 pt0) ((sb G g1 k2).1 o env2 t h1 h2 h3), fun x env2 h1 h2 => T0W.of (pw_and1 pt0) ((sb G g1 k2).2 x env2 h1 h2)⟩
    · exact ⟨fun o env2 t h1 h2 h3 => T0W.ofT ((sb G g1 k2).1 o env2 t h1 h2 h3), fun x env2 h1 h2 => T0W.ofT ((sb G g1 k2).2 x env2 h1 h2)⟩
  have A := sa.arg T G g k1 (Q := fun c H1 => if c = true then T0W X (.BoolOp .And (e2 :: r) ps) σ H1 Q else Q false H1)
  have main : ∀ res env', evalE C (.and a b) env = some (res, env') → (match res with
      | .ok o => ∀ t, o.fz.truth = some t → TstP p.c F H L σ env' t Q → T0T X (.BoolOp .And (e1 :: e2 :: r) ps) σ H Q
      | .error x => ErP p.c F H L σ W env' x → T0T X (.BoolOp .And (e1 :: e2 :: r) ps) σ H Q) := fun res env' ev => by
    unfold evalE at ev
    cases h : argOf C a (evalE C a env) env with
    | none => rw [h] at ev; cases ev
    | some y =>
      obtain ⟨ra, env1⟩ := y
      rw [h] at ev
      cases ra with
      | error x =>
        cases ev
        exact fun er => wh (A.2 x _ h er)
      | ok x =>
        dsimp only at ev
        cases h2 : truthOf env1 x with
        | none => rw [h2] at ev; cases ev
        | some k =>
          rw [h2] at ev
          cases k with
          | true =>
            cases res with
            | ok o => exact fun t ht q => wh (A.1 x env1 true h h2 fun F1 H1 L1 a1 g1 => (rest g1).1 o env' t ev ht (q.after a1))
            | error x' => exact fun er => wh (A.1 x env1 true h h2 fun F1 H1 L1 a1 g1 => (rest g1).2 x' env' ev (er.after a1))
          | false =>
            cases res with
            | error x' => exact (hold_noerr ev).elim
            | ok o =>
              intro t ht q
              have e : some false = some t := (hold_truth ev h2).symm.trans ht
              cases e
              refine wh (A.1 x env1 false h h2 fun F1 H1 L1 a1 g1 => ?_)
              obtain ⟨F2, L2, a2, g2⟩ := hold_cfg g1 ev
              exact q F2 H1 L2 (a1.trans a2) g2
  exact ⟨fun o env1 t ev ht q => main _ _ ev t ht q, fun x env1 ev er => main _ _ ev er⟩
theorem st_or (T : Top p C) {a b : E} (sa : ST p C n N a) (sb : ST p C n N b) : ST p C n N (.or a b) := by
  intro sc W X σ F H L env ea Q G g hk
  obtain ⟨e1, e2, r, ps, rfl⟩ := or_form hk
  obtain ⟨k1, k2⟩ := okE_or hk
  have wh : T0T X e1 σ H (fun c H1 => if c = true then Q true H1 else T0W X (.BoolOp .Or (e2 :: r) ps) σ H1 Q) → T0T X (.BoolOp .Or (e1 :: e2 :: r) ps) σ H Q := fun h => T0W.toT (T0W.of (pw_or pt0 pw0) h)
  have rest : ∀ {env1 : Env} {F1 H1 : Hp} {L1 : List Addr}, Cfg p.c F1 H1 σ env1 L1 →
      (∀ o env2 t, evalE C b env1 = some (.ok o, env2) → o.fz.truth = some t → TstP p.c F1 H1 L1 σ env2 t Q → T0W X (.BoolOp .Or (e2 :: r) ps) σ H1 Q) ∧ (∀ x env2, evalE C b env1 = some (.error x, env2) → ErP p.c F1 H1 L1 σ W env2 x → T0W X (.BoolOp .Or (e2 :: r) ps) σ H1 Q) := fun {env1 F1 H1 L1} g1 => by
    rcases k2 with ⟨rfl, k2⟩ | k2
    · exact ⟨fun o env2 t h1 h2 h3 => T0W.of (pw_or1 pt0) ((sb G g1 k2).1 o env2 t h1 h2 h3), fun x env2 h1 h2 => T0W.of (pw_or1 pt0) ((sb G g1 k2).2 x env2 h1 h2)⟩
    · exact ⟨fun o env2 t h1 h2 h3 => T0W.ofT ((sb G g1 k2).1 o env2 t h1 h2 h3), fun x env2 h1 h2 => T0W.ofT ((sb G g1 k2).2 x env2 h1 h2)⟩
  have A := sa.arg T G g k1 (Q := fun c H1 => if c = true then Q true H1 else T0W X (.BoolOp .Or (e2 :: r) ps) σ H1 Q)
  have main : ∀ res env', evalE C (.or a b) env = some (res, env') → (match res with
      | .ok o => ∀ t, o.fz.truth = some t → TstP p.c F H L σ env' t Q → T0T X (.BoolOp .Or (e1 :: e2 :: r) ps) σ H Q
      | .error x => ErP p.c F H L σ W env' x → T0T X (.BoolOp .Or (e1 :: e2 :: r) ps) σ H Q) := fun res env' ev => by
    unfold evalE at ev
    cases h : argOf C a (evalE C a env) env with
    | none => rw [h] at ev; cases ev
    | some y =>
      obtain ⟨ra, env1⟩ := y
      rw [h] at ev
      cases ra with
      | error x =>
        cases ev
        exact fun er => wh (A.2 x _ h er)
      | ok x =>
        dsimp only at ev
        cases h2 : truthOf env1 x with
        | none => rw [h2] at ev; cases ev
        | some k =>
          rw [h2] at ev
          cases k with
          | false =>
            cases res with
            | ok o => exact fun t ht q => wh (A.1 x env1 false h h2 fun F1 H1 L1 a1 g1 => (rest g1).1 o env' t ev ht (q.after a1))
            | error x' => exact fun er => wh (A.1 x env1 false h h2 fun F1 H1 L1 a1 g1 => (rest g1).2 x' env' ev (er.after a1))
          | true =>
            cases res with
            | error x' => exact (hold_noerr ev).elim
            | ok o =>
              intro t ht q
              have e : some true = some t := (hold_truth ev h2).symm.trans ht
              cases e
              refine wh (A.1 x env1 true h h2 fun F1 H1 L1 a1 g1 => ?_)
              obtain ⟨F2, L2, a2, g2⟩ := hold_cfg g1 ev
              exact q F2 H1 L2 (a1.trans a2) g2
  exact ⟨fun o env1 t ev ht q => main _ _ ev t ht q, fun x env1 ev er => main _ _ ev er⟩
theorem ife_form {y : Sy} {t a b : E} {ea : Expr} (h : okE y N sc (.ife t a b) ea = true) : ∃ e1 e2 e3 q, ea = .IfExp e1 e2 e3 q ∧ okE y N sc t e1 = true ∧ okE y N sc a e2 = true ∧ okE y N sc b e3 = true := by
  cases ea <;> first
    | (exact Bool.noConfusion (show false = true from h))
    | skip
  unfold okE at h
  simp only [Bool.and_eq_true] at h
  exact ⟨_, _, _, _, rfl, h.1.1, h.1.2, h.2⟩
theorem se_ife (T : Top p C) {t a b : E} (tt : ST p C n N t) (sa : SE p C n N a) (sb : SE p C n N b) : SE p C n N (.ife t a b) := by
  intro sc W X σ F H L env out ea Q G g hk ev q
  obtain ⟨e1, e2, e3, ps, rfl, k1, k2, k3⟩ := ife_form hk
  refine T0.of (pe_ifExp (tA := T0T X e1) (ta := T0 X e2) (tb := T0 X e3) pt0 pe0 pe0) ?_
  have A := tt.arg T G g k1 (Q := fun c H1 => if c = true then T0 X e2 σ H1 Q else T0 X e3 σ H1 Q)
  unfold evalE at ev
  cases h : argOf C t (evalE C t env) env with
  | none => rw [h] at ev; cases ev
  | some y =>
    obtain ⟨ra, env1⟩ := y
    rw [h] at ev
    cases ra with
    | error x =>
      cases ev
      exact A.2 x _ h q
    | ok x =>
      dsimp only at ev
      cases h2 : truthOf env1 x with
      | none => rw [h2] at ev; cases ev
      | some k =>
        rw [h2] at ev
        refine A.1 x env1 k h h2 fun F1 H1 L1 a1 g1 => ?_
        cases k with
        | true => exact sa G g1 k2 ev (q.after a1)
        | false => exact sb G g1 k3 ev (q.after a1)
theorem chn_form {y : Sy} {o1 o2 : Op} {a b d : E} {ea : Expr} (h : okE y N sc (.chn o1 o2 a b d) ea = true) :
    ∃ e1 e2 e3 p1 p2 q, ea = .Compare e1 [p1, p2] [e2, e3] q ∧ okCmp o1 p1 = true ∧ okCmp o2 p2 = true ∧ okE y N sc a e1 = true ∧ okE y N sc b e2 = true ∧ okE y N sc d e3 = true ∧ plainE e3 = true := by
  cases ea <;> first
    | (exact Bool.noConfusion (show false = true from h))
    | skip
  rename_i l ops cs q
  cases ops with
  | nil => exact Bool.noConfusion (show false = true from h)
  | cons p1 ops =>
    cases ops with
    | nil => exact Bool.noConfusion (show false = true from h)
    | cons p2 ops =>
      cases ops with
      | cons _ _ => exact Bool.noConfusion (show false = true from h)
      | nil =>
        cases cs with
        | nil => exact Bool.noConfusion (show false = true from h)
        | cons e2 cs =>
          cases cs with
          | nil => exact Bool.noConfusion (show false = true from h)
          | cons e3 cs =>
            cases cs with
            | cons _ _ => exact Bool.noConfusion (show false = true from h)
            | nil =>
              unfold okE at h
              simp only [Bool.and_eq_true] at h
              obtain ⟨⟨⟨⟨⟨h1, h2⟩, h3⟩, h4⟩, h5⟩, h6⟩ := h
              exact ⟨_, _, _, _, _, _, rfl, h1, h2, h3, h4, h5, h6⟩
/-- the chain, as its rule asks -/
theorem chn_core (T : Top p C) {o1 o2 : Op} {a b d : E} (sa : SE p C n N a) (sb : SE p C n N b) (sd : SE p C n N d) (G : Good p n N sc W X) (g : Cfg p.c F H σ env L) {e1 e2 e3 : Expr} {p1 p2 : CmpOp} (m1 : okCmp o1 p1 = true) (m2 : okCmp o2 p2 = true) (k1 : okE p.y N sc a e1 = true) (k2 : okE p.y N sc b e2 = true) (k3 : okE p.y N sc d e3 = true)
    {out : Except Exn O × Env} (ev : evalE C (.chn o1 o2 a b d) env = some out) : ∃ r r' : R2, OpR X (compareOp p1) r ∧ OpR X (compareOp p2) r' ∧ ∀ {Q : VK}, (∀ o env1, out = (.ok o, env1) → ∃ k, o = .pure (.bl k) ∧ (TstP p.c F H L σ env1 k (fun k H1 => Q (.bl k) H1) → tChain r r' (T0 X e1) (T0 X e2) (T0 X e3) σ H Q)) ∧
      (∀ x env1, out = (.error x, env1) → ErP p.c F H L σ W env1 x → tChain r r' (T0 X e1) (T0 X e2) (T0 X e3) σ H Q) := by
  have triv : ∀ {o : CmpOp}, OpR X (compareOp o) (fun _ _ _ _ => False) := fun {o} _ _ _ _ _ _ _ _ _ _ _ _ z => z.elim
  unfold evalE at ev
  cases h : argOf C a (evalE C a env) env with
  | none => rw [h] at ev; cases ev
  | some y =>
    obtain ⟨ra, env1⟩ := y
    rw [h] at ev
    cases ra with
    | error x =>
      cases ev
      exact ⟨_, _, triv, triv, fun {Q} => ⟨fun o env1 e => (by cases e), fun x' env' e er => by
        cases e
        exact sa.arg T G g k1 h er⟩⟩
    | ok x =>
      cases x with
      | ref i q => cases ev
      | val dx =>
        dsimp only at ev
        cases h2 : argOf C b (evalE C b env1) env1 with
        | none => rw [h2] at ev; cases ev
        | some y =>
          obtain ⟨rb, env2⟩ := y
          rw [h2] at ev
          cases rb with
          | error x =>
            cases ev
            exact ⟨_, _, triv, triv, fun {Q} => ⟨fun o env1 e => (by cases e), fun x' env' e er => by
              cases e
              exact sa.arg T G g k1 h fun F1 H1 L1 v a1 g1 r1 => sb.arg T G g1 k2 h2 (er.after a1)⟩⟩
          | ok y =>
            cases y with
            | ref i q => cases ev
            | val dy =>
              dsimp only at ev
              cases h3 : opD C o1 [dx, dy] with
              | none => rw [h3] at ev; cases ev
              | some ro =>
                obtain ⟨r, hr, kr⟩ := cmpR_ok G m1 h3
                rw [h3] at ev
                have isb : ∃ k, ro = .pure (.bl k) := by
                  split at ev <;> first
                    | (rename_i e; cases e; exact ⟨_, rfl⟩)
                    | (cases ev; done)
                obtain ⟨k, rfl⟩ := isb
                cases k with
                | false =>
                  cases ev
                  refine ⟨r, _, hr, triv, fun {Q} => ⟨fun o env' e => ?_, fun x env' e => (by cases e)⟩⟩
                  cases e
                  refine ⟨false, rfl, fun q => ?_⟩
                  refine sa.arg T G g k1 h fun F1 H1 L1 v a1 g1 r1 => sb.arg T G g1 k2 h2 fun F2 H2 L2 w a2 g2 r2 => kr ?_
                  refine ⟨F2, g2.ex, ⟨v, _, rfl, Rep.mono a2.fs r1, ⟨w, [], rfl, r2, rfl⟩⟩, fun F3 H3 z Lv gr rz => ?_⟩
                  obtain ⟨rz1, rz2⟩ := rz
                  subst rz2
                  obtain ⟨a3, g3⟩ := g2.grow gr
                  exact ⟨false, rz1, q F3 H3 L2 ((a1.trans a2).trans a3) g3⟩
                | true =>
                  dsimp only at ev
                  cases h4 : argOf C d (evalE C d env2) env2 with
                  | none => rw [h4] at ev; cases ev
                  | some y =>
                    obtain ⟨rd, env3⟩ := y
                    rw [h4] at ev
                    cases rd with
                    | error x =>
                      cases ev
                      refine ⟨r, _, hr, triv, fun {Q} => ⟨fun o env' e => (by cases e), fun x' env' e er => ?_⟩⟩
                      cases e
                      refine sa.arg T G g k1 h fun F1 H1 L1 v a1 g1 r1 => sb.arg T G g1 k2 h2 fun F2 H2 L2 w a2 g2 r2 => kr ?_
                      refine ⟨F2, g2.ex, ⟨v, _, rfl, Rep.mono a2.fs r1, ⟨w, [], rfl, r2, rfl⟩⟩, fun F3 H3 z Lv gr rz => ?_⟩
                      obtain ⟨rz1, rz2⟩ := rz
                      subst rz2
                      obtain ⟨a3, g3⟩ := g2.grow gr
                      exact ⟨true, rz1, sd.arg T G g3 k3 h4 (er.after ((a1.trans a2).trans a3))⟩
                    | ok z =>
                      cases z with
                      | ref i q => cases ev
                      | val dz =>
                        dsimp only at ev
                        cases h5 : opD C o2 [dy, dz] with
                        | none => rw [h5] at ev; cases ev
                        | some ro =>
                          obtain ⟨r', hr', kr'⟩ := cmpR_ok G m2 h5
                          rw [h5] at ev
                          have isb : ∃ k, ro = .pure (.bl k) := by
                            split at ev <;> first
                              | (rename_i e; cases e; exact ⟨_, rfl⟩)
                              | (cases ev; done)
                          obtain ⟨k, rfl⟩ := isb
                          cases ev
                          refine ⟨r, r', hr, hr', fun {Q} => ⟨fun o env' e => ?_, fun x env' e => (by cases e)⟩⟩
                          cases e
                          refine ⟨k, rfl, fun q => ?_⟩
                          refine sa.arg T G g k1 h fun F1 H1 L1 v a1 g1 r1 => sb.arg T G g1 k2 h2 fun F2 H2 L2 w a2 g2 r2 => kr ?_
                          refine ⟨F2, g2.ex, ⟨v, _, rfl, Rep.mono a2.fs r1, ⟨w, [], rfl, r2, rfl⟩⟩, fun F3 H3 z Lv gr rz => ?_⟩
                          obtain ⟨rz1, rz2⟩ := rz
                          subst rz2
                          obtain ⟨a3, g3⟩ := g2.grow gr
                          refine ⟨true, rz1, sd.arg T G g3 k3 h4 fun F4 H4 L4 u a4 g4 r4 => kr' ?_⟩
                          refine ⟨F4, g4.ex, ⟨w, _, rfl, Rep.mono (a3.fs.trans a4.fs) r2, ⟨u, [], rfl, r4, rfl⟩⟩, fun F5 H5 z Lv gr rz => ?_⟩
                          obtain ⟨rz1, rz2⟩ := rz
                          subst rz2
                          obtain ⟨a5, g5⟩ := g4.grow gr
                          rw [rz1]
                          exact q F5 H5 L4 ((((a1.trans a2).trans a3).trans a4).trans a5) g5
theorem TstP.ok {k : Bool} (q : OkP c F H L σ env1 (.pure (.bl k)) Q) : TstP c F H L σ env1 k (fun k H1 => Q (.bl k) H1) := fun F1 H1 L1 a g => q F1 H1 L1 _ [] (a.sub (by simp)) ⟨g, ⟨rfl, rfl⟩, by simpa using g.nd, fun _ h => absurd h (by simp)⟩
theorem se_chn (T : Top p C) {o1 o2 : Op} {a b d : E} (sa : SE p C n N a) (sb : SE p C n N b) (sd : SE p C n N d) : SE p C n N (.chn o1 o2 a b d) := by
  intro sc W X σ F H L env out ea Q G g hk ev q
  obtain ⟨e1, e2, e3, p1, p2, ps, rfl, m1, m2, k1, k2, k3, pl⟩ := chn_form hk
  obtain ⟨r, r', hr, hr', k⟩ := chn_core T sa sb sd G g m1 m2 k1 k2 k3 ev
  refine T0.of (pe_chain hr hr' (ta := T0 X e1) (tb := T0 X e2) (tc := T0 X e3) pe0 pe0 pe0 (plain_last pl)) ?_
  obtain ⟨res, env1⟩ := out
  cases res with
  | ok o =>
    obtain ⟨k0, rfl, kk⟩ := (k (Q := Q)).1 o env1 rfl
    exact kk (TstP.ok q)
  | error x => exact (k (Q := Q)).2 x env1 rfl q
theorem st_chn (T : Top p C) {o1 o2 : Op} {a b d : E} (sa : SE p C n N a) (sb : SE p C n N b) (sd : SE p C n N d) : ST p C n N (.chn o1 o2 a b d) := by
  intro sc W X σ F H L env ea Q G g hk
  obtain ⟨e1, e2, e3, p1, p2, ps, rfl, m1, m2, k1, k2, k3, pl⟩ := chn_form hk
  refine ⟨fun o env1 t ev ht q => ?_, fun x env1 ev er => ?_⟩
  · obtain ⟨r, r', hr, hr', k⟩ := chn_core T sa sb sd G g m1 m2 k1 k2 k3 ev
    refine T0T.of (pt_chain hr hr' (ta := T0 X e1) (tb := T0 X e2) (tc := T0 X e3) pe0 pe0 pe0 (plain_last pl)) ?_
    obtain ⟨k0, rfl, kk⟩ := (k (Q := fun v H1 => ∃ k, v = V.bl k ∧ Q k H1)).1 o env1 rfl
    have e : some k0 = some t := ht
    cases e
    exact kk fun F1 H1 L1 a g => ⟨_, rfl, q F1 H1 L1 a g⟩
  · obtain ⟨r, r', hr, hr', k⟩ := chn_core T sa sb sd G g m1 m2 k1 k2 k3 ev
    refine T0T.of (pt_chain hr hr' (ta := T0 X e1) (tb := T0 X e2) (tc := T0 X e3) pe0 pe0 pe0 (plain_last pl)) ?_
    exact (k (Q := fun v H1 => ∃ k, v = V.bl k ∧ Q k H1)).2 x env1 rfl er
end
end T
namespace T
open PySem L2
section
variable {p : Pg} {C : Ctx} {n : Nat} {N : List Str} {sc : Scope} {W : WX} {X : Cx} {F F1 F' H H1 H' : Hp} {σ : L2.St} {Q : VK} {env env1 : Env} {L L1 : List Addr} {c : Cn}
theorem st_ife (T : Top p C) {t a b : E} (tt : ST p C n N t) (sa : ST p C n N a) (sb : ST p C n N b) : ST p C n N (.ife t a b) := by
  intro sc W X σ F H L env ea Q G g hk
  obtain ⟨e1, e2, e3, ps, rfl, k1, k2, k3⟩ := ife_form hk
  have A := tt.arg T G g k1 (Q := fun c H1 => if c = true then T0T X e2 σ H1 Q else T0T X e3 σ H1 Q)
  have wh : T0T X e1 σ H (fun c H1 => if c = true then T0T X e2 σ H1 Q else T0T X e3 σ H1 Q) → T0T X (.IfExp e1 e2 e3 ps) σ H Q := fun h => by
    intro pins s I
    show wpAny _ _ (do if ← isTrue e1 X.env (eval e1 X.env) then isTrue e2 X.env (eval e2 X.env) else isTrue e3 X.env (eval e3 X.env)) _ _ _
    refine wpAny_bind (wpAny_mono (h pins s I) (fun k s1 ⟨H1, I1, q1⟩ => ?_) fun _ _ z => z)
    cases k with
    | true => exact q1 pins s1 I1
    | false => exact q1 pins s1 I1
  have main : ∀ res env', evalE C (.ife t a b) env = some (res, env') → (match res with
      | .ok o => ∀ k, o.fz.truth = some k → TstP p.c F H L σ env' k Q → T0T X (.IfExp e1 e2 e3 ps) σ H Q
      | .error x => ErP p.c F H L σ W env' x → T0T X (.IfExp e1 e2 e3 ps) σ H Q) := fun res env' ev => by
    unfold evalE at ev
    cases h : argOf C t (evalE C t env) env with
    | none => rw [h] at ev; cases ev
    | some y =>
      obtain ⟨ra, env1⟩ := y
      rw [h] at ev
      cases ra with
      | error x =>
        cases ev
        exact fun er => wh (A.2 x _ h er)
      | ok x =>
        dsimp only at ev
        cases h2 : truthOf env1 x with
        | none => rw [h2] at ev; cases ev
        | some k =>
          rw [h2] at ev
          cases k with
          | true =>
            cases res with
            | ok o => exact fun k hk2 q => wh (A.1 x env1 true h h2 fun F1 H1 L1 a1 g1 => (sa G g1 k2).1 o env' k ev hk2 (q.after a1))
            | error x' => exact fun er => wh (A.1 x env1 true h h2 fun F1 H1 L1 a1 g1 => (sa G g1 k2).2 x' env' ev (er.after a1))
          | false =>
            cases res with
            | ok o => exact fun k hk2 q => wh (A.1 x env1 false h h2 fun F1 H1 L1 a1 g1 => (sb G g1 k3).1 o env' k ev hk2 (q.after a1))
            | error x' => exact fun er => wh (A.1 x env1 false h h2 fun F1 H1 L1 a1 g1 => (sb G g1 k3).2 x' env' ev (er.after a1))
  exact ⟨fun o env1 t ev ht q => main _ _ ev t ht q, fun x env1 ev er => main _ _ ev er⟩
/-- not, as a test -/
theorem st_not (T : Top p C) {e : E} (st : ST p C n N e) (G : Good p n N sc W X) (g : Cfg p.c F H σ env L) {e1 : Expr} {ps : Pos} (hk : okE p.y N sc e e1 = true) {Q : Bool → Hp → Prop} :
    (∀ o env1 t, evalE C (.op .not (.cons e .nil)) env = some (.ok o, env1) → o.fz.truth = some t → TstP p.c F H L σ env1 t Q → T0T X (.UnaryOp .Not e1 ps) σ H Q) ∧ (∀ x env1, evalE C (.op .not (.cons e .nil)) env = some (.error x, env1) → ErP p.c F H L σ W env1 x → T0T X (.UnaryOp .Not e1 ps) σ H Q) := by
  have A := st.arg T G g hk (Q := fun c H1 => Q (!c) H1)
  have wh : T0T X e1 σ H (fun c H1 => Q (!c) H1) → T0T X (.UnaryOp .Not e1 ps) σ H Q := fun h => T0T.of (pt_not pt0) h
  have main : ∀ res env', evalE C (.op .not (.cons e .nil)) env = some (res, env') → (match res with
      | .ok o => ∀ k, o.fz.truth = some k → TstP p.c F H L σ env' k Q → T0T X (.UnaryOp .Not e1 ps) σ H Q
      | .error x => ErP p.c F H L σ W env' x → T0T X (.UnaryOp .Not e1 ps) σ H Q) := fun res env' ev => by
    unfold evalE evalEs at ev
    cases h : argOf C e (evalE C e env) env with
    | none => rw [h] at ev; cases ev
    | some y =>
      obtain ⟨ra, env1⟩ := y
      rw [h] at ev
      cases ra with
      | error x =>
        cases ev
        exact fun er => wh (A.2 x _ h er)
      | ok x =>
        dsimp only at ev
        rw [show pinIf Es.nil.allRd x env1 = some (x, env1) from rfl] at ev
        dsimp only at ev
        rw [show evalEs C .nil env1 = some (.ok [], env1) from by unfold evalEs; rfl] at ev
        dsimp only at ev
        unfold opOrCall at ev
        rw [if_pos (show opPre .not [x] = true from rfl)] at ev
        obtain ⟨ds, l, env2, o', hz, hd, e0⟩ := opRes_inv ev
        cases e0
        obtain ⟨d, rfl, hd2⟩ := f1_some (g := notD) hd
        unfold notD at hd2
        cases ht : d.truth with
        | none => rw [ht] at hd2; cases hd2
        | some b =>
          rw [ht] at hd2
          cases hd2
          have tr : truthOf env1 x = some b := by
            cases x with
            | val d' =>
              cases hz
              exact ht
            | ref i q =>
              unfold freezes at hz
              cases hf : env1.freeze i q with
              | none => rw [hf] at hz; cases hz
              | some y =>
                obtain ⟨d1, e3⟩ := y
                rw [hf] at hz
                cases hz
                unfold Env.freeze at hf
                unfold truthOf Arg.view
                dsimp only
                cases h1 : env1.at i q with
                | none => rw [h1] at hf; cases hf
                | some o1 =>
                  rw [h1] at hf
                  dsimp only at hf ⊢
                  cases h2 : env1.put i q (.pure o1.fz) with
                  | none => rw [h2] at hf; cases hf
                  | some e2 =>
                    rw [h2] at hf
                    cases hf
                    exact ht
          intro k hk2 q
          have e2 : some (!b) = some k := hk2
          cases e2
          refine wh (A.1 x env1 b h tr fun F1 H1 L1 a1 g1 => ?_)
          by_cases hl : ((O.pure (.bl !b)).free && l) = true
          · rw [if_pos hl] at q
            exact q F1 H1 L1 a1 g1
          · rw [if_neg hl] at q
            cases x with
            | val d' =>
              cases hz
              exact q F1 H1 L1 a1 g1
            | ref i q0 =>
              unfold freezes at hz
              cases hf : env1.freeze i q0 with
              | none => rw [hf] at hz; cases hz
              | some y =>
                obtain ⟨d1, e3⟩ := y
                rw [hf] at hz
                cases hz
                obtain ⟨M, L', v0, v', o, z, _⟩ := g1.freeze hf
                exact q _ H1 L' (a1.trans (z.after g1)) z.cfg
  exact ⟨fun o env1 t ev ht q => main _ _ ev t ht q, fun x env1 ev er => main _ _ ev er⟩
theorem pl_of {y : Sy} {o : Op} {e : Expr} {eas : List Expr} (h : parts y sc o e = some eas) : plainT e = true ∨ (∃ e1 q, o = .not ∧ e = .UnaryOp .Not e1 q ∧ eas = [e1]) ∨ ∃ l o' r q, e = .Compare l [o'] [r] q ∧ okCmp o o' = true ∧ eas = [l, r] := by
  unfold parts at h
  split at h
  · exact .inl rfl
  · cases h
    exact .inr (.inl ⟨_, _, rfl, rfl, rfl⟩)
  · exact .inl rfl
  · exact .inl rfl
  · exact .inl rfl
  · exact .inl rfl
  · exact .inl rfl
  · exact .inl rfl
  · exact .inl rfl
  · exact .inl rfl
  · exact .inl rfl
  · exact .inl rfl
  · exact .inl rfl
  · exact .inl rfl
  · exact .inl rfl
  · split at h <;> cases h
    rename_i hc
    exact .inr (.inr ⟨_, _, _, _, rfl, hc, rfl⟩)
  · exact .inl rfl
  · cases h
theorem bl_of {x : Option Bool} {r : O} (h : blD x = some r) : ∃ k, r = .pure (.bl k) := by
  cases x with
  | none => cases h
  | some b => cases h; exact ⟨_, rfl⟩
theorem nb_of {x : Option Bool} {r : O} (h : nbD x = some r) : ∃ k, r = .pure (.bl k) := by
  cases x with
  | none => cases h
  | some b => cases h; exact ⟨_, rfl⟩
theorem cmp_bl {o : Op} {o' : CmpOp} (h : okCmp o o' = true) {ds : List D} {r : O} (e : opD C o ds = some r) : ∃ k, r = .pure (.bl k) := by
  cases o <;> cases o' <;> simp only [okCmp, Bool.false_eq_true] at h
  · obtain ⟨x, y, _, e⟩ := f2_some (g := fun x y => blD (eqA x y)) e
    exact bl_of e
  · obtain ⟨x, y, _, e⟩ := f2_some (g := fun x y => nbD (eqA x y)) e
    exact nb_of e
  · obtain ⟨x, y, _, e⟩ := f2_some (g := ltD) e
    cases x <;> cases y <;> simp only [ltD, reduceCtorEq] at e
    cases e
    exact ⟨_, rfl⟩
  · obtain ⟨x, y, _, e⟩ := f2_some (g := leD') e
    cases x <;> cases y <;> simp only [leD', reduceCtorEq] at e
    cases e
    exact ⟨_, rfl⟩
  · obtain ⟨x, y, _, e⟩ := f2_some (g := gtD) e
    cases x <;> cases y <;> simp only [gtD, reduceCtorEq] at e
    cases e
    exact ⟨_, rfl⟩
  · obtain ⟨x, y, _, e⟩ := f2_some (g := geD) e
    cases x <;> cases y <;> simp only [geD, reduceCtorEq] at e
    cases e
    exact ⟨_, rfl⟩
  · obtain ⟨x, y, _, e⟩ := f2_some (g := fun x y => blD (inD x y)) e
    exact bl_of e
  · obtain ⟨x, y, _, e⟩ := f2_some (g := fun x y => nbD (inD x y)) e
    exact nb_of e
  · obtain ⟨x, y, _, e⟩ := f2_some (g := isD) e
    unfold isD at e
    split at e
    · cases e
      exact ⟨_, rfl⟩
    · cases e
  · obtain ⟨x, y, _, e⟩ := f2_some (g := isnD) e
    unfold isnD at e
    split at e
    · cases e
      exact ⟨_, rfl⟩
    · cases e
theorem st_op (T : Top p C) {o : Op} {es : Es} (ss : SEs p C n N es) (s1 : ∀ e, es = .cons e .nil → ST p C n N e) : ST p C n N (.op o es) := by
  intro sc W X σ F H L env ea Q G g hk
  have hk0 := hk
  unfold okE at hk
  rw [Bool.and_eq_true] at hk
  cases hp : parts p.y sc o ea with
  | none => rw [hp] at hk; cases hk.2
  | some eas =>
    rw [hp] at hk
    have hk2 : okEs p.y N sc es eas = true := hk.2
    rcases pl_of hp with pl | ⟨e1, q1, rfl, rfl, rfl⟩ | ⟨l, o', r, q1, rfl, hc, rfl⟩
    · exact ST.plain T (se_op T ss) G g hk0 pl
    · cases es with
      | nil => exact Bool.noConfusion (show false = true from by simpa [okEs] using hk2)
      | cons e es =>
        cases es with
        | cons _ _ => exact Bool.noConfusion (show false = true from by simpa [okEs] using hk2)
        | nil =>
          have hk3 : okE p.y N sc e e1 = true := by
            have z : (okE p.y N sc e e1 = true ∧ plainE e1 = true) := by simpa [okEs, Bool.and_eq_true] using hk2
            exact z.1
          exact st_not T (s1 e rfl) G g hk3
    · have pl := okEs_plain hk2
      simp only [List.all_cons, List.all_nil, Bool.and_true, Bool.and_eq_true] at pl
      have main : ∀ res env', evalE C (.op o es) env = some (res, env') → (match res with
          | .ok oo => ∀ k, oo.fz.truth = some k → TstP p.c F H L σ env' k Q → T0T X (.Compare l [o'] [r] q1) σ H Q
          | .error x => ErP p.c F H L σ W env' x → T0T X (.Compare l [o'] [r] q1) σ H Q) := fun res env' ev => by
        unfold evalE at ev
        cases h : evalEs C es env with
        | none => rw [h] at ev; cases ev
        | some y =>
          obtain ⟨ra, env1⟩ := y
          rw [h] at ev
          cases ra with
          | error x =>
            cases ev
            exact fun er => T0T.of (pt_cmpR (r := fun _ _ _ _ => False) (fun _ _ _ _ _ _ _ _ _ _ _ _ z => z.elim) (ta := T0 X l) (tb := T0 X r) pe0 pe0 (plain_mark pl.2)) (T0.mono ((ss G g hk2 h).2 x _ rfl er (R := Nope)) fun v H1 h1 => T0.mono h1 fun w H2 z => z.elim)
          | ok as =>
            dsimp only at ev
            unfold opOrCall at ev
            split at ev
            · obtain ⟨ds, lz, env2, oo, hz, hd, e0⟩ := opRes_inv ev
              cases e0
              obtain ⟨x, y, rfl⟩ := cmp_two hc hd
              obtain ⟨r', h1, h2⟩ := cmpR_ok G hc hd
              intro k hk3 q
              have hb : ∃ k', oo = .pure (.bl k') := cmp_bl hc hd
              obtain ⟨k', rfl⟩ := hb
              have ek : some k' = some k := hk3
              cases ek
              refine T0T.of (pt_cmpR h1 (ta := T0 X l) (tb := T0 X r) pe0 pe0 (plain_mark pl.2)) ?_
              have hL := ((ss G g hk2 h).1 as env1 rfl (R := fun vs H2 => Fin p.c (.pure (.bl k)) [x, y] (fun v H1 => ∃ k, v = V.bl k ∧ Q k H1) vs H2) fun F1 H1 L1 vs a g1 r1 => ?_).toL
              · exact T0.mono hL fun v H1 h1 => T0.mono h1 fun w H2 h3 => h2 h3
              · refine opRes_ok g1 r1 hz fun F2 H2 L2 v Lv a2 cf => ?_
                have rv := cf.val
                obtain ⟨rv1, rv2⟩ := rv
                subst rv2
                exact ⟨k, rv1, q F2 H2 L2 (a.trans (a2.sub (by simp))) cf.cfg⟩
            · cases ev
      exact ⟨fun o env1 t ev ht q => main _ _ ev t ht q, fun x env1 ev er => main _ _ ev er⟩
end
end T
namespace T
open PySem L2
/-- a new instance, in a frame whose wish about errors knows the names -/
theorem run_makeS {X : Cx} {CX : CXT} {k : Nat} {f K : Addr} {fd : FuncData} {ps : List Str} {sp : Sp} {E : XK} {pins : List (Addr × Obj)} {σ : L2.St} {H : Hp} {s : Shared} {Q : VK} {us : List Value} {vs : List V} (M : Mk X.K K f) (F : FnOk X.prog X.w X.K X.mg X.base CX k f fd ps sp) (hr : Room (k + 1) X.A) (hb : Binds X.K fd ps [])
    (hx : PassesAt CX X σ E) (I : Inv X pins σ H s) (r : Vals vs us) (h : ∀ a dx, H a = none → H dx = none → dx ≠ a → sp (.ref a :: vs) (upd (upd H dx (.own a)) a (.ins K dx [])) (fun v H2 => v = .non ∧ Q (.ref a) H2) E) : wpAny (model X.prog X.w) X.A (call (.ref K) us) (EP X pins σ Q) X.xe s := by
  have hq := h (s.heap.objs.size + 1) s.heap.objs.size (I.hok.fresh (Nat.le_succ _)) I.fresh (Nat.ne_of_lt (Nat.lt_succ_self _))
  have J := Inv.made (C := K) I
  have rr : Vals (V.ref (s.heap.objs.size + 1) :: vs) (Value.ref (s.heap.objs.size + 1) :: us) := .cons rfl r
  have hl : (Value.ref (s.heap.objs.size + 1) :: us).length = ps.length := rr.length.symm.trans (F.len _ _ _ _ hq)
  have b := hb _ (Value.ref (s.heap.objs.size + 1) :: us) J.kIn (by rw [List.append_nil]; exact hl)
  rw [List.append_nil] at b
  refine wpAny_call (make_map (f := f) I.kIn M.makes M.init (beq_iff_eq.mp M.fn) (codeAny_mono (F.run _ X.stack _ _ _ _ _ _ E (hr.make K us []) (J.env0.make K us []) b rr hq) fun res s' z => ?_))
  cases res with
  | error e => exact hx pins _ _ e s' J z
  | ok fl =>
    cases fl with
    | next => exact z.elim
    | brk => exact z.elim
    | cont => exact z.elim
    | ret u =>
      obtain ⟨v, H', J', rv, ev, q3⟩ := J.after z
      subst ev
      exact ⟨rv, ⟨V.ref (s.heap.objs.size + 1), H', J', rfl, q3⟩⟩
theorem pe_makeS {X : Cx} {CX : CXT} {k : Nat} {f K : Addr} {fd : FuncData} {ps : List Str} {sp : Sp} {E : L2.St → XK} {x : Str} {q pos : Pos} {e : Expr} {es : List Expr} {t : TA} (M : Mk X.K K f) (F : FnOk X.prog X.w X.K X.mg X.base CX k f fd ps sp) (hr : Room (k + 1) X.A) (hg : Gl X x) (hm : X.mg x = some (.ref K)) (hb : Binds X.K fd ps [])
    (hx : ∀ σ, PassesAt CX X σ (E σ)) (ha : PA X (e :: es) t) (hd : (x == ("__debug__" : Str)) = false) (he : starEach (e :: es) X.env = (false, eval e X.env) :: starEach es X.env) (hp : (backTo pos (starEach es X.env)).any (·.1) = false) :
    PE X (.Call (.Name x q) (e :: es) [] pos) (fun σ H Q => t σ H fun vs H1 => ∀ a dx, H1 a = none → H1 dx = none → dx ≠ a → sp (.ref a :: vs) (upd (upd H1 dx (.own a)) a (.ins K dx [])) (fun v H2 => v = .non ∧ Q (.ref a) H2) (E σ)) := by
  refine ⟨fun pins s σ H Q I h => ?_⟩
  refine wpAny_Call_Name_kw (ld_glob I hg hm ?_ hd)
  refine PySem.W.callWith_K (h₀ := X.base) I.ok.mod.kin M.kp (thn (ha.run pos pins s σ H _ I h) fun us s1 hh => ?_) he hp
  obtain ⟨vs, H1, I1, r, w⟩ := hh
  exact ⟨I1.kIn, run_makeS M F hr hb (hx σ) I1 r w⟩
section
variable {p : Pg} {C : Ctx} {n : Nat} {N : List Str} {sc : Scope} {W : WX} {X : Cx} {F F1 F' H H1 H' : Hp} {σ : L2.St} {Q : VK} {env env1 : Env} {L L1 : List Addr} {c : Cn}
theorem Prom.at (P : Prom p C n) (G : Good p n N sc W X) (f : Nat) : FnOk X.prog X.w X.K X.mg X.base (L2N.CX X.prog X.w) (3 * n) (p.fa f) (p.fd f) (p.ps f) (fun vs H Q E => Runs p.c (C.fn f) (C.br f) vs H Q E) := by
  have h := P.ok f
  rw [G.prog, G.w, G.K, G.mg, G.base]
  exact h
theorem call_form {y : Sy} {f : Nat} {es : Es} {ea : Expr} (h : okE y N sc (.call f es) ea = true) : ∃ x q e1 eas pos, ea = .Call (.Name x q) (e1 :: eas) [] pos ∧ y.fn[f]? = some (some x) ∧ okGl sc x = true ∧ okEs y N sc es (e1 :: eas) = true := by
  cases ea <;> first
    | (exact Bool.noConfusion (show false = true from h))
    | skip
  rename_i g as kw pos
  cases g <;> first
    | (exact Bool.noConfusion (show false = true from h))
    | skip
  cases as with
  | nil => exact Bool.noConfusion (show false = true from h)
  | cons e1 eas =>
    cases kw with
    | cons _ _ => exact Bool.noConfusion (show false = true from h)
    | nil =>
      unfold okE at h
      simp only [Bool.and_eq_true] at h
      exact ⟨_, _, _, _, _, rfl, by simpa using h.1.1, h.1.2, h.2⟩
theorem mk_form {y : Sy} {f : Nat} {es : Es} {ea : Expr} (h : okE y N sc (.mk f es) ea = true) : ∃ x q e1 eas pos, ea = .Call (.Name x q) (e1 :: eas) [] pos ∧ y.cl[f]? = some x ∧ okGl sc x = true ∧ okEs y N sc es (e1 :: eas) = true := by
  cases ea <;> first
    | (exact Bool.noConfusion (show false = true from h))
    | skip
  rename_i g as kw pos
  cases g <;> first
    | (exact Bool.noConfusion (show false = true from h))
    | skip
  cases as with
  | nil => exact Bool.noConfusion (show false = true from h)
  | cons e1 eas =>
    cases kw with
    | cons _ _ => exact Bool.noConfusion (show false = true from h)
    | nil =>
      unfold okE at h
      simp only [Bool.and_eq_true] at h
      exact ⟨_, _, _, _, _, rfl, by simpa using h.1.1, h.1.2, h.2⟩
theorem OutE.afterW {out : Except Exn O × Env} (h : OutE c F H L σ W Q out) (a : After F H L F1 H1 L1) : OutE c F1 H1 L1 σ W Q out := h.after a
theorem se_call (T : Top p C) (P : Prom p C n) {f : Nat} {es : Es} (ss : SEs p C n N es) : SE p C n N (.call f es) := by
  intro sc W X σ F H L env out ea Q G g hk ev q
  obtain ⟨x, q0, e1, eas, pos, rfl, k1, k2, k3⟩ := call_form hk
  have pl := okEs_plain k3
  have pl' : plainE e1 = true ∧ eas.all plainE = true := by simpa using pl
  obtain ⟨g1, g2, g3⟩ := G.gl k2
  obtain ⟨m1, m2, m3⟩ := T.fna f x k1
  refine T0.of (pe_callS (E := WE W) (P.at G f) (G.room.mono (by omega)) g1 (by rw [G.mg]; exact m1) (by rw [G.K]; exact m2) (by rw [G.K]; exact m3) (fun σ => L2N.passAt G.takes σ) pa0 g2 (plain_star pl'.1) (plain_any pl'.2)) ?_
  unfold evalE at ev
  cases h : evalEs C es env with
  | none => rw [h] at ev; cases ev
  | some y =>
    obtain ⟨ra, env1⟩ := y
    rw [h] at ev
    cases ra with
    | error x =>
      cases ev
      exact T0L.args pl ((ss G g k3 h).2 x _ rfl q)
    | ok as =>
      refine T0L.args pl ((ss G g k3 h).1 as env1 rfl fun F1 H1 L1 vs a1 g1 r1 => ?_).toL
      exact callRes_ok g1 r1 ev (q.after a1)
/-- a new instance's lists of names and values -/
theorem se_mk (T : Top p C) (P : Prom p C n) {k : Nat} {es : Es} (ss : SEs p C n N es) : SE p C n N (.mk k es) := by
  intro sc W X σ F H L env out ea Q G g hk ev q
  obtain ⟨x, q0, e1, eas, pos, rfl, k1, k2, k3⟩ := mk_form hk
  have pl := okEs_plain k3
  have pl' : plainE e1 = true ∧ eas.all plainE = true := by simpa using pl
  obtain ⟨g1, g2, g3⟩ := G.gl k2
  unfold evalE at ev
  cases hf : C.ini k with
  | none => rw [hf] at ev; cases ev
  | some f =>
    rw [hf] at ev
    dsimp only at ev
    obtain ⟨m1, m2⟩ := T.mka k f hf
    refine T0.of (pe_makeS (E := WE W) (by rw [G.K]; exact m1) (P.at G f) (G.room.mono (by omega)) g1 (by rw [G.mg]; exact T.cln k x k1) (by rw [G.K]; exact m2) (fun σ => L2N.passAt G.takes σ) pa0 g2 (plain_star pl'.1) (plain_any pl'.2)) ?_
    cases h : evalEs C es env with
    | none => rw [h] at ev; cases ev
    | some y =>
      obtain ⟨ra, env1⟩ := y
      rw [h] at ev
      cases ra with
      | error x =>
        cases ev
        exact T0L.args pl ((ss G g k3 h).2 x _ rfl q)
      | ok as =>
        dsimp only at ev
        refine T0L.args pl ((ss G g k3 h).1 as env1 rfl fun F1 H1 L1 vs a1 g1 r1 => ?_).toL
        intro a dx ha hdx hne
        unfold makeRes at ev
        cases hb : C.br f with
        | nil => rw [hb] at ev; cases ev
        | cons b bs =>
          rw [hb] at ev
          cases b with
          | false => cases ev
          | true =>
            dsimp only at ev
            -- ahead of the arguments: the new instance
            obtain ⟨F2, os, L2, o2, x1, x2, x3, x4, x5, x6⟩ := callRes_ok g1 r1 ev (q.after a1)
            unfold makeRun at x5
            cases hc : C.fn f (.ins k [] [] :: os) with
            | none => rw [hc] at x5; cases x5
            | some y =>
              obtain ⟨res, post⟩ := y
              rw [hc] at x5
              have hx1 : Ex F2 (upd (upd H1 dx (.own a)) a (.ins (p.c.CA k) dx [])) := fun b u e => by
                have n1 : b ≠ dx := fun z => by
                  subst z
                  have := x1 b u e
                  rw [hdx] at this
                  cases this
                have n2 : b ≠ a := fun z => by
                  subst z
                  have := x1 b u e
                  rw [ha] at this
                  cases this
                rw [upd_ne n2, upd_ne n1]
                exact x1 b u e
              have hx2 : ∀ b u, H1 b = some u → (upd (upd H1 dx (.own a)) a (.ins (p.c.CA k) dx [])) b = some u := fun b u e => by
                rw [upd_ne (ne_of_none e ha), upd_ne (ne_of_none e hdx)]
                exact e
              have aL2 : a ∉ L2 := fun m => x2.dom a m ha
              have fa : F2 a = none := free_of x1 ha
              have af : After F2 H1 L2 F2 (upd (upd H1 dx (.own a)) a (.ins (p.c.CA k) dx [])) ([a] ++ L2) := ⟨Ex.refl F2, fun b u e _ => hx2 b u e, fun b hb => by
                  cases e : H1 b with
                  | none => exact absurd e hb
                  | some u => rw [hx2 b u e]; simp, fun b hb => by
                  rcases List.mem_append.mp hb with z | z
                  · rw [List.mem_singleton.mp z]
                    exact .inr ha
                  · exact .inl z, fun b hb => .inl hb⟩
              refine ⟨F2, .ins k [] [] :: os, [a] ++ L2, (res, post), hx1, ⟨.ref a, vs, [a], L2, rfl, ⟨a, dx, [], [], rfl, upd_same, rfl, ⟨rfl, rfl⟩, rfl⟩, RepOs.mono (Ex.refl F2) (fun b _ u e => hx2 b u e) x2, rfl⟩, ?_, ?_, hc, ?_⟩
              · exact List.nodup_cons.mpr ⟨aL2, x3⟩
              · intro b hb
                rcases List.mem_cons.mp hb with z | z
                · rw [z]; exact fa
                · exact x4 b z
              · cases res with
                | ok o =>
                  cases post with
                  | nil => cases o <;> first
                      | (cases x5; done)
                      | (rename_i d; cases d <;> cases x5)
                  | cons po post =>
                    have ho : o = .pure .non ∧ o2 = (.ok po, post) := by
                      cases o <;> first
                        | (cases x5; done)
                        | skip
                      rename_i d
                      cases d <;> cases x5
                      exact ⟨rfl, rfl⟩
                    obtain ⟨rfl, rfl⟩ := ho
                    intro F3 H3 L3 Lv v b1 b2 b3 b4 b5 b6
                    obtain ⟨rv, rl⟩ := b4
                    subst rl
                    refine ⟨rv, ?_⟩
                    obtain ⟨M1, M2, c1, c2, rfl⟩ := b3
                    rw [List.append_nil] at b5 b6 b1
                    have nn := List.nodup_append.mp b5
                    refine x6 F3 H3 M2 M1 (.ref a) ((af.trans b1).sub fun b hb => by
                      rcases List.mem_append.mp hb with z | z
                      · exact List.mem_append_right _ z
                      · exact List.mem_append_left _ z) b2 c2 c1 (List.nodup_append.mpr ⟨nn.2.1, nn.1, fun x hx y hy e => nn.2.2 y hy x hx e.symm⟩) fun b hb => b6 b (by
                      rcases List.mem_append.mp hb with z | z
                      · exact List.mem_append_right _ z
                      · exact List.mem_append_left _ z)
                | error x =>
                  cases post with
                  | nil => cases x5
                  | cons po post =>
                    cases x5
                    intro F3 H3 L3 d b1 b2 b3 b4 b5 b6
                    obtain ⟨M1, M2, c1, c2, rfl⟩ := b3
                    have nn := List.nodup_append.mp b4
                    exact x6 F3 H3 M2 d ((af.trans b1).sub fun b hb => List.mem_append_right _ hb) b2 c2 nn.2.1 (fun b hb => b5 b (List.mem_append_right _ hb)) b6
end
end T
namespace T
open PySem L2
section
variable {p : Pg} {C : Ctx} {n : Nat} {N : List Str} {sc : Scope} {W : WX} {X : Cx} {F F1 F' H H1 H' : Hp} {σ : L2.St} {Q : VK} {env env1 : Env} {L L1 : List Addr} {c : Cn}
/-- what is seen of an argument now -/
theorem view_now (hK : X.K = c.K) (g : Cfg c F H σ env L) {a : Arg} {d : D} {v : V} (e : a.view env = some d) (r : ArgRep c F H σ a v) : (∀ xs, d = .tup xs → ∃ a vs, v = .ref a ∧ TupN X.K H a vs) ∧ (∀ xs, d = .lst xs → ∃ a vs, v = .ref a ∧ SqL X.K H a vs) := by
  have key : ∀ {F0 : Hp}, Ex F0 H → Rep c F0 d v → (∀ xs, d = .tup xs → ∃ a vs, v = .ref a ∧ TupN X.K H a vs) ∧ (∀ xs, d = .lst xs → ∃ a vs, v = .ref a ∧ SqL X.K H a vs) := fun {F0} ex h => by
    rw [hK]
    refine ⟨fun xs z => ?_, fun xs z => ?_⟩
    · subst z
      obtain ⟨a, vs, h1, h2, _⟩ := h
      exact ⟨a, vs, h1, h2.mono ex⟩
    · subst z
      obtain ⟨a, vs, h1, h2, _⟩ := h
      exact ⟨a, vs, h1, ex_l ex h2⟩
  cases a with
  | val d0 =>
    cases e
    exact key g.ex r
  | ref i q =>
    unfold Arg.view at e
    dsimp only at e
    cases h : env.at i q with
    | none => rw [h] at e; cases e
    | some o =>
      rw [h] at e
      cases e
      obtain ⟨v0, v', A, L1, B, h1, h2, rfl, h4, h5⟩ := g.at h
      obtain rfl := r.uniq h1 h2
      have ow : ∀ a ∈ L1, F a = none := fun a ha => g.ow a (mem3.mpr (.inr ha))
      exact key (addF_ex (M := L1) g.ex) (RepO.froz (ex_addF ow) (fun a ha u e => by rw [addF_in ha]; exact e) h4)
theorem bmt_form {y : Sy} {o : Op} {a : E} {es : Es} {ea : Expr} (h : okE y N sc (.bmt o a es) ea = true) : ∃ e1 x eas ap cp, ea = .Call (.Attribute e1 x ap) eas [] cp ∧ (ap.endLine == cp.line) = true ∧ bmName o x eas.length = true ∧ plainE e1 = true ∧ okE y N sc a e1 = true ∧ okEs y N sc es eas = true := by
  unfold okE at h
  cases q : methP ea with
  | none => rw [q] at h; cases h
  | some z =>
    obtain ⟨e1, x, eas, l⟩ := z
    rw [q] at h
    simp only [Bool.and_eq_true] at h
    obtain ⟨ap, cp, rfl, hl⟩ := methP_some q
    exact ⟨e1, x, eas, ap, cp, rfl, by rw [hl]; exact h.1.1.1.1, h.1.1.1.2, h.1.1.2, h.1.2, h.2⟩
theorem mut_form {y : Sy} {m : MutK} {r : R} {es : Es} {ea : Expr} (h : okE y N sc (.mut m r es) ea = true) : ∃ e1 x eas ap cp, ea = .Call (.Attribute e1 x ap) eas [] cp ∧ (ap.endLine == cp.line) = true ∧ mutName m x eas.length = true ∧ okR y N sc r e1 = true ∧ okEs y N sc es eas = true := by
  unfold okE at h
  cases q : methP ea with
  | none => rw [q] at h; cases h
  | some z =>
    obtain ⟨e1, x, eas, l⟩ := z
    rw [q] at h
    simp only [Bool.and_eq_true] at h
    obtain ⟨ap, cp, rfl, hl⟩ := methP_some q
    exact ⟨e1, x, eas, ap, cp, rfl, by rw [hl]; exact h.1.1.1, h.1.1.2, h.1.2, h.2⟩
theorem app_form {y : Sy} {a : E} {r : R} {ea : Expr} (h : okE y N sc (.app r a) ea = true) : ∃ e1 eb ap cp, ea = .Call (.Attribute e1 "append" ap) [eb] [] cp ∧ (ap.endLine == cp.line) = true ∧ okR y N sc r e1 = true ∧ plainE eb = true ∧ okE y N sc a eb = true := by
  unfold okE at h
  cases q : methP ea with
  | none => rw [q] at h; cases h
  | some z =>
    obtain ⟨e1, x, eas, l⟩ := z
    rw [q] at h
    cases eas with
    | nil => cases h
    | cons eb eas =>
      cases eas with
      | cons _ _ => cases h
      | nil =>
        simp only [Bool.and_eq_true] at h
        obtain ⟨ap, cp, rfl, hl⟩ := methP_some q
        obtain rfl := eq_of_beq h.1.1.1.2
        exact ⟨e1, eb, ap, cp, rfl, by rw [hl]; exact h.1.1.1.1, h.1.1.2, h.1.2, h.2⟩
theorem ArgsRep.nil : ArgsRep c F H σ [] [] := rfl
theorem ArgsRep.cons {a : Arg} {as : List Arg} {v : V} {vs : List V} (h : ArgRep c F H σ a v) (r : ArgsRep c F H σ as vs) : ArgsRep c F H σ (a :: as) (v :: vs) := ⟨v, vs, rfl, h, r⟩
theorem freezes_view {a : Arg} {as : List Arg} {d : D} {ds : List D} {l : Bool} (h : freezes (a :: as) env = some (d :: ds, l, env1)) : a.view env = some d := by
  cases a with
  | val d0 =>
    unfold freezes at h
    cases q : freezes as env with
    | none => rw [q] at h; cases h
    | some y =>
      obtain ⟨x, b, e⟩ := y
      rw [q] at h
      cases h
      rfl
  | ref i pp =>
    unfold freezes at h
    cases q : env.freeze i pp with
    | none => rw [q] at h; cases h
    | some y =>
      obtain ⟨d1, e0⟩ := y
      rw [q] at h
      dsimp only at h
      cases q2 : freezes as e0 with
      | none => rw [q2] at h; cases h
      | some y =>
        obtain ⟨x, b, e⟩ := y
        rw [q2] at h
        cases h
        unfold Env.freeze at q
        unfold Arg.view
        dsimp only
        cases h1 : env.at i pp with
        | none => rw [h1] at q; cases q
        | some o1 =>
          rw [h1] at q
          dsimp only at q ⊢
          cases h2 : env.put i pp (.pure o1.fz) with
          | none => rw [h2] at q; cases q
          | some e2 =>
            rw [h2] at q
            cases q
            rfl
theorem se_bmt (T : Top p C) {o : Op} {a : E} {es : Es} (sa : SE p C n N a) (ss : SEs p C n N es) : SE p C n N (.bmt o a es) := by
  intro sc W X σ F H L env out ea Q G g hk ev q
  obtain ⟨e1, x, eas, ap, cp, rfl, hl, hn, pl, k1, k2⟩ := bmt_form hk
  unfold evalE at ev
  cases h : argOf C a (evalE C a env) env with
  | none => rw [h] at ev; cases ev
  | some y =>
    obtain ⟨ra, env1⟩ := y
    rw [h] at ev
    cases o <;> first
      | (exact Bool.noConfusion (show false = true from hn))
      | skip
    · -- bit_length
      cases eas with
      | cons _ _ => exact Bool.noConfusion (show false = true from hn)
      | nil =>
        obtain rfl := eq_of_beq (show (x == ("bit_length" : Str)) = true from hn)
        cases es with
        | cons _ _ => simp [okEs] at k2
        | nil =>
          cases ra with
          | error x =>
            cases ev
            exact T0.of (pe_bits pe0 (plain_att pl _ _ _) hl) (T0.mono (sa.arg T G g k1 h (Q := fun _ _ => False) q) fun _ _ z => z.elim)
          | ok a' =>
            dsimp only at ev
            split at ev
            · rename_i hb
              rw [show pinIf Es.nil.allRd a' env1 = some (a', env1) from rfl] at ev
              dsimp only at ev
              rw [show evalEs C .nil env1 = some (.ok [], env1) from by unfold evalEs; rfl] at ev
              dsimp only at ev
              split at ev
              case isFalse => cases ev
              obtain ⟨ds, l, env', o', hz, hd, rfl⟩ := opRes_inv ev
              refine bitl_ok (p := p) hd hl pl ?_
              refine sa.arg T G g k1 h fun F1 H1 L1 v a1 g1 r1 => ?_
              exact opRes_ok g1 (ArgsRep.cons r1 .nil) hz (OkP.after q a1)
            · cases ev
    · -- index
      cases eas with
      | nil => exact Bool.noConfusion (show false = true from hn)
      | cons e2 eas =>
        cases eas with
        | cons _ _ => exact Bool.noConfusion (show false = true from hn)
        | nil =>
          obtain rfl := eq_of_beq (show (x == ("index" : Str)) = true from hn)
          have pl2 := okEs_plain k2
          simp only [List.all_cons, List.all_nil, Bool.and_true] at pl2
          have none' : ∀ {H' : Hp} {R : VK}, T0 X e1 σ H' (fun v H1 => (∃ a vs, v = V.ref a ∧ TupN X.K H1 a vs) ∧ T0 X e2 σ H1 fun _ _ => False) → T0 X (.Call (.Attribute e1 "index" ap) [e2] [] cp) σ H' R := fun {H' R} z =>
            T0.of (pe_bmT PySem.F.slot_tuple_index PySem.F.type_tuple_index mt_indexT pe0 (pa_cons pe0 pa_nil (plain_star pl2)) (plain_att pl _ _ _) (plain_few (by simp [pl2]) (by simp)) hl (plain_star pl2) rfl) (T0.mono z fun v H1 ⟨h1, h2⟩ => ⟨h1, T0.mono h2 fun _ _ z => z.elim⟩)
          have none2 : ∀ {H' : Hp} {R : VK}, T0 X e1 σ H' (fun v H1 => (∃ a vs, v = V.ref a ∧ SqL X.K H1 a vs) ∧ T0 X e2 σ H1 fun _ _ => False) → T0 X (.Call (.Attribute e1 "index" ap) [e2] [] cp) σ H' R := fun {H' R} z =>
            T0.of (pe_bm PySem.F.plainAttrs_list PySem.F.slot_list_index PySem.F.type_list_index mt_index pe0 (pa_cons pe0 pa_nil (plain_star pl2)) (plain_att pl _ _ _) (plain_few (by simp [pl2]) (by simp)) hl (plain_star pl2) rfl) (T0.mono z fun v H1 ⟨⟨a, vs, h0, h1⟩, h2⟩ => ⟨by subst h0; exact .inl ⟨rfl, vs, h1⟩, T0.mono h2 fun _ _ z => z.elim⟩)
          cases ra with
          | error x =>
            cases ev
            exact none' (T0.mono (sa.arg T G g k1 h (Q := fun _ _ => False) q) fun _ _ z => z.elim)
          | ok a' =>
            dsimp only at ev
            split at ev
            · rename_i hb
              cases hv : a'.view env1 with
              | none => rw [hv] at hb; exact Bool.noConfusion (show false = true from hb)
              | some d =>
                rw [hv] at hb
                have hd0 : (∃ xs, d = .tup xs) ∨ ∃ xs, d = .lst xs := by
                  cases d <;> first
                    | (exact Bool.noConfusion (show false = true from hb))
                    | exact .inl ⟨_, rfl⟩
                    | exact .inr ⟨_, rfl⟩
                cases h1 : pinIf es.allRd a' env1 with
                | none => rw [h1] at ev; cases ev
                | some y =>
                  obtain ⟨a2, env2⟩ := y
                  rw [h1] at ev
                  dsimp only at ev
                  cases h2 : evalEs C es env2 with
                  | none => rw [h2] at ev; cases ev
                  | some y =>
                    obtain ⟨rb, env3⟩ := y
                    rw [h2] at ev
                    cases rb with
                    | error x =>
                      cases ev
                      have er : ∀ {F1 H1 : Hp} {L1 : List Addr} {v : V}, After F H L F1 H1 L1 → Cfg p.c F1 H1 σ env1 L1 → ArgRep p.c F1 H1 σ a' v → T0 X e2 σ H1 fun _ _ => False := fun {F1 H1 L1 v} a1 g1 r1 => by
                        by_cases rd : es.allRd = true
                        · exact (rd_noerr rd h2).elim
                        · have rd' : es.allRd = false := by simpa using rd
                          rw [rd'] at h1
                          obtain ⟨F2, L2, b1, b2, b3, b4⟩ := pin_ok g1 (show pin a' env1 = some (a2, env2) from h1) r1
                          exact T0.mono ((ss G b2 k2 h2).2 x _ rfl (ErP.after q (a1.trans b1)) (R := Nope)) fun _ _ z => z.elim
                      rcases hd0 with ⟨xs, rfl⟩ | ⟨xs, rfl⟩
                      · exact none' (sa.arg T G g k1 h fun F1 H1 L1 v a1 g1 r1 => ⟨(view_now G.K g1 hv r1).1 _ rfl, er a1 g1 r1⟩)
                      · exact none2 (sa.arg T G g k1 h fun F1 H1 L1 v a1 g1 r1 => ⟨(view_now G.K g1 hv r1).2 _ rfl, er a1 g1 r1⟩)
                    | ok as =>
                      dsimp only at ev
                      split at ev
                      case isFalse => cases ev
                      rename_i hkd
                      obtain ⟨ds, l, env', o', hz, hd, rfl⟩ := opRes_inv ev
                      -- the receiver still looks so
                      obtain ⟨x0, ds', rfl⟩ : ∃ x0 ds', ds = x0 :: ds' := by
                        obtain ⟨x0, y0, z, _⟩ := f2_some (g := indexD) hd
                        exact ⟨x0, [y0], z⟩
                      have same : (∀ xs, x0 = .tup xs → ∃ ys, d = .tup ys) ∧ (∀ xs, x0 = .lst xs → ∃ ys, d = .lst ys) := by
                        have hv2 := freezes_view hz
                        rw [hv, hv2] at hkd
                        refine ⟨fun xs e => ?_, fun xs e => ?_⟩
                        · subst e
                          cases d <;> first
                            | exact ⟨_, rfl⟩
                            | (exact Bool.noConfusion (show false = true from hkd))
                        · subst e
                          cases d <;> first
                            | exact ⟨_, rfl⟩
                            | (exact Bool.noConfusion (show false = true from hkd))
                      have tg : ∃ t, x0.tag = some t := by
                        obtain ⟨x1, y1, z, e⟩ := f2_some (g := indexD) hd
                        cases z
                        cases x0 <;> first
                          | exact ⟨_, rfl⟩
                          | (cases e; done)
                      obtain ⟨t, tg⟩ := tg
                      refine index_ok G hd hl pl pl2 tg ?_
                      refine sa.arg T G g k1 h fun F1 H1 L1 v a1 g1 r1 => ⟨fun xs e => ?_, fun xs e => ?_, ?_⟩
                      · obtain ⟨ys, e2⟩ := same.1 xs e
                        exact (view_now G.K g1 hv r1).1 ys e2
                      · obtain ⟨ys, e2⟩ := same.2 xs e
                        exact (view_now G.K g1 hv r1).2 ys e2
                      · by_cases rd : es.allRd = true
                        · rw [rd] at h1
                          cases h1
                          obtain ⟨as', e, kk⟩ := ses_rd T G g1 rd k2 h2
                          cases e
                          exact (kk fun vs hvs => opRes_ok g1 (ArgsRep.cons r1 hvs) hz (OkP.after q a1)).toL
                        · have rd' : es.allRd = false := by simpa using rd
                          rw [rd'] at h1
                          obtain ⟨F2, L2, b1, b2, b3, b4⟩ := pin_ok g1 (show pin a' env1 = some (a2, env2) from h1) r1
                          refine ((ss G b2 k2 h2).1 as env3 rfl fun F3 H3 L3 vs c1 c2 c3 => ?_).toL
                          exact opRes_ok c2 (ArgsRep.cons (b3.stay c1.fs b4) c3) hz (OkP.after q ((a1.trans b1).trans c1))
            · cases ev
end
end T
namespace T
open PySem L2
section
variable {p : Pg} {C : Ctx} {n : Nat} {N : List Str} {sc : Scope} {W : WX} {X : Cx} {F F1 F' H H1 H' : Hp} {σ : L2.St} {Q : VK} {env env1 : Env} {L L1 : List Addr} {c : Cn}
theorem lstAt_inv {r : R} {i : Nat} (h : lstAt C env r = some i) : evalR C env r = some (.ref i []) ∧ ∃ xs, env[i]? = some (some (.lst xs)) := by
  unfold lstAt at h
  split at h
  · rename_i j he
    split at h
    · rename_i xs hx
      cases h
      exact ⟨he, xs, hx⟩
    · cases h
  · cases h
/-- a slot's list -/
theorem Cfg.lstv (g : Cfg c F H σ env L) {i : Nat} {xs : List O} (h : env[i]? = some (some (.lst xs))) : ∃ a vs, σ[i]? = some (some (.ref a)) ∧ H a = some (.lst vs) := by
  obtain ⟨x, A, M, B, h1, rfl, ⟨v, rfl, h3⟩, h4⟩ := g.rep.at h
  obtain ⟨a, vs, L', rfl, e2, _⟩ := h3
  exact ⟨a, vs, h1, e2⟩
/-- the list in a slot is written anew -/
theorem Cfg.relist (g : Cfg c F H σ env L) {i : Nat} {xs : List O} (h : env[i]? = some (some (.lst xs))) : ∃ a vs A Lx B, σ[i]? = some (some (.ref a)) ∧ H a = some (.lst vs) ∧ RepOs c F H xs vs Lx ∧ L = A ++ (a :: Lx) ++ B ∧
    ∀ (ys : List O) (ws : List V) (Ly : List Addr), RepOs c F H ys ws Ly → a ∉ Ly → (A ++ (a :: Ly) ++ B).Nodup → (∀ x ∈ Ly, F x = none) → Cfg c F (upd H a (.lst ws)) σ (env.set i (some (.lst ys))) (A ++ (a :: Ly) ++ B) := by
  obtain ⟨x, A, M, B, h1, rfl, ⟨v, rfl, h3⟩, h4⟩ := g.rep.at h
  obtain ⟨a, vs, Lx, rfl, e2, e3, rfl⟩ := h3
  have nd := nodup3 g.nd
  have fa : F a = none := g.ow a (mem3.mpr (.inr List.mem_cons_self))
  refine ⟨a, vs, A, Lx, B, h1, e2, e3, rfl, fun ys ws Ly r na nd2 ow => ?_⟩
  have keep : ∀ b, b ≠ a → ∀ u, H b = some u → (upd H a (.lst ws)) b = some u := fun b hb u e => by rw [upd_ne hb]; exact e
  have r2 : RepO c F (upd H a (.lst ws)) (.lst ys) (.ref a) (a :: Ly) := ⟨a, ws, Ly, rfl, upd_same, RepOs.mono (Ex.refl F) (fun b hb u e => keep b (fun z => na (z ▸ hb)) u e) r, rfl⟩
  have r3 := h4 F (upd H a (.lst ws)) (some (.lst ys)) (some (.ref a)) (a :: Ly) (Ex.refl F) (fun b hb u e => keep b (fun z => nd.2.2 a List.mem_cons_self (z ▸ hb)) u e) ⟨_, rfl, r2⟩
  rw [set_self h1] at r3
  refine ⟨fun b u e => ?_, r3, nd2, fun b hb => ?_⟩
  · have hb : b ≠ a := fun z => by rw [z, fa] at e; cases e
    rw [upd_ne hb]
    exact g.ex b u e
  · rcases mem3.mp hb with z | z
    · exact g.ow b (mem3.mpr (.inl z))
    · rcases List.mem_cons.mp z with z | z
      · rw [z]; exact fa
      · exact ow b z
theorem After.write {a : Addr} {o : HO} {L' : List Addr} (ha : a ∈ L) (sub : ∀ x ∈ L', x ∈ L) : After F H L F (upd H a o) L' := ⟨Ex.refl F, fun b u e n => by
    have nb : b ≠ a := fun z => n (by rw [z]; exact ha)
    rw [upd_ne nb]
    exact e, fun b h => by
    by_cases z : b = a
    · rw [z, upd_same]; simp
    · rw [upd_ne z]; exact h, fun b h => .inl (sub b h), fun b h => .inl h⟩
theorem RepOs.append {xs ys : List O} : ∀ {us vs : List V} {L1 L2 : List Addr}, RepOs c F H xs us L1 → RepOs c F H ys vs L2 → RepOs c F H (xs ++ ys) (us ++ vs) (L1 ++ L2) := by
  induction xs with
  | nil =>
    intro us vs L1 L2 h h'
    obtain ⟨rfl, rfl⟩ := h
    exact h'
  | cons x xs ih =>
    intro us vs L1 L2 h h'
    obtain ⟨v, r, M1, M2, rfl, h1, h2, rfl⟩ := h
    exact ⟨v, r ++ vs, M1, M2 ++ L2, rfl, h1, ih h2 h', by simp⟩
theorem se_app (T : Top p C) {r : R} {e : E} (s : SE p C n N e) : SE p C n N (.app r e) := by
  intro sc W X σ F H L env out ea Q G g hk ev q
  obtain ⟨e1, e2, ap, cp, rfl, hl, k1, pl2, k2⟩ := app_form hk
  have pl := okR_plain k1
  unfold evalE at ev
  cases h : lstAt C env r with
  | none => rw [h] at ev; cases ev
  | some i =>
    rw [h] at ev
    dsimp only at ev
    obtain ⟨h1, xs, hx⟩ := lstAt_inv h
    refine T0.of (pe_bm PySem.F.plainAttrs_list PySem.F.slot_list_append PySem.F.type_list_append mt_append pe0 (pa_cons pe0 pa_nil (plain_star pl2)) (plain_att pl _ _ _) (plain_few (by simp [pl2]) (by simp)) hl (plain_star pl2) rfl) ?_
    refine soundR T G g k1 h1 fun v hv => ?_
    obtain ⟨v0, s1, s2⟩ := hv
    cases s2
    obtain ⟨a, vs, s3, s4⟩ := g.lstv hx
    rw [s1] at s3
    cases s3
    refine ⟨.inl ⟨rfl, vs, .inl (.inl s4)⟩, ?_⟩
    cases h2 : evalE C e env with
    | none => rw [h2] at ev; cases ev
    | some y =>
      obtain ⟨re, env1⟩ := y
      rw [h2] at ev
      cases re with
      | error x =>
        cases ev
        exact s G g k2 h2 q
      | ok o =>
        dsimp only at ev
        unfold appRun at ev
        refine s G g k2 h2 fun F1 H1 L1 w Lv a1 cf => ?_
        split at ev
        · rename_i ys hy
          split at ev
          · rename_i hz
            cases ev
            obtain ⟨b, us, A, Lx, B, t1, t2, t3, rfl, t4⟩ := cf.cfg.relist hy
            rw [s1] at t1
            cases t1
            have nd := List.nodup_append.mp cf.nd
            have nd1 := nodup3 nd.1
            have len := t3.length
            refine ⟨a, us, w, rfl, rfl, t2, ?_, ?_⟩
            · rw [sizeLine_eq]
              have := of_decide_eq_true hz
              omega
            · have lvd : ∀ x ∈ Lv, x ∉ A ++ (a :: Lx) ++ B := fun x hx m => nd.2.2 x m x hx rfl
              have na : a ∉ Lx ++ Lv := fun m => by
                rcases List.mem_append.mp m with z | z
                · exact (List.nodup_cons.mp nd1.2.1).1 z
                · exact lvd a z (mem3.mpr (.inr List.mem_cons_self))
              have nd2 : (A ++ (a :: (Lx ++ Lv)) ++ B).Nodup := nodup3' nd1.1 (List.nodup_cons.mpr ⟨na, List.nodup_append.mpr ⟨(List.nodup_cons.mp nd1.2.1).2, nd.2.1, fun x hx y hy e => lvd y hy (mem3.mpr (.inr (List.mem_cons_of_mem _ (e ▸ hx))))⟩⟩) fun x hx m => by
                rcases List.mem_cons.mp hx with z | z
                · exact nd1.2.2 x (z ▸ List.mem_cons_self) m
                · rcases List.mem_append.mp z with z | z
                  · exact nd1.2.2 x (List.mem_cons_of_mem _ z) m
                  · exact lvd x z (mem3.mpr (.inl m))
              have g2 := t4 (ys ++ [o]) (us ++ [w]) (Lx ++ Lv) (t3.append ⟨w, [], Lv, [], rfl, cf.val, ⟨rfl, rfl⟩, by simp⟩) na nd2 fun x hx => by
                rcases List.mem_append.mp hx with z | z
                · exact cf.cfg.ow x (mem3.mpr (.inr (List.mem_cons_of_mem _ z)))
                · exact cf.ow x z
              refine q F1 _ _ .non [] ?_ ⟨g2, ⟨rfl, rfl⟩, by simpa using nd2, fun _ h => absurd h (by simp)⟩
              refine a1.trans ((After.write (L := (A ++ (a :: Lx) ++ B) ++ Lv) (a := a) (o := .lst (us ++ [w])) (by simp) fun x hx => ?_))
              have hx' : x ∈ A ++ (a :: (Lx ++ Lv)) ++ B := by simpa using hx
              rcases mem3.mp hx' with z | z
              · exact List.mem_append_left _ (mem3.mpr (.inl z))
              · rcases List.mem_cons.mp z with z | z
                · exact List.mem_append_left _ (mem3.mpr (.inr (z ▸ List.mem_cons_self)))
                · rcases List.mem_append.mp z with z | z
                  · exact List.mem_append_left _ (mem3.mpr (.inr (List.mem_cons_of_mem _ z)))
                  · exact List.mem_append_right _ z
          · cases ev
        · cases ev
theorem RepOs.erase {o : O} : ∀ {xs : List O} {vs : List V} {Lx : List Addr} {k : Nat}, RepOs c F H xs vs Lx → xs[k]? = some o → ∃ v L1 M L2, vs[k]? = some v ∧ RepO c F H o v M ∧ RepOs c F H (xs.eraseIdx k) (vs.eraseIdx k) (L1 ++ L2) ∧ Lx = L1 ++ M ++ L2
  | [], vs, Lx, k, h, e => by simp at e
  | x :: xs, vs, Lx, 0, h, e => by
    obtain ⟨v, r, M1, M2, rfl, h1, h2, rfl⟩ := h
    simp at e
    subst e
    exact ⟨v, [], M1, M2, rfl, h1, by simpa using h2, by simp⟩
  | x :: xs, vs, Lx, k + 1, h, e => by
    obtain ⟨v, r, M1, M2, rfl, h1, h2, rfl⟩ := h
    obtain ⟨w, L1, M, L2, e1, e2, e3, rfl⟩ := RepOs.erase h2 (by simpa using e)
    exact ⟨w, M1 ++ L1, M, L2, by simpa using e1, e2, ⟨v, r.eraseIdx k, M1, L1 ++ L2, by simp, h1, e3, by simp⟩, by simp⟩
/-- what pop does to the slot's list -/
theorem pop_core (g : Cfg c F H σ env L) {i k : Nat} {xs : List O} {o : O} (h : env[i]? = some (some (.lst xs))) (ho : xs[k]? = some o) (q : OkP c F H L σ (env.set i (some (.lst (xs.eraseIdx k)))) o Q) :
    ∃ a vs w, σ[i]? = some (some (.ref a)) ∧ H a = some (.lst vs) ∧ vs.length = xs.length ∧ vs[k]? = some w ∧ Q w (upd H a (.lst (vs.eraseIdx k))) := by
  obtain ⟨a, us, A, Lx, B, t1, t2, t3, rfl, t4⟩ := g.relist h
  obtain ⟨w, L1, M, L2, e1, e2, e3, rfl⟩ := RepOs.erase t3 ho
  have nd := nodup3 g.nd
  have nd1 := List.nodup_cons.mp nd.2.1
  have nd2 := nodup3 nd1.2
  have na : a ∉ L1 ++ L2 := fun m => nd1.1 (mem3.mpr (.inl m))
  have nd3 : (A ++ (a :: (L1 ++ L2)) ++ B).Nodup := nodup3' nd.1 (List.nodup_cons.mpr ⟨na, nd2.1⟩) fun x hx m => by
    rcases List.mem_cons.mp hx with z | z
    · exact nd.2.2 x (z ▸ List.mem_cons_self) m
    · exact nd.2.2 x (List.mem_cons_of_mem _ (mem3.mpr (.inl z))) m
  have g2 := t4 _ _ _ e3 na nd3 fun x hx => g.ow x (mem3.mpr (.inr (List.mem_cons_of_mem _ (mem3.mpr (.inl hx)))))
  refine ⟨a, us, w, t1, t2, t3.length, e1, ?_⟩
  refine q F _ _ w M (After.write (a := a) (mem3.mpr (.inr List.mem_cons_self)) fun x hx => ?_) ⟨g2, RepO.mono (Ex.refl F) (fun b hb u e => ?_) e2, List.nodup_append.mpr ⟨nd3, nd2.2.1, fun x hx y hy e => ?_⟩, fun x hx => g.ow x (mem3.mpr (.inr (List.mem_cons_of_mem _ (mem3.mpr (.inr hx)))))⟩
  · rcases List.mem_append.mp hx with z | z
    · rcases mem3.mp z with z | z
      · exact mem3.mpr (.inl z)
      · rcases List.mem_cons.mp z with z | z
        · exact mem3.mpr (.inr (z ▸ List.mem_cons_self))
        · exact mem3.mpr (.inr (List.mem_cons_of_mem _ (mem3.mpr (.inl z))))
    · exact mem3.mpr (.inr (List.mem_cons_of_mem _ (mem3.mpr (.inr z))))
  · have hb' : b ≠ a := fun z => nd1.1 (mem3.mpr (.inr (z ▸ hb)))
    rw [upd_ne hb']
    exact e
  · subst e
    rcases mem3.mp hx with z | z
    · exact nd.2.2 x (List.mem_cons_of_mem _ (mem3.mpr (.inr hy))) z
    · rcases List.mem_cons.mp z with z | z
      · exact nd1.1 (mem3.mpr (.inr (z ▸ hy)))
      · exact nd2.2.2 x hy z
end
end T
namespace T
open PySem L2
section
variable {p : Pg} {C : Ctx} {n : Nat} {N : List Str} {sc : Scope} {W : WX} {X : Cx} {F F1 F' H H1 H' : Hp} {σ : L2.St} {Q : VK} {env env1 : Env} {L L1 : List Addr} {c : Cn}
theorem erase_last {α : Type} : ∀ (xs : List α), xs.eraseIdx (xs.length - 1) = xs.dropLast
  | [] => rfl
  | [x] => rfl
  | x :: y :: xs => by
    have ih := erase_last (y :: xs)
    simp only [List.length_cons, Nat.add_sub_cancel] at ih ⊢
    rw [List.eraseIdx_cons_succ, ih, List.dropLast_cons_cons]
theorem se_mut (T : Top p C) {m : MutK} {r : R} {es : Es} (ss : SEs p C n N es) : SE p C n N (.mut m r es) := by
  intro sc W X σ F H L env out ea Q G g hk ev q
  obtain ⟨e1, x, eas, ap, cp, rfl, hl, hn, k1, k2⟩ := mut_form hk
  have pl := okR_plain k1
  unfold evalE at ev
  cases h : lstAt C env r with
  | none => rw [h] at ev; cases ev
  | some i =>
    rw [h] at ev
    dsimp only at ev
    obtain ⟨h1, xs, hx⟩ := lstAt_inv h
    cases m with
    | pop =>
      cases eas with
      | cons _ _ => exact Bool.noConfusion (show false = true from hn)
      | nil =>
        obtain rfl := eq_of_beq (show (x == ("pop" : Str)) = true from hn)
        cases es with
        | cons _ _ => simp [okEs] at k2
        | nil =>
          rw [show evalEs C .nil env = some (.ok [], env) from by unfold evalEs; rfl] at ev
          dsimp only at ev
          rw [show freezes [] env = some ([], true, env) from rfl] at ev
          dsimp only at ev
          unfold mutRun at ev
          rw [hx] at ev
          dsimp only at ev
          unfold mutD at ev
          dsimp only at ev
          cases h5 : xs[xs.length - 1]? with
          | none => rw [h5] at ev; cases ev
          | some o =>
            rw [h5] at ev
            cases ev
            refine T0.of (pe_bm0 PySem.F.plainAttrs_list PySem.F.slot_list_pop PySem.F.type_list_pop mt_pop pe0 (plain_att pl _ _ _) hl) ?_
            refine soundR T G g k1 h1 fun v hv => ?_
            obtain ⟨v0, s1, s2⟩ := hv
            cases s2
            obtain ⟨a, vs, w, t1, t2, t3, t4, t5⟩ := pop_core g hx h5 q
            rw [s1] at t1
            cases t1
            rw [← t3] at t4 t5
            rw [erase_last] at t5
            exact ⟨.inl ⟨rfl, vs, .inl (.inl t2)⟩, a, vs, w, rfl, rfl, t2, t4, t5⟩
    | popAt =>
      cases eas with
      | nil => exact Bool.noConfusion (show false = true from hn)
      | cons e2 eas =>
        cases eas with
        | cons _ _ => exact Bool.noConfusion (show false = true from hn)
        | nil =>
          obtain rfl := eq_of_beq (show (x == ("pop" : Str)) = true from hn)
          have pl2 := okEs_plain k2
          simp only [List.all_cons, List.all_nil, Bool.and_true] at pl2
          refine T0.of (pe_bm PySem.F.plainAttrs_list PySem.F.slot_list_pop PySem.F.type_list_pop mt_popAt pe0 (pa_cons pe0 pa_nil (plain_star pl2)) (plain_att pl _ _ _) (plain_few (by simp [pl2]) (by simp)) hl (plain_star pl2) rfl) ?_
          refine soundR T G g k1 h1 fun v hv => ?_
          obtain ⟨v0, s1, s2⟩ := hv
          cases s2
          obtain ⟨a, vs, s3, s4⟩ := g.lstv hx
          rw [s1] at s3
          cases s3
          refine ⟨.inl ⟨rfl, vs, .inl (.inl s4)⟩, ?_⟩
          cases h2 : evalEs C es env with
          | none => rw [h2] at ev; cases ev
          | some y =>
            obtain ⟨re, env1⟩ := y
            rw [h2] at ev
            cases re with
            | error x =>
              cases ev
              exact T0.mono ((ss G g k2 h2).2 x _ rfl q (R := Nope)) fun _ _ z => z.elim
            | ok as =>
              dsimp only at ev
              have hL := ((ss G g k2 h2).1 as env1 rfl (R := fun vs H2 => ∃ w, vs = [w] ∧ rPopAt (.ref a) [w] H2 Q) fun F1 H1 L1 ws a1 g1 r1 => ?_).toL
              · refine T0.mono hL fun w H2 hh => ?_
                obtain ⟨w', e, hh⟩ := hh
                cases e
                exact hh
              · cases h3 : freezes as env1 with
                | none => rw [h3] at ev; cases ev
                | some y =>
                  obtain ⟨ds, l, env2⟩ := y
                  rw [h3] at ev
                  dsimp only at ev
                  obtain ⟨M, L2, z, z2, z3⟩ := g1.freezes h3 r1
                  unfold mutRun at ev
                  cases h4 : env2[i]? with
                  | none => rw [h4] at ev; cases ev
                  | some s0 =>
                    cases s0 with
                    | none => rw [h4] at ev; cases ev
                    | some o0 =>
                      rw [h4] at ev
                      cases o0 <;> first
                        | (cases ev; done)
                        | skip
                      rename_i ys
                      dsimp only at ev
                      cases ds with
                      | nil => cases ev
                      | cons d ds =>
                        cases ds with
                        | cons _ _ => cases d <;> cases ev
                        | nil =>
                          cases d <;> first
                            | (cases ev; done)
                            | skip
                          rename_i j
                          unfold mutD at ev
                          dsimp only at ev
                          by_cases hr : rngOk j = true
                          · rw [if_pos hr] at ev
                            cases h5 : ixN ys.length j with
                            | none => rw [h5] at ev; cases ev
                            | some k =>
                              rw [h5] at ev
                              dsimp only at ev
                              cases h6 : ys[k]? with
                              | none => rw [h6] at ev; cases ev
                              | some o =>
                                rw [h6] at ev
                                cases ev
                                obtain ⟨w, _, e, rw1, e'⟩ := z2
                                cases e'
                                subst e
                                obtain ⟨a', us, w2, t1, t2, t3, t4, t5⟩ := pop_core z.cfg h4 h6 (OkP.after q (a1.trans (z.after g1)))
                                rw [s1] at t1
                                cases t1
                                unfold rngOk at hr
                                simp only [Bool.and_eq_true, decide_eq_true_eq] at hr
                                refine ⟨w, rfl, a, us, j, k, w2, rfl, by rw [show w = .int j from rw1], t2, by omega, by omega, ?_, t4, t5⟩
                                rw [t3]
                                exact (ixN_seq h5).1
                          · rw [if_neg hr] at ev
                            cases ev
/-- things one behind the other -/
def SOs (p : Pg) (C : Ctx) (n : Nat) (N : List Str) (es : Es) : Prop := ∀ {sc : Scope} {W : WX} {X : Cx} {σ : L2.St} {F H : Hp} {L : List Addr} {env : Env} {out : Except Exn (List O) × Env} {eas : List Expr}, Good p n N sc W X → Cfg p.c F H σ env L → okEs p.y N sc es eas = true → evalOs C es env = some out →
  (∀ os env1, out = (.ok os, env1) → ∀ {R : List V → Hp → Prop}, (∀ F1 H1 L1 vs Lv, After F H L F1 H1 (L1 ++ Lv) → Cfg p.c F1 H1 σ env1 L1 → RepOs p.c F1 H1 os vs Lv → (L1 ++ Lv).Nodup → (∀ a ∈ Lv, F1 a = none) → R vs H1) → T0L X eas σ H R) ∧ (∀ x env1, out = (.error x, env1) → ErP p.c F H L σ W env1 x → ∀ {R : List V → Hp → Prop}, T0L X eas σ H R)
theorem sos_nil : SOs p C n N .nil := by
  intro sc W X σ F H L env out eas G g hk ev
  cases eas with
  | cons e eas => simp [okEs] at hk
  | nil =>
    cases ev
    refine ⟨fun as env1 e {R} q => ?_, fun x env1 e => by cases e⟩
    cases e
    exact q F H L [] [] ((After.refl F H L).sub (by simp)) g ⟨rfl, rfl⟩ (by simpa using g.nd) fun _ h => absurd h (by simp)
theorem RepO.holdF {o : O} {v : V} {M Lb Lr : List Addr} (a : After F H Lb F1 H1 Lr) (h : RepO c F H o v M) (d : ∀ x ∈ M, x ∉ Lb) (ow : ∀ x ∈ M, F x = none) : RepO c F1 H1 o v M ∧ (∀ x ∈ M, x ∉ Lr) ∧ ∀ x ∈ M, F1 x = none := a.hold h d ow
theorem sos_cons (T : Top p C) {e : E} {es : Es} (s : SE p C n N e) (ss : SOs p C n N es) : SOs p C n N (.cons e es) := by
  intro sc W X σ F H L env out eas G g hk ev
  cases eas with
  | nil => simp [okEs] at hk
  | cons ea eas =>
    have hk' : (okE p.y N sc e ea = true ∧ plainE ea = true) ∧ okEs p.y N sc es eas = true := by simpa [okEs, Bool.and_eq_true] using hk
    unfold evalOs at ev
    cases h : evalE C e env with
    | none => rw [h] at ev; cases ev
    | some y =>
      obtain ⟨r, env1⟩ := y
      rw [h] at ev
      cases r with
      | error x =>
        cases ev
        refine ⟨fun as env1 e => by (cases e), fun x' env' e er {R} => ?_⟩
        cases e
        exact s G g hk'.1.1 h er
      | ok o =>
        dsimp only at ev
        cases h2 : evalOs C es env1 with
        | none => rw [h2] at ev; cases ev
        | some y =>
          obtain ⟨r2, env2⟩ := y
          rw [h2] at ev
          cases r2 with
          | error x =>
            cases ev
            refine ⟨fun as env1 e => by (cases e), fun x' env' e er {R} => ?_⟩
            cases e
            exact s G g hk'.1.1 h fun F1 H1 L1 v Lv a1 cf => (ss G cf.cfg hk'.2 h2).2 x _ rfl (er.after (a1.sub fun b hb => List.mem_append_left _ hb))
          | ok os =>
            cases ev
            refine ⟨fun os' env' e {R} q => ?_, fun x env1 e => by (cases e)⟩
            cases e
            refine s G g hk'.1.1 h fun F1 H1 L1 v Lv a1 cf => (ss G cf.cfg hk'.2 h2).1 os _ rfl fun F2 H2 L2 vs Lvs a2 g2 r2 nd2 ow2 => ?_
            have nd := List.nodup_append.mp cf.nd
            obtain ⟨k1, k2, k3⟩ := a2.hold cf.val (fun x hx m => nd.2.2 x m x hx rfl) cf.ow
            have n2 := List.nodup_append.mp nd2
            refine q F2 H2 L2 (v :: vs) (Lv ++ Lvs) ?_ g2 ⟨v, vs, Lv, Lvs, rfl, k1, r2, rfl⟩ ?_ ?_
            · have b := a2.beside Lv
              refine (a1.trans ?_)
              refine ⟨b.fs, fun x o e m => b.fr x o e fun z => m (by rcases List.mem_append.mp z with z | z <;> simp [z]), b.dm, fun x hx => ?_, fun x hx => ?_⟩
              · have hx' : x ∈ Lv ++ (L2 ++ Lvs) := by
                  simp only [List.mem_append] at hx ⊢
                  rcases hx with z | z | z
                  · exact .inr (.inl z)
                  · exact .inl z
                  · exact .inr (.inr z)
                rcases b.lo x hx' with z | z
                · exact .inl (by rcases List.mem_append.mp z with z | z <;> simp [z])
                · exact .inr z
              · rcases b.fn x hx with z | z | z
                · exact .inl z
                · exact .inr (.inl (by rcases List.mem_append.mp z with z | z <;> simp [z]))
                · exact .inr (.inr z)
            · refine List.nodup_append.mpr ⟨n2.1, List.nodup_append.mpr ⟨nd.2.1, n2.2.1, fun x hx y hy e => k2 x hx (List.mem_append_right _ (e ▸ hy))⟩, fun x hx y hy e => ?_⟩
              subst e
              rcases List.mem_append.mp hy with z | z
              · exact k2 x z (List.mem_append_left _ hx)
              · exact n2.2.2 x hx x z rfl
            · intro x hx
              rcases List.mem_append.mp hx with z | z
              · exact k3 x z
              · exact ow2 x z
theorem lsn_form {y : Sy} {es : Es} {ea : Expr} (h : okE y N sc (.lsn es) ea = true) : ∃ eas pos, ea = .List eas pos ∧ okEs y N sc es eas = true := by
  cases ea <;> first
    | (exact Bool.noConfusion (show false = true from h))
    | skip
  unfold okE at h
  exact ⟨_, _, rfl, h⟩
theorem se_lsn (T : Top p C) {es : Es} (ss : SOs p C n N es) : SE p C n N (.lsn es) := by
  intro sc W X σ F H L env out ea Q G g hk ev q
  obtain ⟨eas, pos, rfl, k⟩ := lsn_form hk
  have pl := okEs_plain k
  refine T0.of (pe_lst pa0) ?_
  unfold evalE at ev
  cases h : evalOs C es env with
  | none => rw [h] at ev; cases ev
  | some y =>
    obtain ⟨r, env1⟩ := y
    rw [h] at ev
    cases r with
    | error x =>
      cases ev
      exact T0L.args pl ((ss G g k h).2 x _ rfl q)
    | ok os =>
      dsimp only at ev
      split at ev
      · rename_i hz
        cases ev
        refine T0L.args pl ((ss G g k h).1 os _ rfl fun F1 H1 L1 vs Lv a1 g1 r1 nd ow => ?_)
        refine ⟨by rw [sizeLine_eq, r1.length]; exact of_decide_eq_true hz, fun a ha => ?_⟩
        have fa : F1 a = none := free_of g1.ex ha
        have keep : ∀ b u, H1 b = some u → (upd H1 a (.lst vs)) b = some u := fun b u e => by rw [upd_ne (ne_of_none e ha)]; exact e
        have aL : a ∉ L1 ++ Lv := fun m => by
          rcases List.mem_append.mp m with z | z
          · exact g1.rep.dom a z ha
          · exact r1.dom a z ha
        have n1 := List.nodup_append.mp nd
        refine q F1 _ L1 (.ref a) (a :: Lv) ⟨a1.fs, fun b u e m => keep b u (a1.fr b u e m), fun b hb => ?_, fun b hb => ?_, a1.fn⟩ ⟨⟨g1.ex.trans keep, RepE.mono (Ex.refl F1) (fun b _ u e => keep b u e) g1.rep, g1.nd, g1.ow⟩, ⟨a, vs, Lv, rfl, upd_same, RepOs.mono (Ex.refl F1) (fun b _ u e => keep b u e) r1, rfl⟩, ?_, ?_⟩
        · have := a1.dm b hb
          cases e : H1 b with
          | none => exact absurd e this
          | some u => rw [keep b u e]; simp
        · rcases List.mem_append.mp hb with z | z
          · exact a1.lo b (List.mem_append_left _ z)
          · rcases List.mem_cons.mp z with z | z
            · rw [z]
              right
              cases e : H a with
              | none => rfl
              | some u => exact absurd ha (a1.dm a (by rw [e]; simp))
            · exact a1.lo b (List.mem_append_right _ z)
        · refine List.nodup_append.mpr ⟨n1.1, List.nodup_cons.mpr ⟨fun m => aL (List.mem_append_right _ m), n1.2.1⟩, fun x hx y hy e => ?_⟩
          subst e
          rcases List.mem_cons.mp hy with z | z
          · exact aL (List.mem_append_left _ (z ▸ hx))
          · exact n1.2.2 x hx x z rfl
        · intro x hx
          rcases List.mem_cons.mp hx with z | z
          · rw [z]; exact fa
          · exact ow x z
      · cases ev
end
end T
namespace T
open PySem L2
def T0G (X : Cx) (e : Expr) : TG := fun v σ H Q => ∀ (pins : List (Addr × Obj)) (s : Shared) (u : Value), Inv X pins σ H s → RelV v u → wpAny (model X.prog X.w) X.A (assign e X.env u) (fun _ s' => ∃ σ' H', Inv X pins σ' H' s' ∧ Q σ' H') X.xe s
theorem pg0 {X : Cx} {e : Expr} : PG X e (T0G X e) := ⟨fun pins s σ H v u Q I r h => h pins s u I r⟩
theorem T0G.of {X : Cx} {e : Expr} {t : TG} (h : PG X e t) {v : V} {σ : L2.St} {H : Hp} {Q : L2.St → Hp → Prop} (q : t v σ H Q) : T0G X e v σ H Q := fun pins s u I r => h.run pins s σ H v u Q I r q
def T0Gs (X : Cx) (es : List Expr) : TGs := fun vs σ H Q => ∀ (pins : List (Addr × Obj)) (s : Shared) (us : List Value), Inv X pins σ H s → Vals vs us → wpAny (model X.prog X.w) X.A (assignInOrder ((assignEach es X.env).map (·.2)) us) (fun _ s' => ∃ σ' H', Inv X pins σ' H' s' ∧ Q σ' H') X.xe s
theorem pgs0 {X : Cx} {es : List Expr} : PGs X es (T0Gs X es) := ⟨fun pins s σ H v u Q I r h => h pins s u I r⟩
theorem T0Gs.of {X : Cx} {es : List Expr} {t : TGs} (h : PGs X es t) {vs : List V} {σ : L2.St} {H : Hp} {Q : L2.St → Hp → Prop} (q : t vs σ H Q) : T0Gs X es vs σ H Q := fun pins s u I r => h.run pins s σ H vs u Q I r q
/-- as its parts are taken -/
def RepW (c : Cn) (F H : Hp) : D → V → Prop
  | .tup ds, v => ∃ a vs, v = .ref a ∧ SqT c.K H a vs ∧ Reps c F ds vs
  | d, v => Rep c F d v
theorem Rep.weak {c : Cn} {F H : Hp} (ex : Ex F H) {d : D} {v : V} (h : Rep c F d v) : RepW c F H d v := by
  cases d <;> first
    | exact h
    | skip
  obtain ⟨a, vs, h1, h2, h3⟩ := h
  exact ⟨a, vs, h1, ex_t ex h2, h3⟩
theorem okTg_nostar {N : List Str} {own : Scope} {t : Tg} {e : Expr} (h : okTg N own t e = true) : ∀ (r : List Expr) (env : PySem.Env), assignEach (e :: r) env = (false, assign e env) :: assignEach r env := by
  cases t <;> cases e <;> first
    | (exact Bool.noConfusion (show false = true from h))
    | exact fun _ _ => rfl
theorem okTgs_each {N : List Str} {own : Scope} : ∀ {ts : List Tg} {es : List Expr}, okTgs N own ts es = true → ∀ env : PySem.Env, (assignEach es env).length = ts.length ∧ (assignEach es env).findIdx? (·.1) = none
  | [], [], _, env => ⟨rfl, rfl⟩
  | [], _ :: _, h, _ => Bool.noConfusion (show false = true from h)
  | _ :: _, [], h, _ => Bool.noConfusion (show false = true from h)
  | t :: ts, e :: es, h, env => by
    have h' : okTg N own t e = true ∧ okTgs N own ts es = true := by simpa [okTgs] using h
    obtain ⟨h1, h2⟩ := okTgs_each h'.2 env
    rw [okTg_nostar h'.1 es env]
    refine ⟨by simp [h1], ?_⟩
    rw [List.findIdx?_cons, h2]
    rfl
section
variable {p : Pg} {C : Ctx} {n : Nat} {N : List Str} {sc own : Scope} {W : WX} {X : Cx} {F F1 F' H H1 H' : Hp} {σ : L2.St} {env env1 : Env} {L L1 : List Addr} {c : Cn} {P : Nat → Bool}
/-- what an assignment to a target's names leaves -/
def TgtP (c : Cn) (F H : Hp) (L : List Addr) (σ : L2.St) (env1 : Env) (P : Nat → Bool) (Q : L2.St → Hp → Prop) : Prop := ∀ σ1 L1, Cfg c F H σ1 env1 L1 → (∀ a ∈ L1, a ∈ L) → (∀ i, P i = true → σ1[i]? = σ[i]?) → σ1.length = σ.length → Q σ1 H
theorem Cfg.setD (g : Cfg c F H σ env L) {i : Nat} {o : Option O} {x : Option V} {M : List Addr} (hi : i < env.length) (r : RepS c F H o x M) (nd : M.Nodup) (dis : ∀ a ∈ M, a ∉ L) (ow : ∀ a ∈ M, F a = none) : ∃ L1, Cfg c F H (σ.set i x) (env.set i o) L1 ∧ ∀ a ∈ L1, a ∈ L ∨ a ∈ M := by
  obtain ⟨s, hs⟩ : ∃ s, env[i]? = some s := ⟨_, List.getElem?_eq_getElem hi⟩
  obtain ⟨x0, A, M0, B, h1, rfl, h3, h4⟩ := g.rep.at hs
  have nd0 := nodup3 g.nd
  refine ⟨A ++ M ++ B, ⟨g.ex, h4 F H o x M (Ex.refl F) (fun _ _ _ e => e) r, nodup3' nd0.1 nd fun a ha m => dis a ha (mem3.mpr (.inl m)), fun a ha => ?_⟩, fun a ha => ?_⟩
  · rcases mem3.mp ha with z | z
    · exact g.ow a (mem3.mpr (.inl z))
    · exact ow a z
  · exact (mem3.mp ha).imp (fun z => mem3.mpr (.inl z)) id
theorem assignDs_len : ∀ {ts : List Tg} {ds : List D} {env env1 : Env}, assignDs P ts ds env = some env1 → ds.length = ts.length
  | [], [], _, _, _ => rfl
  | [], _ :: _, _, _, h => by cases h
  | _ :: _, [], _, _, h => by cases h
  | t :: ts, d :: ds, env, env1, h => by
    unfold assignDs at h
    cases q : assignD P t d env with
    | none => rw [q] at h; cases h
    | some e => rw [q] at h; simp [assignDs_len (show assignDs P ts ds e = some env1 from h)]
mutual
theorem tg_ok (G : Good p n N sc W X) (hf : ∀ x, own.names.lookup x = some .cell → X.fn x = true) (hl : ∀ x, (own.names.lookup x = some .local ∨ own.names.lookup x = some .cell) → X.env.scope.names.lookup x = own.names.lookup x) :
    ∀ {t : Tg} {e : Expr} {d : D} {env env1 : Env} {L : List Addr} {σ : L2.St} {v : V} {Q : L2.St → Hp → Prop}, okTg N own t e = true → assignD P t d env = some env1 → Cfg p.c F H σ env L → (if t.isTp then RepW p.c F H d v else Rep p.c F d v) → TgtP p.c F H L σ env1 P Q → T0G X e v σ H Q
  | .nm i, e, d, env, env1, L, σ, v, Q, ok, ev, g, r, q => by
    cases e <;> first
      | (exact Bool.noConfusion (show false = true from ok))
      | skip
    rename_i x pos
    unfold okTg at ok
    rw [Bool.and_eq_true] at ok
    unfold assignD at ev
    split at ev
    · cases ev
    · rename_i hc
      cases ev
      simp only [Bool.or_eq_true, decide_eq_true_eq, not_or, Bool.not_eq_true] at hc
      have hk : own.names.lookup x = some .local ∨ own.names.lookup x = some .cell := by
        cases q : own.names.lookup x with
        | none => rw [q] at ok; exact Bool.noConfusion (show false = true from ok.2)
        | some k =>
          rw [q] at ok
          cases k <;> first
            | exact .inl rfl
            | exact .inr rfl
            | (exact Bool.noConfusion (show false = true from ok.2))
      have hloc : L2.Loc X.env.scope x := by
        unfold L2.Loc
        rw [hl x hk]
        exact hk
      refine T0G.of (pg_name (by rw [G.N]; exact G.nd) (by rw [G.N]; exact beq_opt ok.1) hloc ?_) ?_
      · rcases hk with z | z
        · right
          rw [hl x (.inl z)]
          exact z
        · exact .inl (hf x z)
      · obtain ⟨L1, g1, s1⟩ := g.setD (i := i) (o := some (.pure d)) (x := some v) (M := []) (Nat.lt_of_not_le hc.2) ⟨v, rfl, r, rfl⟩ List.nodup_nil (fun _ h => absurd h (by simp)) fun _ h => absurd h (by simp)
        refine q (σ.set i (some v)) L1 g1 (fun a ha => (s1 a ha).elim id fun h => absurd h (by simp)) (fun j hj => ?_) (by simp)
        rw [List.getElem?_set_ne]
        intro z
        subst z
        rw [hj] at hc
        exact absurd hc.1 (by simp)
  | .tp ts, e, d, env, env1, L, σ, v, Q, ok, ev, g, r, q => by
    cases e <;> first
      | (exact Bool.noConfusion (show false = true from ok))
      | skip
    rename_i es k pos
    unfold okTg at ok
    cases d <;> first
      | (cases (show (none : Option Env) = some env1 from ev); done)
      | skip
    rename_i ds
    unfold assignD at ev
    obtain ⟨a, vs, rfl, h2, h3⟩ := (show RepW p.c F H (.tup ds) v from r)
    obtain ⟨e1, e2⟩ := okTgs_each ok X.env
    have el := assignDs_len ev
    refine T0G.of (pg_tup G.calm (n := ts.length) pgs0 e1 e2) ⟨a, vs, rfl, by rw [G.K]; exact h2, by rw [h3.length, el], ?_⟩
    exact tgs_ok G hf hl ok ev g h3 q
theorem tgs_ok (G : Good p n N sc W X) (hf : ∀ x, own.names.lookup x = some .cell → X.fn x = true) (hl : ∀ x, (own.names.lookup x = some .local ∨ own.names.lookup x = some .cell) → X.env.scope.names.lookup x = own.names.lookup x) :
    ∀ {ts : List Tg} {es : List Expr} {ds : List D} {env env1 : Env} {L : List Addr} {σ : L2.St} {vs : List V} {Q : L2.St → Hp → Prop}, okTgs N own ts es = true → assignDs P ts ds env = some env1 → Cfg p.c F H σ env L → Reps p.c F ds vs → TgtP p.c F H L σ env1 P Q → T0Gs X es vs σ H Q
  | [], [], ds, env, env1, L, σ, vs, Q, ok, ev, g, r, q => by
    cases ds with
    | cons _ _ => cases ev
    | nil =>
      cases ev
      exact T0Gs.of pgs_nil ⟨r, q σ L g (fun _ h => h) (fun _ _ => rfl) rfl⟩
  | [], _ :: _, ds, env, env1, L, σ, vs, Q, ok, ev, g, r, q => Bool.noConfusion (show false = true from ok)
  | _ :: _, [], ds, env, env1, L, σ, vs, Q, ok, ev, g, r, q => Bool.noConfusion (show false = true from ok)
  | t :: ts, e :: es, ds, env, env1, L, σ, vs, Q, ok, ev, g, r, q => by
    have ok' : okTg N own t e = true ∧ okTgs N own ts es = true := by simpa [okTgs] using ok
    cases ds with
    | nil => cases ev
    | cons d ds =>
      obtain ⟨v, vs', rfl, r1, r2⟩ := r
      unfold assignDs at ev
      cases h : assignD P t d env with
      | none => rw [h] at ev; cases ev
      | some env' =>
        rw [h] at ev
        dsimp only at ev
        refine T0Gs.of (pgs_cons pg0 pgs0 (by rw [okTg_nostar ok'.1]; rfl)) ⟨v, vs', rfl, ?_⟩
        refine tg_ok G hf hl ok'.1 h g ?_ fun σ1 L1 g1 s1 a1 l1 => ?_
        · split
          · exact Rep.weak g.ex r1
          · exact r1
        · exact tgs_ok G hf hl ok'.2 ev g1 r2 fun σ2 L2 g2 s2 a2 l2 => q σ2 L2 g2 (fun a ha => s1 a (s2 a ha)) (fun i hi => (a2 i hi).trans (a1 i hi)) (l2.trans l1)
end
end
end T
set_option maxHeartbeats 1000000
namespace MZ
open PySem PySem.Spec PyProof.Rows L2
section
variable {prog : Program} {w : World} {A : Around} {E : Value → Shared → Prop} {s : Shared}
/-- an iterator at i over l: what it gives next -/
structure Nx (prog : Program) (w : World) (A : Around) (i l : Addr) (a b : Heap → Prop) (x : Option Value) : Prop where
  item : ∀ v, x = some v → ∀ (s : Shared) (Q : Value → Shared → Prop) (E : Value → Shared → Prop), a s.heap → (∀ g, b g → Heap.SameBut i s.heap g → Q v { s with heap := g }) → wpAny (model prog w) A (Builtin.SmallTypes.nextOf (.ref i)) Q E s
  fin : x = none → ∀ (s : Shared) (Q : Value → Shared → Prop) (E : Value → Shared → Prop), a s.heap → (∀ g e, Heap.ExtBut i s.heap g → (∃ o, g.get? e = some o ∧ o.cls = .type "StopIteration") → E (.ref e) { s with heap := g }) → wpAny (model prog w) A (Builtin.SmallTypes.nextOf (.ref i)) Q E s
  far : ∀ {c h g}, Heap.ExtBut c h g → i ≠ c → l ≠ c → a h → a g
  far' : ∀ {c h g}, Heap.ExtBut c h g → i ≠ c → l ≠ c → b h → b g
variable {z u t i j l m : Addr} {a b a' b' : Heap → Prop} {ox oy : Option Value} {v1 v2 : Value}
theorem next_item {x y : Value} {Q : Value → Shared → Prop} (D : ZipApart z u t i j l m) (X : Nx prog w A i l a b (some x)) (Y : Nx prog w A j m a' b' (some y)) (hz : IsZip s.heap z u t .none) (hu : IsPair s.heap u (.ref i) (.ref j)) (ht : IsPair s.heap t v1 v2) (h1 : a s.heap) (h2 : a' s.heap)
    (k : ∀ g, IsZip g z u t (rawInt s.heap.objs.size) → IsPair g t x y → b g → b' g → IsPair g s.heap.objs.size x y → g.objs.size = s.heap.objs.size + 1 → (∀ c o, c ≠ z → c ≠ t → c ≠ i → c ≠ j → s.heap.get? c = some o → g.get? c = some o) → Q (.ref s.heap.objs.size) { s with heap := g })
    (up : ∀ {h g : Heap}, (∀ c o, c ≠ z → h.get? c = some o → g.get? c = some o) → b h → b' h → b g ∧ b' g) :
    wpAny (model prog w) A (Builtin.«zip.__next__» ⟨[.ref z], []⟩) (fun r s' => ∃ v, r = .done (.ret v) ∧ Q v s') E s := by
  show wpAny _ _ (field (.ref z) 2 >>= _) _ _ _
  refine wpAny_bind (wpAny_field hz rfl (x := .bool false) rfl ?_)
  show wpAny _ _ (field (.ref z) 3 >>= _) _ _ _
  refine wpAny_bind (wpAny_field hz rfl (x := .ref u) rfl (wpAny_bind (wpAny_seqItems hu rfl ?_)))
  show wpAny _ _ (Builtin.SmallTypes.ownedTupleIsFree (.ref z) >>= _) _ _ _
  refine wpAny_bind ?_
  unfold Builtin.SmallTypes.ownedTupleIsFree
  refine wpAny_bind (wpAny_field hz rfl (x := .none) rfl (wpAny_pure ?_))
  simp only [if_true]
  refine wpAny_bind (wpAny_rule (wpAny_bind (wpAny_field hz rfl (x := .ref t) rfl (wpAny_bind (wpAny_setField_rec hz (by simp) fun g1 z1 k1 => ?_)))))
  replace z1 : IsZip g1 z u t .ellipsis := z1
  refine wpAny_bind ?_
  simp only [List.zipIdx_cons, List.zipIdx_nil, List.forIn_cons, List.forIn_nil]
  refine wpAny_bind (wpAny_bind (wpAny_onRaise ?_))
  show wpAny _ _ (Builtin.SmallTypes.nextOf (.ref i) >>= _) _ _ _
  refine wpAny_bind (X.item x rfl _ _ _ (X.far k1.extBut D.i1z D.l1z h1) fun g2 n2 k2 => wpAny_pure ?_)
  have t2 : IsPair g2 t v1 v2 := k2.extBut _ _ D.TOi1 (k1.extBut _ _ D.TOz ht)
  refine wpAny_bind (wpAny_seqItems t2 rfl (wpAny_bind (wpAny_updateSeq_pair t2 fun g3 t3 k3 => ?_)))
  replace t3 : IsPair g3 t x v2 := t3
  refine wpAny_bind (wpAny_letGo (wpAny_pure (wpAny_bind (wpAny_bind (wpAny_onRaise ?_)))))
  show wpAny _ _ (Builtin.SmallTypes.nextOf (.ref j) >>= _) _ _ _
  refine wpAny_bind (Y.item y rfl _ _ _ (Y.far k3.extBut D.TOi2.symm D.l2TO (Y.far k2.extBut D.i12.symm D.l2i1 (Y.far k1.extBut D.i2z D.l2z h2))) fun g4 n4 k4 => wpAny_pure ?_)
  have t4 : IsPair g4 t x v2 := k4.extBut _ _ D.TOi2 t3
  refine wpAny_bind (wpAny_seqItems t4 rfl (wpAny_bind (wpAny_updateSeq_pair t4 fun g5 t5 k5 => ?_)))
  replace t5 : IsPair g5 t x y := t5
  refine wpAny_bind (wpAny_letGo (wpAny_pure (wpAny_pure (wpAny_bind (wpAny_seqItems t5 rfl (wpAny_bind (wpAny_newTuple ?_)))))))
  have sz : g5.objs.size = s.heap.objs.size := by rw [k5.1, k4.1, k3.1, k2.1, k1.1]
  have z5 : IsZip g5 z u t .ellipsis := k5.extBut _ _ D.TOz.symm (k4.extBut _ _ D.i2z.symm (k3.extBut _ _ D.TOz.symm (k2.extBut _ _ D.i1z.symm z1)))
  have kk : ∀ c o, c ≠ z → c ≠ t → c ≠ i → c ≠ j → s.heap.get? c = some o → g5.get? c = some o := fun c o c1 c2 c3 c4 e => k5.extBut _ _ c2 (k4.extBut _ _ c4 (k3.extBut _ _ c2 (k2.extBut _ _ c3 (k1.extBut _ _ c1 e))))
  have b5 : b g5 := X.far' k5.extBut D.TOi1.symm D.l1TO (X.far' k4.extBut D.i12 D.l1i2 (X.far' k3.extBut D.TOi1.symm D.l1TO n2))
  have c5 : b' g5 := Y.far' k5.extBut D.TOi2.symm D.l2TO n4
  have zl : z < g5.objs.size := Heap.lt_size z5
  show wpAny _ _ (Builtin.SmallTypes.ownedTupleHandOut (.ref z) (.ref g5.objs.size) >>= _) _ _ _
  refine wpAny_bind ?_
  unfold Builtin.SmallTypes.ownedTupleHandOut
  have z6 : IsZip (g5.push { cls := .type "tuple", data := .seq #[x, y] }) z u t .ellipsis := Heap.get?_push_of_some _ z5
  refine wpAny_bind (wpAny_setField_rec z6 (by simp) fun g7 z7 k7 => ?_)
  replace z7 : IsZip g7 z u t (rawInt g5.objs.size) := z7
  refine wpAny_setField_rec z7 (by simp) fun g8 z8 k8 => ?_
  replace z8 : IsZip g8 z u t (rawInt g5.objs.size) := z8
  have on : ∀ c o, c ≠ z → g5.get? c = some o → g8.get? c = some o := fun c o c1 e => k8.extBut _ _ c1 (k7.extBut _ _ c1 (Heap.get?_push_of_some _ e))
  have p8 : IsPair g8 g5.objs.size x y := k8.extBut _ _ (Nat.ne_of_gt zl) (k7.extBut _ _ (Nat.ne_of_gt zl) (Heap.get?_push_size _ rfl))
  have s8 : g8.objs.size = g5.objs.size + 1 := by rw [k8.1, k7.1, Heap.size_push]
  obtain ⟨b8, c8⟩ := up on b5 c5
  rw [sz] at z8 p8 s8
  refine wpAny_pure ⟨_, rfl, ?_⟩
  show Q (.ref g5.objs.size) _
  rw [sz]
  exact k g8 z8 (on _ _ D.TOz t5) b8 c8 p8 s8 fun c o c1 c2 c3 c4 e => on c o c1 (kk c o c1 c2 c3 c4 e)
theorem next_end {Q : Fin → Shared → Prop} (D : ZipApart z u t i j l m) (X : Nx prog w A i l a b ox) (Y : Nx prog w A j m a' b' oy) (hz : IsZip s.heap z u t .none) (hu : IsPair s.heap u (.ref i) (.ref j)) (ht : IsPair s.heap t v1 v2) (h1 : a s.heap) (h2 : a' s.heap) (en : ox = none ∨ oy = none)
    (k : ∀ g e, (∀ c o, c ≠ z → c ≠ t → c ≠ i → c ≠ j → s.heap.get? c = some o → g.get? c = some o) → (∃ o, g.get? e = some o ∧ o.cls = .type "StopIteration") → E (.ref e) { s with heap := g }) : wpAny (model prog w) A (Builtin.«zip.__next__» ⟨[.ref z], []⟩) Q E s := by
  show wpAny _ _ (field (.ref z) 2 >>= _) _ _ _
  refine wpAny_bind (wpAny_field hz rfl (x := .bool false) rfl ?_)
  show wpAny _ _ (field (.ref z) 3 >>= _) _ _ _
  refine wpAny_bind (wpAny_field hz rfl (x := .ref u) rfl (wpAny_bind (wpAny_seqItems hu rfl ?_)))
  show wpAny _ _ (Builtin.SmallTypes.ownedTupleIsFree (.ref z) >>= _) _ _ _
  refine wpAny_bind ?_
  unfold Builtin.SmallTypes.ownedTupleIsFree
  refine wpAny_bind (wpAny_field hz rfl (x := .none) rfl (wpAny_pure ?_))
  simp only [if_true]
  refine wpAny_bind (wpAny_rule (wpAny_bind (wpAny_field hz rfl (x := .ref t) rfl (wpAny_bind (wpAny_setField_rec hz (by simp) fun g1 z1 k1 => ?_)))))
  replace z1 : IsZip g1 z u t .ellipsis := z1
  refine wpAny_bind ?_
  simp only [List.zipIdx_cons, List.zipIdx_nil, List.forIn_cons, List.forIn_nil]
  refine wpAny_bind (wpAny_bind (wpAny_onRaise ?_))
  show wpAny _ _ (Builtin.SmallTypes.nextOf (.ref i) >>= _) _ _ _
  cases ox with
  | none =>
    refine wpAny_bind (X.fin rfl _ _ _ (X.far k1.extBut D.i1z D.l1z h1) fun g2 e k2 he => ?_)
    obtain ⟨oe, q1, q2⟩ := he
    have z2 : IsZip g2 z u t .ellipsis := k2 _ _ D.i1z.symm z1
    have ez : e ≠ z := fun x => by subst x; rw [z2] at q1; cases q1; simp at q2
    refine wpAny_setField_rec z2 (by simp) fun g3 _ k3 => k g3 e (fun c o c1 _ c3 _ x => k3.extBut _ _ c1 (k2 _ _ c3 (k1.extBut _ _ c1 x))) ⟨oe, k3.extBut _ _ ez q1, q2⟩
  | some x =>
    have oyn : oy = none := by
      rcases en with h | h
      · cases h
      · exact h
    refine wpAny_bind (X.item x rfl _ _ _ (X.far k1.extBut D.i1z D.l1z h1) fun g2 n2 k2 => wpAny_pure ?_)
    have t2 : IsPair g2 t v1 v2 := k2.extBut _ _ D.TOi1 (k1.extBut _ _ D.TOz ht)
    refine wpAny_bind (wpAny_seqItems t2 rfl (wpAny_bind (wpAny_updateSeq_pair t2 fun g3 t3 k3 => ?_)))
    refine wpAny_bind (wpAny_letGo (wpAny_pure (wpAny_bind (wpAny_bind (wpAny_onRaise ?_)))))
    show wpAny _ _ (Builtin.SmallTypes.nextOf (.ref j) >>= _) _ _ _
    refine wpAny_bind (Y.fin oyn _ _ _ (Y.far k3.extBut D.TOi2.symm D.l2TO (Y.far k2.extBut D.i12.symm D.l2i1 (Y.far k1.extBut D.i2z D.l2z h2))) fun g4 e k4 he => ?_)
    obtain ⟨oe, q1, q2⟩ := he
    have z4 : IsZip g4 z u t .ellipsis := k4 _ _ D.i2z.symm (k3.extBut _ _ D.TOz.symm (k2.extBut _ _ D.i1z.symm z1))
    have ez : e ≠ z := fun x => by subst x; rw [z4] at q1; cases q1; simp at q2
    refine wpAny_setField_rec z4 (by simp) fun g5 _ k5 => k g5 e (fun c o c1 c2 c3 c4 x => k5.extBut _ _ c1 (k4 _ _ c4 (k3.extBut _ _ c2 (k2.extBut _ _ c3 (k1.extBut _ _ c1 x))))) ⟨oe, k5.extBut _ _ ez q1, q2⟩
/-- an iterator over a list or a tuple -/
def It2 (k : Bool) (h : Heap) (i l : Addr) (q : Nat) (xs : Array Value) : Prop := if k then h.IsListIter i l q ∧ h.IsList l xs else h.IsTupleIter i l q ∧ h.IsTuple l xs
theorem it2_far {k : Bool} {h g : Heap} {i l c : Addr} {q : Nat} {xs : Array Value} (e : Heap.ExtBut c h g) (h1 : i ≠ c) (h2 : l ≠ c) (x : It2 k h i l q xs) : It2 k g i l q xs := by
  cases k
  · exact ⟨x.1.extBut e h1, x.2.extBut e h2⟩
  · exact ⟨x.1.extBut e h1, x.2.extBut e h2⟩
theorem nx_of {A : Around} (hh : A.handled = none) {k : Bool} {i l : Addr} {q : Nat} {xs : Array Value} (ne : l ≠ i) : Nx prog w A i l (fun h => It2 k h i l q xs) (fun h => It2 k h i l (q + 1) xs) xs[q]? where
  item := fun v hv s Q E x hq => by
    cases k
    · exact RZ.nextOf_tuple_item x.1 x.2 hv fun g h1 h2 => hq g ⟨h1, x.2.extBut h2.extBut ne⟩ h2
    · exact wpAny_nextOf_list_item x.1 x.2 hv fun g h1 h2 => hq g ⟨h1, x.2.extBut h2.extBut ne⟩ h2
  fin := fun hv s Q E x hq => by
    cases k
    · exact RZ.nextOf_tuple_end hh x.1 x.2 hv hq
    · exact wpAny_nextOf_list_end hh x.1 x.2 hv hq
  far := it2_far
  far' := it2_far
theorem py_item {A : Around} (hh : A.handled = none) {k1 k2 : Bool} {q : Nat} {xs ys : Array Value} {x y : Value} {Q : Option Value → Shared → Prop} (D : ZipApart z u t i j l m) (hz : IsZip s.heap z u t .none) (hu : IsPair s.heap u (.ref i) (.ref j)) (ht : IsPair s.heap t v1 v2) (h1 : It2 k1 s.heap i l q xs) (h2 : It2 k2 s.heap j m q ys) (hx : xs[q]? = some x) (hy : ys[q]? = some y)
    (k : ∀ g, IsZip g z u t (rawInt s.heap.objs.size) → IsPair g t x y → It2 k1 g i l (q + 1) xs → It2 k2 g j m (q + 1) ys → IsPair g s.heap.objs.size x y → g.objs.size = s.heap.objs.size + 1 → (∀ c o, c ≠ z → c ≠ t → c ≠ i → c ≠ j → s.heap.get? c = some o → g.get? c = some o) → Q (some (.ref s.heap.objs.size)) { s with heap := g }) : wpAny (model prog w) A (pyNext (.ref z)) Q E s := by
  have ty : s.TypeIs (.ref z) "zip" := ⟨_, hz, rfl⟩
  have X := nx_of (prog := prog) (w := w) (A := A.in1) hh (k := k1) (i := i) (l := l) (q := q) (xs := xs) D.l1i1
  have Y := nx_of (prog := prog) (w := w) (A := A.in1) hh (k := k2) (i := j) (l := m) (q := q) (xs := ys) D.l2i2
  rw [hx] at X
  rw [hy] at Y
  unfold pyNext
  refine wpAny_bind (wpAny_attempt (wpAny_callSpecial?_slot (name := Str.ofString "__next__") ty F.slot_zip_next (wpAny_call_entry F.slot_zip_next ty F.entry_zip_next (next_item D X Y hz hu ht h1 h2 (fun g a1 a2 a3 a4 a5 a6 a7 => wpAny_pure (k g a1 a2 a3 a4 a5 a6 a7)) fun {h g} on b1 b2 => ?_) (F.args_zip_next_1 _))))
  have e : Heap.ExtBut z h g := fun c o n1 e => on c o n1 e
  exact ⟨it2_far e D.i1z D.l1z b1, it2_far e D.i2z D.l2z b2⟩
theorem py_end {A : Around} (hh : A.handled = none) {k1 k2 : Bool} {q : Nat} {xs ys : Array Value} {Q : Option Value → Shared → Prop} (D : ZipApart z u t i j l m) (hz : IsZip s.heap z u t .none) (hu : IsPair s.heap u (.ref i) (.ref j)) (ht : IsPair s.heap t v1 v2) (h1 : It2 k1 s.heap i l q xs) (h2 : It2 k2 s.heap j m q ys) (en : xs[q]? = none ∨ ys[q]? = none)
    (k : ∀ g, (∀ c o, c ≠ z → c ≠ t → c ≠ i → c ≠ j → s.heap.get? c = some o → g.get? c = some o) → Q none { s with heap := g }) : wpAny (model prog w) A (pyNext (.ref z)) Q E s := by
  have ty : s.TypeIs (.ref z) "zip" := ⟨_, hz, rfl⟩
  have X := nx_of (prog := prog) (w := w) (A := A.in1) hh (k := k1) (i := i) (l := l) (q := q) (xs := xs) D.l1i1
  have Y := nx_of (prog := prog) (w := w) (A := A.in1) hh (k := k2) (i := j) (l := m) (q := q) (xs := ys) D.l2i2
  unfold pyNext
  refine wpAny_bind (wpAny_attempt (wpAny_callSpecial?_slot (name := Str.ofString "__next__") ty F.slot_zip_next (wpAny_call_entry F.slot_zip_next ty F.entry_zip_next (next_end D X Y hz hu ht h1 h2 en fun g e hk he => ?_) (F.args_zip_next_1 _))))
  obtain ⟨o, q1, q2⟩ := he
  exact wpAny_bind (wpAny_isInstance (T := "StopIteration") (b := true) ⟨o, q1, q2⟩ isSubtype_stop (wpAny_pure (k _ hk)))
/-- the iterator over a list or a tuple that pyIter makes -/
def itO (k : Bool) (l : Addr) : Obj := if k then { cls := .type "list_iterator", data := .fields #[.ref l, .int 0 0] } else { cls := .type "tuple_iterator", data := .fields #[.ref l, .int 0 0] }
def SqOf (k : Bool) (h : Heap) (l : Addr) (xs : Array Value) : Prop := if k then h.IsList l xs else h.IsTuple l xs
theorem sqOf_push {k : Bool} {h : Heap} {l : Addr} {xs : Array Value} (x : SqOf k h l xs) (o : Obj) : SqOf k (h.push o) l xs := by
  cases k
  · exact Heap.IsTuple.push x o
  · exact Heap.IsList.push x o
def zh1 (k : Bool) (h : Heap) (l : Addr) : Heap := h.push (itO k l)
def zh2 (k k' : Bool) (h : Heap) (l m : Addr) : Heap := (zh1 k h l).push (itO k' m)
def zh3 (k k' : Bool) (h : Heap) (l m : Addr) : Heap := (zh2 k k' h l m).push { cls := .type "tuple", data := .seq #[.ref h.objs.size, .ref (zh1 k h l).objs.size] }
def zh4 (k k' : Bool) (h : Heap) (l m : Addr) : Heap := (zh3 k k' h l m).push { cls := .type "tuple", data := .seq #[.none, .none] }
def zh5 (k k' : Bool) (h : Heap) (l m : Addr) : Heap := (zh4 k k' h l m).push { cls := .type "zip", data := .fields #[.none, .bool false, .bool false, .ref (zh2 k k' h l m).objs.size, .ref (zh3 k k' h l m).objs.size] }
theorem made (k k' : Bool) (l m : Addr) (xs ys : Array Value) : Meets (Builtin.«zip.__new__» ⟨[.type "zip", .ref l, .ref m], []⟩) (fun _ R s => SqOf k s.heap l xs ∧ SqOf k' s.heap m ys ∧
      R (.ok (.ret (.ref (zh4 k k' s.heap l m).objs.size))) { s with heap := zh5 k k' s.heap l m }) :=
  .of_wp fun prog w A R s h => by
    obtain ⟨hp, g, d, tk, os⟩ := s
    obtain ⟨h1, h2, h⟩ := h
    have hsub := sub_zip
    have h2' := sqOf_push h2 (itO k l)
    cases k <;> cases k'
    · have a1 : Heap.IsTuple (Shared.heap ⟨hp, g, d, tk, os⟩) l xs := h1
      have a2 : Heap.IsTuple (Shared.heap ⟨hp.push { cls := .type "tuple_iterator", data := .fields #[.ref l, .int 0 0] }, g, d, tk, os⟩) m ys := h2'
      wp_walk using wpAny_pyIter_tuple a1, wpAny_pyIter_tuple a2
      exact ⟨_, rfl, h⟩
    · have a1 : Heap.IsTuple (Shared.heap ⟨hp, g, d, tk, os⟩) l xs := h1
      have a2 : Heap.IsList (Shared.heap ⟨hp.push { cls := .type "tuple_iterator", data := .fields #[.ref l, .int 0 0] }, g, d, tk, os⟩) m ys := h2'
      wp_walk using wpAny_pyIter_tuple a1, wpAny_pyIter_list a2
      exact ⟨_, rfl, h⟩
    · have a1 : Heap.IsList (Shared.heap ⟨hp, g, d, tk, os⟩) l xs := h1
      have a2 : Heap.IsTuple (Shared.heap ⟨hp.push { cls := .type "list_iterator", data := .fields #[.ref l, .int 0 0] }, g, d, tk, os⟩) m ys := h2'
      wp_walk using wpAny_pyIter_list a1, wpAny_pyIter_tuple a2
      exact ⟨_, rfl, h⟩
    · have a1 : Heap.IsList (Shared.heap ⟨hp, g, d, tk, os⟩) l xs := h1
      have a2 : Heap.IsList (Shared.heap ⟨hp.push { cls := .type "list_iterator", data := .fields #[.ref l, .int 0 0] }, g, d, tk, os⟩) m ys := h2'
      wp_walk using wpAny_pyIter_list a1, wpAny_pyIter_list a2
      exact ⟨_, rfl, h⟩
theorem itO_is (k : Bool) {h : Heap} {i l : Addr} {xs : Array Value} (e : h.get? i = some (itO k l)) (x : SqOf k h l xs) : It2 k h i l 0 xs := by
  cases k
  · exact ⟨⟨_, e, rfl, rfl⟩, x⟩
  · exact ⟨⟨_, e, rfl, rfl⟩, x⟩
theorem call_zip {k k' : Bool} {xs ys : Array Value} {Q : Value → Shared → Prop} (h1 : SqOf k s.heap l xs) (h2 : SqOf k' s.heap m ys)
    (q : ∀ g, IsZip g (s.heap.objs.size + 4) (s.heap.objs.size + 2) (s.heap.objs.size + 3) .none → IsPair g (s.heap.objs.size + 2) (.ref s.heap.objs.size) (.ref (s.heap.objs.size + 1)) → IsPair g (s.heap.objs.size + 3) .none .none → It2 k g s.heap.objs.size l 0 xs → It2 k' g (s.heap.objs.size + 1) m 0 ys → g.objs.size = s.heap.objs.size + 5 →
      (∀ c o, s.heap.get? c = some o → g.get? c = some o) → Q (.ref (s.heap.objs.size + 4)) { s with heap := g }) : wpAny (model prog w) A (call (.type "zip") [.ref l, .ref m]) Q E s := by
  refine callType_new F.called_zip (by decide) (F.typeCall_zip_2 _ _) (F.newCall_zip_2 _ _) (fun obj => F.args_object_init_3 obj _ _) F.entry_zip_new (made k k' l m xs ys) ⟨h1, h2, ?_⟩
  have n1 : (zh1 k s.heap l).objs.size = s.heap.objs.size + 1 := Heap.size_push ..
  have n2 : (zh2 k k' s.heap l m).objs.size = s.heap.objs.size + 2 := by unfold zh2; rw [Heap.size_push, n1]
  have n3 : (zh3 k k' s.heap l m).objs.size = s.heap.objs.size + 3 := by unfold zh3; rw [Heap.size_push, n2]
  have n4 : (zh4 k k' s.heap l m).objs.size = s.heap.objs.size + 4 := by unfold zh4; rw [Heap.size_push, n3]
  have n5 : (zh5 k k' s.heap l m).objs.size = s.heap.objs.size + 5 := by unfold zh5; rw [Heap.size_push, n4]
  have e5 : (zh5 k k' s.heap l m).get? (zh4 k k' s.heap l m).objs.size = some _ := Heap.get?_push_size _ rfl
  have e4 : (zh5 k k' s.heap l m).get? (zh3 k k' s.heap l m).objs.size = some _ := Heap.get?_push_of_some _ (Heap.get?_push_size _ rfl)
  have e3 : (zh5 k k' s.heap l m).get? (zh2 k k' s.heap l m).objs.size = some _ := Heap.get?_push_of_some _ (Heap.get?_push_of_some _ (Heap.get?_push_size _ rfl))
  have e2 : (zh5 k k' s.heap l m).get? (zh1 k s.heap l).objs.size = some (itO k' m) := Heap.get?_push_of_some _ (Heap.get?_push_of_some _ (Heap.get?_push_of_some _ (Heap.get?_push_size _ (by cases k' <;> rfl))))
  have e1 : (zh5 k k' s.heap l m).get? s.heap.objs.size = some (itO k l) := Heap.get?_push_of_some _ (Heap.get?_push_of_some _ (Heap.get?_push_of_some _ (Heap.get?_push_of_some _ (Heap.get?_push_size _ (by cases k <;> rfl)))))
  have s5 : ∀ {kk : Bool} {a : Addr} {zs : Array Value}, SqOf kk s.heap a zs → SqOf kk (zh5 k k' s.heap l m) a zs := fun {kk a zs} x => sqOf_push (sqOf_push (sqOf_push (sqOf_push (sqOf_push x _) _) _) _) _
  show _ ∧ _
  rw [n2, n3, n4] at e5
  rw [n1, n2] at e3
  rw [n3] at e4
  rw [n1] at e2
  rw [n4]
  exact ⟨⟨_, e5, rfl⟩, q _ e5 e3 e4 (itO_is k e1 (s5 h1)) (itO_is k' e2 (s5 h2)) n5 fun c o x => Heap.get?_push_of_some _ (Heap.get?_push_of_some _ (Heap.get?_push_of_some _ (Heap.get?_push_of_some _ (Heap.get?_push_of_some _ x))))⟩
end
/-- a tracked list or tuple -/
def SqV (k : Bool) (K : PySem.W.Frag) (H : Hp) (a : Addr) (xs : List V) : Prop := if k then SqL K H a xs else SqT K H a xs
def Tn (k : Bool) (h : Heap) (i l : Addr) (q : Nat) : Prop := if k then h.IsListIter i l q else h.IsTupleIter i l q
theorem tn_it2 {k : Bool} {h : Heap} {i l : Addr} {q : Nat} {xs : Array Value} (a : Tn k h i l q) (b : SqOf k h l xs) : It2 k h i l q xs := by
  cases k
  · exact ⟨a, b⟩
  · exact ⟨a, b⟩
theorem it2_tn {k : Bool} {h : Heap} {i l : Addr} {q : Nat} {xs : Array Value} (a : It2 k h i l q xs) : Tn k h i l q := by
  cases k
  · exact a.1
  · exact a.1
theorem tn_at {k : Bool} {h g : Heap} {i l : Addr} {q : Nat} (a : Tn k h i l q) (e : ∀ o, h.get? i = some o → g.get? i = some o) : Tn k g i l q := by
  cases k
  · exact Heap.IsTupleIter.at a e
  · exact Heap.IsListIter.at a e
theorem tn_obj {k : Bool} {h : Heap} {i l : Addr} {q : Nat} (a : Tn k h i l q) : ∃ o, h.get? i = some o ∧ ∀ v, o.data ≠ .cell v := by
  cases k
  · obtain ⟨o, e, _, d⟩ := (show h.IsTupleIter i l q from a)
    exact ⟨o, e, fun v q => by rw [d] at q; cases q⟩
  · obtain ⟨o, e, _, d⟩ := (show h.IsListIter i l q from a)
    exact ⟨o, e, fun v q => by rw [d] at q; cases q⟩
theorem sqv_get {X : Cx} {pins : List (Addr × Obj)} {σ : L2.St} {H : Hp} {s : Shared} {k : Bool} {a : Addr} {xs : List V} (I : Inv X pins σ H s) (h : SqV k X.K H a xs) : ∃ its : List Value, Vals xs its ∧ SqOf k s.heap a its.toArray ∧ a < s.heap.objs.size := by
  cases k
  · obtain ⟨its, r, p, _⟩ := I.tuple h
    obtain ⟨o, ho, _⟩ := id p
    exact ⟨its, r, p, Heap.lt_size ho⟩
  · obtain ⟨its, r, p, _⟩ := I.list h
    exact ⟨its, r, p.isList, p.lt⟩
theorem sqv_inj {X : Cx} {pins : List (Addr × Obj)} {σ : L2.St} {H : Hp} {s : Shared} {k : Bool} {a : Addr} {xs ys : List V} (I : Inv X pins σ H s) (h : SqV k X.K H a xs) (h' : SqV k X.K H a ys) : xs = ys := by
  cases k
  · exact I.tuple_inj h h'
  · exact I.list_inj h h'
def ItzG (k k' : Bool) (K : PySem.W.Frag) (a b : Addr) : It :=
  ⟨fun i H => ∃ (xs ys : List V) (x y : V), SqV k K H a xs ∧ SqV k' K H b ys ∧ xs[i]? = some x ∧ ys[i]? = some y,
    fun i H v H' => ∃ t x y, v = .ref t ∧ H t = none ∧ H' = upd H t (.tup [x, y]) ∧ (∀ xs, SqV k K H a xs → xs[i]? = some x) ∧ ∀ ys, SqV k' K H b ys → ys[i]? = some y,
    fun i H => ∃ xs ys : List V, SqV k K H a xs ∧ SqV k' K H b ys ∧ (xs.length ≤ i ∨ ys.length ≤ i)⟩
theorem turn_zipG {P : Program} {w : World} {K : PySem.W.Frag} {elts : List Expr} {kk : Nat} {tpos : Pos} {k k' : Bool} {a b z u t i1 i2 : Addr} (D : ZipApart z u t i1 i2 a b) :
    Turn P w K (.Tuple elts kk tpos) (ItzG k k' K a b) [z, u, t, i1, i2] z (fun i h => IsZip h z u t .none ∧ IsPair h u (.ref i1) (.ref i2) ∧ (∃ x y, IsPair h t x y) ∧ Tn k h i1 a i ∧ Tn k' h i2 b i) where
  mem := List.mem_cons_self
  obj := fun i h st c hc => by
    obtain ⟨hz, hu, ⟨x, y, ht⟩, n1, n2⟩ := st
    simp only [List.mem_cons, List.not_mem_nil, or_false] at hc
    rcases hc with rfl | rfl | rfl | rfl | rfl
    · exact ⟨_, hz, fun v q => nomatch q⟩
    · exact ⟨_, hu, fun v q => nomatch q⟩
    · exact ⟨_, ht, fun v q => nomatch q⟩
    · exact tn_obj n1
    · exact tn_obj n2
  keep := fun i h g st kp => by
    obtain ⟨hz, hu, ⟨x, y, ht⟩, n1, n2⟩ := st
    exact ⟨kp z (by simp) _ hz, kp u (by simp) _ hu, ⟨x, y, kp t (by simp) _ ht⟩, tn_at n1 fun o e => kp i1 (by simp) o e, tn_at n2 fun o e => kp i2 (by simp) o e⟩
  item := by
    intro X eP ew eK hc i pins s σ H E I hf st hg
    subst eP
    subst ew
    subst eK
    obtain ⟨hz, hu, ⟨x0, y0, ht⟩, n1, n2⟩ := st
    obtain ⟨xs, ys, x, y, sx, sy, gx, gy⟩ := hg
    obtain ⟨its, rv, p1, _⟩ := sqv_get I sx
    obtain ⟨jts, rw, p2, _⟩ := sqv_get I sy
    obtain ⟨e1, f1, r1⟩ := rv.get gx
    obtain ⟨e2, f2, r2⟩ := rw.get gy
    have zl : z < s.heap.objs.size := Heap.lt_size hz
    refine py_item (I.ok.hd hc) D hz hu ht (tn_it2 n1 p1) (tn_it2 n2 p2) (x := e1) (y := e2) (by simpa using f1) (by simpa using f2) fun g z' t' m1 m2 hT _ kp => ?_
    refine ⟨_, rfl, wpAny_letOwnedTupleGo_zip (s := { s with heap := g }) z' fun g2 z2 sb => ?_⟩
    have hT2 : g2.get? s.heap.objs.size = some { cls := .type "tuple", data := .seq #[e1, e2] } := (sb.2 _ (Nat.ne_of_gt zl)).trans hT
    have nw : ObjOk X.prog X.w (upd H s.heap.objs.size (.tup [x, y])) g2 s.heap.objs.size (.tup [x, y]) := ⟨by show 2 ≤ sizeLine; decide, [e1, e2], .cons r1 (.cons r2 .nil), ⟨_, hT2, rfl, _, rfl⟩⟩
    have J : Inv X pins σ (upd H s.heap.objs.size (.tup [x, y])) { s with heap := g2 } := I.turnedNew (t' := s.toks) (ch := [z, u, t, i1, i2]) (fun c o hb q => by
        have hb' : c ≠ z ∧ c ≠ u ∧ c ≠ t ∧ c ≠ i1 ∧ c ≠ i2 := by simpa using hb
        exact (sb.2 c hb'.1).trans (kp c o hb'.1 hb'.2.2.1 hb'.2.2.2.1 hb'.2.2.2.2 q)) hf (Nat.le_refl _) nw
    refine ⟨.ref s.heap.objs.size, _, J, rfl, ⟨_, x, y, rfl, I.fresh, rfl, fun l hl => by rw [sqv_inj I hl sx]; exact gx, fun l hl => by rw [sqv_inj I hl sy]; exact gy⟩, ⟨z2, (sb.2 _ D.TIz).trans (kp _ _ D.TIz D.TITO D.TIi1 D.TIi2 hu), ⟨e1, e2, (sb.2 _ D.TOz).trans t'⟩, tn_at (it2_tn m1) fun o q => (sb.2 _ D.i1z).trans q, tn_at (it2_tn m2) fun o q => (sb.2 _ D.i2z).trans q⟩, fun c hcm => ?_⟩
    have hlt : c < s.heap.objs.size := by
      simp only [List.mem_cons, List.not_mem_nil, or_false] at hcm
      rcases hcm with rfl | rfl | rfl | rfl | rfl
      · exact zl
      · exact Heap.lt_size hu
      · exact Heap.lt_size ht
      · obtain ⟨o, q, _⟩ := tn_obj n1
        exact Heap.lt_size q
      · obtain ⟨o, q, _⟩ := tn_obj n2
        exact Heap.lt_size q
    rw [upd_ne (Nat.ne_of_lt hlt)]
    exact (hf c hcm).1
  done := by
    intro X eP ew eK hc i pins s σ H E I hf st hg
    subst eP
    subst ew
    subst eK
    obtain ⟨hz, hu, ⟨x0, y0, ht⟩, n1, n2⟩ := st
    obtain ⟨xs, ys, sx, sy, en⟩ := hg
    obtain ⟨its, rv, p1, _⟩ := sqv_get I sx
    obtain ⟨jts, rw, p2, _⟩ := sqv_get I sy
    have c1 := rv.length
    have c2 := rw.length
    have he : its.toArray[i]? = none ∨ jts.toArray[i]? = none := by
      rcases en with q | q
      · exact .inl (by simp; omega)
      · exact .inr (by simp; omega)
    refine py_end (I.ok.hd hc) D hz hu ht (tn_it2 n1 p1) (tn_it2 n2 p2) he fun g kp => ⟨rfl, I.turnedL (t' := s.toks) (ch := [z, u, t, i1, i2]) (fun c o hb q => ?_) hf⟩
    have hb' : c ≠ z ∧ c ≠ u ∧ c ≠ t ∧ c ≠ i1 ∧ c ≠ i2 := by simpa using hb
    exact kp c o hb'.1 hb'.2.2.1 hb'.2.2.2.1 hb'.2.2.2.2 q
  self := fun A i s Q E st h => wpAny_pyIter_zip st.1 h
def iZipG (k k' : Bool) (K : PySem.W.Frag) (ta : TA) : TI := fun σ H R => ta σ H fun vs H1 => ∃ a b xs ys, vs = [.ref a, .ref b] ∧ SqV k K H1 a xs ∧ SqV k' K H1 b ys ∧ R (ItzG k k' K a b) H1
theorem pi_zipG {X : Cx} {k k' : Bool} {e e2 : Expr} {ta : TA} {q pos tpos : Pos} {elts : List Expr} {kk : Nat} (hg : Gl X "zip") (hm : X.mg "zip" = none) (ha : PA X [e, e2] ta) (hs : starEach [e, e2] X.env = (false, eval e X.env) :: starEach [e2] X.env) (hp : (backTo pos (starEach [e2] X.env)).any (·.1) = false) :
    PI X (.Tuple elts kk tpos) (.Call (.Name "zip" q) [e, e2] [] pos) (iZipG k k' X.K ta) := by
  refine ⟨fun pins s σ H R I h => ?_⟩
  refine Call_ (ld_blt I hg hm PyProof.Rows.boot_zip (PyProof.Rows.callWith_type1 (thn (ha.run pos pins s σ H _ I h) fun us s1 hh => ?_) hs hp))
  obtain ⟨vs, H1, I1, r1, a, b, xs, ys, ex, sx, sy, w⟩ := hh
  subst ex
  obtain ⟨u1, u2, rfl, e1, e2⟩ := r1.two
  cases e1
  cases e2
  obtain ⟨its, rv, p1, l1⟩ := sqv_get I1 sx
  obtain ⟨jts, rw, p2, l2⟩ := sqv_get I1 sy
  refine call_zip p1 p2 fun g hz hu ht m1 m2 hsz kp => wpAny_pyIter_zip hz ?_
  refine ⟨s1.heap.objs.size + 4, [s1.heap.objs.size + 4, s1.heap.objs.size + 2, s1.heap.objs.size + 3, s1.heap.objs.size, s1.heap.objs.size + 1], _, _, H1, rfl, I1.kept (t' := s1.toks) kp, turn_zipG (k := k) (k' := k') (PySem.W.ktu_apart s1.heap.objs.size a b l1 l2), ⟨hz, hu, ⟨_, _, ht⟩, it2_tn m1, it2_tn m2⟩, fun c hcm => ?_, w⟩
  have hle : s1.heap.objs.size ≤ c := by
    simp only [List.mem_cons, List.not_mem_nil, or_false] at hcm
    rcases hcm with rfl | rfl | rfl | rfl | rfl
    · exact Nat.le_add_right _ _
    · exact Nat.le_add_right _ _
    · exact Nat.le_add_right _ _
    · exact Nat.le_refl _
    · exact Nat.le_add_right _ _
  exact I1.fpOk hle (I1.hok.fresh hle)
end MZ
namespace T
open PySem L2
theorem plain_fold {e : Expr} (h : plainE e = true) (env : PySem.Env) : ∀ x, foldedSetIterable e env x = pure x := by
  intro x
  cases e <;> first
    | rfl
    | (simp [plainE] at h)
/-- an iterator that gives these -/
structure ItOk (c : Cn) (J : It) (F0 : Hp) (xs : List D) (tp : Bool) : Prop where
  go : ∀ i H, Ex F0 H → i < xs.length → J.go i H
  stop : ∀ i H, Ex F0 H → xs.length ≤ i → J.stop i H
  yld : ∀ i H x H' d, Ex F0 H → xs[i]? = some d → J.yld i H x H' → Ex H H' ∧ (if tp then RepW c F0 H' d x else Rep c F0 d x)
section
variable {p : Pg} {C : Ctx} {n : Nat} {N : List Str} {sc own : Scope} {W : WX} {X : Cx} {F F0 F1 F' H H1 H' : Hp} {σ : L2.St} {env env1 : Env} {L L1 : List Addr} {c : Cn} {P : Nat → Bool}
theorem get_of {xs : List D} {vs : List V} (r : Reps c F xs vs) {i : Nat} (h : i < xs.length) : ∃ v, vs[i]? = some v := ⟨_, List.getElem?_eq_getElem (by rw [r.length]; exact h)⟩
theorem rep_at {xs : List D} {vs : List V} (r : Reps c F xs vs) {i : Nat} {d : D} {v : V} (h : xs[i]? = some d) (hv : vs[i]? = some v) : Rep c F d v := by
  obtain ⟨w, h1, h2⟩ := r.get h
  rw [hv] at h1
  cases h1
  exact h2
theorem it_lst {a : Addr} {vs : List V} {xs : List D} {tp : Bool} (h : SqL c.K F0 a vs) (r : Reps c F0 xs vs) : ItOk c (Itl c.K a) F0 xs tp where
  go := fun i H ex hi => by
    obtain ⟨v, hv⟩ := get_of r hi
    exact ⟨vs, v, ex_l ex h, hv⟩
  stop := fun i H ex hi => ⟨vs, ex_l ex h, by rw [r.length]; exact hi⟩
  yld := fun i H x H' d ex hd hy => by
    obtain ⟨rfl, k⟩ := hy
    have rp := rep_at r hd (k vs (ex_l ex h))
    refine ⟨Ex.refl _, ?_⟩
    split
    · exact rp.weak ex
    · exact rp
theorem it_tup {a : Addr} {vs : List V} {xs : List D} {tp : Bool} (h : TupN c.K F0 a vs) (r : Reps c F0 xs vs) : ItOk c (Itt c.K a) F0 xs tp where
  go := fun i H ex hi => by
    obtain ⟨v, hv⟩ := get_of r hi
    exact ⟨vs, v, ex_t ex h, hv⟩
  stop := fun i H ex hi => ⟨vs, ex_t ex h, by rw [r.length]; exact hi⟩
  yld := fun i H x H' d ex hd hy => by
    obtain ⟨rfl, k⟩ := hy
    have rp := rep_at r hd (k vs (ex_t ex h))
    refine ⟨Ex.refl _, ?_⟩
    split
    · exact rp.weak ex
    · exact rp
theorem irange_len : ∀ (m : Nat) (lo : Int), (irange lo m).length = m
  | 0, _ => rfl
  | m + 1, lo => by rw [irange, List.length_cons, irange_len m]
theorem irange_get {m i : Nat} {lo : Int} {d : D} (h : (irange lo m)[i]? = some d) : d = .int (lo + (i : Nat)) ∧ i < m := by
  rw [irange_map, List.getElem?_map] at h
  cases q : (List.range m)[i]? with
  | none => rw [q] at h; cases h
  | some j =>
    rw [q] at h
    cases h
    obtain ⟨h1, h2⟩ := List.getElem?_eq_some_iff.mp q
    simp at h1 h2
    subst h2
    exact ⟨rfl, h1⟩
theorem it_rng {lo : Int} {m : Nat} {tp : Bool} (ht : tp = false) : ItOk c (Itr lo m) F0 (irange lo m) tp where
  go := fun i H ex hi => by rw [irange_len] at hi; exact hi
  stop := fun i H ex hi => by rw [irange_len] at hi; exact hi
  yld := fun i H x H' d ex hd hy => by
    obtain ⟨rfl, rfl⟩ := hy
    obtain ⟨rfl, _⟩ := irange_get hd
    refine ⟨Ex.refl _, ?_⟩
    subst ht
    exact rfl
theorem it_rngW {lo : Int} {m : Nat} {tp : Bool} : ItOk c (Itr lo m) F0 (irange lo m) tp where
  go := fun i H ex hi => by rw [irange_len] at hi; exact hi
  stop := fun i H ex hi => by rw [irange_len] at hi; exact hi
  yld := fun i H x H' d ex hd hy => by
    obtain ⟨rfl, rfl⟩ := hy
    obtain ⟨rfl, _⟩ := irange_get hd
    refine ⟨Ex.refl _, ?_⟩
    split
    · exact rfl
    · exact rfl
theorem zip_len : ∀ (xs ys : List D), (zip2D xs ys).length = min xs.length ys.length
  | [], ys => by simp [zip2D]
  | x :: xs, [] => by simp [zip2D]
  | x :: xs, y :: ys => by
    rw [zip2D, List.length_cons, zip_len xs ys, List.length_cons, List.length_cons]
    omega
theorem zip_get : ∀ {xs ys : List D} {i : Nat} {d : D}, (zip2D xs ys)[i]? = some d → ∃ x y, xs[i]? = some x ∧ ys[i]? = some y ∧ d = .tup [x, y]
  | [], ys, i, d, h => by simp [zip2D] at h
  | x :: xs, [], i, d, h => by simp [zip2D] at h
  | x :: xs, y :: ys, 0, d, h => by
    simp [zip2D] at h
    exact ⟨x, y, rfl, rfl, h.symm⟩
  | x :: xs, y :: ys, i + 1, d, h => by
    obtain ⟨a, b, h1, h2, h3⟩ := zip_get (xs := xs) (ys := ys) (i := i) (by simpa [zip2D] using h)
    exact ⟨a, b, by simpa using h1, by simpa using h2, h3⟩
theorem enum_len : ∀ (xs : List D) (k : Int), (enumD k xs).length = xs.length
  | [], _ => rfl
  | x :: xs, k => by rw [enumD, List.length_cons, enum_len xs, List.length_cons]
theorem enum_get : ∀ {xs : List D} {i : Nat} {k : Int} {d : D}, (enumD k xs)[i]? = some d → ∃ x, xs[i]? = some x ∧ d = .tup [.int (k + (i : Nat)), x]
  | [], i, k, d, h => by simp [enumD] at h
  | x :: xs, 0, k, d, h => by
    simp [enumD] at h
    exact ⟨x, rfl, by rw [← h]; simp⟩
  | x :: xs, i + 1, k, d, h => by
    obtain ⟨a, h1, h2⟩ := enum_get (xs := xs) (i := i) (k := k + 1) (by simpa [enumD] using h)
    refine ⟨a, by simpa using h1, ?_⟩
    rw [h2]
    congr 3
    push_cast
    omega
theorem new_pair {H : Hp} {t : Addr} {x y : V} (h : H t = none) (K : PySem.W.Frag) : Ex H (upd H t (.tup [x, y])) ∧ SqT K (upd H t (.tup [x, y])) t [x, y] := ⟨Ex.new h, .inl (.inl upd_same)⟩
/-- a tuple or a list, frozen -/
def SqF (k : Bool) (K : PySem.W.Frag) (F : Hp) (a : Addr) (vs : List V) : Prop := if k then SqL K F a vs else TupN K F a vs
theorem sqF_v {k : Bool} {K : PySem.W.Frag} {a : Addr} {vs : List V} (ex : Ex F H) (h : SqF k K F a vs) : MZ.SqV k K H a vs := by
  cases k
  · exact ex_t ex h
  · exact ex_l ex h
theorem it_zipG {k k' : Bool} {a b : Addr} {vs ws : List V} {xs ys : List D} (h : SqF k c.K F0 a vs) (r : Reps c F0 xs vs) (h2 : SqF k' c.K F0 b ws) (r2 : Reps c F0 ys ws) : ItOk c (MZ.ItzG k k' c.K a b) F0 (zip2D xs ys) true where
  go := fun i H ex hi => by
    rw [zip_len] at hi
    obtain ⟨v, hv⟩ := get_of r (i := i) (by omega)
    obtain ⟨w, hw⟩ := get_of r2 (i := i) (by omega)
    exact ⟨vs, ws, v, w, sqF_v ex h, sqF_v ex h2, hv, hw⟩
  stop := fun i H ex hi => by
    rw [zip_len] at hi
    refine ⟨vs, ws, sqF_v ex h, sqF_v ex h2, ?_⟩
    rw [r.length, r2.length]
    omega
  yld := fun i H x H' d ex hd hy => by
    obtain ⟨T0, v, w, rfl, e1, rfl, k1, k2⟩ := hy
    obtain ⟨dx, dy, g1, g2, rfl⟩ := zip_get hd
    have q1 := rep_at r g1 (k1 vs (sqF_v ex h))
    have q2 := rep_at r2 g2 (k2 ws (sqF_v ex h2))
    obtain ⟨m1, m2⟩ := new_pair (x := v) (y := w) e1 c.K
    exact ⟨m1, ⟨T0, [v, w], rfl, m2, ⟨v, [w], rfl, q1, ⟨w, [], rfl, q2, rfl⟩⟩⟩⟩
theorem seqOf_rep {d : D} {xs : List D} (h : seqOf d = some xs) : ∃ k, ∀ {F : Hp} {v : V}, Rep c F d v → ∃ a vs, v = .ref a ∧ SqF k c.K F a vs ∧ Reps c F xs vs := by
  cases d <;> first
    | (cases (show (none : Option (List D)) = some xs from h); done)
    | skip
  · cases h
    exact ⟨false, fun {F v} r => r⟩
  · cases h
    exact ⟨true, fun {F v} r => r⟩
theorem it_enumL {a : Addr} {vs : List V} {xs : List D} (h : SqL c.K F0 a vs) (r : Reps c F0 xs vs) : ItOk c (Ite c.K a) F0 (enumD 0 xs) true where
  go := fun i H ex hi => by
    rw [enum_len] at hi
    obtain ⟨v, hv⟩ := get_of r hi
    exact ⟨vs, v, ex_l ex h, hv⟩
  stop := fun i H ex hi => by
    rw [enum_len] at hi
    exact ⟨vs, ex_l ex h, by rw [r.length]; exact hi⟩
  yld := fun i H x H' d ex hd hy => by
    obtain ⟨T0, v, rfl, e1, rfl, k1⟩ := hy
    obtain ⟨dx, g1, rfl⟩ := enum_get hd
    have q1 := rep_at r g1 (k1 vs (ex_l ex h))
    obtain ⟨m1, m2⟩ := new_pair (x := .int (i : Nat)) (y := v) e1 c.K
    refine ⟨m1, ⟨T0, [.int (i : Nat), v], rfl, m2, ⟨.int (i : Nat), [v], rfl, ?_, ⟨v, [], rfl, q1, rfl⟩⟩⟩⟩
    show V.int _ = V.int _
    rw [Int.zero_add]
/-- what is walked, by the values of its parts -/
theorem it_ok (T : Top p C) (G : Good p n N sc W X) {tg : Tg} {etg e : Expr} (htg : okTg N own tg etg = true) {k : ItK} {eas : List Expr} (hp : itParts sc tg.isTp k e = some eas) (pl : eas.all plainE = true) {ds xs : List D} (hd : iterD k ds = some xs) :
    ∃ wi : TI, PI X etg e wi ∧ plainE e = true ∧ ∀ {σ : L2.St} {H : Hp} {R : It → Hp → Prop}, T0L X eas σ H (fun vs H1 => ∃ F0, Ex F0 H1 ∧ Reps p.c F0 ds vs ∧ ∀ J, ItOk p.c J F0 xs tg.isTp → R J H1) → wi σ H R := by
  have tpE : tg.isTp = true → ∃ elts kk tpos, etg = .Tuple elts kk tpos := fun h => by
    cases tg with
    | nm i => exact Bool.noConfusion (show false = true from h)
    | tp ts =>
      cases etg <;> first
        | (exact Bool.noConfusion (show false = true from htg))
        | exact ⟨_, _, _, rfl⟩
  unfold itParts at hp
  split at hp
  · -- one sequence
    cases hp
    simp only [List.all_cons, List.all_nil, Bool.and_true] at pl
    cases ds with
    | nil => cases hd
    | cons d ds =>
      cases ds with
      | cons _ _ => cases hd
      | nil =>
        cases d <;> first
          | (cases (show (none : Option (List D)) = some xs from hd); done)
          | skip
        · rename_i ys
          cases hd
          refine ⟨_, pi_tup pe0, pl, fun {σ H R} h => ?_⟩
          refine T0.mono h fun v H1 hh => ?_
          obtain ⟨F0, ex, ⟨v', r', e', ⟨a, vs, rfl, h1, h2⟩, _⟩, k⟩ := hh
          cases e'
          refine ⟨a, rfl, ⟨vs, by rw [G.K]; exact ex_t ex h1⟩, ?_⟩
          rw [G.K]
          exact k _ (it_tup h1 h2)
        · rename_i ys
          cases hd
          refine ⟨_, pi_list pe0, pl, fun {σ H R} h => ?_⟩
          refine T0.mono h fun v H1 hh => ?_
          obtain ⟨F0, ex, ⟨v', r', e', ⟨a, vs, rfl, h1, h2⟩, _⟩, k⟩ := hh
          cases e'
          refine ⟨a, rfl, ⟨vs, by rw [G.K]; exact ex_l ex h1⟩, ?_⟩
          rw [G.K]
          exact k _ (it_lst h1 h2)
  · -- range(j)
    split at hp <;> cases hp
    rename_i hg
    simp only [Bool.and_eq_true] at hg
    obtain rfl := eq_of_beq hg.1
    obtain ⟨g1, g2, g3⟩ := G.gl hg.2
    simp only [List.all_cons, List.all_nil, Bool.and_true] at pl
    cases ds with
    | nil => cases hd
    | cons d ds =>
      cases ds with
      | cons _ _ => cases d <;> cases hd
      | nil =>
        cases d <;> first
          | (cases (show (none : Option (List D)) = some xs from hd); done)
          | skip
        rename_i j
        unfold iterD at hd
        dsimp only at hd
        split at hd <;> cases hd
        rename_i hr
        unfold rngOk at hr
        simp only [Bool.and_eq_true, decide_eq_true_eq] at hr
        refine ⟨_, pi_range1 g1 (by rw [G.mg]; exact T.blt _ (bln _)) pa0 (plain_star pl), rfl, fun {σ H R} h => ?_⟩
        refine T0A.mono (T0L.args (by simp [pl]) h) fun vs H1 hh => ?_
        obtain ⟨F0, ex, ⟨v', r', e', h1, h2⟩, k⟩ := hh
        cases e'
        rw [show r' = [] from h2]
        exact ⟨j, by rw [show v' = .int j from h1], hr.1, hr.2, k _ it_rngW⟩
  · -- range(i, j)
    split at hp <;> cases hp
    rename_i hg
    simp only [Bool.and_eq_true] at hg
    obtain rfl := eq_of_beq hg.1
    obtain ⟨g1, g2, g3⟩ := G.gl hg.2
    have pl' := pl
    simp only [List.all_cons, List.all_nil, Bool.and_true, Bool.and_eq_true] at pl
    cases ds with
    | nil => cases hd
    | cons d ds =>
      cases ds with
      | nil => cases d <;> cases hd
      | cons d2 ds =>
        cases ds with
        | cons _ _ => cases d <;> cases d2 <;> cases hd
        | nil =>
          cases d <;> first
            | (cases (show (none : Option (List D)) = some xs from hd); done)
            | skip
          cases d2 <;> first
            | (cases (show (none : Option (List D)) = some xs from hd); done)
            | skip
          rename_i i j
          unfold iterD at hd
          dsimp only at hd
          split at hd <;> cases hd
          rename_i hr
          unfold rngOk at hr
          simp only [Bool.and_eq_true, decide_eq_true_eq] at hr
          refine ⟨_, pi_range2 g1 (by rw [G.mg]; exact T.blt _ (bln _)) pa0 (by rw [plain_star pl.1, plain_star pl.2]; rfl) (plain_star pl.2), rfl, fun {σ H R} h => ?_⟩
          refine T0A.mono (T0L.args pl' h) fun vs H1 hh => ?_
          obtain ⟨F0, ex, ⟨v', r', e', h1, ⟨v2, r2, e2, h2, h3⟩⟩, k⟩ := hh
          cases e'
          cases e2
          rw [show r2 = [] from h3]
          exact ⟨i, j, by rw [show v' = .int i from h1, show v2 = .int j from h2], ⟨hr.1.1, hr.1.2, hr.2.1, hr.2.2⟩, k _ it_rngW⟩
  · -- zip
    split at hp <;> cases hp
    rename_i hg
    simp only [Bool.and_eq_true] at hg
    obtain rfl := eq_of_beq hg.1.2
    obtain ⟨elts, kk, tpos, rfl⟩ := tpE hg.1.1
    obtain ⟨g1, g2, g3⟩ := G.gl hg.2
    have pl' := pl
    simp only [List.all_cons, List.all_nil, Bool.and_true, Bool.and_eq_true] at pl
    cases ds with
    | nil => cases hd
    | cons d ds =>
      cases ds with
      | nil => cases hd
      | cons d2 ds =>
        cases ds with
        | cons _ _ => cases hd
        | nil =>
          unfold iterD at hd
          dsimp only at hd
          cases h1 : seqOf d with
          | none => rw [h1] at hd; cases hd
          | some us =>
            cases h2 : seqOf d2 with
            | none => rw [h1, h2] at hd; cases hd
            | some us2 =>
              rw [h1, h2] at hd
              cases hd
              obtain ⟨k1, q1⟩ := seqOf_rep (c := p.c) h1
              obtain ⟨k2, q2⟩ := seqOf_rep (c := p.c) h2
              refine ⟨_, MZ.pi_zipG (k := k1) (k' := k2) g1 (by rw [G.mg]; exact T.blt _ (bln _)) pa0 (plain_star pl.1) (plain_any (by simp [pl.2])), rfl, fun {σ H R} h => ?_⟩
              refine T0A.mono (T0L.args pl' h) fun vs H1 hh => ?_
              obtain ⟨F0, ex, ⟨v', r', e', m1, ⟨v2, r2, e2, m2, m3⟩⟩, k⟩ := hh
              cases e'
              cases e2
              rw [show r2 = [] from m3]
              obtain ⟨a, ws, rfl, s1, t1⟩ := q1 m1
              obtain ⟨b, ws2, rfl, s2, t2⟩ := q2 m2
              refine ⟨a, b, ws, ws2, rfl, by rw [G.K]; exact sqF_v ex s1, by rw [G.K]; exact sqF_v ex s2, ?_⟩
              rw [G.K]
              rw [hg.1.1] at k
              exact k _ (it_zipG s1 t1 s2 t2)
  · -- enumerate
    split at hp <;> cases hp
    rename_i hg
    simp only [Bool.and_eq_true] at hg
    obtain rfl := eq_of_beq hg.1.2
    obtain ⟨elts, kk, tpos, rfl⟩ := tpE hg.1.1
    obtain ⟨g1, g2, g3⟩ := G.gl hg.2
    have pl' := pl
    simp only [List.all_cons, List.all_nil, Bool.and_true] at pl
    cases ds with
    | nil => cases hd
    | cons d ds =>
      cases ds with
      | cons _ _ => cases d <;> cases hd
      | nil =>
        cases d <;> first
          | (cases (show (none : Option (List D)) = some xs from hd); done)
          | skip
        rename_i ys
        cases hd
        refine ⟨_, pi_enum g1 (by rw [G.mg]; exact T.blt _ (bln _)) pa0 (plain_star pl), rfl, fun {σ H R} h => ?_⟩
        refine T0A.mono (T0L.args pl' h) fun vs H1 hh => ?_
        obtain ⟨F0, ex, ⟨v', r', e', ⟨a, ws, rfl, h1, h2⟩, h3⟩, k⟩ := hh
        cases e'
        rw [show r' = [] from h3]
        refine ⟨a, ws, rfl, by rw [G.K]; exact ex_l ex h1, ?_⟩
        rw [G.K]
        rw [hg.1.1] at k
        exact k _ (it_enumL h1 h2)
  · cases hp
end
end T
namespace T
open PySem L2
section
variable {p : Pg} {C : Ctx} {n : Nat} {N : List Str} {sc : Scope} {W : WX} {X : Cx} {F F0 F1 F' H H1 H' Fa Ha : Hp} {σ σ2 : L2.St} {env env1 : Env} {L L1 La : List Addr} {c : Cn} {P : Nat → Bool} {own : List Nat} {D : Addr}
theorem wipe_in {i : Nat} : ∀ {vs : List Nat}, i ∈ vs → i < σ.length → (wipe σ vs)[i]? = some none
  | [], h, _ => absurd h (by simp)
  | j :: vs, h, hl => by
    unfold wipe
    by_cases e : j = i
    · subst e
      rw [List.getElem?_set_self (by rw [wipe_length]; exact hl)]
    · rw [List.getElem?_set_ne e]
      exact wipe_in (by
        rcases List.mem_cons.mp h with q | q
        · exact absurd q.symm e
        · exact q) hl
theorem Cfg.wipe (g : Cfg c F H σ env L) : ∀ own : List Nat, ∃ L2, Cfg c F H (_root_.L2.wipe σ own) (wipeE env own) L2 ∧ ∀ a ∈ L2, a ∈ L
  | [] => ⟨L, g, fun _ h => h⟩
  | i :: own => by
    obtain ⟨L2, g2, s2⟩ := g.wipe own
    unfold _root_.L2.wipe wipeE
    by_cases hi : i < env.length
    · obtain ⟨L3, g3, s3⟩ := g2.setD (i := i) (o := none) (x := none) (M := []) (by rw [wipeE_len]; exact hi) rfl List.nodup_nil (fun _ h => absurd h (by simp)) fun _ h => absurd h (by simp)
      exact ⟨L3, g3, fun a ha => s2 a ((s3 a ha).elim id fun h => absurd h (by simp))⟩
    · rw [List.set_eq_of_length_le (by rw [wipe_length, g.len]; omega), List.set_eq_of_length_le (by rw [wipeE_len]; omega)]
      exact ⟨L2, g2, s2⟩
theorem wipe_ext {own : List Nat} (hl : σ2.length = σ.length) (h : ∀ i, i ∉ own → σ2[i]? = σ[i]?) : wipe σ2 own = wipe σ own := by
  refine List.ext_getElem? fun i => ?_
  by_cases hi : i ∈ own
  · by_cases hlt : i < σ.length
    · rw [wipe_in hi hlt, wipe_in hi (by omega)]
    · rw [List.getElem?_eq_none (by rw [wipe_length]; omega), List.getElem?_eq_none (by rw [wipe_length]; omega)]
  · rw [wipe_out hi, wipe_out hi, h i hi]
theorem wipe_idem : wipe (wipe σ own) own = wipe σ own := wipe_ext (wipe_length σ own) fun i hi => wipe_out hi
/-- the block's state: the frame, and beside it the list that grows -/
def BlkS (c : Cn) (Fa Ha : Hp) (La : List Addr) (D : Addr) (σ : L2.St) (F H : Hp) (env : Env) (acc : List O) : Prop :=
  ∃ L vs Lacc, Cfg c F H σ env L ∧ H D = some (.lst vs) ∧ RepOs c F H acc vs Lacc ∧ (L ++ D :: Lacc).Nodup ∧ (∀ a ∈ D :: Lacc, F a = none) ∧ After Fa Ha La F H (L ++ D :: Lacc)
theorem BlkS.wipe {acc : List O} (b : BlkS c Fa Ha La D σ F H env acc) (own : List Nat) : BlkS c Fa Ha La D (_root_.L2.wipe σ own) F H (wipeE env own) acc := by
  obtain ⟨L, vs, Lacc, g, h1, h2, h3, h4, h5⟩ := b
  obtain ⟨L2, g2, s2⟩ := g.wipe own
  have nd := List.nodup_append.mp h3
  refine ⟨L2, vs, Lacc, g2, h1, h2, List.nodup_append.mpr ⟨g2.nd, nd.2.1, fun x hx y hy e => nd.2.2 x (s2 x hx) y hy e⟩, h4, h5.sub fun a ha => ?_⟩
  rcases List.mem_append.mp ha with z | z
  · exact List.mem_append_left _ (s2 a z)
  · exact List.mem_append_right _ z
theorem BlkS.more {acc : List O} (b : BlkS c Fa Ha La D σ F H env acc) (e : Ex H H') : BlkS c Fa Ha La D σ F H' env acc := by
  obtain ⟨L, vs, Lacc, g, h1, h2, h3, h4, h5⟩ := b
  refine ⟨L, vs, Lacc, ⟨g.ex.trans e, RepE.mono (Ex.refl F) (fun a _ u q => e a u q) g.rep, g.nd, g.ow⟩, e _ _ h1, RepOs.mono (Ex.refl F) (fun a _ u q => e a u q) h2, h3, h4, ?_⟩
  refine ⟨h5.fs, fun a o q m => e a o (h5.fr a o q m), fun a ha => ?_, h5.lo, h5.fn⟩
  cases q : H a with
  | none => exact absurd q (h5.dm a ha)
  | some u => rw [e a u q]; simp
theorem RepOs.hold {os : List O} {vs : List V} {M Lb Lr : List Addr} (a : After F H Lb F1 H1 Lr) (h : RepOs c F H os vs M) (d : ∀ x ∈ M, x ∉ Lb) (ow : ∀ x ∈ M, F x = none) : RepOs c F1 H1 os vs M ∧ (∀ x ∈ M, x ∉ Lr) ∧ ∀ x ∈ M, F1 x = none := by
  refine ⟨RepOs.mono a.fs (fun x hx u e => a.fr x u e (d x hx)) h, fun x hx m => ?_, fun x hx => ?_⟩
  · rcases a.lo x m with q | q
    · exact d x hx q
    · exact h.dom x hx q
  · cases e : F1 x with
    | none => rfl
    | some u =>
      rcases a.fn x (by rw [e]; simp) with q | q | q
      · exact absurd (ow x hx) q
      · exact absurd q (d x hx)
      · exact absurd q (h.dom x hx)
/-- a step within the block -/
theorem BlkS.step {acc : List O} (b : BlkS c Fa Ha La D σ F H env acc) (k : ∀ L, Cfg c F H σ env L → ∃ F1 H1 L1, After F H L F1 H1 L1 ∧ Cfg c F1 H1 σ2 env1 L1) : True := trivial
/-- what stands beside -/
theorem beside_acc {acc : List O} {vs : List V} {Lacc Lr : List Addr} (h1 : H D = some (.lst vs)) (h2 : RepOs c F H acc vs Lacc) (h3 : (L ++ D :: Lacc).Nodup) (h4 : ∀ a ∈ D :: Lacc, F a = none) (a : After F H L F1 H1 Lr) :
    H1 D = some (.lst vs) ∧ RepOs c F1 H1 acc vs Lacc ∧ (∀ x ∈ D :: Lacc, x ∉ Lr) ∧ (∀ x ∈ D :: Lacc, F1 x = none) ∧ After F H (L ++ D :: Lacc) F1 H1 (Lr ++ D :: Lacc) := by
  have nd := List.nodup_append.mp h3
  have dis : ∀ x ∈ D :: Lacc, x ∉ L := fun x hx m => nd.2.2 x m x hx rfl
  obtain ⟨k1, k2, k3⟩ := RepOs.hold a h2 (fun x hx => dis x (List.mem_cons_of_mem _ hx)) fun x hx => h4 x (List.mem_cons_of_mem _ hx)
  have dD := dis D List.mem_cons_self
  refine ⟨a.fr D _ h1 dD, k1, fun x hx m => ?_, fun x hx => ?_, ?_⟩
  · rcases List.mem_cons.mp hx with z | z
    · subst z
      rcases a.lo x m with q | q
      · exact dD q
      · rw [h1] at q; cases q
    · exact k2 x z m
  · rcases List.mem_cons.mp hx with z | z
    · subst z
      cases e : F1 x with
      | none => rfl
      | some u =>
        rcases a.fn x (by rw [e]; simp) with q | q | q
        · exact absurd (h4 x List.mem_cons_self) q
        · exact absurd q dD
        · rw [h1] at q; cases q
    · exact k3 x z
  · refine ⟨a.fs, fun x o e m => a.fr x o e fun z => m (List.mem_append_left _ z), a.dm, fun x hx => ?_, fun x hx => ?_⟩
    · rcases List.mem_append.mp hx with z | z
      · exact (a.lo x z).imp (fun q => List.mem_append_left _ q) id
      · exact .inl (List.mem_append_right _ z)
    · exact (a.fn x hx).imp id fun z => z.imp (fun q => List.mem_append_left _ q) id
theorem BlkS.skip {acc : List O} (b : BlkS c Fa Ha La D σ F H env acc) : ∃ L, Cfg c F H σ env L ∧ ∀ {F1 H1 L1 σ2 env1}, After F H L F1 H1 L1 → Cfg c F1 H1 σ2 env1 L1 → BlkS c Fa Ha La D σ2 F1 H1 env1 acc := by
  obtain ⟨L, vs, Lacc, g, h1, h2, h3, h4, h5⟩ := b
  refine ⟨L, g, fun {F1 H1 L1 σ2 env1} a g1 => ?_⟩
  obtain ⟨k1, k2, k3, k4, k5⟩ := beside_acc h1 h2 h3 h4 a
  exact ⟨L1, vs, Lacc, g1, k1, k2, List.nodup_append.mpr ⟨g1.nd, (List.nodup_append.mp h3).2.1, fun x hx y hy e => k3 y hy (e ▸ hx)⟩, k4, h5.trans k5⟩
theorem BlkS.put {acc : List O} (b : BlkS c Fa Ha La D σ F H env acc) : ∃ L, Cfg c F H σ env L ∧ ∀ {F1 H1 L1 Lv o y env1}, After F H L F1 H1 (L1 ++ Lv) → Cfv c F1 H1 σ env1 L1 o y Lv →
    ∃ vs, H1 D = some (.lst vs) ∧ vs.length = acc.length ∧ BlkS c Fa Ha La D σ F1 (upd H1 D (.lst (vs ++ [y]))) env1 (acc ++ [o]) := by
  obtain ⟨L, vs, Lacc, g, h1, h2, h3, h4, h5⟩ := b
  refine ⟨L, g, fun {F1 H1 L1 Lv o y env1} a cf => ?_⟩
  obtain ⟨k1, k2, k3, k4, k5⟩ := beside_acc h1 h2 h3 h4 a
  have ndA := (List.nodup_append.mp h3).2.1
  have nD := (List.nodup_cons.mp ndA).1
  have ndv := List.nodup_append.mp cf.nd
  have dD : D ∉ L1 ++ Lv := k3 D List.mem_cons_self
  have keep : ∀ x, x ≠ D → ∀ u, H1 x = some u → (upd H1 D (.lst (vs ++ [y]))) x = some u := fun x hx u e => by rw [upd_ne hx]; exact e
  have fD : F1 D = none := k4 D List.mem_cons_self
  refine ⟨vs, k1, h2.length, L1, vs ++ [y], Lacc ++ Lv, ⟨fun x u e => ?_, RepE.mono (Ex.refl F1) (fun x hx u e => keep x (fun z => dD (List.mem_append_left _ (z ▸ hx))) u e) cf.cfg.rep, cf.cfg.nd, cf.cfg.ow⟩, upd_same, ?_, ?_, fun x hx => ?_, ?_⟩
  · exact keep x (fun z => by rw [z, fD] at e; cases e) u (cf.cfg.ex x u e)
  · refine RepOs.append (RepOs.mono (Ex.refl F1) (fun x hx u e => keep x (fun z => nD (z ▸ hx)) u e) k2) ⟨y, [], Lv, [], rfl, RepO.mono (Ex.refl F1) (fun x hx u e => keep x (fun z => dD (List.mem_append_right _ (z ▸ hx))) u e) cf.val, ⟨rfl, rfl⟩, by simp⟩
  · refine List.nodup_append.mpr ⟨ndv.1, List.nodup_cons.mpr ⟨fun m => ?_, List.nodup_append.mpr ⟨(List.nodup_cons.mp ndA).2, ndv.2.1, fun x hx z hz e => k3 x (List.mem_cons_of_mem _ hx) (List.mem_append_right _ (e ▸ hz))⟩⟩, fun x hx z hz e => ?_⟩
    · rcases List.mem_append.mp m with q | q
      · exact nD q
      · exact dD (List.mem_append_right _ q)
    · subst e
      rcases List.mem_cons.mp hz with q | q
      · exact dD (List.mem_append_left _ (q ▸ hx))
      · rcases List.mem_append.mp q with q | q
        · exact k3 x (List.mem_cons_of_mem _ q) (List.mem_append_left _ hx)
        · exact ndv.2.2 x hx x q rfl
  · rcases List.mem_cons.mp hx with q | q
    · rw [q]; exact fD
    · rcases List.mem_append.mp q with q | q
      · exact k4 x (List.mem_cons_of_mem _ q)
      · exact cf.ow x q
  · refine ((h5.trans k5).trans (After.write (L := (L1 ++ Lv) ++ D :: Lacc) (a := D) (o := .lst (vs ++ [y])) (by simp) fun x hx => ?_))
    rcases List.mem_append.mp hx with q | q
    · exact List.mem_append_left _ (List.mem_append_left _ q)
    · rcases List.mem_cons.mp q with q | q
      · exact List.mem_append_right _ (q ▸ List.mem_cons_self)
      · rcases List.mem_append.mp q with q | q
        · exact List.mem_append_right _ (List.mem_cons_of_mem _ q)
        · exact List.mem_append_left _ (List.mem_append_right _ q)
theorem RepW.mono (e : Ex F F') {d : T.D} {v : V} (h : RepW c F H d v) : RepW c F' H d v := by
  cases d <;> first
    | exact Rep.mono e h
    | skip
  obtain ⟨a, vs, q1, q2, q3⟩ := h
  exact ⟨a, vs, q1, q2, Reps.mono e q3⟩
/-- the turns of a comprehension's loop -/
theorem lc_turns {J : It} {xs : List T.D} {tp : Bool} {own : List Nat} {tg : Tg} {test : Env → Oc Bool} {elt : List O → Env → Oc (List O)} {g : TG} {tt : TT} {B : L2.St → Hp → (Hp → Prop) → Prop} {accF : List O} {envF : Env} {Fin : Hp → Prop} {Fx : Hp}
    (io : ItOk c J Fx xs tp) (htp : tp = tg.isTp) (fx : ∀ {σ F H env acc}, BlkS c Fa Ha La D σ F H env acc → Ex Fx F)
    (hg : ∀ {F H env env1 L σ v Q d}, assignD (fun i => !own.contains i) tg d env = some env1 → Cfg c F H σ env L → (if tg.isTp then RepW c F H d v else Rep c F d v) → TgtP c F H L σ env1 (fun i => !own.contains i) Q → g v σ H Q)
    (ht : ∀ {F H env env1 L σ b} {Q : Bool → Hp → Prop}, test env = some (.ok b, env1) → Cfg c F H σ env L → TstP c F H L σ env1 b Q → tt σ H Q)
    (hB : ∀ {F H env env1 acc acc1 σ2} {Nx : Hp → Prop}, wipe σ2 own = wipe σ own → elt acc env = some (.ok acc1, env1) → BlkS c Fa Ha La D σ2 F H env acc → (∀ F1 H1 σ3, wipe σ3 own = wipe σ own → BlkS c Fa Ha La D σ3 F1 H1 env1 acc1 → Nx H1) → B σ2 H Nx)
    (fin : ∀ F H σ3, wipe σ3 own = wipe σ own → BlkS c Fa Ha La D σ3 F H envF accF → Fin H)
    {acc0 : List O} {env0 : Env} {F0 H0 : Hp} (st : BlkS c Fa Ha La D σ F0 H0 env0 acc0) (ev : lcLoop (fun i => !own.contains i) own tg test elt xs acc0 env0 = some (.ok accF, envF)) :
    ∃ W : Nat → Nat → Hp → Prop, (∃ m, W 0 m H0) ∧ ∀ i m H, W i m H → (J.stop i H ∧ Fin H) ∨ (J.go i H ∧ ∃ Nx : Hp → Prop, (∀ H', Nx H' → ∃ m', m' < m ∧ W (i + 1) m' H') ∧ ∀ x H', J.yld i H x H' → g x (wipe σ own) H' fun σ2 H2 => wipe σ2 own = wipe σ own ∧ tt σ2 H2 fun b H3 => if b = true then B σ2 H3 Nx else Nx H3) := by
  refine ⟨fun i m H => m = xs.length - i ∧ ∃ F σ3 env acc, wipe σ3 own = wipe σ own ∧ BlkS c Fa Ha La D σ3 F H env acc ∧ lcLoop (fun i => !own.contains i) own tg test elt (xs.drop i) acc env = some (.ok accF, envF), ⟨_, rfl, F0, σ, env0, acc0, rfl, st, by simpa using ev⟩, ?_⟩
  rintro i m H ⟨rfl, F, σ3, env, acc, hw, bs, ev⟩
  obtain ⟨L, vs, Lacc, g0, _⟩ := id bs
  have exH : Ex Fx H := (fx bs).trans g0.ex
  by_cases hi : i < xs.length
  · right
    refine ⟨io.go i H exH hi, fun H' => ∃ F σ3 env acc, wipe σ3 own = wipe σ own ∧ BlkS c Fa Ha La D σ3 F H' env acc ∧ lcLoop (fun i => !own.contains i) own tg test elt (xs.drop (i + 1)) acc env = some (.ok accF, envF), fun H' nx => ⟨_, by omega, rfl, nx⟩, fun x H' hy => ?_⟩
    have hx : xs[i]? = some xs[i] := List.getElem?_eq_getElem hi
    obtain ⟨e1, rp⟩ := io.yld i H x H' xs[i] exH hx hy
    rw [List.drop_eq_getElem_cons hi] at ev
    unfold lcLoop at ev
    cases h1 : assignD (fun i => !own.contains i) tg xs[i] (wipeE env own) with
    | none => rw [h1] at ev; cases ev
    | some env1 =>
      rw [h1] at ev
      dsimp only at ev
      have bs1 := (bs.wipe own).more e1
      rw [hw] at bs1
      have fx1 := fx bs1
      obtain ⟨L1, g1, k1⟩ := bs1.skip
      refine hg h1 g1 ?_ fun σ2 L2 g2 s2 ag lg => ?_
      · subst htp
        cases hh : tg.isTp with
        | true =>
          rw [hh] at rp
          exact RepW.mono fx1 (show RepW c Fx H' xs[i] x from rp)
        | false =>
          rw [hh] at rp
          exact Rep.mono fx1 rp
      · have hw2 : wipe σ2 own = wipe σ own := by
          rw [← wipe_idem (σ := σ)]
          exact wipe_ext lg fun j hj => ag j (by simpa using hj)
        refine ⟨hw2, ?_⟩
        have a2 : After F H' L1 F H' L2 := (After.refl F H' L1).sub s2
        cases h2 : test env1 with
        | none => rw [h2] at ev; cases ev
        | some y =>
          obtain ⟨r, env2⟩ := y
          rw [h2] at ev
          cases r with
          | error x => cases ev
          | ok b =>
            refine ht h2 g2 fun F3 H3 L3 a3 g3 => ?_
            have bs3 := k1 (a2.trans a3) g3
            cases b with
            | false => exact ⟨F3, σ2, env2, acc, hw2, bs3, ev⟩
            | true =>
              dsimp only at ev
              cases h4 : elt acc env2 with
              | none => rw [h4] at ev; cases ev
              | some y =>
                obtain ⟨r, env3⟩ := y
                rw [h4] at ev
                cases r with
                | error x => cases ev
                | ok acc1 => exact hB hw2 h4 bs3 fun F5 H5 σ5 hw5 bs5 => ⟨F5, σ5, env3, acc1, hw5, bs5, ev⟩
  · left
    rw [List.drop_eq_nil_of_le (by omega)] at ev
    cases ev
    exact ⟨io.stop i H exH (by omega), fin F H σ3 hw bs⟩
end
end T
namespace T
open PySem L2
section
variable {p : Pg} {C : Ctx} {n : Nat} {N : List Str} {sc : Scope} {W : WX} {X : Cx} {F F0 F1 F' H H1 H' Fa Ha : Hp} {σ σ2 : L2.St} {Q : VK} {env env1 env2 envF : Env} {L L1 La : List Addr} {c : Cn} {P : Nat → Bool} {own : List Nat}
abbrev bX (X : Cx) (scope : Scope) (s : Shared) (H0 : Hp) (A : Addr) (cl : List (Str × Addr)) (fp : List Addr) : Cx := X.blk s H0 scope (PySem.compEnvC scope cl A X.env) fp
theorem Good.blk (G : Good p n N sc W X) (scope : Scope) (s : Shared) (H0 : Hp) (A : Addr) (cl : List (Str × Addr)) (fp : List Addr) : Good p n N (relS scope sc) (fun _ _ _ _ => False) (bX X scope s H0 A cl fp) where
  prog := G.prog
  w := G.w
  K := G.K
  mg := G.mg
  base := G.base
  N := G.N
  nd := G.nd
  sc := by
    show PySem.relabel scope X.env = relS scope sc
    rw [← G.sc]
    rfl
  calm := G.calm
  room := G.room
  pass := PassesOwn.never
  takes := fun u s' x => by
    obtain ⟨_, _, _, _, _, _, _, _, _, _, _, _, _, _, _, _, w⟩ := x
    exact w.elim
def tIfs (X : Cx) : List Expr → TT
  | [] => fun _ H Q => Q true H
  | [e] => T0T X e
  | _ => fun _ _ _ => False
theorem pts_ok : ∀ {ifs : List Expr}, PTs X ifs (tIfs X ifs)
  | [] => ⟨fun pins s σ H Q I h => pts_nil.run pins s σ H Q I h⟩
  | [e] => pts_one pt0
  | _ :: _ :: _ => ⟨fun pins s σ H Q I h => h.elim⟩
/-- the tests of a comprehension -/
def SI (p : Pg) (C : Ctx) (n : Nat) (N : List Str) (es : Es) : Prop := ∀ {sc : Scope} {W : WX} {X : Cx} {σ : L2.St} {F H : Hp} {L : List Addr} {env env1 : Env} {b : Bool} {eas : List Expr} {Q : Bool → Hp → Prop}, Good p n N sc W X → Cfg p.c F H σ env L → okEs p.y N sc es eas = true → eas.length ≤ 1 → evalIfs C es env = some (.ok b, env1) → TstP p.c F H L σ env1 b Q → tIfs X eas σ H Q
theorem si_nil : SI p C n N .nil := by
  intro sc W X σ F H L env env1 b eas Q G g hk _ ev q
  cases eas with
  | cons _ _ => simp [okEs] at hk
  | nil =>
    cases ev
    exact q F H L (.refl F H L) g
theorem si_cons (T : Top p C) {e : E} {es : Es} (st : ST p C n N e) : SI p C n N (.cons e es) := by
  intro sc W X σ F H L env env1 b eas Q G g hk hl ev q
  cases eas with
  | nil => simp [okEs] at hk
  | cons ea eas =>
    cases eas with
    | cons _ _ => simp at hl
    | nil =>
      have hk' : (okE p.y N sc e ea = true ∧ plainE ea = true) ∧ okEs p.y N sc es [] = true := by simpa [okEs, Bool.and_eq_true] using hk
      cases es with
      | cons _ _ => exact absurd hk'.2 (by simp [okEs])
      | nil =>
        unfold evalIfs at ev
        cases h : argOf C e (evalE C e env) env with
        | none => rw [h] at ev; cases ev
        | some y =>
          obtain ⟨r, env2⟩ := y
          rw [h] at ev
          cases r with
          | error x => cases ev
          | ok x =>
            dsimp only at ev
            cases h2 : truthOf env2 x with
            | none => rw [h2] at ev; cases ev
            | some k =>
              rw [h2] at ev
              have hb : b = k ∧ env1 = env2 := by
                cases k with
                | true =>
                  dsimp only at ev
                  unfold evalIfs at ev
                  cases ev
                  exact ⟨rfl, rfl⟩
                | false =>
                  cases ev
                  exact ⟨rfl, rfl⟩
              obtain ⟨rfl, rfl⟩ := hb
              exact (st.arg T G g hk'.1.1).1 x _ b h h2 q
/-- an iterator over what is known of its parts -/
def iG (X : Cx) (c : Cn) (k : ItK) (tp : Bool) (eas : List Expr) : TI := fun σ H R => ∃ ds xs, iterD k ds = some xs ∧ T0L X eas σ H fun vs H1 => ∃ F0, Ex F0 H1 ∧ Reps c F0 ds vs ∧ ∀ J, ItOk c J F0 xs tp → R J H1
theorem pi_iG (T : Top p C) (G : Good p n N sc W X) {osc : Scope} {tg : Tg} {etg e : Expr} (htg : okTg N osc tg etg = true) {k : ItK} {eas : List Expr} (hp : itParts sc tg.isTp k e = some eas) (pl : eas.all plainE = true) : PI X etg e (iG X p.c k tg.isTp eas) := by
  refine ⟨fun pins s σ H R I h => ?_⟩
  obtain ⟨ds, xs, hd, hh⟩ := h
  obtain ⟨wi, h1, _, h2⟩ := it_ok T G htg hp pl hd
  exact h1.run pins s σ H R I (h2 hh)
theorem it_plain {tp : Bool} {k : ItK} {e : Expr} {eas : List Expr} (hp : itParts sc tp k e = some eas) (pl : eas.all plainE = true) : plainE e = true ∧ ∃ ds xs, iterD k ds = some xs := by
  unfold itParts at hp
  split at hp
  · cases hp
    exact ⟨by simpa using pl, [.lst []], [], rfl⟩
  · exact ⟨rfl, [.int 0], [], by simp [iterD, rngOk, irange]⟩
  · exact ⟨rfl, [.int 0, .int 0], [], by simp [iterD, rngOk, irange]⟩
  · exact ⟨rfl, [.lst [], .lst []], [], rfl⟩
  · exact ⟨rfl, [.lst []], [], rfl⟩
  · cases hp
theorem RepE.swap : ∀ {env : Env} {σ : List (Option V)} {L : List Addr} {env2 : Env} {σ2 : List (Option V)}, RepE c F H env σ L → env2.length = env.length → σ2.length = σ.length → (∀ (i : Nat) (s : Option O) (x : Option V), env2[i]? = some s → σ2[i]? = some x → (env[i]? = some s ∧ σ[i]? = some x) ∨ (env[i]? = some none ∧ RepS c F H s x [])) → RepE c F H env2 σ2 L
  | [], σ, L, env2, σ2, h, l1, l2, k => by
    obtain ⟨rfl, rfl⟩ := h
    have e1 : env2 = [] := List.eq_nil_of_length_eq_zero l1
    have e2 : σ2 = [] := List.eq_nil_of_length_eq_zero l2
    subst e1
    subst e2
    exact ⟨rfl, rfl⟩
  | o :: env, σ, L, env2, σ2, h, l1, l2, k => by
    obtain ⟨x, r, M1, M2, rfl, h1, h2, rfl⟩ := h
    cases env2 with
    | nil => simp at l1
    | cons s env2 =>
      cases σ2 with
      | nil => simp at l2
      | cons y σ2 =>
        have ih := RepE.swap (env2 := env2) (σ2 := σ2) h2 (by simpa using l1) (by simpa using l2) fun i s x a b => by
          have := k (i + 1) s x (by simpa using a) (by simpa using b)
          simpa using this
        rcases k 0 s y rfl rfl with ⟨e1, e2⟩ | ⟨e1, e2⟩
        · simp at e1 e2
          subst e1
          subst e2
          exact ⟨_, σ2, M1, M2, rfl, h1, ih, rfl⟩
        · simp at e1
          subst e1
          rw [show M1 = [] from h1]
          exact ⟨y, σ2, [], M2, rfl, e2, ih, rfl⟩
theorem restore_len {is : List Nat} : (restore env env2 is).length = env2.length := by
  induction is with
  | nil => rfl
  | cons i is ih => rw [restore, List.length_set, ih]
theorem restore_out {i : Nat} : ∀ {is : List Nat}, i ∉ is → (restore env env2 is)[i]? = env2[i]?
  | [], _ => rfl
  | j :: is, h => by
    rw [restore, List.getElem?_set_ne (fun e => h (by rw [e]; exact List.mem_cons_self)), restore_out fun m => h (List.mem_cons_of_mem _ m)]
theorem restore_in {i : Nat} : ∀ {is : List Nat}, i ∈ is → i < env2.length → (restore env env2 is)[i]? = some (env[i]?.getD none)
  | [], h, _ => absurd h (by simp)
  | j :: is, h, hl => by
    rw [restore]
    by_cases e : j = i
    · subst e
      rw [List.getElem?_set_self (by rw [restore_len]; exact hl)]
    · rw [List.getElem?_set_ne e]
      exact restore_in (by
        rcases List.mem_cons.mp h with q | q
        · exact absurd q.symm e
        · exact q) hl
/-- the names of the block's own are again what they were -/
theorem Cfg.restore (g : Cfg c F H (_root_.L2.wipe σ own) (wipeE envF own) L) (g2 : Cfg c Fa Ha σ env2 La) (ex : Ex Fa F) (ok : wipeOk env2 own = true) : Cfg c F H σ (T.restore env2 envF own) L := by
  have len1 : envF.length = σ.length := by
    have := g.len
    rw [wipe_length, wipeE_len] at this
    exact this.symm
  refine ⟨g.ex, RepE.swap g.rep (by rw [restore_len, wipeE_len]) (wipe_length σ own).symm fun i s x hs hx => ?_, g.nd, g.ow⟩
  by_cases hi : i ∈ own
  · right
    have hlt : i < envF.length := by
      have := (List.getElem?_eq_some_iff.mp hs).1
      rwa [restore_len] at this
    refine ⟨wipeE_in hi hlt, ?_⟩
    rw [restore_in hi hlt] at hs
    cases hs
    have h2 : i < env2.length := by
      have := g2.len
      omega
    have ok' := List.all_eq_true.mp ok i hi
    obtain ⟨s0, hs0⟩ : ∃ s0, env2[i]? = some s0 := ⟨_, List.getElem?_eq_getElem h2⟩
    rw [hs0] at ok' ⊢
    show RepS c F H s0 x []
    cases s0 with
    | none => exact rfl
    | some o =>
      cases o <;> first
        | (cases ok'; done)
        | skip
      obtain ⟨x0, A, M, B, h1, _, ⟨v, rfl, h3⟩, _⟩ := g2.rep.at hs0
      rw [h1] at hx
      cases hx
      exact ⟨v, rfl, Rep.mono ex h3.1, rfl⟩
  · left
    rw [restore_out hi] at hs
    rw [wipeE_out hi, _root_.L2.wipe_out hi]
    exact ⟨hs, hx⟩
theorem lc_form {y : Sy} {elt : E} {tg : Tg} {k : ItK} {it ifs : Es} {own : List Nat} {ea : Expr} (h : okE y N sc (.lc elt tg k it ifs own) ea = true) : ∃ eelt etg eit eifs scope pos eas, ea = .ListComp eelt [⟨etg, eit, eifs, 0⟩] scope pos ∧ blkC N sc scope (own.map fun i => (N.getD i "", i)) = true ∧ okTg N scope tg etg = true ∧ eifs.length ≤ 1 ∧ itParts sc tg.isTp k eit = some eas ∧ okEs y N sc it eas = true ∧ okEs y N (relS scope sc) ifs eifs = true ∧ okE y N (relS scope sc) elt eelt = true := by
  unfold okE at h
  cases q : lcP ea with
  | none => rw [q] at h; cases h
  | some z =>
    obtain ⟨eelt, etg, eit, eifs, scope⟩ := z
    rw [q] at h
    simp only [Bool.and_eq_true, decide_eq_true_eq] at h
    obtain ⟨⟨⟨⟨⟨h1, h3⟩, h4⟩, h5⟩, h6⟩, h7⟩ := h
    obtain ⟨pos, rfl⟩ := lcP_some q
    cases hp : itParts sc tg.isTp k eit with
    | none => rw [hp] at h5; cases h5
    | some eas =>
      rw [hp] at h5
      exact ⟨_, _, _, _, _, _, eas, rfl, h1, h3, h4, hp, h5, h6, h7⟩
theorem own_snd (own : List Nat) : (own.map fun i => ((N.getD i "", i) : Str × Nat)).map (·.2) = own := by
  rw [List.map_map]
  exact List.map_id own
theorem loc_keep {scope : Scope} {x : Str} (h : scope.names.lookup x = some .local ∨ scope.names.lookup x = some .cell) : (relS scope sc).names.lookup x = scope.names.lookup x := by
  rcases h with h | h
  · rw [h]
    exact lookup_relS_keep (by decide) h
  · rw [h]
    exact lookup_relS_keep (by decide) h
/-- targets, tests, values in a block -/
theorem blk_tg (G : Good p n N sc W X) {scope : Scope} {tg : Tg} {etg : Expr} (htg : okTg N scope tg etg = true) {F H : Hp} {env env1 : Env} {L : List Addr} {σ : L2.St} {v : V} {Q : L2.St → Hp → Prop} {d : D} {P : Nat → Bool} (ev : assignD P tg d env = some env1) (g : Cfg p.c F H σ env L) (r : if tg.isTp then RepW p.c F H d v else Rep p.c F d v) (q : TgtP p.c F H L σ env1 P Q) :
    ∀ s H0 A cl fp, T0G (bX X scope s H0 A cl fp) etg v σ H Q := fun s H0 A cl fp => by
  refine tg_ok (G.blk scope s H0 A cl fp) (own := scope) (fun x hx => ?_) (fun x hx => ?_) htg ev g r q
  · show (scope.names.lookup x == some .cell) = true
    rw [hx]
    rfl
  · rw [(G.blk scope s H0 A cl fp).sc]
    exact loc_keep hx
theorem blk_start {D : Addr} (g : Cfg c F H σ env L) (hD : H D = none) : BlkS c F H L D σ F (upd H D (.lst [])) env [] := by
  have fD : F D = none := free_of g.ex hD
  have dL : D ∉ L := fun m => g.rep.dom D m hD
  refine ⟨L, [], [], ⟨g.ex.trans (Ex.new hD), RepE.mono (Ex.refl F) (fun a _ u e => Ex.new hD a u e) g.rep, g.nd, g.ow⟩, upd_same, ⟨rfl, rfl⟩, List.nodup_append.mpr ⟨g.nd, by simp, fun x hx y hy e => dL (by rw [show D = y from (List.mem_singleton.mp hy).symm, ← e]; exact hx)⟩, fun a ha => by rw [List.mem_singleton.mp ha]; exact fD, ⟨Ex.refl F, fun a o e _ => Ex.new hD a o e, fun a h => ?_, fun a ha => ?_, fun a h => .inl h⟩⟩
  · cases q : H a with
    | none => exact absurd q h
    | some u => rw [Ex.new hD a u q]; simp
  · rcases List.mem_append.mp ha with z | z
    · exact .inl z
    · rw [List.mem_singleton.mp z]
      exact .inr hD
/-- the readings of a block's parts -/
def gC (X : Cx) (scope : Scope) (etg : Expr) : TG := fun v σ H Q => ∀ s H0 A cl fp, T0G (bX X scope s H0 A cl fp) etg v σ H Q
def tC (X : Cx) (scope : Scope) (eifs : List Expr) : TT := fun σ H Q => ∀ s H0 A cl fp, tIfs (bX X scope s H0 A cl fp) eifs σ H Q
def eC (X : Cx) (scope : Scope) (e : Expr) : TE := fun σ H Q => ∀ s H0 A cl fp, T0 (bX X scope s H0 A cl fp) e σ H Q
theorem gC_ok {scope : Scope} {etg : Expr} (s : Shared) (H0 : Hp) (A : Addr) (cl : List (Str × Addr)) (fp : List Addr) : PG (bX X scope s H0 A cl fp) etg (gC X scope etg) := ⟨fun pins s1 σ H v u Q I r h => (pg0 (X := bX X scope s H0 A cl fp)).run pins s1 σ H v u Q I r (h s H0 A cl fp)⟩
theorem tC_ok {scope : Scope} {eifs : List Expr} (s : Shared) (H0 : Hp) (A : Addr) (cl : List (Str × Addr)) (fp : List Addr) : PTs (bX X scope s H0 A cl fp) eifs (tC X scope eifs) := ⟨fun pins s1 σ H Q I h => (pts_ok (X := bX X scope s H0 A cl fp)).run pins s1 σ H Q I (h s H0 A cl fp)⟩
theorem eC_ok {scope : Scope} {e : Expr} (s : Shared) (H0 : Hp) (A : Addr) (cl : List (Str × Addr)) (fp : List Addr) : PE (bX X scope s H0 A cl fp) e (eC X scope e) := ⟨fun pins s1 σ H Q I h => (pe0 (X := bX X scope s H0 A cl fp)).run pins s1 σ H Q I (h s H0 A cl fp)⟩
theorem blk_ok (G : Good p n N sc W X) {scope : Scope} (h1 : blkC N sc scope (own.map fun i => (N.getD i "", i)) = true) : BlkOk X.N X.env.scope scope (own.map fun i => (N.getD i "", i)) := by
  rw [G.N, G.sc]
  exact blkOk_by h1
theorem lc_read (T : Top p C) {elt : E} {tg : Tg} {k : ItK} {it ifs : Es} {own : List Nat} (ss : SEs p C n N it) (si : SI p C n N ifs) (s : SE p C n N elt) (G : Good p n N sc W X) (g : Cfg p.c F H σ env L) {eelt etg eit : Expr} {eifs : List Expr} {scope : Scope} {eas : List Expr} (h2 : okTg N scope tg etg = true) (h3 : eifs.length ≤ 1)
    (h4 : itParts sc tg.isTp k eit = some eas) (h5 : okEs p.y N sc it eas = true) (h6 : okEs p.y N (relS scope sc) ifs eifs = true) (h7 : okE p.y N (relS scope sc) elt eelt = true) {out : Except Exn O × Env} (ev : evalE C (.lc elt tg k it ifs own) env = some out) (q : OutE p.c F H L σ W Q out) :
    tLc (iG X p.c k tg.isTp eas) (gC X scope etg) (tC X scope eifs) (eC X scope eelt) own σ H Q := by
  obtain ⟨ple, wit⟩ := it_plain h4 (okEs_plain h5)
  unfold evalE at ev
  cases hh : evalEs C it env with
  | none => rw [hh] at ev; cases ev
  | some y =>
    obtain ⟨ra, env1⟩ := y
    rw [hh] at ev
    cases ra with
    | error x =>
      cases ev
      obtain ⟨ds, xs, hd⟩ := wit
      exact ⟨ds, xs, hd, (ss G g h5 hh).2 x _ rfl q⟩
    | ok as =>
      dsimp only at ev
      unfold lcRun at ev
      cases hz : freezes as env1 with
      | none => rw [hz] at ev; cases ev
      | some y =>
        obtain ⟨ds, l, env2⟩ := y
        rw [hz] at ev
        dsimp only at ev
        cases hd : iterD k ds with
        | none => rw [hd] at ev; cases ev
        | some xs =>
          rw [hd] at ev
          dsimp only at ev
          split at ev
          · rename_i hw
            cases hl : lcLoop (fun i => !own.contains i) own tg (fun env => evalIfs C ifs env) (lcPut fun env => evalE C elt env) xs [] env2 with
            | none => rw [hl] at ev; cases ev
            | some y =>
              obtain ⟨rl, envF⟩ := y
              rw [hl] at ev
              cases rl with
              | error x => cases ev
              | ok accF =>
                cases ev
                refine ⟨ds, xs, hd, ((ss G g h5 hh).1 as env1 rfl fun F1 H1 L1 vs a1 g1 r1 => ?_).toL⟩
                obtain ⟨M, L', z, z2, z3⟩ := g1.freezes hz r1
                refine ⟨_, z.cfg.ex, z2, fun J io D hD => ?_⟩
                refine lc_turns (c := p.c) (Fa := addF F1 H1 M) (Ha := H1) (La := L') (D := D) (tg := tg) (tp := tg.isTp) (Fin := fun H => Q (.ref D) H) (Fx := addF F1 H1 M) (g := gC X scope etg) (tt := tC X scope eifs) (B := fun σ2 H3 Nx => eC X scope eelt σ2 H3 fun y H4 => ∃ acc, H4 D = some (.lst acc) ∧ acc.length < sizeLine ∧ Nx (upd H4 D (.lst (acc ++ [y]))))
                  io rfl (fun {σ F H env acc} b => ?_) (fun {F H env env1 L σ v Q d} e1 e2 e3 e4 => blk_tg G h2 e1 e2 e3 e4) (fun {F H env env1 L σ b Q} e1 e2 e3 => fun s H0 A cl fp => si (G.blk scope s H0 A cl fp) e2 h6 h3 e1 e3) ?_ ?_ (blk_start z.cfg hD) hl
                · obtain ⟨_, _, _, _, _, _, _, _, af⟩ := b
                  exact af.fs
                · intro F H env env1 acc acc1 σ2 Nx hw2 e1 bs nx s0 H0 A cl fp
                  unfold lcPut at e1
                  dsimp only at e1
                  cases he : evalE C elt env with
                  | none => rw [he] at e1; cases e1
                  | some y =>
                    obtain ⟨r, env3⟩ := y
                    rw [he] at e1
                    cases r with
                    | error x => cases e1
                    | ok o =>
                      dsimp only at e1
                      split at e1
                      · rename_i hn
                        cases e1
                        obtain ⟨L2, g2, k2⟩ := bs.put
                        refine s (G.blk scope s0 H0 A cl fp) g2 h7 he fun F3 H3 L3 y Lv a3 cf => ?_
                        obtain ⟨ws, w1, w2, w3⟩ := k2 a3 cf
                        refine ⟨ws, w1, ?_, nx _ _ σ2 hw2 w3⟩
                        rw [sizeLine_eq, w2]
                        have := of_decide_eq_true hn
                        omega
                      · cases e1
                · intro F3 H3 σ3 hw3 bs
                  have bs2 := bs.wipe own
                  rw [hw3] at bs2
                  obtain ⟨L4, ws, Lacc, g4, w1, w2, w3, w4, w5⟩ := bs2
                  exact q F3 H3 L4 (.ref D) (D :: Lacc) ((a1.trans (z.after g1)).trans w5) ⟨g4.restore z.cfg w5.fs hw, ⟨D, ws, Lacc, rfl, w1, w2, rfl⟩, w3, w4⟩
          · cases ev
theorem se_lc (T : Top p C) {elt : E} {tg : Tg} {k : ItK} {it ifs : Es} {own : List Nat} (ss : SEs p C n N it) (si : SI p C n N ifs) (s : SE p C n N elt) : SE p C n N (.lc elt tg k it ifs own) := by
  intro sc W X σ F H L env out ea Q G g hk ev q
  obtain ⟨eelt, etg, eit, eifs, scope, pos, eas, rfl, h1, h2, h3, h4, h5, h6, h7⟩ := lc_form hk
  have ple := (it_plain h4 (okEs_plain h5)).1
  refine T0.of (pe_lc G.calm (by rw [G.N]; exact G.nd) (pi_iG T G h2 h4 (okEs_plain h5)) (blk_ok G h1) gC_ok tC_ok eC_ok (plain_fold ple X.env)) ?_
  rw [own_snd]
  exact lc_read T ss si s G g h2 h3 h4 h5 h6 h7 ev q
end
end T
namespace T
open PySem L2
section
variable {p : Pg} {C : Ctx} {n : Nat} {N : List Str} {sc : Scope} {W : WX} {X : Cx} {F F0 F1 F' H H1 H' Fa Ha : Hp} {σ σ2 σ3 : L2.St} {Q : VK} {env env1 env2 envF : Env} {L L1 La : List Addr} {c : Cn} {P : Nat → Bool} {own own1 : List Nat}
theorem lc2_form {y : Sy} {elt : E} {tg tg1 : Tg} {k k1 : ItK} {it ifs it1 ifs1 : Es} {ea : Expr} (h : okE y N sc (.lc2 elt tg k it ifs tg1 k1 it1 ifs1 own own1) ea = true) : ∃ eelt etg eit eifs etg1 eit1 eifs1 scope pos eas eas1, ea = .ListComp eelt [⟨etg, eit, eifs, 0⟩, ⟨etg1, eit1, eifs1, 0⟩] scope pos ∧ blkC N sc scope (own.map fun i => (N.getD i "", i)) = true ∧
    (∀ i ∈ own1, i ∈ own) ∧ okTg N scope tg etg = true ∧ okTg N scope tg1 etg1 = true ∧ eifs.length ≤ 1 ∧ eifs1.length ≤ 1 ∧ itParts sc tg.isTp k eit = some eas ∧ okEs y N sc it eas = true ∧ itParts (relS scope sc) tg1.isTp k1 eit1 = some eas1 ∧ okEs y N (relS scope sc) it1 eas1 = true ∧ okEs y N (relS scope sc) ifs eifs = true ∧ okEs y N (relS scope sc) ifs1 eifs1 = true ∧ okE y N (relS scope sc) elt eelt = true := by
  unfold okE at h
  cases q : lc2P ea with
  | none => rw [q] at h; cases h
  | some z =>
    obtain ⟨eelt, etg, eit, eifs, etg1, eit1, eifs1, scope⟩ := z
    rw [q] at h
    simp only [Bool.and_eq_true, decide_eq_true_eq, List.all_eq_true] at h
    obtain ⟨⟨⟨⟨⟨⟨⟨⟨⟨⟨h1, h2⟩, h3⟩, h4⟩, h5⟩, h6⟩, h7⟩, h8⟩, h9⟩, h10⟩, h11⟩ := h
    obtain ⟨pos, rfl⟩ := lc2P_some q
    cases hp : itParts sc tg.isTp k eit with
    | none => rw [hp] at h7; cases h7
    | some eas =>
      rw [hp] at h7
      cases hp1 : itParts (relS scope sc) tg1.isTp k1 eit1 with
      | none => rw [hp1] at h8; cases h8
      | some eas1 =>
        rw [hp1] at h8
        exact ⟨_, _, _, _, _, _, _, _, _, eas, eas1, rfl, h1, fun i hi => by simpa using h2 i hi, h3, h4, h5, h6, hp, h7, hp1, h8, h9, h10, h11⟩
theorem wipe_sub (hs : ∀ i ∈ own1, i ∈ own) (h : _root_.L2.wipe σ3 own1 = _root_.L2.wipe σ2 own1) : _root_.L2.wipe σ3 own = _root_.L2.wipe σ2 own := by
  refine wipe_ext ?_ fun i hi => ?_
  · have := congrArg List.length h
    rwa [wipe_length, wipe_length] at this
  · have hi1 : i ∉ own1 := fun m => hi (hs i m)
    have q : (_root_.L2.wipe σ3 own1)[i]? = (_root_.L2.wipe σ2 own1)[i]? := by rw [h]
    rwa [wipe_out hi1, wipe_out hi1] at q
theorem BlkS.rebase {D : Addr} {acc : List O} (b : BlkS c Fa Ha La D σ F H env acc) : ∃ Lb, BlkS c F H Lb D σ F H env acc ∧ ∀ {σ' F' H' env' acc'}, BlkS c F H Lb D σ' F' H' env' acc' → BlkS c Fa Ha La D σ' F' H' env' acc' := by
  obtain ⟨L, vs, Lacc, g, h1, h2, h3, h4, h5⟩ := b
  refine ⟨L ++ D :: Lacc, ⟨L, vs, Lacc, g, h1, h2, h3, h4, .refl F H _⟩, fun {σ' F' H' env' acc'} b' => ?_⟩
  obtain ⟨L', vs', Lacc', g', k1, k2, k3, k4, k5⟩ := b'
  exact ⟨L', vs', Lacc', g', k1, k2, k3, k4, h5.trans k5⟩
def wC (X : Cx) (c : Cn) (scope : Scope) (k1 : ItK) (tp : Bool) (eas1 : List Expr) : TI := fun σ H R => ∃ ds xs, iterD k1 ds = some xs ∧ ∀ s H0 A cl fp, T0L (bX X scope s H0 A cl fp) eas1 σ H fun vs H1 => ∃ F0, Ex F0 H1 ∧ Reps c F0 ds vs ∧ ∀ J, ItOk c J F0 xs tp → R J H1
theorem wC_ok (T : Top p C) (G : Good p n N sc W X) {scope : Scope} {tg1 : Tg} {etg1 eit1 : Expr} {k1 : ItK} {eas1 : List Expr} (h2' : okTg N scope tg1 etg1 = true) (h4' : itParts (relS scope sc) tg1.isTp k1 eit1 = some eas1) (pl1 : eas1.all plainE = true) (s : Shared) (H0 : Hp) (A : Addr) (cl : List (Str × Addr)) (fp : List Addr) : PI (bX X scope s H0 A cl fp) etg1 eit1 (wC X p.c scope k1 tg1.isTp eas1) := ⟨fun pins s1 σ H R I h => by
  obtain ⟨ds, xs, hd, hh⟩ := h
  exact (pi_iG T (G.blk scope s H0 A cl fp) h2' h4' pl1).run pins s1 σ H R I ⟨ds, xs, hd, hh s H0 A cl fp⟩⟩
theorem lc2_read (T : Top p C) {elt : E} {tg tg1 : Tg} {k k1 : ItK} {it ifs it1 ifs1 : Es} (ss : SEs p C n N it) (si : SI p C n N ifs) (ss1 : SEs p C n N it1) (si1 : SI p C n N ifs1) (s : SE p C n N elt) (G : Good p n N sc W X) (g : Cfg p.c F H σ env L) {eelt etg eit etg1 eit1 : Expr} {eifs eifs1 : List Expr} {scope : Scope} {eas eas1 : List Expr}
    (hsub : ∀ i ∈ own1, i ∈ own) (h2 : okTg N scope tg etg = true) (h2' : okTg N scope tg1 etg1 = true) (h3 : eifs.length ≤ 1) (h3' : eifs1.length ≤ 1) (h4 : itParts sc tg.isTp k eit = some eas) (h5 : okEs p.y N sc it eas = true) (h4' : itParts (relS scope sc) tg1.isTp k1 eit1 = some eas1) (h5' : okEs p.y N (relS scope sc) it1 eas1 = true)
    (h6 : okEs p.y N (relS scope sc) ifs eifs = true) (h6' : okEs p.y N (relS scope sc) ifs1 eifs1 = true) (h7 : okE p.y N (relS scope sc) elt eelt = true) {out : Except Exn O × Env} (ev : evalE C (.lc2 elt tg k it ifs tg1 k1 it1 ifs1 own own1) env = some out) (q : OutE p.c F H L σ W Q out) :
    tLc2 (iG X p.c k tg.isTp eas) (gC X scope etg) (tC X scope eifs) (wC X p.c scope k1 tg1.isTp eas1) (gC X scope etg1) (tC X scope eifs1) (eC X scope eelt) own own1 σ H Q := by
  obtain ⟨ple, wit⟩ := it_plain h4 (okEs_plain h5)
  unfold evalE at ev
  cases hh : evalEs C it env with
  | none => rw [hh] at ev; cases ev
  | some y =>
    obtain ⟨ra, env1⟩ := y
    rw [hh] at ev
    cases ra with
    | error x =>
      cases ev
      obtain ⟨ds, xs, hd⟩ := wit
      exact ⟨ds, xs, hd, (ss G g h5 hh).2 x _ rfl q⟩
    | ok as =>
      dsimp only at ev
      unfold lcRun2 at ev
      cases hz : freezes as env1 with
      | none => rw [hz] at ev; cases ev
      | some y =>
        obtain ⟨ds, l, env2⟩ := y
        rw [hz] at ev
        dsimp only at ev
        cases hd : iterD k ds with
        | none => rw [hd] at ev; cases ev
        | some xs =>
          rw [hd] at ev
          dsimp only at ev
          split at ev
          · rename_i hw
            cases hl : lcLoop (fun i => !own.contains i) own tg (fun env => evalIfs C ifs env) (lcIn own own1 tg1 k1 (fun env => evalEs C it1 env) (fun env => evalIfs C ifs1 env) fun env => evalE C elt env) xs [] env2 with
            | none => rw [hl] at ev; cases ev
            | some y =>
              obtain ⟨rl, envF⟩ := y
              rw [hl] at ev
              cases rl with
              | error x => cases ev
              | ok accF =>
                cases ev
                refine ⟨ds, xs, hd, ((ss G g h5 hh).1 as env1 rfl fun F1 H1 L1 vs a1 g1 r1 => ?_).toL⟩
                obtain ⟨M, L', z, z2, z3⟩ := g1.freezes hz r1
                refine ⟨_, z.cfg.ex, z2, fun J io D hD => ?_⟩
                refine lc_turns (c := p.c) (Fa := addF F1 H1 M) (Ha := H1) (La := L') (D := D) (tg := tg) (tp := tg.isTp) (Fin := fun H => Q (.ref D) H) (Fx := addF F1 H1 M)
                  (g := gC X scope etg) (tt := tC X scope eifs) (B := fun σ2 H3 Nx => ∃ ds xs, iterD k1 ds = some xs ∧ ∀ s H0 A cl fp, T0L (bX X scope s H0 A cl fp) eas1 σ2 H3 fun vs H1 => ∃ F0, Ex F0 H1 ∧ Reps p.c F0 ds vs ∧ ∀ J1, ItOk p.c J1 F0 xs tg1.isTp → ∃ W1 : Nat → Nat → Hp → Prop, (∃ m, W1 0 m H1) ∧ ∀ j k H, W1 j k H →
                    (J1.stop j H ∧ Nx H) ∨ (J1.go j H ∧ ∃ Nx1 : Hp → Prop, (∀ H', Nx1 H' → ∃ k', k' < k ∧ W1 (j + 1) k' H') ∧ ∀ x H', J1.yld j H x H' → gC X scope etg1 x (_root_.L2.wipe σ2 own1) H' fun σ3 H5 => _root_.L2.wipe σ3 own1 = _root_.L2.wipe σ2 own1 ∧ tC X scope eifs1 σ3 H5 fun b H6 =>
                      if b = true then (eC X scope eelt σ3 H6 fun y H7 => ∃ acc, H7 D = some (.lst acc) ∧ acc.length < sizeLine ∧ Nx1 (upd H7 D (.lst (acc ++ [y])))) else Nx1 H6))
                  io rfl (fun {σ F H env acc} b => ?_) (fun {F H env env1 L σ v Q d} e1 e2 e3 e4 => blk_tg G h2 e1 e2 e3 e4) (fun {F H env env1 L σ b Q} e1 e2 e3 => fun s H0 A cl fp => si (G.blk scope s H0 A cl fp) e2 h6 h3 e1 e3) ?_ ?_ (blk_start z.cfg hD) hl
                · obtain ⟨_, _, _, _, _, _, _, _, af⟩ := b
                  exact af.fs
                · intro F H env env1 acc acc1 σ2 Nx hw2 e1 bs nx
                  unfold lcIn at e1
                  dsimp only at e1
                  cases he : evalEs C it1 env with
                  | none => rw [he] at e1; cases e1
                  | some y =>
                    obtain ⟨r, env3⟩ := y
                    rw [he] at e1
                    cases r with
                    | error x => cases e1
                    | ok as1 =>
                      dsimp only at e1
                      cases hz1 : freezes as1 env3 with
                      | none => rw [hz1] at e1; cases e1
                      | some y =>
                        obtain ⟨ds1, l1, env4⟩ := y
                        rw [hz1] at e1
                        dsimp only at e1
                        cases hd1 : iterD k1 ds1 with
                        | none => rw [hd1] at e1; cases e1
                        | some xs1 =>
                          rw [hd1] at e1
                          dsimp only at e1
                          obtain ⟨L2, g2, k2⟩ := bs.skip
                          refine ⟨ds1, xs1, hd1, fun s0 H0 A cl fp => ((ss1 (G.blk scope s0 H0 A cl fp) g2 h5' he).1 as1 env3 rfl fun F3 H3 L3 vs3 a3 g3 r3 => ?_).toL⟩
                          obtain ⟨M3, L4, z4, z5, z6⟩ := g3.freezes hz1 r3
                          have b4 := k2 (a3.trans (z4.after g3)) z4.cfg
                          obtain ⟨Lb, b5, back⟩ := b4.rebase
                          refine ⟨_, z4.cfg.ex, z5, fun J1 io1 => ?_⟩
                          refine lc_turns (c := p.c) (Fa := addF F3 H3 M3) (Ha := H3) (La := Lb) (D := D) (tg := tg1) (tp := tg1.isTp) (Fin := Nx) (Fx := addF F3 H3 M3) (σ := σ2) (own := own1)
                            (g := gC X scope etg1) (tt := tC X scope eifs1)
                            (B := fun σ2 H3 Nx => eC X scope eelt σ2 H3 fun y H4 => ∃ acc, H4 D = some (.lst acc) ∧ acc.length < sizeLine ∧ Nx (upd H4 D (.lst (acc ++ [y]))))
                            io1 rfl (fun {σ F H env acc} b => ?_) (fun {F H env env1 L σ v Q d} e1 e2 e3 e4 => blk_tg G h2' e1 e2 e3 e4) (fun {F H env env1 L σ b Q} e1 e2 e3 => fun s H0 A cl fp => si1 (G.blk scope s H0 A cl fp) e2 h6' h3' e1 e3) ?_ ?_ b5 e1
                          · obtain ⟨_, _, _, _, _, _, _, _, af⟩ := b
                            exact af.fs
                          · intro F H env env1 acc acc1 σ2 Nx hw2 e1 bs nx s0 H0 A cl fp
                            unfold lcPut at e1
                            dsimp only at e1
                            cases he : evalE C elt env with
                            | none => rw [he] at e1; cases e1
                            | some y =>
                              obtain ⟨r, env3⟩ := y
                              rw [he] at e1
                              cases r with
                              | error x => cases e1
                              | ok o =>
                                dsimp only at e1
                                split at e1
                                · rename_i hn
                                  cases e1
                                  obtain ⟨L2, g2, k2⟩ := bs.put
                                  refine s (G.blk scope s0 H0 A cl fp) g2 h7 he fun F3 H3 L3 y Lv a3 cf => ?_
                                  obtain ⟨ws, w1, w2, w3⟩ := k2 a3 cf
                                  refine ⟨ws, w1, ?_, nx _ _ σ2 hw2 w3⟩
                                  rw [sizeLine_eq, w2]
                                  have := of_decide_eq_true hn
                                  omega
                                · cases e1
                          · intro F5 H5 σ5 hw5 bs5
                            exact nx F5 H5 σ5 ((wipe_sub hsub hw5).trans hw2) (back bs5)
                · intro F3 H3 σ3 hw3 bs
                  have bs2 := bs.wipe own
                  rw [hw3] at bs2
                  obtain ⟨L4, ws, Lacc, g4, w1, w2, w3, w4, w5⟩ := bs2
                  exact q F3 H3 L4 (.ref D) (D :: Lacc) ((a1.trans (z.after g1)).trans w5) ⟨g4.restore z.cfg w5.fs hw, ⟨D, ws, Lacc, rfl, w1, w2, rfl⟩, w3, w4⟩
          · cases ev
theorem se_lc2 (T : Top p C) {elt : E} {tg tg1 : Tg} {k k1 : ItK} {it ifs it1 ifs1 : Es} (ss : SEs p C n N it) (si : SI p C n N ifs) (ss1 : SEs p C n N it1) (si1 : SI p C n N ifs1) (s : SE p C n N elt) : SE p C n N (.lc2 elt tg k it ifs tg1 k1 it1 ifs1 own own1) := by
  intro sc W X σ F H L env out ea Q G g hk ev q
  obtain ⟨eelt, etg, eit, eifs, etg1, eit1, eifs1, scope, pos, eas, eas1, rfl, h1, hsub, h2, h2', h3, h3', h4, h5, h4', h5', h6, h6', h7⟩ := lc2_form hk
  have ple := (it_plain h4 (okEs_plain h5)).1
  have ple1 := (it_plain h4' (okEs_plain h5')).1
  refine T0.of (pe_lc2 (vs1 := own1) G.calm (by rw [G.N]; exact G.nd) (pi_iG T G h2 h4 (okEs_plain h5)) (blk_ok G h1) (fun i hi => by rw [own_snd]; exact hsub i hi) gC_ok tC_ok (wC_ok T G h2' h4' (okEs_plain h5')) gC_ok tC_ok eC_ok (plain_fold ple X.env) (plain_fold ple1)) ?_
  rw [own_snd]
  exact lc2_read T ss si ss1 si1 s G g hsub h2 h2' h3 h3' h4 h5 h4' h5' h6 h6' h7 ev q
end
end T
namespace T
open PySem L2
section
variable {p : Pg} {C : Ctx} {n : Nat} {N : List Str}
theorem st_plain (T : Top p C) {e : E} (s : SE p C n N e) (pl : ∀ {sc ea}, okE p.y N sc e ea = true → plainT ea = true) : ST p C n N e := by
  intro sc W X σ F H L env ea Q G g hk
  exact ST.plain T s G g hk (pl hk)
theorem okR_plainT {y : Sy} {sc : Scope} {r : R} {e : Expr} (h : okR y N sc r e = true) : plainT e = true := by
  cases r <;> cases e <;> first
    | rfl
    | (exact Bool.noConfusion (show false = true from h))
theorem mth_no {y : Sy} {sc : Scope} {m : Nat} {a : E} {es : Es} {ea : Expr} (h : okE y N sc (.mth m a es) ea = true) : False := Bool.noConfusion (show false = true from h)
mutual
theorem soundE (T : Top p C) (P : Prom p C n) : ∀ e : E, SE p C n N e ∧ ST p C n N e
  | .rd r => ⟨se_rd T r, st_plain T (se_rd T r) fun h => okR_plainT (by simpa [okE] using h)⟩
  | .op o es => by
    have h := soundEs T P es
    exact ⟨se_op T h.1, st_op T h.1 h.2.2.2⟩
  | .and a b => by
    have h1 := soundE T P a
    have h2 := soundE T P b
    exact ⟨se_and T h1.1 h2.1, st_and T h1.2 h2.2⟩
  | .or a b => by
    have h1 := soundE T P a
    have h2 := soundE T P b
    exact ⟨se_or T h1.1 h2.1, st_or T h1.2 h2.2⟩
  | .ife t a b => by
    have h0 := soundE T P t
    have h1 := soundE T P a
    have h2 := soundE T P b
    exact ⟨se_ife T h0.2 h1.1 h2.1, st_ife T h0.2 h1.2 h2.2⟩
  | .chn o1 o2 a b c => by
    have h0 := soundE T P a
    have h1 := soundE T P b
    have h2 := soundE T P c
    exact ⟨se_chn T h0.1 h1.1 h2.1, st_chn T h0.1 h1.1 h2.1⟩
  | .lsn es => by
    have s : SE p C n N (.lsn es) := se_lsn T (soundEs T P es).2.1
    refine ⟨s, st_plain T s fun h => ?_⟩
    obtain ⟨_, _, rfl, _⟩ := lsn_form h
    rfl
  | .call f es => by
    have s : SE p C n N (.call f es) := se_call T P (f := f) (soundEs T P es).1
    refine ⟨s, st_plain T s fun h => ?_⟩
    obtain ⟨_, _, _, _, _, rfl, _⟩ := call_form h
    rfl
  | .mk k es => by
    have s : SE p C n N (.mk k es) := se_mk T P (k := k) (soundEs T P es).1
    refine ⟨s, st_plain T s fun h => ?_⟩
    obtain ⟨_, _, _, _, _, rfl, _⟩ := mk_form h
    rfl
  | .mth m a es => ⟨fun _ _ hk _ _ => (mth_no hk).elim, fun _ _ hk => (mth_no hk).elim⟩
  | .bmt o a es => by
    have s : SE p C n N (.bmt o a es) := se_bmt T (o := o) (soundE T P a).1 (soundEs T P es).1
    refine ⟨s, st_plain T s fun h => ?_⟩
    obtain ⟨_, _, _, _, _, rfl, _⟩ := bmt_form h
    rfl
  | .mut m r es => by
    have s : SE p C n N (.mut m r es) := se_mut T (m := m) (r := r) (soundEs T P es).1
    refine ⟨s, st_plain T s fun h => ?_⟩
    obtain ⟨_, _, _, _, _, rfl, _⟩ := mut_form h
    rfl
  | .app r e => by
    have s : SE p C n N (.app r e) := se_app T (r := r) (soundE T P e).1
    refine ⟨s, st_plain T s fun h => ?_⟩
    obtain ⟨_, _, _, _, rfl, _⟩ := app_form h
    rfl
  | .lc elt tg k it ifs own => by
    have s : SE p C n N (.lc elt tg k it ifs own) := se_lc T (tg := tg) (k := k) (own := own) (soundEs T P it).1 (soundEs T P ifs).2.2.1 (soundE T P elt).1
    refine ⟨s, st_plain T s fun h => ?_⟩
    obtain ⟨_, _, _, _, _, _, _, rfl, _⟩ := lc_form h
    rfl
  | .lc2 elt tg k it ifs tg1 k1 it1 ifs1 own own1 => by
    have s : SE p C n N (.lc2 elt tg k it ifs tg1 k1 it1 ifs1 own own1) := se_lc2 T (tg := tg) (k := k) (tg1 := tg1) (k1 := k1) (own := own) (own1 := own1) (soundEs T P it).1 (soundEs T P ifs).2.2.1 (soundEs T P it1).1 (soundEs T P ifs1).2.2.1 (soundE T P elt).1
    refine ⟨s, st_plain T s fun h => ?_⟩
    obtain ⟨_, _, _, _, _, _, _, _, _, _, _, rfl, _⟩ := lc2_form h
    rfl
theorem soundEs (T : Top p C) (P : Prom p C n) : ∀ es : Es, SEs p C n N es ∧ SOs p C n N es ∧ SI p C n N es ∧ ∀ e, es = .cons e .nil → ST p C n N e
  | .nil => ⟨ses_nil, sos_nil, si_nil, fun e h => by cases h⟩
  | .cons e es => by
    have h1 := soundE T P e
    have h2 := soundEs T P es
    exact ⟨ses_cons T h1.1 h2.1, sos_cons T h1.1 h2.2.1, si_cons T h1.2, fun e' h => by
      cases h
      exact h1.2⟩
end
end
end T
namespace T
open PySem L2
/-- K(e, ..), K's own __init__ keeping sp; nothing is handled yet -/
theorem mkN {X : Cx} {CX : CXT} {x : Str} {e : Expr} {es : List Expr} {ta : TA} {q pos : Pos} {K fI : Addr} {k : Nat} {fd : FuncData} {ps : List Str} {sp : Sp} (T : OexC X.K K) (iC : PySem.W.findIn X.K (.ref K) "__init__" = some (some (.ref fI))) (tI : PySem.W.typeIn X.K (.ref fI) = some (.type "function"))
    (F1 : FnOk X.prog X.w X.K X.mg X.base CX k fI fd ps sp) (hr : Room (k + 1) X.A) (hb : Binds X.K fd ps []) (hx : Passes CX X (fun _ _ _ => False)) (hg : Gl X x) (hm : X.mg x = some (.ref K)) (ha : PA X (e :: es) ta) (hd : (x == ("__debug__" : Str)) = false) (he : starEach (e :: es) X.env = (false, eval e X.env) :: starEach es X.env) (hp : (backTo pos (starEach es X.env)).any (·.1) = false) :
    L2N.PMk X (.Call (.Name x q) (e :: es) [] pos) (tMkO K sp [] ta) := by
  intro pins s σ H Q I h
  obtain ⟨nm, qn, N, bs, bm, sn, sub, ab, col, dd, k0, k1, k2, k3, k5, hC, hbm⟩ := T.cls
  refine wpAny_Call_Name_kw (ld_glob I hg hm ?_ hd)
  refine PySem.W.callWith_K (h₀ := X.base) I.ok.mod.kin T.kC (thn (ha.run pos pins s σ H _ I h) fun us t hh => ?_) he hp
  obtain ⟨vs, H1, I1, r1, hz, q1⟩ := hh
  refine ⟨I1.kIn, ?_⟩
  show wpAny _ _ (call (.ref K) us) _ _ _
  obtain ⟨hp0, g, dr, tk, os⟩ := t
  have above : hp0.objs.size ≤ hp0.objs.size + 1 := Nat.le_succ _
  have hq := q1 (hp0.objs.size + 1) (I1.hok.fresh above)
  have stay : ∀ b o, hp0.get? b = some o → ((hp0.push (PySem.W.kdv_tup us)).push (PySem.HandSPX.excO K hp0.objs.size)).get? b = some o := fun b o z => Heap.get?_push_of_some _ (Heap.get?_push_of_some _ z)
  have there : ((hp0.push (PySem.W.kdv_tup us)).push (PySem.HandSPX.excO K hp0.objs.size)).get? (hp0.objs.size + 1) = some (PySem.HandSPX.excO K hp0.objs.size) := by heap_get
  have I2 := I1.laid (t' := tk) (a := hp0.objs.size + 1) (o := exo (hp0.objs.size + 1) K none) (h' := (hp0.push (PySem.W.kdv_tup us)).push (PySem.HandSPX.excO K hp0.objs.size)) stay above (exo_ok there)
  rw [List.append_nil] at hq
  have r2 : Vals (V.ref (hp0.objs.size + 1) :: vs) (Value.ref (hp0.objs.size + 1) :: us) := .cons rfl r1
  have ln : (Value.ref (hp0.objs.size + 1) :: us ++ []).length = ps.length := by
    rw [List.append_nil, ← r2.length]
    exact F1.len _ _ _ _ hq
  have few : us.length ≤ sizeLine := by
    rw [← r1.length, sizeLine_eq]
    omega
  have bd := hb _ (Value.ref (hp0.objs.size + 1) :: us) I2.kIn ln
  rw [List.append_nil] at bd
  refine wpAny_call (PySem.HandSPX.call_own F.excBase_ValueError (fun Y => PySem.HandSPX.refsVE_contains Y bm hbm) (I1.kIn _ _ hC) (PySem.W.looks_findIn I1.kIn iC) (fun self => PySem.W.bind_fn I1.kIn self tI) few
    (codeAny_mono (F1.run _ X.stack _ _ ⟨Value.ref (hp0.objs.size + 1) :: us, []⟩ _ _ _ (fun _ _ _ => False) (hr.make K us []) (I2.env0.make K us []) bd r2 hq) fun res s' z => ?_))
  cases res with
  | error er => exact hx pins σ _ _ er s' I2 z
  | ok fl =>
    cases fl with
    | next => exact z.elim
    | brk => exact z.elim
    | cont => exact z.elim
    | ret u =>
      obtain ⟨v, H2, os2, bare2, un2, hok2, rv, ev, d, fs, ea, ed, hd1, q2⟩ := z
      subst ev
      obtain ⟨h2, g2, d2, t2, os'⟩ := s'
      obtain ⟨t0, G, J, kG, ge, hoe, na⟩ := mk_end0 (d2 := d2) (t2 := t2) I1 above stay un2 hok2 os2 bare2 ea ed hd1
      exact ⟨rv, ⟨hp0.objs.size + 1, _, _, ⟨G, g2, d2, t2, os'⟩, _, .ref K, some d, rfl, J, kG, ge, hoe, ⟨rfl, rfl, fun ws e => by cases e; rfl⟩, rfl, rfl, na, rfl, bare2, raises_own T.exC T.tyC, q2⟩⟩
section
variable {p : Pg} {C : Ctx} {n : Nat} {N : List Str} {sc : Scope} {W : WX} {X : Cx} {F F0 F1 F' H H1 H' : Hp} {σ : L2.St} {env env1 : Env} {L L1 : List Addr} {c : Cn}
theorem revF_lk (c : Cn) : ∀ {ns : List Nat} {vs : List V} {acc : List (Str × V)}, ns.length = vs.length → ns.Nodup → (∀ f ∈ ns, acc.lookup (c.FN f) = none ∨ True) → ∀ (i m : Nat) (v : V), ns[i]? = some m → vs[i]? = some v → (revF c ns vs acc).lookup (c.FN m) = some v := by
  have keep : ∀ {ns : List Nat} {vs : List V} {acc : List (Str × V)} {m : Nat} {v : V}, m ∉ ns → acc.lookup (c.FN m) = some v → (revF c ns vs acc).lookup (c.FN m) = some v := by
    intro ns
    induction ns with
    | nil => intro vs acc m v _ h; cases vs <;> exact h
    | cons f ns ih =>
      intro vs acc m v hm h
      cases vs with
      | nil => exact h
      | cons w vs =>
        refine ih (fun z => hm (List.mem_cons_of_mem _ z)) ?_
        rw [List.lookup_cons]
        have ne : (c.FN m == c.FN f) = false := by
          have : c.FN m ≠ c.FN f := fun z => hm (by rw [c.inj _ _ z]; exact List.mem_cons_self)
          simpa using this
        rw [ne]
        exact h
  intro ns
  induction ns with
  | nil => intro vs acc _ _ _ i m v h; simp at h
  | cons f ns ih =>
    intro vs acc hl nd _ i m v h1 h2
    have nd' := List.nodup_cons.mp nd
    cases vs with
    | nil => simp at hl
    | cons w vs =>
      cases i with
      | zero =>
        simp at h1 h2
        subst h1
        subst h2
        exact keep (ns := ns) (vs := vs) (acc := (c.FN f, w) :: acc) nd'.1 (by rw [List.lookup_cons]; simp)
      | succ i => exact ih (by simpa using hl) nd'.2 (fun _ _ => .inr trivial) i m v (by simpa using h1) (by simpa using h2)
/-- raise K(e, ..) -/
theorem rai_ok (T : Top p C) (G : Good p n N sc W X) {k : Nat} {ns : List Nat} (hk : C.exf k = some ns) {x : Str} (hc : p.y.cl[k]? = some x) (hg : okGl sc x = true) {ea : Expr} {eas : List Expr} {q pos rp : Pos} (pl : (ea :: eas).all plainE = true) {D : Ends}
    (h : T0A X (ea :: eas) σ H fun vs H1 => ∃ F1 L1 ds, Cfg p.c F1 H1 σ env1 L1 ∧ Reps p.c F1 ds vs ∧ ns.length = ds.length ∧ ds.length ≤ 1000 ∧ ErP p.c F1 H1 L1 σ W env1 ⟨k, ns, ds⟩) : T0S X (.Raise (some (.Call (.Name x q) (ea :: eas) [] pos)) none rp) D σ H := by
  obtain ⟨oex, hne, hnd, fI, fd, ps, e1, e2, e3, e4⟩ := T.exk k ns hk
  obtain ⟨g1, g2, g3⟩ := G.gl hg
  have pl' : plainE ea = true ∧ eas.all plainE = true := by simpa using pl
  have F1 : FnOk X.prog X.w X.K X.mg X.base (L2N.CX X.prog X.w) 1 fI fd ps (spX p.c k ns) := by
    rw [G.prog, G.w, G.K, G.mg, G.base]
    exact e4
  refine T0S.of (L2N.ps_raise (W := W) G.calm G.takes (mkN (by rw [G.K]; exact oex) (by rw [G.K]; exact e1) (by rw [G.K]; exact e2) F1 (G.room.mono (by omega)) (by rw [G.K]; exact e3) (fun pins σ H s e s' I z => ?_) g1 (by rw [G.mg]; exact T.cln k x hc) pa0 g2 (plain_star pl'.1) (plain_any pl'.2))) ?_
  · obtain ⟨_, _, _, _, _, _, _, _, _, _, _, _, w⟩ := z
    exact w.elim
  · refine T0A.mono h fun vs H1 hh => ?_
    obtain ⟨F1, L1, ds, cf, rd, hl, hz, er⟩ := hh
    have lv := rd.length
    refine ⟨by omega, fun a na => ?_⟩
    refine ⟨a, vs, by rw [List.append_nil], by omega, upd_same, fun dx ndx ne => ?_⟩
    have nd1 : H1 dx = none := by
      rw [upd_ne ne] at ndx
      exact ndx
    refine ⟨rfl, dx, revF p.c ns vs [], by unfold exH; rw [upd_same], by unfold exH; rw [upd_ne ne, upd_same], nd1, ?_⟩
    -- what the catcher sees
    have eqv : ∀ b, (upd (del (exH p.c (upd H1 a (exo a (p.c.CA k) none)) a dx k (revF p.c ns vs [])) a) dx (.xd (revF p.c ns vs []))) b = if b = dx then some (.xd (revF p.c ns vs [])) else H1 b := fun b => by
      by_cases hb : b = dx
      · rw [if_pos hb, hb, upd_same]
      · rw [if_neg hb, upd_ne hb]
        by_cases ha : b = a
        · rw [ha, del_same, na]
        · rw [del_ne ha]
          unfold exH
          rw [upd_ne ha, upd_ne hb, upd_ne ha]
    have fdx : F1 dx = none := free_of cf.ex nd1
    have kp : ∀ b u, H1 b = some u → (upd (del (exH p.c (upd H1 a (exo a (p.c.CA k) none)) a dx k (revF p.c ns vs [])) a) dx (.xd (revF p.c ns vs []))) b = some u := fun b u e => by
      rw [eqv b, if_neg (fun z => by rw [z, nd1] at e; cases e)]
      exact e
    refine er (upd F1 dx (.xd (revF p.c ns vs []))) _ L1 (some dx) ⟨Ex.new fdx, fun b o e _ => kp b o e, fun b hb => ?_, fun b hb => .inl hb, fun b hb => ?_⟩ ⟨fun b u e => ?_, RepE.mono (Ex.new fdx) (fun b _ u e => kp b u e) cf.rep, cf.nd, fun b hb => ?_⟩ ⟨dx, _, vs, rfl, upd_same, Reps.mono (Ex.new fdx) rd, hl, fun i m v h1 h2 => revF_lk p.c (by rw [hl, lv]) hnd (fun _ _ => .inr trivial) i m v h1 h2⟩
    · cases e : H1 b with
      | none => exact absurd e hb
      | some u => rw [kp b u e]; simp
    · by_cases z : b = dx
      · rw [z]
        exact .inr (.inr nd1)
      · rw [upd_ne z] at hb
        exact .inl hb
    · by_cases z : b = dx
      · subst z
        rw [upd_same] at e
        cases e
        rw [eqv b, if_pos rfl]
      · rw [upd_ne z] at e
        exact kp b u (cf.ex b u e)
    · have z : b ≠ dx := fun z => cf.rep.dom b hb (by rw [z]; exact nd1)
      rw [upd_ne z]
      exact cf.ow b hb
end
end T
namespace T
open PySem L2
theorem swap_tup {ev : Expr} {es : List Expr} {k : Nat} {pt : Pos} {l : Nat} {env : PySem.Env} : swapsWith ev (some (.Tuple es k pt)) l env = pure false := by
  cases ev <;> rfl
theorem swap_sub {ev a b : Expr} {pt : Pos} {l : Nat} {env : PySem.Env} : swapsWith ev (some (.Subscript a b pt)) l env = pure false := by
  cases ev <;> rfl
theorem swap_att {ev a : Expr} {f : Str} {pt : Pos} {l : Nat} {env : PySem.Env} : swapsWith ev (some (.Attribute a f pt)) l env = pure false := by
  cases ev <;> rfl
def isComp : Expr → Bool
  | .ListComp _ _ _ _ => true
  | .SetComp _ _ _ _ => true
  | .DictComp _ _ _ _ _ => true
  | _ => false
theorem swap_no {ev : Expr} (h : isComp ev = false) {t : Option Expr} {l : Nat} {env : PySem.Env} : swapsWith ev t l env = pure false := by
  cases ev <;> first
    | rfl
    | (simp [isComp] at h)
def isTup : Expr → Bool
  | .Tuple _ _ _ => true
  | _ => false
theorem stores_no {ev : Expr} (h : isTup ev = false) {ts : List Expr} {env : PySem.Env} : swappedStores ts ev env = pure none := by
  unfold swappedStores
  cases ev <;> first
    | (simp [isTup] at h; done)
    | skip
  all_goals
    cases ts with
    | nil => rfl
    | cons t ts =>
      cases ts with
      | cons _ _ => cases t <;> rfl
      | nil => cases t <;> rfl
/-- a comprehension's new list is the name's own at once -/
def swB (sc : Scope) (x : Str) (px : Pos) (ev : Expr) (scope : Scope) : Bool := (sc.names.lookup x == some .local) && (px.line == ev.pos.line) && !(scope.names.any fun (n, k) => n == x && (k == .local || k == .cell))
theorem swap_lc {elt : Expr} {gs : List Comprehension} {scope : Scope} {pos px : Pos} {x : Str} {l : Nat} {env : PySem.Env} (hk : env.scope.kind = .function) : swapsWith (.ListComp elt gs scope pos) (some (.Name x px)) l env = pure (swB env.scope x px (.ListComp elt gs scope pos) scope) := by
  have hb : env.blockKind = .function := by unfold Env.blockKind; rw [hk]; rfl
  unfold swapsWith swB
  dsimp only
  rw [hb]
  rfl
/-- a, b = .., .. with plain local names -/
def parB (sc : Scope) (x z : Str) (px pz : Pos) (ea eb : Expr) : Bool := (sc.names.lookup x == some .local) && (sc.names.lookup z == some .local) && (pz.line == px.line) && !(x == z) && !([ea, eb].all (foldedForSure 8)) && !([ea, eb].all (constantsAlone 8))
theorem stores_par {x z : Str} {px pz pt p2 : Pos} {kt k2 : Nat} {ea eb : Expr} {env : PySem.Env} (hk : env.scope.kind = .function) (pa : plainE ea = true) (pb : plainE eb = true) (h : parB env.scope x z px pz ea eb = true) :
    swappedStores [.Tuple [.Name x px, .Name z pz] kt pt] (.Tuple [ea, eb] k2 p2) env = pure (some [x, z]) := by
  have hb : env.blockKind = .function := by unfold Env.blockKind; rw [hk]; rfl
  unfold parB at h
  simp only [Bool.and_eq_true, Bool.not_eq_true'] at h
  obtain ⟨⟨⟨⟨⟨h1, h2⟩, h3⟩, h4⟩, h5⟩, h6⟩ := h
  have e1 : (env.kindOf x == some NameKind.local) = true := h1
  have e2 : (env.kindOf z == some NameKind.local) = true := h2
  have nx : (x == z) = false := h4
  unfold swappedStores
  dsimp only
  rw [if_neg (by rw [hb]; simp), if_neg (by
      cases ea <;> first
        | (simp [plainE] at pa; done)
        | (cases eb <;> first
            | (simp; done)
            | (simp [plainE] at pb; done)))]
  have e1' : env.kindOf x = some NameKind.local := by simpa using e1
  have e2' : env.kindOf z = some NameKind.local := by simpa using e2
  have h3' : pz.line = px.line := by simpa using h3
  have q : ¬ z = x := fun e => by rw [e] at nx; simp at nx
  have h5' : (foldedForSure 8 ea && foldedForSure 8 eb) = false := by simpa [List.all_cons] using h5
  have h6' : (constantsAlone 8 ea && constantsAlone 8 eb) = false := by simpa [List.all_cons] using h6
  simp only [List.filterMap_cons, List.filterMap_nil, List.head?_cons, Option.map_some, Option.getD_some, Expr.pos, e1', e2', h3', beq_self_eq_true, Bool.and_self, if_true]
  rw [if_neg (by simp [List.eraseDups_cons, q]), if_neg (by rw [h5]; simp), if_neg (by rw [h6]; simp)]
end T
namespace T
open PySem L2
/-- K(e, ..) -/
def callP : Expr → Option (Str × List Expr)
  | .Call (.Name x _) (e :: es) [] _ => some (x, e :: es)
  | _ => none
theorem callP_some {x : Str} {e : Expr} {es : List Expr} (h : callP e = some (x, es)) : ∃ q e1 r pos, e = .Call (.Name x q) (e1 :: r) [] pos ∧ es = e1 :: r := by
  unfold callP at h
  split at h
  · cases h
    exact ⟨_, _, _, _, rfl, rfl⟩
  · cases h
/-- a, b = .., .. -/
def parP : Stmt → Option (Str × Pos × Str × Pos × Expr × Expr)
  | .Assign [.Tuple [.Name x px, .Name z pz] _ _] (.Tuple [ea, eb] _ _) _ => some (x, px, z, pz, ea, eb)
  | _ => none
theorem parP_some {st : Stmt} {x z : Str} {px pz : Pos} {ea eb : Expr} (h : parP st = some (x, px, z, pz, ea, eb)) : ∃ kt pt k2 p2 pos, st = .Assign [.Tuple [.Name x px, .Name z pz] kt pt] (.Tuple [ea, eb] k2 p2) pos := by
  unfold parP at h
  split at h
  · cases h
    exact ⟨_, _, _, _, _, rfl⟩
  · cases h
def stiP : Stmt → Option (Expr × Expr × Expr)
  | .Assign [.Subscript er ek _] ev _ => some (er, ek, ev)
  | _ => none
theorem stiP_some {st : Stmt} {er ek ev : Expr} (h : stiP st = some (er, ek, ev)) : ∃ pt pos, st = .Assign [.Subscript er ek pt] ev pos := by
  unfold stiP at h
  split at h
  · cases h
    exact ⟨_, _, rfl⟩
  · cases h
def stfP : Stmt → Option (Expr × Str × Expr)
  | .Assign [.Attribute er x _] ev _ => some (er, x, ev)
  | _ => none
theorem stfP_some {st : Stmt} {er ev : Expr} {x : Str} (h : stfP st = some (er, x, ev)) : ∃ pt pos, st = .Assign [.Attribute er x pt] ev pos := by
  unfold stfP at h
  split at h
  · cases h
    exact ⟨_, _, rfl⟩
  · cases h
/-- try: .. except K: return a constant -/
def tryP : Stmt → Option (List Stmt × Str × Const)
  | .Try body [.ExceptHandler (some (.Name x _)) none [.Return (some (.Constant k _ _)) _] _] [] [] _ => some (body, x, k)
  | _ => none
theorem tryP_some {st : Stmt} {body : List Stmt} {x : Str} {k : Const} (h : tryP st = some (body, x, k)) : ∃ q j p1 p2 p3 p4, st = .Try body [.ExceptHandler (some (.Name x q)) none [.Return (some (.Constant k j p1)) p2] p3] [] [] p4 := by
  unfold tryP at h
  split at h
  · cases h
    exact ⟨_, _, _, _, _, _, rfl⟩
  · cases h
def retCon : Ss → Option D
  | .cons (.ret (.rd (.con d))) .nil => some d
  | _ => none
def hsCon : Hs → Option (Nat × D)
  | .cons c none b .nil => match retCon b with
    | some d => some (c, d)
    | none => none
  | _ => none
def E.isLc : E → Bool
  | .lc _ _ _ _ _ _ => true
  | .lc2 _ _ _ _ _ _ _ _ _ _ _ => true
  | _ => false
mutual
def okS (y : Sy) (N : List Str) (sc : Scope) : S → Stmt → Bool
  | .asg (.nm i) e, .Assign [.Name x px] ev _ => okE y N sc e ev && okTg N sc (.nm i) (.Name x px) && (!isComp ev || e.isLc)
  | .asg (.tp ts) e, .Assign [.Tuple es k pt] ev _ => okE y N sc e ev && okTg N sc (.tp ts) (.Tuple es k pt) && !isTup ev
  | .par i j a b, st => match parP st with
    | some (x, px, z, pz, ea, eb) => N[i]? == some x && N[j]? == some z && plainE ea && plainE eb && parB sc x z px pz ea eb && okE y N sc a ea && okE y N sc b eb
    | none => false
  | .sti r k e, st => match stiP st with
    | some (er, ek, ev) => okE y N sc e ev && okR y N sc r er && okE y N sc k ek && !isTup ev && plainE ek
    | none => false
  | .stf r f e, st => match stfP st with
    | some (er, x, ev) => okE y N sc e ev && okR y N sc r er && y.fd[f]? == some x
    | none => false
  | .exp e, .Expr ev _ => okE y N sc e ev && !isComp ev
  | .ret e, .Return (some ev) _ => okE y N sc e ev
  | .retf e, .Return (some ev) _ => okE y N sc e ev
  | .ret0, .Return none _ => true
  | .ife t a b, .If et sa sb _ => okE y N sc t et && okSs y N sc a sa && okSs y N sc b sb
  | .for_ tg k it b, .For etg eit body [] _ => okTg N sc tg etg && (match itParts sc tg.isTp k eit with
    | some eas => okEs y N sc it eas
    | none => false) && okSs y N sc b body
  | .whl t b, .While et body [] _ => okE y N sc t et && okSs y N sc b body
  | .brk, .Break _ => true
  | .cnt, .Continue _ => true
  | .pas, .Pass _ => true
  | .rai c es, .Raise (some ev) none _ => match callP ev with
    | some (x, eas) => y.cl[c]? == some x && okGl sc x && okEs y N sc es eas && decide (eas.length ≤ 1000)
    | none => false
  | .try_ b hs, st => match tryP st with
    | some (body, x, k) => okSs y N sc b body && match hsCon hs with
      | some (c, d) => y.cl[c]? == some x && okGl sc x && okCon d k
      | none => false
    | none => false
  | _, _ => false
def okSs (y : Sy) (N : List Str) (sc : Scope) : Ss → List Stmt → Bool
  | .nil, [] => true
  | .cons s r, st :: sts => okS y N sc s st && okSs y N sc r sts
  | _, _ => false
end
/-- what a statement may rely on, beside -/
structure GS (sc : Scope) (X : Cx) : Prop where
  fn : ∀ x, X.fn x = true
  kind : sc.kind = .function
  stack : X.stack = X.env :: X.outer
  frame : X.env.frame = some X.env.locals
def Agr (P : Nat → Bool) (σ σ1 : L2.St) : Prop := (∀ i, P i = true → σ1[i]? = σ[i]?) ∧ σ1.length = σ.length
theorem Agr.refl (P : Nat → Bool) (σ : L2.St) : Agr P σ σ := ⟨fun _ _ => rfl, rfl⟩
theorem Agr.trans {P : Nat → Bool} {σ σ1 σ2 : L2.St} (a : Agr P σ σ1) (b : Agr P σ1 σ2) : Agr P σ σ2 := ⟨fun i h => (b.1 i h).trans (a.1 i h), b.2.trans a.2⟩
/-- a flow's end -/
def FlP (c : Cn) (F H : Hp) (L : List Addr) (σ : L2.St) (P : Nat → Bool) (env1 : Env) (K : L2.St → Hp → Prop) : Prop := ∀ F1 H1 L1 σ1, After F H L F1 H1 L1 → Cfg c F1 H1 σ1 env1 L1 → Agr P σ σ1 → K σ1 H1
def RtP (c : Cn) (F H : Hp) (L : List Addr) (σ : L2.St) (P : Nat → Bool) (env1 : Env) (o : O) (K : V → Hp → Prop) : Prop := ∀ F1 H1 L1 σ1 v Lv, After F H L F1 H1 (L1 ++ Lv) → Cfv c F1 H1 σ1 env1 L1 o v Lv → Agr P σ σ1 → K v H1
def XcP (c : Cn) (F H : Hp) (L : List Addr) (σ : L2.St) (P : Nat → Bool) (env1 : Env) (x : Exn) (W : WX) : Prop := ∀ F1 H1 L1 σ1 d, After F H L F1 H1 L1 → Cfg c F1 H1 σ1 env1 L1 → Agr P σ σ1 → XRep c F1 x d → W (.ref (c.CA x.c)) d σ1 H1
def OutS (c : Cn) (F H : Hp) (L : List Addr) (σ : L2.St) (P : Nat → Bool) (W : WX) (D : Ends) : Except Exn Fl × Env → Prop
  | (.ok .nx, env1) => FlP c F H L σ P env1 D.nx
  | (.ok .brk, env1) => FlP c F H L σ P env1 D.bk
  | (.ok .cnt, env1) => FlP c F H L σ P env1 D.ct
  | (.ok (.ret o), env1) => RtP c F H L σ P env1 o D.rt
  | (.error x, env1) => XcP c F H L σ P env1 x W
section
variable {p : Pg} {C : Ctx} {n : Nat} {N : List Str} {sc : Scope} {W : WX} {X : Cx} {F F0 F1 F' H H1 H' : Hp} {σ σ1 : L2.St} {env env1 : Env} {L L1 : List Addr} {c : Cn} {P : Nat → Bool}
theorem FlP.after {K : L2.St → Hp → Prop} (h : FlP c F H L σ P env1 K) (a : After F H L F1 H1 L1) (g : Agr P σ σ1) : FlP c F1 H1 L1 σ1 P env1 K := fun F2 H2 L2 σ2 b k r => h F2 H2 L2 σ2 (a.trans b) k (g.trans r)
theorem OutS.after {D : Ends} {out : Except Exn Fl × Env} (h : OutS c F H L σ P W D out) (a : After F H L F1 H1 L1) (g : Agr P σ σ1) : OutS c F1 H1 L1 σ1 P W D out := by
  obtain ⟨r, e⟩ := out
  cases r with
  | error x => exact fun F2 H2 L2 σ2 d b k r z => h F2 H2 L2 σ2 d (a.trans b) k (g.trans r) z
  | ok f =>
    cases f with
    | nx => exact FlP.after h a g
    | brk => exact FlP.after h a g
    | cnt => exact FlP.after h a g
    | ret o => exact fun F2 H2 L2 σ2 v Lv b k r => h F2 H2 L2 σ2 v Lv (a.trans b) k (g.trans r)
theorem XcP.er {x : Exn} (h : XcP c F H L σ P env1 x W) : ErP c F H L σ W env1 x := fun F1 H1 L1 d a g r => h F1 H1 L1 σ d a g (Agr.refl P σ) r
def SS (p : Pg) (C : Ctx) (n : Nat) (N : List Str) (s : S) : Prop := ∀ {sc : Scope} {W : WX} {X : Cx} {σ : L2.St} {F H : Hp} {L : List Addr} {env : Env} {out : Except Exn Fl × Env} {st : Stmt} {D : Ends} {P : Nat → Bool}, Good p n N sc W X → GS sc X → Cfg p.c F H σ env L → okS p.y N sc s st = true → exec C P s env = some out → OutS p.c F H L σ P W D out → T0S X st D σ H
def SSs (p : Pg) (C : Ctx) (n : Nat) (N : List Str) (s : Ss) : Prop := ∀ {sc : Scope} {W : WX} {X : Cx} {σ : L2.St} {F H : Hp} {L : List Addr} {env : Env} {out : Except Exn Fl × Env} {st : List Stmt} {D : Ends} {P : Nat → Bool}, Good p n N sc W X → GS sc X → Cfg p.c F H σ env L → okSs p.y N sc s st = true → execs C P s env = some out → OutS p.c F H L σ P W D out → T0Ss X st D σ H
theorem sss_nil : SSs p C n N .nil := by
  intro sc W X σ F H L env out st D P G S g hk ev q
  cases st with
  | cons _ _ => exact Bool.noConfusion (show false = true from hk)
  | nil =>
    cases ev
    exact T0Ss.of pss_nil (q F H L σ (.refl F H L) g (Agr.refl P σ))
theorem sss_cons {s : S} {r : Ss} (hs : SS p C n N s) (hr : SSs p C n N r) : SSs p C n N (.cons s r) := by
  intro sc W X σ F H L env out st D P G S g hk ev q
  cases st with
  | nil => exact Bool.noConfusion (show false = true from hk)
  | cons st sts =>
    have hk' : okS p.y N sc s st = true ∧ okSs p.y N sc r sts = true := by simpa [okSs] using hk
    refine T0Ss.of (pss_cons (t := T0S X st) (u := T0Ss X sts) ps0 pss0) ?_
    unfold execs at ev
    cases h : exec C P s env with
    | none => rw [h] at ev; cases ev
    | some y =>
      obtain ⟨re, env1⟩ := y
      rw [h] at ev
      refine hs G S g hk'.1 h ?_
      cases re with
      | error x =>
        cases ev
        exact q
      | ok f =>
        cases f with
        | nx => exact fun F1 H1 L1 σ1 a1 g1 ag => hr G S g1 hk'.2 ev (q.after a1 ag)
        | brk =>
          cases ev
          exact q
        | cnt =>
          cases ev
          exact q
        | ret o =>
          cases ev
          exact q
end
end T
namespace T
open PySem L2
section
variable {p : Pg} {C : Ctx} {n : Nat} {N : List Str} {sc : Scope} {W : WX} {X : Cx} {F F0 F1 F' H H1 H' : Hp} {σ σ1 : L2.St} {env env1 : Env} {L L1 : List Addr} {c : Cn} {P : Nat → Bool}
theorem GS.lk (S : GS sc X) (G : Good p n N sc W X) : ∀ x, (sc.names.lookup x = some .local ∨ sc.names.lookup x = some .cell) → X.env.scope.names.lookup x = sc.names.lookup x := fun x _ => by rw [G.sc]
/-- a value put in a slot -/
theorem Cfv.slot {o : O} {v : V} {Lv : List Addr} (cf : Cfv c F H σ env L o v Lv) {i : Nat} (hi : i < env.length) : ∃ L1, Cfg c F H (σ.set i (some v)) (env.set i (some o)) L1 ∧ ∀ a ∈ L1, a ∈ L ++ Lv := by
  have nd := List.nodup_append.mp cf.nd
  obtain ⟨L1, g1, s1⟩ := cf.cfg.setD hi (o := some o) (x := some v) (M := Lv) ⟨v, rfl, cf.val⟩ nd.2.1 (fun a ha m => nd.2.2 a m a ha rfl) cf.ow
  exact ⟨L1, g1, fun a ha => List.mem_append.mpr (s1 a ha)⟩
theorem agr_set {i : Nat} {v : V} (h : P i = false) : Agr P σ (σ.set i (some v)) := by
  refine ⟨fun j hj => ?_, by simp⟩
  rw [List.getElem?_set_ne]
  intro e
  subst e
  rw [h] at hj
  cases hj
theorem asg_form {y : Sy} {i : Nat} {e : E} {st : Stmt} (h : okS y N sc (.asg (.nm i) e) st = true) : ∃ x px ev pos, st = .Assign [.Name x px] ev pos ∧ okE y N sc e ev = true ∧ okTg N sc (.nm i) (.Name x px) = true ∧ (isComp ev = false ∨ e.isLc = true) := by
  cases st <;> first
    | (exact Bool.noConfusion (show false = true from h))
    | skip
  rename_i ts ev pos
  cases ts with
  | nil => exact Bool.noConfusion (show false = true from h)
  | cons t ts =>
    cases ts with
    | cons _ _ => cases t <;> exact Bool.noConfusion (show false = true from h)
    | nil =>
      cases t <;> first
        | (exact Bool.noConfusion (show false = true from h))
        | skip
      unfold okS at h
      simp only [Bool.and_eq_true, Bool.or_eq_true, Bool.not_eq_true'] at h
      exact ⟨_, _, _, _, rfl, h.1.1, h.1.2, h.2⟩
theorem ev_asg {i : Nat} {e : E} {out : Except Exn Fl × Env} (ev : exec C P (.asg (.nm i) e) env = some out) : (∃ o env1, evalE C e env = some (.ok o, env1) ∧ P i = false ∧ i < env1.length ∧ out = (.ok .nx, env1.set i (some o))) ∨ ∃ x env1, evalE C e env = some (.error x, env1) ∧ out = (.error x, env1) := by
  unfold exec at ev
  cases h : evalE C e env with
  | none => rw [h] at ev; cases ev
  | some y =>
    obtain ⟨r, env1⟩ := y
    rw [h] at ev
    cases r with
    | error x =>
      cases ev
      exact .inr ⟨x, _, rfl, rfl⟩
    | ok o =>
      left
      dsimp only at ev
      unfold assignO at ev
      dsimp only at ev
      by_cases hc : (P i || decide (env1.length ≤ i)) = true
      · rw [if_pos hc] at ev
        cases ev
      · rw [if_neg hc] at ev
        cases ev
        simp only [Bool.or_eq_true, decide_eq_true_eq, not_or, Bool.not_eq_true] at hc
        exact ⟨o, env1, rfl, hc.1, Nat.lt_of_not_le hc.2, rfl⟩
theorem ss_asg (T : Top p C) (Pm : Prom p C n) {i : Nat} {e : E} : SS p C n N (.asg (.nm i) e) := by
  intro sc W X σ F H L env out st D P G S g hk ev q
  obtain ⟨x, px, evx, pos, rfl, k1, k2, k3⟩ := asg_form hk
  have tgt := k2
  unfold okTg at k2
  rw [Bool.and_eq_true] at k2
  have hk : sc.names.lookup x = some .local ∨ sc.names.lookup x = some .cell := by
    cases q : sc.names.lookup x with
    | none => rw [q] at k2; exact Bool.noConfusion (show false = true from k2.2)
    | some k =>
      rw [q] at k2
      cases k <;> first
        | exact .inl rfl
        | exact .inr rfl
        | (exact Bool.noConfusion (show false = true from k2.2))
  have hloc : L2.Loc X.env.scope x := by
    unfold L2.Loc
    rw [G.sc]
    exact hk
  have hN : X.N.Nodup := by rw [G.N]; exact G.nd
  have hi : X.N[i]? = some x := by rw [G.N]; exact beq_opt k2.1
  -- what the value's rule has to give
  have want : OutE p.c F H L σ W (fun v H1 => gName i v σ H1 D.nx) (match out with
      | (.error x, env1) => (.error x, env1)
      | (.ok _, env1) => (.ok (.pure .non), env1)) ∨ True := .inr trivial
  have post : ∀ o env1, P i = false → i < env1.length → out = (.ok .nx, env1.set i (some o)) → OkP p.c F H L σ env1 o (fun v H1 => gName i v σ H1 D.nx) := fun o env1 hP hl eo F1 H1 L1 v Lv a cf => by
    subst eo
    obtain ⟨L2, g2, s2⟩ := cf.slot hl
    exact q F1 H1 L2 (σ.set i (some v)) (a.sub s2) g2 (agr_set hP)
  have main : ∃ oe, evalE C e env = some oe ∧ OutE p.c F H L σ W (fun v H1 => gName i v σ H1 D.nx) oe := by
    rcases ev_asg ev with ⟨o, env1, h1, h2, h3, h4⟩ | ⟨x0, env1, h1, h2⟩
    · exact ⟨_, h1, post o env1 h2 h3 h4⟩
    · subst h2
      exact ⟨_, h1, XcP.er q⟩
  obtain ⟨oe, hev, hq⟩ := main
  have plain : swapsWith evx (some (.Name x px)) pos.line X.env = pure false → T0S X (.Assign [.Name x px] evx pos) D σ H := fun hs =>
    T0S.of (ps_set hN hi hloc pe0 hs (.inl (S.fn x))) ((soundE T Pm e).1 G g k1 hev hq)
  rcases k3 with k3 | k3
  · exact plain (swap_no k3)
  · cases e <;> first
      | (exact Bool.noConfusion (show false = true from k3))
      | skip
    · rename_i elt tg k it ifs own
      obtain ⟨eelt, etg, eit, eifs, scope, lpos, eas, rfl, h1, h2, h3, h4, h5, h6, h7⟩ := lc_form k1
      have sk : X.env.scope.kind = .function := by rw [G.sc]; exact S.kind
      have sw := swap_lc (elt := eelt) (gs := [⟨etg, eit, eifs, 0⟩]) (scope := scope) (pos := lpos) (px := px) (x := x) (l := pos.line) (env := X.env) sk
      cases hb : swB X.env.scope x px (.ListComp eelt [⟨etg, eit, eifs, 0⟩] scope lpos) scope with
      | false =>
        rw [hb] at sw
        exact plain sw
      | true =>
        rw [hb] at sw
        have hl : X.env.scope.names.lookup x = some .local := by
          unfold swB at hb
          simp only [Bool.and_eq_true] at hb
          simpa using hb.1.1
        have ple := (it_plain h4 (okEs_plain h5)).1
        refine T0S.of (ps_setLc G.calm hN hi hl sw (pi_iG T G h2 h4 (okEs_plain h5)) (blk_ok G h1) gC_ok tC_ok eC_ok (plain_fold ple X.env)) ?_
        rw [own_snd]
        exact lc_read T (soundEs T Pm it).1 (soundEs T Pm ifs).2.2.1 (soundE T Pm elt).1 G g h2 h3 h4 h5 h6 h7 hev hq
    · rename_i elt tg k it ifs tg1 k1' it1 ifs1 own own1
      obtain ⟨eelt, etg, eit, eifs, etg1, eit1, eifs1, scope, lpos, eas, eas1, rfl, h1, hsub, h2, h2', h3, h3', h4, h5, h4', h5', h6, h6', h7⟩ := lc2_form k1
      have sk : X.env.scope.kind = .function := by rw [G.sc]; exact S.kind
      have sw := swap_lc (elt := eelt) (gs := [⟨etg, eit, eifs, 0⟩, ⟨etg1, eit1, eifs1, 0⟩]) (scope := scope) (pos := lpos) (px := px) (x := x) (l := pos.line) (env := X.env) sk
      cases hb : swB X.env.scope x px (.ListComp eelt [⟨etg, eit, eifs, 0⟩, ⟨etg1, eit1, eifs1, 0⟩] scope lpos) scope with
      | false =>
        rw [hb] at sw
        exact plain sw
      | true =>
        rw [hb] at sw
        have hl : X.env.scope.names.lookup x = some .local := by
          unfold swB at hb
          simp only [Bool.and_eq_true] at hb
          simpa using hb.1.1
        have ple := (it_plain h4 (okEs_plain h5)).1
        have ple1 := (it_plain h4' (okEs_plain h5')).1
        refine T0S.of (ps_setLc2 (vs1 := own1) G.calm hN hi hl sw (pi_iG T G h2 h4 (okEs_plain h5)) (blk_ok G h1) (fun i hi => by rw [own_snd]; exact hsub i hi) gC_ok tC_ok (wC_ok T G h2' h4' (okEs_plain h5')) gC_ok tC_ok eC_ok (plain_fold ple X.env) (plain_fold ple1)) ?_
        rw [own_snd]
        exact lc2_read T (soundEs T Pm it).1 (soundEs T Pm ifs).2.2.1 (soundEs T Pm it1).1 (soundEs T Pm ifs1).2.2.1 (soundE T Pm elt).1 G g hsub h2 h2' h3 h3' h4 h5 h4' h5' h6 h6' h7 hev hq
end
end T
namespace T
open PySem L2
section
variable {p : Pg} {C : Ctx} {n : Nat} {N : List Str} {sc : Scope} {W : WX} {X : Cx} {F F0 F1 F' H H1 H' : Hp} {σ σ1 : L2.St} {env env1 : Env} {L L1 : List Addr} {c : Cn} {P : Nat → Bool}
theorem asgT_form {y : Sy} {ts : List Tg} {e : E} {st : Stmt} (h : okS y N sc (.asg (.tp ts) e) st = true) : ∃ es k pt ev pos, st = .Assign [.Tuple es k pt] ev pos ∧ okE y N sc e ev = true ∧ okTg N sc (.tp ts) (.Tuple es k pt) = true ∧ isTup ev = false := by
  cases st <;> first
    | (exact Bool.noConfusion (show false = true from h))
    | skip
  rename_i tl ev pos
  cases tl with
  | nil => exact Bool.noConfusion (show false = true from h)
  | cons t tl =>
    cases tl with
    | cons _ _ => cases t <;> exact Bool.noConfusion (show false = true from h)
    | nil =>
      cases t <;> first
        | (exact Bool.noConfusion (show false = true from h))
        | skip
      unfold okS at h
      simp only [Bool.and_eq_true, Bool.not_eq_true'] at h
      exact ⟨_, _, _, _, _, rfl, h.1.1, h.1.2, h.2⟩
theorem ss_asgT (T : Top p C) (Pm : Prom p C n) {ts : List Tg} {e : E} : SS p C n N (.asg (.tp ts) e) := by
  intro sc W X σ F H L env out st D P G S g hk ev q
  obtain ⟨es, k, pt, evx, pos, rfl, k1, k2, k3⟩ := asgT_form hk
  refine T0S.of (ps_asg (te := T0 X evx) (g := T0G X (.Tuple es k pt)) pe0 pg0 (swap_tup (ev := evx) (es := es) (k := k) (pt := pt) (l := pos.line) (env := X.env)) (stores_no k3) rfl) ?_
  unfold exec at ev
  cases h : evalE C e env with
  | none => rw [h] at ev; cases ev
  | some y =>
    obtain ⟨r, env1⟩ := y
    rw [h] at ev
    cases r with
    | error x =>
      cases ev
      exact (soundE T Pm e).1 G g k1 h (XcP.er q)
    | ok o =>
      dsimp only at ev
      cases h2 : assignO P (.tp ts) o env1 with
      | none => rw [h2] at ev; cases ev
      | some env2 =>
        rw [h2] at ev
        cases ev
        refine (soundE T Pm e).1 G g k1 h fun F1 H1 L1 v Lv a cf => ?_
        obtain ⟨a1, g1, r1⟩ := cf.settle a
        refine tg_ok (P := P) G (own := sc) (fun x _ => S.fn x) (S.lk G) k2 (show assignD P (.tp ts) o.fz env1 = some _ from h2) g1 ?_ fun σ1 L2 g2 s2 ag lg => q _ H1 L2 σ1 (a1.sub s2) g2 ⟨ag, lg⟩
        exact Rep.weak g1.ex r1
theorem exp_form {y : Sy} {e : E} {st : Stmt} (h : okS y N sc (.exp e) st = true) : ∃ ev pos, st = .Expr ev pos ∧ okE y N sc e ev = true ∧ isComp ev = false := by
  cases st <;> first
    | (exact Bool.noConfusion (show false = true from h))
    | skip
  unfold okS at h
  simp only [Bool.and_eq_true, Bool.not_eq_true'] at h
  exact ⟨_, _, rfl, h.1, h.2⟩
theorem Cfv.drop {o : O} {v : V} {Lv : List Addr} (cf : Cfv c F1 H1 σ env1 L1 o v Lv) (a : After F H L F1 H1 (L1 ++ Lv)) : After F H L F1 H1 L1 ∧ Cfg c F1 H1 σ env1 L1 := ⟨a.sub fun x hx => List.mem_append_left _ hx, cf.cfg⟩
theorem ss_exp (T : Top p C) (Pm : Prom p C n) {e : E} : SS p C n N (.exp e) := by
  intro sc W X σ F H L env out st D P G S g hk ev q
  obtain ⟨evx, pos, rfl, k1, k2⟩ := exp_form hk
  refine T0S.of (ps_expr (te := T0 X evx) pe0 (swap_no k2)) ?_
  unfold exec at ev
  cases h : evalE C e env with
  | none => rw [h] at ev; cases ev
  | some y =>
    obtain ⟨r, env1⟩ := y
    rw [h] at ev
    cases r with
    | error x =>
      cases ev
      exact (soundE T Pm e).1 G g k1 h (XcP.er q)
    | ok o =>
      cases ev
      refine (soundE T Pm e).1 G g k1 h fun F1 H1 L1 v Lv a cf => ?_
      obtain ⟨a1, g1⟩ := cf.drop a
      exact q F1 H1 L1 σ a1 g1 (Agr.refl P σ)
theorem ret_form {y : Sy} {e : E} {st : Stmt} (h : okS y N sc (.ret e) st = true) : ∃ ev pos, st = .Return (some ev) pos ∧ okE y N sc e ev = true := by
  cases st <;> first
    | (exact Bool.noConfusion (show false = true from h))
    | skip
  rename_i o pos
  cases o with
  | none => exact Bool.noConfusion (show false = true from h)
  | some ev =>
    unfold okS at h
    exact ⟨_, _, rfl, h⟩
theorem ss_ret (T : Top p C) (Pm : Prom p C n) {e : E} : SS p C n N (.ret e) := by
  intro sc W X σ F H L env out st D P G S g hk ev q
  obtain ⟨evx, pos, rfl, k1⟩ := ret_form hk
  refine T0S.of (ps_ret (te := T0 X evx) pe0) ?_
  unfold exec at ev
  cases h : evalE C e env with
  | none => rw [h] at ev; cases ev
  | some y =>
    obtain ⟨r, env1⟩ := y
    rw [h] at ev
    cases r with
    | error x =>
      cases ev
      exact (soundE T Pm e).1 G g k1 h (XcP.er q)
    | ok o =>
      cases ev
      exact (soundE T Pm e).1 G g k1 h fun F1 H1 L1 v Lv a cf => q F1 H1 L1 σ v Lv a cf (Agr.refl P σ)
theorem retf_form {y : Sy} {e : E} {st : Stmt} (h : okS y N sc (.retf e) st = true) : ∃ ev pos, st = .Return (some ev) pos ∧ okE y N sc e ev = true := by
  cases st <;> first
    | (exact Bool.noConfusion (show false = true from h))
    | skip
  rename_i o pos
  cases o with
  | none => exact Bool.noConfusion (show false = true from h)
  | some ev =>
    unfold okS at h
    exact ⟨_, _, rfl, h⟩
/-- what is handed back may change no more -/
theorem ss_retf (T : Top p C) (Pm : Prom p C n) {e : E} : SS p C n N (.retf e) := by
  intro sc W X σ F H L env out st D P G S g hk ev q
  obtain ⟨evx, pos, rfl, k1⟩ := retf_form hk
  refine T0S.of (ps_ret (te := T0 X evx) pe0) ?_
  unfold exec at ev
  cases h : evalE C e env with
  | none => rw [h] at ev; cases ev
  | some y =>
    obtain ⟨r, env1⟩ := y
    rw [h] at ev
    cases r with
    | error x =>
      cases ev
      exact (soundE T Pm e).1 G g k1 h (XcP.er q)
    | ok o =>
      cases ev
      refine (soundE T Pm e).1 G g k1 h fun F1 H1 L1 v Lv a cf => ?_
      obtain ⟨a1, g1, r1⟩ := cf.settle a
      exact q _ H1 L1 σ v [] (a1.sub (by simp)) ⟨g1, ⟨r1, rfl⟩, by simpa using g1.nd, fun _ h => absurd h (by simp)⟩ (Agr.refl P σ)
theorem ss_ret0 : SS p C n N .ret0 := by
  intro sc W X σ F H L env out st D P G S g hk ev q
  cases st <;> first
    | (exact Bool.noConfusion (show false = true from hk))
    | skip
  rename_i o pos
  cases o with
  | some ev => exact Bool.noConfusion (show false = true from hk)
  | none =>
    cases ev
    exact T0S.of ps_retN (q F H L σ .non [] ((After.refl F H L).sub (by simp)) ⟨g, ⟨rfl, rfl⟩, by simpa using g.nd, fun _ h => absurd h (by simp)⟩ (Agr.refl P σ))
theorem ss_brk : SS p C n N .brk := by
  intro sc W X σ F H L env out st D P G S g hk ev q
  cases st <;> first
    | (exact Bool.noConfusion (show false = true from hk))
    | skip
  cases ev
  exact T0S.of ps_break (q F H L σ (.refl F H L) g (Agr.refl P σ))
theorem ss_cnt : SS p C n N .cnt := by
  intro sc W X σ F H L env out st D P G S g hk ev q
  cases st <;> first
    | (exact Bool.noConfusion (show false = true from hk))
    | skip
  cases ev
  exact T0S.of ps_continue (q F H L σ (.refl F H L) g (Agr.refl P σ))
theorem ss_pas : SS p C n N .pas := by
  intro sc W X σ F H L env out st D P G S g hk ev q
  cases st <;> first
    | (exact Bool.noConfusion (show false = true from hk))
    | skip
  cases ev
  exact T0S.of ps_pass (q F H L σ (.refl F H L) g (Agr.refl P σ))
theorem ifs_form {y : Sy} {t : E} {a b : Ss} {st : Stmt} (h : okS y N sc (.ife t a b) st = true) : ∃ et sa sb pos, st = .If et sa sb pos ∧ okE y N sc t et = true ∧ okSs y N sc a sa = true ∧ okSs y N sc b sb = true := by
  cases st <;> first
    | (exact Bool.noConfusion (show false = true from h))
    | skip
  unfold okS at h
  simp only [Bool.and_eq_true] at h
  exact ⟨_, _, _, _, rfl, h.1.1, h.1.2, h.2⟩
theorem ss_ife (T : Top p C) (Pm : Prom p C n) {t : E} {a b : Ss} (sa : SSs p C n N a) (sb : SSs p C n N b) : SS p C n N (.ife t a b) := by
  intro sc W X σ F H L env out st D P G S g hk ev q
  obtain ⟨et, ta, tb, pos, rfl, k1, k2, k3⟩ := ifs_form hk
  refine T0S.of (ps_if (tc := T0T X et) (t := T0Ss X ta) (u := T0Ss X tb) pt0 pss0 pss0) ?_
  have A := ST.arg T (soundE T Pm t).2 G g k1 (Q := fun b H1 => if b = true then T0Ss X ta D σ H1 else T0Ss X tb D σ H1)
  unfold exec at ev
  cases h : argOf C t (evalE C t env) env with
  | none => rw [h] at ev; cases ev
  | some y =>
    obtain ⟨r, env1⟩ := y
    rw [h] at ev
    cases r with
    | error x =>
      cases ev
      exact A.2 x _ h (XcP.er q)
    | ok x =>
      dsimp only at ev
      cases h2 : truthOf env1 x with
      | none => rw [h2] at ev; cases ev
      | some k =>
        rw [h2] at ev
        refine A.1 x env1 k h h2 fun F1 H1 L1 a1 g1 => ?_
        cases k with
        | true => exact sa G S g1 k2 ev (q.after a1 (Agr.refl P σ))
        | false => exact sb G S g1 k3 ev (q.after a1 (Agr.refl P σ))
end
end T
namespace T
open PySem L2
/-- a loop of so many turns at most -/
def whileN (test : Env → Option (Except Exn Bool × Env)) (body : Env → Option (Except Exn Fl × Env)) : Nat → Env → Option (Except Exn Fl × Env)
  | 0, _ => none
  | k + 1, env => match test env with
    | some (.ok true, env1) => match body env1 with
      | some (.ok .nx, env2) => whileN test body k env2
      | some (.ok .cnt, env2) => whileN test body k env2
      | some (.ok .brk, env2) => some (.ok .nx, env2)
      | some (.ok (.ret o), env2) => some (.ok (.ret o), env2)
      | some (.error x, env2) => some (.error x, env2)
      | none => none
    | some (.ok false, env1) => some (.ok .nx, env1)
    | some (.error x, env1) => some (.error x, env1)
    | none => none
theorem while_turns {test : Env → Option (Except Exn Bool × Env)} {body : Env → Option (Except Exn Fl × Env)} {env : Env} {out : Except Exn Fl × Env} (h : whileLoop test body env = some out) : ∃ k, whileN test body k env = some out := by
  refine whileLoop.partial_correctness test body (fun env out => ∃ k, whileN test body k env = some out) (fun rec ih env out h => ?_) env out h
  cases ht : test env with
  | none => rw [ht] at h; cases h
  | some y =>
    obtain ⟨r, env1⟩ := y
    rw [ht] at h
    cases r with
    | error x => exact ⟨1, by unfold whileN; rw [ht]; exact h⟩
    | ok b =>
      cases b with
      | false => exact ⟨1, by unfold whileN; rw [ht]; exact h⟩
      | true =>
        cases hb : body env1 with
        | none =>
          have h' : (body env1 >>= fun y => match y with
            | (.ok .nx, env2) => rec env2
            | (.ok .cnt, env2) => rec env2
            | (.ok .brk, env2) => ok .nx env2
            | (.ok (.ret o), env2) => ok (.ret o) env2
            | (.error x, env2) => some (.error x, env2)) = some out := h
          rw [hb] at h'
          cases h'
        | some y =>
          obtain ⟨r, env2⟩ := y
          have h' : (body env1 >>= fun y => match y with
            | (.ok .nx, env2) => rec env2
            | (.ok .cnt, env2) => rec env2
            | (.ok .brk, env2) => ok .nx env2
            | (.ok (.ret o), env2) => ok (.ret o) env2
            | (.error x, env2) => some (.error x, env2)) = some out := h
          rw [hb] at h'
          cases r with
          | error x => exact ⟨1, by unfold whileN; rw [ht]; dsimp only; rw [hb]; exact h'⟩
          | ok f =>
            cases f with
            | nx =>
              obtain ⟨k, hk⟩ := ih env2 out h'
              exact ⟨k + 1, by unfold whileN; rw [ht]; dsimp only; rw [hb]; exact hk⟩
            | cnt =>
              obtain ⟨k, hk⟩ := ih env2 out h'
              exact ⟨k + 1, by unfold whileN; rw [ht]; dsimp only; rw [hb]; exact hk⟩
            | brk => exact ⟨1, by unfold whileN; rw [ht]; dsimp only; rw [hb]; exact h'⟩
            | ret o => exact ⟨1, by unfold whileN; rw [ht]; dsimp only; rw [hb]; exact h'⟩
section
variable {p : Pg} {C : Ctx} {n : Nat} {N : List Str} {sc : Scope} {W : WX} {X : Cx} {F F0 F1 F' H H1 H' : Hp} {σ σ1 : L2.St} {env env1 : Env} {L L1 : List Addr} {c : Cn} {P : Nat → Bool}
theorem whl_form {y : Sy} {t : E} {b : Ss} {st : Stmt} (h : okS y N sc (.whl t b) st = true) : ∃ et sb pos, st = .While et sb [] pos ∧ okE y N sc t et = true ∧ okSs y N sc b sb = true := by
  cases st <;> first
    | (exact Bool.noConfusion (show false = true from h))
    | skip
  rename_i et sb orelse pos
  cases orelse with
  | cons _ _ => exact Bool.noConfusion (show false = true from h)
  | nil =>
    unfold okS at h
    simp only [Bool.and_eq_true] at h
    exact ⟨_, _, _, rfl, h.1, h.2⟩
theorem ss_whl (T : Top p C) (Pm : Prom p C n) {t : E} {b : Ss} (sb : SSs p C n N b) : SS p C n N (.whl t b) := by
  intro sc W X σ F H L env out st D P G S g hk ev q
  obtain ⟨et, tb, pos, rfl, k1, k2⟩ := whl_form hk
  refine T0S.of (ps_while (tc := T0T X et) (tb := T0Ss X tb) G.pass pt0 pss0) ?_
  unfold exec at ev
  obtain ⟨m0, hm⟩ := while_turns ev
  refine ⟨fun m σ' H' => ∃ F' L' env', After F H L F' H' L' ∧ Cfg p.c F' H' σ' env' L' ∧ Agr P σ σ' ∧ whileN (fun env => match argOf C t (evalE C t env) env with
    | some (.ok x, env1) => match truthOf env1 x with
      | some k => ok k env1
      | none => none
    | some (.error x, env1) => some (.error x, env1)
    | none => none) (fun env => execs C P b env) m env' = some out, ⟨m0, F, L, env, .refl F H L, g, Agr.refl P σ, hm⟩, ?_⟩
  rintro m σ' H' ⟨F', L', env', a', g', ag, hw⟩
  cases m with
  | zero => cases hw
  | succ m =>
    unfold whileN at hw
    have A := ST.arg T (soundE T Pm t).2 G g' k1 (Q := fun k H1 => if k = true then ∃ N : L2.St → Hp → Prop, (∀ σ'' H'', N σ'' H'' → ∃ m', m' < m + 1 ∧ ∃ F' L' env', After F H L F' H'' L' ∧ Cfg p.c F' H'' σ'' env' L' ∧ Agr P σ σ'' ∧ whileN (fun env => match argOf C t (evalE C t env) env with
      | some (.ok x, env1) => match truthOf env1 x with
        | some k => ok k env1
        | none => none
      | some (.error x, env1) => some (.error x, env1)
      | none => none) (fun env => execs C P b env) m' env' = some out) ∧ T0Ss X tb { D with nx := N, ct := N, bk := D.nx } σ' H1 else D.nx σ' H1)
    cases h : argOf C t (evalE C t env') env' with
    | none => rw [h] at hw; cases hw
    | some y =>
      obtain ⟨r, env1⟩ := y
      rw [h] at hw
      cases r with
      | error x =>
        cases hw
        exact A.2 x _ h (XcP.er (OutS.after q a' ag))
      | ok x =>
        dsimp only at hw
        cases h2 : truthOf env1 x with
        | none => rw [h2] at hw; cases hw
        | some k =>
          rw [h2] at hw
          refine A.1 x env1 k h h2 fun F1 H1 L1 a1 g1 => ?_
          cases k with
          | false =>
            cases hw
            exact q F1 H1 L1 σ' (a'.trans a1) g1 ag
          | true =>
            dsimp only at hw
            rw [if_pos rfl]
            refine ⟨fun σ'' H'' => ∃ F' L' env', After F H L F' H'' L' ∧ Cfg p.c F' H'' σ'' env' L' ∧ Agr P σ σ'' ∧ whileN (fun env => match argOf C t (evalE C t env) env with
              | some (.ok x, env1) => match truthOf env1 x with
                | some k => ok k env1
                | none => none
              | some (.error x, env1) => some (.error x, env1)
              | none => none) (fun env => execs C P b env) m env' = some out, fun σ'' H'' nx => ⟨m, Nat.lt_succ_self m, nx⟩, ?_⟩
            cases h3 : execs C P b env1 with
            | none => rw [h3] at hw; cases hw
            | some y =>
              obtain ⟨r2, env2⟩ := y
              rw [h3] at hw
              refine sb G S g1 k2 h3 ?_
              have aa := a'.trans a1
              cases r2 with
              | error x =>
                cases hw
                exact OutS.after (D := { D with nx := _, ct := _, bk := _ }) (out := (.error x, env2)) q aa ag
              | ok f =>
                cases f with
                | nx => exact fun F2 H2 L2 σ2 b2 g2 ag2 => ⟨F2, L2, env2, aa.trans b2, g2, ag.trans ag2, hw⟩
                | cnt => exact fun F2 H2 L2 σ2 b2 g2 ag2 => ⟨F2, L2, env2, aa.trans b2, g2, ag.trans ag2, hw⟩
                | brk =>
                  cases hw
                  exact fun F2 H2 L2 σ2 b2 g2 ag2 => q F2 H2 L2 σ2 (aa.trans b2) g2 (ag.trans ag2)
                | ret o =>
                  cases hw
                  exact fun F2 H2 L2 σ2 v Lv b2 g2 ag2 => q F2 H2 L2 σ2 v Lv (aa.trans b2) g2 (ag.trans ag2)
theorem for_form {y : Sy} {tg : Tg} {k : ItK} {it : Es} {b : Ss} {st : Stmt} (h : okS y N sc (.for_ tg k it b) st = true) : ∃ etg eit sb pos eas, st = .For etg eit sb [] pos ∧ okTg N sc tg etg = true ∧ itParts sc tg.isTp k eit = some eas ∧ okEs y N sc it eas = true ∧ okSs y N sc b sb = true := by
  cases st <;> first
    | (exact Bool.noConfusion (show false = true from h))
    | skip
  rename_i etg eit sb orelse pos
  cases orelse with
  | cons _ _ => exact Bool.noConfusion (show false = true from h)
  | nil =>
    unfold okS at h
    simp only [Bool.and_eq_true] at h
    cases hp : itParts sc tg.isTp k eit with
    | none => rw [hp] at h; cases h.1.2
    | some eas =>
      rw [hp] at h
      exact ⟨_, _, _, _, eas, rfl, h.1.1, hp, h.1.2, h.2⟩
theorem ss_for (T : Top p C) (Pm : Prom p C n) {tg : Tg} {k : ItK} {it : Es} {b : Ss} (sb : SSs p C n N b) : SS p C n N (.for_ tg k it b) := by
  intro sc W X σ F H L env out st D P G S g hk ev q
  obtain ⟨etg, eit, tb, pos, eas, rfl, k1, k2, k3, k4⟩ := for_form hk
  have pl := okEs_plain k3
  obtain ⟨ple, wit⟩ := it_plain k2 pl
  refine T0S.of (ps_for (g := T0G X etg) (tb := T0Ss X tb) G.pass G.calm (pi_iG T G k1 k2 pl) pg0 pss0 (plain_fold ple X.env)) ?_
  unfold exec at ev
  cases hh : evalEs C it env with
  | none => rw [hh] at ev; cases ev
  | some y =>
    obtain ⟨ra, env1⟩ := y
    rw [hh] at ev
    cases ra with
    | error x =>
      cases ev
      obtain ⟨ds, xs, hd⟩ := wit
      exact ⟨ds, xs, hd, ((soundEs T Pm it).1 G g k3 hh).2 x _ rfl (XcP.er q)⟩
    | ok as =>
      dsimp only at ev
      unfold forRun at ev
      cases hz : freezes as env1 with
      | none => rw [hz] at ev; cases ev
      | some y =>
        obtain ⟨ds, l, env2⟩ := y
        rw [hz] at ev
        dsimp only at ev
        cases hd : iterD k ds with
        | none => rw [hd] at ev; cases ev
        | some xs =>
          rw [hd] at ev
          dsimp only at ev
          refine ⟨ds, xs, hd, (((soundEs T Pm it).1 G g k3 hh).1 as env1 rfl fun F1 H1 L1 vs a1 g1 r1 => ?_).toL⟩
          obtain ⟨M, L', z, z2, z3⟩ := g1.freezes hz r1
          refine ⟨_, z.cfg.ex, z2, fun J io => ?_⟩
          have a2 := a1.trans (z.after g1)
          refine ⟨fun i m σ' H' => m = xs.length - i ∧ ∃ F' L'' env', After (addF F1 H1 M) H1 L' F' H' L'' ∧ Cfg p.c F' H' σ' env' L'' ∧ Agr P σ σ' ∧ forLoop P tg (fun env => execs C P b env) (xs.drop i) env' = some out, ⟨_, rfl, _, L', env2, .refl _ _ _, z.cfg, Agr.refl P σ, by simpa using ev⟩, ?_⟩
          rintro i m σ' H' ⟨rfl, F', L'', env', af, g', ag, hw⟩
          have exH := af.fs.trans g'.ex
          by_cases hi : i < xs.length
          · right
            refine ⟨io.go i H' exH hi, fun σ'' H'' => ∃ F' L'' env', After (addF F1 H1 M) H1 L' F' H'' L'' ∧ Cfg p.c F' H'' σ'' env' L'' ∧ Agr P σ σ'' ∧ forLoop P tg (fun env => execs C P b env) (xs.drop (i + 1)) env' = some out, fun σ'' H'' nx => ⟨_, by omega, rfl, nx⟩, fun x H'' hy => ?_⟩
            have hx : xs[i]? = some xs[i] := List.getElem?_eq_getElem hi
            obtain ⟨e1, rp⟩ := io.yld i H' x H'' xs[i] exH hx hy
            rw [List.drop_eq_getElem_cons hi] at hw
            unfold forLoop at hw
            cases h1 : assignD P tg xs[i] env' with
            | none => rw [h1] at hw; cases hw
            | some env3 =>
              rw [h1] at hw
              dsimp only at hw
              have gm : Cfg p.c F' H'' σ' env' L'' := ⟨g'.ex.trans e1, RepE.mono (Ex.refl F') (fun a _ u e => e1 a u e) g'.rep, g'.nd, g'.ow⟩
              have am : After (addF F1 H1 M) H1 L' F' H'' L'' := ⟨af.fs, fun a o e n => e1 a o (af.fr a o e n), fun a ha => by
                cases e : H' a with
                | none => exact absurd e (af.dm a ha)
                | some u => rw [e1 a u e]; simp, af.lo, af.fn⟩
              refine tg_ok (P := P) G (own := sc) (fun x _ => S.fn x) (S.lk G) k1 h1 gm ?_ fun σ2 L2 g2 s2 agx lg => ?_
              · cases ht : tg.isTp with
                | true =>
                  rw [ht] at rp
                  exact RepW.mono af.fs rp
                | false =>
                  rw [ht] at rp
                  exact Rep.mono af.fs rp
              · have ag2 : Agr P σ σ2 := ag.trans ⟨agx, lg⟩
                have am2 := am.sub s2
                cases h3 : execs C P b env3 with
                | none => rw [h3] at hw; cases hw
                | some y =>
                  obtain ⟨r2, env4⟩ := y
                  rw [h3] at hw
                  refine sb G S g2 k4 h3 ?_
                  cases r2 with
                  | error x =>
                    cases hw
                    exact OutS.after (D := { D with nx := _, ct := _, bk := _ }) (out := (.error x, env4)) q (a2.trans am2) ag2
                  | ok f =>
                    cases f with
                    | nx => exact fun F2 H2 L2 σ3 b2 g3 ag3 => ⟨F2, L2, env4, am2.trans b2, g3, ag2.trans ag3, hw⟩
                    | cnt => exact fun F2 H2 L2 σ3 b2 g3 ag3 => ⟨F2, L2, env4, am2.trans b2, g3, ag2.trans ag3, hw⟩
                    | brk =>
                      cases hw
                      exact fun F2 H2 L2 σ3 b2 g3 ag3 => q F2 H2 L2 σ3 ((a2.trans am2).trans b2) g3 (ag2.trans ag3)
                    | ret o =>
                      cases hw
                      exact fun F2 H2 L2 σ3 v Lv b2 g3 ag3 => q F2 H2 L2 σ3 v Lv ((a2.trans am2).trans b2) g3 (ag2.trans ag3)
          · left
            rw [List.drop_eq_nil_of_le (by omega)] at hw
            cases hw
            exact ⟨io.stop i H' exH (by omega), q F' H' L'' σ' (a2.trans af) g' ag⟩
end
end T
namespace T
open PySem L2
section
variable {p : Pg} {C : Ctx} {n : Nat} {N : List Str} {sc : Scope} {W : WX} {X : Cx} {F F0 F1 F' H H1 H' : Hp} {σ σ1 : L2.St} {env env1 : Env} {L L1 : List Addr} {c : Cn} {P : Nat → Bool}
theorem rai_form {y : Sy} {k : Nat} {es : Es} {st : Stmt} (h : okS y N sc (.rai k es) st = true) : ∃ x q e1 eas pos rp, st = .Raise (some (.Call (.Name x q) (e1 :: eas) [] pos)) none rp ∧ y.cl[k]? = some x ∧ okGl sc x = true ∧ okEs y N sc es (e1 :: eas) = true ∧ (e1 :: eas).length ≤ 1000 := by
  cases st <;> first
    | (exact Bool.noConfusion (show false = true from h))
    | skip
  rename_i ex cause pos
  cases ex with
  | none => exact Bool.noConfusion (show false = true from h)
  | some ev =>
    cases cause with
    | some _ => exact Bool.noConfusion (show false = true from h)
    | none =>
      unfold okS at h
      cases q : callP ev with
      | none => rw [q] at h; cases h
      | some z =>
        obtain ⟨x, eas⟩ := z
        rw [q] at h
        simp only [Bool.and_eq_true, decide_eq_true_eq] at h
        obtain ⟨q1, e1, r, p1, rfl, rfl⟩ := callP_some q
        exact ⟨_, _, _, _, _, _, rfl, by simpa using h.1.1.1, h.1.1.2, h.1.2, h.2⟩
theorem ss_rai (T : Top p C) (Pm : Prom p C n) {k : Nat} {es : Es} : SS p C n N (.rai k es) := by
  intro sc W X σ F H L env out st D P G S g hk ev q
  obtain ⟨x, q1, e1, eas, pos, rp, rfl, k1, k2, k3, k4⟩ := rai_form hk
  have pl := okEs_plain k3
  unfold exec at ev
  cases hf : C.exf k with
  | none => rw [hf] at ev; cases ev
  | some ns =>
    rw [hf] at ev
    dsimp only at ev
    cases h : evalEs C es env with
    | none => rw [h] at ev; cases ev
    | some y =>
      obtain ⟨r, env1⟩ := y
      rw [h] at ev
      cases r with
      | error x0 =>
        cases ev
        exact rai_ok (env1 := env) T G hf k1 k2 pl (T0A.mono (T0L.args pl (((soundEs T Pm es).1 G g k3 h).2 x0 _ rfl (XcP.er q) (R := Nope))) fun _ _ z => z.elim)
      | ok as =>
        dsimp only at ev
        cases hz : freezes as env1 with
        | none => rw [hz] at ev; cases ev
        | some y =>
          obtain ⟨ds, l, env2⟩ := y
          rw [hz] at ev
          dsimp only at ev
          split at ev
          · rename_i hl
            cases ev
            simp only [Bool.and_eq_true, decide_eq_true_eq] at hl
            refine rai_ok (env1 := env2) T G hf k1 k2 pl (T0L.args pl (((soundEs T Pm es).1 G g k3 h).1 as env1 rfl fun F1 H1 L1 vs a1 g1 r1 => ?_).toL)
            obtain ⟨M, L', z, z2, z3⟩ := g1.freezes hz r1
            exact ⟨_, L', ds, z.cfg, z2, hl.1, hl.2, (XcP.er q).after (a1.trans (z.after g1))⟩
          · cases ev
end
end T
namespace T
open PySem L2
section
variable {p : Pg} {C : Ctx} {n : Nat} {N : List Str} {sc : Scope} {W : WX} {X : Cx} {F F0 F1 F' H H1 H' : Hp} {σ σ1 : L2.St} {env env1 : Env} {L L1 : List Addr} {c : Cn} {P : Nat → Bool}
theorem ss_par (T : Top p C) (Pm : Prom p C n) {i j : Nat} {a b : E} : SS p C n N (.par i j a b) := by
  intro sc W X σ F H L env out st D P G S g hk ev q
  unfold okS at hk
  cases hp : parP st with
  | none => rw [hp] at hk; cases hk
  | some t =>
    obtain ⟨x, px, z, pz, ea, eb⟩ := t
    rw [hp] at hk
    simp only [Bool.and_eq_true] at hk
    obtain ⟨⟨⟨⟨⟨⟨k1, k2⟩, k3⟩, k4⟩, k5⟩, k6⟩, k7⟩ := hk
    obtain ⟨kt, pt, k2', p2, pos, rfl⟩ := parP_some hp
    have sk : X.env.scope.kind = .function := by rw [G.sc]; exact S.kind
    have k5' : parB X.env.scope x z px pz ea eb = true := by rw [G.sc]; exact k5
    have st := stores_par (pt := pt) (p2 := p2) (kt := kt) (k2 := k2') sk k3 k4 k5'
    unfold parB at k5'
    simp only [Bool.and_eq_true, Bool.not_eq_true'] at k5'
    have lx : X.env.scope.names.lookup x = some .local := by simpa using k5'.1.1.1.1.1
    have lz : X.env.scope.names.lookup z = some .local := by simpa using k5'.1.1.1.1.2
    have nij : i ≠ j := fun e => by
      subst e
      have e2 : some x = some z := (beq_opt k1).symm.trans (beq_opt k2)
      cases e2
      have := k5'.1.1.2
      simp at this
    refine T0S.of (ps_par (ta := T0A X [ea, eb]) G.calm (by rw [G.N]; exact G.nd) (by rw [G.N]; exact beq_opt k1) (by rw [G.N]; exact beq_opt k2) nij lx lz pa0 st rfl) ?_
    refine T0L.args (by simp [k3, k4]) ?_
    unfold exec at ev
    cases h : evalE C a env with
    | none => rw [h] at ev; cases ev
    | some y =>
      obtain ⟨r, env1⟩ := y
      rw [h] at ev
      cases r with
      | error x0 =>
        cases ev
        exact (soundE T Pm a).1 G g k6 h (XcP.er q)
      | ok o1 =>
        dsimp only at ev
        refine (soundE T Pm a).1 G g k6 h fun F1 H1 L1 v Lv a1 cf => ?_
        cases h2 : evalE C b env1 with
        | none => rw [h2] at ev; cases ev
        | some y =>
          obtain ⟨r2, env2⟩ := y
          rw [h2] at ev
          have a1' : After F H L F1 H1 L1 := a1.sub fun b hb => List.mem_append_left _ hb
          cases r2 with
          | error x0 =>
            cases ev
            exact (soundE T Pm b).1 G cf.cfg k7 h2 ((XcP.er q).after a1')
          | ok o2 =>
            dsimp only at ev
            split at ev
            · cases ev
            · rename_i hc
              cases ev
              simp only [Bool.or_eq_true, decide_eq_true_eq, not_or, Bool.not_eq_true] at hc
              obtain ⟨⟨⟨⟨c1, c2⟩, c3⟩, c4⟩, c5⟩ := hc
              refine (soundE T Pm b).1 G cf.cfg k7 h2 fun F2 H2 L2 w Lw a2 cf2 => ⟨v, w, rfl, ?_⟩
              have nd := List.nodup_append.mp cf.nd
              obtain ⟨m1, m2, m3⟩ := a2.hold cf.val (fun x hx m => nd.2.2 x m x hx rfl) cf.ow
              -- the first name, then the second
              have nd2 := List.nodup_append.mp cf2.nd
              obtain ⟨L3, g3, s3⟩ := cf2.cfg.setD (i := i) (o := some o1) (x := some v) (M := Lv) (by omega) ⟨v, rfl, m1⟩ nd.2.1 (fun x hx m => m2 x hx (List.mem_append_left _ m)) m3
              obtain ⟨L4, g4, s4⟩ := g3.setD (i := j) (o := some o2) (x := some w) (M := Lw) (by simp; omega) ⟨w, rfl, cf2.val⟩ nd2.2.1 (fun x hx m => by
                rcases s3 x m with z | z
                · exact nd2.2.2 x z x hx rfl
                · exact m2 x z (List.mem_append_right _ hx)) cf2.ow
              have b2 := a2.beside Lv
              have aa : After F H L F2 H2 (Lv ++ (L2 ++ Lw)) := (a1.sub (L'' := Lv ++ L1) fun x hx => by
                rcases List.mem_append.mp hx with z | z
                · exact List.mem_append_right _ z
                · exact List.mem_append_left _ z).trans b2
              refine q F2 H2 L4 _ (aa.sub fun x hx => ?_) g4 ((agr_set c1).trans (agr_set c2))
              rcases s4 x hx with z | z
              · rcases s3 x z with z | z
                · exact List.mem_append_right _ (List.mem_append_left _ z)
                · exact List.mem_append_left _ z
              · exact List.mem_append_right _ (List.mem_append_right _ z)
end
end T
namespace T
open PySem L2
section
variable {p : Pg} {C : Ctx} {n : Nat} {N : List Str} {sc : Scope} {W : WX} {X : Cx} {F F0 F1 F' H H1 H' : Hp} {σ σ1 : L2.St} {env env1 : Env} {L L1 : List Addr} {c : Cn} {P : Nat → Bool}
/-- a place is written anew: one object of it changes -/
theorem Cfg.rewrite (g : Cfg c F H σ env L) {i : Nat} {q : List Step} {o : O} (h : env.at i q = some o) : ∃ v0 v A M B, σ[i]? = some (some v0) ∧ VAt c H v0 q v ∧ L = A ++ M ++ B ∧ RepO c F H o v M ∧ ∀ (a : Addr) (u : HO) (o' : O) (M' : List Addr), a ∈ M → RepO c F (upd H a u) o' v M' → M'.Nodup → (∀ x ∈ M', x ∉ A ++ B) → (∀ x ∈ M', F x = none) →
    ∃ env', env.put i q o' = some env' ∧ Cfg c F (upd H a u) σ env' (A ++ M' ++ B) := by
  obtain ⟨v0, v, A, M, B, h1, h2, rfl, h4, h5⟩ := g.at h
  have nd := nodup3 g.nd
  refine ⟨v0, v, A, M, B, h1, h2, rfl, h4, fun a u o' M' ha r nd' dis ow => ?_⟩
  have fa : F a = none := g.ow a (mem3.mpr (.inr ha))
  obtain ⟨env', e1, e2⟩ := h5 F (upd H a u) o' M' (Ex.refl F) (fun b hb w e => by
    rw [upd_ne fun z : b = a => nd.2.2 a ha (z ▸ hb)]
    exact e) r
  refine ⟨env', e1, ⟨fun b w e => ?_, e2, nodup3' nd.1 nd' dis, fun b hb => ?_⟩⟩
  · rw [upd_ne fun z => by rw [z, fa] at e; cases e]
    exact g.ex b w e
  · rcases mem3.mp hb with z | z
    · exact g.ow b (mem3.mpr (.inl z))
    · exact ow b z
/-- a list's item is written -/
theorem RepO.setIx {xs : List O} {v : V} {M : List Addr} (r : RepO c F H (.lst xs) v M) {k : Nat} (hk : k < xs.length) (nd : M.Nodup) {x : O} {y : V} {Ly : List Addr} (ry : RepO c F H x y Ly) (ndy : Ly.Nodup) (dis : ∀ b ∈ Ly, b ∉ M) :
    ∃ a vs M', v = .ref a ∧ H a = some (.lst vs) ∧ vs.length = xs.length ∧ a ∈ M ∧ RepO c F (upd H a (.lst (vs.set k y))) (.lst (xs.set k x)) v M' ∧ M'.Nodup ∧ ∀ b ∈ M', b ∈ M ∨ b ∈ Ly := by
  obtain ⟨a, vs, Lx, rfl, e2, e3, rfl⟩ := r
  have nd0 := List.nodup_cons.mp nd
  obtain ⟨w, A, M, B, h1, rfl, h3, h4⟩ := RepOs.at e3 (List.getElem?_eq_getElem hk)
  have nd1 := nodup3 nd0.2
  have ay : a ∉ Ly := fun m => dis a m List.mem_cons_self
  have ab : a ∉ A ++ B := fun m => nd0.1 (mem3.mpr (.inl m))
  have kp : ∀ b, b ≠ a → ∀ u, H b = some u → (upd H a (.lst (vs.set k y))) b = some u := fun b hb u e => by rw [upd_ne hb]; exact e
  have r2 := h4 F (upd H a (.lst (vs.set k y))) x y Ly (Ex.refl F) (fun b hb u e => kp b (fun z => ab (z ▸ hb)) u e) (RepO.mono (Ex.refl F) (fun b hb u e => kp b (fun z => ay (z ▸ hb)) u e) ry)
  refine ⟨a, vs, a :: (A ++ Ly ++ B), rfl, e2, e3.length, List.mem_cons_self, ⟨a, _, _, rfl, upd_same, r2, rfl⟩, List.nodup_cons.mpr ⟨fun m => ?_, nodup3' nd1.1 ndy fun b hb m => dis b hb (List.mem_cons_of_mem _ (mem3.mpr (.inl m)))⟩, fun b hb => ?_⟩
  · rcases mem3.mp m with z | z
    · exact ab z
    · exact ay z
  · rcases List.mem_cons.mp hb with z | z
    · exact .inl (z ▸ List.mem_cons_self)
    · rcases mem3.mp z with z | z
      · exact .inl (List.mem_cons_of_mem _ (mem3.mpr (.inl z)))
      · exact .inr z
theorem assign_sub {er ek : Expr} {pt : Pos} {env : PySem.Env} (h : plainE ek = true) (v : Value) : assign (.Subscript er ek pt) env v = (do
      let ov ← holding [v] (eval er env)
      let iv ← holding [v, ov] (eval ek env)
      standAt pt
      holding [v, ov, iv] (setItem ov iv v)
      release [v, ov, iv] []) := by
  cases ek <;> first
    | rfl
    | (simp [plainE] at h; done)
theorem sti_core (cf : Cfg c F H σ env L) {i : Nat} {q : List Step} {o o' x : O} {kd : D} (h : env.at i q = some o) (hs : setIx o kd x = some o') (hp : env.put i q o' = some env1) {vo vk v : V} (ar : ArgRep c F H σ (.ref i q) vo) (rk : Rep c F kd vk) {Lv : List Addr} (rx : RepO c F H x v Lv) (nd : Lv.Nodup) (dis : ∀ b ∈ Lv, b ∉ L) (ow : ∀ b ∈ Lv, F b = none)
    {Q : Hp → Prop} (k : ∀ a u L1, a ∈ L → (∀ b ∈ L1, b ∈ L ∨ b ∈ Lv) → Cfg c F (upd H a u) σ env1 L1 → Q (upd H a u)) : rSetL vo vk v H Q := by
  obtain ⟨v0, w, A, M, B, h1, h2, rfl, h4, h5⟩ := cf.rewrite h
  have e1 := ArgRep.uniq ar h1 h2
  subst e1
  have nd0 := nodup3 cf.nd
  unfold setIx at hs
  split at hs
  · rename_i xs j
    split at hs
    · rename_i n hn
      cases hs
      obtain ⟨hn1, hn2, hn3, hn4⟩ := ixN_seq hn
      obtain ⟨a, vs, M', rfl, t2, t3, t4, t5, t6, t7⟩ := RepO.setIx h4 (k := n) hn2 nd0.2.1 rx nd fun b hb m => dis b hb (mem3.mpr (.inr m))
      obtain ⟨env', e2, e3⟩ := h5 a _ _ M' t4 t5 t6 (fun b hb m => by
        rcases t7 b hb with z | z
        · exact nd0.2.2 b z m
        · exact dis b z (mem3.mpr (.inl m))) fun b hb => by
        rcases t7 b hb with z | z
        · exact cf.ow b (mem3.mpr (.inr z))
        · exact ow b z
      rw [hp] at e2
      cases e2
      refine ⟨a, vs, j, n, rfl, rk, t2, by rw [t3]; exact hn, k a _ _ (mem3.mpr (.inr t4)) (fun b hb => ?_) e3⟩
      rcases mem3.mp hb with z | z
      · exact .inl (mem3.mpr (.inl z))
      · exact (t7 b z).imp (fun z => mem3.mpr (.inr z)) id
    · cases hs
  · cases hs
theorem ss_sti (T : Top p C) (Pm : Prom p C n) {r : R} {k e : E} : SS p C n N (.sti r k e) := by
  intro sc W X σ F H L env out st D P G S g hk ev q
  unfold okS at hk
  cases hp : stiP st with
  | none => rw [hp] at hk; cases hk
  | some t =>
    obtain ⟨er, ek, evx⟩ := t
    rw [hp] at hk
    simp only [Bool.and_eq_true, Bool.not_eq_true'] at hk
    obtain ⟨⟨⟨⟨k1, k2⟩, k3⟩, k4⟩, k5⟩ := hk
    obtain ⟨pt, pos, rfl⟩ := stiP_some hp
    refine T0S.of (ps_asg (te := T0 X evx) (g := gSub (T0 X er) (T0 X ek) rSetL) pe0 (pg_sub pe0 pe0 set_list (assign_sub k5)) (swap_sub (ev := evx) (a := er) (b := ek) (pt := pt) (l := pos.line) (env := X.env)) (stores_no k4) rfl) ?_
    unfold exec at ev
    cases h : evalE C e env with
    | none => rw [h] at ev; cases ev
    | some y =>
      obtain ⟨re, env1⟩ := y
      rw [h] at ev
      cases re with
      | error x =>
        cases ev
        exact (soundE T Pm e).1 G g k1 h (XcP.er q)
      | ok x =>
        dsimp only at ev
        refine (soundE T Pm e).1 G g k1 h fun F1 H1 L1 v Lv a1 cf => ?_
        have nd1 := List.nodup_append.mp cf.nd
        have dis1 : ∀ b ∈ Lv, b ∉ L1 := fun b hb m => nd1.2.2 b m b hb rfl
        cases hr : evalR C env1 r with
        | none => rw [hr] at ev; cases ev
        | some ar =>
          rw [hr] at ev
          cases ar with
          | val d => cases ev
          | ref i pp =>
            dsimp only at ev
            refine soundR T G cf.cfg k2 hr fun vo hvo => ?_
            -- behind the key
            have fin : ∀ F2 H2 L2 kd vk env2, After F1 H1 L1 F2 H2 L2 → Cfg p.c F2 H2 σ env2 L2 → Rep p.c F2 kd vk → ArgRep p.c F2 H2 σ (.ref i pp) vo → (match env2.at i pp with
                | some o => match setIx o kd x with
                  | some o' => match env2.put i pp o' with
                    | some env3 => ok Fl.nx env3
                    | none => none
                  | none => none
                | none => none) = some out → rSetL vo vk v H2 fun H3 => D.nx σ H3 := by
              intro F2 H2 L2 kd vk env2 a2 cf2 rk ar ev
              cases h3 : env2.at i pp with
              | none => rw [h3] at ev; cases ev
              | some o =>
                rw [h3] at ev
                dsimp only at ev
                cases h4 : setIx o kd x with
                | none => rw [h4] at ev; cases ev
                | some o' =>
                  rw [h4] at ev
                  dsimp only at ev
                  cases h5 : env2.put i pp o' with
                  | none => rw [h5] at ev; cases ev
                  | some env3 =>
                    rw [h5] at ev
                    cases ev
                    obtain ⟨m1, m2, m3⟩ := a2.hold cf.val dis1 cf.ow
                    refine sti_core cf2 h3 h4 h5 ar rk m1 nd1.2.1 m2 m3 fun a u L3 ha sub g3 => ?_
                    have aa : After F H L F2 H2 (Lv ++ L2) := (a1.sub (L'' := Lv ++ L1) fun x hx => by
                      rcases List.mem_append.mp hx with z | z
                      · exact List.mem_append_right _ z
                      · exact List.mem_append_left _ z).trans (a2.beside Lv)
                    refine q F2 _ L3 σ (aa.trans (After.write (List.mem_append_right _ ha) fun b hb => ?_)) g3 (Agr.refl P σ)
                    rcases sub b hb with z | z
                    · exact List.mem_append_right _ z
                    · exact List.mem_append_left _ z
            cases h2 : argOf C k (evalE C k env1) env1 with
            | none => rw [h2] at ev; cases ev
            | some y =>
              obtain ⟨rk, env2⟩ := y
              rw [h2] at ev
              have a1' : After F H L F1 H1 L1 := a1.sub fun b hb => List.mem_append_left _ hb
              cases rk with
              | error x0 =>
                cases ev
                exact SE.arg T (soundE T Pm k).1 G cf.cfg k3 h2 ((XcP.er q).after a1')
              | ok ak =>
                cases ak with
                | ref _ _ => cases ev
                | val kd =>
                  dsimp only at ev
                  split at ev
                  · rename_i hc
                    rw [Bool.or_eq_true] at hc
                    rcases hc with hc | hc
                    · have e0 : pp = [] := by simpa using hc
                      subst e0
                      refine SE.arg T (soundE T Pm k).1 G cf.cfg k3 h2 fun F2 H2 L2 vk a2 cf2 rk => fin F2 H2 L2 kd vk env2 a2 cf2 rk ?_ ev
                      obtain ⟨v0, b1, b2⟩ := hvo
                      cases b2
                      exact ⟨_, b1, .nil _⟩
                    · cases k with
                      | rd rr =>
                        unfold argOf at h2
                        dsimp only at h2
                        cases h3 : evalR C env1 rr with
                        | none => rw [h3] at h2; cases h2
                        | some aa =>
                          rw [h3] at h2
                          cases h2
                          exact soundR T G cf.cfg (by simpa [okE] using k3) h3 fun vk hv => fin F1 H1 L1 kd vk env1 (.refl F1 H1 L1) cf.cfg hv hvo ev
                      | _ => exact Bool.noConfusion (show false = true from hc)
                  · cases ev
theorem setF_rep {f : Nat} {x : O} {y : V} {Ly : List Addr} (ry : RepO c F H x y Ly) (ndy : Ly.Nodup) : ∀ {fs : List (Str × V)} {ns : List Nat} {os : List O} {Lx : List Addr}, fs.map (·.1) = ns.map c.FN → RepOs c F H os (fs.map (·.2)) Lx → Lx.Nodup → (∀ b ∈ Ly, b ∉ Lx) →
    ∃ Lx', (putF (c.FN f) y fs).map (·.1) = (setF ns os f x).1.map c.FN ∧ RepOs c F H (setF ns os f x).2 ((putF (c.FN f) y fs).map (·.2)) Lx' ∧ Lx'.Nodup ∧ ∀ b ∈ Lx', b ∈ Lx ∨ b ∈ Ly
  | [], ns, os, Lx, e, r, nd, dis => by
    cases ns with
    | cons _ _ => simp at e
    | nil =>
      have e1 : setF ([] : List Nat) os f x = ([f], [x]) := by unfold setF; rfl
      rw [e1]
      exact ⟨Ly, rfl, ⟨y, [], Ly, [], rfl, ry, ⟨rfl, rfl⟩, by simp⟩, ndy, fun b hb => .inr hb⟩
  | (g, w) :: fs, ns, os, Lx, e, r, nd, dis => by
    cases ns with
    | nil => simp at e
    | cons m ns =>
      cases os with
      | nil => exact absurd r.1 (by simp)
      | cons o os =>
        simp only [List.map_cons, List.cons.injEq] at e
        obtain ⟨e1, e2⟩ := e
        obtain ⟨w', r', L1, L2, e3, r1, r2, rfl⟩ := r
        simp only [List.map_cons, List.cons.injEq] at e3
        obtain ⟨rfl, rfl⟩ := e3
        have nd' := List.nodup_append.mp nd
        by_cases h : m = f
        · subst h
          have e4 : putF (c.FN m) y ((g, w) :: fs) = (g, y) :: fs := by unfold putF; rw [if_pos e1]
          have e5 : setF (m :: ns) (o :: os) m x = (m :: ns, x :: os) := by unfold setF; rw [if_pos rfl]
          rw [e4, e5]
          refine ⟨Ly ++ L2, by simp [e1, e2], ⟨y, _, Ly, L2, rfl, ry, r2, rfl⟩, List.nodup_append.mpr ⟨ndy, nd'.2.1, fun a ha b hb z => dis a ha (List.mem_append_right _ (z ▸ hb))⟩, fun b hb => ?_⟩
          rcases List.mem_append.mp hb with z | z
          · exact .inr z
          · exact .inl (List.mem_append_right _ z)
        · have hg : ¬ g = c.FN f := fun z => h (c.inj _ _ (e1 ▸ z))
          have e4 : putF (c.FN f) y ((g, w) :: fs) = (g, w) :: putF (c.FN f) y fs := by
            conv =>
              lhs
              unfold putF
            rw [if_neg hg]
          have e5 : setF (m :: ns) (o :: os) f x = (m :: (setF ns os f x).1, o :: (setF ns os f x).2) := by
            conv =>
              lhs
              unfold setF
            rw [if_neg h]
          rw [e4, e5]
          obtain ⟨Lx', p1, p2, p3, p4⟩ := setF_rep ry ndy (fs := fs) (ns := ns) (os := os) e2 r2 nd'.2.1 (fun b hb m => dis b hb (List.mem_append_right _ m))
          refine ⟨L1 ++ Lx', by simp [e1, p1], ⟨w, _, L1, Lx', rfl, r1, p2, rfl⟩, List.nodup_append.mpr ⟨nd'.1, p3, fun a ha b hb z => ?_⟩, fun b hb => ?_⟩
          · subst z
            rcases p4 a hb with z | z
            · exact nd'.2.2 a ha a z rfl
            · exact dis a z (List.mem_append_left _ ha)
          · rcases List.mem_append.mp hb with z | z
            · exact .inl (List.mem_append_left _ z)
            · exact (p4 b z).imp (fun z => List.mem_append_right _ z) id
/-- an attribute is written -/
theorem ss_stf (T : Top p C) (Pm : Prom p C n) {r : R} {f : Nat} {e : E} : SS p C n N (.stf r f e) := by
  intro sc W X σ F H L env out st D P G S g hk ev q
  unfold okS at hk
  cases hp : stfP st with
  | none => rw [hp] at hk; cases hk
  | some t =>
    obtain ⟨er, fx, evx⟩ := t
    rw [hp] at hk
    simp only [Bool.and_eq_true] at hk
    obtain ⟨⟨k1, k2⟩, k3⟩ := hk
    obtain ⟨pt, pos, rfl⟩ := stfP_some hp
    have ef : p.c.FN f = fx := T.fdn f fx (beq_opt k3)
    refine T0S.of (ps_fld (tv := T0 X evx) (ta := T0 X er) pe0 pe0 swap_att) ?_
    unfold exec at ev
    cases h : evalE C e env with
    | none => rw [h] at ev; cases ev
    | some y =>
      obtain ⟨re, env1⟩ := y
      rw [h] at ev
      cases re with
      | error x =>
        cases ev
        exact (soundE T Pm e).1 G g k1 h (XcP.er q)
      | ok x =>
        dsimp only at ev
        refine (soundE T Pm e).1 G g k1 h fun F1 H1 L1 v Lv a1 cf => ?_
        have nd1 := List.nodup_append.mp cf.nd
        have dis1 : ∀ b ∈ Lv, b ∉ L1 := fun b hb m => nd1.2.2 b m b hb rfl
        cases hr : evalR C env1 r with
        | none => rw [hr] at ev; cases ev
        | some ar =>
          rw [hr] at ev
          cases ar with
          | val d => cases ev
          | ref i pp =>
            dsimp only at ev
            refine soundR T G cf.cfg k2 hr fun vo hvo => ?_
            cases h3 : env1.at i pp with
            | none => rw [h3] at ev; cases ev
            | some o =>
              rw [h3] at ev
              dsimp only at ev
              cases h4 : setFld C.fld o f x with
              | none => rw [h4] at ev; cases ev
              | some o' =>
                rw [h4] at ev
                dsimp only at ev
                cases h5 : env1.put i pp o' with
                | none => rw [h5] at ev; cases ev
                | some env3 =>
                  rw [h5] at ev
                  cases ev
                  obtain ⟨v0, w, A, M, B, b1, b2, rfl, b4, b5⟩ := cf.cfg.rewrite h3
                  have e1 := ArgRep.uniq hvo b1 b2
                  subst e1
                  have nd0 := nodup3 cf.cfg.nd
                  unfold setFld at h4
                  split at h4
                  · rename_i kc ns os
                    split at h4
                    · rename_i hc
                      cases h4
                      simp only [Bool.and_eq_true, decide_eq_true_eq] at hc
                      obtain ⟨hc1, hc2⟩ := hc
                      obtain ⟨hcls, hna⟩ := T.fld kc f hc1
                      obtain ⟨a, dx, fs, Lx, rfl, t1, t2, t3, rfl⟩ := b4
                      have ndm := List.nodup_cons.mp nd0.2.1
                      have av : a ∉ Lv := fun m => dis1 a m (mem3.mpr (.inr List.mem_cons_self))
                      obtain ⟨Lx', p1, p2, p3, p4⟩ := setF_rep (f := f) cf.val nd1.2.1 t2 t3 ndm.2 (fun b hb m => dis1 b hb (mem3.mpr (.inr (List.mem_cons_of_mem _ m))))
                      have na : a ∉ Lx' := fun m => by
                        rcases p4 a m with z | z
                        · exact ndm.1 z
                        · exact av z
                      have kp : ∀ b, b ≠ a → ∀ u w, H1 b = some u → (upd H1 a w) b = some u := fun b hb u w e => by rw [upd_ne hb]; exact e
                      have rep2 : RepO p.c F1 (upd H1 a (.ins (p.c.CA kc) dx (putF (p.c.FN f) v fs))) (.ins kc (setF ns os f x).1 (setF ns os f x).2) (.ref a) (a :: Lx') := ⟨a, dx, _, Lx', rfl, upd_same, p1, RepOs.mono (Ex.refl F1) (fun b hb u e => kp b (fun z => na (z ▸ hb)) u _ e) p2, rfl⟩
                      obtain ⟨env', e2, e3⟩ := b5 a _ _ (a :: Lx') List.mem_cons_self rep2 (List.nodup_cons.mpr ⟨na, p3⟩) (fun b hb m => by
                        rcases List.mem_cons.mp hb with z | z
                        · exact nd0.2.2 a List.mem_cons_self (z ▸ m)
                        · rcases p4 b z with z | z
                          · exact nd0.2.2 b (List.mem_cons_of_mem _ z) m
                          · exact dis1 b z (mem3.mpr (.inl m))) fun b hb => by
                        rcases List.mem_cons.mp hb with z | z
                        · exact cf.cfg.ow b (mem3.mpr (.inr (z ▸ List.mem_cons_self)))
                        · rcases p4 b z with z | z
                          · exact cf.cfg.ow b (mem3.mpr (.inr (List.mem_cons_of_mem _ z)))
                          · exact cf.ow b z
                      rw [h5] at e2
                      cases e2
                      have hl : fs.length = ns.length := by simpa using congrArg List.length t2
                      rw [← ef]
                      refine ⟨a, _, dx, fs, rfl, t1, by rw [G.K]; exact hcls, by rw [G.K]; exact hna, by omega, ?_⟩
                      refine q F1 _ _ σ (a1.trans (After.write (List.mem_append_left _ (mem3.mpr (.inr List.mem_cons_self))) fun b hb => ?_)) e3 (Agr.refl P σ)
                      rcases mem3.mp hb with z | z
                      · exact List.mem_append_left _ (mem3.mpr (.inl z))
                      · rcases List.mem_cons.mp z with z | z
                        · exact List.mem_append_left _ (mem3.mpr (.inr (z ▸ List.mem_cons_self)))
                        · rcases p4 b z with z | z
                          · exact List.mem_append_left _ (mem3.mpr (.inr (List.mem_cons_of_mem _ z)))
                          · exact List.mem_append_right _ z
                    · cases h4
                  · cases h4
end
end T
namespace T
open PySem L2
section
variable {p : Pg} {C : Ctx} {n : Nat} {N : List Str} {sc : Scope} {W : WX} {X : Cx} {F F0 F1 F' H H1 H' : Hp} {σ σ1 : L2.St} {env env1 : Env} {L L1 : List Addr} {c : Cn} {P : Nat → Bool}
theorem Good.tr (G : Good p n N sc W X) {W' : WX} {pn : List (Addr × Obj)} {xe : Value → Shared → Prop} (tk : L2N.Takes (X.tr pn xe) W') (ps : PassesOwn (model X.prog X.w) X.A X.env xe) : Good p n N sc W' (X.tr pn xe) :=
  ⟨G.prog, G.w, G.K, G.mg, G.base, G.N, G.nd, G.sc, G.calm, G.room, ps, tk⟩
theorem GS.tr (S : GS sc X) {pn : List (Addr × Obj)} {xe : Value → Shared → Prop} : GS sc (X.tr pn xe) := ⟨S.fn, S.kind, S.stack, S.frame⟩
theorem con_pe {X : Cx} {d : D} {k : Const} {j : Nat} {pos : Pos} (h : okCon d k = true) : ∃ v : V, PE X (.Constant k j pos) (L2.tC v) ∧ ∀ F, Rep p.c F d v := by
  cases d <;> cases k <;> first
    | (exact Bool.noConfusion (show false = true from h))
    | skip
  · exact ⟨.non, pe_non, fun _ => rfl⟩
  · rename_i b b'
    have e : b = b' := by simpa [okCon] using h
    subst e
    exact ⟨.bl b, pe_bl, fun _ => rfl⟩
  · rename_i b b'
    have e : b = b' := by simpa [okCon] using h
    subst e
    exact ⟨.int b, pe_int, fun _ => rfl⟩
  · rename_i b b'
    have e : b = b' := by simpa [okCon] using h
    subst e
    exact ⟨.str b, pe_str, fun _ => rfl⟩
theorem hsCon_inv {hs : Hs} {k : Nat} {d : D} (h : hsCon hs = some (k, d)) : hs = .cons k none (.cons (.ret (.rd (.con d))) .nil) .nil := by
  unfold hsCon at h
  split at h
  · rename_i c b
    cases hb : retCon b with
    | none => rw [hb] at h; cases h
    | some d' =>
      rw [hb] at h
      cases h
      unfold retCon at hb
      split at hb
      · cases hb
        rfl
      · cases hb
  · cases h
theorem ss_try (T : Top p C) {b : Ss} {hs : Hs} (sb : SSs p C n N b) : SS p C n N (.try_ b hs) := by
  intro sc W X σ F H L env out st D P G S g hk ev q
  unfold okS at hk
  cases hp : tryP st with
  | none => rw [hp] at hk; cases hk
  | some t =>
    obtain ⟨body, x, k⟩ := t
    rw [hp] at hk
    simp only [Bool.and_eq_true] at hk
    obtain ⟨k1, k2⟩ := hk
    cases hc : hsCon hs with
    | none => rw [hc] at k2; cases k2
    | some z =>
      obtain ⟨kc, d⟩ := z
      rw [hc] at k2
      simp only [Bool.and_eq_true] at k2
      obtain ⟨⟨k2, k3⟩, k4⟩ := k2
      obtain ⟨q1, j, p1, p2, p3, p4, rfl⟩ := tryP_some hp
      have eh := hsCon_inv hc
      subst eh
      obtain ⟨g1, g2, g3⟩ := G.gl k3
      have nm : Names X x (.ref (p.c.CA kc)) := ⟨g1, g2, .inl (by rw [G.mg]; exact T.cln kc x (beq_opt k2))⟩
      obtain ⟨v, _, rv⟩ := con_pe (p := p) (X := X) (j := j) (pos := p1) k4
      let tb : WX → TS := fun W' D σ H => ∀ pn xe, L2N.Takes (X.tr pn xe) W' → PassesOwn (model X.prog X.w) X.A X.env xe → T0Ss (X.tr pn xe) body D σ H
      refine T0S.of (L2N.ps_try_many (tb := tb) (l := [(.ref (p.c.CA kc), fun _ _ _ => tRet (L2.tC v))]) S.stack S.frame G.takes (fun W' pn xe tk ps => ⟨fun pins s σ H D I h => h pn xe tk ps pins s I⟩) (.cons nm (fun a oe cls d' pn _ _ => ?_) .nil)) ?_
      · obtain ⟨v', h1, h2⟩ := con_pe (p := p) (X := X.suite a ((a, oe) :: pn)) (j := j) (pos := p1) k4
        have e : v' = v := by
          have e1 := h2 (fun _ => none)
          have e2 := rv (fun _ => none)
          cases d <;> first
            | (exact (show v' = _ from e1).trans (show v = _ from e2).symm)
            | (cases k <;> exact Bool.noConfusion (show false = true from k4))
        rw [e] at h1
        exact pss_one (ps_ret h1)
      · intro pn xe tk ps
        unfold exec at ev
        cases hb : execs C P b env with
        | none => rw [hb] at ev; cases ev
        | some y =>
          obtain ⟨r, env1⟩ := y
          rw [hb] at ev
          refine sb (G.tr tk ps) S.tr g k1 hb ?_
          cases r with
          | ok f =>
            cases ev
            cases f with
            | nx => exact q
            | brk => exact q
            | cnt => exact q
            | ret o => exact q
          | error e =>
            dsimp only at ev
            unfold handle at ev
            cases hx : excHas C e kc with
            | none => rw [hx] at ev; cases ev
            | some b1 =>
              rw [hx] at ev
              intro F1 H1 L1 σ1 d1 a1 g1 ag xr
              have hm := T.exm e.c kc b1 hx
              refine ⟨b1, by rw [G.K]; exact hm, fun hb1 a na => ?_, fun hb1 => ?_⟩
              · subst hb1
                dsimp only at ev
                have eo : out = (.ok (.ret (.pure d)), env1) := by
                  have : execs C P (.cons (.ret (.rd (.con d))) .nil) env1 = some (.ok (.ret (.pure d)), env1) := by
                    simp [execs, exec, evalE, valOf, evalR, hold, ok]
                  rw [this] at ev
                  exact (Option.some.inj ev).symm
                subst eo
                exact q F1 H1 L1 σ1 v [] (a1.sub (by simp)) ⟨g1, ⟨rv F1, rfl⟩, by simpa using g1.nd, fun _ h => absurd h (by simp)⟩ ag
              · subst hb1
                dsimp only at ev
                unfold handle at ev
                cases ev
                exact q F1 H1 L1 σ1 d1 a1 g1 ag xr
mutual
theorem soundS (T : Top p C) (Pm : Prom p C n) : ∀ s : S, SS p C n N s
  | .asg (.nm i) e => ss_asg T Pm
  | .asg (.tp ts) e => ss_asgT T Pm
  | .par i j a b => ss_par T Pm
  | .sti r k e => ss_sti T Pm
  | .stf r f e => ss_stf T Pm
  | .exp e => ss_exp T Pm
  | .ret e => ss_ret T Pm
  | .retf e => ss_retf T Pm
  | .ret0 => ss_ret0
  | .ife t a b => ss_ife T Pm (soundSs T Pm a) (soundSs T Pm b)
  | .for_ tg k it b => ss_for T Pm (soundSs T Pm b)
  | .whl t b => ss_whl T Pm (soundSs T Pm b)
  | .brk => ss_brk
  | .cnt => ss_cnt
  | .pas => ss_pas
  | .rai c es => ss_rai T Pm
  | .try_ b hs => ss_try T (soundSs T Pm b)
theorem soundSs (T : Top p C) (Pm : Prom p C n) : ∀ s : Ss, SSs p C n N s
  | .nil => sss_nil
  | .cons s r => sss_cons (soundS T Pm s) (soundSs T Pm r)
end
end
end T
namespace T
open PySem L2
section
variable {p : Pg} {C : Ctx} {n : Nat} {N : List Str} {sc : Scope} {W : WX} {X : Cx} {F F0 F1 F' H H1 H' : Hp} {σ σ1 : L2.St} {env env1 : Env} {L L1 : List Addr} {c : Cn} {P : Nat → Bool}
theorem nones_rep : ∀ k : Nat, RepE c F H (List.replicate k none) (List.replicate k none) []
  | 0 => ⟨rfl, rfl⟩
  | k + 1 => ⟨none, _, [], [], rfl, rfl, nones_rep k, rfl⟩
theorem start_rep {k : Nat} : ∀ {os : List O} {vs : List V} {L : List Addr}, RepOs c F H os vs L → RepE c F H (os.map some ++ List.replicate k none) (vs.map some ++ List.replicate k none) L
  | [], vs, L, h => by
    obtain ⟨rfl, rfl⟩ := h
    exact nones_rep k
  | o :: os, vs, L, h => by
    obtain ⟨v, r, L1, L2, rfl, h1, h2, rfl⟩ := h
    exact ⟨some v, _, L1, L2, rfl, ⟨v, rfl, h1⟩, start_rep h2, rfl⟩
theorem posts_ok : ∀ {br : List Bool} {env : Env} {σ : L2.St} {vs : List V} {L : List Addr} {post : List O}, posts br env = some post → RepE c F H env σ L → L.Nodup → br.length = vs.length → (∀ i v, parm br i = true → vs[i]? = some v → σ[i]? = some (some v)) →
    ∃ L', PostR c F H br post vs L' ∧ L'.Nodup ∧ ∀ a ∈ L', a ∈ L
  | [], env, σ, vs, L, post, h, r, nd, hl, k => by
    have e : vs = [] := by
      cases vs with
      | nil => rfl
      | cons _ _ => simp at hl
    subst e
    cases env <;> cases h <;> exact ⟨[], rfl, List.nodup_nil, fun a ha => absurd ha (by simp)⟩
  | b :: br, [], σ, vs, L, post, h, r, nd, hl, k => by
    cases b <;> cases h
  | b :: br, o :: env, σ, [], L, post, h, r, nd, hl, k => by simp at hl
  | true :: br, none :: env, σ, v :: vs, L, post, h, r, nd, hl, k => by cases h
  | true :: br, some o :: env, σ, v :: vs, L, post, h, r, nd, hl, k => by
    obtain ⟨x, r', L1, L2, rfl, ⟨w, rfl, r1⟩, r2, rfl⟩ := r
    have nd' := List.nodup_append.mp nd
    have e0 := k 0 v rfl rfl
    have ew : w = v := by simpa using e0
    subst ew
    unfold posts at h
    cases q : posts br env with
    | none => rw [q] at h; cases h
    | some os =>
      rw [q] at h
      cases h
      obtain ⟨L', p1, p2, p3⟩ := posts_ok q r2 nd'.2.1 (by simpa using hl) (fun i v hi hv => by simpa using k (i + 1) v (by simpa [parm] using hi) (by simpa using hv))
      exact ⟨L1 ++ L', ⟨L1, L', r1, p1, rfl⟩, List.nodup_append.mpr ⟨nd'.1, p2, fun a ha b hb e => nd'.2.2 a ha b (p3 b hb) e⟩, fun a ha => by
        rcases List.mem_append.mp ha with z | z
        · exact List.mem_append_left _ z
        · exact List.mem_append_right _ (p3 a z)⟩
  | false :: br, o :: env, σ, v :: vs, L, post, h, r, nd, hl, k => by
    obtain ⟨x, r', L1, L2, rfl, r1, r2, rfl⟩ := r
    have nd' := List.nodup_append.mp nd
    unfold posts at h
    cases q : posts br env with
    | none => rw [q] at h; cases h
    | some os =>
      rw [q] at h
      cases h
      obtain ⟨L', p1, p2, p3⟩ := posts_ok q r2 nd'.2.1 (by simpa using hl) (fun i v hi hv => by simpa using k (i + 1) v (by simpa [parm] using hi) (by simpa using hv))
      exact ⟨L', p1, p2, fun a ha => List.mem_append_right _ (p3 a ha)⟩
theorem parm_lt {br : List Bool} {i : Nat} (h : parm br i = true) : i < br.length := by
  unfold parm at h
  rw [List.getD_eq_getElem?_getD] at h
  cases q : br[i]? with
  | none => rw [q] at h; cases h
  | some b => exact (List.getElem?_eq_some_iff.mp q).1
theorem def_ok (T : Top p C) (Pm : Prom p C n) {x qual : Str} {params : Arguments} {body : List Stmt} {scope : Scope} {f : Addr} {fd : FuncData} {ps : List Str} (F : FunD p.c.K x qual params body scope [] [] f fd) (S : FnScope N ps scope) {d : Def} {br : List Bool}
    (hn : d.n = N.length) (hp : d.np = ps.length) (hk : okSs p.y N scope d.body body = true) : FnOk p.P p.w p.c.K p.mg p.base (L2N.CX p.P p.w) (3 * (n + 1)) f fd ps (fun vs H Q E => Runs p.c (runDef C br d) br vs H Q E) := by
  refine FunD.ok (k := 3 * n + 2) F S (fun vs H Q E h => ?_) fun cdv A outer s H vs Q E hr h => ⟨T0Ss _ body, pss0, ?_⟩
  · obtain ⟨F0, os, L, out, e1, e2, e3, e4, e5, e6⟩ := h
    unfold runDef at e5
    split at e5
    · rename_i hc
      simp only [Bool.and_eq_true, decide_eq_true_eq] at hc
      have := e2.length
      omega
    · cases e5
  · obtain ⟨F0, os, L, out, e1, e2, e3, e4, e5, e6⟩ := h
    have lv := e2.length
    unfold runDef at e5
    split at e5
    · rename_i hc
      simp only [Bool.and_eq_true, decide_eq_true_eq] at hc
      obtain ⟨⟨c1, c2⟩, c3⟩ := hc
      have G : Good p n N scope (fun cls d _ H => E cls d H) (cxOf (L2N.CX p.P p.w) p.P p.w p.c.K p.mg p.base N qual scope f cdv A outer s H E) :=
        ⟨rfl, rfl, rfl, rfl, rfl, rfl, S.nd, rfl, rfl, hr, PassesOwn.leaving, L2N.takes_of rfl rfl rfl rfl⟩
      have S' : GS scope (cxOf (L2N.CX p.P p.w) p.P p.w p.c.K p.mg p.base N qual scope f cdv A outer s H E) := ⟨fun _ => rfl, S.kind, rfl, rfl⟩
      have st : L2.start N vs = vs.map some ++ List.replicate (d.n - d.np) none := by
        unfold L2.start
        rw [hn, ← c1, lv]
      have g0 : Cfg p.c F0 H (L2.start N vs) (os.map some ++ List.replicate (d.n - d.np) none) L := ⟨e1, by rw [st]; exact start_rep e2, e3, e4⟩
      -- what a parameter holds
      have par : ∀ σ1, Agr (parm br) (L2.start N vs) σ1 → ∀ i v, parm br i = true → vs[i]? = some v → σ1[i]? = some (some v) := fun σ1 ag i v hi hv => by
        rw [ag.1 i hi, st, List.getElem?_append_left (by
          have := parm_lt hi
          simp
          omega), List.getElem?_map, hv]
        rfl
      have bl : br.length = vs.length := by omega
      cases hx : execs C (parm br) d.body (os.map some ++ List.replicate (d.n - d.np) none) with
      | none => rw [hx] at e5; cases e5
      | some y =>
        obtain ⟨r, env1⟩ := y
        rw [hx] at e5
        refine soundSs T Pm d.body G S' g0 hk hx ?_
        cases r with
        | error xx =>
          dsimp only at e5
          unfold wrapR at e5
          cases hq : posts br env1 with
          | none => rw [hq] at e5; cases e5
          | some post =>
            rw [hq] at e5
            cases e5
            intro F1 H1 L1 σ1 dd a g ag xr
            obtain ⟨L', p1, p2, p3⟩ := posts_ok hq g.rep g.nd bl (par σ1 ag)
            exact e6 F1 H1 L' dd (a.sub p3) g.ex p1 p2 (fun b hb => g.ow b (p3 b hb)) xr
        | ok fl =>
          cases fl with
          | brk => cases e5
          | cnt => cases e5
          | nx =>
            dsimp only at e5
            unfold wrapR at e5
            cases hq : posts br env1 with
            | none => rw [hq] at e5; cases e5
            | some post =>
              rw [hq] at e5
              cases e5
              intro F1 H1 L1 σ1 a g ag
              obtain ⟨L', p1, p2, p3⟩ := posts_ok hq g.rep g.nd bl (par σ1 ag)
              refine e6 F1 H1 L' [] .non (a.sub (by simpa using p3)) g.ex p1 ⟨rfl, rfl⟩ (by simpa using p2) (fun b hb => g.ow b (p3 b (by simpa using hb)))
          | ret o =>
            dsimp only at e5
            unfold wrapR at e5
            cases hq : posts br env1 with
            | none => rw [hq] at e5; cases e5
            | some post =>
              rw [hq] at e5
              cases e5
              intro F1 H1 L1 σ1 v Lv a cf ag
              obtain ⟨L', p1, p2, p3⟩ := posts_ok hq cf.cfg.rep cf.cfg.nd bl (par σ1 ag)
              have nd := List.nodup_append.mp cf.nd
              refine e6 F1 H1 L' Lv v (a.sub fun b hb => ?_) cf.cfg.ex p1 cf.val (List.nodup_append.mpr ⟨p2, nd.2.1, fun b hb y hy e => nd.2.2 b (p3 b hb) y hy e⟩) fun b hb => ?_
              · rcases List.mem_append.mp hb with z | z
                · exact List.mem_append_left _ (p3 b z)
                · exact List.mem_append_right _ z
              · rcases List.mem_append.mp hb with z | z
                · exact cf.cfg.ow b (p3 b z)
                · exact cf.ow b z
    · cases e5
end
end T
namespace T
open PySem L2
def iniP : Stmt → Option (Str × Str × Str)
  | .Assign [.Attribute (.Name s _) f _] (.Name x _) _ => some (s, f, x)
  | _ => none
theorem iniP_some {st : Stmt} {s f x : Str} (h : iniP st = some (s, f, x)) : ∃ p1 p2 p3 p4, st = .Assign [.Attribute (.Name s p1) f p2] (.Name x p3) p4 := by
  unfold iniP at h
  split at h
  · cases h
    exact ⟨_, _, _, _, rfl⟩
  · cases h
def okInit (y : Sy) (N : List Str) (sc : Scope) : Nat → List Nat → List Stmt → Bool
  | _, [], [] => true
  | i, n :: ns, st :: r => (match iniP st with
    | some (s, f, x) => okVar N sc 0 s && okVar N sc i x && y.fd[n]? == some f
    | none => false) && okInit y N sc (i + 1) ns r
  | _, _, _ => false
theorem var_pe {X : Cx} {N : List Str} {sc : Scope} (hN : X.N = N) (hsc : X.env.scope = sc) {i : Nat} {x : Str} {pos : Pos} (h : okVar N sc i x = true) : PE X (.Name x pos) (tVar i) := by
  unfold okVar at h
  simp only [Bool.and_eq_true, Bool.not_eq_true'] at h
  obtain ⟨⟨⟨h1, h2⟩, h3⟩, h4⟩ := h
  exact pe_var (by rw [hN]; exact beq_opt h1) (by rw [hsc]; exact isK_vis h2) h3 h4
section
variable {p : Pg} {N : List Str} {sc : Scope} {X : Cx} {H : Hp} {σ : L2.St}
theorem exH_put {c : Cn} {a dx : Addr} {k : Nat} {fs : List (Str × V)} {g : Str × V} (ne : dx ≠ a) : upd (exH c H a dx k fs) dx (exd dx (g :: fs)) = exH c H a dx k (g :: fs) := by
  funext b
  unfold exH
  by_cases h1 : b = dx
  · subst h1
    rw [upd_same, upd_ne ne, upd_same]
  · rw [upd_ne h1]
    by_cases h2 : b = a
    · subst h2
      rw [upd_same, upd_same]
    · rw [upd_ne h2, upd_ne h2, upd_ne h1, upd_ne h1]
theorem init_rest (hN : X.N = N) (hsc : X.env.scope = sc) (hK : X.K = p.c.K) {k : Nat} (oex : OexC p.c.K (p.c.CA k)) (hfd : ∀ (f : Nat) x, p.y.fd[f]? = some x → p.c.FN f = x) {a dx : Addr} (ne : dx ≠ a) (h0 : σ[0]? = some (some (.ref a))) {D : Ends} :
    ∀ {ns : List Nat} {sts : List Stmt} {us : List V} {i : Nat} {fs : List (Str × V)}, okInit p.y N sc i ns sts = true → (∀ n ∈ ns, PySem.W.findIn p.c.K (.ref (p.c.CA k)) (p.c.FN n) = some none) → us.length = ns.length → fs.length + ns.length ≤ 900 → (∀ j v, us[j]? = some v → σ[i + j]? = some (some v)) →
      D.nx σ (exH p.c H a dx k (revF p.c ns us fs)) → T0Ss X sts D σ (exH p.c H a dx k fs)
  | [], [], us, i, fs, _, _, hl, _, _, q => by
    have e : us = [] := List.eq_nil_of_length_eq_zero hl
    subst e
    exact T0Ss.of pss_nil q
  | [], _ :: _, _, _, _, h, _, _, _, _, _ => Bool.noConfusion (show false = true from h)
  | _ :: _, [], _, _, _, h, _, _, _, _, _ => Bool.noConfusion (show false = true from h)
  | n :: ns, st :: sts, [], i, fs, h, _, hl, _, _, _ => by simp at hl
  | n :: ns, st :: sts, u :: us, i, fs, h, hno, hl, hz, hv, q => by
    unfold okInit at h
    cases hp : iniP st with
    | none => rw [hp] at h; cases h
    | some t =>
      obtain ⟨s, f, x⟩ := t
      rw [hp] at h
      simp only [Bool.and_eq_true] at h
      obtain ⟨⟨⟨h1, h2⟩, h3⟩, h4⟩ := h
      obtain ⟨p1, p2, p3, p4, rfl⟩ := iniP_some hp
      have ef := hfd n f (beq_opt h3)
      refine T0Ss.of (pss_cons (ps_ost (var_pe hN hsc h1) (var_pe hN hsc h2) swap_att) pss0) ?_
      refine ⟨u, by simpa using hv 0 u rfl, _, h0, a, p.c.CA k, rfl, by rw [hK]; exact oex, by rw [hK, ← ef]; exact hno n List.mem_cons_self, .inr ⟨dx, fs, by unfold exH; rw [upd_same], by unfold exH; rw [upd_ne ne, upd_same], by simp at hz; omega, ?_⟩⟩
      rw [exH_put ne]
      refine init_rest (fs := (f, u) :: fs) hN hsc hK oex hfd ne h0 h4 (fun m hm => hno m (List.mem_cons_of_mem _ hm)) (by simpa using hl) (by simp at hz ⊢; omega) (fun j v hj => ?_) ?_
      · have := hv (j + 1) v (by simpa using hj)
        rw [show i + 1 + j = i + (j + 1) by omega]
        exact this
      · rw [← ef]
        exact q
theorem init_ok {x qual : Str} {params : Arguments} {body : List Stmt} {scope : Scope} {f : Addr} {fd : FuncData} (F : FunD p.c.K x qual params body scope [] [] f fd) (S : FnScope N N scope) {k : Nat} {ns : List Nat} (hl : N.length = ns.length + 1) (hz : ns.length ≤ 900) (hne : ns ≠ [])
    (hk : okInit p.y N scope 1 ns body = true) (hfd : ∀ (f : Nat) x, p.y.fd[f]? = some x → p.c.FN f = x) (oex : OexC p.c.K (p.c.CA k)) (hno : ∀ n ∈ ns, PySem.W.findIn p.c.K (.ref (p.c.CA k)) (p.c.FN n) = some none) :
    FnOk p.P p.w p.c.K p.mg p.base (L2N.CX p.P p.w) 1 f fd N (spX p.c k ns) := by
  refine FunD.ok (k := 0) F S (fun vs H Q E h => ?_) fun cdv A outer s H vs Q E hr h => ⟨T0Ss _ body, pss0, ?_⟩
  · obtain ⟨a, us, rfl, h1, _⟩ := h
    simp [h1, hl]
  · obtain ⟨a, us, rfl, h1, h2, h3⟩ := h
    have st : L2.start N (V.ref a :: us) = some (.ref a) :: us.map some := by
      unfold L2.start
      rw [show N.length - (V.ref a :: us).length = 0 by simp; omega]
      simp
    cases ns with
    | nil => exact absurd rfl hne
    | cons n ns =>
      cases us with
      | nil => simp at h1
      | cons u us =>
        cases body with
        | nil => exact Bool.noConfusion (show false = true from hk)
        | cons b0 sts =>
          unfold okInit at hk
          cases hp : iniP b0 with
          | none => rw [hp] at hk; cases hk
          | some t =>
            obtain ⟨s0, f0, x0⟩ := t
            rw [hp] at hk
            simp only [Bool.and_eq_true] at hk
            obtain ⟨⟨⟨k1, k2⟩, k3⟩, k4⟩ := hk
            obtain ⟨p1, p2, p3, p4, rfl⟩ := iniP_some hp
            have ef := hfd n f0 (beq_opt k3)
            refine T0Ss.of (pss_cons (ps_ost (var_pe (N := N) (sc := scope) rfl rfl k1) (var_pe (N := N) (sc := scope) rfl rfl k2) swap_att) pss0) ?_
            rw [st]
            refine ⟨u, rfl, _, rfl, a, p.c.CA k, rfl, oex, by rw [← ef]; exact hno n List.mem_cons_self, .inl ⟨h2, fun dx ndx ne => ?_⟩⟩
            refine init_rest (fs := [(f0, u)]) (N := N) (sc := scope) rfl rfl rfl oex hfd ne rfl k4 (fun m hm => hno m (List.mem_cons_of_mem _ hm)) (us := us) (by simpa using h1) (by simp at hz ⊢; omega) (fun j v hj => ?_) ?_
            · rw [show 1 + 1 + j = j + 2 by omega]
              simpa using hj
            · rw [← ef]
              exact h3 dx ndx ne
end
end T
set_option maxRecDepth 100000
namespace T
open PySem L2
structure DP where
  at_ : Str × Option Str
  name : Str
  qual : Str
  args : Arguments
  body : List Stmt
  sc : Scope
  N : List Str
  ps : List Str
  br : List Bool
  t : Def
structure EP where
  k : Nat
  ns : List Nat
  qual : Str
  args : Arguments
  body : List Stmt
  sc : Scope
  N : List Str
structure PD where
  gn : List (Str × D)
  df : List DP
  cl : List Str
  fd : List Str
  flds : List (Nat × Nat)
  ini : List (Nat × Nat)
  sub : List ((Nat × Nat) × Bool)
  exs : List ((Nat × Nat) × Bool)
  exf : List EP
def PD.sy (d : PD) : Sy := ⟨d.gn.map (·.1), d.df.map fun x => if x.at_.2.isNone then some x.at_.1 else none, d.cl, [], d.fd⟩
def PD.ctx0 (d : PD) (fn : Nat → List O → Option (Except Exn O × List O)) : Ctx where
  G := fun g => (d.gn[g]?).map (·.2)
  sub := fun k k' => d.sub.lookup (k, k')
  fn := fn
  br := fun f => match d.df[f]? with
    | some x => x.br
    | none => []
  ini := fun k => d.ini.lookup k
  mth := fun _ _ => none
  fld := fun k f => d.flds.contains (k, f)
  exf := fun k => (d.exf.find? fun e => e.k == k).map (·.ns)
  exs := fun k k' => d.exs.lookup (k, k')
def PD.ctx (d : PD) : Nat → Ctx
  | 0 => d.ctx0 fun _ _ => none
  | n + 1 => d.ctx0 fun f os => match d.df[f]? with
    | some x => runDef (d.ctx n) x.br x.t os
    | none => none
def FNof (fd : List Str) (k : Nat) : Str := match fd[k]? with
  | some x => x
  | none => ⟨(List.replicate (k + 100) 0).toArray⟩
theorem FNof_inj {fd : List Str} (nd : fd.Nodup) (hl : ∀ x ∈ fd, x.cps.size < 100) : ∀ f g, FNof fd f = FNof fd g → f = g := by
  intro f g h
  unfold FNof at h
  cases hf : fd[f]? with
  | none =>
    cases hg : fd[g]? with
    | none =>
      rw [hf, hg] at h
      have e : (List.replicate (f + 100) 0).toArray.size = (List.replicate (g + 100) 0).toArray.size := by
        have := congrArg (fun s : Str => s.cps.size) h
        exact this
      simpa using e
    | some y =>
      rw [hf, hg] at h
      have h1 := hl y (List.mem_of_getElem? hg)
      have e : (List.replicate (f + 100) 0).toArray.size = y.cps.size := congrArg (fun s : Str => s.cps.size) h
      simp at e
      omega
  | some x =>
    cases hg : fd[g]? with
    | none =>
      rw [hf, hg] at h
      have h1 := hl x (List.mem_of_getElem? hf)
      have e : x.cps.size = (List.replicate (g + 100) 0).toArray.size := congrArg (fun s : Str => s.cps.size) h
      simp at e
      omega
    | some y =>
      rw [hf, hg] at h
      dsimp only at h
      subst h
      exact (List.getElem?_inj (List.getElem?_eq_some_iff.mp hf).1 nd).mp (hf.trans hg.symm)
mutual
def repB (K : PySem.W.Frag) : D → Value → Bool
  | .non, .none => true
  | .bl b, .bool c => b == c
  | .int i, .int j _ => decide (i = j)
  | .str x, .str y _ => decide (x = y)
  | .tup ds, .ref a => match K.lookup a with
    | some ⟨.type c, none, .seq its _, _⟩ => decide (c = "tuple") && decide (its.size ≤ sizeLine) && repBs K ds its.toList
    | _ => false
  | .lst ds, .ref a => match K.lookup a with
    | some ⟨.type c, none, .seq its _, _⟩ => decide (c = "list") && decide (its.size ≤ sizeLine) && repBs K ds its.toList
    | _ => false
  | _, _ => false
def repBs (K : PySem.W.Frag) : List D → List Value → Bool
  | [], [] => true
  | d :: ds, u :: us => repB K d u && repBs K ds us
  | _, _ => false
end
mutual
theorem repB_ok {c : Cn} : ∀ {d : D} {u : Value}, repB c.K d u = true → ∃ v, RelV v u ∧ ∀ F, Rep c F d v
  | .non, u, h => by
    cases u <;> first
      | (exact Bool.noConfusion (show false = true from h))
      | skip
    exact ⟨.non, rfl, fun _ => rfl⟩
  | .bl b, u, h => by
    cases u <;> first
      | (exact Bool.noConfusion (show false = true from h))
      | skip
    rename_i b'
    have e : b = b' := by
      unfold repB at h
      simpa using h
    subst e
    exact ⟨.bl b, rfl, fun _ => rfl⟩
  | .int b, u, h => by
    cases u <;> first
      | (exact Bool.noConfusion (show false = true from h))
      | skip
    rename_i b' t
    have e : b = b' := by
      unfold repB at h
      simpa using h
    subst e
    exact ⟨.int b, ⟨t, rfl⟩, fun _ => rfl⟩
  | .str b, u, h => by
    cases u <;> first
      | (exact Bool.noConfusion (show false = true from h))
      | skip
    rename_i b' t
    have e : b = b' := by
      unfold repB at h
      simpa using h
    subst e
    exact ⟨.str b, ⟨t, rfl⟩, fun _ => rfl⟩
  | .tup ds, u, h => by
    cases u <;> first
      | (exact Bool.noConfusion (show false = true from h))
      | skip
    rename_i a
    unfold repB at h
    split at h
    · rename_i cc its n sl q
      simp only [Bool.and_eq_true, decide_eq_true_eq] at h
      obtain ⟨⟨h1, h2⟩, h3⟩ := h
      obtain ⟨vs, v1, v2⟩ := repBs_ok h3
      refine ⟨.ref a, rfl, fun F => ⟨a, vs, rfl, .inr ⟨_, its, n, q, congrArg Value.type h1, rfl, h2, v1, rfl⟩, v2 F⟩⟩
    · cases h
  | .lst ds, u, h => by
    cases u <;> first
      | (exact Bool.noConfusion (show false = true from h))
      | skip
    rename_i a
    unfold repB at h
    split at h
    · rename_i cc its n sl q
      simp only [Bool.and_eq_true, decide_eq_true_eq] at h
      obtain ⟨⟨h1, h2⟩, h3⟩ := h
      obtain ⟨vs, v1, v2⟩ := repBs_ok h3
      refine ⟨.ref a, rfl, fun F => ⟨a, vs, rfl, .inr ⟨_, its, n, q, congrArg Value.type h1, rfl, rfl, h2, v1⟩, v2 F⟩⟩
    · cases h
  | .dct _ _ _, u, h => by cases u <;> exact Bool.noConfusion (show false = true from h)
  | .ins _ _ _, u, h => by cases u <;> exact Bool.noConfusion (show false = true from h)
  | .exc _ _ _, u, h => by cases u <;> exact Bool.noConfusion (show false = true from h)
theorem repBs_ok {c : Cn} : ∀ {ds : List D} {us : List Value}, repBs c.K ds us = true → ∃ vs, Vals vs us ∧ ∀ F, Reps c F ds vs
  | [], us, h => by
    cases us with
    | nil => exact ⟨[], .nil, fun _ => rfl⟩
    | cons _ _ => exact Bool.noConfusion (show false = true from h)
  | d :: ds, us, h => by
    cases us with
    | nil => exact Bool.noConfusion (show false = true from h)
    | cons u us =>
      unfold repBs at h
      rw [Bool.and_eq_true] at h
      obtain ⟨v, a1, a2⟩ := repB_ok h.1
      obtain ⟨vs, b1, b2⟩ := repBs_ok h.2
      exact ⟨v :: vs, .cons a1 b1, fun F => ⟨v, vs, rfl, a2 F, b2 F⟩⟩
end
def glbB (K : PySem.W.Frag) (x : Str) (d : D) : Bool := match PySem.W.nsIn K mainGlobals x with
  | some (some u) => repB K d u
  | _ => false
def clskB (K : PySem.W.Frag) (C : Addr) : Bool := (PySem.W.plainGet K C Str.empty && (PySem.W.hasDictIn K C && (PySem.W.plainOver K C && He.eqO (PySem.W.findIn K (.ref C) "__setattr__") (some (some (.builtin "object.__setattr__")))))) &&
  decide (PySem.W.findIn K (.ref C) "__class__" = some (some (.builtin "object.__class__"))) && decide (PySem.W.specialIn K (.builtin "object.__class__") "__get__" = some (some (.builtin "getset_descriptor.__get__"))) &&
  decide (PySem.W.takesIn K (.builtin "object.__class__") = some true) && decide (PySem.W.mroIn K C (.type "object") = some true)
theorem clskB_ok {K : PySem.W.Frag} {C : Addr} (h : clskB K C = true) : ClsK K C := by
  unfold clskB at h
  simp only [Bool.and_eq_true, decide_eq_true_eq] at h
  obtain ⟨⟨⟨⟨h1, h2⟩, h3⟩, h4⟩, h5⟩ := h
  exact ⟨⟨h1.1, h1.2.1, h1.2.2.1, He.eqO_ok h1.2.2.2⟩, h2, h3, h4, h5⟩
def oexB (K : PySem.W.Frag) (C : Addr) : Bool := (match K.lookup C with
  | some ⟨.type c, _, .cls cd, sl⟩ => decide (c = "type") && (match cd.mro, sl.toList with
    | .ref C' :: bm, [_, _, _, _, some (.builtin n), _] => decide (C' = C) && decide (n = "ValueError.__new__") && cd.hasDict && !cd.hasDel && PySem.HandSPX.refsVE bm
    | _, _ => false)
  | _ => false) && decide (PySem.W.findIn K (.ref C) "__setattr__" = some (some (.builtin "object.__setattr__"))) && decide (PySem.W.subIn K (.ref C) (.type "BaseException") = some true) && decide (PySem.W.typeIn K (.ref C) = some (.type "type")) && PySem.W.keepIn K (.ref C)
theorem oexB_ok {K : PySem.W.Frag} {C : Addr} (h : oexB K C = true) : OexC K C := by
  unfold oexB at h
  simp only [Bool.and_eq_true, decide_eq_true_eq] at h
  obtain ⟨⟨⟨⟨h1, h2⟩, h3⟩, h4⟩, h5⟩ := h
  refine ⟨?_, h2, h3, h4, h5⟩
  split at h1
  · rename_i c dd cd sl ho
    rw [Bool.and_eq_true] at h1
    obtain ⟨e1, h1⟩ := h1
    have e1 := of_decide_eq_true e1
    subst e1
    split at h1
    · rename_i C' bm k0 k1 k2 k3 n k5 hm hs
      simp only [Bool.and_eq_true, decide_eq_true_eq, Bool.not_eq_true'] at h1
      obtain ⟨⟨⟨⟨rfl, rfl⟩, h6⟩, h7⟩, h8⟩ := h1
      obtain ⟨nm, bs, mro, ns, qn, hd, sn, sub, ab, col, del⟩ := cd
      dsimp only at hm h6 h7
      subst hm h6 h7
      have hsl : sl = #[k0, k1, k2, k3, some (.builtin "ValueError.__new__"), k5] := by
        obtain ⟨l⟩ := sl
        simp only at hs
        rw [hs]
      subst hsl
      exact ⟨nm, qn, ns, bs, bm, sn, sub, ab, col, dd, k0, k1, k2, k3, k5, ho, h8⟩
    · cases h1
  · cases h1
def allTags (sub : List ((Nat × Nat) × Bool)) : List Tag := [.non, .bool, .int, .str, .tup, .lst, .dct] ++ sub.map fun q => .cls q.1.1
def allTys (sub : List ((Nat × Nat) × Bool)) : List Ty := [.int, .bool, .str, .tup, .lst, .dct] ++ (sub.map fun q => .cls q.1.1) ++ (sub.map fun q => .cls q.1.2)
theorem lookup_memL {α β : Type} [BEq α] [LawfulBEq α] {k : α} {v : β} : ∀ {l : List (α × β)}, l.lookup k = some v → (k, v) ∈ l
  | [], h => by cases h
  | (a, b) :: l, h => by
    rw [List.lookup_cons] at h
    cases q : k == a with
    | true =>
      rw [q] at h
      cases h
      have e : k = a := by simpa using q
      subst e
      exact List.mem_cons_self
    | false =>
      rw [q] at h
      exact List.mem_cons_of_mem _ (lookup_memL h)
def tagVL (ca : Nat → Addr) : Tag → Value
  | .non => .type "NoneType"
  | .bool => .type "bool"
  | .int => .type "int"
  | .str => .type "str"
  | .tup => .type "tuple"
  | .lst => .type "list"
  | .dct => .type "dict"
  | .cls k => .ref (ca k)
def tyVL (ca : Nat → Addr) : Ty → Value
  | .int => .type "int"
  | .bool => .type "bool"
  | .str => .type "str"
  | .tup => .type "tuple"
  | .lst => .type "list"
  | .dct => .type "dict"
  | .cls k => .ref (ca k)
def kitB (K : PySem.W.Frag) (ca : Nat → Addr) (sub : List ((Nat × Nat) × Bool)) : Bool := (allTags sub).all fun t => (allTys sub).all fun ty => match tagIs (fun k k' => sub.lookup (k, k')) t ty with
  | some b => decide (PySem.W.kitOne K (tagVL ca t) (tyVL ca ty) = some b)
  | none => true
theorem kitB_ok {c : Cn} {sub : List ((Nat × Nat) × Bool)} (h : kitB c.K c.CA sub = true) (t : Tag) (ty : Ty) (b : Bool) (e : tagIs (fun k k' => sub.lookup (k, k')) t ty = some b) : PySem.W.kitOne c.K (tagV c t) (tyV c ty) = some b := by
  have h1 : t ∈ allTags sub := by
    unfold allTags
    cases t <;> first
      | (simp; done)
      | skip
    rename_i k
    have : ∃ k' b', sub.lookup (k, k') = some b' := by
      cases ty <;> unfold tagIs at e
      case cls k' => exact ⟨k', b, e⟩
      all_goals
        dsimp only at e
        cases q : sub.lookup (k, k) with
        | none => rw [q] at e; cases e
        | some b' => exact ⟨k, b', q⟩
    obtain ⟨k', b', q⟩ := this
    exact List.mem_append_right _ (List.mem_map.mpr ⟨_, lookup_memL q, rfl⟩)
  have h2 : ty ∈ allTys sub := by
    unfold allTys
    cases ty <;> first
      | (simp; done)
      | skip
    rename_i k
    have : (∃ k' b', sub.lookup (k', k) = some b') := by
      cases t <;> unfold tagIs at e
      case cls k' => exact ⟨k', b, e⟩
      all_goals
        dsimp only at e
        cases q : sub.lookup (k, k) with
        | none => rw [q] at e; cases e
        | some b' => exact ⟨k, b', q⟩
    obtain ⟨k', b', q⟩ := this
    exact List.mem_append_right _ (List.mem_map.mpr ⟨_, lookup_memL q, rfl⟩)
  unfold kitB at h
  have h3 := List.all_eq_true.mp (List.all_eq_true.mp h t h1) ty h2
  rw [e] at h3
  have h4 := of_decide_eq_true h3
  have e1 : tagVL c.CA t = tagV c t := by cases t <;> rfl
  have e2 : tyVL c.CA ty = tyV c ty := by cases ty <;> rfl
  rw [e1, e2] at h4
  exact h4
def PD.ca (d : PD) (K : PySem.W.Frag) (k : Nat) : Addr := match d.cl[k]? with
  | some x => He.ga K x
  | none => 0
def EP.defD (d : PD) (e : EP) : He.DefD := ⟨((d.cl[e.k]?).getD "", some "__init__"), "__init__", e.qual, e.args, e.body, e.sc, [], []⟩
def DP.defD (x : DP) : He.DefD := ⟨x.at_, x.name, x.qual, x.args, x.body, x.sc, [], []⟩
def PD.defs (d : PD) : List He.DefD := d.df.map DP.defD ++ d.exf.map (EP.defD d)
def PD.facts (d : PD) : List He.Fa :=
  bltNames.map .free ++ (d.df.filterMap fun x => if x.at_.2.isNone then some (.glo x.at_.1) else none) ++ d.cl.map .glo ++
  (d.flds.filterMap fun q => match d.cl[q.1]?, d.fd[q.2]? with
    | some c, some f => some (.noat c f)
    | _, _ => none) ++
  (d.flds.filterMap fun q => (d.cl[q.1]?).map .cls) ++
  (d.ini.filterMap fun q => (d.cl[q.1]?).map .mkr)
def PD.ex (d : PD) (K : PySem.W.Frag) : Bool :=
  (d.gn.all fun q => glbB K q.1 q.2) && kitB K (d.ca K) d.sub && (d.sub.all fun q => clskB K (d.ca K q.1.1)) &&
  (d.exs.all fun q => decide (PySem.W.exmOne K (.ref (d.ca K q.1.1)) (.ref (d.ca K q.1.2)) = some q.2)) &&
  (d.exf.all fun e => oexB K (d.ca K e.k) && decide (PySem.W.findIn K (.ref (d.ca K e.k)) "__init__" = some (some (.ref (He.ma K (d.ca K e.k) "__init__")))) &&
    decide (PySem.W.typeIn K (.ref (He.ma K (d.ca K e.k) "__init__")) = some (.type "function")) && e.ns.all fun n => decide (PySem.W.findIn K (.ref (d.ca K e.k)) (FNof d.fd n) = some none))
def scopeB (N ps : List Str) (sc : Scope) : Bool := decide (sc.kind = .function) && !sc.isCoroutine && !sc.isGenerator && decide N.Nodup && decide (N.take ps.length = ps) && (ps.all fun x => sc.names.lookup x == some .local || sc.names.lookup x == some .cell) && sc.names.all fun y => !(y.2 == .free)
theorem scopeB_ok {N ps : List Str} {sc : Scope} (h : scopeB N ps sc = true) : FnScope N ps sc := by
  unfold scopeB at h
  simp only [Bool.and_eq_true, decide_eq_true_eq, Bool.not_eq_true', List.all_eq_true, Bool.or_eq_true] at h
  obtain ⟨⟨⟨⟨⟨⟨h1, h2⟩, h3⟩, h4⟩, h5⟩, h6⟩, h7⟩ := h
  exact ⟨h1, h2, h3, h4, h5, fun x hx => (h6 x hx).imp (fun z => by simpa using z) (fun z => by simpa using z), fun y hy => by simpa using h7 y hy⟩
def DP.ok (y : Sy) (x : DP) : Bool := decide (x.t.n = x.N.length) && decide (x.t.np = x.ps.length) && scopeB x.N x.ps x.sc && okSs y x.N x.sc x.t.body x.body
def EP.ok (d : PD) (e : EP) : Bool := decide (e.k < d.cl.length) && decide (e.N.length = e.ns.length + 1) && decide (e.ns.length ≤ 900) && decide (e.ns ≠ []) && decide e.ns.Nodup && scopeB e.N e.N e.sc && okInit d.sy e.N e.sc 1 e.ns e.body
def PD.ok (d : PD) : Bool := (d.df.all fun x => x.ok d.sy) && (d.exf.all fun e => e.ok d) && decide d.fd.Nodup && (d.fd.all fun x => decide (x.cps.size < 100)) && (d.flds.all fun q => decide (q.1 < d.cl.length) && decide (q.2 < d.fd.length)) &&
  (d.sub.all fun q => (d.sub.lookup (q.1.1, q.1.1)).isSome) && (d.ini.all fun q => match d.cl[q.1]?, d.df[q.2]? with
    | some c, some x => decide (x.at_ = (c, some ("__init__" : Str)))
    | _, _ => false)
def BindOk (name qual : Str) (args : Arguments) (body : List Stmt) (sc : Scope) (ps : List Str) : Prop := ∀ (kV doc pm : Value) (an : Option Addr) (cdv ct : Value) (us : List Value), us.length = ps.length → bindArgs (PySem.W.fnOf name qual args body sc .none kV doc pm an cdv ct) ⟨us, []⟩ = pure (ps.zip us)
end T
set_option maxRecDepth 100000
namespace T
open PySem L2
section
variable {d : PD} {P : Program} {w : World} {K : PySem.W.Frag} {mg : Str → Option Value} {h base : Heap}
def PD.cn (d : PD) (hok : d.ok = true) (K : PySem.W.Frag) : Cn where
  K := K
  CA := d.ca K
  FN := FNof d.fd
  inj := by
    unfold PD.ok at hok
    simp only [Bool.and_eq_true, decide_eq_true_eq, List.all_eq_true] at hok
    exact FNof_inj hok.1.1.1.1.2 hok.1.1.1.2
def PD.pg (d : PD) (hok : d.ok = true) (P : Program) (w : World) (K : PySem.W.Frag) (mg : Str → Option Value) (base : Heap) (fdf : Nat → FuncData) : Pg where
  P := P
  w := w
  mg := mg
  base := base
  c := d.cn hok K
  y := d.sy
  fa := fun f => match d.df[f]? with
    | some x => He.fAd K x.at_
    | none => 0
  fd := fdf
  ps := fun f => match d.df[f]? with
    | some x => x.ps
    | none => []
structure Says (d : PD) (K : PySem.W.Frag) : Prop where
  say : He.SaysD d.facts d.defs K
  ex : d.ex K = true
structure Binding (d : PD) : Prop where
  df : ∀ x ∈ d.df, BindOk x.name x.qual x.args x.body x.sc x.ps
  exf : ∀ e ∈ d.exf, BindOk "__init__" e.qual e.args e.body e.sc e.N
theorem binds_of {x qual : Str} {params : Arguments} {body : List Stmt} {scope : Scope} {ps : List Str} {f : Addr} {fd : FuncData} (F : FunD K x qual params body scope [] [] f fd) (h : BindOk x qual params body scope ps) : Binds K fd ps [] := F.bindsN h
theorem Says.def_ (c : Says d K) {x : DP} (hx : x ∈ d.df) : ∃ fd, FunD K x.name x.qual x.args x.body x.sc [] [] (He.fAd K x.at_) fd := by
  have := He.SaysD.defs c.say (d := x.defD) (List.mem_append_left _ (List.mem_map.mpr ⟨x, hx, rfl⟩))
  exact this
theorem Says.exd (c : Says d K) {e : EP} (he : e ∈ d.exf) : ∃ fd, FunD K "__init__" e.qual e.args e.body e.sc [] [] (He.fAd K ((d.cl[e.k]?).getD "", some ("__init__" : Str))) fd := by
  have := He.SaysD.defs c.say (d := e.defD d) (List.mem_append_right _ (List.mem_map.mpr ⟨e, he, rfl⟩))
  exact this
theorem Says.fdf (c : Says d K) : ∃ fdf : Nat → FuncData, ∀ f x, d.df[f]? = some x → FunD K x.name x.qual x.args x.body x.sc [] [] (He.fAd K x.at_) (fdf f) := by
  have : ∀ f : Nat, ∃ fd : FuncData, ∀ x : DP, d.df[f]? = some x → FunD K x.name x.qual x.args x.body x.sc [] [] (He.fAd K x.at_) fd := by
    intro f
    cases q : d.df[f]? with
    | none => exact ⟨default, fun x e => by cases e⟩
    | some x =>
      obtain ⟨fd, F⟩ := c.def_ (List.mem_of_getElem? q)
      exact ⟨fd, fun y e => by cases e; exact F⟩
  exact ⟨fun f => Classical.choose (this f), fun f => Classical.choose_spec (this f)⟩
theorem top_ok (hok : d.ok = true) (B : Binding d) (X : K.In h) (G : h.Ns mainGlobals mg) (c : Says d K) {fdf : Nat → FuncData} (hf : ∀ f x, d.df[f]? = some x → FunD K x.name x.qual x.args x.body x.sc [] [] (He.fAd K x.at_) (fdf f)) {fn : Nat → List O → Option (Except Exn O × List O)} :
    Top (d.pg hok P w K mg base fdf) (d.ctx0 fn) := by
  have hok' := hok
  unfold PD.ok at hok'
  simp only [Bool.and_eq_true, decide_eq_true_eq, List.all_eq_true] at hok'
  obtain ⟨⟨⟨⟨⟨⟨o1, o2⟩, o3⟩, o4⟩, o5⟩, o6⟩, o7⟩ := hok'
  have ex := c.ex
  unfold PD.ex at ex
  simp only [Bool.and_eq_true, decide_eq_true_eq, List.all_eq_true] at ex
  obtain ⟨⟨⟨⟨x1, x2⟩, x3⟩, x4⟩, x5⟩ := ex
  have fact : ∀ {f : He.Fa}, f ∈ d.facts → f.ok K = true := fun hm => He.SaysD.facts c.say hm
  have caE : ∀ k x, d.cl[k]? = some x → d.ca K k = He.ga K x := fun k x e => by unfold PD.ca; rw [e]
  have hfdn : ∀ (f : Nat) x, d.fd[f]? = some x → FNof d.fd f = x := fun f x e => by unfold FNof; rw [e]
  refine ⟨?_, ?_, ?_, ?_, ?_, ?_, ?_, ?_, ?_, ?_, ?_, ?_⟩
  · -- glb
    intro g x dd e1 e2
    have e1' : (d.gn[g]?).map (·.1) = some x := by
      have : (d.gn.map (·.1))[g]? = some x := e1
      rwa [List.getElem?_map] at this
    have e2' : (d.gn[g]?).map (·.2) = some dd := e2
    cases q : d.gn[g]? with
    | none => rw [q] at e1'; cases e1'
    | some y =>
      rw [q] at e1' e2'
      cases e1'
      cases e2'
      have h1 := x1 y (List.mem_of_getElem? q)
      unfold glbB at h1
      split at h1
      · rename_i u hu
        obtain ⟨v, r1, r2⟩ := repB_ok (c := d.cn hok K) h1
        exact ⟨u, v, PySem.W.mg_of X G hu, r1, r2⟩
      · cases h1
  · -- blt
    intro x hx
    exact He.free_ok X G (fact (f := .free x) (by unfold PD.facts; simp only [List.mem_append, List.mem_map]; exact .inl (.inl (.inl (.inl (.inl ⟨x, hx, rfl⟩))))))
  · -- fld
    intro k f e
    have e' : (k, f) ∈ d.flds := by
      have : d.flds.contains (k, f) = true := e
      simpa using this
    have hb := o5 (k, f) e'
    obtain ⟨cx, hcx⟩ : ∃ cx, d.cl[k]? = some cx := ⟨_, List.getElem?_eq_getElem hb.1⟩
    obtain ⟨fx, hfx⟩ : ∃ fx, d.fd[f]? = some fx := ⟨_, List.getElem?_eq_getElem hb.2⟩
    have f1 := fact (f := .cls cx) (by
      unfold PD.facts
      simp only [List.mem_append, List.mem_filterMap]
      exact .inl (.inr ⟨(k, f), e', by simp [hcx]⟩))
    have f2 := fact (f := .noat cx fx) (by
      unfold PD.facts
      simp only [List.mem_append, List.mem_filterMap]
      exact .inl (.inl (.inr ⟨(k, f), e', by simp [hcx, hfx]⟩)))
    have eC : (d.cn hok K).CA k = He.ga K cx := caE k cx hcx
    have eF : (d.cn hok K).FN f = fx := hfdn f fx hfx
    refine ⟨?_, ?_⟩
    · show Cls K ((d.cn hok K).CA k)
      rw [eC]
      exact He.cls_ok f1
    · show NoAttr K ((d.cn hok K).CA k) ((d.cn hok K).FN f)
      rw [eC, eF]
      exact He.noat_ok f2
  · -- kn
    intro k b e
    have h1 := x3 _ (lookup_memL (show d.sub.lookup (k, k) = some b from e))
    exact clskB_ok h1
  · -- kit
    intro t ty b e
    exact kitB_ok (c := d.cn hok K) x2 t ty b e
  · -- cln
    intro k x e
    have e' : d.cl[k]? = some x := e
    have f1 := fact (f := .glo x) (by
      unfold PD.facts
      simp only [List.mem_append, List.mem_map]
      exact .inl (.inl (.inl (.inr ⟨x, List.mem_of_getElem? e', rfl⟩))))
    have := He.glo_ok X G f1
    have eC : (d.cn hok K).CA k = He.ga K x := caE k x e'
    show mg x = some (.ref ((d.cn hok K).CA k))
    rw [eC]
    exact this
  · -- fdn
    intro f x e
    exact hfdn f x e
  · -- fna
    intro f x e
    have e' : (d.df.map fun x => if x.at_.2.isNone then some x.at_.1 else none)[f]? = some (some x) := e
    rw [List.getElem?_map] at e'
    cases q : d.df[f]? with
    | none => rw [q] at e'; cases e'
    | some y =>
      rw [q] at e'
      simp only [Option.map_some, Option.some.injEq] at e'
      split at e'
      · rename_i hn
        cases e'
        have f1 := fact (f := .glo y.at_.1) (by
          unfold PD.facts
          simp only [List.mem_append, List.mem_filterMap]
          exact .inl (.inl (.inl (.inl (.inr ⟨y, List.mem_of_getElem? q, by simp [hn]⟩)))))
        have hat : He.fAd K y.at_ = He.ga K y.at_.1 := by
          unfold He.fAd
          cases z : y.at_.2 with
          | none => rfl
          | some m => rw [z] at hn; cases hn
        have efa : (d.pg hok P w K mg base fdf).fa f = He.fAd K y.at_ := by
          show (match d.df[f]? with | some x => He.fAd K x.at_ | none => 0) = _
          rw [q]
        have eps : (d.pg hok P w K mg base fdf).ps f = y.ps := by
          show (match d.df[f]? with | some x => x.ps | none => []) = _
          rw [q]
        have F := hf f y q
        refine ⟨?_, ?_, ?_⟩
        · rw [efa, hat]
          exact He.glo_ok X G f1
        · rw [efa]
          exact F.kp
        · rw [eps]
          exact binds_of F (B.df y (List.mem_of_getElem? q))
      · cases e'
  · -- mka
    intro k f e
    have e' : d.ini.lookup k = some f := e
    have hm := lookup_memL e'
    have h1 := o7 _ hm
    dsimp only at h1
    cases q1 : d.cl[k]? with
    | none => rw [q1] at h1; cases h1
    | some cx =>
      cases q2 : d.df[f]? with
      | none => rw [q1, q2] at h1; cases h1
      | some y =>
        rw [q1, q2] at h1
        have hat := of_decide_eq_true h1
        have f1 := fact (f := .mkr cx) (by
          unfold PD.facts
          simp only [List.mem_append, List.mem_filterMap]
          exact .inr ⟨(k, f), hm, by simp [q1]⟩)
        have efa : (d.pg hok P w K mg base fdf).fa f = He.ma K (He.ga K cx) "__init__" := by
          show (match d.df[f]? with | some x => He.fAd K x.at_ | none => 0) = _
          rw [q2]
          dsimp only
          rw [hat]
          rfl
        have eps : (d.pg hok P w K mg base fdf).ps f = y.ps := by
          show (match d.df[f]? with | some x => x.ps | none => []) = _
          rw [q2]
        have eC : (d.cn hok K).CA k = He.ga K cx := caE k cx q1
        refine ⟨?_, ?_⟩
        · rw [efa]
          show Mk K ((d.cn hok K).CA k) _
          rw [eC]
          exact He.mkr_ok f1
        · rw [eps]
          exact binds_of (hf f y q2) (B.df y (List.mem_of_getElem? q2))
  · -- exk
    intro k ns e
    have e' : (d.exf.find? fun e => e.k == k).map (·.ns) = some ns := e
    cases q : d.exf.find? fun e => e.k == k with
    | none => rw [q] at e'; cases e'
    | some ep =>
      rw [q] at e'
      cases e'
      have hm := List.mem_of_find?_eq_some q
      have hk : ep.k = k := by
        have := List.find?_some q
        simpa using this
      subst hk
      obtain ⟨⟨⟨y1, y2⟩, y3⟩, y4⟩ := x5 ep hm
      have h1 := o2 ep hm
      unfold EP.ok at h1
      simp only [Bool.and_eq_true, decide_eq_true_eq] at h1
      obtain ⟨⟨⟨⟨⟨⟨z1, z2⟩, z3⟩, z4⟩, z5⟩, z6⟩, z7⟩ := h1
      obtain ⟨fd, F⟩ := c.exd hm
      have eC : (d.cn hok K).CA ep.k = He.ga K d.cl[ep.k] := caE ep.k _ (List.getElem?_eq_getElem z1)
      have eA : He.fAd K ((d.cl[ep.k]?).getD "", some ("__init__" : Str)) = He.ma K (d.ca K ep.k) "__init__" := by
        rw [List.getElem?_eq_getElem z1]
        show He.ma K (He.ga K _) _ = _
        rw [show d.ca K ep.k = He.ga K d.cl[ep.k] from eC]
        rfl
      rw [eA] at F
      refine ⟨oexB_ok y1, z4, z5, _, fd, ep.N, y2, y3, binds_of F (B.exf ep hm), ?_⟩
      exact init_ok (p := d.pg hok P w K mg base fdf) F (scopeB_ok z6) z2 z3 z4 z7 (fun f x e => hfdn f x e) (oexB_ok y1) fun n hn => by
        have := y4 n hn
        exact this
  · -- exm
    intro k k' b e
    exact x4 _ (lookup_memL (show d.exs.lookup (k, k') = some b from e))
  · -- rfl'
    intro k k' b e
    have h1 := o6 _ (lookup_memL (show d.sub.lookup (k, k') = some b from e))
    exact Option.isSome_iff_exists.mp h1
theorem prom_ok (hok : d.ok = true) (B : Binding d) (X : K.In h) (G : h.Ns mainGlobals mg) (c : Says d K) {fdf : Nat → FuncData} (hf : ∀ f x, d.df[f]? = some x → FunD K x.name x.qual x.args x.body x.sc [] [] (He.fAd K x.at_) (fdf f)) :
    ∀ n, Prom (d.pg hok P w K mg base fdf) (d.ctx n) n
  | 0 => ⟨fun f => by
    refine ⟨fun vs H Q E h => ?_, fun A outer s H args us vs Q E _ _ _ _ h => ?_⟩
    · obtain ⟨_, _, _, _, _, _, _, _, h, _⟩ := h
      cases h
    · obtain ⟨_, _, _, _, _, _, _, _, h, _⟩ := h
      cases h⟩
  | n + 1 => ⟨fun f => by
    have ih := prom_ok hok B X G c hf n
    cases q : d.df[f]? with
    | none =>
      have no : ∀ os, (d.ctx (n + 1)).fn f os = none := fun os => by
        show (match d.df[f]? with | some x => runDef (d.ctx n) x.br x.t os | none => none) = none
        rw [q]
      refine ⟨fun vs H Q E h => ?_, fun A outer s H args us vs Q E _ _ _ _ h => ?_⟩
      · obtain ⟨_, os, _, _, _, _, _, _, h, _⟩ := h
        rw [no os] at h
        cases h
      · obtain ⟨_, os, _, _, _, _, _, _, h, _⟩ := h
        rw [no os] at h
        cases h
    | some x =>
      have F := hf f x q
      have hok' := hok
      unfold PD.ok at hok'
      simp only [Bool.and_eq_true, decide_eq_true_eq, List.all_eq_true] at hok'
      have h1 := hok'.1.1.1.1.1.1 x (List.mem_of_getElem? q)
      unfold DP.ok at h1
      simp only [Bool.and_eq_true, decide_eq_true_eq] at h1
      obtain ⟨⟨⟨z1, z2⟩, z3⟩, z4⟩ := h1
      have efa : (d.pg hok P w K mg base fdf).fa f = He.fAd K x.at_ := by
        show (match d.df[f]? with | some x => He.fAd K x.at_ | none => 0) = _
        rw [q]
      have eps : (d.pg hok P w K mg base fdf).ps f = x.ps := by
        show (match d.df[f]? with | some x => x.ps | none => []) = _
        rw [q]
      have ebr : (d.ctx (n + 1)).br f = x.br := by
        show (match d.df[f]? with | some x => x.br | none => []) = _
        rw [q]
      have efn : (d.ctx (n + 1)).fn f = runDef (d.ctx n) x.br x.t := by
        funext os
        show (match d.df[f]? with | some x => runDef (d.ctx n) x.br x.t os | none => none) = _
        rw [q]
      rw [efa, eps, ebr, efn]
      have T : Top (d.pg hok P w K mg base fdf) (d.ctx n) := by
        cases n with
        | zero => exact top_ok hok B X G c hf
        | succ n => exact top_ok hok B X G c hf
      exact def_ok (p := d.pg hok P w K mg base fdf) T ih F (scopeB_ok z3) z1 z2 z4⟩
end
end T
set_option maxRecDepth 100000
namespace T
open PySem L2
theorem zip_look {ps : List Str} {us : List Value} (hl : us.length = ps.length) {n : Str} (h : n ∈ ps) : ∃ v, (ps.zip us).lookup n = some v := by
  induction ps generalizing us with
  | nil => cases h
  | cons p ps ih =>
    cases us with
    | nil => simp at hl
    | cons u us =>
      rw [List.zip_cons_cons, List.lookup_cons]
      cases q : n == p with
      | true => exact ⟨u, rfl⟩
      | false =>
        have : n ∈ ps := by
          rcases List.mem_cons.mp h with e | e
          · subst e; simp at q
          · exact e
        exact ih (by simpa using hl) this
theorem fm_congr {α β : Type} {f g : α → Option β} : ∀ {l : List α}, (∀ x ∈ l, f x = g x) → l.filterMap f = l.filterMap g
  | [], _ => rfl
  | x :: l, h => by
    rw [List.filterMap_cons, List.filterMap_cons, h x List.mem_cons_self, fm_congr fun y hy => h y (List.mem_cons_of_mem _ hy)]
theorem zip_filter {ps : List Str} (nd : ps.Nodup) {us : List Value} (hl : us.length = ps.length) : ps.filterMap (fun n => ((ps.zip us).lookup n).map (n, ·)) = ps.zip us := by
  induction ps generalizing us with
  | nil => cases us <;> rfl
  | cons p ps ih =>
    cases us with
    | nil => simp at hl
    | cons u us =>
      have nd' := List.nodup_cons.mp nd
      rw [List.zip_cons_cons, List.filterMap_cons]
      have e1 : List.lookup p ((p, u) :: ps.zip us) = some u := by simp [List.lookup_cons]
      rw [e1]
      simp only [Option.map_some, List.cons.injEq, true_and]
      refine Eq.trans ?_ (ih nd'.2 (by simpa using hl))
      refine fm_congr fun n hn => ?_
      have q : (n == p) = false := by
        have : n ≠ p := fun e => nd'.1 (e ▸ hn)
        simpa using this
      rw [List.lookup_cons, q]
def plainArgs (as : List PySem.Arg) : Arguments := ⟨[], as, none, [], [], none, []⟩
theorem bind_plain {name qual : Str} {as : List PySem.Arg} {body : List Stmt} {sc : Scope} {ps : List Str} (h : as.map (·.arg) = ps) (nd : ps.Nodup) : BindOk name qual (plainArgs as) body sc ps := by
  intro kV doc pm an cdv ct us hl
  unfold bindArgs
  have m0 : (List.filter (fun n => ((ps.zip us).lookup n).isNone) ps) = [] := by
    rw [List.filter_eq_nil_iff]
    intro n hn
    obtain ⟨v, e⟩ := zip_look hl hn
    rw [e]
    simp
  have z := zip_filter nd hl
  simp only [PySem.W.fnOf, plainArgs, List.map_nil, List.nil_append, List.append_nil, h, seqItems?]
  simp [hl, m0, z]
  rfl
def plainB (a : Arguments) (ps : List Str) : Bool := a.posonlyargs.isEmpty && a.vararg.isNone && a.kwonlyargs.isEmpty && a.kw_defaults.isEmpty && a.kwarg.isNone && a.defaults.isEmpty && decide (a.args.map (·.arg) = ps) && decide ps.Nodup
theorem plainB_ok {name qual : Str} {a : Arguments} {body : List Stmt} {sc : Scope} {ps : List Str} (h : plainB a ps = true) : BindOk name qual a body sc ps := by
  obtain ⟨p1, p2, p3, p4, p5, p6, p7⟩ := a
  unfold plainB at h
  simp only [Bool.and_eq_true, decide_eq_true_eq] at h
  obtain ⟨⟨⟨⟨⟨⟨⟨h1, h2⟩, h3⟩, h4⟩, h5⟩, h6⟩, h7⟩, h8⟩ := h
  cases p1 with
  | cons _ _ => cases h1
  | nil =>
    cases p3 with
    | some _ => cases h2
    | none =>
      cases p4 with
      | cons _ _ => cases h3
      | nil =>
        cases p5 with
        | cons _ _ => cases h4
        | nil =>
          cases p6 with
          | some _ => cases h5
          | none =>
            cases p7 with
            | cons _ _ => cases h6
            | nil => exact bind_plain h7 h8
def PD.plain (d : PD) : Bool := (d.df.all fun x => plainB x.args x.ps) && d.exf.all fun e => plainB e.args e.N
theorem PD.binding {d : PD} (h : d.plain = true) : Binding d := by
  unfold PD.plain at h
  simp only [Bool.and_eq_true, List.all_eq_true] at h
  exact ⟨fun x hx => plainB_ok (h.1 x hx), fun e he => plainB_ok (h.2 e he)⟩
/-- the law, of trees alone -/
def PlainLaw (d : PD) (n f : Nat) : Prop := ∀ ns : List Int, ns.length ≤ 63 → (∀ z ∈ ns, Builtin.Int.intBits z ≤ 1048576) → ∃ post, (d.ctx n).fn f [.pure (.lst (ns.map .int))] = some (.ok (.pure (.bl true)), post)
theorem ints_rep {c : Cn} {F : Hp} : ∀ {ns : List Int}, Reps c F (ns.map .int) (ns.map V.int)
  | [] => rfl
  | n :: ns => ⟨.int n, _, rfl, rfl, ints_rep⟩
theorem law_walk {l : PySem.W.OpenLaw} {q : Program} {loose : List Str} {XP : (Str → Option Value) → Heap → Prop} {dr : DefRec} {d : PD} {n f : Nat} {x : DP} {script : Str}
    (hn : l.most = some 63) (hdf : dr.params.defaults = []) (hr : Room (3 * n) callerA) (hok : d.ok = true) (hpl : d.plain = true) (hx : d.df[f]? = some x) (hat : x.at_ = (dr.name, none)) (hps : x.ps = [script]) (pl : PlainLaw d n f) :
    PySem.W.WalkO q loose XP (fun w h => ∃ K : PySem.W.Frag, K.In h ∧ He.SaysX d.facts d.defs [] [] d.ex w h K) l.row.toRowW dr [] (fun f vs => PySem.call f vs) := by
  refine Att.attach_callB hn hdf fun w s₀ s₁ mg mb fa o pm cd doc a vs ns G Y ho hd hcd hmg hobj hints hlen hbits hg => ?_
  obtain ⟨K, KX, SX⟩ := Y
  have c : Says d K := ⟨SX.t.d, SX.more⟩
  obtain ⟨fdf, hf⟩ := c.fdf
  have F := hf f x hx
  have B := PD.binding hpl
  have f1 : (He.Fa.glo x.at_.1).ok K = true := He.SaysD.facts c.say (by
    unfold PD.facts
    simp only [List.mem_append, List.mem_filterMap]
    exact .inl (.inl (.inl (.inl (.inr ⟨x, List.mem_of_getElem? hx, by rw [hat]; rfl⟩)))))
  have e1 : fa = He.fAd K x.at_ := by
    have h1 := He.glo_ok KX G.T.g f1
    rw [hat] at h1
    have h2 : mg dr.name = some (.ref (He.ga K dr.name)) := h1
    rw [hmg] at h2
    cases h2
    rw [hat]
    rfl
  subst e1
  have hb := B.df x (List.mem_of_getElem? hx)
  refine law_call (x := script) (CX := L2N.CX l.prog w) (k := 3 * n) (sp := fun vs H Q E => Runs (d.cn hok K) ((d.ctx n).fn f) ((d.ctx n).br f) vs H Q E) KX G.T.g G.T.b G.T.builtins G.T.nolimit hg hobj hints (Nat.le_trans hlen (by rw [sizeLine_eq]; omega)) hr (fun base hK hB => ?_) (fd := fdf f) (fun s u => ?_) (fun H hO hS => ?_) (fun H e s' h => ?_)
  · have P := (prom_ok (P := l.prog) (w := w) (base := base) hok B KX G.T.g c hf n).ok f
    have efa : (d.pg hok l.prog w K mg base fdf).fa f = He.fAd K x.at_ := by
      show (match d.df[f]? with | some x => He.fAd K x.at_ | none => 0) = _
      rw [hx]
    have eps : (d.pg hok l.prog w K mg base fdf).ps f = [script] := by
      show (match d.df[f]? with | some x => x.ps | none => []) = _
      rw [hx]
      exact hps
    rw [efa, eps] at P
    exact P
  · have := FunD.bindsA F hb s [u] (by rw [hps]; rfl)
    rw [hps] at this
    exact this
  · obtain ⟨post, e⟩ := pl ns hlen hbits
    refine ⟨H, [.pure (.lst (ns.map .int))], [], _, Ex.refl H, ⟨.ref a, [], [], [], rfl, ⟨⟨a, _, rfl, hS, ints_rep⟩, rfl⟩, ⟨rfl, rfl⟩, rfl⟩, List.nodup_nil, fun _ h => absurd h (by simp), e, ?_⟩
    intro F1 H1 L1 Lv v _ _ _ r _ _
    exact r.1
  · obtain ⟨_, _, _, _, _, _, _, _, _, _, _, _, z⟩ := h
    exact z
end T
namespace T
open PySem
variable {α β γ : Type}
class K2 (α β : Type) where
  run : α → Env → Oc β
class Kf (α β : Type) where
  run : α → β
def bd (x : Oc α) [f : K2 α β] : Oc β := x.bind f.run
def oo (x : Option α) [f : Kf α (Option β)] : Option β := match x with
  | none => none
  | some a => f.run a
theorem bd_congr {x y : Oc α} {f : K2 α β} (h : x = y) : bd x (f := f) = bd y (f := f) := by rw [h]
theorem oo_congr {x y : Option α} {f : Kf α (Option β)} (h : x = y) : oo x (f := f) = oo y (f := f) := by rw [h]
theorem bd_ok {a : α} {env : Env} {f : K2 α β} : bd (some (.ok a, env)) (f := f) = f.run a env := (rfl)
theorem bd_er {x : Exn} {env : Env} {f : K2 α β} : bd (some (.error x, env)) (f := f) = some (.error x, env) := (rfl)
theorem bd_no {f : K2 α β} : bd none (f := f) = none := (rfl)
theorem oo_some {a : α} {f : Kf α (Option β)} : oo (some a) (f := f) = f.run a := (rfl)
theorem oo_none {f : Kf α (Option β)} : oo none (f := f) = none := (rfl)
theorem bd_ite {p : Prop} [Decidable p] {x y : Oc α} {f : K2 α β} : bd (if p then x else y) (f := f) = if p then bd x (f := f) else bd y (f := f) := by split <;> rfl
theorem oo_ite {p : Prop} [Decidable p] {x y : Option α} {f : Kf α (Option β)} : oo (if p then x else y) (f := f) = if p then oo x (f := f) else oo y (f := f) := by split <;> rfl
section
variable {C : Ctx} {env : Env}
/-- what a slot holds -/
def sl : Option (Option O) → Option O
  | some x => x
  | none => none
theorem sl_some {x : Option O} : sl (some x) = x := (rfl)
theorem evalR_var {i : Nat} : evalR C env (.var i) = oo (sl env[i]?) (f := ⟨fun o => some (argAt i [] o)⟩) := by
  unfold evalR
  cases env[i]? with
  | none => rfl
  | some o => cases o <;> rfl
theorem evalR_con {d : D} : evalR C env (.con d) = some (.val d) := (rfl)
theorem evalR_glb {g : Nat} : evalR C env (.glb g) = oo (C.G g) (f := ⟨fun d => some (Arg.val d)⟩) := by
  unfold evalR oo
  cases C.G g <;> rfl
def ixO (i : Nat) (p : List Step) (k : D) : O → Option Arg
  | .dct false ks vs => match lkD ks vs k with
    | some (.pure d) => some (.val d)
    | _ => none
  | o => oo (o.idx k) (f := ⟨fun r => some (argAt i (p ++ [r.1]) r.2)⟩)
theorem ixO_lst {i : Nat} {p : List Step} {k : D} {os : List O} : ixO i p k (.lst os) = oo (O.idx (.lst os) k) (f := ⟨fun r => some (argAt i (p ++ [r.1]) r.2)⟩) := (rfl)
theorem ixO_dct {i : Nat} {p : List Step} {k : D} {ks : List D} {os : List O} : ixO i p k (.dct false ks os) = match lkD ks os k with
    | some (.pure d) => some (.val d)
    | _ => none := rfl
/-- a place is read further -/
def stepIx (env : Env) : Arg → Arg → Option Arg
  | .val d, .val k => oo (d.idx k) (f := ⟨fun x => some (Arg.val x)⟩)
  | .ref i p, .val k => oo (env.at i p) (f := ⟨fun o => ixO i p k o⟩)
  | _, _ => none
theorem stepIx_v {d k : D} : stepIx env (.val d) (.val k) = oo (d.idx k) (f := ⟨fun x => some (Arg.val x)⟩) := (rfl)
theorem stepIx_r {i : Nat} {p : List Step} {k : D} : stepIx env (.ref i p) (.val k) = oo (env.at i p) (f := ⟨fun o => ixO i p k o⟩) := (rfl)
theorem evalR_idx {a b : R} : evalR C env (.idx a b) = oo (evalR C env a) (f := ⟨fun x => oo (evalR C env b) (f := ⟨fun y => stepIx env x y⟩)⟩) := by
  conv => lhs; unfold evalR
  cases evalR C env a with
  | none => rfl
  | some x =>
    cases evalR C env b with
    | none => cases x <;> rfl
    | some y =>
      cases x with
      | val d =>
        cases y with
        | val k =>
          dsimp only [oo, stepIx]
          cases d.idx k <;> rfl
        | ref _ _ => rfl
      | ref i p =>
        cases y with
        | ref _ _ => rfl
        | val k =>
          dsimp only [oo, stepIx]
          cases env.at i p with
          | none => rfl
          | some o =>
            dsimp only
            unfold ixO
            cases o with
            | pure d => rfl
            | lst os =>
              dsimp only
              cases O.idx _ k <;> rfl
            | dct kb ks vs =>
              cases kb with
              | false => rfl
              | true =>
                dsimp only
                cases O.idx _ k <;> rfl
            | ins c ns vs =>
              dsimp only
              cases O.idx _ k <;> rfl
def stepAt (C : Ctx) (env : Env) (f : Nat) : Arg → Option Arg
  | .val d => oo (d.att C.fld f) (f := ⟨fun x => some (Arg.val x)⟩)
  | .ref i p => oo (env.at i p) (f := ⟨fun o => oo (o.att C.fld f) (f := ⟨fun r => some (argAt i (p ++ [r.1]) r.2)⟩)⟩)
theorem stepAt_v {f : Nat} {d : D} : stepAt C env f (.val d) = oo (d.att C.fld f) (f := ⟨fun x => some (Arg.val x)⟩) := (rfl)
theorem stepAt_r {f : Nat} {i : Nat} {p : List Step} : stepAt C env f (.ref i p) = oo (env.at i p) (f := ⟨fun o => oo (o.att C.fld f) (f := ⟨fun r => some (argAt i (p ++ [r.1]) r.2)⟩)⟩) := (rfl)
theorem evalR_att {a : R} {f : Nat} : evalR C env (.att a f) = oo (evalR C env a) (f := ⟨fun x => stepAt C env f x⟩) := by
  conv => lhs; unfold evalR
  cases evalR C env a with
  | none => rfl
  | some x =>
    cases x with
    | val d =>
      dsimp only [oo, stepAt]
      cases d.att C.fld f <;> rfl
    | ref i p =>
      dsimp only [oo, stepAt]
      cases env.at i p with
      | none => rfl
      | some o =>
        dsimp only
        cases o.att C.fld f <;> rfl
theorem argAt_pure {i : Nat} {p : List Step} {d : D} : argAt i p (.pure d) = .val d := (rfl)
theorem argAt_lst {i : Nat} {p : List Step} {os : List O} : argAt i p (.lst os) = .ref i p := (rfl)
theorem argAt_dct {i : Nat} {p : List Step} {k : Bool} {ks : List D} {os : List O} : argAt i p (.dct k ks os) = .ref i p := (rfl)
theorem argAt_ins {i : Nat} {p : List Step} {c : Nat} {ns : List Nat} {os : List O} : argAt i p (.ins c ns os) = .ref i p := (rfl)
theorem argOf_rd {r : R} {x : Oc O} : argOf C (.rd r) x env = oo (evalR C env r) (f := ⟨fun a => some (.ok a, env)⟩) := by
  unfold argOf oo
  dsimp only
  cases evalR C env r <;> rfl
def argK (x : Oc O) : Oc Arg := bd x (f := ⟨fun o e => some (.ok (.val o.fz), e)⟩)
theorem argOf_nrd {e : E} {x : Oc O} (h : e.isRd = false) : argOf C e x env = argK x := by
  cases e with
  | rd r => exact Bool.noConfusion (show true = false from h)
  | _ =>
    unfold argOf argK bd Oc.bind
    rcases x with _ | ⟨r, e⟩
    · rfl
    · cases r <;> rfl
def pinK (b : Bool) (a : Arg) (env : Env) : Oc Arg := oo (pinIf b a env) (f := ⟨fun r => some (.ok r.1, r.2)⟩)
theorem pinIf_true {a : Arg} : pinIf true a env = some (a, env) := (rfl)
theorem pinIf_val {b : Bool} {d : D} : pinIf b (.val d) env = some (.val d, env) := by cases b <;> rfl
theorem pinIf_top {b : Bool} {i : Nat} : pinIf b (.ref i []) env = some (.ref i [], env) := by cases b <;> rfl
theorem pinIf_sub {i : Nat} {s : Step} {p : List Step} : pinIf false (.ref i (s :: p)) env = oo (env.freeze i (s :: p)) (f := ⟨fun r => some (Arg.val r.1, r.2)⟩) := by
  unfold pinIf
  rw [if_neg Bool.false_ne_true]
  unfold pin oo
  dsimp only
  cases env.freeze i (s :: p) with
  | none => rfl
  | some r => rfl
theorem ev_rd {r : R} : evalE C (.rd r) env = oo (evalR C env r) (f := ⟨fun a => hold a env⟩) := by
  unfold evalE valOf oo
  cases evalR C env r <;> rfl
theorem hold_val {d : D} : hold (.val d) env = some (.ok (.pure d), env) := (rfl)
theorem hold_ref {i : Nat} {p : List Step} : hold (.ref i p) env = oo (env.freeze i p) (f := ⟨fun r => some (.ok (.pure r.1), r.2)⟩) := by
  unfold hold oo
  dsimp only
  cases env.freeze i p <;> rfl
theorem ev_op {o : Op} {es : Es} : evalE C (.op o es) env = bd (evalEs C es env) (f := ⟨fun as e => opOrCall C o as e⟩) := by
  conv => lhs; unfold evalE
  rcases evalEs C es env with _ | ⟨r, e⟩
  · rfl
  · cases r <;> rfl
theorem ev_call {f : Nat} {es : Es} : evalE C (.call f es) env = bd (evalEs C es env) (f := ⟨fun as e => callF C f as e⟩) := by
  conv => lhs; unfold evalE
  rcases evalEs C es env with _ | ⟨r, e⟩
  · rfl
  · cases r <;> rfl
theorem ev_mk {c : Nat} {es : Es} : evalE C (.mk c es) env = oo (C.ini c) (f := ⟨fun f => bd (evalEs C es env) (f := ⟨fun as e => makeRes C c f as e⟩)⟩) := by
  conv => lhs; unfold evalE
  cases C.ini c with
  | none => rfl
  | some f =>
    dsimp only [oo]
    rcases evalEs C es env with _ | ⟨r, e⟩
    · rfl
    · cases r <;> rfl
theorem ev_lsn {es : Es} : evalE C (.lsn es) env = bd (evalOs C es env) (f := ⟨fun os e => if lenOk os.length then some (.ok (.lst os), e) else none⟩) := by
  conv => lhs; unfold evalE
  rcases evalOs C es env with _ | ⟨r, e⟩
  · rfl
  · cases r <;> rfl
theorem ev_and {a b : E} : evalE C (.and a b) env = bd (argOf C a (evalE C a env) env) (f := ⟨fun x e => oo (truthOf e x) (f := ⟨fun t => if t = true then evalE C b e else hold x e⟩)⟩) := by
  conv => lhs; unfold evalE
  rcases argOf C a (evalE C a env) env with _ | ⟨r, e⟩
  · rfl
  · cases r with
    | error _ => rfl
    | ok x =>
      dsimp only [bd, Oc.bind, oo]
      cases truthOf e x with
      | none => rfl
      | some t => cases t <;> rfl
theorem ev_or {a b : E} : evalE C (.or a b) env = bd (argOf C a (evalE C a env) env) (f := ⟨fun x e => oo (truthOf e x) (f := ⟨fun t => if t = true then hold x e else evalE C b e⟩)⟩) := by
  conv => lhs; unfold evalE
  rcases argOf C a (evalE C a env) env with _ | ⟨r, e⟩
  · rfl
  · cases r with
    | error _ => rfl
    | ok x =>
      dsimp only [bd, Oc.bind, oo]
      cases truthOf e x with
      | none => rfl
      | some t => cases t <;> rfl
theorem ev_ife {t a b : E} : evalE C (.ife t a b) env = bd (argOf C t (evalE C t env) env) (f := ⟨fun x e => oo (truthOf e x) (f := ⟨fun t => if t = true then evalE C a e else evalE C b e⟩)⟩) := by
  conv => lhs; unfold evalE
  rcases argOf C t (evalE C t env) env with _ | ⟨r, e⟩
  · rfl
  · cases r with
    | error _ => rfl
    | ok x =>
      dsimp only [bd, Oc.bind, oo]
      cases truthOf e x with
      | none => rfl
      | some t => cases t <;> rfl
def blOf : O → Option Bool
  | .pure (.bl b) => some b
  | _ => none
def valA : Arg → Option D
  | .val d => some d
  | _ => none
theorem ev_chn {o1 o2 : Op} {a b c : E} : evalE C (.chn o1 o2 a b c) env = bd (argOf C a (evalE C a env) env) (f := ⟨fun x e1 => oo (valA x) (f := ⟨fun x => bd (argOf C b (evalE C b e1) e1) (f := ⟨fun y e2 => oo (valA y) (f := ⟨fun y => oo (opD C o1 [x, y]) (f := ⟨fun r => oo (blOf r) (f := ⟨fun t =>
    if t = true then bd (argOf C c (evalE C c e2) e2) (f := ⟨fun z e3 => oo (valA z) (f := ⟨fun z => oo (opD C o2 [y, z]) (f := ⟨fun r => oo (blOf r) (f := ⟨fun k => some (.ok (.pure (.bl k)), e3)⟩)⟩)⟩)⟩) else some (.ok (.pure (.bl false)), e2)⟩)⟩)⟩)⟩)⟩)⟩) := by
  conv => lhs; unfold evalE
  rcases argOf C a (evalE C a env) env with _ | ⟨r, e1⟩
  · rfl
  · cases r with
    | error _ => rfl
    | ok x =>
      cases x with
      | ref _ _ => rfl
      | val x =>
        dsimp only [bd, Oc.bind, oo, valA]
        rcases argOf C b (evalE C b e1) e1 with _ | ⟨r, e2⟩
        · rfl
        · cases r with
          | error _ => rfl
          | ok y =>
            cases y with
            | ref _ _ => rfl
            | val y =>
              dsimp only
              cases opD C o1 [x, y] with
              | none => rfl
              | some o =>
                cases o with
                | pure d =>
                  cases d with
                  | bl t =>
                    cases t with
                    | false => rfl
                    | true =>
                      dsimp only [blOf]
                      rw [if_pos rfl]
                      rcases argOf C c (evalE C c e2) e2 with _ | ⟨r, e3⟩
                      · rfl
                      · cases r with
                        | error _ => rfl
                        | ok z =>
                          cases z with
                          | ref _ _ => rfl
                          | val z =>
                            dsimp only
                            cases opD C o2 [y, z] with
                            | none => rfl
                            | some o =>
                              cases o with
                              | pure d => cases d <;> rfl
                              | _ => rfl
                  | _ => rfl
                | _ => rfl
theorem ev_bmt {o : Op} {a : E} {es : Es} : evalE C (.bmt o a es) env = bd (argOf C a (evalE C a env) env) (f := ⟨fun x e1 => if bmOk o (x.view e1) = true then oo (pinIf es.allRd x e1) (f := ⟨fun r => bd (evalEs C es r.2) (f := ⟨fun as e3 => if kindS (x.view e1) (r.1.view e3) = true then opRes (opD C o) (r.1 :: as) e3 else none⟩)⟩) else none⟩) := by
  conv => lhs; unfold evalE
  rcases argOf C a (evalE C a env) env with _ | ⟨r, e1⟩
  · rfl
  · cases r with
    | error _ => rfl
    | ok x =>
      dsimp only [bd, Oc.bind, oo]
      split
      · cases pinIf es.allRd x e1 with
        | none => rfl
        | some r =>
          obtain ⟨x', e2⟩ := r
          dsimp only
          rcases evalEs C es e2 with _ | ⟨r, e3⟩
          · rfl
          · cases r <;> rfl
      · rfl
theorem ev_mut {m : MutK} {r : R} {es : Es} : evalE C (.mut m r es) env = oo (lstAt C env r) (f := ⟨fun i => bd (evalEs C es env) (f := ⟨fun as e1 => oo (freezes as e1) (f := ⟨fun t => mutRun m i t.1 t.2.2⟩)⟩)⟩) := by
  conv => lhs; unfold evalE
  cases lstAt C env r with
  | none => rfl
  | some i =>
    dsimp only [oo]
    rcases evalEs C es env with _ | ⟨r, e⟩
    · rfl
    · cases r with
      | error _ => rfl
      | ok as =>
        dsimp only [bd, Oc.bind]
        cases freezes as e <;> rfl
theorem ev_app {r : R} {a : E} : evalE C (.app r a) env = oo (lstAt C env r) (f := ⟨fun i => bd (evalE C a env) (f := ⟨fun o e => appRun i o e⟩)⟩) := by
  conv => lhs; unfold evalE
  cases lstAt C env r with
  | none => rfl
  | some i =>
    dsimp only [oo]
    rcases evalE C a env with _ | ⟨r, e⟩
    · rfl
    · cases r <;> rfl
theorem ev_lc {elt : E} {tg : Tg} {k : ItK} {it ifs : Es} {own : List Nat} : evalE C (.lc elt tg k it ifs own) env = bd (evalEs C it env) (f := ⟨fun as e => lcRun own tg k (fun env => evalIfs C ifs env) (fun env => evalE C elt env) as e⟩) := by
  conv => lhs; unfold evalE
  rcases evalEs C it env with _ | ⟨r, e⟩
  · rfl
  · cases r <;> rfl
theorem ev_lc2 {elt : E} {tg tg1 : Tg} {k k1 : ItK} {it ifs it1 ifs1 : Es} {own own1 : List Nat} : evalE C (.lc2 elt tg k it ifs tg1 k1 it1 ifs1 own own1) env = bd (evalEs C it env) (f := ⟨fun as e => lcRun2 own own1 tg k (fun env => evalIfs C ifs env) tg1 k1 (fun env => evalEs C it1 env) (fun env => evalIfs C ifs1 env) (fun env => evalE C elt env) as e⟩) := by
  conv => lhs; unfold evalE
  rcases evalEs C it env with _ | ⟨r, e⟩
  · rfl
  · cases r <;> rfl
theorem es_nil : evalEs C .nil env = some (.ok [], env) := (rfl)
theorem es_cons {e : E} {es : Es} : evalEs C (.cons e es) env = bd (argOf C e (evalE C e env) env) (f := ⟨fun x e1 => oo (pinIf es.allRd x e1) (f := ⟨fun r => bd (evalEs C es r.2) (f := ⟨fun as e3 => some (.ok (r.1 :: as), e3)⟩)⟩)⟩) := by
  conv => lhs; unfold evalEs
  rcases argOf C e (evalE C e env) env with _ | ⟨r, e1⟩
  · rfl
  · cases r with
    | error _ => rfl
    | ok x =>
      dsimp only [bd, Oc.bind, oo]
      cases pinIf es.allRd x e1 with
      | none => rfl
      | some r =>
        obtain ⟨x', e2⟩ := r
        dsimp only
        rcases evalEs C es e2 with _ | ⟨r, e3⟩
        · rfl
        · cases r <;> rfl
theorem os_nil : evalOs C .nil env = some (.ok [], env) := (rfl)
theorem os_cons {e : E} {es : Es} : evalOs C (.cons e es) env = bd (evalE C e env) (f := ⟨fun o e1 => bd (evalOs C es e1) (f := ⟨fun os e2 => some (.ok (o :: os), e2)⟩)⟩) := by
  conv => lhs; unfold evalOs
  rcases evalE C e env with _ | ⟨r, e1⟩
  · rfl
  · cases r with
    | error _ => rfl
    | ok o =>
      dsimp only [bd, Oc.bind]
      rcases evalOs C es e1 with _ | ⟨r, e2⟩
      · rfl
      · cases r <;> rfl
theorem ifs_nil : evalIfs C .nil env = some (.ok true, env) := (rfl)
theorem ifs_cons {e : E} {es : Es} : evalIfs C (.cons e es) env = bd (argOf C e (evalE C e env) env) (f := ⟨fun x e1 => oo (truthOf e1 x) (f := ⟨fun t => if t = true then evalIfs C es e1 else some (.ok false, e1)⟩)⟩) := by
  conv => lhs; unfold evalIfs
  rcases argOf C e (evalE C e env) env with _ | ⟨r, e1⟩
  · rfl
  · cases r with
    | error _ => rfl
    | ok x =>
      dsimp only [bd, Oc.bind, oo]
      cases truthOf e1 x with
      | none => rfl
      | some t => cases t <;> rfl
variable {P : Nat → Bool}
def nxF (f : Env → Oc Fl) : Fl → Env → Oc Fl
  | .nx, e => f e
  | r, e => some (.ok r, e)
def nxK (x : Oc Fl) [f : Kf Env (Oc Fl)] : Oc Fl := x.bind (nxF f.run)
theorem nxK_congr {x y : Oc Fl} {f : Kf Env (Oc Fl)} (h : x = y) : nxK x (f := f) = nxK y (f := f) := by rw [h]
theorem nxK_nx {f : Kf Env (Oc Fl)} : nxK (some (.ok .nx, env)) (f := f) = f.run env := (rfl)
theorem nxK_ret {o : O} {f : Kf Env (Oc Fl)} : nxK (some (.ok (.ret o), env)) (f := f) = some (.ok (.ret o), env) := (rfl)
theorem nxK_brk {f : Kf Env (Oc Fl)} : nxK (some (.ok .brk, env)) (f := f) = some (.ok .brk, env) := (rfl)
theorem nxK_cnt {f : Kf Env (Oc Fl)} : nxK (some (.ok .cnt, env)) (f := f) = some (.ok .cnt, env) := (rfl)
theorem nxK_er {x : Exn} {f : Kf Env (Oc Fl)} : nxK (some (.error x, env)) (f := f) = some (.error x, env) := (rfl)
theorem nxK_no {f : Kf Env (Oc Fl)} : nxK none (f := f) = none := (rfl)
theorem nxK_ite {p : Prop} [Decidable p] {x y : Oc Fl} {f : Kf Env (Oc Fl)} : nxK (if p then x else y) (f := f) = if p then nxK x (f := f) else nxK y (f := f) := by split <;> rfl
theorem xs_nil : execs C P .nil env = some (.ok .nx, env) := (rfl)
theorem xs_cons {s : S} {r : Ss} : execs C P (.cons s r) env = nxK (exec C P s env) (f := ⟨fun e => execs C P r e⟩) := by
  conv => lhs; unfold execs
  rcases exec C P s env with _ | ⟨q, e⟩
  · rfl
  · cases q with
    | error _ => rfl
    | ok f => cases f <;> rfl
theorem x_asg {t : Tg} {e : E} : exec C P (.asg t e) env = bd (evalE C e env) (f := ⟨fun o e1 => oo (assignO P t o e1) (f := ⟨fun e2 => some (.ok .nx, e2)⟩)⟩) := by
  conv => lhs; unfold exec
  rcases evalE C e env with _ | ⟨q, e1⟩
  · rfl
  · cases q with
    | error _ => rfl
    | ok o =>
      dsimp only [bd, Oc.bind, oo]
      cases assignO P t o e1 <;> rfl
theorem x_par {i j : Nat} {a b : E} : exec C P (.par i j a b) env = bd (evalE C a env) (f := ⟨fun x e1 => bd (evalE C b e1) (f := ⟨fun y e2 => if (P i || P j || decide (e2.length ≤ i) || decide (e2.length ≤ j) || decide (i = j)) = true then none else some (.ok .nx, (e2.set i (some x)).set j (some y))⟩)⟩) := by
  conv => lhs; unfold exec
  rcases evalE C a env with _ | ⟨q, e1⟩
  · rfl
  · cases q with
    | error _ => rfl
    | ok o =>
      dsimp only [bd, Oc.bind]
      rcases evalE C b e1 with _ | ⟨q, e2⟩
      · rfl
      · cases q <;> rfl
def stiK (C : Ctx) (k : E) (e1 : Env) (x : O) : Arg → Oc Fl
  | .ref i p => bd (argOf C k (evalE C k e1) e1) (f := ⟨fun y e2 => oo (valA y) (f := ⟨fun kd => if (p.isEmpty || k.isRd) = true then oo (e2.at i p) (f := ⟨fun o => oo (setIx o kd x) (f := ⟨fun o' => oo (e2.put i p o') (f := ⟨fun e3 => some (.ok .nx, e3)⟩)⟩)⟩) else none⟩)⟩)
  | _ => none
theorem stiK_ref {k : E} {e1 : Env} {x : O} {i : Nat} {p : List Step} : stiK C k e1 x (.ref i p) = bd (argOf C k (evalE C k e1) e1) (f := ⟨fun y e2 => oo (valA y) (f := ⟨fun kd => if (p.isEmpty || k.isRd) = true then oo (e2.at i p) (f := ⟨fun o => oo (setIx o kd x) (f := ⟨fun o' => oo (e2.put i p o') (f := ⟨fun e3 => some (.ok .nx, e3)⟩)⟩)⟩) else none⟩)⟩) := (rfl)
theorem x_sti {r : R} {k e : E} : exec C P (.sti r k e) env = bd (evalE C e env) (f := ⟨fun x e1 => oo (evalR C e1 r) (f := ⟨fun a => stiK C k e1 x a⟩)⟩) := by
  conv => lhs; unfold exec
  rcases evalE C e env with _ | ⟨q, e1⟩
  · rfl
  · cases q with
    | error _ => rfl
    | ok x =>
      dsimp only [bd, Oc.bind, oo, stiK]
      cases evalR C e1 r with
      | none => rfl
      | some a =>
        cases a with
        | val _ => rfl
        | ref i p =>
          dsimp only
          rcases argOf C k (evalE C k e1) e1 with _ | ⟨q, e2⟩
          · rfl
          · cases q with
            | error _ => rfl
            | ok y =>
              cases y with
              | ref _ _ => rfl
              | val kd =>
                dsimp only [valA]
                split
                · cases e2.at i p with
                  | none => rfl
                  | some o =>
                    dsimp only
                    cases setIx o kd x with
                    | none => rfl
                    | some o' =>
                      dsimp only
                      cases e2.put i p o' <;> rfl
                · rfl
def stfK (C : Ctx) (f : Nat) (e1 : Env) (x : O) : Arg → Oc Fl
  | .ref i p => oo (e1.at i p) (f := ⟨fun o => oo (setFld C.fld o f x) (f := ⟨fun o' => oo (e1.put i p o') (f := ⟨fun e3 => some (.ok .nx, e3)⟩)⟩)⟩)
  | _ => none
theorem stfK_ref {f : Nat} {e1 : Env} {x : O} {i : Nat} {p : List Step} : stfK C f e1 x (.ref i p) = oo (e1.at i p) (f := ⟨fun o => oo (setFld C.fld o f x) (f := ⟨fun o' => oo (e1.put i p o') (f := ⟨fun e3 => some (.ok .nx, e3)⟩)⟩)⟩) := (rfl)
theorem x_stf {r : R} {f : Nat} {e : E} : exec C P (.stf r f e) env = bd (evalE C e env) (f := ⟨fun x e1 => oo (evalR C e1 r) (f := ⟨fun a => stfK C f e1 x a⟩)⟩) := by
  conv => lhs; unfold exec
  rcases evalE C e env with _ | ⟨q, e1⟩
  · rfl
  · cases q with
    | error _ => rfl
    | ok x =>
      dsimp only [bd, Oc.bind, oo, stfK]
      cases evalR C e1 r with
      | none => rfl
      | some a =>
        cases a with
        | val _ => rfl
        | ref i p =>
          dsimp only
          cases e1.at i p with
          | none => rfl
          | some o =>
            dsimp only
            cases setFld C.fld o f x with
            | none => rfl
            | some o' =>
              dsimp only
              cases e1.put i p o' <;> rfl
theorem x_exp {e : E} : exec C P (.exp e) env = bd (evalE C e env) (f := ⟨fun _ e1 => some (.ok .nx, e1)⟩) := by
  conv => lhs; unfold exec
  rcases evalE C e env with _ | ⟨q, e1⟩
  · rfl
  · cases q <;> rfl
theorem x_ret {e : E} : exec C P (.ret e) env = bd (evalE C e env) (f := ⟨fun o e1 => some (.ok (.ret o), e1)⟩) := by
  conv => lhs; unfold exec
  rcases evalE C e env with _ | ⟨q, e1⟩
  · rfl
  · cases q <;> rfl
theorem x_retf {e : E} : exec C P (.retf e) env = bd (evalE C e env) (f := ⟨fun o e1 => some (.ok (.ret (.pure o.fz)), e1)⟩) := by
  conv => lhs; unfold exec
  rcases evalE C e env with _ | ⟨q, e1⟩
  · rfl
  · cases q <;> rfl
theorem x_ret0 : exec C P .ret0 env = some (.ok (.ret (.pure .non)), env) := (rfl)
theorem x_brk : exec C P .brk env = some (.ok .brk, env) := (rfl)
theorem x_cnt : exec C P .cnt env = some (.ok .cnt, env) := (rfl)
theorem x_pas : exec C P .pas env = some (.ok .nx, env) := (rfl)
theorem x_ife {t : E} {a b : Ss} : exec C P (.ife t a b) env = bd (argOf C t (evalE C t env) env) (f := ⟨fun x e => oo (truthOf e x) (f := ⟨fun t => if t = true then execs C P a e else execs C P b e⟩)⟩) := by
  conv => lhs; unfold exec
  rcases argOf C t (evalE C t env) env with _ | ⟨r, e⟩
  · rfl
  · cases r with
    | error _ => rfl
    | ok x =>
      dsimp only [bd, Oc.bind, oo]
      cases truthOf e x with
      | none => rfl
      | some t => cases t <;> rfl
theorem x_for {tg : Tg} {k : ItK} {it : Es} {b : Ss} : exec C P (.for_ tg k it b) env = bd (evalEs C it env) (f := ⟨fun as e1 => oo (freezes as e1) (f := ⟨fun t => oo (iterD k t.1) (f := ⟨fun xs => forLoop P tg (fun e => execs C P b e) xs t.2.2⟩)⟩)⟩) := by
  conv => lhs; unfold exec
  rcases evalEs C it env with _ | ⟨r, e⟩
  · rfl
  · cases r with
    | error _ => rfl
    | ok as =>
      dsimp only [bd, Oc.bind, oo]
      unfold forRun
      cases freezes as e with
      | none => rfl
      | some t =>
        obtain ⟨ds, l, e1⟩ := t
        dsimp only
        cases iterD k ds <;> rfl
def tst (C : Ctx) (t : E) (env : Env) : Oc Bool := bd (argOf C t (evalE C t env) env) (f := ⟨fun x e => oo (truthOf e x) (f := ⟨fun k => some (.ok k, e)⟩)⟩)
theorem x_whl {t : E} {b : Ss} : exec C P (.whl t b) env = whileLoop (tst C t) (fun e => execs C P b e) env := by
  conv => lhs; unfold exec
  congr 1
  funext e
  unfold tst
  rcases argOf C t (evalE C t e) e with _ | ⟨r, e1⟩
  · rfl
  · cases r with
    | error _ => rfl
    | ok x =>
      dsimp only [bd, Oc.bind, oo]
      cases truthOf e1 x <;> rfl
theorem x_rai {c : Nat} {es : Es} : exec C P (.rai c es) env = oo (C.exf c) (f := ⟨fun ns => bd (evalEs C es env) (f := ⟨fun as e1 => oo (freezes as e1) (f := ⟨fun t => if (decide (ns.length = t.1.length) && decide (t.1.length ≤ 1000)) = true then some (.error ⟨c, ns, t.1⟩, t.2.2) else none⟩)⟩)⟩) := by
  conv => lhs; unfold exec
  cases C.exf c with
  | none => rfl
  | some ns =>
    dsimp only [oo]
    rcases evalEs C es env with _ | ⟨r, e⟩
    · rfl
    · cases r with
      | error _ => rfl
      | ok as =>
        dsimp only [bd, Oc.bind]
        cases freezes as e <;> rfl
/-- what a suite is for -/
def tryK (C : Ctx) (P : Nat → Bool) (x : Oc Fl) (hs : Hs) : Oc Fl := match x with
  | some (.error x, env1) => handle C P hs x env1
  | r => r
theorem x_try {b : Ss} {hs : Hs} : exec C P (.try_ b hs) env = tryK C P (execs C P b env) hs := by
  conv => lhs; unfold exec
  rfl
theorem tryK_ok {f : Fl} {hs : Hs} : tryK C P (some (.ok f, env)) hs = some (.ok f, env) := (rfl)
theorem tryK_er {x : Exn} {hs : Hs} : tryK C P (some (.error x, env)) hs = handle C P hs x env := (rfl)
theorem h_nil {x : Exn} : handle C P .nil x env = some (.error x, env) := (rfl)
theorem h_cons {c : Nat} {b : Ss} {r : Hs} {x : Exn} : handle C P (.cons c none b r) x env = oo (C.exs x.c c) (f := ⟨fun t => if t = true then execs C P b env else handle C P r x env⟩) := by
  conv => lhs; unfold handle
  unfold excHas oo
  cases C.exs x.c c with
  | none => rfl
  | some t => cases t <;> rfl
theorem fz_nil : freezes [] env = some ([], true, env) := (rfl)
theorem fz_val {d : D} {as : List Arg} : freezes (.val d :: as) env = oo (freezes as env) (f := ⟨fun t => some (d :: t.1, t.2.1, t.2.2)⟩) := by
  conv => lhs; unfold freezes
  cases freezes as env <;> rfl
theorem fz_ref {i : Nat} {p : List Step} {as : List Arg} : freezes (.ref i p :: as) env = oo (env.freeze i p) (f := ⟨fun r => oo (freezes as r.2) (f := ⟨fun t => some (r.1 :: t.1, env.loose i p && t.2.1, t.2.2)⟩)⟩) := by
  conv => lhs; unfold freezes
  cases env.freeze i p with
  | none => rfl
  | some r =>
    obtain ⟨d, e1⟩ := r
    dsimp only [oo]
    cases freezes as e1 <;> rfl
theorem opRes_eq {r : List D → Option O} {as : List Arg} : opRes r as env = oo (freezes as env) (f := ⟨fun t => oo (r t.1) (f := ⟨fun o => some (.ok o, if (o.free && t.2.1) = true then env else t.2.2)⟩)⟩) := by
  unfold opRes oo
  cases freezes as env with
  | none => rfl
  | some t =>
    obtain ⟨ds, l, e1⟩ := t
    dsimp only
    cases r ds <;> rfl
theorem opOr_eq {o : Op} {as : List Arg} : opOrCall C o as env = if opPre o as = true then opRes (opD C o) as env else none := (rfl)
/-- upon values alone -/
theorem op_v1 {r : List D → Option O} {x : D} : opRes r [.val x] env = oo (r [x]) (f := ⟨fun o => some (.ok o, env)⟩) := by
  rw [opRes_eq, fz_val, fz_nil]
  dsimp only [oo]
  cases r [x] with
  | none => rfl
  | some o => simp
theorem op_v2 {r : List D → Option O} {x y : D} : opRes r [.val x, .val y] env = oo (r [x, y]) (f := ⟨fun o => some (.ok o, env)⟩) := by
  rw [opRes_eq, fz_val, fz_val, fz_nil]
  dsimp only [oo]
  cases r [x, y] with
  | none => rfl
  | some o => simp
theorem op_v3 {r : List D → Option O} {x y z : D} : opRes r [.val x, .val y, .val z] env = oo (r [x, y, z]) (f := ⟨fun o => some (.ok o, env)⟩) := by
  rw [opRes_eq, fz_val, fz_val, fz_val, fz_nil]
  dsimp only [oo]
  cases r [x, y, z] with
  | none => rfl
  | some o => simp
theorem op_v0 {r : List D → Option O} : opRes r [] env = oo (r []) (f := ⟨fun o => some (.ok o, env)⟩) := by
  rw [opRes_eq, fz_nil]
  dsimp only [oo]
  cases r [] with
  | none => rfl
  | some o => simp
end
end T
namespace T
open PySem
section
variable {C : Ctx} {env : Env} {P : Nat → Bool}
theorem call_eq {bs : List Bool} {as : List Arg} {run : List O → Option (Except Exn O × List O)} : callRes C bs as run env = if (given bs as).Nodup then oo (freezes (lent bs as) (wipeE env (given bs as))) (f := ⟨fun t => oo (argsO bs as t.1 env) (f := ⟨fun os => oo (run os) (f := ⟨fun r => oo (backs bs as r.2 (if (freeR r.1 && O.frees r.2 && t.2.1) = true then wipeE env (given bs as) else t.2.2)) (f := ⟨fun env2 => some (r.1, env2)⟩)⟩)⟩)⟩) else none := by
  unfold callRes
  by_cases h : (given bs as).Nodup
  · rw [if_pos h, if_pos (decide_eq_true h)]
    unfold oo
    cases freezes (lent bs as) (wipeE env (given bs as)) with
    | none => rfl
    | some t =>
      obtain ⟨ds, l, e1⟩ := t
      dsimp only
      cases argsO bs as ds env with
      | none => rfl
      | some os =>
        dsimp only
        cases run os with
        | none => rfl
        | some r =>
          obtain ⟨r, post⟩ := r
          dsimp only
          cases backs bs as post _ <;> rfl
  · rw [if_neg h, if_neg (by simpa using h)]
theorem callF_eq {f : Nat} {as : List Arg} : callF C f as env = callRes C (C.br f) as (C.fn f) env := (rfl)
theorem argsO_nil : argsO [] [] [] env = some [] := (rfl)
theorem argsO_v {b : Bool} {d : D} {bs : List Bool} {as : List Arg} {ds : List D} : argsO (true :: bs) (.val d :: as) ds env = oo (argsO bs as ds env) (f := ⟨fun os => some (.pure d :: os)⟩) := by
  conv => lhs; unfold argsO
  cases argsO bs as ds env <;> rfl
theorem argsO_r {i : Nat} {bs : List Bool} {as : List Arg} {ds : List D} : argsO (true :: bs) (.ref i [] :: as) ds env = oo (sl env[i]?) (f := ⟨fun o => oo (argsO bs as ds env) (f := ⟨fun os => some (o :: os)⟩)⟩) := by
  conv => lhs; unfold argsO
  cases env[i]? with
  | none => rfl
  | some o =>
    cases o with
    | none => rfl
    | some o =>
      dsimp only [oo, sl]
      cases argsO bs as ds env <;> rfl
theorem argsO_f {a : Arg} {d : D} {bs : List Bool} {as : List Arg} {ds : List D} : argsO (false :: bs) (a :: as) (d :: ds) env = oo (argsO bs as ds env) (f := ⟨fun os => some (.pure d :: os)⟩) := by
  conv => lhs; unfold argsO
  cases argsO bs as ds env <;> rfl
theorem given_nil {as : List Arg} : given [] as = [] := by cases as <;> rfl
theorem given_v {b : Bool} {d : D} {bs : List Bool} {as : List Arg} : given (b :: bs) (.val d :: as) = given bs as := by cases b <;> rfl
theorem given_f {a : Arg} {bs : List Bool} {as : List Arg} : given (false :: bs) (a :: as) = given bs as := by cases a <;> rfl
theorem given_r {i : Nat} {bs : List Bool} {as : List Arg} : given (true :: bs) (.ref i [] :: as) = i :: given bs as := (rfl)
theorem lent_nil {as : List Arg} : lent [] as = [] := by cases as <;> rfl
theorem lent_f {a : Arg} {bs : List Bool} {as : List Arg} : lent (false :: bs) (a :: as) = a :: lent bs as := (rfl)
theorem lent_t {a : Arg} {bs : List Bool} {as : List Arg} : lent (true :: bs) (a :: as) = lent bs as := (rfl)
theorem backs_nil : backs [] [] [] env = some env := (rfl)
theorem backs_f {a : Arg} {o : O} {bs : List Bool} {as : List Arg} {os : List O} : backs (false :: bs) (a :: as) (o :: os) env = backs bs as os env := by cases a <;> rfl
theorem backs_v {d : D} {b : Bool} {o : O} {bs : List Bool} {as : List Arg} {os : List O} : backs (b :: bs) (.val d :: as) (o :: os) env = backs bs as os env := by cases b <;> rfl
theorem backs_r {i : Nat} {o : O} {bs : List Bool} {as : List Arg} {os : List O} : backs (true :: bs) (.ref i [] :: as) (o :: os) env = backs bs as os (env.set i (some o)) := (rfl)
/-- a call of values alone -/
theorem call_vals (f : Nat) (ds : List D) (h : (C.br f) = List.replicate ds.length false) : callF C f (ds.map .val) env = oo (C.fn f (ds.map .pure)) (f := ⟨fun r => if r.2.length = ds.length then some (r.1, env) else none⟩) := by
  rw [callF_eq, call_eq, h]
  have e1 : given (List.replicate ds.length false) (ds.map Arg.val) = [] := by
    clear h
    induction ds with
    | nil => rfl
    | cons d ds ih => exact ih
  have e2 : lent (List.replicate ds.length false) (ds.map Arg.val) = ds.map Arg.val := by
    clear h e1
    induction ds with
    | nil => rfl
    | cons d ds ih => exact congrArg _ ih
  have e3 : freezes (ds.map Arg.val) env = some (ds, true, env) := by
    clear h e1 e2
    induction ds with
    | nil => rfl
    | cons d ds ih => rw [List.map_cons, fz_val, ih]; rfl
  have e4 : argsO (List.replicate ds.length false) (ds.map Arg.val) ds env = some (ds.map .pure) := by
    clear h e1 e2 e3
    induction ds with
    | nil => rfl
    | cons d ds ih => rw [List.length_cons, List.replicate_succ, List.map_cons, argsO_f, ih]; rfl
  rw [e1, if_pos List.nodup_nil, e2]
  rw [show wipeE env [] = env from rfl]
  rw [e3]
  dsimp only [oo]
  rw [e4]
  dsimp only
  cases C.fn f (ds.map .pure) with
  | none => rfl
  | some r =>
    obtain ⟨r, post⟩ := r
    dsimp only
    have e5 : ∀ (post : List O) (e : Env), backs (List.replicate ds.length false) (ds.map Arg.val) post e = if post.length = ds.length then some e else none := by
      clear h e1 e2 e3 e4
      induction ds with
      | nil => intro post e; cases post <;> rfl
      | cons d ds ih =>
        intro post e
        cases post with
        | nil => rfl
        | cons o post =>
          rw [List.length_cons, List.replicate_succ, List.map_cons, backs_f, ih]
          simp
    rw [e5]
    have e6 : (if (freeR r && O.frees post && true) = true then env else env) = env := by split <;> rfl
    rw [e6]
    by_cases hp : post.length = ds.length
    · rw [if_pos hp, if_pos hp]
    · rw [if_neg hp, if_neg hp]
theorem argOf_op {o : Op} {es : Es} {x : Oc O} : argOf C (.op o es) x env = argK x := argOf_nrd rfl
theorem argOf_and {a b : E} {x : Oc O} : argOf C (.and a b) x env = argK x := argOf_nrd rfl
theorem argOf_or {a b : E} {x : Oc O} : argOf C (.or a b) x env = argK x := argOf_nrd rfl
theorem argOf_ife {t a b : E} {x : Oc O} : argOf C (.ife t a b) x env = argK x := argOf_nrd rfl
theorem argOf_chn {o1 o2 : Op} {a b c : E} {x : Oc O} : argOf C (.chn o1 o2 a b c) x env = argK x := argOf_nrd rfl
theorem argOf_lsn {es : Es} {x : Oc O} : argOf C (.lsn es) x env = argK x := argOf_nrd rfl
theorem argOf_call {f : Nat} {es : Es} {x : Oc O} : argOf C (.call f es) x env = argK x := argOf_nrd rfl
theorem argOf_mk {f : Nat} {es : Es} {x : Oc O} : argOf C (.mk f es) x env = argK x := argOf_nrd rfl
theorem argOf_bmt {o : Op} {a : E} {es : Es} {x : Oc O} : argOf C (.bmt o a es) x env = argK x := argOf_nrd rfl
theorem argOf_mut {m : MutK} {r : R} {es : Es} {x : Oc O} : argOf C (.mut m r es) x env = argK x := argOf_nrd rfl
theorem argOf_app {r : R} {a : E} {x : Oc O} : argOf C (.app r a) x env = argK x := argOf_nrd rfl
theorem argOf_lc {elt : E} {tg : Tg} {k : ItK} {it ifs : Es} {own : List Nat} {x : Oc O} : argOf C (.lc elt tg k it ifs own) x env = argK x := argOf_nrd rfl
theorem argOf_lc2 {elt : E} {tg tg1 : Tg} {k k1 : ItK} {it ifs it1 ifs1 : Es} {own own1 : List Nat} {x : Oc O} : argOf C (.lc2 elt tg k it ifs tg1 k1 it1 ifs1 own own1) x env = argK x := argOf_nrd rfl
theorem argK_eq {x : Oc O} : argK x = bd x (f := ⟨fun o e => some (.ok (.val o.fz), e)⟩) := (rfl)
theorem ite_bl {p : Prop} [Decidable p] {x y : Bool} {e : Env} : (if p then some (Except.ok (O.pure (D.bl x)), e) else some (Except.ok (O.pure (D.bl y)), e) : Oc O) = some (.ok (.pure (.bl (if p then x else y))), e) := by split <;> rfl
theorem bl_and {p : Prop} [Decidable p] {x : Bool} : (if p then x else false) = (decide p && x) := by split <;> simp_all
theorem bl_or {p : Prop} [Decidable p] {x : Bool} : (if p then true else x) = (decide p || x) := by split <;> simp_all
def mkPost : Option (Except Exn O × List O) → Option (Except Exn O × List O)
  | some (.ok (.pure .non), o :: post) => some (.ok o, post)
  | some (.error x, _ :: post) => some (.error x, post)
  | _ => none
theorem makeRun_eq {c f : Nat} {os : List O} : makeRun C c f os = mkPost (C.fn f (.ins c [] [] :: os)) := (rfl)
theorem makeRes_eq {c f : Nat} {as : List Arg} {bs : List Bool} (h : C.br f = true :: bs) : makeRes C c f as env = callRes C bs as (makeRun C c f) env := by
  unfold makeRes
  rw [h]
theorem mkPost_ok {o : O} {post : List O} : mkPost (some (.ok (.pure .non), o :: post)) = some (.ok o, post) := (rfl)
theorem mkPost_er {x : Exn} {o : O} {post : List O} : mkPost (some (.error x, o :: post)) = some (.error x, post) := (rfl)
def endK (br : List Bool) (x : Oc Fl) : Option (Except Exn O × List O) := match x with
  | some (.ok (.ret o), env) => wrapR br (.ok o) env
  | some (.ok .nx, env) => wrapR br (.ok (.pure .non)) env
  | some (.error x, env) => wrapR br (.error x) env
  | _ => none
theorem run_eq {br : List Bool} {d : Def} {os : List O} : runDef C br d os = if (decide (os.length = d.np) && decide (br.length = d.np) && decide (d.np ≤ d.n)) = true then endK br (execs C (parm br) d.body (os.map some ++ List.replicate (d.n - d.np) none)) else none := (rfl)
theorem endK_ret {br : List Bool} {o : O} : endK br (some (.ok (.ret o), env)) = wrapR br (.ok o) env := (rfl)
theorem endK_nx {br : List Bool} : endK br (some (.ok .nx, env)) = wrapR br (.ok (.pure .non)) env := (rfl)
theorem endK_er {br : List Bool} {x : Exn} : endK br (some (.error x, env)) = wrapR br (.error x) env := (rfl)
theorem endK_ite {br : List Bool} {p : Prop} [Decidable p] {x y : Oc Fl} : endK br (if p then x else y) = if p then endK br x else endK br y := by split <;> rfl
theorem endK_congr {br : List Bool} {x y : Oc Fl} (h : x = y) : endK br x = endK br y := by rw [h]
theorem wrapR_eq {br : List Bool} {r : Except Exn O} : wrapR br r env = oo (posts br env) (f := ⟨fun os => some (r, os)⟩) := by
  unfold wrapR
  cases posts br env <;> rfl
theorem posts_nil : posts [] env = some [] := by cases env <;> rfl
theorem posts_t {br : List Bool} {o : O} : posts (true :: br) (some o :: env) = oo (posts br env) (f := ⟨fun os => some (o :: os)⟩) := by
  conv => lhs; unfold posts
  cases posts br env <;> rfl
theorem posts_f {br : List Bool} {o : Option O} : posts (false :: br) (o :: env) = oo (posts br env) (f := ⟨fun os => some (.pure .non :: os)⟩) := by
  conv => lhs; unfold posts
  cases posts br env <;> rfl
theorem asg_nm {i : Nat} {o : O} : assignO P (.nm i) o env = if (P i || decide (env.length ≤ i)) = true then none else some (env.set i (some o)) := (rfl)
theorem asg_tp {ts : List Tg} {o : O} : assignO P (.tp ts) o env = assignD P (.tp ts) o.fz env := (rfl)
theorem asgD_nm {i : Nat} {d : D} : assignD P (.nm i) d env = if (P i || decide (env.length ≤ i)) = true then none else some (env.set i (some (.pure d))) := by rw [assignD]
theorem asgD_tp {ts : List Tg} {ds : List D} : assignD P (.tp ts) (.tup ds) env = assignDs P ts ds env := by rw [assignD]
theorem asgDs_nil : assignDs P [] [] env = some env := by rw [assignDs]
theorem asgDs_cons {t : Tg} {ts : List Tg} {d : D} {ds : List D} : assignDs P (t :: ts) (d :: ds) env = oo (assignD P t d env) (f := ⟨fun e => assignDs P ts ds e⟩) := by
  rw [assignDs]
  cases assignD P t d env <;> rfl
theorem at_nil {o : O} : O.at o [] = some o := (rfl)
theorem at_cons {o : O} {s : Step} {p : List Step} : O.at o (s :: p) = oo (o.sub s) (f := ⟨fun o' => o'.at p⟩) := by
  conv => lhs; unfold O.at
  cases o.sub s <;> rfl
theorem sub_ix {os : List O} {n : Nat} : O.sub (.lst os) (.ix n) = os[n]? := (rfl)
theorem sub_fld {c : Nat} {ns : List Nat} {vs : List O} {f : Nat} : O.sub (.ins c ns vs) (.fld f) = lkp ns vs f := (rfl)
theorem eat_eq {i : Nat} {p : List Step} : env.at i p = oo (sl env[i]?) (f := ⟨fun o => o.at p⟩) := by
  unfold Env.at
  cases env[i]? with
  | none => rfl
  | some o => cases o <;> rfl
theorem eput_eq {i : Nat} {p : List Step} {x : O} : env.put i p x = oo (sl env[i]?) (f := ⟨fun o => oo (o.put p x) (f := ⟨fun o' => some (env.set i (some o'))⟩)⟩) := by
  unfold Env.put
  cases env[i]? with
  | none => rfl
  | some o =>
    cases o with
    | none => rfl
    | some o =>
      dsimp only [oo, sl]
      cases o.put p x <;> rfl
theorem put_nil {o x : O} : O.put o [] x = some x := by cases o <;> rfl
theorem put_ix {os : List O} {n : Nat} {p : List Step} {x : O} : O.put (.lst os) (.ix n :: p) x = oo os[n]? (f := ⟨fun o' => oo (o'.put p x) (f := ⟨fun y => some (.lst (os.set n y))⟩)⟩) := by
  conv => lhs; unfold O.put
  cases os[n]? with
  | none => rfl
  | some o =>
    dsimp only [oo]
    cases o.put p x <;> rfl
theorem put_fld {c : Nat} {ns : List Nat} {vs : List O} {f : Nat} {p : List Step} {x : O} : O.put (.ins c ns vs) (.fld f :: p) x = oo (lkp ns vs f) (f := ⟨fun o' => oo (o'.put p x) (f := ⟨fun y => some (.ins c (setF ns vs f y).1 (setF ns vs f y).2)⟩)⟩) := by
  conv => lhs; unfold O.put
  cases lkp ns vs f with
  | none => rfl
  | some o =>
    dsimp only [oo]
    cases o.put p x <;> rfl
theorem frz_eq {i : Nat} {p : List Step} : env.freeze i p = oo (env.at i p) (f := ⟨fun o => oo (env.put i p (.pure o.fz)) (f := ⟨fun e => some (o.fz, e)⟩)⟩) := by
  unfold Env.freeze
  cases env.at i p with
  | none => rfl
  | some o =>
    dsimp only [oo]
    cases env.put i p (.pure o.fz) <;> rfl
def noInsO : Option O → Bool
  | some o => o.noIns
  | none => false
theorem noInsO_some {o : O} : noInsO (some o) = o.noIns := (rfl)
theorem loose_eq {i : Nat} {p : List Step} : env.loose i p = noInsO (env.at i p) := (rfl)
theorem fz_pure {d : D} : O.fz (.pure d) = d := (rfl)
theorem fz_lst {os : List O} : O.fz (.lst os) = .lst (os.map O.fz) := by rw [O.fz, O.fzs_map]
theorem fz_ins {c : Nat} {ns : List Nat} {os : List O} : O.fz (.ins c ns os) = .ins c ns (os.map O.fz) := by rw [O.fz, O.fzs_map]
theorem map_fz_pure {ds : List D} : (ds.map O.pure).map O.fz = ds := by
  rw [List.map_map]
  exact List.map_id _
theorem noIns_pure {d : D} : O.noIns (.pure d) = true := by rw [O.noIns]
theorem noIns_lst {os : List O} : O.noIns (.lst os) = O.noInss os := by rw [O.noIns]
theorem noIns_ins {c : Nat} {ns : List Nat} {os : List O} : O.noIns (.ins c ns os) = false := by rw [O.noIns]
theorem noInss_nil : O.noInss [] = true := by rw [O.noInss]
theorem noInss_cons {o : O} {os : List O} : O.noInss (o :: os) = (o.noIns && O.noInss os) := by rw [O.noInss]
theorem noInss_pure {ds : List D} : O.noInss (ds.map O.pure) = true := by
  induction ds with
  | nil => rw [List.map_nil, noInss_nil]
  | cons d ds ih => rw [List.map_cons, noInss_cons, noIns_pure, ih]; rfl
theorem free_pure {d : D} : O.free (.pure d) = d.lf := by rw [O.free]
theorem free_lst {os : List O} : O.free (.lst os) = O.frees os := by rw [O.free]
theorem free_ins {c : Nat} {ns : List Nat} {os : List O} : O.free (.ins c ns os) = O.frees os := by rw [O.free]
theorem frees_nil : O.frees [] = true := by rw [O.frees]
theorem frees_cons {o : O} {os : List O} : O.frees (o :: os) = (o.free && O.frees os) := by rw [O.frees]
theorem lf_non : D.lf .non = true := by rw [D.lf]
theorem lf_bl {b : Bool} : D.lf (.bl b) = true := by rw [D.lf]
theorem lf_int {i : Int} : D.lf (.int i) = true := by rw [D.lf]
theorem lf_str {i : Str} : D.lf (.str i) = true := by rw [D.lf]
theorem lf_tup {ds : List D} : D.lf (.tup ds) = D.lfs ds := by rw [D.lf]
theorem lf_lst {ds : List D} : D.lf (.lst ds) = false := by rw [D.lf]
theorem lf_ins {c : Nat} {ns : List Nat} {ds : List D} : D.lf (.ins c ns ds) = D.lfs ds := by rw [D.lf]
theorem lfs_nil : D.lfs [] = true := by rw [D.lfs]
theorem lfs_cons {d : D} {ds : List D} : D.lfs (d :: ds) = (d.lf && D.lfs ds) := by rw [D.lfs]
theorem lfs_ints {ns : List Int} : D.lfs (ns.map .int) = true := by
  induction ns with
  | nil => rw [List.map_nil, lfs_nil]
  | cons d ds ih => rw [List.map_cons, lfs_cons, lf_int, ih]; rfl
theorem frees_ints {ns : List Int} : O.frees (ns.map fun i => .pure (.int i)) = true := by
  induction ns with
  | nil => rw [List.map_nil, frees_nil]
  | cons d ds ih => rw [List.map_cons, frees_cons, free_pure, lf_int, ih]; rfl
theorem view_val {d : D} : Arg.view env (.val d) = some d := (rfl)
theorem view_ref {i : Nat} {p : List Step} : Arg.view env (.ref i p) = oo (env.at i p) (f := ⟨fun o => some o.fz⟩) := by
  unfold Arg.view
  dsimp only
  cases env.at i p <;> rfl
theorem truth_val {d : D} : truthOf env (.val d) = d.truth := (rfl)
theorem truth_ref {i : Nat} {p : List Step} : truthOf env (.ref i p) = oo (env.at i p) (f := ⟨fun o => o.fz.truth⟩) := by
  unfold truthOf
  dsimp only
  rw [view_ref]
  cases env.at i p <;> rfl
theorem tr_bl {b : Bool} : D.truth (.bl b) = some b := (rfl)
theorem tr_int {i : Int} : D.truth (.int i) = some (i != 0) := (rfl)
theorem tr_non : D.truth .non = some false := (rfl)
end
section
variable {d : PD} {n : Nat}
theorem ctx_fn {f : Nat} {x : DP} (h : d.df[f]? = some x) {os : List O} : (d.ctx (n + 1)).fn f os = runDef (d.ctx n) x.br x.t os := by
  show (match d.df[f]? with
    | some x => runDef (d.ctx n) x.br x.t os
    | none => none) = _
  rw [h]
theorem ctx_eq : ∃ fn, d.ctx n = d.ctx0 fn := by cases n <;> exact ⟨_, rfl⟩
theorem ctx_br {f : Nat} {x : DP} (h : d.df[f]? = some x) : (d.ctx n).br f = x.br := by
  obtain ⟨fn, e⟩ := ctx_eq (d := d) (n := n)
  rw [e]
  show (match d.df[f]? with
    | some x => x.br
    | none => []) = _
  rw [h]
theorem ctx_G {g : Nat} {x : Str × D} (h : d.gn[g]? = some x) : (d.ctx n).G g = some x.2 := by
  obtain ⟨fn, e⟩ := ctx_eq (d := d) (n := n)
  rw [e]
  show (d.gn[g]?).map (·.2) = _
  rw [h]
  rfl
theorem ctx_ini {k v : Nat} (h : d.ini.lookup k = some v) : (d.ctx n).ini k = some v := by
  obtain ⟨fn, e⟩ := ctx_eq (d := d) (n := n)
  rw [e]
  exact h
theorem ctx_sub {k k' : Nat} {v : Bool} (h : d.sub.lookup (k, k') = some v) : (d.ctx n).sub k k' = some v := by
  obtain ⟨fn, e⟩ := ctx_eq (d := d) (n := n)
  rw [e]
  exact h
theorem ctx_exs {k k' : Nat} {v : Bool} (h : d.exs.lookup (k, k') = some v) : (d.ctx n).exs k k' = some v := by
  obtain ⟨fn, e⟩ := ctx_eq (d := d) (n := n)
  rw [e]
  exact h
theorem ctx_exf {k : Nat} {v : List Nat} (h : (d.exf.find? fun e => e.k == k).map (·.ns) = some v) : (d.ctx n).exf k = some v := by
  obtain ⟨fn, e⟩ := ctx_eq (d := d) (n := n)
  rw [e]
  exact h
theorem ctx_fld {k f : Nat} (h : d.flds.contains (k, f) = true) : (d.ctx n).fld k f = true := by
  obtain ⟨fn, e⟩ := ctx_eq (d := d) (n := n)
  rw [e]
  exact h
end
theorem run_k2 {α β : Type} {f : α → Env → Oc β} {a : α} {e : Env} : (K2.mk f).run a e = f a e := (rfl)
theorem run_kf {α β : Type} {f : α → β} {a : α} : (Kf.mk f).run a = f a := (rfl)
end T
namespace T
open PySem
section
variable {P : Nat → Bool} {tg : Tg} {body : Env → Oc Fl} {env : Env}
theorem bl_or2 {p : Prop} [Decidable p] {x : Bool} : (if p then decide p else x) = (decide p || x) := by split <;> simp_all
theorem bl_and2 {p : Prop} [Decidable p] {x : Bool} : (if p then x else decide p) = (decide p && x) := by split <;> simp_all
theorem for_run {R : Except Exn Fl × Env → Prop} : ∀ {xs : List D} {J : Nat → Env → Prop} {env : Env}, J 0 env → (∀ i x e, xs[i]? = some x → J i e → ∃ e1, assignD P tg x e = some e1 ∧ ((∃ e2, (body e1 = some (.ok .nx, e2) ∨ body e1 = some (.ok .cnt, e2)) ∧ J (i + 1) e2) ∨ (∃ e2, body e1 = some (.ok .brk, e2) ∧ R (.ok .nx, e2)) ∨ (∃ o e2, body e1 = some (.ok (.ret o), e2) ∧ R (.ok (.ret o), e2)) ∨ ∃ z e2, body e1 = some (.error z, e2) ∧ R (.error z, e2))) →
    (∀ e, J xs.length e → R (.ok .nx, e)) → ∃ r, forLoop P tg body xs env = some r ∧ R r
  | [], J, env, h0, _, fin => ⟨_, rfl, fin env h0⟩
  | x :: xs, J, env, h0, st, fin => by
    obtain ⟨e1, a1, h⟩ := st 0 x env rfl h0
    rw [forLoop, a1]
    dsimp only
    have go : ∀ e2, J 1 e2 → ∃ r, forLoop P tg body xs e2 = some r ∧ R r := fun e2 h2 => for_run (J := fun i => J (i + 1)) h2 (fun i y e hy hj => st (i + 1) y e (by simpa using hy) hj) fun e he => fin e he
    rcases h with ⟨e2, h | h, h2⟩ | ⟨e2, h, h2⟩ | ⟨o, e2, h, h2⟩ | ⟨z, e2, h, h2⟩
    · rw [h]
      exact go e2 h2
    · rw [h]
      exact go e2 h2
    · rw [h]
      exact ⟨_, rfl, h2⟩
    · rw [h]
      exact ⟨_, rfl, h2⟩
    · rw [h]
      exact ⟨_, rfl, h2⟩
theorem for_inv {xs : List D} {J : Nat → Env → Prop} {env : Env} (h0 : J 0 env) (st : ∀ i x e, xs[i]? = some x → J i e → ∃ e1 e2, assignD P tg x e = some e1 ∧ body e1 = some (.ok .nx, e2) ∧ J (i + 1) e2) : ∃ e, forLoop P tg body xs env = some (.ok .nx, e) ∧ J xs.length e := by
  obtain ⟨r, h, e, rfl, hj⟩ := for_run (P := P) (tg := tg) (body := body) (R := fun r => ∃ e, r = (.ok .nx, e) ∧ J xs.length e) h0 (fun i x e hx hj => by
    obtain ⟨e1, e2, a, b, c⟩ := st i x e hx hj
    exact ⟨e1, a, .inl ⟨e2, .inl b, c⟩⟩) fun e he => ⟨e, rfl, he⟩
  exact ⟨e, h, hj⟩
theorem while_run {test : Env → Oc Bool} {R : Except Exn Fl × Env → Prop} {J : Nat → Env → Prop} (st : ∀ m e, J m e → (∃ e1, test e = some (.ok false, e1) ∧ R (.ok .nx, e1)) ∨ (∃ z e1, test e = some (.error z, e1) ∧ R (.error z, e1)) ∨ ∃ e1, test e = some (.ok true, e1) ∧ ((∃ e2 m', m' < m ∧ (body e1 = some (.ok .nx, e2) ∨ body e1 = some (.ok .cnt, e2)) ∧ J m' e2) ∨ (∃ e2, body e1 = some (.ok .brk, e2) ∧ R (.ok .nx, e2)) ∨ (∃ o e2, body e1 = some (.ok (.ret o), e2) ∧ R (.ok (.ret o), e2)) ∨ ∃ z e2, body e1 = some (.error z, e2) ∧ R (.error z, e2))) :
    ∀ {m : Nat} {env : Env}, J m env → ∃ r, whileLoop test body env = some r ∧ R r := by
  intro m
  induction m using Nat.strongRecOn with
  | _ m ih =>
    intro env h0
    rw [whileLoop]
    rcases st m env h0 with ⟨e1, h, h2⟩ | ⟨z, e1, h, h2⟩ | ⟨e1, h, h2⟩
    · rw [h]
      exact ⟨_, rfl, h2⟩
    · rw [h]
      exact ⟨_, rfl, h2⟩
    · rw [h]
      dsimp only [bind, Option.bind]
      rcases h2 with ⟨e2, m', hm, h | h, h2⟩ | ⟨e2, h, h2⟩ | ⟨o, e2, h, h2⟩ | ⟨z, e2, h, h2⟩
      · rw [h]
        exact ih m' hm h2
      · rw [h]
        exact ih m' hm h2
      · rw [h]
        exact ⟨_, rfl, h2⟩
      · rw [h]
        exact ⟨_, rfl, h2⟩
      · rw [h]
        exact ⟨_, rfl, h2⟩
theorem wipeE_get {is : List Nat} {i : Nat} : (wipeE env is)[i]? = if i ∈ is then (if i < env.length then some none else none) else env[i]? := by
  induction is with
  | nil => rfl
  | cons j is ih =>
    have hl : (wipeE env is).length = env.length := wipeE_len
    rw [wipeE]
    by_cases e : j = i
    · subst e
      rw [if_pos List.mem_cons_self]
      by_cases hl2 : j < env.length
      · rw [if_pos hl2, List.getElem?_set_self (by omega)]
      · rw [if_neg hl2, List.getElem?_eq_none (by simp; omega)]
    · rw [List.getElem?_set_ne e, ih]
      by_cases hm : i ∈ is
      · rw [if_pos hm, if_pos (List.mem_cons_of_mem _ hm)]
      · rw [if_neg hm, if_neg (by
          intro m
          rcases List.mem_cons.mp m with z | z
          · exact e z.symm
          · exact hm z)]
theorem restore_get {env2 : Env} (hl : env2.length = env.length) {is : List Nat} {i : Nat} : (restore env env2 is)[i]? = if i ∈ is then env[i]? else env2[i]? := by
  induction is with
  | nil => rfl
  | cons j is ih =>
    have hl2 : ∀ is : List Nat, (restore env env2 is).length = env2.length := fun is => by
      induction is with
      | nil => rfl
      | cons k is ih => rw [restore, List.length_set, ih]
    rw [restore]
    by_cases e : j = i
    · subst e
      rw [if_pos List.mem_cons_self]
      by_cases h : j < env.length
      · rw [List.getElem?_set_self (by rw [hl2]; omega), List.getElem?_eq_getElem h]
        rfl
      · rw [List.getElem?_eq_none (by rw [List.length_set, hl2]; omega), List.getElem?_eq_none (by omega)]
    · rw [List.getElem?_set_ne e, ih]
      by_cases hm : i ∈ is
      · rw [if_pos hm, if_pos (List.mem_cons_of_mem _ hm)]
      · rw [if_neg hm, if_neg (by
          intro m
          rcases List.mem_cons.mp m with z | z
          · exact e z.symm
          · exact hm z)]
theorem restore_eq {env2 : Env} {own : List Nat} (h : wipeE env2 own = wipeE env own) : restore env env2 own = env := by
  have hl : env2.length = env.length := by
    have := congrArg List.length h
    rwa [wipeE_len, wipeE_len] at this
  refine List.ext_getElem? fun i => ?_
  rw [restore_get hl]
  by_cases hm : i ∈ own
  · rw [if_pos hm]
  · rw [if_neg hm]
    have := congrArg (fun e : Env => e[i]?) h
    simp only [wipeE_get, if_neg hm] at this
    exact this
/-- a turn of a comprehension: what it gives, if anything -/
def LcTurn (own : List Nat) (tg : Tg) (test : Env → Oc Bool) (elt : Env → Oc O) (env0 : Env) (x : D) (r : Option O) : Prop :=
  ∃ e1, assignD (fun i => !own.contains i) tg x (wipeE env0 own) = some e1 ∧ ∃ e2, wipeE e2 own = wipeE env0 own ∧ match r with
    | none => test e1 = some (.ok false, e2)
    | some o => ∃ e, test e1 = some (.ok true, e) ∧ elt e = some (.ok o, e2)
theorem lcLoop_ok {own : List Nat} {test : Env → Oc Bool} {elt : Env → Oc O} {env0 : Env} {f : D → Option O} : ∀ {xs : List D} {acc : List O} {env : Env}, wipeE env own = wipeE env0 own → (∀ x ∈ xs, LcTurn own tg test elt env0 x (f x)) → acc.length + xs.length ≤ 16777216 →
    ∃ env2, wipeE env2 own = wipeE env0 own ∧ lcLoop (fun i => !own.contains i) own tg test (lcPut elt) xs acc env = some (.ok (acc ++ xs.filterMap f), env2)
  | [], acc, env, hw, _, _ => ⟨env, hw, by simp [lcLoop]⟩
  | x :: xs, acc, env, hw, h, hl => by
    obtain ⟨e1, a1, e2, w2, h2⟩ := h x List.mem_cons_self
    rw [lcLoop, hw, a1]
    dsimp only
    cases hf : f x with
    | none =>
      rw [hf] at h2
      rw [h2]
      dsimp only
      obtain ⟨e3, w3, h3⟩ := lcLoop_ok (xs := xs) (acc := acc) w2 (fun y hy => h y (List.mem_cons_of_mem _ hy)) (by simp at hl; omega)
      refine ⟨e3, w3, ?_⟩
      rw [h3, List.filterMap_cons, hf]
    | some o =>
      rw [hf] at h2
      obtain ⟨e, h4, h5⟩ := h2
      rw [h4]
      dsimp only
      unfold lcPut
      rw [h5]
      dsimp only
      rw [if_pos (by unfold lenOk; simp at hl; exact decide_eq_true (by omega))]
      obtain ⟨e3, w3, h3⟩ := lcLoop_ok (xs := xs) (acc := acc ++ [o]) w2 (fun y hy => h y (List.mem_cons_of_mem _ hy)) (by simp at hl ⊢; omega)
      refine ⟨e3, w3, ?_⟩
      dsimp only
      unfold lcPut at h3
      rw [h3, List.filterMap_cons, hf]
      simp
theorem lcRun_ok {own : List Nat} {k : ItK} {test : Env → Oc Bool} {elt : Env → Oc O} {as : List Arg} {ds : List D} {l : Bool} {env1 : Env} {xs : List D} (f : D → Option O) (hz : freezes as env = some (ds, l, env1)) (hi : iterD k ds = some xs) (hw : wipeOk env1 own = true) (hl : xs.length ≤ 16777216)
    (h : ∀ x ∈ xs, LcTurn own tg test elt env1 x (f x)) : lcRun own tg k test elt as env = some (.ok (.lst (xs.filterMap f)), env1) := by
  unfold lcRun
  rw [hz]
  dsimp only
  rw [hi]
  dsimp only
  rw [if_pos hw]
  obtain ⟨e2, w, e⟩ := lcLoop_ok (xs := xs) (acc := []) (env := env1) rfl h (by simpa using hl)
  rw [e]
  dsimp only [ok]
  rw [restore_eq w, List.nil_append]
end
section
theorem idx_lst {xs : List O} {i : Int} : O.idx (.lst xs) (.int i) = oo (L2.ixN xs.length i) (f := ⟨fun n => oo xs[n]? (f := ⟨fun o => some (.ix n, o)⟩)⟩) := by
  unfold O.idx oo
  dsimp only
  cases L2.ixN xs.length i with
  | none => rfl
  | some n =>
    dsimp only
    cases xs[n]? <;> rfl
theorem didx_lst {xs : List D} {i : Int} : D.idx (.lst xs) (.int i) = L2.atI xs i := (rfl)
theorem didx_tup {xs : List D} {i : Int} : D.idx (.tup xs) (.int i) = L2.atI xs i := (rfl)
theorem atI_eq {α : Type} {xs : List α} {i : Int} : L2.atI xs i = oo (L2.ixN xs.length i) (f := ⟨fun j => xs[j]?⟩) := by
  unfold L2.atI oo
  cases L2.ixN xs.length i <;> rfl
theorem setIx_lst {xs : List O} {i : Int} {x : O} : setIx (.lst xs) (.int i) x = oo (L2.ixN xs.length i) (f := ⟨fun n => some (.lst (xs.set n x))⟩) := by
  unfold setIx oo
  dsimp only
  cases L2.ixN xs.length i <;> rfl
theorem ixN_in {n : Nat} {i : Int} (h0 : 0 ≤ i) (h1 : i < n) : L2.ixN n i = some i.toNat := by
  unfold L2.ixN
  rw [if_pos h0, if_pos h1]
theorem lenOk_of {n : Nat} (h : n ≤ 16777216) : lenOk n = true := decide_eq_true h
theorem mulOk_of {i j : Int} (hi : i.natAbs < 2 ^ 400000) (hj : j.natAbs < 2 ^ 400000) : mulOk i j = true := by
  have h : ∀ k : Nat, k < 2 ^ 400000 → k.log2 ≤ 400000 := fun k hk => by
    by_cases h0 : k = 0
    · subst h0; simp
    · exact Nat.le_of_lt ((Nat.log2_lt h0).mpr hk)
  unfold mulOk
  have h1 := h _ hi
  have h2 := h _ hj
  exact decide_eq_true (by omega)
theorem divOk_of {j : Int} (h : 0 < j) (h2 : j.natAbs < 2 ^ 8000) : divOk j = true := by
  unfold divOk
  have h0 : j.natAbs ≠ 0 := by omega
  have := (Nat.log2_lt h0).mpr h2
  rw [decide_eq_true (show j ≠ 0 by omega), decide_eq_true (show j.natAbs.log2 < 9000 by omega)]
  rfl
theorem rngOk_of {i : Int} (h : -1000000000000000000 ≤ i) (h2 : i ≤ 1000000000000000000) : rngOk i = true := by
  unfold rngOk
  rw [decide_eq_true (by omega), decide_eq_true (by omega)]
  rfl
theorem int1_int {i : Int} : int1D (.int i) = some (.pure (.int i)) := (rfl)
theorem int1_bl {b : Bool} : int1D (.bl b) = some (.pure (.int (if b = true then 1 else 0))) := by cases b <;> rfl
theorem len_tup {xs : List D} : lenD (.tup xs) = some (.pure (.int xs.length)) := (rfl)
theorem len_lst {xs : List D} : lenD (.lst xs) = some (.pure (.int xs.length)) := (rfl)
theorem lstof_lst {xs : List D} : lstofD (.lst xs) = some (.lst (xs.map .pure)) := (rfl)
theorem lstof_tup {xs : List D} : lstofD (.tup xs) = some (.lst (xs.map .pure)) := (rfl)
theorem tupof_lst {xs : List D} : tupofD (.lst xs) = some (.pure (.tup xs)) := (rfl)
theorem tupof_tup {xs : List D} : tupofD (.tup xs) = some (.pure (.tup xs)) := (rfl)
theorem eqA_int {i j : Int} : eqA (.int i) (.int j) = some (decide (i = j)) := (rfl)
theorem pow_int {i j : Int} : powD (.int i) (.int j) = if powOk i j = true then some (.pure (.int (i ^ j.toNat))) else none := (rfl)
theorem lstAt_var {C : Ctx} {env : Env} {i : Nat} {os : List O} (h : env[i]? = some (some (.lst os))) : lstAt C env (.var i) = some i := by
  unfold lstAt evalR
  rw [h]
  dsimp only [argAt]
  rw [h]
theorem appRun_eq {env : Env} {i : Nat} {o : O} {os : List O} (h : env[i]? = some (some (.lst os))) : appRun i o env = if lenOk (os.length + 1) = true then some (.ok (.pure .non), env.set i (some (.lst (os ++ [o])))) else none := by
  unfold appRun
  rw [h]
/-- how a comparison chain, a test ends -/
theorem nxK_if {c : Bool} {x y : Oc Fl} {f : Kf Env (Oc Fl)} {Q : Oc Fl → Prop} (h1 : c = true → Q (nxK x (f := f))) (h2 : c = false → Q (nxK y (f := f))) : Q (nxK (if c = true then x else y) (f := f)) := by
  cases c with
  | true => rw [if_pos rfl]; exact h1 rfl
  | false => rw [if_neg Bool.false_ne_true]; exact h2 rfl
end
theorem frees_pures {ds : List D} : O.frees (ds.map O.pure) = D.lfs ds := by
  induction ds with
  | nil => rw [List.map_nil, frees_nil, lfs_nil]
  | cons d ds ih => rw [List.map_cons, frees_cons, free_pure, ih, lfs_cons]
theorem log2_le {k m : Nat} (hk : k < 2 ^ m) : k.log2 ≤ m := by
  by_cases h0 : k = 0
  · subst h0; simp
  · exact Nat.le_of_lt ((Nat.log2_lt h0).mpr hk)
theorem mulOk_sm {i j : Int} (hi : i.natAbs < 1000000000000000000000000000000) (hj : j.natAbs < 1000000000000000000000000000000) : mulOk i j = true := by
  have h1 := log2_le (k := i.natAbs) (m := 100) (by omega)
  have h2 := log2_le (k := j.natAbs) (m := 100) (by omega)
  unfold mulOk
  exact decide_eq_true (by omega)
theorem divOk_sm {j : Int} (h : 0 < j) (h2 : j < 1000000000000000000000000000000) : divOk j = true := by
  have h1 := log2_le (k := j.natAbs) (m := 100) (by omega)
  unfold divOk
  rw [decide_eq_true (show j ≠ 0 by omega), decide_eq_true (show j.natAbs.log2 < 9000 by omega)]
  rfl
theorem fmod_lt {i j : Int} (h : 0 < j) : 0 ≤ i.fmod j ∧ i.fmod j < j := ⟨Int.fmod_nonneg_of_pos i h, Int.fmod_lt_of_pos i h⟩
def Ss.take : Nat → Ss → Ss
  | 0, _ => .nil
  | _ + 1, .nil => .nil
  | n + 1, .cons s r => .cons s (r.take n)
def Ss.drop : Nat → Ss → Ss
  | 0, b => b
  | _ + 1, .nil => .nil
  | n + 1, .cons _ r => r.drop n
theorem xs_split {C : Ctx} {P : Nat → Bool} : ∀ (k : Nat) {b : Ss} {env : Env}, execs C P b env = nxK (execs C P (b.take k) env) (f := ⟨fun e => execs C P (b.drop k) e⟩)
  | 0, b, env => rfl
  | k + 1, .nil, env => rfl
  | k + 1, .cons s r, env => by
    rw [Ss.take, Ss.drop, xs_cons, xs_cons]
    rcases exec C P s env with _ | ⟨q, e⟩
    · rfl
    · cases q with
      | error _ => rfl
      | ok f =>
        cases f with
        | nx => exact xs_split k
        | _ => rfl
def turnR (P : Nat → Bool) (tg : Tg) (body : Env → Oc Fl) (x : D) (env : Env) : Oc Fl := oo (assignD P tg x env) (f := ⟨body⟩)
theorem turnR_eq {P : Nat → Bool} {tg : Tg} {body : Env → Oc Fl} {x : D} {env : Env} : turnR P tg body x env = oo (assignD P tg x env) (f := ⟨body⟩) := (rfl)
def NextP (J : Env → Prop) (R : Except Exn Fl × Env → Prop) : Except Exn Fl × Env → Prop
  | (.ok .nx, e) => J e
  | (.ok .cnt, e) => J e
  | (.ok .brk, e) => R (.ok .nx, e)
  | (.ok (.ret o), e) => R (.ok (.ret o), e)
  | (.error z, e) => R (.error z, e)
theorem forR {P : Nat → Bool} {tg : Tg} {body : Env → Oc Fl} {R : Except Exn Fl × Env → Prop} {xs : List D} {env : Env} (J : Nat → Env → Prop) (h0 : J 0 env) (st : ∀ i x e, xs[i]? = some x → J i e → ∃ r, turnR P tg body x e = some r ∧ NextP (J (i + 1)) R r) (fin : ∀ e, J xs.length e → R (.ok .nx, e)) :
    ∃ r, forLoop P tg body xs env = some r ∧ R r := by
  refine for_run h0 (fun i x e hx hj => ?_) fin
  obtain ⟨r, h1, h2⟩ := st i x e hx hj
  unfold turnR oo at h1
  cases ha : assignD P tg x e with
  | none => rw [ha] at h1; cases h1
  | some e1 =>
    rw [ha] at h1
    have h1' : body e1 = some r := h1
    refine ⟨e1, rfl, ?_⟩
    obtain ⟨q, e2⟩ := r
    cases q with
    | error z => exact .inr (.inr (.inr ⟨z, e2, h1', h2⟩))
    | ok f =>
      cases f with
      | nx => exact .inl ⟨e2, .inl h1', h2⟩
      | cnt => exact .inl ⟨e2, .inr h1', h2⟩
      | brk => exact .inr (.inl ⟨e2, h1', h2⟩)
      | ret o => exact .inr (.inr (.inl ⟨o, e2, h1', h2⟩))
theorem forI {P : Nat → Bool} {tg : Tg} {body : Env → Oc Fl} {xs : List D} {env : Env} (J : Nat → Env → Prop) (h0 : J 0 env) (st : ∀ i x e, xs[i]? = some x → J i e → ∃ e2, turnR P tg body x e = some (.ok .nx, e2) ∧ J (i + 1) e2) : ∃ e, forLoop P tg body xs env = some (.ok .nx, e) ∧ J xs.length e := by
  obtain ⟨r, h, e, rfl, hj⟩ := forR (P := P) (tg := tg) (body := body) (R := fun r => ∃ e, r = (.ok .nx, e) ∧ J xs.length e) J h0 (fun i x e hx hj => by
    obtain ⟨e2, a, b⟩ := st i x e hx hj
    exact ⟨_, a, b⟩) fun e he => ⟨e, rfl, he⟩
  exact ⟨e, h, hj⟩
/-- a while's turn: the test, then the body -/
def wturn (test : Env → Oc Bool) (body : Env → Oc Fl) (env : Env) : Oc Fl := bd (test env) (f := ⟨fun b e => if b = true then body e else some (.ok .brk, e)⟩)
theorem wturn_eq {test : Env → Oc Bool} {body : Env → Oc Fl} {env : Env} : wturn test body env = bd (test env) (f := ⟨fun b e => if b = true then body e else some (.ok .brk, e)⟩) := (rfl)
theorem whileR {test : Env → Oc Bool} {body : Env → Oc Fl} {R : Except Exn Fl × Env → Prop} (J : Nat → Env → Prop) (st : ∀ m e, J m e → ∃ r, wturn test body e = some r ∧ NextP (fun e2 => ∃ m', m' < m ∧ J m' e2) R r) : ∀ {m : Nat} {env : Env}, J m env → ∃ r, whileLoop test body env = some r ∧ R r := by
  refine while_run (fun m e hj => ?_)
  obtain ⟨r, h1, h2⟩ := st m e hj
  unfold wturn bd Oc.bind at h1
  cases ht : test e with
  | none => rw [ht] at h1; cases h1
  | some y =>
    obtain ⟨q, e1⟩ := y
    rw [ht] at h1
    cases q with
    | error z =>
      dsimp only at h1
      cases h1
      exact .inr (.inl ⟨z, e1, rfl, h2⟩)
    | ok b =>
      dsimp only at h1
      cases b with
      | false =>
        rw [if_neg Bool.false_ne_true] at h1
        cases h1
        exact .inl ⟨e1, rfl, h2⟩
      | true =>
        rw [if_pos rfl] at h1
        refine .inr (.inr ⟨e1, rfl, ?_⟩)
        obtain ⟨q, e2⟩ := r
        cases q with
        | error z => exact .inr (.inr (.inr ⟨z, e2, h1, h2⟩))
        | ok f =>
          cases f with
          | nx =>
            obtain ⟨m', hm, hj⟩ := h2
            exact .inl ⟨e2, m', hm, .inl h1, hj⟩
          | cnt =>
            obtain ⟨m', hm, hj⟩ := h2
            exact .inl ⟨e2, m', hm, .inr h1, hj⟩
          | brk => exact .inr (.inl ⟨e2, h1, h2⟩)
          | ret o => exact .inr (.inr (.inl ⟨o, e2, h1, h2⟩))
/-- a comprehension's turn as one run: none where the test fails -/
def lcT (own : List Nat) (tg : Tg) (test : Env → Oc Bool) (elt : Env → Oc O) (x : D) (env : Env) : Oc (Option O) := oo (assignD (fun i => !own.contains i) tg x (wipeE env own)) (f := ⟨fun e1 => bd (test e1) (f := ⟨fun b e => if b = true then bd (elt e) (f := ⟨fun o e2 => some (.ok (some o), e2)⟩) else some (.ok none, e)⟩)⟩)
theorem lcT_eq {own : List Nat} {tg : Tg} {test : Env → Oc Bool} {elt : Env → Oc O} {x : D} {env : Env} : lcT own tg test elt x env = oo (assignD (fun i => !own.contains i) tg x (wipeE env own)) (f := ⟨fun e1 => bd (test e1) (f := ⟨fun b e => if b = true then bd (elt e) (f := ⟨fun o e2 => some (.ok (some o), e2)⟩) else some (.ok none, e)⟩)⟩) := (rfl)
theorem LcTurn.of {own : List Nat} {tg : Tg} {test : Env → Oc Bool} {elt : Env → Oc O} {env0 : Env} {x : D} {r : Option O} {e2 : Env} (h : lcT own tg test elt x env0 = some (.ok r, e2)) (hw : wipeE e2 own = wipeE env0 own) : LcTurn own tg test elt env0 x r := by
  unfold lcT oo at h
  cases ha : assignD (fun i => !own.contains i) tg x (wipeE env0 own) with
  | none => rw [ha] at h; cases h
  | some e1 =>
    rw [ha] at h
    refine ⟨e1, ha, e2, hw, ?_⟩
    dsimp only [bd, Oc.bind] at h
    cases ht : test e1 with
    | none => rw [ht] at h; cases h
    | some y =>
      obtain ⟨q, e⟩ := y
      rw [ht] at h
      cases q with
      | error _ => cases h
      | ok b =>
        cases b with
        | false =>
          cases h
          rfl
        | true =>
          dsimp only at h
          rw [if_pos rfl] at h
          cases he : elt e with
          | none => rw [he] at h; cases h
          | some y =>
            obtain ⟨q, e3⟩ := y
            rw [he] at h
            cases q with
            | error _ => cases h
            | ok o =>
              cases h
              exact ⟨e, rfl, he⟩
theorem lcR {own : List Nat} {tg : Tg} {k : ItK} {test : Env → Oc Bool} {elt : Env → Oc O} {as : List Arg} {env : Env} {ds : List D} {l : Bool} {env1 : Env} {xs : List D} (f : D → Option O) (hz : freezes as env = some (ds, l, env1)) (hi : iterD k ds = some xs) (hw : wipeOk env1 own = true) (hl : xs.length ≤ 16777216)
    (h : ∀ x ∈ xs, ∃ e2, lcT own tg test elt x env1 = some (.ok (f x), e2) ∧ wipeE e2 own = wipeE env1 own) : lcRun own tg k test elt as env = some (.ok (.lst (xs.filterMap f)), env1) :=
  lcRun_ok f hz hi hw hl fun x hx => by
    obtain ⟨e2, a, b⟩ := h x hx
    exact .of a b
theorem forRg {P : Nat → Bool} {tg : Tg} {body : Env → Oc Fl} {xs : List D} {env : Env} {F : Oc Fl} (hF : forLoop P tg body xs env = F) (R : Except Exn Fl × Env → Prop) (J : Nat → Env → Prop) (h0 : J 0 env) (st : ∀ i x e, xs[i]? = some x → J i e → ∃ r, turnR P tg body x e = some r ∧ NextP (J (i + 1)) R r) (fin : ∀ e, J xs.length e → R (.ok .nx, e)) : ∃ r, F = some r ∧ R r := by
  subst hF
  exact forR J h0 st fin
theorem forIg {P : Nat → Bool} {tg : Tg} {body : Env → Oc Fl} {xs : List D} {env : Env} {F : Oc Fl} (hF : forLoop P tg body xs env = F) (J : Nat → Env → Prop) (h0 : J 0 env) (st : ∀ i x e, xs[i]? = some x → J i e → ∃ e2, turnR P tg body x e = some (.ok .nx, e2) ∧ J (i + 1) e2) : ∃ e, F = some (.ok .nx, e) ∧ J xs.length e := by
  subst hF
  exact forI J h0 st
theorem whileRg {test : Env → Oc Bool} {body : Env → Oc Fl} {F : Oc Fl} {env : Env} (hF : whileLoop test body env = F) (R : Except Exn Fl × Env → Prop) (J : Nat → Env → Prop) (m : Nat) (h0 : J m env) (st : ∀ m e, J m e → ∃ r, wturn test body e = some r ∧ NextP (fun e2 => ∃ m', m' < m ∧ J m' e2) R r) : ∃ r, F = some r ∧ R r := by
  subst hF
  exact whileR J st h0
theorem lcRg {own : List Nat} {tg : Tg} {k : ItK} {test : Env → Oc Bool} {elt : Env → Oc O} {as : List Arg} {env : Env} {F : Oc O} (hF : lcRun own tg k test elt as env = F) {ds : List D} {l : Bool} (env1 : Env) (xs : List D) (f : D → Option O) (hz : freezes as env = some (ds, l, env1)) (hi : iterD k ds = some xs) (hw : wipeOk env1 own = true) (hl : xs.length ≤ 16777216)
    (h : ∀ x ∈ xs, ∃ e2, lcT own tg test elt x env1 = some (.ok (f x), e2) ∧ wipeE e2 own = wipeE env1 own) : F = some (.ok (.lst (xs.filterMap f)), env1) := by
  subst hF
  exact lcR f hz hi hw hl h
end T
namespace T
/-- so many steps of Euclid's algorithm -/
def euc : Nat → Nat → Nat → Nat × Nat
  | 0, a, b => (a, b)
  | k + 1, a, b => if b = 0 then (a, b) else euc k b (a % b)
theorem euc_gcd : ∀ k a b, Nat.gcd (euc k a b).1 (euc k a b).2 = Nat.gcd a b
  | 0, a, b => rfl
  | k + 1, a, b => by
    unfold euc
    split
    · rfl
    · rw [euc_gcd k, Nat.gcd_comm b, ← Nat.gcd_rec, Nat.gcd_comm]
theorem mod_half {a b : Nat} (hb : b ≠ 0) (h : b ≤ a) : a % b < a / 2 + 1 ∧ 2 * (a % b) < a := by
  have h1 := Nat.mod_lt a (Nat.pos_of_ne_zero hb)
  have h2 := Nat.div_add_mod a b
  have h3 : 1 ≤ a / b := (Nat.one_le_div_iff (Nat.pos_of_ne_zero hb)).mpr h
  have h4 : b ≤ b * (a / b) := Nat.le_mul_of_pos_right b h3
  omega
/-- two steps halve the second -/
theorem euc_end : ∀ (m k a b : Nat), b < 2 ^ m → 2 * m ≤ k → (euc k a b).2 = 0
  | 0, k, a, b, h, _ => by
    have hb : b = 0 := by simpa using h
    subst hb
    cases k with
    | zero => rfl
    | succ k => unfold euc; rw [if_pos rfl]
  | m + 1, k, a, b, h, hk => by
    obtain ⟨k, rfl⟩ : ∃ j, k = j + 2 := ⟨k - 2, by omega⟩
    unfold euc
    by_cases hb : b = 0
    · rw [if_pos hb]; exact hb
    · rw [if_neg hb]
      unfold euc
      by_cases hc : a % b = 0
      · rw [if_pos hc]; exact hc
      · rw [if_neg hc]
        have h1 := Nat.mod_lt a (Nat.pos_of_ne_zero hb)
        have h2 := mod_half (a := b) hc (Nat.le_of_lt h1)
        refine euc_end m k _ _ ?_ (by omega)
        have : 2 ^ (m + 1) = 2 * 2 ^ m := by rw [Nat.pow_succ]; omega
        omega
theorem euc_val {m k a b : Nat} (h : b < 2 ^ m) (hk : 2 * m ≤ k) : (euc k a b).1 = Nat.gcd a b ∧ (euc k a b).2 = 0 := by
  have h2 := euc_end m k a b h hk
  have h1 := euc_gcd k a b
  rw [h2, Nat.gcd_zero_right] at h1
  exact ⟨h1, h2⟩
theorem fmod_nat {a b : Nat} : Int.fmod (a : Int) (b : Int) = ((a % b : Nat) : Int) := by
  rw [Int.fmod_eq_emod_of_nonneg _ (by omega)]
  rfl
theorem fdiv_nat {a b : Nat} : Int.fdiv (a : Int) (b : Int) = ((a / b : Nat) : Int) := by
  rw [Int.fdiv_eq_ediv_of_nonneg _ (by omega)]
  rfl
theorem euc_succ : ∀ (i a b : Nat), euc (i + 1) a b = if (euc i a b).2 = 0 then euc i a b else ((euc i a b).2, (euc i a b).1 % (euc i a b).2)
  | 0, a, b => rfl
  | i + 1, a, b => by
    have e : euc (i + 1 + 1) a b = if b = 0 then (a, b) else euc (i + 1) b (a % b) := rfl
    have e2 : euc (i + 1) a b = if b = 0 then (a, b) else euc i b (a % b) := rfl
    rw [e, e2]
    by_cases h : b = 0
    · simp [h]
    · simp only [if_neg h]
      exact euc_succ i b (a % b)
theorem setFld_ins {fld : Nat → Nat → Bool} {c : Nat} {ns : List Nat} {vs : List O} {f : Nat} {x : O} : setFld fld (.ins c ns vs) f x = if (fld c f && decide (ns.length < 1000)) = true then some (.ins c (setF ns vs f x).1 (setF ns vs f x).2) else none := (rfl)
theorem att_ins {fld : Nat → Nat → Bool} {c : Nat} {ns : List Nat} {vs : List O} {f : Nat} : O.att fld (.ins c ns vs) f = if fld c f = true then oo (lkp ns vs f) (f := ⟨fun o => some (.fld f, o)⟩) else none := by
  unfold O.att oo
  dsimp only
  split
  · cases lkp ns vs f <;> rfl
  · rfl
theorem datt_ins {fld : Nat → Nat → Bool} {c : Nat} {ns : List Nat} {vs : List D} {f : Nat} : D.att fld (.ins c ns vs) f = if fld c f = true then lkp ns vs f else none := (rfl)
theorem it_rng1 {j : Int} : iterD .rng1 [.int j] = if rngOk j = true then some (irange 0 j.toNat) else none := (rfl)
theorem it_rng2 {i j : Int} : iterD .rng2 [.int i, .int j] = if (rngOk i && rngOk j) = true then some (irange i (j - i).toNat) else none := (rfl)
theorem itv_lst {xs : List D} : iterD .seq [.lst xs] = some xs := (rfl)
theorem itv_tup {xs : List D} : iterD .seq [.tup xs] = some xs := (rfl)
theorem it_zipl {xs ys : List D} : iterD .zip2 [.lst xs, .lst ys] = some (zip2D xs ys) := (rfl)
theorem it_zip1 {xs ys : List D} : iterD .zip2 [.lst xs, .tup ys] = some (zip2D xs ys) := (rfl)
theorem it_zip2 {xs ys : List D} : iterD .zip2 [.tup xs, .lst ys] = some (zip2D xs ys) := (rfl)
theorem it_zip3 {xs ys : List D} : iterD .zip2 [.tup xs, .tup ys] = some (zip2D xs ys) := (rfl)
theorem it_enum {xs : List D} : iterD .enum [.lst xs] = some (enumD 0 xs) := (rfl)
theorem bitl_int {i : Int} : bitlD (.int i) = some (.pure (.int (if i = 0 then 0 else i.natAbs.log2 + 1))) := (rfl)
theorem bmOk_bitl {i : Int} : bmOk .bitl (some (.int i)) = true := (rfl)
theorem bmOk_ixl {xs : List D} : bmOk .index (some (.lst xs)) = true := (rfl)
theorem bmOk_ixt {xs : List D} : bmOk .index (some (.tup xs)) = true := (rfl)
theorem kindS_int {i j : Int} : kindS (some (.int i)) (some (.int j)) = true := (rfl)
theorem kindS_lst {xs ys : List D} : kindS (some (.lst xs)) (some (.lst ys)) = true := (rfl)
theorem kindS_tup {xs ys : List D} : kindS (some (.tup xs)) (some (.tup ys)) = true := (rfl)
end T
namespace T
open PySem
theorem od_add {C : Ctx} {x y : D} : opD C .add [x, y] = addD x y := (rfl)
theorem od_sub {C : Ctx} {x y : D} : opD C .sub [x, y] = subD x y := (rfl)
theorem od_mul {C : Ctx} {x y : D} : opD C .mul [x, y] = mulD x y := (rfl)
theorem od_fdiv {C : Ctx} {x y : D} : opD C .fdiv [x, y] = fdivD x y := (rfl)
theorem od_mod {C : Ctx} {x y : D} : opD C .mod [x, y] = modD x y := (rfl)
theorem od_pow {C : Ctx} {x y : D} : opD C .pow [x, y] = powD x y := (rfl)
theorem od_lt {C : Ctx} {x y : D} : opD C .lt [x, y] = ltD x y := (rfl)
theorem od_le {C : Ctx} {x y : D} : opD C .le [x, y] = leD' x y := (rfl)
theorem od_gt {C : Ctx} {x y : D} : opD C .gt [x, y] = gtD x y := (rfl)
theorem od_ge {C : Ctx} {x y : D} : opD C .ge [x, y] = geD x y := (rfl)
theorem od_is {C : Ctx} {x y : D} : opD C .is [x, y] = isD x y := (rfl)
theorem od_isn {C : Ctx} {x y : D} : opD C .isn [x, y] = isnD x y := (rfl)
theorem od_max2 {C : Ctx} {x y : D} : opD C .max2 [x, y] = max2D x y := (rfl)
theorem od_min2 {C : Ctx} {x y : D} : opD C .min2 [x, y] = min2D x y := (rfl)
theorem od_index {C : Ctx} {x y : D} : opD C .index [x, y] = indexD x y := (rfl)
theorem od_neg {C : Ctx} {x : D} : opD C .neg [x] = negD x := (rfl)
theorem od_not {C : Ctx} {x : D} : opD C .not [x] = notD x := (rfl)
theorem od_len {C : Ctx} {x : D} : opD C .len [x] = lenD x := (rfl)
theorem od_abs {C : Ctx} {x : D} : opD C .abs [x] = absD x := (rfl)
theorem od_int1 {C : Ctx} {x : D} : opD C .int1 [x] = int1D x := (rfl)
theorem od_bitl {C : Ctx} {x : D} : opD C .bitl [x] = bitlD x := (rfl)
theorem od_tupof {C : Ctx} {x : D} : opD C .tupof [x] = tupofD x := (rfl)
theorem od_lstof {C : Ctx} {x : D} : opD C .lstof [x] = lstofD x := (rfl)
theorem od_lrng {C : Ctx} {x : D} : opD C .lrng [x] = lrngD x := (rfl)
theorem od_lrev {C : Ctx} {x : D} : opD C .lrev [x] = lrevD x := (rfl)
theorem od_sorted {C : Ctx} {x : D} : opD C .sorted [x] = sortedD x := (rfl)
theorem od_sum {C : Ctx} {x : D} : opD C .sum [x] = sumD x := (rfl)
theorem od_all {C : Ctx} {x : D} : opD C .all [x] = allD x := (rfl)
theorem od_any {C : Ctx} {x : D} : opD C .any [x] = anyD x := (rfl)
theorem od_eq {C : Ctx} {x y : D} : opD C .eq [x, y] = blD (eqA x y) := (rfl)
theorem od_ne {C : Ctx} {x y : D} : opD C .ne [x, y] = nbD (eqA x y) := (rfl)
theorem od_inn {C : Ctx} {x y : D} : opD C .inn [x, y] = blD (inD x y) := (rfl)
theorem od_nin {C : Ctx} {x y : D} : opD C .nin [x, y] = nbD (inD x y) := (rfl)
theorem od_tup {C : Ctx} {xs : List D} : opD C .tup xs = if lenOk xs.length = true then some (.pure (.tup xs)) else none := (rfl)
theorem od_lst {C : Ctx} {xs : List D} : opD C .lst xs = if lenOk xs.length = true then some (.lst (xs.map .pure)) else none := (rfl)
theorem od_idx {C : Ctx} {x k : D} : opD C .idx [x, k] = dO (x.idx k) := (rfl)
theorem od_s00 {C : Ctx} {x : D} : opD C (.slc false false) [x] = slcD x none none := (rfl)
theorem od_s10 {C : Ctx} {x i : D} : opD C (.slc true false) [x, i] = slc2 x i none := (rfl)
theorem od_s01 {C : Ctx} {x i : D} : opD C (.slc false true) [x, i] = slc3 x i := (rfl)
theorem od_s11 {C : Ctx} {x i j : D} : opD C (.slc true true) [x, i, j] = slc4 x i j := (rfl)
theorem od_att {C : Ctx} {f : Nat} {x : D} : opD C (.att f) [x] = dO (x.att C.fld f) := (rfl)
theorem od_isi {C : Ctx} {ts : List Ty} {x : D} : opD C (.isi ts) [x] = blD (tysHave C.sub ts x) := (rfl)
theorem opp_slc {as : List Arg} : opPre (.slc true true) as = pre3 as := (rfl)
theorem i_add {i j : Int} : addD (.int i) (.int j) = some (.pure (.int (i + j))) := (rfl)
theorem i_sub {i j : Int} : subD (.int i) (.int j) = some (.pure (.int (i - j))) := (rfl)
theorem i_mul {i j : Int} : mulD (.int i) (.int j) = if mulOk i j = true then some (.pure (.int (i * j))) else none := (rfl)
theorem i_fdiv {i j : Int} : fdivD (.int i) (.int j) = if divOk j = true then some (.pure (.int (i.fdiv j))) else none := (rfl)
theorem i_mod {i j : Int} : modD (.int i) (.int j) = if j = 0 then none else some (.pure (.int (i.fmod j))) := by
  unfold modD
  by_cases h : j = 0
  · simp [h]
  · simp [h]
theorem i_pow {i j : Int} : powD (.int i) (.int j) = if powOk i j = true then some (.pure (.int (i ^ j.toNat))) else none := (rfl)
theorem i_neg {i : Int} : negD (.int i) = some (.pure (.int (-i))) := (rfl)
theorem i_lt {i j : Int} : ltD (.int i) (.int j) = some (.pure (.bl (decide (i < j)))) := (rfl)
theorem i_le {i j : Int} : leD' (.int i) (.int j) = some (.pure (.bl (decide (i ≤ j)))) := (rfl)
theorem i_gt {i j : Int} : gtD (.int i) (.int j) = some (.pure (.bl (decide (j < i)))) := (rfl)
theorem i_ge {i j : Int} : geD (.int i) (.int j) = some (.pure (.bl (decide (j ≤ i)))) := (rfl)
theorem i_max {i j : Int} : max2D (.int i) (.int j) = some (.pure (.int (if j > i then j else i))) := (rfl)
theorem i_min {i j : Int} : min2D (.int i) (.int j) = some (.pure (.int (if j < i then j else i))) := (rfl)
theorem i_abs {i : Int} : absD (.int i) = some (.pure (.int (if i < 0 then -i else i))) := (rfl)
theorem i_not {x : D} : notD x = oo x.truth (f := ⟨fun b => some (.pure (.bl (!b)))⟩) := by
  unfold notD oo
  cases x.truth <;> rfl
theorem i_bl {x : Option Bool} : blD x = oo x (f := ⟨fun b => some (.pure (.bl b))⟩) := by
  unfold blD oo
  cases x <;> rfl
theorem i_nb {x : Option Bool} : nbD x = oo x (f := ⟨fun b => some (.pure (.bl (!b)))⟩) := by
  unfold nbD oo
  cases x <;> rfl
theorem i_dO {x : Option D} : dO x = oo x (f := ⟨fun b => some (.pure b)⟩) := by
  unfold dO oo
  cases x <;> rfl
theorem i_is {x y : D} : isD x y = if y.isNon = true then some (.pure (.bl x.isNon)) else none := (rfl)
theorem i_isn {x y : D} : isnD x y = if y.isNon = true then some (.pure (.bl (!x.isNon))) else none := (rfl)
theorem isNon_non : D.isNon .non = true := (rfl)
theorem isNon_int {i : Int} : D.isNon (.int i) = false := (rfl)
theorem isNon_bl {i : Bool} : D.isNon (.bl i) = false := (rfl)
theorem isNon_str {i : Str} : D.isNon (.str i) = false := (rfl)
theorem isNon_tup {i : List D} : D.isNon (.tup i) = false := (rfl)
theorem isNon_lst {i : List D} : D.isNon (.lst i) = false := (rfl)
theorem isNon_ins {c : Nat} {ns : List Nat} {vs : List D} : D.isNon (.ins c ns vs) = false := (rfl)
theorem blOf_bl {b : Bool} : blOf (.pure (.bl b)) = some b := (rfl)
theorem valA_val {d : D} : valA (.val d) = some d := (rfl)
theorem freeR_ok {o : O} : freeR (.ok o) = o.free := (rfl)
theorem freeR_er {x : Exn} : freeR (.error x) = D.lfs x.vs := (rfl)
theorem wipe_nil {env : Env} : wipeE env [] = env := (rfl)
theorem wipe_cons {env : Env} {i : Nat} {is : List Nat} : wipeE env (i :: is) = (wipeE env is).set i none := (rfl)
theorem lkp_nil {α : Type} {vs : List α} {f : Nat} : lkp [] vs f = none := (rfl)
theorem lkp_cons {α : Type} {n : Nat} {ns : List Nat} {v : α} {vs : List α} {f : Nat} : lkp (n :: ns) (v :: vs) f = if n = f then some v else lkp ns vs f := (rfl)
theorem setF_cons {α : Type} {n : Nat} {ns : List Nat} {v : α} {vs : List α} {f : Nat} {x : α} : setF (n :: ns) (v :: vs) f x = if n = f then (n :: ns, x :: vs) else (n :: (setF ns vs f x).1, v :: (setF ns vs f x).2) := (rfl)
theorem setF_nil {α : Type} {f : Nat} {x : α} : setF [] [] f x = ([f], [x]) := (rfl)
theorem take_0 {b : Ss} : Ss.take 0 b = .nil := (rfl)
theorem take_s {n : Nat} {s : S} {r : Ss} : Ss.take (n + 1) (.cons s r) = .cons s (r.take n) := (rfl)
theorem drop_0 {b : Ss} : Ss.drop 0 b = b := (rfl)
theorem drop_s {n : Nat} {s : S} {r : Ss} : Ss.drop (n + 1) (.cons s r) = r.drop n := (rfl)
theorem hv_eq {sub : Nat → Nat → Option Bool} {ts : List Ty} {d : D} : tysHave sub ts d = (match d.tag with | some t => tysIs sub t ts | none => none) := (rfl)
theorem tysHave_eq {sub : Nat → Nat → Option Bool} {ts : List Ty} {d : D} : tysHave sub ts d = oo d.tag (f := ⟨fun t => tysIs sub t ts⟩) := by
  unfold tysHave oo
  cases d.tag <;> rfl
theorem tag_non  : D.tag (.non) = some .non := (rfl)
theorem tag_bl {b : Bool} : D.tag (.bl b) = some .bool := (rfl)
theorem tag_int {b : Int} : D.tag (.int b) = some .int := (rfl)
theorem tag_str {b : Str} : D.tag (.str b) = some .str := (rfl)
theorem tag_tup {b : List D} : D.tag (.tup b) = some .tup := (rfl)
theorem tag_lst {b : List D} : D.tag (.lst b) = some .lst := (rfl)
theorem tag_ins {c : Nat} {ns : List Nat} {vs : List D} : D.tag (.ins c ns vs) = some (.cls c) := (rfl)
theorem tys_nil {sub : Nat → Nat → Option Bool} {t : Tag} : tysIs sub t [] = some false := (rfl)
theorem tys_cons {sub : Nat → Nat → Option Bool} {t : Tag} {ty : Ty} {ts : List Ty} : tysIs sub t (ty :: ts) = oo (tagIs sub t ty) (f := ⟨fun b => oo (tysIs sub t ts) (f := ⟨fun c => some (b || c)⟩)⟩) := by
  rw [tysIs]
  unfold oo
  cases tagIs sub t ty with
  | none => rfl
  | some b =>
    dsimp only
    cases tysIs sub t ts with
    | none => cases b <;> rfl
    | some c => cases b <;> rfl
theorem ti_non_int {sub : Nat → Nat → Option Bool} : tagIs sub .non .int = some false := (rfl)
theorem ti_non_bool {sub : Nat → Nat → Option Bool} : tagIs sub .non .bool = some false := (rfl)
theorem ti_non_str {sub : Nat → Nat → Option Bool} : tagIs sub .non .str = some false := (rfl)
theorem ti_non_tup {sub : Nat → Nat → Option Bool} : tagIs sub .non .tup = some false := (rfl)
theorem ti_non_lst {sub : Nat → Nat → Option Bool} : tagIs sub .non .lst = some false := (rfl)
theorem ti_non_dct {sub : Nat → Nat → Option Bool} : tagIs sub .non .dct = some false := (rfl)
theorem ti_bool_int {sub : Nat → Nat → Option Bool} : tagIs sub .bool .int = some true := (rfl)
theorem ti_bool_bool {sub : Nat → Nat → Option Bool} : tagIs sub .bool .bool = some true := (rfl)
theorem ti_bool_str {sub : Nat → Nat → Option Bool} : tagIs sub .bool .str = some false := (rfl)
theorem ti_bool_tup {sub : Nat → Nat → Option Bool} : tagIs sub .bool .tup = some false := (rfl)
theorem ti_bool_lst {sub : Nat → Nat → Option Bool} : tagIs sub .bool .lst = some false := (rfl)
theorem ti_bool_dct {sub : Nat → Nat → Option Bool} : tagIs sub .bool .dct = some false := (rfl)
theorem ti_int_int {sub : Nat → Nat → Option Bool} : tagIs sub .int .int = some true := (rfl)
theorem ti_int_bool {sub : Nat → Nat → Option Bool} : tagIs sub .int .bool = some false := (rfl)
theorem ti_int_str {sub : Nat → Nat → Option Bool} : tagIs sub .int .str = some false := (rfl)
theorem ti_int_tup {sub : Nat → Nat → Option Bool} : tagIs sub .int .tup = some false := (rfl)
theorem ti_int_lst {sub : Nat → Nat → Option Bool} : tagIs sub .int .lst = some false := (rfl)
theorem ti_int_dct {sub : Nat → Nat → Option Bool} : tagIs sub .int .dct = some false := (rfl)
theorem ti_str_int {sub : Nat → Nat → Option Bool} : tagIs sub .str .int = some false := (rfl)
theorem ti_str_bool {sub : Nat → Nat → Option Bool} : tagIs sub .str .bool = some false := (rfl)
theorem ti_str_str {sub : Nat → Nat → Option Bool} : tagIs sub .str .str = some true := (rfl)
theorem ti_str_tup {sub : Nat → Nat → Option Bool} : tagIs sub .str .tup = some false := (rfl)
theorem ti_str_lst {sub : Nat → Nat → Option Bool} : tagIs sub .str .lst = some false := (rfl)
theorem ti_str_dct {sub : Nat → Nat → Option Bool} : tagIs sub .str .dct = some false := (rfl)
theorem ti_tup_int {sub : Nat → Nat → Option Bool} : tagIs sub .tup .int = some false := (rfl)
theorem ti_tup_bool {sub : Nat → Nat → Option Bool} : tagIs sub .tup .bool = some false := (rfl)
theorem ti_tup_str {sub : Nat → Nat → Option Bool} : tagIs sub .tup .str = some false := (rfl)
theorem ti_tup_tup {sub : Nat → Nat → Option Bool} : tagIs sub .tup .tup = some true := (rfl)
theorem ti_tup_lst {sub : Nat → Nat → Option Bool} : tagIs sub .tup .lst = some false := (rfl)
theorem ti_tup_dct {sub : Nat → Nat → Option Bool} : tagIs sub .tup .dct = some false := (rfl)
theorem ti_lst_int {sub : Nat → Nat → Option Bool} : tagIs sub .lst .int = some false := (rfl)
theorem ti_lst_bool {sub : Nat → Nat → Option Bool} : tagIs sub .lst .bool = some false := (rfl)
theorem ti_lst_str {sub : Nat → Nat → Option Bool} : tagIs sub .lst .str = some false := (rfl)
theorem ti_lst_tup {sub : Nat → Nat → Option Bool} : tagIs sub .lst .tup = some false := (rfl)
theorem ti_lst_lst {sub : Nat → Nat → Option Bool} : tagIs sub .lst .lst = some true := (rfl)
theorem ti_lst_dct {sub : Nat → Nat → Option Bool} : tagIs sub .lst .dct = some false := (rfl)
theorem ti_dct_int {sub : Nat → Nat → Option Bool} : tagIs sub .dct .int = some false := (rfl)
theorem ti_dct_bool {sub : Nat → Nat → Option Bool} : tagIs sub .dct .bool = some false := (rfl)
theorem ti_dct_str {sub : Nat → Nat → Option Bool} : tagIs sub .dct .str = some false := (rfl)
theorem ti_dct_tup {sub : Nat → Nat → Option Bool} : tagIs sub .dct .tup = some false := (rfl)
theorem ti_dct_lst {sub : Nat → Nat → Option Bool} : tagIs sub .dct .lst = some false := (rfl)
theorem ti_dct_dct {sub : Nat → Nat → Option Bool} : tagIs sub .dct .dct = some true := (rfl)
theorem ti_cc {sub : Nat → Nat → Option Bool} {c k : Nat} : tagIs sub (.cls c) (.cls k) = sub c k := (rfl)
theorem ti_c_int {sub : Nat → Nat → Option Bool} {c : Nat} : tagIs sub (.cls c) .int = oo (sub c c) (f := ⟨fun _ => some false⟩) := by
  unfold tagIs oo
  dsimp only
  cases sub c c <;> rfl
theorem ti_c_bool {sub : Nat → Nat → Option Bool} {c : Nat} : tagIs sub (.cls c) .bool = oo (sub c c) (f := ⟨fun _ => some false⟩) := by
  unfold tagIs oo
  dsimp only
  cases sub c c <;> rfl
theorem ti_c_str {sub : Nat → Nat → Option Bool} {c : Nat} : tagIs sub (.cls c) .str = oo (sub c c) (f := ⟨fun _ => some false⟩) := by
  unfold tagIs oo
  dsimp only
  cases sub c c <;> rfl
theorem ti_c_tup {sub : Nat → Nat → Option Bool} {c : Nat} : tagIs sub (.cls c) .tup = oo (sub c c) (f := ⟨fun _ => some false⟩) := by
  unfold tagIs oo
  dsimp only
  cases sub c c <;> rfl
theorem ti_c_lst {sub : Nat → Nat → Option Bool} {c : Nat} : tagIs sub (.cls c) .lst = oo (sub c c) (f := ⟨fun _ => some false⟩) := by
  unfold tagIs oo
  dsimp only
  cases sub c c <;> rfl
theorem ti_c_dct {sub : Nat → Nat → Option Bool} {c : Nat} : tagIs sub (.cls c) .dct = oo (sub c c) (f := ⟨fun _ => some false⟩) := by
  unfold tagIs oo
  dsimp only
  cases sub c c <;> rfl
theorem ti_non_c {sub : Nat → Nat → Option Bool} {c : Nat} : tagIs sub .non (.cls c) = oo (sub c c) (f := ⟨fun _ => some false⟩) := by
  unfold tagIs oo
  dsimp only
  cases sub c c <;> rfl
theorem ti_bool_c {sub : Nat → Nat → Option Bool} {c : Nat} : tagIs sub .bool (.cls c) = oo (sub c c) (f := ⟨fun _ => some false⟩) := by
  unfold tagIs oo
  dsimp only
  cases sub c c <;> rfl
theorem ti_int_c {sub : Nat → Nat → Option Bool} {c : Nat} : tagIs sub .int (.cls c) = oo (sub c c) (f := ⟨fun _ => some false⟩) := by
  unfold tagIs oo
  dsimp only
  cases sub c c <;> rfl
theorem ti_str_c {sub : Nat → Nat → Option Bool} {c : Nat} : tagIs sub .str (.cls c) = oo (sub c c) (f := ⟨fun _ => some false⟩) := by
  unfold tagIs oo
  dsimp only
  cases sub c c <;> rfl
theorem ti_tup_c {sub : Nat → Nat → Option Bool} {c : Nat} : tagIs sub .tup (.cls c) = oo (sub c c) (f := ⟨fun _ => some false⟩) := by
  unfold tagIs oo
  dsimp only
  cases sub c c <;> rfl
theorem ti_lst_c {sub : Nat → Nat → Option Bool} {c : Nat} : tagIs sub .lst (.cls c) = oo (sub c c) (f := ⟨fun _ => some false⟩) := by
  unfold tagIs oo
  dsimp only
  cases sub c c <;> rfl
theorem ti_dct_c {sub : Nat → Nat → Option Bool} {c : Nat} : tagIs sub .dct (.cls c) = oo (sub c c) (f := ⟨fun _ => some false⟩) := by
  unfold tagIs oo
  dsimp only
  cases sub c c <;> rfl
theorem lenOk_eq {n : Nat} : lenOk n = decide (n ≤ 16777216) := (rfl)
end T
namespace T
open PySem
mutual
def D.eqb : D → D → Bool
  | .non, .non => true
  | .bl a, .bl b => a == b
  | .bl a, .int j => (if a then 1 else 0) == j
  | .int i, .bl b => i == (if b then 1 else 0)
  | .int i, .int j => i == j
  | .str x, .str y => x == y
  | .tup xs, .tup ys => D.eqbs xs ys
  | .lst xs, .lst ys => D.eqbs xs ys
  | _, _ => false
def D.eqbs : List D → List D → Bool
  | [], [] => true
  | x :: xs, y :: ys => D.eqb x y && D.eqbs xs ys
  | _, _ => false
end
-- data so deep at most
mutual
def D.eok : Nat → D → Bool
  | _, .non => true
  | _, .bl _ => true
  | _, .int _ => true
  | _, .str s => PyData.strOk s
  | 0, _ => false
  | k + 1, .tup xs => D.eoks k xs
  | k + 1, .lst xs => D.eoks k xs
  | _, _ => false
def D.eoks : Nat → List D → Bool
  | _, [] => true
  | k, x :: xs => D.eok k x && D.eoks k xs
end
mutual
theorem eok_py : ∀ {k : Nat} {d : D}, D.eok k d = true → ∃ p, d.py = some p ∧ PyData.canLay0 p = true ∧ PyData.depth p ≤ k
  | k, .non, _ => ⟨.none, by rw [D.py], by rw [PyData.canLay0], by rw [PyData.depth] <;> simp⟩
  | k, .bl b, _ => ⟨.bool b, by rw [D.py], by rw [PyData.canLay0], by rw [PyData.depth] <;> simp⟩
  | k, .int i, _ => ⟨.int i, by rw [D.py], by rw [PyData.canLay0], by rw [PyData.depth] <;> simp⟩
  | k, .str s, h => ⟨.str s, by rw [D.py], by rw [PyData.canLay0]; cases k <;> simpa [D.eok] using h, by rw [PyData.depth] <;> simp⟩
  | 0, .tup xs, h => by simp [D.eok] at h
  | 0, .lst xs, h => by simp [D.eok] at h
  | k + 1, .tup xs, h => by
    obtain ⟨ps, h1, h2, h3⟩ := eoks_py (k := k) (ds := xs) (by simpa [D.eok] using h)
    exact ⟨.tuple ps, by rw [D.py, h1], by rw [PyData.canLay0]; exact h2, by rw [PyData.depth]; omega⟩
  | k + 1, .lst xs, h => by
    obtain ⟨ps, h1, h2, h3⟩ := eoks_py (k := k) (ds := xs) (by simpa [D.eok] using h)
    exact ⟨.list ps, by rw [D.py, h1], by rw [PyData.canLay0]; exact h2, by rw [PyData.depth]; omega⟩
  | 0, .dct _ _ _, h => by simp [D.eok] at h
  | 0, .ins _ _ _, h => by simp [D.eok] at h
  | 0, .exc _ _ _, h => by simp [D.eok] at h
  | k + 1, .dct _ _ _, h => by simp [D.eok] at h
  | k + 1, .ins _ _ _, h => by simp [D.eok] at h
  | k + 1, .exc _ _ _, h => by simp [D.eok] at h
theorem eoks_py : ∀ {k : Nat} {ds : List D}, D.eoks k ds = true → ∃ ps, D.pys ds = some ps ∧ PyData.canLayAll0 ps = true ∧ PyData.depthAll ps ≤ k
  | k, [], _ => ⟨[], by rw [D.pys], by rw [PyData.canLayAll0], by rw [PyData.depthAll] <;> simp⟩
  | k, d :: ds, h => by
    have h' : D.eok k d = true ∧ D.eoks k ds = true := by simpa [D.eoks] using h
    obtain ⟨p, a1, a2, a3⟩ := eok_py h'.1
    obtain ⟨ps, b1, b2, b3⟩ := eoks_py h'.2
    refine ⟨p :: ps, by rw [D.pys, a1, b1], by rw [PyData.canLayAll0, a2, b2]; rfl, by rw [PyData.depthAll]; omega⟩
end
mutual
theorem eqb_py : ∀ {d e : D} {p q : PyData}, d.py = some p → e.py = some q → PyData.eqv p q = D.eqb d e
  | .tup xs, .tup ys, p, q, h1, h2 => by
    rw [D.py] at h1
    rw [D.py] at h2
    cases e1 : D.pys xs with
    | none => rw [e1] at h1; cases h1
    | some ps =>
      cases e2 : D.pys ys with
      | none => rw [e2] at h2; cases h2
      | some qs =>
        rw [e1] at h1; rw [e2] at h2
        cases h1; cases h2
        rw [PyData.eqv, D.eqb]
        exact eqbs_py e1 e2
  | .lst xs, .lst ys, p, q, h1, h2 => by
    rw [D.py] at h1
    rw [D.py] at h2
    cases e1 : D.pys xs with
    | none => rw [e1] at h1; cases h1
    | some ps =>
      cases e2 : D.pys ys with
      | none => rw [e2] at h2; cases h2
      | some qs =>
        rw [e1] at h1; rw [e2] at h2
        cases h1; cases h2
        rw [PyData.eqv, D.eqb]
        exact eqbs_py e1 e2
  | .tup xs, .lst ys, p, q, h1, h2 => by
    rw [D.py] at h1
    rw [D.py] at h2
    cases e1 : D.pys xs with
    | none => rw [e1] at h1; cases h1
    | some ps =>
      cases e2 : D.pys ys with
      | none => rw [e2] at h2; cases h2
      | some qs =>
        rw [e1] at h1; rw [e2] at h2
        cases h1; cases h2
        simp [PyData.eqv, D.eqb]
  | .lst xs, .tup ys, p, q, h1, h2 => by
    rw [D.py] at h1
    rw [D.py] at h2
    cases e1 : D.pys xs with
    | none => rw [e1] at h1; cases h1
    | some ps =>
      cases e2 : D.pys ys with
      | none => rw [e2] at h2; cases h2
      | some qs =>
        rw [e1] at h1; rw [e2] at h2
        cases h1; cases h2
        simp [PyData.eqv, D.eqb]
  | .non, e, p, q, h1, h2 => by
    cases e <;> simp only [D.py, Option.some.injEq, reduceCtorEq] at h1 h2 <;> first
      | (subst h1; subst h2; simp [PyData.eqv, D.eqb]; done)
      | (split at h2 <;> cases h2 <;> subst h1 <;> simp [PyData.eqv, D.eqb])
  | .bl a, e, p, q, h1, h2 => by
    cases e <;> simp only [D.py, Option.some.injEq, reduceCtorEq] at h1 h2 <;> first
      | (subst h1; subst h2; simp [PyData.eqv, D.eqb]; done)
      | (split at h2 <;> cases h2 <;> subst h1 <;> simp [PyData.eqv, D.eqb])
  | .int a, e, p, q, h1, h2 => by
    cases e <;> simp only [D.py, Option.some.injEq, reduceCtorEq] at h1 h2 <;> first
      | (subst h1; subst h2; simp [PyData.eqv, D.eqb]; done)
      | (split at h2 <;> cases h2 <;> subst h1 <;> simp [PyData.eqv, D.eqb])
  | .str a, e, p, q, h1, h2 => by
    cases e <;> simp only [D.py, Option.some.injEq, reduceCtorEq] at h1 h2 <;> first
      | (subst h1; subst h2; simp [PyData.eqv, D.eqb]; done)
      | (split at h2 <;> cases h2 <;> subst h1 <;> simp [PyData.eqv, D.eqb])
  | .tup xs, .non, p, q, h1, h2 => by
    simp only [D.py, Option.some.injEq] at h1 h2
    subst h2
    split at h1 <;> cases h1
    simp [PyData.eqv, D.eqb]
  | .tup xs, .bl _, p, q, h1, h2 => by
    simp only [D.py, Option.some.injEq] at h1 h2
    subst h2
    split at h1 <;> cases h1
    simp [PyData.eqv, D.eqb]
  | .tup xs, .int _, p, q, h1, h2 => by
    simp only [D.py, Option.some.injEq] at h1 h2
    subst h2
    split at h1 <;> cases h1
    simp [PyData.eqv, D.eqb]
  | .tup xs, .str _, p, q, h1, h2 => by
    simp only [D.py, Option.some.injEq] at h1 h2
    subst h2
    split at h1 <;> cases h1
    simp [PyData.eqv, D.eqb]
  | .lst xs, .non, p, q, h1, h2 => by
    simp only [D.py, Option.some.injEq] at h1 h2
    subst h2
    split at h1 <;> cases h1
    simp [PyData.eqv, D.eqb]
  | .lst xs, .bl _, p, q, h1, h2 => by
    simp only [D.py, Option.some.injEq] at h1 h2
    subst h2
    split at h1 <;> cases h1
    simp [PyData.eqv, D.eqb]
  | .lst xs, .int _, p, q, h1, h2 => by
    simp only [D.py, Option.some.injEq] at h1 h2
    subst h2
    split at h1 <;> cases h1
    simp [PyData.eqv, D.eqb]
  | .lst xs, .str _, p, q, h1, h2 => by
    simp only [D.py, Option.some.injEq] at h1 h2
    subst h2
    split at h1 <;> cases h1
    simp [PyData.eqv, D.eqb]
  | _, .dct _ _ _, p, q, h1, h2 => by simp [D.py] at h2
  | _, .ins _ _ _, p, q, h1, h2 => by simp [D.py] at h2
  | _, .exc _ _ _, p, q, h1, h2 => by simp [D.py] at h2
  | .dct _ _ _, _, p, q, h1, h2 => by simp [D.py] at h1
  | .ins _ _ _, _, p, q, h1, h2 => by simp [D.py] at h1
  | .exc _ _ _, _, p, q, h1, h2 => by simp [D.py] at h1
theorem eqbs_py : ∀ {ds es : List D} {ps qs : List PyData}, D.pys ds = some ps → D.pys es = some qs → PyData.eqvAll ps qs = D.eqbs ds es
  | [], [], ps, qs, h1, h2 => by
    simp only [D.pys, Option.some.injEq] at h1 h2
    subst h1; subst h2
    rw [PyData.eqvAll, D.eqbs]
  | [], e :: es, ps, qs, h1, h2 => by
    simp only [D.pys, Option.some.injEq] at h1 h2
    subst h1
    split at h2 <;> cases h2
    simp [PyData.eqvAll, D.eqbs]
  | d :: ds, [], ps, qs, h1, h2 => by
    simp only [D.pys, Option.some.injEq] at h1 h2
    subst h2
    split at h1 <;> cases h1
    simp [PyData.eqvAll, D.eqbs]
  | d :: ds, e :: es, ps, qs, h1, h2 => by
    rw [D.pys] at h1 h2
    cases a1 : d.py with
    | none => rw [a1] at h1; cases h1
    | some p =>
      cases a2 : D.pys ds with
      | none => rw [a1, a2] at h1; cases h1
      | some ps' =>
        cases b1 : e.py with
        | none => rw [b1] at h2; cases h2
        | some q =>
          cases b2 : D.pys es with
          | none => rw [b1, b2] at h2; cases h2
          | some qs' =>
            rw [a1, a2] at h1; rw [b1, b2] at h2
            cases h1; cases h2
            rw [PyData.eqvAll, D.eqbs, eqb_py a1 b1, eqbs_py a2 b2]
end
theorem eqD_eq {d e : D} (h1 : D.eok 60 d = true) (h2 : D.eok 60 e = true) : eqD d e = some (D.eqb d e) := by
  obtain ⟨p, a1, a2, a3⟩ := eok_py h1
  obtain ⟨q, b1, b2, b3⟩ := eok_py h2
  unfold eqD
  rw [a1, b1]
  have s1 : SeqAt.shaped p = true := by unfold SeqAt.shaped; rw [a2, decide_eq_true (show PyData.depth p ≤ 64 by omega)]; rfl
  have s2 : SeqAt.shaped q = true := by unfold SeqAt.shaped; rw [b2, decide_eq_true (show PyData.depth q ≤ 64 by omega)]; rfl
  dsimp only
  rw [s1, s2, eqb_py a1 b1]
  rfl
theorem eqA_eq {d e : D} (h1 : D.eok 60 d = true) (h2 : D.eok 60 e = true) : eqA d e = some (D.eqb d e) := by
  unfold eqA
  split
  · rename_i i j
    rw [D.eqb]
    by_cases h : i = j <;> simp [h]
  · rename_i s t
    rw [D.eqb]
    by_cases h : s = t <;> simp [h]
  · exact eqD_eq h1 h2
def iL (ns : List Int) : List D := ns.map .int
theorem eoks_iL {k : Nat} : ∀ {ns : List Int}, D.eoks k (iL ns) = true
  | [] => by cases k <;> simp [iL, D.eoks]
  | n :: ns => by
    have := eoks_iL (k := k) (ns := ns)
    have e : iL (n :: ns) = .int n :: iL ns := rfl
    rw [e, D.eoks, this]
    cases k <;> simp [D.eok]
theorem eqbs_iL : ∀ {a b : List Int}, D.eqbs (iL a) (iL b) = decide (a = b)
  | [], [] => by simp [iL, D.eqbs]
  | [], _ :: _ => by simp [iL, D.eqbs]
  | _ :: _, [] => by simp [iL, D.eqbs]
  | x :: a, y :: b => by
    have e1 : iL (x :: a) = .int x :: iL a := rfl
    have e2 : iL (y :: b) = .int y :: iL b := rfl
    rw [e1, e2, D.eqbs, D.eqb, eqbs_iL]
    by_cases h : x = y <;> by_cases h' : a = b <;> simp [h, h']
theorem eok_tL {k : Nat} {a : List Int} : D.eok (k + 1) (.tup (iL a)) = true := by rw [D.eok]; exact eoks_iL
theorem eok_lL {k : Nat} {a : List Int} : D.eok (k + 1) (.lst (iL a)) = true := by rw [D.eok]; exact eoks_iL
theorem eqA_tL {a b : List Int} : eqA (.tup (iL a)) (.tup (iL b)) = some (decide (a = b)) := by
  rw [eqA_eq eok_tL eok_tL, D.eqb, eqbs_iL]
theorem eqA_lL {a b : List Int} : eqA (.lst (iL a)) (.lst (iL b)) = some (decide (a = b)) := by
  rw [eqA_eq eok_lL eok_lL, D.eqb, eqbs_iL]
theorem eoks_map {α : Type} {k : Nat} {f : α → D} (h : ∀ x, D.eok k (f x) = true) : ∀ {xs : List α}, D.eoks k (xs.map f) = true
  | [] => by rw [List.map_nil, D.eoks]
  | x :: xs => by rw [List.map_cons, D.eoks, h x, eoks_map h]; rfl
theorem eqbs_map {α : Type} [DecidableEq α] {f : α → D} (h : ∀ x y, D.eqb (f x) (f y) = decide (x = y)) : ∀ {xs ys : List α}, D.eqbs (xs.map f) (ys.map f) = decide (xs = ys)
  | [], [] => by simp [D.eqbs]
  | [], _ :: _ => by simp [D.eqbs]
  | _ :: _, [] => by simp [D.eqbs]
  | x :: xs, y :: ys => by
    rw [List.map_cons, List.map_cons, D.eqbs, h, eqbs_map h]
    by_cases e : x = y <;> by_cases e' : xs = ys <;> simp [e, e']
theorem eqA_tt {xs ys : List (List Int)} : eqA (.tup (xs.map fun a => .tup (iL a))) (.tup (ys.map fun a => .tup (iL a))) = some (decide (xs = ys)) := by
  have h : ∀ {xs : List (List Int)}, D.eok 60 (.tup (xs.map fun a => .tup (iL a))) = true := by
    intro xs
    rw [D.eok]
    exact eoks_map fun _ => eok_tL
  rw [eqA_eq h h, D.eqb, eqbs_map fun x y => by rw [D.eqb, eqbs_iL]]
theorem leD_int {i j : Int} : leD (.int i) (.int j) = decide (i ≤ j) := by
  unfold leD
  have h1 := congrFun (congrFun (PySem.W.dataLe_eq (β := D) false D.pyd) (.int i)) (.int j)
  have h2 := congrFun (congrFun (PySem.W.dataLe_int (β := Int) id) i) j
  have h3 := congrFun (congrFun (PySem.W.dataLe_eq (β := Int) false (fun b => .int (id b))) i) j
  have p : ∀ i : Int, D.pyd (.int i) = .int i := fun i => by unfold D.pyd; rw [D.py]; rfl
  rw [h1]
  simp only [p]
  rw [h3] at h2
  exact h2
theorem sortOk_ints {ns : List Int} : sortOk (iL ns) = true := by
  have p : ∀ i : Int, D.pyd (.int i) = .int i := fun i => by unfold D.pyd; rw [D.py]; rfl
  unfold sortOk iL
  simp only [Bool.and_eq_true, Bool.or_eq_true, List.all_eq_true, List.mem_map]
  refine ⟨⟨?_, ?_⟩, .inr ?_⟩
  · rintro d ⟨i, _, rfl⟩
    rw [p, D.py]
    refine ⟨rfl, ?_⟩
    unfold SeqAt.shaped
    rw [PyData.canLay0, PyData.depth]
    rfl
  · rintro d ⟨i, _, rfl⟩ e ⟨j, _, rfl⟩
    rw [p, p]
    simp [PySem.W.alike]
  · rintro d ⟨i, _, rfl⟩
    rfl
theorem sortD_ints {ns : List Int} : sortD (iL ns) = iL (ns.mergeSort fun a b => decide (a ≤ b)) := by
  unfold sortD iL
  exact (List.map_mergeSort (fun a _ b _ => (leD_int (i := a) (j := b)).symm)).symm
theorem sorted_lL {ns : List Int} : sortedD (.lst (iL ns)) = some (.lst ((iL (ns.mergeSort fun a b => decide (a ≤ b))).map .pure)) := by
  unfold sortedD
  dsimp only
  rw [sortOk_ints, if_pos rfl, sortD_ints]
theorem sorted_tL {ns : List Int} : sortedD (.tup (iL ns)) = some (.lst ((iL (ns.mergeSort fun a b => decide (a ≤ b))).map .pure)) := by
  unfold sortedD
  dsimp only
  rw [sortOk_ints, if_pos rfl, sortD_ints]
theorem sort_eq {a b : List Int} (p : a.Perm b) (s : b.Pairwise (· ≤ ·)) : (a.mergeSort fun x y => decide (x ≤ y)) = b := by
  have h1 : (a.mergeSort fun x y => decide (x ≤ y)).Pairwise (· ≤ ·) := by
    have := List.pairwise_mergeSort (le := fun x y : Int => decide (x ≤ y)) (fun a b c h1 h2 => by simp at *; omega) (fun a b => by simp; omega) a
    exact this.imp fun h => by simpa using h
  exact List.Perm.eq_of_pairwise (fun a b _ _ h1 h2 => Int.le_antisymm h1 h2) h1 s ((List.mergeSort_perm a _).trans p)
end T
namespace T
open PySem
theorem feq_int {i j : Int} : D.feq (.int i) (.int j) = decide (i = j) := by
  unfold D.feq D.toV L2.eqV
  by_cases h : i = j <;> simp [h]
theorem flat_iL {ns : List Int} : (iL ns).all D.flat = true := by
  simp [iL, D.flat]
theorem inD_l {i : Int} {ns : List Int} : inD (.int i) (.lst (iL ns)) = some (decide (i ∈ ns)) := by
  unfold inD
  dsimp only
  rw [flat_iL]
  have e : (iL ns).any (fun y => y.feq (.int i)) = decide (i ∈ ns) := by
    induction ns with
    | nil => rfl
    | cons n ns ih =>
      have e1 : iL (n :: ns) = .int n :: iL ns := rfl
      rw [e1, List.any_cons, ih, feq_int]
      by_cases h : n = i
      · subst h; simp
      · have h' : ¬ i = n := fun z => h z.symm
        simp [h, h']
  rw [e]
  rfl
theorem inD_t {i : Int} {ns : List Int} : inD (.int i) (.tup (iL ns)) = some (decide (i ∈ ns)) := by
  have h := inD_l (i := i) (ns := ns)
  unfold inD at h ⊢
  exact h
theorem idxOf_ok : ∀ {ns : List Int} {i : Int} {k : Nat}, i ∈ ns → idxOf (.int i) (iL ns) k = some (k + ns.idxOf i)
  | [], i, k, h => by simp at h
  | n :: ns, i, k, h => by
    have e1 : iL (n :: ns) = .int n :: iL ns := rfl
    rw [e1, idxOf, feq_int]
    by_cases e : n = i
    · subst e
      simp
    · have h' : i ∈ ns := by
        rcases List.mem_cons.mp h with z | z
        · exact absurd z.symm e
        · exact z
      rw [decide_eq_false e, if_neg Bool.false_ne_true, idxOf_ok h']
      rw [List.idxOf_cons]
      have : (n == i) = false := by simpa using e
      rw [this]
      simp
      omega
theorem index_l {i : Int} {ns : List Int} (h : i ∈ ns) : indexD (.lst (iL ns)) (.int i) = some (.pure (.int (ns.idxOf i))) := by
  unfold indexD idxOk
  dsimp only
  rw [flat_iL, idxOf_ok h]
  simp [D.flat]
theorem index_t {i : Int} {ns : List Int} (h : i ∈ ns) : indexD (.tup (iL ns)) (.int i) = some (.pure (.int (ns.idxOf i))) := by
  unfold indexD idxOk
  dsimp only
  rw [flat_iL, idxOf_ok h]
  simp [D.flat]
def rangeI (n : Nat) : List Int := (List.range n).map fun i : Nat => (i : Int)
theorem irange_iL : ∀ {n : Nat} {lo : Int}, irange lo n = iL ((List.range n).map fun i : Nat => lo + (i : Int))
  | 0, _ => rfl
  | n + 1, lo => by
    rw [irange, irange_iL, List.range_succ_eq_map]
    unfold iL
    rw [List.map_cons, List.map_cons, List.map_map, List.map_map, List.map_map]
    congr 1
    · simp
    · refine List.map_congr_left fun i _ => ?_
      simp only [Function.comp]
      congr 1
      push_cast
      omega
theorem irange_0 {n : Nat} : irange 0 n = iL (rangeI n) := by
  rw [irange_iL]
  unfold rangeI
  congr 1
  exact List.map_congr_left fun i _ => by simp
theorem lrng_nat {n : Nat} (h : n ≤ 16777216) : lrngD (.int (n : Int)) = some (.lst ((iL (rangeI n)).map .pure)) := by
  unfold lrngD
  dsimp only
  rw [rngOk_of (by omega) (by omega), show ((n : Int)).toNat = n by omega, lenOk_of h, irange_0]
  rfl
theorem lrev_l {xs : List D} : lrevD (.lst xs) = some (.lst (xs.reverse.map .pure)) := (rfl)
theorem iL_len {ns : List Int} : (iL ns).length = ns.length := by simp [iL]
theorem iL_get {ns : List Int} {i : Nat} : (iL ns)[i]? = (ns[i]?).map .int := by simp [iL]
theorem rangeI_len {n : Nat} : (rangeI n).length = n := by simp [rangeI]
theorem rangeI_sorted {n : Nat} : (rangeI n).Pairwise (· ≤ ·) := by
  unfold rangeI
  rw [List.pairwise_map]
  exact (List.pairwise_lt_range (n := n)).imp fun h => by omega
theorem map_pure_inj : True := trivial
theorem allD_bls {bs : List Bool} : allD (.lst (bs.map .bl)) = some (.pure (.bl (bs.all id))) := by
  unfold allD
  have : blsOf (bs.map .bl) = some bs := by
    induction bs with
    | nil => rfl
    | cons b bs ih => rw [List.map_cons, blsOf, ih]
  dsimp only
  rw [this]
theorem view_lst {env : Env} {i : Nat} {os : List O} (h : env[i]? = some (some (.lst os))) : Arg.view env (.ref i []) = some (.lst (os.map O.fz)) := by
  rw [view_ref, eat_eq, h, sl_some, oo_some, run_kf, at_nil, oo_some, run_kf, fz_lst]
def mkF (C : Ctx) (c f : Nat) (as : List Arg) (env : Env) : List Bool → Oc O
  | true :: bs => callRes C bs as (makeRun C c f) env
  | _ => none
theorem makeRes_b {C : Ctx} {c f : Nat} {as : List Arg} {env : Env} : makeRes C c f as env = mkF C c f as env (C.br f) := by
  unfold makeRes mkF
  rfl
theorem mkF_t {C : Ctx} {c f : Nat} {as : List Arg} {env : Env} {bs : List Bool} : mkF C c f as env (true :: bs) = callRes C bs as (makeRun C c f) env := (rfl)
def lsK (i : Nat) : Option O → Option Nat
  | some (.lst _) => some i
  | _ => none
theorem lsK_lst {i : Nat} {os : List O} : lsK i (some (.lst os)) = some i := (rfl)
theorem lstAt_eq {C : Ctx} {env : Env} {i : Nat} : lstAt C env (.var i) = lsK i (sl env[i]?) := by
  unfold lstAt evalR
  cases h : env[i]? with
  | none => rfl
  | some x =>
    cases x with
    | none => rfl
    | some o =>
      cases o with
      | pure d => rfl
      | lst os => dsimp only [argAt]; rw [h]; rfl
      | dct _ _ _ => dsimp only [argAt]; rw [h]; rfl
      | ins _ _ _ => dsimp only [argAt]; rw [h]; rfl
def apK (i : Nat) (o : O) (env : Env) : Option O → Oc O
  | some (.lst xs) => if lenOk (xs.length + 1) = true then some (.ok (.pure .non), env.set i (some (.lst (xs ++ [o])))) else none
  | _ => none
theorem apK_lst {i : Nat} {o : O} {env : Env} {xs : List O} : apK i o env (some (.lst xs)) = if lenOk (xs.length + 1) = true then some (.ok (.pure .non), env.set i (some (.lst (xs ++ [o])))) else none := (rfl)
theorem appRun_k {i : Nat} {o : O} {env : Env} : appRun i o env = apK i o env (sl env[i]?) := by
  unfold appRun
  cases env[i]? with
  | none => rfl
  | some x =>
    cases x with
    | none => rfl
    | some o => cases o <;> rfl
def muK (m : MutK) (i : Nat) (ds : List D) (env : Env) : Option O → Oc O
  | some (.lst xs) => oo (mutD m (.lst xs) ds) (f := ⟨fun r => some (.ok r.1, env.set i (some r.2))⟩)
  | _ => none
theorem muK_lst {m : MutK} {i : Nat} {ds : List D} {env : Env} {xs : List O} : muK m i ds env (some (.lst xs)) = oo (mutD m (.lst xs) ds) (f := ⟨fun r => some (.ok r.1, env.set i (some r.2))⟩) := (rfl)
theorem mutRun_k {m : MutK} {i : Nat} {ds : List D} {env : Env} : mutRun m i ds env = muK m i ds env (sl env[i]?) := by
  unfold mutRun
  cases env[i]? with
  | none => rfl
  | some x =>
    cases x with
    | none => rfl
    | some o =>
      cases o with
      | lst xs =>
        dsimp only [sl, muK, oo]
        cases mutD m (.lst xs) ds <;> rfl
      | _ => rfl
theorem popAt_eq {xs : List O} {i : Int} : mutD .popAt (.lst xs) [.int i] = if rngOk i = true then oo (L2.ixN xs.length i) (f := ⟨fun n => oo xs[n]? (f := ⟨fun o => some (o, .lst (xs.eraseIdx n))⟩)⟩) else none := by
  unfold mutD oo
  dsimp only
  split
  · cases L2.ixN xs.length i with
    | none => rfl
    | some n =>
      dsimp only
      cases xs[n]? <;> rfl
  · rfl
theorem pop_eq {xs : List O} : mutD .pop (.lst xs) [] = oo xs[xs.length - 1]? (f := ⟨fun o => some (o, .lst (xs.eraseIdx (xs.length - 1)))⟩) := by
  unfold mutD oo
  dsimp only
  cases xs[xs.length - 1]? <;> rfl
theorem lfs_iL {ns : List Int} : D.lfs (iL ns) = true := lfs_ints
theorem iL_rev {ns : List Int} : (iL ns).reverse = iL ns.reverse := by
  unfold iL
  rw [List.map_reverse]
end T
set_option maxRecDepth 100000
namespace M75
open T
def picks : Nat → List Int → List (List Int)
  | 0, _ => [[]]
  | n + 1, left => (List.range left.length).flatMap fun i => match left[i]? with
    | some x => (picks n (left.eraseIdx i)).map (x :: ·)
    | none => []
def allOrd (c : Nat) : List (List Int) := picks c (rangeI c)
theorem picks_mem {n : Nat} {left : List Int} {i : Nat} {x : Int} {p : List Int} (h : left[i]? = some x) (hp : p ∈ picks n (left.eraseIdx i)) : x :: p ∈ picks (n + 1) left := by
  unfold picks
  rw [List.mem_flatMap]
  refine ⟨i, List.mem_range.mpr (List.getElem?_eq_some_iff.mp h).1, ?_⟩
  rw [h]
  exact List.mem_map.mpr ⟨p, hp, rfl⟩
def riseI (l : List Int) : Nat := 1 + (((List.range (l.length - 1)).map fun i : Nat => 1 + (i : Int)).filter fun c => decide (l.idxOf c < l.idxOf (c - 1))).length
def walkI (l : List Int) (w : Int) : Int := l.foldl (fun w c => if c = w then w + 1 else w) w
def lawR (l : List Int) : Nat → Int × Int
  | 0 => (0, 0)
  | i + 1 => if (lawR l i).1 < l.length then (walkI l (lawR l i).1, (lawR l i).2 + 1) else lawR l i
def getI (l : List Int) (p : Int) : Int := l.getD p.toNat 0
def comp (a b : List Int) : List Int := b.map (getI a)
def backI (l : List Int) : List Int := (rangeI l.length).map fun c => (l.idxOf c : Int)
def okL (c : Nat) (l : List Int) : Bool := decide (l.length = c) && l.isPerm (rangeI c) && decide ((lawR l 5).2 = riseI l) && decide (riseI l ≤ c) && (backI l).isPerm (rangeI c) && decide (comp l (backI l) = rangeI c) && decide (comp (backI l) l = rangeI c) && decide (comp l (rangeI c) = l)
theorem all_ok : [1, 2, 3, 4, 5].all (fun c => (allOrd c).all (okL c)) = true := by decide +kernel
structure Ord (c : Nat) (l : List Int) : Prop where
  len : l.length = c
  perm : l.Perm (rangeI c)
  c1 : 1 ≤ c
  c5 : c ≤ 5
structure OrdM (c : Nat) (l : List Int) : Prop extends Ord c l where
  law : (lawR l 5).2 = riseI l
  rle : riseI l ≤ c
  bperm : (backI l).Perm (rangeI c)
  cb : comp l (backI l) = rangeI c
  bc : comp (backI l) l = rangeI c
  cr : comp l (rangeI c) = l
theorem ordM {c : Nat} (h1 : 1 ≤ c) (h5 : c ≤ 5) {l : List Int} (h : l ∈ allOrd c) : OrdM c l := by
  have hc : c ∈ [1, 2, 3, 4, 5] := by
    have : c = 1 ∨ c = 2 ∨ c = 3 ∨ c = 4 ∨ c = 5 := by omega
    rcases this with rfl | rfl | rfl | rfl | rfl <;> simp
  have h := List.all_eq_true.mp (List.all_eq_true.mp all_ok c hc) l h
  unfold okL at h
  simp only [Bool.and_eq_true, decide_eq_true_eq, List.isPerm_iff] at h
  obtain ⟨⟨⟨⟨⟨⟨⟨a1, a2⟩, a3⟩, a4⟩, a5⟩, a6⟩, a7⟩, a8⟩ := h
  exact ⟨⟨a1, a2, h1, h5⟩, a3, a4, a5, a6, a7, a8⟩
theorem Ord.rng {c : Nat} {l : List Int} (o : Ord c l) {x : Int} (h : x ∈ l) : 0 ≤ x ∧ x < c := by
  have := o.perm.mem_iff.mp h
  unfold rangeI at this
  rw [List.mem_map] at this
  obtain ⟨i, hi, rfl⟩ := this
  have := List.mem_range.mp hi
  omega
theorem Ord.mem {c : Nat} {l : List Int} (o : Ord c l) {x : Int} (h0 : 0 ≤ x) (h1 : x < c) : x ∈ l := by
  refine o.perm.mem_iff.mpr ?_
  unfold rangeI
  rw [List.mem_map]
  exact ⟨x.toNat, List.mem_range.mpr (by omega), by omega⟩
theorem comp_ord {c : Nat} {a b : List Int} (o1 : OrdM c a) (o2 : Ord c b) : Ord c (comp a b) := by
  refine ⟨by unfold comp; rw [List.length_map, o2.len], ?_, o2.c1, o2.c5⟩
  have h1 : (comp a b).Perm (comp a (rangeI c)) := o2.perm.map _
  rw [o1.cr] at h1
  exact h1.trans o1.perm
theorem getI_get {l : List Int} {p : Int} (h0 : 0 ≤ p) (h1 : p < l.length) : l[p.toNat]? = some (getI l p) := by
  unfold getI
  rw [List.getD_eq_getElem?_getD, List.getElem?_eq_getElem (by omega)]
  rfl
theorem comp_comp {c : Nat} {a b d : List Int} (o2 : Ord c b) (o3 : Ord c d) : comp a (comp b d) = d.map (getI (comp a b)) := by
  unfold comp
  rw [List.map_map]
  refine List.map_congr_left fun p hp => ?_
  obtain ⟨h0, h1⟩ := o3.rng hp
  have hb := getI_get (l := b) h0 (by rw [o2.len]; exact h1)
  simp only [Function.comp]
  have : (List.map (getI a) b)[p.toNat]? = some (getI a (getI b p)) := by rw [List.getElem?_map, hb]; rfl
  have e := getI_get (l := List.map (getI a) b) h0 (by rw [List.length_map, o2.len]; exact h1)
  rw [this] at e
  exact Option.some.inj e
/-- as the program reckons it; n is above -/
def waysI (n k : Int) : Nat → Int
  | 0 => 1
  | i + 1 => (waysI n k i * (n - k + (1 + (i : Nat)))).fdiv (1 + (i : Nat))
def chO (above : Int) : Nat → Int
  | 0 => 1
  | i + 1 => chO above i * max 0 (above - i)
def chU : Nat → Int
  | 0 => 1
  | i + 1 => chU i * (i + 1)
def chI (above : Int) (c : Nat) : Int := (chO above c).fdiv (chU c)
def wN (c p r : Nat) : Nat := (chI ((p : Int) + c - r) c).toNat
def cards : List Nat := [1, 2, 3, 4, 5]
def shOk (c p r : Nat) : Bool := decide (chI ((p : Int) + c - r) c = (wN c p r : Int)) && decide ((if (c : Int) > (p : Int) + c - r then 0 else waysI ((p : Int) + c - r) c c) = (wN c p r : Int)) && decide (wN c p r < 1000000000000000)
theorem sh_ok : cards.all (fun c => (List.range 40).all fun p => (List.range 5).all fun r => if r + 1 ≤ c then shOk c (p + 1) (r + 1) else true) = true := by decide +kernel
theorem sh_of {c p r : Nat} (c1 : 1 ≤ c) (c5 : c ≤ 5) (p1 : 1 ≤ p) (p40 : p ≤ 40) (r1 : 1 ≤ r) (rc : r ≤ c) : chI ((p : Int) + c - r) c = (wN c p r : Int) ∧ (if (c : Int) > (p : Int) + c - r then 0 else waysI ((p : Int) + c - r) c c) = (wN c p r : Int) ∧ wN c p r < 1000000000000000 := by
  have hc : c ∈ cards := by
    have : c = 1 ∨ c = 2 ∨ c = 3 ∨ c = 4 ∨ c = 5 := by omega
    rcases this with rfl | rfl | rfl | rfl | rfl <;> simp [cards]
  have h := List.all_eq_true.mp (List.all_eq_true.mp (List.all_eq_true.mp sh_ok c hc) (p - 1) (List.mem_range.mpr (by omega))) (r - 1) (List.mem_range.mpr (by omega))
  rw [show p - 1 + 1 = p by omega, show r - 1 + 1 = r by omega, if_pos rc] at h
  unfold shOk at h
  simp only [Bool.and_eq_true, decide_eq_true_eq] at h
  exact ⟨h.1.1, h.1.2, h.2⟩
def sumL (c p : Nat) (ls : List (List Int)) : Nat := (ls.map fun l => wN c p (riseI l)).sum
theorem sum_ok : cards.all (fun c => (List.range 40).all fun p => decide (sumL c (p + 1) (allOrd c) = (p + 1) ^ c)) = true := by decide +kernel
theorem sum_of {c p : Nat} (c1 : 1 ≤ c) (c5 : c ≤ 5) (p1 : 1 ≤ p) (p40 : p ≤ 40) : sumL c p (allOrd c) = p ^ c := by
  have hc : c ∈ cards := by
    have : c = 1 ∨ c = 2 ∨ c = 3 ∨ c = 4 ∨ c = 5 := by omega
    rcases this with rfl | rfl | rfl | rfl | rfl <;> simp [cards]
  have h := List.all_eq_true.mp (List.all_eq_true.mp sum_ok c hc) (p - 1) (List.mem_range.mpr (by omega))
  rw [show p - 1 + 1 = p by omega] at h
  simpa using h
theorem rise1 (l : List Int) : 1 ≤ riseI l := by unfold riseI; omega
end M75
set_option maxRecDepth 100000
namespace K75
open PySem T
def top (i : Nat) : Stmt := PySem.Challenge.pw_sourcestold_k75_rising_rows.main.body.getD i (.Pass ⟨0, 0, 0, 0⟩)
def inC (s : Stmt) (j : Nat) : Stmt := match s with
  | .ClassDef _ _ _ b _ _ _ _ _ _ _ => b.getD j (.Pass ⟨0, 0, 0, 0⟩)
  | _ => .Pass ⟨0, 0, 0, 0⟩
def b_law_start : Ss := (.cons (.ret (.lsn (.cons (.op .lstof (.cons (.rd (.var 0)) .nil)) (.cons (.rd (.con (.int 0))) (.cons (.rd (.con (.int 0))) (.cons (.rd (.con (.int 0))) (.cons (.rd (.con (.int 7))) .nil)))))))
  .nil)
def t_law_start : Def := ⟨1, 1, b_law_start⟩
def d_law_start : DP := ⟨("_law_start", none), "_law_start", "_law_start", L2.defArgs (top 32), L2.defBody (top 32), L2.defScope (top 32), ["script"], ["script"], [false], t_law_start⟩
def b_law_draw : Ss := (.cons (.asg (.nm 1) (.op .max2 (.cons (.rd (.con (.int 1))) (.cons (.rd (.var 1)) .nil))))
  (.cons (.ife (.and (.op .eq (.cons (.rd (.idx (.var 0) (.con (.int 3)))) (.cons (.rd (.con (.int 0))) .nil))) (.op .lt (.cons (.rd (.idx (.var 0) (.con (.int 1)))) (.cons (.op .len (.cons (.rd (.idx (.var 0) (.con (.int 0)))) .nil)) .nil))))
  (.cons (.asg (.nm 2) (.op .abs (.cons (.op .int1 (.cons (.rd (.idx (.idx (.var 0) (.con (.int 0))) (.idx (.var 0) (.con (.int 1))))) .nil)) .nil)))
  (.cons (.sti (.var 0) (.rd (.con (.int 1))) (.op .add (.cons (.rd (.idx (.var 0) (.con (.int 1)))) (.cons (.rd (.con (.int 1))) .nil))))
  (.cons (.sti (.var 0) (.rd (.con (.int 3))) (.rd (.con (.int 4))))
  (.cons (.ife (.op .ge (.cons (.rd (.var 2)) (.cons (.op .pow (.cons (.rd (.con (.int 10))) (.cons (.rd (.con (.int 18))) .nil))) .nil)))
  (.cons (.sti (.var 0) (.rd (.con (.int 2))) (.rd (.var 2)))
  (.cons (.sti (.var 0) (.rd (.con (.int 3))) (.rd (.con (.int 60))))
  .nil))
  (.cons (.sti (.var 0) (.rd (.con (.int 4))) (.op .mod (.cons (.op .int1 (.cons (.op .add (.cons (.op .add (.cons (.op .mul (.cons (.rd (.idx (.var 0) (.con (.int 4)))) (.cons (.rd (.con (.int 48271))) .nil))) (.cons (.rd (.var 2)) .nil))) (.cons (.rd (.idx (.var 0) (.con (.int 1)))) .nil))) .nil)) (.cons (.rd (.con (.int 2147483647))) .nil))))
  .nil))
  .nil))))
  .nil)
  (.cons (.ife (.op .gt (.cons (.rd (.idx (.var 0) (.con (.int 2)))) (.cons (.rd (.con (.int 0))) .nil)))
  (.cons (.asg (.nm 3) (.op .mod (.cons (.op .int1 (.cons (.rd (.idx (.var 0) (.con (.int 2)))) .nil)) (.cons (.rd (.var 1)) .nil))))
  (.cons (.sti (.var 0) (.rd (.con (.int 2))) (.op .fdiv (.cons (.rd (.idx (.var 0) (.con (.int 2)))) (.cons (.rd (.var 1)) .nil))))
  (.cons (.sti (.var 0) (.rd (.con (.int 3))) (.op .sub (.cons (.rd (.idx (.var 0) (.con (.int 3)))) (.cons (.rd (.con (.int 1))) .nil))))
  (.cons (.ife (.or (.op .eq (.cons (.rd (.idx (.var 0) (.con (.int 2)))) (.cons (.rd (.con (.int 0))) .nil))) (.op .eq (.cons (.rd (.idx (.var 0) (.con (.int 3)))) (.cons (.rd (.con (.int 0))) .nil))))
  (.cons (.sti (.var 0) (.rd (.con (.int 2))) (.rd (.con (.int 0))))
  (.cons (.sti (.var 0) (.rd (.con (.int 3))) (.rd (.con (.int 0))))
  .nil))
  .nil)
  (.cons (.retf (.rd (.var 3)))
  .nil)))))
  .nil)
  (.cons (.sti (.var 0) (.rd (.con (.int 3))) (.op .max2 (.cons (.rd (.con (.int 0))) (.cons (.op .sub (.cons (.rd (.idx (.var 0) (.con (.int 3)))) (.cons (.rd (.con (.int 1))) .nil))) .nil))))
  (.cons (.sti (.var 0) (.rd (.con (.int 4))) (.op .mod (.cons (.op .int1 (.cons (.op .add (.cons (.op .mul (.cons (.rd (.idx (.var 0) (.con (.int 4)))) (.cons (.rd (.con (.int 48271))) .nil))) (.cons (.rd (.con (.int 12345))) .nil))) .nil)) (.cons (.rd (.con (.int 2147483647))) .nil))))
  (.cons (.retf (.op .mod (.cons (.op .int1 (.cons (.op .mod (.cons (.op .int1 (.cons (.op .add (.cons (.op .mul (.cons (.rd (.idx (.var 0) (.con (.int 4)))) (.cons (.rd (.con (.int 40692))) .nil))) (.cons (.rd (.con (.int 3791))) .nil))) .nil)) (.cons (.rd (.con (.int 2147483399))) .nil))) .nil)) (.cons (.rd (.var 1)) .nil))))
  .nil))))))
def t_law_draw : Def := ⟨4, 2, b_law_draw⟩
def d_law_draw : DP := ⟨("_law_draw", none), "_law_draw", "_law_draw", L2.defArgs (top 33), L2.defBody (top 33), L2.defScope (top 33), ["state", "limit", "cell", "got"], ["state", "limit"], [true, false], t_law_draw⟩
def e0_law_all : E := (.op .add (.cons (.rd (.var 4)) (.cons (.lsn (.cons (.rd (.var 5)) .nil)) .nil)))
def c0_law_all : Es := (.cons (.op .nin (.cons (.rd (.var 5)) (.cons (.rd (.var 4)) .nil))) .nil)
def f1_law_all : Ss := (.cons (.asg (.nm 3) (.op .add (.cons (.rd (.var 3)) (.cons (.lc e0_law_all (.nm 5) .rng1 (.cons (.rd (.var 0)) .nil) c0_law_all [5]) .nil))))
  .nil)
def f0_law_all : Ss := (.cons (.asg (.nm 3) (.lsn .nil))
  (.cons (.for_ (.nm 4) .seq (.cons (.rd (.var 1)) .nil) f1_law_all)
  (.cons (.asg (.nm 1) (.rd (.var 3)))
  .nil)))
def b_law_all : Ss := (.cons (.asg (.nm 1) (.lsn (.cons (.lsn .nil) .nil)))
  (.cons (.for_ (.nm 2) .rng1 (.cons (.rd (.var 0)) .nil) f0_law_all)
  (.cons (.retf (.rd (.var 1)))
  .nil)))
def t_law_all : Def := ⟨6, 1, b_law_all⟩
def d_law_all : DP := ⟨("_law_all", none), "_law_all", "_law_all", L2.defArgs (top 38), L2.defBody (top 38), L2.defScope (top 38), ["cards", "rows", "place", "longer", "row", "card"], ["cards"], [false], t_law_all⟩
def b_is_integer : Ss := (.cons (.retf (.and (.op (.isi [.int]) (.cons (.rd (.var 0)) .nil)) (.op .not (.cons (.op (.isi [.bool]) (.cons (.rd (.var 0)) .nil)) .nil))))
  .nil)
def t_is_integer : Def := ⟨1, 1, b_is_integer⟩
def d_is_integer : DP := ⟨("is_integer", none), "is_integer", "is_integer", L2.defArgs (top 12), L2.defBody (top 12), L2.defScope (top 12), ["told"], ["told"], [false], t_is_integer⟩
def b_integer_within : Ss := (.cons (.retf (.and (.call 3 (.cons (.rd (.var 0)) .nil)) (.and (.op .le (.cons (.rd (.var 1)) (.cons (.rd (.var 0)) .nil))) (.or (.op .is (.cons (.rd (.var 2)) (.cons (.rd (.con .non)) .nil))) (.op .le (.cons (.rd (.var 0)) (.cons (.rd (.var 2)) .nil)))))))
  .nil)
def t_integer_within : Def := ⟨3, 3, b_integer_within⟩
def d_integer_within : DP := ⟨("integer_within", none), "integer_within", "integer_within", L2.defArgs (top 13), L2.defBody (top 13), L2.defScope (top 13), ["told", "least", "most"], ["told", "least", "most"], [false, false, false], t_integer_within⟩
def b_check_number : Ss := (.cons (.ife (.op .not (.cons (.call 4 (.cons (.rd (.var 0)) (.cons (.rd (.var 1)) (.cons (.rd (.var 2)) .nil)))) .nil))
  (.cons (.rai 1 (.cons (.rd (.var 0)) .nil))
  .nil)
  .nil)
  .nil)
def t_check_number : Def := ⟨3, 3, b_check_number⟩
def d_check_number : DP := ⟨("check_number", none), "check_number", "check_number", L2.defArgs (top 16), L2.defBody (top 16), L2.defScope (top 16), ["number", "least", "most"], ["number", "least", "most"], [false, false, false], t_check_number⟩
def e0_orders : E := (.op .add (.cons (.rd (.var 3)) (.cons (.op .tup (.cons (.rd (.var 4)) .nil)) .nil)))
def i0_orders : Es := (.cons (.rd (.var 0)) .nil)
def c0_orders : Es := (.cons (.op .nin (.cons (.rd (.var 4)) (.cons (.rd (.var 3)) .nil))) .nil)
def f0_orders : Ss := (.cons (.asg (.nm 1) (.lc2 e0_orders (.nm 3) .seq (.cons (.rd (.var 1)) .nil) .nil (.nm 4) .rng1 i0_orders c0_orders [3, 4] [4]))
  .nil)
def b_orders : Ss := (.cons (.exp (.call 5 (.cons (.rd (.var 0)) (.cons (.rd (.con (.int 1))) (.cons (.rd (.glb 0)) .nil)))))
  (.cons (.asg (.nm 1) (.lsn (.cons (.op .tup .nil) .nil)))
  (.cons (.for_ (.nm 2) .rng1 (.cons (.rd (.var 0)) .nil) f0_orders)
  (.cons (.retf (.op .tupof (.cons (.rd (.var 1)) .nil)))
  .nil))))
def t_orders : Def := ⟨5, 1, b_orders⟩
def d_orders : DP := ⟨("orders", none), "orders", "orders", L2.defArgs (top 20), L2.defBody (top 20), L2.defScope (top 20), ["cards", "found", "_", "order", "card"], ["cards"], [false], t_orders⟩
def b_check_riffle : Ss := (.cons (.exp (.call 5 (.cons (.rd (.var 0)) (.cons (.rd (.con (.int 1))) (.cons (.rd (.glb 0)) .nil)))))
  (.cons (.exp (.call 5 (.cons (.rd (.var 1)) (.cons (.rd (.con (.int 1))) (.cons (.rd (.glb 1)) .nil)))))
  .nil))
def t_check_riffle : Def := ⟨2, 2, b_check_riffle⟩
def d_check_riffle : DP := ⟨("_check_riffle", none), "_check_riffle", "_check_riffle", L2.defArgs (top 25), L2.defBody (top 25), L2.defScope (top 25), ["cards", "packs"], ["cards", "packs"], [false, false], t_check_riffle⟩
def w0_greatest_divisor : Ss := (.cons (.par 0 1 (.rd (.var 1)) (.op .mod (.cons (.rd (.var 0)) (.cons (.rd (.var 1)) .nil))))
  .nil)
def b_greatest_divisor : Ss := (.cons (.whl (.op .gt (.cons (.rd (.var 1)) (.cons (.rd (.con (.int 0))) .nil))) w0_greatest_divisor)
  (.cons (.retf (.rd (.var 0)))
  .nil))
def t_greatest_divisor : Def := ⟨2, 2, b_greatest_divisor⟩
def d_greatest_divisor : DP := ⟨("greatest_divisor", none), "greatest_divisor", "greatest_divisor", L2.defArgs (top 6), L2.defBody (top 6), L2.defScope (top 6), ["a", "b"], ["a", "b"], [false, false], t_greatest_divisor⟩
def b_Share_init : Ss := (.cons (.ife (.op .eq (.cons (.rd (.var 2)) (.cons (.rd (.con (.int 0))) .nil)))
  (.cons (.rai 1 (.cons (.rd (.var 2)) .nil))
  .nil)
  .nil)
  (.cons (.asg (.nm 3) (.call 8 (.cons (.op .abs (.cons (.rd (.var 1)) .nil)) (.cons (.op .abs (.cons (.rd (.var 2)) .nil)) .nil))))
  (.cons (.ife (.op .lt (.cons (.rd (.var 2)) (.cons (.rd (.con (.int 0))) .nil)))
  (.cons (.asg (.nm 3) (.op .neg (.cons (.rd (.var 3)) .nil)))
  .nil)
  .nil)
  (.cons (.stf (.var 0) 0 (.op .fdiv (.cons (.rd (.var 1)) (.cons (.rd (.var 3)) .nil))))
  (.cons (.stf (.var 0) 1 (.op .fdiv (.cons (.rd (.var 2)) (.cons (.rd (.var 3)) .nil))))
  .nil)))))
def t_Share_init : Def := ⟨4, 3, b_Share_init⟩
def d_Share_init : DP := ⟨("Share", some "__init__"), "__init__", "Share.__init__", L2.defArgs (inC (top 10) 0), L2.defBody (inC (top 10) 0), L2.defScope (inC (top 10) 0), ["self", "over", "under", "divisor"], ["self", "over", "under"], [true, false, false], t_Share_init⟩
def f0_ways : Ss := (.cons (.asg (.nm 2) (.op .fdiv (.cons (.op .mul (.cons (.rd (.var 2)) (.cons (.op .add (.cons (.op .sub (.cons (.rd (.var 0)) (.cons (.rd (.var 1)) .nil))) (.cons (.rd (.var 3)) .nil))) .nil))) (.cons (.rd (.var 3)) .nil))))
  .nil)
def b_ways : Ss := (.cons (.ife (.or (.op .lt (.cons (.rd (.var 1)) (.cons (.rd (.con (.int 0))) .nil))) (.op .gt (.cons (.rd (.var 1)) (.cons (.rd (.var 0)) .nil))))
  (.cons (.ret (.rd (.con (.int 0))))
  .nil)
  .nil)
  (.cons (.asg (.nm 2) (.rd (.con (.int 1))))
  (.cons (.for_ (.nm 3) .rng2 (.cons (.rd (.con (.int 1))) (.cons (.op .add (.cons (.rd (.var 1)) (.cons (.rd (.con (.int 1))) .nil))) .nil)) f0_ways)
  (.cons (.retf (.rd (.var 2)))
  .nil))))
def t_ways : Def := ⟨4, 2, b_ways⟩
def d_ways : DP := ⟨("ways", none), "ways", "ways", L2.defArgs (top 8), L2.defBody (top 8), L2.defScope (top 8), ["n", "k", "found", "taken"], ["n", "k"], [false, false], t_ways⟩
def f0_power : Ss := (.cons (.asg (.nm 2) (.op .mul (.cons (.rd (.var 2)) (.cons (.rd (.var 0)) .nil))))
  .nil)
def b_power : Ss := (.cons (.asg (.nm 2) (.rd (.con (.int 1))))
  (.cons (.for_ (.nm 3) .rng1 (.cons (.rd (.var 1)) .nil) f0_power)
  (.cons (.retf (.rd (.var 2)))
  .nil)))
def t_power : Def := ⟨4, 2, b_power⟩
def d_power : DP := ⟨("power", none), "power", "power", L2.defArgs (top 7), L2.defBody (top 7), L2.defScope (top 7), ["a", "n", "found", "_"], ["a", "n"], [false, false], t_power⟩
def b_share_by_rows : Ss := (.cons (.retf (.mk 2 (.cons (.call 10 (.cons (.op .sub (.cons (.op .add (.cons (.rd (.var 2)) (.cons (.rd (.var 0)) .nil))) (.cons (.rd (.var 1)) .nil))) (.cons (.rd (.var 0)) .nil))) (.cons (.call 11 (.cons (.rd (.var 2)) (.cons (.rd (.var 0)) .nil))) .nil))))
  .nil)
def t_share_by_rows : Def := ⟨3, 3, b_share_by_rows⟩
def d_share_by_rows : DP := ⟨("_share_by_rows", none), "_share_by_rows", "_share_by_rows", L2.defArgs (top 23), L2.defBody (top 23), L2.defScope (top 23), ["cards", "rows", "packs"], ["cards", "rows", "packs"], [false, false, false], t_share_by_rows⟩
def b_is_sequence : Ss := (.cons (.retf (.op (.isi [.tup, .lst]) (.cons (.rd (.var 0)) .nil)))
  .nil)
def t_is_sequence : Def := ⟨1, 1, b_is_sequence⟩
def d_is_sequence : DP := ⟨("is_sequence", none), "is_sequence", "is_sequence", L2.defArgs (top 14), L2.defBody (top 14), L2.defScope (top 14), ["told"], ["told"], [false], t_is_sequence⟩
def e0_check_order : E := (.call 3 (.cons (.rd (.var 1)) .nil))
def b_check_order : Ss := (.cons (.ife (.or (.op .not (.cons (.call 13 (.cons (.rd (.var 0)) .nil)) .nil)) (.op .not (.cons (.chn .le .le (.rd (.con (.int 1))) (.op .len (.cons (.rd (.var 0)) .nil)) (.rd (.glb 0))) .nil)))
  (.cons (.rai 3 (.cons (.rd (.var 0)) .nil))
  .nil)
  .nil)
  (.cons (.ife (.or (.op .not (.cons (.op .all (.cons (.lc e0_check_order (.nm 1) .seq (.cons (.rd (.var 0)) .nil) .nil [1]) .nil)) .nil)) (.op .ne (.cons (.op .sorted (.cons (.rd (.var 0)) .nil)) (.cons (.op .lrng (.cons (.op .len (.cons (.rd (.var 0)) .nil)) .nil)) .nil))))
  (.cons (.rai 3 (.cons (.rd (.var 0)) .nil))
  .nil)
  .nil)
  .nil))
def t_check_order : Def := ⟨2, 1, b_check_order⟩
def d_check_order : DP := ⟨("_check_order", none), "_check_order", "_check_order", L2.defArgs (top 21), L2.defBody (top 21), L2.defScope (top 21), ["order", "card"], ["order"], [false], t_check_order⟩
def e0_rising : E := (.rd (.var 1))
def c0_rising : Es := (.cons (.op .lt (.cons (.bmt .index (.rd (.var 0)) (.cons (.rd (.var 1)) .nil)) (.cons (.bmt .index (.rd (.var 0)) (.cons (.op .sub (.cons (.rd (.var 1)) (.cons (.rd (.con (.int 1))) .nil))) .nil)) .nil))) .nil)
def b_rising : Ss := (.cons (.exp (.call 14 (.cons (.rd (.var 0)) .nil)))
  (.cons (.retf (.op .add (.cons (.rd (.con (.int 1))) (.cons (.op .len (.cons (.lc e0_rising (.nm 1) .rng2 (.cons (.rd (.con (.int 1))) (.cons (.op .len (.cons (.rd (.var 0)) .nil)) .nil)) c0_rising [1]) .nil)) .nil))))
  .nil))
def t_rising : Def := ⟨2, 1, b_rising⟩
def d_rising : DP := ⟨("rising", none), "rising", "rising", L2.defArgs (top 22), L2.defBody (top 22), L2.defScope (top 22), ["order", "card"], ["order"], [false], t_rising⟩
def e0_riffled : E := (.op .tup (.cons (.rd (.var 2)) (.cons (.call 12 (.cons (.rd (.var 0)) (.cons (.call 15 (.cons (.rd (.var 2)) .nil)) (.cons (.rd (.var 1)) .nil)))) .nil)))
def b_riffled : Ss := (.cons (.retf (.op .tupof (.cons (.lc e0_riffled (.nm 2) .seq (.cons (.call 6 (.cons (.rd (.var 0)) .nil)) .nil) .nil [2]) .nil)))
  .nil)
def t_riffled : Def := ⟨3, 2, b_riffled⟩
def d_riffled : DP := ⟨("_riffled", none), "_riffled", "_riffled", L2.defArgs (top 26), L2.defBody (top 26), L2.defScope (top 26), ["cards", "packs", "order"], ["cards", "packs"], [false, false], t_riffled⟩
def b_riffle_table : Ss := (.cons (.exp (.call 7 (.cons (.rd (.var 0)) (.cons (.rd (.var 1)) .nil))))
  (.cons (.retf (.call 16 (.cons (.rd (.var 0)) (.cons (.rd (.var 1)) .nil))))
  .nil))
def t_riffle_table : Def := ⟨2, 2, b_riffle_table⟩
def d_riffle_table : DP := ⟨("riffle_table", none), "riffle_table", "riffle_table", L2.defArgs (top 27), L2.defBody (top 27), L2.defScope (top 27), ["cards", "packs"], ["cards", "packs"], [false, false], t_riffle_table⟩
def f0_law_power : Ss := (.cons (.asg (.nm 2) (.op .mul (.cons (.rd (.var 2)) (.cons (.rd (.var 0)) .nil))))
  .nil)
def b_law_power : Ss := (.cons (.asg (.nm 2) (.rd (.con (.int 1))))
  (.cons (.for_ (.nm 3) .rng1 (.cons (.rd (.var 1)) .nil) f0_law_power)
  (.cons (.retf (.rd (.var 2)))
  .nil)))
def t_law_power : Def := ⟨4, 2, b_law_power⟩
def d_law_power : DP := ⟨("_law_power", none), "_law_power", "_law_power", L2.defArgs (top 39), L2.defBody (top 39), L2.defScope (top 39), ["packs", "cards", "power_v", "k"], ["packs", "cards"], [false, false], t_law_power⟩
def f0_law_choose : Ss := (.cons (.asg (.nm 2) (.op .mul (.cons (.rd (.var 2)) (.cons (.op .max2 (.cons (.rd (.con (.int 0))) (.cons (.op .sub (.cons (.rd (.var 0)) (.cons (.rd (.var 4)) .nil))) .nil))) .nil))))
  (.cons (.asg (.nm 3) (.op .mul (.cons (.rd (.var 3)) (.cons (.op .add (.cons (.rd (.var 4)) (.cons (.rd (.con (.int 1))) .nil))) .nil))))
  .nil))
def b_law_choose : Ss := (.cons (.asg (.nm 2) (.rd (.con (.int 1))))
  (.cons (.asg (.nm 3) (.rd (.con (.int 1))))
  (.cons (.for_ (.nm 4) .rng1 (.cons (.rd (.var 1)) .nil) f0_law_choose)
  (.cons (.retf (.op .fdiv (.cons (.rd (.var 2)) (.cons (.rd (.var 3)) .nil))))
  .nil))))
def t_law_choose : Def := ⟨5, 2, b_law_choose⟩
def d_law_choose : DP := ⟨("_law_choose", none), "_law_choose", "_law_choose", L2.defArgs (top 37), L2.defBody (top 37), L2.defScope (top 37), ["above", "many", "over", "under", "k"], ["above", "many"], [false, false], t_law_choose⟩
def f1_law_rising : Ss := (.cons (.ife (.op .eq (.cons (.rd (.var 4)) (.cons (.rd (.var 1)) .nil)))
  (.cons (.asg (.nm 1) (.op .add (.cons (.rd (.var 1)) (.cons (.rd (.con (.int 1))) .nil))))
  .nil)
  .nil)
  .nil)
def f0_law_rising : Ss := (.cons (.ife (.op .lt (.cons (.rd (.var 1)) (.cons (.op .len (.cons (.rd (.var 0)) .nil)) .nil)))
  (.cons (.asg (.nm 2) (.op .add (.cons (.rd (.var 2)) (.cons (.rd (.con (.int 1))) .nil))))
  (.cons (.for_ (.nm 4) .seq (.cons (.rd (.var 0)) .nil) f1_law_rising)
  .nil))
  .nil)
  .nil)
def b_law_rising : Ss := (.cons (.asg (.nm 1) (.rd (.con (.int 0))))
  (.cons (.asg (.nm 2) (.rd (.con (.int 0))))
  (.cons (.for_ (.nm 3) .rng1 (.cons (.rd (.con (.int 5))) .nil) f0_law_rising)
  (.cons (.retf (.rd (.var 2)))
  .nil))))
def t_law_rising : Def := ⟨5, 1, b_law_rising⟩
def d_law_rising : DP := ⟨("_law_rising", none), "_law_rising", "_law_rising", L2.defArgs (top 36), L2.defBody (top 36), L2.defScope (top 36), ["order", "wanted", "walks", "k", "card"], ["order"], [false], t_law_rising⟩
def f0_law_gcd : Ss := (.cons (.ife (.op .eq (.cons (.rd (.var 1)) (.cons (.rd (.con (.int 0))) .nil)))
  (.cons (.retf (.rd (.var 0)))
  .nil)
  .nil)
  (.cons (.par 0 1 (.rd (.var 1)) (.op .mod (.cons (.op .int1 (.cons (.rd (.var 0)) .nil)) (.cons (.rd (.var 1)) .nil))))
  .nil))
def b_law_gcd : Ss := (.cons (.for_ (.nm 2) .rng1 (.cons (.op .add (.cons (.op .mul (.cons (.rd (.con (.int 2))) (.cons (.op .add (.cons (.bmt .bitl (.rd (.var 0)) .nil) (.cons (.bmt .bitl (.rd (.var 1)) .nil) .nil))) .nil))) (.cons (.rd (.con (.int 4))) .nil))) .nil) f0_law_gcd)
  (.cons (.retf (.rd (.var 0)))
  .nil))
def t_law_gcd : Def := ⟨3, 2, b_law_gcd⟩
def d_law_gcd : DP := ⟨("_law_gcd", none), "_law_gcd", "_law_gcd", L2.defArgs (top 31), L2.defBody (top 31), L2.defScope (top 31), ["one", "other", "k"], ["one", "other"], [false, false], t_law_gcd⟩
def b_law_integer : Ss := (.cons (.retf (.and (.op (.isi [.int]) (.cons (.rd (.var 0)) .nil)) (.op .not (.cons (.op (.isi [.bool]) (.cons (.rd (.var 0)) .nil)) .nil))))
  .nil)
def t_law_integer : Def := ⟨1, 1, b_law_integer⟩
def d_law_integer : DP := ⟨("_law_integer", none), "_law_integer", "_law_integer", L2.defArgs (top 30), L2.defBody (top 30), L2.defScope (top 30), ["value"], ["value"], [false], t_law_integer⟩
def b_law_is : Ss := (.cons (.ife (.or (.op .not (.cons (.op (.isi [(.cls 2)]) (.cons (.rd (.var 0)) .nil)) .nil)) (.or (.op .not (.cons (.call 22 (.cons (.rd (.att (.var 0) 0)) .nil)) .nil)) (.op .not (.cons (.call 22 (.cons (.rd (.att (.var 0) 1)) .nil)) .nil))))
  (.cons (.ret (.rd (.con (.bl false))))
  .nil)
  .nil)
  (.cons (.asg (.nm 3) (.call 21 (.cons (.op .abs (.cons (.rd (.var 1)) .nil)) (.cons (.rd (.var 2)) .nil))))
  (.cons (.retf (.and (.op .eq (.cons (.op .mul (.cons (.rd (.att (.var 0) 0)) (.cons (.rd (.var 3)) .nil))) (.cons (.rd (.var 1)) .nil))) (.op .eq (.cons (.op .mul (.cons (.rd (.att (.var 0) 1)) (.cons (.rd (.var 3)) .nil))) (.cons (.rd (.var 2)) .nil)))))
  .nil)))
def t_law_is : Def := ⟨4, 3, b_law_is⟩
def d_law_is : DP := ⟨("_law_is", none), "_law_is", "_law_is", L2.defArgs (top 34), L2.defBody (top 34), L2.defScope (top 34), ["got", "over", "under", "common"], ["got", "over", "under"], [false, false, false], t_law_is⟩
def e0_law_whole : E := (.op .tupof (.cons (.rd (.var 8)) .nil))
def e1_law_whole : E := (.call 19 (.cons (.op .sub (.cons (.op .add (.cons (.rd (.var 1)) (.cons (.rd (.var 0)) .nil))) (.cons (.rd (.var 11)) .nil))) (.cons (.rd (.var 0)) .nil)))
def f0_law_whole : Ss := (.cons (.asg (.nm 10) (.op .idx (.cons (.rd (.var 5)) (.cons (.call 20 (.cons (.rd (.var 8)) .nil)) .nil))))
  (.cons (.asg (.nm 7) (.op .add (.cons (.rd (.var 7)) (.cons (.rd (.var 10)) .nil))))
  (.cons (.ife (.or (.op .not (.cons (.op (.isi [.tup]) (.cons (.rd (.var 9)) .nil)) .nil)) (.or (.op .ne (.cons (.op .len (.cons (.rd (.var 9)) .nil)) (.cons (.rd (.con (.int 2))) .nil))) (.or (.op .ne (.cons (.rd (.idx (.var 9) (.con (.int 0)))) (.cons (.op .tupof (.cons (.rd (.var 8)) .nil)) .nil))) (.op .not (.cons (.call 23 (.cons (.rd (.idx (.var 9) (.con (.int 1)))) (.cons (.rd (.var 10)) (.cons (.rd (.var 6)) .nil)))) .nil)))))
  (.cons (.ret (.rd (.con (.bl false))))
  .nil)
  .nil)
  .nil)))
def b_law_whole : Ss := (.cons (.asg (.nm 2) (.call 2 (.cons (.rd (.var 0)) .nil)))
  (.cons (.asg (.nm 3) (.call 6 (.cons (.rd (.var 0)) .nil)))
  (.cons (.asg (.nm 4) (.call 17 (.cons (.rd (.var 0)) (.cons (.rd (.var 1)) .nil))))
  (.cons (.ife (.or (.op .not (.cons (.op (.isi [.tup]) (.cons (.rd (.var 3)) .nil)) .nil)) (.op .ne (.cons (.rd (.var 3)) (.cons (.op .tupof (.cons (.lc e0_law_whole (.nm 8) .seq (.cons (.rd (.var 2)) .nil) .nil [8]) .nil)) .nil))))
  (.cons (.ret (.rd (.con (.bl false))))
  .nil)
  .nil)
  (.cons (.ife (.or (.op .not (.cons (.op (.isi [.tup]) (.cons (.rd (.var 4)) .nil)) .nil)) (.op .ne (.cons (.op .len (.cons (.rd (.var 4)) .nil)) (.cons (.op .len (.cons (.rd (.var 2)) .nil)) .nil))))
  (.cons (.ret (.rd (.con (.bl false))))
  .nil)
  .nil)
  (.cons (.asg (.nm 5) (.lc e1_law_whole (.nm 11) .rng1 (.cons (.rd (.con (.int 6))) .nil) .nil [11]))
  (.cons (.asg (.nm 6) (.call 18 (.cons (.rd (.var 1)) (.cons (.rd (.var 0)) .nil))))
  (.cons (.asg (.nm 7) (.rd (.con (.int 0))))
  (.cons (.for_ (.tp [(.nm 8), (.nm 9)]) .zip2 (.cons (.rd (.var 2)) (.cons (.rd (.var 4)) .nil)) f0_law_whole)
  (.cons (.retf (.op .eq (.cons (.rd (.var 7)) (.cons (.rd (.var 6)) .nil))))
  .nil))))))))))
def t_law_whole : Def := ⟨12, 2, b_law_whole⟩
def d_law_whole : DP := ⟨("_law_whole", none), "_law_whole", "_law_whole", L2.defArgs (top 42), L2.defBody (top 42), L2.defScope (top 42), ["cards", "packs", "rows", "told", "table", "over", "whole", "total", "row", "pair", "due", "rise"], ["cards", "packs"], [false, false], t_law_whole⟩
def b_law_share_is : Ss := (.cons (.asg (.nm 3) (.op .len (.cons (.rd (.var 1)) .nil)))
  (.cons (.retf (.call 23 (.cons (.rd (.var 0)) (.cons (.call 19 (.cons (.op .sub (.cons (.op .add (.cons (.rd (.var 2)) (.cons (.rd (.var 3)) .nil))) (.cons (.call 20 (.cons (.rd (.var 1)) .nil)) .nil))) (.cons (.rd (.var 3)) .nil))) (.cons (.call 18 (.cons (.rd (.var 2)) (.cons (.rd (.var 3)) .nil))) .nil)))))
  .nil))
def t_law_share_is : Def := ⟨4, 3, b_law_share_is⟩
def d_law_share_is : DP := ⟨("_law_share_is", none), "_law_share_is", "_law_share_is", L2.defArgs (top 40), L2.defBody (top 40), L2.defScope (top 40), ["got", "order", "packs", "cards"], ["got", "order", "packs"], [false, false, false], t_law_share_is⟩
def b_riffle_share : Ss := (.cons (.exp (.call 5 (.cons (.rd (.var 1)) (.cons (.rd (.con (.int 1))) (.cons (.rd (.glb 1)) .nil)))))
  (.cons (.asg (.nm 2) (.call 15 (.cons (.rd (.var 0)) .nil)))
  (.cons (.retf (.call 12 (.cons (.op .len (.cons (.rd (.var 0)) .nil)) (.cons (.rd (.var 2)) (.cons (.rd (.var 1)) .nil)))))
  .nil)))
def t_riffle_share : Def := ⟨3, 2, b_riffle_share⟩
def d_riffle_share : DP := ⟨("riffle_share", none), "riffle_share", "riffle_share", L2.defArgs (top 24), L2.defBody (top 24), L2.defScope (top 24), ["order", "packs", "rows"], ["order", "packs"], [false, false], t_riffle_share⟩
def b_law_asked : Ss := (.cons (.asg (.nm 3) (.op .lstof (.cons (.rd (.var 1)) .nil)))
  (.cons (.ife (.op .eq (.cons (.call 1 (.cons (.rd (.var 0)) (.cons (.rd (.con (.int 2))) .nil))) (.cons (.rd (.con (.int 0))) .nil)))
  (.cons (.asg (.nm 3) (.op .tupof (.cons (.rd (.var 1)) .nil)))
  .nil)
  .nil)
  (.cons (.asg (.nm 4) (.call 15 (.cons (.rd (.var 3)) .nil)))
  (.cons (.ife (.or (.op .not (.cons (.call 22 (.cons (.rd (.var 4)) .nil)) .nil)) (.op .ne (.cons (.rd (.var 4)) (.cons (.call 20 (.cons (.rd (.var 1)) .nil)) .nil))))
  (.cons (.ret (.rd (.con (.bl false))))
  .nil)
  .nil)
  (.cons (.retf (.and (.call 25 (.cons (.call 26 (.cons (.rd (.var 3)) (.cons (.rd (.var 2)) .nil))) (.cons (.rd (.var 1)) (.cons (.rd (.var 2)) .nil)))) (.op .eq (.cons (.op .lstof (.cons (.rd (.var 3)) .nil)) (.cons (.rd (.var 1)) .nil)))))
  .nil)))))
def t_law_asked : Def := ⟨5, 3, b_law_asked⟩
def d_law_asked : DP := ⟨("_law_asked", none), "_law_asked", "_law_asked", L2.defArgs (top 41), L2.defBody (top 41), L2.defScope (top 41), ["state", "order", "packs", "handed", "got"], ["state", "order", "packs"], [true, false, false], t_law_asked⟩
def f0_law_order : Ss := (.cons (.exp (.app (.var 4) (.mut .popAt (.var 3) (.cons (.call 1 (.cons (.rd (.var 0)) (.cons (.op .len (.cons (.rd (.var 3)) .nil)) .nil))) .nil))))
  .nil)
def b_law_order : Ss := (.cons (.asg (.nm 2) (.call 1 (.cons (.rd (.var 0)) (.cons (.rd (.con (.int 8))) .nil))))
  (.cons (.asg (.nm 3) (.op .lrng (.cons (.rd (.var 1)) .nil)))
  (.cons (.ife (.op .eq (.cons (.rd (.var 2)) (.cons (.rd (.con (.int 0))) .nil)))
  (.cons (.retf (.rd (.var 3)))
  .nil)
  .nil)
  (.cons (.ife (.op .eq (.cons (.rd (.var 2)) (.cons (.rd (.con (.int 1))) .nil)))
  (.cons (.retf (.op .lrev (.cons (.rd (.var 3)) .nil)))
  .nil)
  .nil)
  (.cons (.asg (.nm 4) (.lsn .nil))
  (.cons (.for_ (.nm 5) .rng1 (.cons (.rd (.var 1)) .nil) f0_law_order)
  (.cons (.retf (.rd (.var 4)))
  .nil)))))))
def t_law_order : Def := ⟨6, 2, b_law_order⟩
def d_law_order : DP := ⟨("_law_order", none), "_law_order", "_law_order", L2.defArgs (top 35), L2.defBody (top 35), L2.defScope (top 35), ["state", "cards", "kind", "left", "row", "k"], ["state", "cards"], [true, false], t_law_order⟩
def e0_put_together : E := (.rd (.idx (.var 0) (.var 2)))
def b_put_together : Ss := (.cons (.exp (.call 14 (.cons (.rd (.var 0)) .nil)))
  (.cons (.exp (.call 14 (.cons (.rd (.var 1)) .nil)))
  (.cons (.ife (.op .ne (.cons (.op .len (.cons (.rd (.var 1)) .nil)) (.cons (.op .len (.cons (.rd (.var 0)) .nil)) .nil)))
  (.cons (.rai 3 (.cons (.rd (.var 1)) .nil))
  .nil)
  .nil)
  (.cons (.retf (.op .tupof (.cons (.lc e0_put_together (.nm 2) .seq (.cons (.rd (.var 1)) .nil) .nil [2]) .nil)))
  .nil))))
def t_put_together : Def := ⟨3, 2, b_put_together⟩
def d_put_together : DP := ⟨("put_together", none), "put_together", "put_together", L2.defArgs (top 28), L2.defBody (top 28), L2.defScope (top 28), ["order", "other", "place"], ["order", "other"], [false, false], t_put_together⟩
def f0_law_put : Ss := (.cons (.ife (.or (.op .not (.cons (.call 22 (.cons (.rd (.var 2)) .nil)) .nil)) (.op .ne (.cons (.rd (.var 2)) (.cons (.rd (.var 3)) .nil))))
  (.cons (.ret (.rd (.con (.bl false))))
  .nil)
  .nil)
  .nil)
def b_law_put : Ss := (.cons (.ife (.or (.op .not (.cons (.op (.isi [.tup]) (.cons (.rd (.var 0)) .nil)) .nil)) (.op .ne (.cons (.op .len (.cons (.rd (.var 0)) .nil)) (.cons (.op .len (.cons (.rd (.var 1)) .nil)) .nil))))
  (.cons (.ret (.rd (.con (.bl false))))
  .nil)
  .nil)
  (.cons (.for_ (.tp [(.nm 2), (.nm 3)]) .zip2 (.cons (.rd (.var 0)) (.cons (.rd (.var 1)) .nil)) f0_law_put)
  (.cons (.ret (.rd (.con (.bl true))))
  .nil)))
def t_law_put : Def := ⟨4, 2, b_law_put⟩
def d_law_put : DP := ⟨("_law_put", none), "_law_put", "_law_put", L2.defArgs (top 43), L2.defBody (top 43), L2.defScope (top 43), ["got", "due", "one", "right"], ["got", "due"], [false, false], t_law_put⟩
def e0_law_puts : E := (.bmt .index (.rd (.var 2)) (.cons (.rd (.var 8)) .nil))
def e1_law_puts : E := (.rd (.idx (.var 2) (.var 9)))
def e2_law_puts : E := (.rd (.idx (.var 6) (.var 9)))
def b_law_puts : Ss := (.cons (.asg (.nm 2) (.call 28 (.cons (.rd (.var 0)) (.cons (.rd (.var 1)) .nil))))
  (.cons (.asg (.nm 3) (.call 28 (.cons (.rd (.var 0)) (.cons (.rd (.var 1)) .nil))))
  (.cons (.asg (.nm 4) (.call 28 (.cons (.rd (.var 0)) (.cons (.rd (.var 1)) .nil))))
  (.cons (.asg (.nm 5) (.lc e0_law_puts (.nm 8) .rng1 (.cons (.rd (.var 1)) .nil) .nil [8]))
  (.cons (.asg (.nm 6) (.lc e1_law_puts (.nm 9) .seq (.cons (.rd (.var 3)) .nil) .nil [9]))
  (.cons (.ife (.or (.op .not (.cons (.call 30 (.cons (.call 29 (.cons (.rd (.var 2)) (.cons (.op .tupof (.cons (.rd (.var 3)) .nil)) .nil))) (.cons (.rd (.var 6)) .nil))) .nil)) (.op .not (.cons (.call 30 (.cons (.call 29 (.cons (.op .tupof (.cons (.rd (.var 2)) .nil)) (.cons (.rd (.var 5)) .nil))) (.cons (.op .lrng (.cons (.rd (.var 1)) .nil)) .nil))) .nil)))
  (.cons (.ret (.rd (.con (.bl false))))
  .nil)
  .nil)
  (.cons (.ife (.op .not (.cons (.call 30 (.cons (.call 29 (.cons (.rd (.var 5)) (.cons (.rd (.var 2)) .nil))) (.cons (.op .lrng (.cons (.rd (.var 1)) .nil)) .nil))) .nil))
  (.cons (.ret (.rd (.con (.bl false))))
  .nil)
  .nil)
  (.cons (.asg (.nm 7) (.call 29 (.cons (.rd (.var 3)) (.cons (.rd (.var 4)) .nil))))
  (.cons (.retf (.call 30 (.cons (.call 29 (.cons (.rd (.var 2)) (.cons (.rd (.var 7)) .nil))) (.cons (.lc e2_law_puts (.nm 9) .seq (.cons (.rd (.var 4)) .nil) .nil [9]) .nil))))
  .nil)))))))))
def t_law_puts : Def := ⟨10, 2, b_law_puts⟩
def d_law_puts : DP := ⟨("_law_puts", none), "_law_puts", "_law_puts", L2.defArgs (top 44), L2.defBody (top 44), L2.defScope (top 44), ["state", "cards", "one", "two", "three", "back", "both", "late", "card", "place"], ["state", "cards"], [true, false], t_law_puts⟩
def f0_law_body : Ss := (.cons (.asg (.nm 3) (.op .add (.cons (.rd (.con (.int 1))) (.cons (.call 1 (.cons (.rd (.var 1)) (.cons (.rd (.con (.int 5))) .nil))) .nil))))
  (.cons (.asg (.nm 4) (.op .add (.cons (.rd (.con (.int 1))) (.cons (.call 1 (.cons (.rd (.var 1)) (.cons (.rd (.con (.int 8))) .nil))) .nil))))
  (.cons (.ife (.op .eq (.cons (.call 1 (.cons (.rd (.var 1)) (.cons (.rd (.con (.int 2))) .nil))) (.cons (.rd (.con (.int 0))) .nil)))
  (.cons (.asg (.nm 4) (.op .add (.cons (.rd (.con (.int 1))) (.cons (.call 1 (.cons (.rd (.var 1)) (.cons (.rd (.con (.int 40))) .nil))) .nil))))
  .nil)
  .nil)
  (.cons (.ife (.or (.op .not (.cons (.call 27 (.cons (.rd (.var 1)) (.cons (.call 28 (.cons (.rd (.var 1)) (.cons (.rd (.var 3)) .nil))) (.cons (.rd (.var 4)) .nil)))) .nil)) (.op .not (.cons (.call 31 (.cons (.rd (.var 1)) (.cons (.rd (.var 3)) .nil))) .nil)))
  (.cons (.ret (.rd (.con (.bl false))))
  .nil)
  .nil)
  .nil))))
def b_law_body : Ss := (.cons (.asg (.nm 1) (.call 0 (.cons (.rd (.var 0)) .nil)))
  (.cons (.for_ (.nm 2) .rng1 (.cons (.rd (.con (.int 4))) .nil) f0_law_body)
  (.cons (.asg (.nm 3) (.op .add (.cons (.rd (.con (.int 1))) (.cons (.call 1 (.cons (.rd (.var 1)) (.cons (.rd (.con (.int 4))) .nil))) .nil))))
  (.cons (.ife (.op .eq (.cons (.call 1 (.cons (.rd (.var 1)) (.cons (.rd (.con (.int 4))) .nil))) (.cons (.rd (.con (.int 0))) .nil)))
  (.cons (.asg (.nm 3) (.rd (.con (.int 5))))
  .nil)
  .nil)
  (.cons (.retf (.and (.call 24 (.cons (.rd (.var 3)) (.cons (.op .add (.cons (.rd (.con (.int 1))) (.cons (.call 1 (.cons (.rd (.var 1)) (.cons (.rd (.con (.int 40))) .nil))) .nil))) .nil))) (.call 24 (.cons (.op .add (.cons (.rd (.con (.int 1))) (.cons (.call 1 (.cons (.rd (.var 1)) (.cons (.rd (.con (.int 4))) .nil))) .nil))) (.cons (.op .add (.cons (.rd (.con (.int 1))) (.cons (.call 1 (.cons (.rd (.var 1)) (.cons (.rd (.con (.int 6))) .nil))) .nil))) .nil)))))
  .nil)))))
def t_law_body : Def := ⟨5, 1, b_law_body⟩
def d_law_body : DP := ⟨("_law_body", none), "_law_body", "_law_body", L2.defArgs (top 45), L2.defBody (top 45), L2.defScope (top 45), ["script", "state", "k", "cards", "packs"], ["script"], [false], t_law_body⟩
def b_law : Ss := (.cons (.try_ (.cons (.retf (.call 32 (.cons (.rd (.var 0)) .nil)))
  .nil) (.cons 0 none (.cons (.ret (.rd (.con (.bl false))))
  .nil) .nil))
  .nil)
def t_law : Def := ⟨1, 1, b_law⟩
def d_law : DP := ⟨("law", none), "law", "law", L2.defArgs (top 46), L2.defBody (top 46), L2.defScope (top 46), ["script"], ["script"], [false], t_law⟩
def pd : PD where
  gn := [("CARDS_AT_MOST", (.int 5)), ("PACKS_AT_MOST", (.int 40))]
  df := [d_law_start, d_law_draw, d_law_all, d_is_integer, d_integer_within, d_check_number, d_orders, d_check_riffle, d_greatest_divisor, d_Share_init, d_ways, d_power, d_share_by_rows, d_is_sequence, d_check_order, d_rising, d_riffled, d_riffle_table, d_law_power, d_law_choose, d_law_rising, d_law_gcd, d_law_integer, d_law_is, d_law_whole, d_law_share_is, d_riffle_share, d_law_asked, d_law_order, d_put_together, d_law_put, d_law_puts, d_law_body, d_law]
  cl := ["MarkError", "InvalidNumber", "Share", "InvalidOrder"]
  fd := ["over", "under", "number", "value"]
  flds := [(2, 0), (2, 1)]
  ini := [(2, 9)]
  sub := [((2, 2), true)]
  exs := [((0, 0), true), ((0, 1), false), ((0, 3), false), ((1, 0), true), ((1, 1), true), ((1, 3), false), ((3, 0), true), ((3, 1), false), ((3, 3), true)]
  exf := [⟨1, [2], "InvalidNumber.__init__", L2.defArgs (inC (top 3) 0), L2.defBody (inC (top 3) 0), L2.defScope (inC (top 3) 0), ["self", "number"]⟩, ⟨3, [3], "InvalidOrder.__init__", L2.defArgs (inC (top 4) 0), L2.defBody (inC (top 4) 0), L2.defScope (inC (top 4) 0), ["self", "value"]⟩]
theorem fn_law_start {n : Nat} {a0 : O} : (pd.ctx (n + 1)).fn 0 [a0] = endK [false] (execs (pd.ctx n) (parm [false]) b_law_start [some a0]) := (ctx_fn (x := d_law_start) rfl).trans rfl
theorem br_law_start {n : Nat} : (pd.ctx n).br 0 = [false] := ctx_br (x := d_law_start) rfl
theorem fn_law_draw {n : Nat} {a0 a1 : O} : (pd.ctx (n + 1)).fn 1 [a0, a1] = endK [true, false] (execs (pd.ctx n) (parm [true, false]) b_law_draw [some a0, some a1, none, none]) := (ctx_fn (x := d_law_draw) rfl).trans rfl
theorem br_law_draw {n : Nat} : (pd.ctx n).br 1 = [true, false] := ctx_br (x := d_law_draw) rfl
theorem fn_law_all {n : Nat} {a0 : O} : (pd.ctx (n + 1)).fn 2 [a0] = endK [false] (execs (pd.ctx n) (parm [false]) b_law_all [some a0, none, none, none, none, none]) := (ctx_fn (x := d_law_all) rfl).trans rfl
theorem br_law_all {n : Nat} : (pd.ctx n).br 2 = [false] := ctx_br (x := d_law_all) rfl
theorem fn_is_integer {n : Nat} {a0 : O} : (pd.ctx (n + 1)).fn 3 [a0] = endK [false] (execs (pd.ctx n) (parm [false]) b_is_integer [some a0]) := (ctx_fn (x := d_is_integer) rfl).trans rfl
theorem br_is_integer {n : Nat} : (pd.ctx n).br 3 = [false] := ctx_br (x := d_is_integer) rfl
theorem fn_integer_within {n : Nat} {a0 a1 a2 : O} : (pd.ctx (n + 1)).fn 4 [a0, a1, a2] = endK [false, false, false] (execs (pd.ctx n) (parm [false, false, false]) b_integer_within [some a0, some a1, some a2]) := (ctx_fn (x := d_integer_within) rfl).trans rfl
theorem br_integer_within {n : Nat} : (pd.ctx n).br 4 = [false, false, false] := ctx_br (x := d_integer_within) rfl
theorem fn_check_number {n : Nat} {a0 a1 a2 : O} : (pd.ctx (n + 1)).fn 5 [a0, a1, a2] = endK [false, false, false] (execs (pd.ctx n) (parm [false, false, false]) b_check_number [some a0, some a1, some a2]) := (ctx_fn (x := d_check_number) rfl).trans rfl
theorem br_check_number {n : Nat} : (pd.ctx n).br 5 = [false, false, false] := ctx_br (x := d_check_number) rfl
theorem fn_orders {n : Nat} {a0 : O} : (pd.ctx (n + 1)).fn 6 [a0] = endK [false] (execs (pd.ctx n) (parm [false]) b_orders [some a0, none, none, none, none]) := (ctx_fn (x := d_orders) rfl).trans rfl
theorem br_orders {n : Nat} : (pd.ctx n).br 6 = [false] := ctx_br (x := d_orders) rfl
theorem fn_check_riffle {n : Nat} {a0 a1 : O} : (pd.ctx (n + 1)).fn 7 [a0, a1] = endK [false, false] (execs (pd.ctx n) (parm [false, false]) b_check_riffle [some a0, some a1]) := (ctx_fn (x := d_check_riffle) rfl).trans rfl
theorem br_check_riffle {n : Nat} : (pd.ctx n).br 7 = [false, false] := ctx_br (x := d_check_riffle) rfl
theorem fn_greatest_divisor {n : Nat} {a0 a1 : O} : (pd.ctx (n + 1)).fn 8 [a0, a1] = endK [false, false] (execs (pd.ctx n) (parm [false, false]) b_greatest_divisor [some a0, some a1]) := (ctx_fn (x := d_greatest_divisor) rfl).trans rfl
theorem br_greatest_divisor {n : Nat} : (pd.ctx n).br 8 = [false, false] := ctx_br (x := d_greatest_divisor) rfl
theorem fn_Share_init {n : Nat} {a0 a1 a2 : O} : (pd.ctx (n + 1)).fn 9 [a0, a1, a2] = endK [true, false, false] (execs (pd.ctx n) (parm [true, false, false]) b_Share_init [some a0, some a1, some a2, none]) := (ctx_fn (x := d_Share_init) rfl).trans rfl
theorem br_Share_init {n : Nat} : (pd.ctx n).br 9 = [true, false, false] := ctx_br (x := d_Share_init) rfl
theorem fn_ways {n : Nat} {a0 a1 : O} : (pd.ctx (n + 1)).fn 10 [a0, a1] = endK [false, false] (execs (pd.ctx n) (parm [false, false]) b_ways [some a0, some a1, none, none]) := (ctx_fn (x := d_ways) rfl).trans rfl
theorem br_ways {n : Nat} : (pd.ctx n).br 10 = [false, false] := ctx_br (x := d_ways) rfl
theorem fn_power {n : Nat} {a0 a1 : O} : (pd.ctx (n + 1)).fn 11 [a0, a1] = endK [false, false] (execs (pd.ctx n) (parm [false, false]) b_power [some a0, some a1, none, none]) := (ctx_fn (x := d_power) rfl).trans rfl
theorem br_power {n : Nat} : (pd.ctx n).br 11 = [false, false] := ctx_br (x := d_power) rfl
theorem fn_share_by_rows {n : Nat} {a0 a1 a2 : O} : (pd.ctx (n + 1)).fn 12 [a0, a1, a2] = endK [false, false, false] (execs (pd.ctx n) (parm [false, false, false]) b_share_by_rows [some a0, some a1, some a2]) := (ctx_fn (x := d_share_by_rows) rfl).trans rfl
theorem br_share_by_rows {n : Nat} : (pd.ctx n).br 12 = [false, false, false] := ctx_br (x := d_share_by_rows) rfl
theorem fn_is_sequence {n : Nat} {a0 : O} : (pd.ctx (n + 1)).fn 13 [a0] = endK [false] (execs (pd.ctx n) (parm [false]) b_is_sequence [some a0]) := (ctx_fn (x := d_is_sequence) rfl).trans rfl
theorem br_is_sequence {n : Nat} : (pd.ctx n).br 13 = [false] := ctx_br (x := d_is_sequence) rfl
theorem fn_check_order {n : Nat} {a0 : O} : (pd.ctx (n + 1)).fn 14 [a0] = endK [false] (execs (pd.ctx n) (parm [false]) b_check_order [some a0, none]) := (ctx_fn (x := d_check_order) rfl).trans rfl
theorem br_check_order {n : Nat} : (pd.ctx n).br 14 = [false] := ctx_br (x := d_check_order) rfl
theorem fn_rising {n : Nat} {a0 : O} : (pd.ctx (n + 1)).fn 15 [a0] = endK [false] (execs (pd.ctx n) (parm [false]) b_rising [some a0, none]) := (ctx_fn (x := d_rising) rfl).trans rfl
theorem br_rising {n : Nat} : (pd.ctx n).br 15 = [false] := ctx_br (x := d_rising) rfl
theorem fn_riffled {n : Nat} {a0 a1 : O} : (pd.ctx (n + 1)).fn 16 [a0, a1] = endK [false, false] (execs (pd.ctx n) (parm [false, false]) b_riffled [some a0, some a1, none]) := (ctx_fn (x := d_riffled) rfl).trans rfl
theorem br_riffled {n : Nat} : (pd.ctx n).br 16 = [false, false] := ctx_br (x := d_riffled) rfl
theorem fn_riffle_table {n : Nat} {a0 a1 : O} : (pd.ctx (n + 1)).fn 17 [a0, a1] = endK [false, false] (execs (pd.ctx n) (parm [false, false]) b_riffle_table [some a0, some a1]) := (ctx_fn (x := d_riffle_table) rfl).trans rfl
theorem br_riffle_table {n : Nat} : (pd.ctx n).br 17 = [false, false] := ctx_br (x := d_riffle_table) rfl
theorem fn_law_power {n : Nat} {a0 a1 : O} : (pd.ctx (n + 1)).fn 18 [a0, a1] = endK [false, false] (execs (pd.ctx n) (parm [false, false]) b_law_power [some a0, some a1, none, none]) := (ctx_fn (x := d_law_power) rfl).trans rfl
theorem br_law_power {n : Nat} : (pd.ctx n).br 18 = [false, false] := ctx_br (x := d_law_power) rfl
theorem fn_law_choose {n : Nat} {a0 a1 : O} : (pd.ctx (n + 1)).fn 19 [a0, a1] = endK [false, false] (execs (pd.ctx n) (parm [false, false]) b_law_choose [some a0, some a1, none, none, none]) := (ctx_fn (x := d_law_choose) rfl).trans rfl
theorem br_law_choose {n : Nat} : (pd.ctx n).br 19 = [false, false] := ctx_br (x := d_law_choose) rfl
theorem fn_law_rising {n : Nat} {a0 : O} : (pd.ctx (n + 1)).fn 20 [a0] = endK [false] (execs (pd.ctx n) (parm [false]) b_law_rising [some a0, none, none, none, none]) := (ctx_fn (x := d_law_rising) rfl).trans rfl
theorem br_law_rising {n : Nat} : (pd.ctx n).br 20 = [false] := ctx_br (x := d_law_rising) rfl
theorem fn_law_gcd {n : Nat} {a0 a1 : O} : (pd.ctx (n + 1)).fn 21 [a0, a1] = endK [false, false] (execs (pd.ctx n) (parm [false, false]) b_law_gcd [some a0, some a1, none]) := (ctx_fn (x := d_law_gcd) rfl).trans rfl
theorem br_law_gcd {n : Nat} : (pd.ctx n).br 21 = [false, false] := ctx_br (x := d_law_gcd) rfl
theorem fn_law_integer {n : Nat} {a0 : O} : (pd.ctx (n + 1)).fn 22 [a0] = endK [false] (execs (pd.ctx n) (parm [false]) b_law_integer [some a0]) := (ctx_fn (x := d_law_integer) rfl).trans rfl
theorem br_law_integer {n : Nat} : (pd.ctx n).br 22 = [false] := ctx_br (x := d_law_integer) rfl
theorem fn_law_is {n : Nat} {a0 a1 a2 : O} : (pd.ctx (n + 1)).fn 23 [a0, a1, a2] = endK [false, false, false] (execs (pd.ctx n) (parm [false, false, false]) b_law_is [some a0, some a1, some a2, none]) := (ctx_fn (x := d_law_is) rfl).trans rfl
theorem br_law_is {n : Nat} : (pd.ctx n).br 23 = [false, false, false] := ctx_br (x := d_law_is) rfl
theorem fn_law_whole {n : Nat} {a0 a1 : O} : (pd.ctx (n + 1)).fn 24 [a0, a1] = endK [false, false] (execs (pd.ctx n) (parm [false, false]) b_law_whole [some a0, some a1, none, none, none, none, none, none, none, none, none, none]) := (ctx_fn (x := d_law_whole) rfl).trans rfl
theorem br_law_whole {n : Nat} : (pd.ctx n).br 24 = [false, false] := ctx_br (x := d_law_whole) rfl
theorem fn_law_share_is {n : Nat} {a0 a1 a2 : O} : (pd.ctx (n + 1)).fn 25 [a0, a1, a2] = endK [false, false, false] (execs (pd.ctx n) (parm [false, false, false]) b_law_share_is [some a0, some a1, some a2, none]) := (ctx_fn (x := d_law_share_is) rfl).trans rfl
theorem br_law_share_is {n : Nat} : (pd.ctx n).br 25 = [false, false, false] := ctx_br (x := d_law_share_is) rfl
theorem fn_riffle_share {n : Nat} {a0 a1 : O} : (pd.ctx (n + 1)).fn 26 [a0, a1] = endK [false, false] (execs (pd.ctx n) (parm [false, false]) b_riffle_share [some a0, some a1, none]) := (ctx_fn (x := d_riffle_share) rfl).trans rfl
theorem br_riffle_share {n : Nat} : (pd.ctx n).br 26 = [false, false] := ctx_br (x := d_riffle_share) rfl
theorem fn_law_asked {n : Nat} {a0 a1 a2 : O} : (pd.ctx (n + 1)).fn 27 [a0, a1, a2] = endK [true, false, false] (execs (pd.ctx n) (parm [true, false, false]) b_law_asked [some a0, some a1, some a2, none, none]) := (ctx_fn (x := d_law_asked) rfl).trans rfl
theorem br_law_asked {n : Nat} : (pd.ctx n).br 27 = [true, false, false] := ctx_br (x := d_law_asked) rfl
theorem fn_law_order {n : Nat} {a0 a1 : O} : (pd.ctx (n + 1)).fn 28 [a0, a1] = endK [true, false] (execs (pd.ctx n) (parm [true, false]) b_law_order [some a0, some a1, none, none, none, none]) := (ctx_fn (x := d_law_order) rfl).trans rfl
theorem br_law_order {n : Nat} : (pd.ctx n).br 28 = [true, false] := ctx_br (x := d_law_order) rfl
theorem fn_put_together {n : Nat} {a0 a1 : O} : (pd.ctx (n + 1)).fn 29 [a0, a1] = endK [false, false] (execs (pd.ctx n) (parm [false, false]) b_put_together [some a0, some a1, none]) := (ctx_fn (x := d_put_together) rfl).trans rfl
theorem br_put_together {n : Nat} : (pd.ctx n).br 29 = [false, false] := ctx_br (x := d_put_together) rfl
theorem fn_law_put {n : Nat} {a0 a1 : O} : (pd.ctx (n + 1)).fn 30 [a0, a1] = endK [false, false] (execs (pd.ctx n) (parm [false, false]) b_law_put [some a0, some a1, none, none]) := (ctx_fn (x := d_law_put) rfl).trans rfl
theorem br_law_put {n : Nat} : (pd.ctx n).br 30 = [false, false] := ctx_br (x := d_law_put) rfl
theorem fn_law_puts {n : Nat} {a0 a1 : O} : (pd.ctx (n + 1)).fn 31 [a0, a1] = endK [true, false] (execs (pd.ctx n) (parm [true, false]) b_law_puts [some a0, some a1, none, none, none, none, none, none, none, none]) := (ctx_fn (x := d_law_puts) rfl).trans rfl
theorem br_law_puts {n : Nat} : (pd.ctx n).br 31 = [true, false] := ctx_br (x := d_law_puts) rfl
theorem fn_law_body {n : Nat} {a0 : O} : (pd.ctx (n + 1)).fn 32 [a0] = endK [false] (execs (pd.ctx n) (parm [false]) b_law_body [some a0, none, none, none, none]) := (ctx_fn (x := d_law_body) rfl).trans rfl
theorem br_law_body {n : Nat} : (pd.ctx n).br 32 = [false] := ctx_br (x := d_law_body) rfl
theorem fn_law {n : Nat} {a0 : O} : (pd.ctx (n + 1)).fn 33 [a0] = endK [false] (execs (pd.ctx n) (parm [false]) b_law [some a0]) := (ctx_fn (x := d_law) rfl).trans rfl
theorem br_law {n : Nat} : (pd.ctx n).br 33 = [false] := ctx_br (x := d_law) rfl
theorem g_CARDS_AT_MOST {n : Nat} : (pd.ctx n).G 0 = some (.int 5) := ctx_G (x := ("CARDS_AT_MOST", (.int 5))) rfl
theorem g_PACKS_AT_MOST {n : Nat} : (pd.ctx n).G 1 = some (.int 40) := ctx_G (x := ("PACKS_AT_MOST", (.int 40))) rfl
theorem ini_2 {n : Nat} : (pd.ctx n).ini 2 = some 9 := ctx_ini (by decide +kernel)
theorem sub_2_2 {n : Nat} : (pd.ctx n).sub 2 2 = some true := ctx_sub (by decide +kernel)
theorem exs_0_0 {n : Nat} : (pd.ctx n).exs 0 0 = some true := ctx_exs (by decide +kernel)
theorem exs_0_1 {n : Nat} : (pd.ctx n).exs 0 1 = some false := ctx_exs (by decide +kernel)
theorem exs_0_3 {n : Nat} : (pd.ctx n).exs 0 3 = some false := ctx_exs (by decide +kernel)
theorem exs_1_0 {n : Nat} : (pd.ctx n).exs 1 0 = some true := ctx_exs (by decide +kernel)
theorem exs_1_1 {n : Nat} : (pd.ctx n).exs 1 1 = some true := ctx_exs (by decide +kernel)
theorem exs_1_3 {n : Nat} : (pd.ctx n).exs 1 3 = some false := ctx_exs (by decide +kernel)
theorem exs_3_0 {n : Nat} : (pd.ctx n).exs 3 0 = some true := ctx_exs (by decide +kernel)
theorem exs_3_1 {n : Nat} : (pd.ctx n).exs 3 1 = some false := ctx_exs (by decide +kernel)
theorem exs_3_3 {n : Nat} : (pd.ctx n).exs 3 3 = some true := ctx_exs (by decide +kernel)
theorem exf_1 {n : Nat} : (pd.ctx n).exf 1 = some [2] := ctx_exf (by decide +kernel)
theorem exf_3 {n : Nat} : (pd.ctx n).exf 3 = some [3] := ctx_exf (by decide +kernel)
theorem fld_2_0 {n : Nat} : (pd.ctx n).fld 2 0 = true := ctx_fld (by decide +kernel)
theorem fld_2_1 {n : Nat} : (pd.ctx n).fld 2 1 = true := ctx_fld (by decide +kernel)
/- facts: br_law_start, br_law_draw, br_law_all, br_is_integer, br_integer_within, br_check_number, br_orders, br_check_riffle, br_greatest_divisor, br_Share_init, br_ways, br_power, br_share_by_rows, br_is_sequence, br_check_order, br_rising, br_riffled, br_riffle_table, br_law_power, br_law_choose, br_law_rising, br_law_gcd, br_law_integer, br_law_is, br_law_whole, br_law_share_is, br_riffle_share, br_law_asked, br_law_order, br_put_together, br_law_put, br_law_puts, br_law_body, br_law, g_CARDS_AT_MOST, g_PACKS_AT_MOST, ini_2, sub_2_2, exs_0_0, exs_0_1, exs_0_3, exs_1_0, exs_1_1, exs_1_3, exs_3_0, exs_3_1, exs_3_3, fld_2_0, fld_2_1, exf_1, exf_3 -/
def lawIx : Nat := 33
def lawTop : Nat := 46
def looseN : List (List Str) := [["_wall", "MarkError", "InvalidNumber", "InvalidOrder", "greatest_divisor", "power", "ways", "Share", "is_integer", "integer_within", "is_sequence", "check_number", "CARDS_AT_MOST", "PACKS_AT_MOST", "orders", "_check_order", "rising", "_share_by_rows", "riffle_share", "_check_riffle", "_riffled", "riffle_table", "put_together", "_law_integer", "_law_gcd", "_law_start", "_law_draw", "_law_is", "_law_order", "_law_rising"], ["_law_choose", "_law_all", "_law_power", "_law_share_is", "_law_asked", "_law_whole", "_law_put", "_law_puts", "_law_body"]]
def loose : List Str := looseN.flatten
end K75
namespace K75
open PySem T
theorem okT : pd.ok = true := by decide +kernel
theorem okP : pd.plain = true := by decide +kernel
end K75
set_option maxRecDepth 100000
namespace K75
open PySem T
local macro_rules | `(tactic| walk_at "ev") => `(tactic| simp (config := {maxSteps := 1000000}) only [xs_nil, xs_cons, turnR_eq, wturn_eq, lcT_eq, x_whl, tst, x_asg, x_par, x_sti, x_stf, x_exp, x_ret, x_retf, x_ret0, x_brk, x_cnt, x_pas, x_ife, x_for, x_rai, x_try,
  nxK_nx, nxK_ret, nxK_brk, nxK_cnt, nxK_er, nxK_no, bd_ok, bd_er, bd_no, oo_some, oo_none, tryK_ok, tryK_er, h_nil, h_cons, run_k2, run_kf,
  ev_rd, ev_op, ev_call, ev_mk, ev_lsn, ev_and, ev_or, ev_ife, ev_chn, ev_bmt, ev_mut, ev_app, ev_lc, ev_lc2, es_nil, es_cons, os_nil, os_cons, ifs_nil, ifs_cons,
  evalR_var, evalR_con, evalR_glb, evalR_idx, evalR_att, stepIx_v, stepIx_r, stepAt_v, stepAt_r, ixO_lst, ixO_dct, argAt_pure, argAt_lst, argAt_dct, argAt_ins, argOf_rd, argK_eq, argOf_op, argOf_and, argOf_or, argOf_ife, argOf_chn, argOf_lsn, argOf_call, argOf_mk, argOf_bmt, argOf_mut, argOf_app, argOf_lc, argOf_lc2, sl_some, stiK_ref, stfK_ref,
  E.isRd, Es.allRd, Bool.and_true, Bool.true_and, Bool.and_false, Bool.false_and, Bool.and_self, Bool.or_false, Bool.or_true, Bool.false_or, Bool.true_or, Bool.not_true, Bool.not_false, Bool.not_not, ite_bl, bl_and, bl_or, bl_or2, bl_and2,
  pinIf_true, pinIf_val, pinIf_top, pinIf_sub, hold_val, hold_ref, opOr_eq, opPre, op_v0, op_v1, op_v2, op_v3, opRes_eq, fz_nil, fz_val, fz_ref, frz_eq, eat_eq, eput_eq, at_nil, at_cons, sub_ix, sub_fld, put_nil, put_ix, put_fld, loose_eq, noInsO_some,
  fz_pure, fz_lst, fz_ins, map_fz_pure, noIns_pure, noIns_lst, noIns_ins, noInss_nil, noInss_cons, noInss_pure, free_pure, free_lst, free_ins, frees_nil, frees_cons, lf_non, lf_bl, lf_int, lf_str, lf_tup, lf_lst, lf_ins, lfs_nil, lfs_cons, lfs_ints, frees_ints,
  view_val, view_ref, truth_val, truth_ref, tr_bl, tr_int, tr_non, asg_nm, asg_tp, asgD_nm, asgD_tp, asgDs_nil, asgDs_cons, parm, List.getD_cons_zero, List.getD_cons_succ, List.getD_nil,
  callF_eq, call_eq, argsO_nil, argsO_v, argsO_r, argsO_f, given_nil, given_v, given_f, given_r, lent_nil, lent_f, lent_t, backs_nil, backs_f, backs_v, backs_r, List.nodup_nil, List.nodup_cons, List.not_mem_nil, not_false_eq_true, and_self, ite_true, ite_false, if_true, if_false, makeRun_eq, mkPost_ok, mkPost_er,
  run_eq, endK_ret, endK_nx, endK_er, wrapR_eq, posts_nil, posts_t, posts_f, List.length_cons, List.length_nil, List.map_cons, List.map_nil, List.cons_append, List.nil_append, List.getElem?_cons_zero, List.getElem?_cons_succ, List.set_cons_zero, List.set_cons_succ, List.replicate_succ, List.replicate_zero, Nat.reduceAdd, Nat.reduceSub, Nat.reduceLeDiff, Nat.reduceLT, Nat.reduceEqDiff, Nat.zero_add, decide_true, decide_false, decide_eq_true_eq, Bool.false_eq_true, reduceCtorEq, ne_eq, List.append_nil,
     idx_lst, didx_lst, didx_tup, atI_eq, setIx_lst, ixN_in, ite_self, frees_pures, List.length_map, int1_int, int1_bl, len_tup, len_lst, lstof_lst, lstof_tup, tupof_lst, tupof_tup, eqA_int, pow_int, lenOk_eq,  Int.reduceLE, Int.reduceEq, Int.reduceNe, Int.reduceSub, Int.reduceMul, Int.reduceGT, Int.reduceGE, Int.reduceLT, Int.reduceToNat, Int.cast_ofNat_Int, Int.reduceAdd, Int.reduceNeg,  List.isEmpty_nil, it_rng1, it_rng2, itv_lst, itv_tup, it_zipl, it_zip1, it_zip2, it_zip3, it_enum, bitl_int, bmOk_bitl, bmOk_ixl, bmOk_ixt, kindS_int, kindS_lst, kindS_tup, setFld_ins, att_ins, datt_ins, Option.map_some, List.cons_append, od_add, od_sub, od_mul, od_fdiv, od_mod, od_pow, od_lt, od_le, od_gt, od_ge, od_is, od_isn, od_max2, od_min2, od_index, od_neg, od_not, od_len, od_abs, od_int1, od_bitl, od_tupof, od_lstof, od_lrng, od_lrev, od_sorted, od_sum, od_all, od_any, od_eq, od_ne, od_inn, od_nin, od_tup, od_lst, od_idx, od_s00, od_s10, od_s01, od_s11, od_att, od_isi, opp_slc, i_add, i_sub, i_mul, i_fdiv, i_mod, i_pow, i_neg, i_lt, i_le, i_gt, i_ge, i_max, i_min, i_abs, i_not, i_bl, i_nb, i_dO, i_is, i_isn, isNon_non, isNon_int, isNon_bl, isNon_str, isNon_tup, isNon_lst, isNon_ins, blOf_bl, valA_val, freeR_ok, freeR_er, wipe_nil, wipe_cons, lkp_nil, lkp_cons, setF_cons, setF_nil, take_0, take_s, drop_0, drop_s, tysHave_eq, tag_non, tag_bl, tag_int, tag_str, tag_tup, tag_lst, tag_ins, tys_nil, tys_cons, ti_non_int, ti_non_bool, ti_non_str, ti_non_tup, ti_non_lst, ti_non_dct, ti_bool_int, ti_bool_bool, ti_bool_str, ti_bool_tup, ti_bool_lst, ti_bool_dct, ti_int_int, ti_int_bool, ti_int_str, ti_int_tup, ti_int_lst, ti_int_dct, ti_str_int, ti_str_bool, ti_str_str, ti_str_tup, ti_str_lst, ti_str_dct, ti_tup_int, ti_tup_bool, ti_tup_str, ti_tup_tup, ti_tup_lst, ti_tup_dct, ti_lst_int, ti_lst_bool, ti_lst_str, ti_lst_tup, ti_lst_lst, ti_lst_dct, ti_dct_int, ti_dct_bool, ti_dct_str, ti_dct_tup, ti_dct_lst, ti_dct_dct, ti_cc, ti_c_int, ti_c_bool, ti_c_str, ti_c_tup, ti_c_lst, ti_c_dct, ti_non_c, ti_bool_c, ti_int_c, ti_str_c, ti_tup_c, ti_lst_c, ti_dct_c, iL_len, iL_get, sorted_lL, sorted_tL, eqA_lL, eqA_tL, eqA_tt, inD_l, inD_t, rangeI_len, lrev_l, List.contains_cons, List.contains_nil, beq_self_eq_true, Nat.reduceBEq, makeRes_b, mkF_t, lsK_lst, lstAt_eq, apK_lst, appRun_k, muK_lst, mutRun_k, popAt_eq, pop_eq, lfs_iL, iL_rev, br_law_start, br_law_draw, br_law_all, br_is_integer, br_integer_within, br_check_number, br_orders, br_check_riffle, br_greatest_divisor, br_Share_init, br_ways, br_power, br_share_by_rows, br_is_sequence, br_check_order, br_rising, br_riffled, br_riffle_table, br_law_power, br_law_choose, br_law_rising, br_law_gcd, br_law_integer, br_law_is, br_law_whole, br_law_share_is, br_riffle_share, br_law_asked, br_law_order, br_put_together, br_law_put, br_law_puts, br_law_body, br_law, g_CARDS_AT_MOST, g_PACKS_AT_MOST, ini_2, sub_2_2, exs_0_0, exs_0_1, exs_0_3, exs_1_0, exs_1_1, exs_1_3, exs_3_0, exs_3_1, exs_3_3, fld_2_0, fld_2_1, exf_1, exf_3])
local macro_rules | `(tactic| walk_at "ev*") => `(tactic| simp (config := {maxSteps := 1000000}) only [*, xs_nil, xs_cons, turnR_eq, wturn_eq, lcT_eq, x_whl, tst, x_asg, x_par, x_sti, x_stf, x_exp, x_ret, x_retf, x_ret0, x_brk, x_cnt, x_pas, x_ife, x_for, x_rai, x_try,
  nxK_nx, nxK_ret, nxK_brk, nxK_cnt, nxK_er, nxK_no, bd_ok, bd_er, bd_no, oo_some, oo_none, tryK_ok, tryK_er, h_nil, h_cons, run_k2, run_kf,
  ev_rd, ev_op, ev_call, ev_mk, ev_lsn, ev_and, ev_or, ev_ife, ev_chn, ev_bmt, ev_mut, ev_app, ev_lc, ev_lc2, es_nil, es_cons, os_nil, os_cons, ifs_nil, ifs_cons,
  evalR_var, evalR_con, evalR_glb, evalR_idx, evalR_att, stepIx_v, stepIx_r, stepAt_v, stepAt_r, ixO_lst, ixO_dct, argAt_pure, argAt_lst, argAt_dct, argAt_ins, argOf_rd, argK_eq, argOf_op, argOf_and, argOf_or, argOf_ife, argOf_chn, argOf_lsn, argOf_call, argOf_mk, argOf_bmt, argOf_mut, argOf_app, argOf_lc, argOf_lc2, sl_some, stiK_ref, stfK_ref,
  E.isRd, Es.allRd, Bool.and_true, Bool.true_and, Bool.and_false, Bool.false_and, Bool.and_self, Bool.or_false, Bool.or_true, Bool.false_or, Bool.true_or, Bool.not_true, Bool.not_false, Bool.not_not, ite_bl, bl_and, bl_or, bl_or2, bl_and2,
  pinIf_true, pinIf_val, pinIf_top, pinIf_sub, hold_val, hold_ref, opOr_eq, opPre, op_v0, op_v1, op_v2, op_v3, opRes_eq, fz_nil, fz_val, fz_ref, frz_eq, eat_eq, eput_eq, at_nil, at_cons, sub_ix, sub_fld, put_nil, put_ix, put_fld, loose_eq, noInsO_some,
  fz_pure, fz_lst, fz_ins, map_fz_pure, noIns_pure, noIns_lst, noIns_ins, noInss_nil, noInss_cons, noInss_pure, free_pure, free_lst, free_ins, frees_nil, frees_cons, lf_non, lf_bl, lf_int, lf_str, lf_tup, lf_lst, lf_ins, lfs_nil, lfs_cons, lfs_ints, frees_ints,
  view_val, view_ref, truth_val, truth_ref, tr_bl, tr_int, tr_non, asg_nm, asg_tp, asgD_nm, asgD_tp, asgDs_nil, asgDs_cons, parm, List.getD_cons_zero, List.getD_cons_succ, List.getD_nil,
  callF_eq, call_eq, argsO_nil, argsO_v, argsO_r, argsO_f, given_nil, given_v, given_f, given_r, lent_nil, lent_f, lent_t, backs_nil, backs_f, backs_v, backs_r, List.nodup_nil, List.nodup_cons, List.not_mem_nil, not_false_eq_true, and_self, ite_true, ite_false, if_true, if_false, makeRun_eq, mkPost_ok, mkPost_er,
  run_eq, endK_ret, endK_nx, endK_er, wrapR_eq, posts_nil, posts_t, posts_f, List.length_cons, List.length_nil, List.map_cons, List.map_nil, List.cons_append, List.nil_append, List.getElem?_cons_zero, List.getElem?_cons_succ, List.set_cons_zero, List.set_cons_succ, List.replicate_succ, List.replicate_zero, Nat.reduceAdd, Nat.reduceSub, Nat.reduceLeDiff, Nat.reduceLT, Nat.reduceEqDiff, Nat.zero_add, decide_true, decide_false, decide_eq_true_eq, Bool.false_eq_true, reduceCtorEq, ne_eq, List.append_nil,
     idx_lst, didx_lst, didx_tup, atI_eq, setIx_lst, ixN_in, ite_self, frees_pures, List.length_map, int1_int, int1_bl, len_tup, len_lst, lstof_lst, lstof_tup, tupof_lst, tupof_tup, eqA_int, pow_int, lenOk_eq,  Int.reduceLE, Int.reduceEq, Int.reduceNe, Int.reduceSub, Int.reduceMul, Int.reduceGT, Int.reduceGE, Int.reduceLT, Int.reduceToNat, Int.cast_ofNat_Int, Int.reduceAdd, Int.reduceNeg,  List.isEmpty_nil, it_rng1, it_rng2, itv_lst, itv_tup, it_zipl, it_zip1, it_zip2, it_zip3, it_enum, bitl_int, bmOk_bitl, bmOk_ixl, bmOk_ixt, kindS_int, kindS_lst, kindS_tup, setFld_ins, att_ins, datt_ins, Option.map_some, List.cons_append, od_add, od_sub, od_mul, od_fdiv, od_mod, od_pow, od_lt, od_le, od_gt, od_ge, od_is, od_isn, od_max2, od_min2, od_index, od_neg, od_not, od_len, od_abs, od_int1, od_bitl, od_tupof, od_lstof, od_lrng, od_lrev, od_sorted, od_sum, od_all, od_any, od_eq, od_ne, od_inn, od_nin, od_tup, od_lst, od_idx, od_s00, od_s10, od_s01, od_s11, od_att, od_isi, opp_slc, i_add, i_sub, i_mul, i_fdiv, i_mod, i_pow, i_neg, i_lt, i_le, i_gt, i_ge, i_max, i_min, i_abs, i_not, i_bl, i_nb, i_dO, i_is, i_isn, isNon_non, isNon_int, isNon_bl, isNon_str, isNon_tup, isNon_lst, isNon_ins, blOf_bl, valA_val, freeR_ok, freeR_er, wipe_nil, wipe_cons, lkp_nil, lkp_cons, setF_cons, setF_nil, take_0, take_s, drop_0, drop_s, tysHave_eq, tag_non, tag_bl, tag_int, tag_str, tag_tup, tag_lst, tag_ins, tys_nil, tys_cons, ti_non_int, ti_non_bool, ti_non_str, ti_non_tup, ti_non_lst, ti_non_dct, ti_bool_int, ti_bool_bool, ti_bool_str, ti_bool_tup, ti_bool_lst, ti_bool_dct, ti_int_int, ti_int_bool, ti_int_str, ti_int_tup, ti_int_lst, ti_int_dct, ti_str_int, ti_str_bool, ti_str_str, ti_str_tup, ti_str_lst, ti_str_dct, ti_tup_int, ti_tup_bool, ti_tup_str, ti_tup_tup, ti_tup_lst, ti_tup_dct, ti_lst_int, ti_lst_bool, ti_lst_str, ti_lst_tup, ti_lst_lst, ti_lst_dct, ti_dct_int, ti_dct_bool, ti_dct_str, ti_dct_tup, ti_dct_lst, ti_dct_dct, ti_cc, ti_c_int, ti_c_bool, ti_c_str, ti_c_tup, ti_c_lst, ti_c_dct, ti_non_c, ti_bool_c, ti_int_c, ti_str_c, ti_tup_c, ti_lst_c, ti_dct_c, iL_len, iL_get, sorted_lL, sorted_tL, eqA_lL, eqA_tL, eqA_tt, inD_l, inD_t, rangeI_len, lrev_l, List.contains_cons, List.contains_nil, beq_self_eq_true, Nat.reduceBEq, makeRes_b, mkF_t, lsK_lst, lstAt_eq, apK_lst, appRun_k, muK_lst, mutRun_k, popAt_eq, pop_eq, lfs_iL, iL_rev, br_law_start, br_law_draw, br_law_all, br_is_integer, br_integer_within, br_check_number, br_orders, br_check_riffle, br_greatest_divisor, br_Share_init, br_ways, br_power, br_share_by_rows, br_is_sequence, br_check_order, br_rising, br_riffled, br_riffle_table, br_law_power, br_law_choose, br_law_rising, br_law_gcd, br_law_integer, br_law_is, br_law_whole, br_law_share_is, br_riffle_share, br_law_asked, br_law_order, br_put_together, br_law_put, br_law_puts, br_law_body, br_law, g_CARDS_AT_MOST, g_PACKS_AT_MOST, ini_2, sub_2_2, exs_0_0, exs_0_1, exs_0_3, exs_1_0, exs_1_1, exs_1_3, exs_3_0, exs_3_1, exs_3_3, fld_2_0, fld_2_1, exf_1, exf_3])
set_option maxHeartbeats 4000000
def stO (cells : List Int) (a b c d : Int) : O := .lst [.lst ((cells.map D.int).map O.pure), .pure (.int a), .pure (.int b), .pure (.int c), .pure (.int d)]
theorem s_start {n : Nat} {ns : List Int} : (pd.ctx (n + 1)).fn 0 [.pure (.lst (ns.map .int))] = some (.ok (stO ns 0 0 0 7), [.pure .non]) := by
  rw [fn_law_start]
  unfold b_law_start
  walk_at "ev"
  rfl
structure StOk (a d : Int) : Prop where
  a0 : 0 ≤ a
  d0 : 0 ≤ d
  d1 : d < 2147483647
theorem mulD_ok {d : Int} (h0 : 0 ≤ d) (h1 : d < 2147483647) : mulOk d 48271 = true ∧ mulOk d 40692 = true := ⟨mulOk_sm (by omega) (by decide), mulOk_sm (by omega) (by decide)⟩
theorem draw1 {n : Nat} {cells : List Int} {a b c d k : Int} (S : StOk a d) : ∃ a' b' c' d' x, execs (pd.ctx n) (parm [true, false]) (b_law_draw.take 2) [some (stO cells a b c d), some (.pure (.int k)), none, none] = some (.ok .nx, [some (stO cells a' b' c' d'), some (.pure (.int (if k > 1 then k else 1))), x, none]) ∧ StOk a' d' := by
  obtain ⟨a0, d0, d1⟩ := S
  have mD := mulD_ok d0 d1
  have p1 : powOk 10 18 = true := by decide
  unfold b_law_draw stO
  by_cases h1 : c = 0 ∧ a < cells.length
  · obtain ⟨rfl, h1⟩ := h1
    have e1 : L2.ixN cells.length a = some a.toNat := ixN_in a0 h1
    obtain ⟨z, e2⟩ : ∃ z, cells[a.toNat]? = some z := ⟨_, List.getElem?_eq_getElem (by omega)⟩
    walk_at "ev"
    simp only [h1, decide_true, Bool.and_self, ite_true, e1, List.getElem?_map, e2, Option.map_some]
    walk_at "ev"
    simp only [e1, List.getElem?_map, e2, Option.map_some, p1, ite_true]
    walk_at "ev*"
    by_cases h2 : (if z < 0 then -z else z) ≥ 10 ^ 18
    · simp only [h2, ite_true]
      walk_at "ev*"
      exact ⟨_, _, _, _, _, rfl, by omega, d0, d1⟩
    · simp only [h2, ite_false]
      walk_at "ev*"
      exact ⟨_, _, _, _, _, rfl, by omega, (fmod_lt (by decide)).1, (fmod_lt (by decide)).2⟩
  · walk_at "ev"
    rw [if_neg (by simpa using h1)]
    walk_at "ev"
    exact ⟨_, _, _, _, _, rfl, a0, d0, d1⟩
theorem draw2 {n : Nat} {cells : List Int} {a b c d k : Int} {x : Option O} (S : StOk a d) (hk1 : 0 < k) (hk : k < 10 ^ 18) : ∃ a' b' c' d' g, endK [true, false] (execs (pd.ctx n) (parm [true, false]) (b_law_draw.drop 2) [some (stO cells a b c d), some (.pure (.int k)), x, none]) = some (.ok (.pure (.int g)), [stO cells a' b' c' d', .pure .non]) ∧ StOk a' d' ∧ 0 ≤ g ∧ g < k := by
  obtain ⟨a0, d0, d1⟩ := S
  have mD := mulD_ok d0 d1
  have hk2 : k ≠ 0 := by omega
  have hk3 : divOk k = true := divOk_sm hk1 (by omega)
  have fm : ∀ i : Int, 0 ≤ i.fmod 2147483647 ∧ i.fmod 2147483647 < 2147483647 := fun i => fmod_lt (by decide)
  have mF : ∀ i : Int, mulOk (i.fmod 2147483647) 48271 = true ∧ mulOk (i.fmod 2147483647) 40692 = true := fun i => mulD_ok (fm i).1 (fm i).2
  have gm : ∀ i : Int, 0 ≤ i.fmod k ∧ i.fmod k < k := fun i => fmod_lt hk1
  unfold b_law_draw stO
  by_cases h1 : b > 0
  · walk_at "ev*"
    by_cases h2 : b.fdiv k = 0 ∨ c - 1 = 0
    · rw [if_pos (by simpa using h2)]
      walk_at "ev*"
      exact ⟨_, _, _, _, _, rfl, ⟨a0, d0, d1⟩, gm _⟩
    · rw [if_neg (by simpa using h2)]
      walk_at "ev*"
      exact ⟨_, _, _, _, _, rfl, ⟨a0, d0, d1⟩, gm _⟩
  · walk_at "ev*"
    exact ⟨_, _, _, _, _, rfl, ⟨a0, (fm _).1, (fm _).2⟩, gm _⟩
theorem s_draw {n : Nat} {cells : List Int} {a b c d k : Int} (S : StOk a d) (hk : k < 10 ^ 18) : ∃ a' b' c' d' g, (pd.ctx (n + 1)).fn 1 [stO cells a b c d, .pure (.int k)] = some (.ok (.pure (.int g)), [stO cells a' b' c' d', .pure .non]) ∧ StOk a' d' ∧ 0 ≤ g ∧ g < (if k > 1 then k else 1) := by
  rw [fn_law_draw, xs_split 2]
  obtain ⟨a', b', c', d', x, e, S'⟩ := draw1 (n := n) (cells := cells) (b := b) (c := c) (k := k) S
  rw [e, nxK_nx, run_kf]
  exact draw2 S' (by split <;> omega) (by split <;> omega)
set_option maxHeartbeats 4000000
theorem s_is_integer {n : Nat} {i : Int} : (pd.ctx (n + 1)).fn 3 [.pure (.int i)] = some (.ok (.pure (.bl true)), [.pure .non]) := by
  rw [fn_is_integer]
  unfold b_is_integer
  walk_at "ev"
theorem s_integer_within {n : Nat} {i l m : Int} : (pd.ctx (n + 2)).fn 4 [.pure (.int i), .pure (.int l), .pure (.int m)] = some (.ok (.pure (.bl (decide (l ≤ i) && decide (i ≤ m)))), [.pure .non, .pure .non, .pure .non]) := by
  rw [fn_integer_within]
  unfold b_integer_within
  walk_at "ev"
  simp only [s_is_integer]
  walk_at "ev"
theorem s_check_number {n : Nat} {i l m : Int} (h1 : l ≤ i) (h2 : i ≤ m) : (pd.ctx (n + 3)).fn 5 [.pure (.int i), .pure (.int l), .pure (.int m)] = some (.ok (.pure .non), [.pure .non, .pure .non, .pure .non]) := by
  rw [fn_check_number]
  unfold b_check_number
  walk_at "ev"
  simp only [s_integer_within, h1, h2, decide_true]
  walk_at "ev"
theorem s_gcd {n : Nat} {a b : Nat} : (pd.ctx (n + 1)).fn 8 [.pure (.int a), .pure (.int b)] = some (.ok (.pure (.int (Nat.gcd a b))), [.pure .non, .pure .non]) := by
  rw [fn_greatest_divisor]
  unfold b_greatest_divisor
  walk_at "ev"
  generalize hF : whileLoop _ _ _ = F
  refine Exists.elim (whileRg hF (fun r => r = (.ok .nx, [some (.pure (.int (Nat.gcd a b))), some (.pure (.int (0 : Nat)))])) (fun m e => ∃ a' b' : Nat, e = [some (.pure (.int a')), some (.pure (.int b'))] ∧ Nat.gcd a' b' = Nat.gcd a b ∧ b' = m) b ⟨a, b, rfl, rfl, rfl⟩ ?st) ?fin
  case fin =>
    rintro r ⟨rfl, rfl⟩
    walk_at "ev"
  case st =>
    rintro m e ⟨a', b', he, hg, hm⟩
    subst he hm
    unfold w0_greatest_divisor
    by_cases hb : b' = 0
    · subst hb
      walk_at "ev"
      refine ⟨_, rfl, ?_⟩
      simp at hg
      subst hg
      rfl
    · have hb' : ((b' : Nat) : Int) > 0 := by omega
      have hb2 : ((b' : Nat) : Int) ≠ 0 := by omega
      walk_at "ev*"
      refine ⟨_, rfl, _, Nat.mod_lt a' (Nat.pos_of_ne_zero hb), b', a' % b', by rw [fmod_nat], ?_, rfl⟩
      rw [← hg, Nat.gcd_comm b', ← Nat.gcd_rec, Nat.gcd_comm]
set_option maxHeartbeats 4000000
/-- a share as it is held -/
def shO (a b : Int) : O := .ins 2 [0, 1] [.pure (.int a), .pure (.int b)]
def shD (a b : Int) : D := .ins 2 [0, 1] [.int a, .int b]
theorem s_Share {n : Nat} {a b : Nat} (hb : 0 < b) (ha : a < 1000000000000000000000000000000) (hb2 : b < 1000000000000000000000000000000) : (pd.ctx (n + 2)).fn 9 [.ins 2 [] [], .pure (.int a), .pure (.int b)] = some (.ok (.pure .non), [shO ((a / Nat.gcd a b : Nat) : Int) ((b / Nat.gcd a b : Nat) : Int), .pure .non, .pure .non]) := by
  have h1 : ((b : Nat) : Int) ≠ 0 := by omega
  have h2 : ¬ ((a : Nat) : Int) < 0 := by omega
  have h3 : ¬ ((b : Nat) : Int) < 0 := by omega
  have hg : 0 < Nat.gcd a b := Nat.gcd_pos_of_pos_right a hb
  have hg2 : Nat.gcd a b ≤ b := Nat.gcd_le_right a hb
  have h4 : divOk ((Nat.gcd a b : Nat) : Int) = true := divOk_sm (by omega) (by omega)
  rw [fn_Share_init]
  unfold b_Share_init
  walk_at "ev*"
  simp only [s_gcd]
  walk_at "ev*"
  simp only [fdiv_nat]
  rfl
theorem s_law_integer {n : Nat} {i : Int} : (pd.ctx (n + 1)).fn 22 [.pure (.int i)] = some (.ok (.pure (.bl true)), [.pure .non]) := by
  rw [fn_law_integer]
  unfold b_law_integer
  walk_at "ev"
theorem bits_of {k : Nat} (hk : k < 1000000000000000000000000000000) : ∃ m : Nat, (if ((k : Nat) : Int) = 0 then (0 : Int) else ((k : Nat) : Int).natAbs.log2 + 1) = m ∧ k < 2 ^ m ∧ m ≤ 101 := by
  by_cases h0 : k = 0
  · subst h0
    exact ⟨0, by simp, by simp, by omega⟩
  · refine ⟨k.log2 + 1, ?_, Nat.lt_log2_self, ?_⟩
    · rw [if_neg (by omega)]
      simp
    · have := log2_le (k := k) (m := 100) (by omega)
      omega
theorem gcd_loop {n m1 m2 a b : Nat} (l2 : b < 2 ^ m2) {F : Oc Fl} (hF : forLoop (parm [false, false]) (.nm 2) (fun e => execs (pd.ctx n) (parm [false, false]) f0_law_gcd e) (irange 0 (2 * (m1 + m2) + 4)) [some (.pure (.int a)), some (.pure (.int b)), none] = F) :
    ∃ r, F = some r ∧ ((∃ x, r = (.ok (.ret (.pure (.int (Nat.gcd a b)))), [some (.pure (.int (Nat.gcd a b))), some (.pure (.int (0 : Nat))), x])) ∨ ∃ x, r = (.ok .nx, [some (.pure (.int (Nat.gcd a b))), some (.pure (.int (0 : Nat))), x])) := by
  refine forRg hF _ (fun i e => ∃ x, e = [some (.pure (.int (euc i a b).1)), some (.pure (.int (euc i a b).2)), x]) ⟨none, rfl⟩ ?st ?fin
  case fin =>
    rintro e ⟨x, rfl⟩
    obtain ⟨v1, v2⟩ := euc_val (k := (irange 0 (2 * (m1 + m2) + 4)).length) (a := a) l2 (by rw [irange_len]; omega)
    rw [v1, v2]
    exact .inr ⟨x, rfl⟩
  case st =>
    rintro i x e hx ⟨y, rfl⟩
    obtain ⟨rfl, hi⟩ := irange_get hx
    unfold f0_law_gcd
    have hs := euc_succ i a b
    have hg := euc_gcd i a b
    clear hF l2 hx hi
    by_cases h0 : (euc i a b).2 = 0
    · rw [h0, Nat.gcd_zero_right] at hg
      rw [h0, hg]
      walk_at "ev"
      exact ⟨_, rfl, .inl ⟨_, rfl⟩⟩
    · have h0' : (((euc i a b).2 : Nat) : Int) ≠ 0 := by omega
      rw [if_neg h0] at hs
      rw [hs]
      clear hs hg h0
      walk_at "ev*"
      exact ⟨_, rfl, some (.pure (.int (0 + i))), by rw [fmod_nat]⟩
theorem s_law_gcd {n : Nat} {a b : Nat} (ha : a < 1000000000000000000000000000000) (hb : b < 1000000000000000000000000000000) : (pd.ctx (n + 1)).fn 21 [.pure (.int a), .pure (.int b)] = some (.ok (.pure (.int (Nat.gcd a b))), [.pure .non, .pure .non]) := by
  obtain ⟨m1, e1, l1, q1⟩ := bits_of ha
  obtain ⟨m2, e2, l2, q2⟩ := bits_of hb
  have c1 : mulOk 2 ((m1 : Int) + m2) = true := mulOk_sm (by decide) (by omega)
  have c2 : rngOk (2 * ((m1 : Int) + m2) + 4) = true := rngOk_of (by omega) (by omega)
  have c3 : (2 * ((m1 : Int) + m2) + 4).toNat = 2 * (m1 + m2) + 4 := by omega
  clear ha hb l1 q1 q2
  rw [fn_law_gcd]
  unfold b_law_gcd
  walk_at "ev"
  simp only [e1, e2]
  walk_at "ev*"
  generalize hF : forLoop _ _ _ _ _ = F
  obtain ⟨r, rfl, ⟨x, rfl⟩ | ⟨x, rfl⟩⟩ := gcd_loop l2 hF
  · walk_at "ev"
  · walk_at "ev"
theorem s_law_is {n : Nat} {p q : Int} {a b : Nat} (ha : a < 1000000000000000000000000000000) (hb : b < 1000000000000000000000000000000) (hp : p.natAbs < 1000000000000000000000000000000) (hq : q.natAbs < 1000000000000000000000000000000) (hb0 : 0 < b) : (pd.ctx (n + 2)).fn 23 [.pure (shD p q), .pure (.int a), .pure (.int b)] = some (.ok (.pure (.bl (decide (p * (Nat.gcd a b : Nat) = a) && decide (q * (Nat.gcd a b : Nat) = b)))), [.pure .non, .pure .non, .pure .non]) := by
  have h2 : ¬ ((a : Nat) : Int) < 0 := by omega
  have hg2 : Nat.gcd a b ≤ b := Nat.gcd_le_right a hb0
  have c1 : mulOk p (Nat.gcd a b : Nat) = true := mulOk_sm hp (by omega)
  have c2 : mulOk q (Nat.gcd a b : Nat) = true := mulOk_sm hq (by omega)
  have q1 := @s_law_integer n
  have q2 := s_law_gcd (n := n) ha hb
  clear ha hb hp hq
  rw [fn_law_is]
  unfold b_law_is shD
  walk_at "ev*"
theorem pow_b {a : Int} (h0 : 0 ≤ a) (h1 : a ≤ 50) : ∀ i : Nat, 0 ≤ a ^ i ∧ a ^ i ≤ 50 ^ i
  | 0 => by simp
  | i + 1 => by
    obtain ⟨p0, p1⟩ := pow_b h0 h1 i
    rw [Int.pow_succ, Int.pow_succ]
    exact ⟨Int.mul_nonneg p0 h0, Int.mul_le_mul p1 h1 h0 (by exact Int.le_trans p0 p1)⟩
theorem pow5 {i : Nat} (h : i ≤ 6) : (50 : Int) ^ i ≤ 15625000000 := by
  have : i = 0 ∨ i = 1 ∨ i = 2 ∨ i = 3 ∨ i = 4 ∨ i = 5 ∨ i = 6 := by omega
  rcases this with rfl | rfl | rfl | rfl | rfl | rfl | rfl <;> decide
theorem s_power {n k : Nat} {a : Int} (h0 : 0 ≤ a) (h1 : a ≤ 50) (hk : k ≤ 6) : (pd.ctx (n + 1)).fn 11 [.pure (.int a), .pure (.int k)] = some (.ok (.pure (.int (a ^ k))), [.pure .non, .pure .non]) := by
  have c2 : rngOk (k : Int) = true := rngOk_of (by omega) (by omega)
  have c3 : (k : Int).toNat = k := by omega
  rw [fn_power]
  unfold b_power
  walk_at "ev*"
  generalize hF : forLoop _ _ _ _ _ = F
  refine Exists.elim (forIg hF (fun i e => ∃ x, e = [some (.pure (.int a)), some (.pure (.int k)), some (.pure (.int (a ^ i))), x]) ⟨none, by rw [Int.pow_zero]⟩ ?st) ?go
  case go =>
    rintro e ⟨rfl, x, rfl⟩
    rw [irange_len]
    walk_at "ev"
  case st =>
    rintro i x e hx ⟨y, rfl⟩
    obtain ⟨rfl, hi⟩ := irange_get hx
    obtain ⟨p0, p1⟩ := pow_b h0 h1 i
    have p2 := pow5 (i := i) (by omega)
    have c4 : mulOk (a ^ i) a = true := mulOk_sm (by omega) (by omega)
    clear hx
    unfold f0_power
    walk_at "ev*"
    exact ⟨_, rfl, some (.pure (.int (0 + i))), by rw [Int.pow_succ]⟩
theorem s_law_power {n k : Nat} {a : Int} (h0 : 0 ≤ a) (h1 : a ≤ 50) (hk : k ≤ 6) : (pd.ctx (n + 1)).fn 18 [.pure (.int a), .pure (.int k)] = some (.ok (.pure (.int (a ^ k))), [.pure .non, .pure .non]) := by
  have c2 : rngOk (k : Int) = true := rngOk_of (by omega) (by omega)
  have c3 : (k : Int).toNat = k := by omega
  rw [fn_law_power]
  unfold b_law_power
  walk_at "ev*"
  generalize hF : forLoop _ _ _ _ _ = F
  refine Exists.elim (forIg hF (fun i e => ∃ x, e = [some (.pure (.int a)), some (.pure (.int k)), some (.pure (.int (a ^ i))), x]) ⟨none, by rw [Int.pow_zero]⟩ ?st) ?go
  case go =>
    rintro e ⟨rfl, x, rfl⟩
    rw [irange_len]
    walk_at "ev"
  case st =>
    rintro i x e hx ⟨y, rfl⟩
    obtain ⟨rfl, hi⟩ := irange_get hx
    obtain ⟨p0, p1⟩ := pow_b h0 h1 i
    have p2 := pow5 (i := i) (by omega)
    have c4 : mulOk (a ^ i) a = true := mulOk_sm (by omega) (by omega)
    clear hx
    unfold f0_law_power
    walk_at "ev*"
    exact ⟨_, rfl, some (.pure (.int (0 + i))), by rw [Int.pow_succ]⟩
/-- what ways reckons -/
def waysI (n k : Int) : Nat → Int
  | 0 => 1
  | i + 1 => (waysI n k i * (n - k + (1 + (i : Nat)))).fdiv (1 + (i : Nat))
theorem waysI_b {n k : Int} (h0 : 0 ≤ n - k) (h1 : n - k ≤ 44) : ∀ i : Nat, i ≤ 6 → 0 ≤ waysI n k i ∧ waysI n k i ≤ 50 ^ i
  | 0, _ => by simp [waysI]
  | i + 1, hi => by
    obtain ⟨p0, p1⟩ := waysI_b h0 h1 i (by omega)
    have a1 : 0 ≤ waysI n k i * (n - k + (1 + (i : Nat))) := Int.mul_nonneg p0 (by omega)
    have a2 : waysI n k i * (n - k + (1 + (i : Nat))) ≤ 50 ^ (i + 1) := by
      rw [Int.pow_succ]
      exact Int.mul_le_mul p1 (by omega) (by omega) (Int.le_trans p0 p1)
    unfold waysI
    rw [Int.fdiv_eq_ediv_of_nonneg _ (by omega)]
    refine ⟨Int.ediv_nonneg a1 (by omega), Int.le_trans (Int.ediv_le_self _ a1) a2⟩
theorem s_ways {n k : Nat} {m : Int} (hm : m ≤ 45) (hk : k ≤ 5) (hk1 : 0 < k) : (pd.ctx (n + 1)).fn 10 [.pure (.int m), .pure (.int k)] = some (.ok (.pure (.int (if (k : Int) > m then 0 else waysI m k k))), [.pure .non, .pure .non]) := by
  rw [fn_ways]
  unfold b_ways
  have n0 : ¬ ((k : Int) < 0) := by omega
  by_cases hkm : (k : Int) > m
  · walk_at "ev*"
  · have c2 : rngOk ((k : Int) + 1) = true := rngOk_of (by omega) (by omega)
    have c1 : rngOk 1 = true := rngOk_of (by omega) (by omega)
    have c3 : ((k : Int) + 1 - 1).toNat = k := by omega
    have hkm' : ¬ m < (k : Int) := by omega
    walk_at "ev*"
    generalize hF : forLoop _ _ _ _ _ = F
    refine Exists.elim (forIg hF (fun i e => ∃ x, e = [some (.pure (.int m)), some (.pure (.int k)), some (.pure (.int (waysI m k i))), x]) ⟨none, rfl⟩ ?st) ?go
    case go =>
      rintro e ⟨rfl, x, rfl⟩
      rw [irange_len]
      walk_at "ev"
    case st =>
      rintro i x e hx ⟨y, rfl⟩
      obtain ⟨rfl, hi⟩ := irange_get hx
      obtain ⟨p0, p1⟩ := waysI_b (n := m) (k := k) (by omega) (by omega) i (by omega)
      have p2 := pow5 (i := i) (by omega)
      have c4 : mulOk (waysI m k i) (m - k + (1 + (i : Nat))) = true := mulOk_sm (by omega) (by omega)
      have c5 : divOk (1 + (i : Nat)) = true := divOk_sm (by omega) (by omega)
      clear hx c1 c2 c3
      unfold f0_ways
      walk_at "ev*"
      exact ⟨_, rfl, some (.pure (.int (1 + i))), rfl⟩
open M75
set_option maxHeartbeats 4000000
/-- an order as it is handed: a list or a tuple -/
def sq (t : Bool) (l : List Int) : D := if t then .tup (iL l) else .lst (iL l)
theorem sq_f {l : List Int} : sq false l = .lst (iL l) := (rfl)
theorem sq_t {l : List Int} : sq true l = .tup (iL l) := (rfl)
theorem s_is_sequence {n : Nat} {t : Bool} {l : List Int} : (pd.ctx (n + 1)).fn 13 [.pure (sq t l)] = some (.ok (.pure (.bl true)), [.pure .non]) := by
  rw [fn_is_sequence]
  unfold b_is_sequence sq
  cases t
  · rw [if_neg Bool.false_ne_true]
    walk_at "ev"
  · rw [if_pos rfl]
    walk_at "ev"
def intF (g : Int → Option O) : D → Option O
  | .int i => g i
  | _ => none
theorem intF_iL {g : Int → Option O} {ns : List Int} : (iL ns).filterMap (intF g) = ns.filterMap g := by
  unfold iL
  rw [List.filterMap_map]
  rfl
theorem s_check_order {n c : Nat} {t : Bool} {l : List Int} (o : Ord c l) : (pd.ctx (n + 2)).fn 14 [.pure (sq t l)] = some (.ok (.pure .non), [.pure .non]) := by
  have h1 : (1 : Int) ≤ ((l.length : Nat) : Int) := by rw [o.len]; have := o.c1; omega
  have h2 : ((l.length : Nat) : Int) ≤ 5 := by rw [o.len]; have := o.c5; omega
  have hz : l.length ≤ 16777216 := by omega
  have q1 := @s_is_sequence n t l
  have q2 := @s_is_integer n
  have q3 := lrng_nat hz
  have q4 : (l.mergeSort fun x y => decide (x ≤ y)) = rangeI l.length := by
    rw [o.len]
    exact sort_eq o.perm rangeI_sorted
  have q5 : allD (.lst (l.map fun _ => D.bl true)) = some (.pure (.bl true)) := by
    have e : (l.map fun _ => D.bl true) = (l.map fun _ => true).map D.bl := by rw [List.map_map]; rfl
    have e2 : (l.map fun _ => true).all id = true := by simp
    rw [e, allD_bls, e2]
  rw [fn_check_order]
  unfold b_check_order
  have lc : ∀ (t : Bool), lcRun [1] (.nm 1) .seq (fun env => some (.ok true, env)) (fun env => evalE (pd.ctx (n + 1)) e0_check_order env) [.val (sq t l)] [some (.pure (sq t l)), none] = some (.ok (.lst ((l.map fun _ => D.bl true).map O.pure)), [some (.pure (sq t l)), none]) := by
    intro t
    have := lcRg (ds := [sq t l]) (l := true) (own := [1]) (tg := .nm 1) (k := .seq) (test := fun env => some (.ok true, env)) (elt := fun env => evalE (pd.ctx (n + 1)) e0_check_order env) (as := [.val (sq t l)]) (env := [some (.pure (sq t l)), none]) rfl [some (.pure (sq t l)), none] (iL l) (intF fun _ => some (.pure (.bl true))) rfl (by cases t <;> rfl) rfl (by rw [iL_len]; omega) fun x hx => by
      obtain ⟨i, hi, rfl⟩ := List.mem_map.mp hx
      unfold e0_check_order
      clear q1 q3 q4 q5 h1 h2
      walk_at "ev*"
      exact ⟨_, rfl, rfl⟩
    rw [this, intF_iL]
    simp
  cases t
  · have lc' := lc false
    rw [sq_f] at q1 lc' ⊢
    clear lc
    walk_at "ev*"
  · have lc' := lc true
    rw [sq_t] at q1 lc' ⊢
    clear lc
    walk_at "ev*"
theorem map_iL {ns : List Int} : ns.map (fun c => O.pure (.int c)) = (iL ns).map O.pure := by
  unfold iL
  rw [List.map_map]
  rfl
theorem index_sq {t : Bool} {l : List Int} {i : Int} (h : i ∈ l) : indexD (sq t l) (.int i) = some (.pure (.int (l.idxOf i))) := by
  cases t
  · exact index_l h
  · exact index_t h
theorem filterMap_if {α β : Type} {p : α → Bool} {g : α → β} : ∀ {xs : List α}, xs.filterMap (fun x => if p x = true then some (g x) else none) = (xs.filter p).map g
  | [] => rfl
  | x :: xs => by
    rw [List.filterMap_cons, List.filter_cons]
    by_cases h : p x = true
    · rw [if_pos h, if_pos h, List.map_cons, filterMap_if]
    · rw [if_neg h, if_neg h, filterMap_if]
theorem s_rising {n c : Nat} {t : Bool} {l : List Int} (o : Ord c l) : (pd.ctx (n + 3)).fn 15 [.pure (sq t l)] = some (.ok (.pure (.int (riseI l))), [.pure .non]) := by
  have q1 := s_check_order (n := n) (t := t) o
  have q2 : rngOk ((l.length : Nat) : Int) = true := rngOk_of (by omega) (by have := o.len; have := o.c5; omega)
  have q3 : rngOk 1 = true := rngOk_of (by omega) (by omega)
  have hl := o.len
  have h1 := o.c1
  have h5 := o.c5
  have lc : lcRun [1] (.nm 1) .rng2 (fun env => evalIfs (pd.ctx (n + 2)) c0_rising env) (fun env => evalE (pd.ctx (n + 2)) e0_rising env) [.val (.int 1), .val (.int ((l.length : Nat) : Int))] [some (.pure (sq t l)), none] = some (.ok (.lst ((iL (((List.range (l.length - 1)).map fun i : Nat => 1 + (i : Int)).filter fun c => decide (l.idxOf c < l.idxOf (c - 1)))).map O.pure)), [some (.pure (sq t l)), none]) := by
    have := lcRg (ds := [.int 1, .int ((l.length : Nat) : Int)]) (l := true) (own := [1]) (tg := .nm 1) (k := .rng2) (test := fun env => evalIfs (pd.ctx (n + 2)) c0_rising env) (elt := fun env => evalE (pd.ctx (n + 2)) e0_rising env) (as := [.val (.int 1), .val (.int ((l.length : Nat) : Int))]) (env := [some (.pure (sq t l)), none]) rfl [some (.pure (sq t l)), none] (iL ((List.range (l.length - 1)).map fun i : Nat => 1 + (i : Int))) (intF fun c => if decide (l.idxOf c < l.idxOf (c - 1)) = true then some (.pure (.int c)) else none) rfl (by
        rw [it_rng2, q2, q3, irange_iL, show (((l.length : Nat) : Int) - 1).toNat = l.length - 1 by omega]
        rfl) rfl (by rw [iL_len]; simp; omega) fun x hx => by
      obtain ⟨i, hi, rfl⟩ := List.mem_map.mp hx
      obtain ⟨j, hj, rfl⟩ := List.mem_map.mp hi
      have hj := List.mem_range.mp hj
      have i1 := index_sq (t := t) (o.mem (x := 1 + (j : Int)) (by omega) (by omega))
      have i2 := index_sq (t := t) (o.mem (x := 1 + (j : Int) - 1) (by omega) (by omega))
      have b1 : bmOk .index (some (sq t l)) = true := by cases t <;> rfl
      have b2 : kindS (some (sq t l)) (some (sq t l)) = true := by cases t <;> rfl
      unfold e0_rising c0_rising intF
      clear q1 q2 q3 hl h1 h5 hx hi hj o
      by_cases hlt : l.idxOf (1 + (j : Int)) < l.idxOf (1 + (j : Int) - 1)
      · have hlt' : ((l.idxOf (1 + (j : Int)) : Nat) : Int) < ((l.idxOf (1 + (j : Int) - 1) : Nat) : Int) := by omega
        walk_at "ev*"
        exact ⟨_, rfl, rfl⟩
      · have hlt' : ¬ ((l.idxOf (1 + (j : Int)) : Nat) : Int) < ((l.idxOf (1 + (j : Int) - 1) : Nat) : Int) := by omega
        walk_at "ev*"
        exact ⟨_, rfl, rfl⟩
    rw [this, intF_iL, filterMap_if, map_iL]
  have ln : lenD (sq t l) = some (.pure (.int ((l.length : Nat) : Int))) := by cases t <;> simp [sq, lenD, iL_len]
  rw [fn_rising]
  unfold b_rising
  clear q2 q3 hl h1 h5
  walk_at "ev*"
  unfold riseI
  rfl
open M75
set_option maxHeartbeats 4000000
theorem walk_take {l : List Int} {w : Int} {i : Nat} {x : Int} (h : l[i]? = some x) : walkI (l.take (i + 1)) w = if x = walkI (l.take i) w then walkI (l.take i) w + 1 else walkI (l.take i) w := by
  obtain ⟨hi, rfl⟩ := List.getElem?_eq_some_iff.mp h
  unfold walkI
  rw [List.take_succ_eq_append_getElem hi, List.foldl_append]
  rfl
theorem s_law_rising {n c : Nat} {l : List Int} (o : OrdM c l) : (pd.ctx (n + 1)).fn 20 [.pure (.lst (iL l))] = some (.ok (.pure (.int (riseI l))), [.pure .non]) := by
  have q1 : rngOk 5 = true := rngOk_of (by omega) (by omega)
  have hz := o.c5
  rw [fn_law_rising]
  unfold b_law_rising
  walk_at "ev*"
  generalize hF : forLoop _ _ _ _ _ = F
  refine Exists.elim (forIg hF (fun i e => ∃ x y, e = [some (.pure (.lst (iL l))), some (.pure (.int (lawR l i).1)), some (.pure (.int (lawR l i).2)), x, y]) ⟨none, none, rfl⟩ ?st) ?go
  case go =>
    rintro e ⟨rfl, x, y, rfl⟩
    have e5 : (irange 0 5).length = 5 := rfl
    rw [e5, o.law]
    walk_at "ev"
  case st =>
    rintro i x e hx ⟨y, z, rfl⟩
    obtain ⟨rfl, hi⟩ := irange_get hx
    have hs : lawR l (i + 1) = if (lawR l i).1 < l.length then (walkI l (lawR l i).1, (lawR l i).2 + 1) else lawR l i := rfl
    clear hF hx q1
    rw [hs]
    generalize lawR l i = wk
    obtain ⟨w, k⟩ := wk
    unfold f0_law_rising
    by_cases hw : w < ((l.length : Nat) : Int)
    · rw [if_pos hw]
      walk_at "ev*"
      generalize hG : forLoop _ _ _ _ _ = G
      refine Exists.elim (forIg hG (fun j e => ∃ y', e = [some (.pure (.lst (iL l))), some (.pure (.int (walkI (l.take j) w))), some (.pure (.int (k + 1))), some (.pure (.int (0 + (i : Nat)))), y']) ⟨z, rfl⟩ ?st2) ?go2
      case go2 =>
        rintro e ⟨rfl, y', rfl⟩
        rw [iL_len, List.take_length]
        exact ⟨_, rfl, _, _, rfl⟩
      case st2 =>
        rintro j x e hx ⟨y', rfl⟩
        rw [iL_get] at hx
        cases hj : l[j]? with
        | none => rw [hj] at hx; cases hx
        | some v =>
          rw [hj] at hx
          cases hx
          rw [walk_take hj]
          clear hG hj hs hw o hz
          unfold f1_law_rising
          by_cases hv : v = walkI (l.take j) w
          · rw [if_pos hv]
            rw [hv]
            walk_at "ev"
            exact ⟨_, rfl, _, rfl⟩
          · rw [if_neg hv]
            walk_at "ev*"
            exact ⟨_, rfl, _, rfl⟩
    · rw [if_neg hw]
      walk_at "ev*"
      exact ⟨_, rfl, _, _, rfl⟩
theorem s_law_choose {n c : Nat} {m : Int} (hc : c ≤ 5) (hc1 : 1 ≤ c) (hm0 : -10 ≤ m) (hm : m ≤ 45) : (pd.ctx (n + 1)).fn 19 [.pure (.int m), .pure (.int c)] = some (.ok (.pure (.int (chI m c))), [.pure .non, .pure .non]) := by
  have b : ∀ i : Nat, i ≤ 5 → 0 ≤ chO m i ∧ chO m i ≤ 50 ^ i := by
    intro i
    induction i with
    | zero => intro _; simp [chO]
    | succ i ih =>
      intro hi
      obtain ⟨p0, p1⟩ := ih (by omega)
      have h0 : 0 ≤ max 0 (m - i) := by omega
      unfold chO
      rw [Int.pow_succ]
      exact ⟨Int.mul_nonneg p0 h0, Int.mul_le_mul p1 (by omega) h0 (Int.le_trans p0 p1)⟩
  have u : ∀ i : Nat, i ≤ 5 → 1 ≤ chU i ∧ chU i ≤ 1000 := by
    intro i hi
    have : i = 0 ∨ i = 1 ∨ i = 2 ∨ i = 3 ∨ i = 4 ∨ i = 5 := by omega
    rcases this with rfl | rfl | rfl | rfl | rfl | rfl <;> decide
  have q1 : rngOk ((c : Nat) : Int) = true := rngOk_of (by omega) (by omega)
  have q2 : ((c : Nat) : Int).toNat = c := by omega
  have q3 : divOk (chU c) = true := divOk_sm (by have := u c hc; omega) (by have := u c hc; omega)
  rw [fn_law_choose]
  unfold b_law_choose
  walk_at "ev*"
  generalize hF : forLoop _ _ _ _ _ = F
  refine Exists.elim (forIg hF (fun i e => ∃ x, e = [some (.pure (.int m)), some (.pure (.int c)), some (.pure (.int (chO m i))), some (.pure (.int (chU i))), x]) ⟨none, rfl⟩ ?st) ?go
  case go =>
    rintro e ⟨rfl, x, rfl⟩
    rw [irange_len]
    clear b u hF q1 q2
    walk_at "ev*"
    rfl
  case st =>
    rintro i x e hx ⟨y, rfl⟩
    obtain ⟨rfl, hi⟩ := irange_get hx
    have c1 : mulOk (chO m i) (if m - (i : Nat) > 0 then m - (i : Nat) else 0) = true := mulOk_sm (by have := b i (by omega); have := pow5 (i := i) (by omega); omega) (by split <;> omega)
    have c2 : mulOk (chU i) ((i : Nat) + 1) = true := mulOk_sm (by have := u i (by omega); omega) (by omega)
    have e0 : (0 : Int) + (i : Nat) = (i : Nat) := by omega
    have e1 : (if m - (i : Nat) > 0 then m - (i : Nat) else 0) = max 0 (m - (i : Nat)) := by split <;> omega
    rw [e1] at c1
    clear hF hx b u q1 q2 q3
    unfold f0_law_choose
    rw [e0]
    walk_at "ev"
    rw [e1]
    walk_at "ev*"
    exact ⟨_, rfl, _, rfl⟩
theorem sh_div {a b : Nat} (hb : 0 < b) : ((a / Nat.gcd a b : Nat) : Int) * ((Nat.gcd a b : Nat) : Int) = (a : Int) ∧ ((b / Nat.gcd a b : Nat) : Int) * ((Nat.gcd a b : Nat) : Int) = (b : Int) := by
  have h1 := Nat.div_mul_cancel (Nat.gcd_dvd_left a b)
  have h2 := Nat.div_mul_cancel (Nat.gcd_dvd_right a b)
  refine ⟨?_, ?_⟩
  · conv => rhs; rw [← h1]
    push_cast
    rfl
  · conv => rhs; rw [← h2]
    push_cast
    rfl
theorem s_share_by_rows {n c p r : Nat} (c1 : 1 ≤ c) (c5 : c ≤ 5) (p1 : 1 ≤ p) (p40 : p ≤ 40) (r1 : 1 ≤ r) (rc : r ≤ c) : (pd.ctx (n + 3)).fn 12 [.pure (.int c), .pure (.int r), .pure (.int p)] = some (.ok (.pure (shD ((wN c p r / Nat.gcd (wN c p r) (p ^ c) : Nat) : Int) ((p ^ c / Nat.gcd (wN c p r) (p ^ c) : Nat) : Int))), [.pure .non, .pure .non, .pure .non]) := by
  obtain ⟨h1, h2, h3⟩ := sh_of c1 c5 p1 p40 r1 rc
  have q1 := s_ways (n := n + 1) (k := c) (m := (p : Int) + c - r) (by omega) c5 (by omega)
  have q2 := s_power (n := n + 1) (k := c) (a := (p : Int)) (by omega) (by omega) (by omega)
  have e1 : waysI ((p : Int) + c - r) c c = M75.waysI ((p : Int) + c - r) c c := by
    have : ∀ i, waysI ((p : Int) + c - r) c i = M75.waysI ((p : Int) + c - r) c i := by
      intro i
      induction i with
      | zero => rfl
      | succ i ih => unfold waysI M75.waysI; rw [ih]
    exact this c
  rw [e1, h2] at q1
  have e2 : ((p : Int)) ^ c = ((p ^ c : Nat) : Int) := by push_cast; rfl
  rw [e2] at q2
  have hp : 0 < p ^ c := Nat.pow_pos (by omega)
  have hp2 : p ^ c ≤ 50 ^ 5 := Nat.le_trans (Nat.pow_le_pow_left (by omega) c) (Nat.pow_le_pow_right (by omega) c5)
  have q3 := s_Share (n := n) (a := wN c p r) (b := p ^ c) hp (by omega) (by omega)
  rw [fn_share_by_rows]
  unfold b_share_by_rows
  clear h1 h2 h3 e1 e2 hp hp2
  unfold shO at q3
  walk_at "ev*"
  rfl
theorem s_check_riffle {n c p : Nat} (c1 : 1 ≤ c) (c5 : c ≤ 5) (p1 : 1 ≤ p) (p40 : p ≤ 40) : (pd.ctx (n + 4)).fn 7 [.pure (.int c), .pure (.int p)] = some (.ok (.pure .non), [.pure .non, .pure .non]) := by
  have q1 := s_check_number (n := n) (i := (c : Int)) (l := 1) (m := 5) (by omega) (by omega)
  have q2 := s_check_number (n := n) (i := (p : Int)) (l := 1) (m := 40) (by omega) (by omega)
  rw [fn_check_riffle]
  unfold b_check_riffle
  clear c1 c5 p1 p40
  walk_at "ev*"
theorem s_riffle_share {n c p : Nat} {t : Bool} {l : List Int} (o : OrdM c l) (p1 : 1 ≤ p) (p40 : p ≤ 40) : (pd.ctx (n + 4)).fn 26 [.pure (sq t l), .pure (.int p)] = some (.ok (.pure (shD ((wN c p (riseI l) / Nat.gcd (wN c p (riseI l)) (p ^ c) : Nat) : Int) ((p ^ c / Nat.gcd (wN c p (riseI l)) (p ^ c) : Nat) : Int))), [.pure .non, .pure .non]) := by
  have q1 := s_check_number (n := n) (i := (p : Int)) (l := 1) (m := 40) (by omega) (by omega)
  have q2 := s_rising (n := n) (t := t) o.toOrd
  have q3 := s_share_by_rows (n := n) (c := c) (p := p) (r := riseI l) o.c1 o.c5 p1 p40 (rise1 l) o.rle
  have q4 : lenD (sq t l) = some (.pure (.int (c : Int))) := by cases t <;> simp [sq, lenD, iL_len, o.len]
  rw [fn_riffle_share]
  unfold b_riffle_share
  clear o p1 p40
  walk_at "ev*"
theorem s_law_share_is {n c p : Nat} {l : List Int} (o : OrdM c l) (p1 : 1 ≤ p) (p40 : p ≤ 40) : (pd.ctx (n + 3)).fn 25 [.pure (shD ((wN c p (riseI l) / Nat.gcd (wN c p (riseI l)) (p ^ c) : Nat) : Int) ((p ^ c / Nat.gcd (wN c p (riseI l)) (p ^ c) : Nat) : Int)), .pure (.lst (iL l)), .pure (.int p)] = some (.ok (.pure (.bl true)), [.pure .non, .pure .non, .pure .non]) := by
  obtain ⟨h1, h2, h3⟩ := sh_of o.c1 o.c5 p1 p40 (rise1 l) o.rle
  have o1 := o.c1
  have o5 := o.c5
  have r1 := rise1 l
  have rc := o.rle
  have q1 := s_law_rising (n := n + 1) o
  have q2 := s_law_choose (n := n + 1) (c := c) (m := (p : Int) + c - (riseI l : Nat)) o.c5 o.c1 (by omega) (by omega)
  rw [h1] at q2
  have q3 := s_law_power (n := n + 1) (k := c) (a := (p : Int)) (by omega) (by omega) (by omega)
  have e2 : ((p : Int)) ^ c = ((p ^ c : Nat) : Int) := by push_cast; rfl
  rw [e2] at q3
  have hp : 0 < p ^ c := Nat.pow_pos (by omega)
  have hp2 : p ^ c ≤ 50 ^ 5 := Nat.le_trans (Nat.pow_le_pow_left (by omega) c) (Nat.pow_le_pow_right (by omega) o.c5)
  have d1 := Nat.div_le_self (wN c p (riseI l)) (Nat.gcd (wN c p (riseI l)) (p ^ c))
  have d2 := Nat.div_le_self (p ^ c) (Nat.gcd (wN c p (riseI l)) (p ^ c))
  have q4 := s_law_is (n := n) (p := ((wN c p (riseI l) / Nat.gcd (wN c p (riseI l)) (p ^ c) : Nat) : Int)) (q := ((p ^ c / Nat.gcd (wN c p (riseI l)) (p ^ c) : Nat) : Int)) (a := wN c p (riseI l)) (b := p ^ c) (by omega) (by omega) (by rw [Int.natAbs_natCast]; exact Nat.lt_of_le_of_lt d1 (by omega)) (by rw [Int.natAbs_natCast]; exact Nat.lt_of_le_of_lt d2 (by omega)) hp
  obtain ⟨g1, g2⟩ := sh_div (a := wN c p (riseI l)) (b := p ^ c) hp
  rw [g1, g2] at q4
  simp only [decide_true, Bool.and_self] at q4
  have ln : l.length = c := o.len
  rw [fn_law_share_is]
  unfold b_law_share_is
  clear h1 h2 h3 o o1 o5 r1 rc e2 hp hp2 d1 d2 g1 g2 p1 p40
  walk_at "ev*"
open M75
set_option maxHeartbeats 0
theorem c_cases {c : Nat} (h1 : 1 ≤ c) (h5 : c ≤ 5) : c = 1 ∨ c = 2 ∨ c = 3 ∨ c = 4 ∨ c = 5 := by omega
theorem s_orders {n c : Nat} (h1 : 1 ≤ c) (h5 : c ≤ 5) : (pd.ctx (n + 4)).fn 6 [.pure (.int c)] = some (.ok (.pure (.tup ((allOrd c).map fun l => .tup (iL l)))), [.pure .non]) := by
  rcases c_cases h1 h5 with rfl | rfl | rfl | rfl | rfl <;> kernel_rfl
theorem s_law_all {n c : Nat} (h1 : 1 ≤ c) (h5 : c ≤ 5) : (pd.ctx (n + 1)).fn 2 [.pure (.int c)] = some (.ok (.pure (.lst ((allOrd c).map fun l => .lst (iL l)))), [.pure .non]) := by
  rcases c_cases h1 h5 with rfl | rfl | rfl | rfl | rfl <;> kernel_rfl
open M75
set_option maxHeartbeats 4000000
theorem argAt_stO {i : Nat} {p : List T.Step} {cells : List Int} {a b c d : Int} : argAt i p (stO cells a b c d) = .ref i p := (rfl)
theorem erase_map {α β : Type} {f : α → β} : ∀ {ns : List α} {k : Nat}, (ns.map f).eraseIdx k = (ns.eraseIdx k).map f
  | [], _ => rfl
  | _ :: _, 0 => rfl
  | n :: ns, k + 1 => by
    rw [List.map_cons, List.eraseIdx_cons_succ, List.eraseIdx_cons_succ, List.map_cons, erase_map]
theorem pures_erase {ns : List Int} {k : Nat} : ((iL ns).map O.pure).eraseIdx k = (iL (ns.eraseIdx k)).map O.pure := by
  unfold iL
  rw [erase_map, erase_map]
theorem pures_snoc {ns : List Int} {x : Int} : (iL ns).map O.pure ++ [O.pure (.int x)] = (iL (ns ++ [x])).map O.pure := by
  unfold iL
  simp
theorem pures_get {ns : List Int} {k : Nat} : ((iL ns).map O.pure)[k]? = (ns[k]?).map fun x => O.pure (.int x) := by
  unfold iL
  rw [List.map_map, List.getElem?_map]
  rfl
theorem rng_ord {c : Nat} (h1 : 1 ≤ c) (h5 : c ≤ 5) : rangeI c ∈ allOrd c ∧ (rangeI c).reverse ∈ allOrd c := by
  rcases c_cases h1 h5 with rfl | rfl | rfl | rfl | rfl <;> decide +kernel
theorem s_law_order {n c : Nat} {cells : List Int} {a b d e : Int} (S : StOk a e) (h1 : 1 ≤ c) (h5 : c ≤ 5) : ∃ a' b' d' e' l, (pd.ctx (n + 2)).fn 28 [stO cells a b d e, .pure (.int c)] = some (.ok (.pure (.lst (iL l))), [stO cells a' b' d' e', .pure .non]) ∧ StOk a' e' ∧ l ∈ allOrd c := by
  have sa := @argAt_stO
  have q1 := lrng_nat (n := c) (by omega)
  have q2 : rngOk ((c : Nat) : Int) = true := rngOk_of (by omega) (by omega)
  have q3 : ((c : Nat) : Int).toNat = c := by omega
  obtain ⟨r1, r2⟩ := rng_ord h1 h5
  obtain ⟨a1, b1, d1, e1, g, h, S1, g0, g1⟩ := s_draw (n := n) (cells := cells) (b := b) (c := d) (k := 8) S (by omega)
  rw [fn_law_order]
  unfold b_law_order
  by_cases k0 : g = 0
  · subst k0
    clear g0 g1
    walk_at "ev*"
    exact ⟨_, _, _, _, _, rfl, S1, r1⟩
  · by_cases k1 : g = 1
    · subst k1
      clear g0 g1
      walk_at "ev*"
      exact ⟨_, _, _, _, _, rfl, S1, r2⟩
    · clear g0 g1
      walk_at "ev*"
      generalize hF : forLoop _ _ _ _ _ = F
      clear q1 r1 r2 h
      refine Exists.elim (forIg hF (fun i z => ∃ a b d e left row x, StOk a e ∧ z = [some (stO cells a b d e), some (.pure (.int c)), some (.pure (.int g)), some (.lst ((iL left).map O.pure)), some (.lst ((iL row).map O.pure)), x] ∧ left.length + i = c ∧ ∀ p ∈ picks (c - i) left, row ++ p ∈ allOrd c) ⟨a1, b1, d1, e1, rangeI c, [], none, S1, rfl, by rw [rangeI_len]; omega, fun p hp => by simpa [allOrd] using hp⟩ ?st) ?go
      case go =>
        rintro z ⟨rfl, a, b, d, e, left, row, x, S2, rfl, hl, hp⟩
        rw [irange_len] at hl hp
        have hr := hp [] (by rw [Nat.sub_self]; simp [picks])
        rw [List.append_nil] at hr
        clear hp hF S1
        walk_at "ev*"
        exact ⟨_, _, _, _, _, rfl, S2, hr⟩
      case st =>
        rintro i x z hx ⟨a, b, d, e, left, row, y, S2, rfl, hl, hp⟩
        obtain ⟨rfl, hi⟩ := irange_get hx
        obtain ⟨a2, b2, d2, e2, g, h, S3, g0, g1⟩ := s_draw (n := n) (cells := cells) (b := b) (c := d) (k := ((left.length : Nat) : Int)) S2 (by omega)
        have gl : g < ((left.length : Nat) : Int) := by split at g1 <;> omega
        obtain ⟨v, hv⟩ : ∃ v, left[g.toNat]? = some v := ⟨_, List.getElem?_eq_getElem (by omega)⟩
        have c1 : rngOk g = true := rngOk_of (by omega) (by omega)
        have c2 : L2.ixN left.length g = some g.toNat := ixN_in g0 gl
        have c3 := @pures_erase left g.toNat
        have c4 := @pures_snoc row v
        have c5 : ((iL left).map O.pure)[g.toNat]? = some (.pure (.int v)) := by rw [pures_get, hv]; rfl
        have c6 : row.length + 1 ≤ 16777216 := by
          have h0 := hp
          have : ∀ (m : Nat) (left : List Int), left.length = m → ∃ p, p ∈ picks m left := by
            intro m
            induction m with
            | zero => intro left _; exact ⟨[], by simp [picks]⟩
            | succ m ih =>
              intro left hm
              obtain ⟨x, hx⟩ : ∃ x, left[0]? = some x := ⟨_, List.getElem?_eq_getElem (by omega)⟩
              obtain ⟨p, hp⟩ := ih (left.eraseIdx 0) (by rw [List.length_eraseIdx_of_lt (by omega)]; omega)
              exact ⟨x :: p, picks_mem hx hp⟩
          obtain ⟨p, hp'⟩ := this (c - i) left (by omega)
          have := (ordM h1 h5 (hp p hp')).len
          rw [List.length_append] at this
          omega
        have c7 := lenOk_of c6
        clear hF hx S1 q2 q3 g1
        unfold f0_law_order
        walk_at "ev*"
        refine ⟨_, rfl, _, _, _, _, _, _, _, S3, rfl, ?_, ?_⟩
        · rw [List.length_eraseIdx_of_lt (by omega)]
          omega
        · intro p hp'
          have := hp (v :: p) (by
            rw [show c - i = c - (i + 1) + 1 by omega]
            exact picks_mem hv hp')
          simpa using this
open M75
set_option maxHeartbeats 4000000
theorem idx_sq {t : Bool} {l : List Int} {p : Int} (h0 : 0 ≤ p) (h1 : p < l.length) : D.idx (sq t l) (.int p) = some (.int (getI l p)) := by
  have : L2.atI (iL l) p = some (.int (getI l p)) := by
    rw [atI_eq, ixN_in h0 (by rw [iL_len]; exact h1), oo_some, run_kf, iL_get, getI_get h0 h1]
    rfl
  cases t
  · exact this
  · exact this
theorem seq_sq {t : Bool} {l : List Int} : iterD .seq [sq t l] = some (iL l) := by cases t <;> rfl
theorem fm_some {α β : Type} {g : α → β} {xs : List α} : xs.filterMap (fun x => some (g x)) = xs.map g := by
  rw [List.filterMap_eq_map']
theorem s_put_together {n c : Nat} {t u : Bool} {a b : List Int} (o1 : Ord c a) (o2 : Ord c b) : (pd.ctx (n + 3)).fn 29 [.pure (sq t a), .pure (sq u b)] = some (.ok (.pure (.tup (iL (comp a b)))), [.pure .non, .pure .non]) := by
  have q1 := s_check_order (n := n) (t := t) o1
  have q2 := s_check_order (n := n) (t := u) o2
  have q3 : lenD (sq t a) = some (.pure (.int (c : Int))) := by cases t <;> simp [sq, lenD, iL_len, o1.len]
  have q4 : lenD (sq u b) = some (.pure (.int (c : Int))) := by cases u <;> simp [sq, lenD, iL_len, o2.len]
  have h5 := o2.c5
  have hl := o2.len
  have lc : lcRun [2] (.nm 2) .seq (fun env => some (.ok true, env)) (fun env => evalE (pd.ctx (n + 2)) e0_put_together env) [.val (sq u b)] [some (.pure (sq t a)), some (.pure (sq u b)), none] = some (.ok (.lst ((iL (comp a b)).map O.pure)), [some (.pure (sq t a)), some (.pure (sq u b)), none]) := by
    have := lcRg (ds := [sq u b]) (l := true) (own := [2]) (tg := .nm 2) (k := .seq) (test := fun env => some (.ok true, env)) (elt := fun env => evalE (pd.ctx (n + 2)) e0_put_together env) (as := [.val (sq u b)]) (env := [some (.pure (sq t a)), some (.pure (sq u b)), none]) rfl [some (.pure (sq t a)), some (.pure (sq u b)), none] (iL b) (intF fun p => some (.pure (.int (getI a p)))) rfl seq_sq rfl (by rw [iL_len]; omega) fun x hx => by
      obtain ⟨p, hp, rfl⟩ := List.mem_map.mp hx
      obtain ⟨h0, h1⟩ := o2.rng hp
      have i1 := idx_sq (t := t) (l := a) h0 (by rw [o1.len]; exact h1)
      unfold e0_put_together intF
      clear q1 q2 q3 q4 hx hp o1 o2
      walk_at "ev*"
      exact ⟨_, rfl, rfl⟩
    rw [this, intF_iL, fm_some]
    unfold comp
    rw [← map_iL, List.map_map]
    rfl
  rw [fn_put_together]
  unfold b_put_together
  clear o1 o2 h5 hl
  walk_at "ev*"
theorem zip_iL : ∀ {x : List Int}, zip2D (iL x) (iL x) = x.map fun a => D.tup [.int a, .int a]
  | [] => rfl
  | a :: x => by
    have e : iL (a :: x) = .int a :: iL x := rfl
    rw [e, zip2D, zip_iL]
    rfl
theorem s_law_put {n : Nat} {x : List Int} : (pd.ctx (n + 2)).fn 30 [.pure (.tup (iL x)), .pure (.lst (iL x))] = some (.ok (.pure (.bl true)), [.pure .non, .pure .non]) := by
  have q1 := @s_law_integer n
  rw [fn_law_put]
  unfold b_law_put
  walk_at "ev"
  generalize hF : forLoop _ _ _ _ _ = F
  refine Exists.elim (forIg hF (fun i e => ∃ y z, e = [some (.pure (.tup (iL x))), some (.pure (.lst (iL x))), y, z]) ⟨none, none, rfl⟩ ?st) ?go
  case go =>
    rintro e ⟨rfl, y, z, rfl⟩
    walk_at "ev"
  case st =>
    rintro i d e hx ⟨y, z, rfl⟩
    rw [zip_iL, List.getElem?_map] at hx
    cases hj : x[i]? with
    | none => rw [hj] at hx; cases hx
    | some v =>
      rw [hj] at hx
      cases hx
      clear hF hj
      unfold f0_law_put
      walk_at "ev*"
      exact ⟨_, rfl, _, _, rfl⟩
theorem s_law_asked {n c p : Nat} {cells l : List Int} {a b d e : Int} (S : StOk a e) (o : OrdM c l) (p1 : 1 ≤ p) (p40 : p ≤ 40) : ∃ a' b' d' e', (pd.ctx (n + 5)).fn 27 [stO cells a b d e, .pure (.lst (iL l)), .pure (.int p)] = some (.ok (.pure (.bl true)), [stO cells a' b' d' e', .pure .non, .pure .non]) ∧ StOk a' e' := by
  have sa := @argAt_stO
  obtain ⟨a1, b1, d1, e1, g, h, S1, g0, g1⟩ := s_draw (n := n + 3) (cells := cells) (b := b) (c := d) (k := 2) S (by omega)
  have q1 := s_rising (n := n + 1) (t := false) o.toOrd
  have q2 := s_rising (n := n + 1) (t := true) o.toOrd
  have q3 := s_riffle_share (n := n) (t := false) o p1 p40
  have q4 := s_riffle_share (n := n) (t := true) o p1 p40
  have q5 := s_law_share_is (n := n + 1) o p1 p40
  have q6 := s_law_rising (n := n + 3) o
  have q7 := @s_law_integer (n + 3)
  have ls : ∀ a b, (shD a b).lf = true := fun a b => rfl
  rw [sq_f] at q1 q3
  rw [sq_t] at q2 q4
  rw [fn_law_asked]
  unfold b_law_asked
  clear o p1 p40 g0 g1
  by_cases k0 : g = 0
  · subst k0
    walk_at "ev*"
    exact ⟨_, _, _, _, rfl, S1⟩
  · walk_at "ev*"
    exact ⟨_, _, _, _, rfl, S1⟩
theorem s_law_puts {n c : Nat} {cells : List Int} {a b d e : Int} (S : StOk a e) (c1 : 1 ≤ c) (c5 : c ≤ 5) : ∃ a' b' d' e', (pd.ctx (n + 4)).fn 31 [stO cells a b d e, .pure (.int c)] = some (.ok (.pure (.bl true)), [stO cells a' b' d' e', .pure .non]) ∧ StOk a' e' := by
  have sa := @argAt_stO
  obtain ⟨a1, b1, d1, e1, one, g1, S1, m1⟩ := s_law_order (n := n + 1) (cells := cells) (b := b) (d := d) S c1 c5
  obtain ⟨a2, b2, d2, e2, two, g2, S2, m2⟩ := s_law_order (n := n + 1) (cells := cells) (b := b1) (d := d1) S1 c1 c5
  obtain ⟨a3, b3, d3, e3, three, g3, S3, m3⟩ := s_law_order (n := n + 1) (cells := cells) (b := b2) (d := d2) S2 c1 c5
  have o1 := ordM c1 c5 m1
  have o2 := ordM c1 c5 m2
  have o3 := ordM c1 c5 m3
  have ob : Ord c (backI one) := ⟨by unfold backI; rw [List.length_map, rangeI_len, o1.len], o1.bperm, c1, c5⟩
  have oc : Ord c (comp two three) := comp_ord o2 o3.toOrd
  have p1 := s_put_together (n := n) (t := false) (u := true) o1.toOrd o2.toOrd
  have p2 := s_put_together (n := n) (t := true) (u := false) o1.toOrd ob
  have p3 := s_put_together (n := n) (t := false) (u := false) ob o1.toOrd
  have p4 := s_put_together (n := n) (t := false) (u := false) o2.toOrd o3.toOrd
  have p5 := s_put_together (n := n) (t := false) (u := true) o1.toOrd oc
  rw [o1.cb] at p2
  rw [o1.bc] at p3
  rw [comp_comp o2.toOrd o3.toOrd] at p5
  have w := fun x => s_law_put (n := n + 1) (x := x)
  have q1 : rngOk ((c : Nat) : Int) = true := rngOk_of (by omega) (by omega)
  have q2 := lrng_nat (n := c) (by omega)
  have l1 := o1.len
  have l2 := o2.len
  have l3 := o3.len
  simp only [sq_f, sq_t] at p1 p2 p3 p4 p5
  let env1 : T.Env := [some (stO cells a3 b3 d3 e3), some (.pure (.int c)), some (.pure (.lst (iL one))), some (.pure (.lst (iL two))), some (.pure (.lst (iL three))), none, none, none, none, none]
  have lc1 : lcRun [8] (.nm 8) .rng1 (fun env => some (.ok true, env)) (fun env => evalE (pd.ctx (n + 3)) e0_law_puts env) [.val (.int c)] env1 = some (.ok (.lst ((iL (backI one)).map O.pure)), env1) := by
    have := lcRg (ds := [.int c]) (l := true) (own := [8]) (tg := .nm 8) (k := .rng1) (test := fun env => some (.ok true, env)) (elt := fun env => evalE (pd.ctx (n + 3)) e0_law_puts env) (as := [.val (.int c)]) (env := env1) rfl env1 (iL (rangeI c)) (intF fun p => some (.pure (.int (one.idxOf p)))) rfl (by rw [it_rng1, q1, if_pos rfl, show ((c : Nat) : Int).toNat = c by omega, irange_0]) rfl (by rw [iL_len, rangeI_len]; omega) fun x hx => by
      obtain ⟨p, hp, rfl⟩ := List.mem_map.mp hx
      have hm : p ∈ one := o1.perm.mem_iff.mpr hp
      have i1 := index_l hm
      unfold e0_law_puts intF
      clear p1 p2 p3 p4 p5 w q1 q2 g1 g2 g3 hx hp hm
      simp only [env1]
      walk_at "ev*"
      exact ⟨_, rfl, rfl⟩
    rw [this, intF_iL, fm_some]
    unfold backI
    rw [l1, ← map_iL, List.map_map]
    rfl
  let env2 : T.Env := [some (stO cells a3 b3 d3 e3), some (.pure (.int c)), some (.pure (.lst (iL one))), some (.pure (.lst (iL two))), some (.pure (.lst (iL three))), some (.lst ((iL (backI one)).map O.pure)), none, none, none, none]
  have lc2 : lcRun [9] (.nm 9) .seq (fun env => some (.ok true, env)) (fun env => evalE (pd.ctx (n + 3)) e1_law_puts env) [.val (.lst (iL two))] env2 = some (.ok (.lst ((iL (comp one two)).map O.pure)), env2) := by
    have := lcRg (ds := [.lst (iL two)]) (l := true) (own := [9]) (tg := .nm 9) (k := .seq) (test := fun env => some (.ok true, env)) (elt := fun env => evalE (pd.ctx (n + 3)) e1_law_puts env) (as := [.val (.lst (iL two))]) (env := env2) rfl env2 (iL two) (intF fun p => some (.pure (.int (getI one p)))) rfl rfl rfl (by rw [iL_len]; omega) fun x hx => by
      obtain ⟨p, hp, rfl⟩ := List.mem_map.mp hx
      obtain ⟨h0, h1⟩ := o2.rng hp
      have i1 := idx_sq (t := false) (l := one) h0 (by rw [l1]; exact h1)
      rw [sq_f] at i1
      unfold e1_law_puts intF
      clear p1 p2 p3 p4 p5 w q1 q2 g1 g2 g3 hx hp lc1
      simp only [env2]
      walk_at "ev*"
      exact ⟨_, rfl, rfl⟩
    rw [this, intF_iL, fm_some]
    unfold comp
    rw [← map_iL, List.map_map]
    rfl
  let env3 : T.Env := [some (stO cells a3 b3 d3 e3), some (.pure (.int c)), some (.pure (.lst (iL one))), some (.pure (.lst (iL two))), some (.pure (.lst (iL three))), some (.lst ((iL (backI one)).map O.pure)), some (.lst ((iL (comp one two)).map O.pure)), some (.pure (.tup (iL (comp two three)))), none, none]
  have lc3 : lcRun [9] (.nm 9) .seq (fun env => some (.ok true, env)) (fun env => evalE (pd.ctx (n + 3)) e2_law_puts env) [.val (.lst (iL three))] env3 = some (.ok (.lst ((iL (three.map (getI (comp one two)))).map O.pure)), env3) := by
    have := lcRg (ds := [.lst (iL three)]) (l := true) (own := [9]) (tg := .nm 9) (k := .seq) (test := fun env => some (.ok true, env)) (elt := fun env => evalE (pd.ctx (n + 3)) e2_law_puts env) (as := [.val (.lst (iL three))]) (env := env3) rfl env3 (iL three) (intF fun p => some (.pure (.int (getI (comp one two) p)))) rfl rfl rfl (by rw [iL_len]; omega) fun x hx => by
      obtain ⟨p, hp, rfl⟩ := List.mem_map.mp hx
      obtain ⟨h0, h1⟩ := o3.rng hp
      have ll : (comp one two).length = c := by unfold comp; rw [List.length_map, l2]
      have i0 : L2.ixN (comp one two).length p = some p.toNat := ixN_in h0 (by rw [ll]; exact h1)
      have i1 : ((iL (comp one two)).map O.pure)[p.toNat]? = some (.pure (.int (getI (comp one two) p))) := by rw [pures_get, getI_get h0 (by rw [ll]; exact h1)]; rfl
      unfold e2_law_puts intF
      clear p1 p2 p3 p4 p5 w q1 q2 g1 g2 g3 hx hp lc1 lc2 ll
      simp only [env3]
      walk_at "ev*"
      exact ⟨_, rfl, rfl⟩
    rw [this, intF_iL, fm_some, ← map_iL, List.map_map]
    rfl
  simp only [env1] at lc1
  simp only [env2] at lc2
  simp only [env3] at lc3
  clear_value env1 env2 env3
  clear o1 o2 o3 ob oc m1 m2 m3
  rw [fn_law_puts]
  unfold b_law_puts
  walk_at "ev*"
  exact ⟨_, _, _, _, rfl, S3⟩
open M75
set_option maxHeartbeats 4000000
/-- the share of an order, as the program holds it -/
def shOf (c p : Nat) (l : List Int) : D := shD ((wN c p (riseI l) / Nat.gcd (wN c p (riseI l)) (p ^ c) : Nat) : Int) ((p ^ c / Nat.gcd (wN c p (riseI l)) (p ^ c) : Nat) : Int)
def pairD (c p : Nat) (l : List Int) : D := .tup [.tup (iL l), shOf c p l]
/-- a function of orders, upon the values that stand for them -/
theorem fm_map {α : Type} {g : α → O} {f : D → Option O} {h : α → D} (e : ∀ x, f (h x) = some (g x)) : ∀ {xs : List α}, (xs.map h).filterMap f = xs.map g
  | [] => rfl
  | x :: xs => by rw [List.map_cons, List.filterMap_cons, e x, fm_map e]; rfl
def tupOf : D → Option (List Int)
  | .tup ds => intsOf ds
  | .lst ds => intsOf ds
  | _ => none
theorem intsOf_iL : ∀ {l : List Int}, intsOf (iL l) = some l
  | [] => rfl
  | a :: l => by
    have e : iL (a :: l) = .int a :: iL l := rfl
    rw [e, intsOf, intsOf_iL]
theorem ord_len {c : Nat} (h1 : 1 ≤ c) (h5 : c ≤ 5) : (allOrd c).length ≤ 120 := by
  rcases c_cases h1 h5 with rfl | rfl | rfl | rfl | rfl <;> decide +kernel
theorem s_riffled {n c p : Nat} (c1 : 1 ≤ c) (c5 : c ≤ 5) (p1 : 1 ≤ p) (p40 : p ≤ 40) : (pd.ctx (n + 5)).fn 16 [.pure (.int c), .pure (.int p)] = some (.ok (.pure (.tup ((allOrd c).map (pairD c p)))), [.pure .non, .pure .non]) := by
  have q1 := s_orders (n := n) c1 c5
  have lc : lcRun [2] (.nm 2) .seq (fun env => some (.ok true, env)) (fun env => evalE (pd.ctx (n + 4)) e0_riffled env) [.val (.tup ((allOrd c).map fun l => .tup (iL l)))] [some (.pure (.int c)), some (.pure (.int p)), none] = some (.ok (.lst (((allOrd c).map (pairD c p)).map O.pure)), [some (.pure (.int c)), some (.pure (.int p)), none]) := by
    have := lcRg (ds := [.tup ((allOrd c).map fun l => .tup (iL l))]) (l := true) (own := [2]) (tg := .nm 2) (k := .seq) (test := fun env => some (.ok true, env)) (elt := fun env => evalE (pd.ctx (n + 4)) e0_riffled env) (as := [.val (.tup ((allOrd c).map fun l => .tup (iL l)))]) (env := [some (.pure (.int c)), some (.pure (.int p)), none]) rfl [some (.pure (.int c)), some (.pure (.int p)), none] ((allOrd c).map fun l => .tup (iL l)) (fun d => (tupOf d).map fun l => .pure (pairD c p l)) rfl rfl rfl (by rw [List.length_map]; have := ord_len c1 c5; omega) fun x hx => by
      obtain ⟨l, hl, rfl⟩ := List.mem_map.mp hx
      have o := ordM c1 c5 hl
      have i1 := s_rising (n := n + 1) (t := true) o.toOrd
      have i2 := s_share_by_rows (n := n + 1) (c := c) (p := p) (r := riseI l) c1 c5 p1 p40 (rise1 l) o.rle
      rw [sq_t] at i1
      have i3 : tupOf (.tup (iL l)) = some l := intsOf_iL
      have i4 : ∀ a b, (shD a b).lf = true := fun a b => rfl
      unfold e0_riffled
      clear q1 hx hl o c1 c5 p1 p40
      unfold pairD shOf
      walk_at "ev*"
      exact ⟨_, rfl, rfl⟩
    rw [this, fm_map (g := fun l => O.pure (pairD c p l)) (fun l => by show (intsOf (iL l)).map _ = _; rw [intsOf_iL]; rfl), List.map_map]
    rfl
  rw [fn_riffled]
  unfold b_riffled
  clear c1 c5 p1 p40
  walk_at "ev*"
theorem s_riffle_table {n c p : Nat} (c1 : 1 ≤ c) (c5 : c ≤ 5) (p1 : 1 ≤ p) (p40 : p ≤ 40) : (pd.ctx (n + 6)).fn 17 [.pure (.int c), .pure (.int p)] = some (.ok (.pure (.tup ((allOrd c).map (pairD c p)))), [.pure .non, .pure .non]) := by
  have q1 := s_riffled (n := n) c1 c5 p1 p40
  have q2 := s_check_riffle (n := n + 1) c1 c5 p1 p40
  rw [fn_riffle_table]
  unfold b_riffle_table
  clear c1 c5 p1 p40
  walk_at "ev*"
def overL (c p : Nat) : List Int := (rangeI 6).map fun r => chI ((p : Int) + c - r) c
theorem overL_get {c p r : Nat} (h : r < 6) : (overL c p)[r]? = some (chI ((p : Int) + c - r) c) := by
  unfold overL rangeI
  rw [List.map_map, List.getElem?_map, List.getElem?_range h]
  rfl
theorem zip_map {α : Type} {f g : α → D} : ∀ {xs : List α}, zip2D (xs.map f) (xs.map g) = xs.map fun a => D.tup [f a, g a]
  | [] => rfl
  | a :: xs => by rw [List.map_cons, List.map_cons, zip2D, zip_map]; rfl
theorem take_sum {c p : Nat} {xs : List (List Int)} {i : Nat} {l : List Int} (h : xs[i]? = some l) : sumL c p (xs.take (i + 1)) = sumL c p (xs.take i) + wN c p (riseI l) := by
  obtain ⟨hi, rfl⟩ := List.getElem?_eq_some_iff.mp h
  unfold sumL
  rw [List.take_succ_eq_append_getElem hi, List.map_append, List.sum_append]
  simp
theorem overL_len {c p : Nat} : (overL c p).length = 6 := by unfold overL; rw [List.length_map, rangeI_len]
theorem s_is_ok {n c p : Nat} {l : List Int} (o : OrdM c l) (p1 : 1 ≤ p) (p40 : p ≤ 40) : (pd.ctx (n + 2)).fn 23 [.pure (shOf c p l), .pure (.int (wN c p (riseI l) : Nat)), .pure (.int ((p ^ c : Nat) : Int))] = some (.ok (.pure (.bl true)), [.pure .non, .pure .non, .pure .non]) := by
  obtain ⟨h1, h2, h3⟩ := sh_of o.c1 o.c5 p1 p40 (rise1 l) o.rle
  have hp : 0 < p ^ c := Nat.pow_pos (by omega)
  have hp2 : p ^ c ≤ 50 ^ 5 := Nat.le_trans (Nat.pow_le_pow_left (by omega) c) (Nat.pow_le_pow_right (by omega) o.c5)
  have d1 := Nat.div_le_self (wN c p (riseI l)) (Nat.gcd (wN c p (riseI l)) (p ^ c))
  have d2 := Nat.div_le_self (p ^ c) (Nat.gcd (wN c p (riseI l)) (p ^ c))
  have q4 := s_law_is (n := n) (p := ((wN c p (riseI l) / Nat.gcd (wN c p (riseI l)) (p ^ c) : Nat) : Int)) (q := ((p ^ c / Nat.gcd (wN c p (riseI l)) (p ^ c) : Nat) : Int)) (a := wN c p (riseI l)) (b := p ^ c) (by omega) (by omega) (by rw [Int.natAbs_natCast]; exact Nat.lt_of_le_of_lt d1 (by omega)) (by rw [Int.natAbs_natCast]; exact Nat.lt_of_le_of_lt d2 (by omega)) hp
  obtain ⟨g1, g2⟩ := sh_div (a := wN c p (riseI l)) (b := p ^ c) hp
  rw [g1, g2] at q4
  simp only [decide_true, Bool.and_self] at q4
  exact q4
theorem s_law_whole {n c p : Nat} (c1 : 1 ≤ c) (c5 : c ≤ 5) (p1 : 1 ≤ p) (p40 : p ≤ 40) : (pd.ctx (n + 7)).fn 24 [.pure (.int c), .pure (.int p)] = some (.ok (.pure (.bl true)), [.pure .non, .pure .non]) := by
  have q1 := s_law_all (n := n + 5) c1 c5
  have q2 := s_orders (n := n + 2) c1 c5
  have q3 := s_riffle_table (n := n) c1 c5 p1 p40
  have q4 := s_law_power (n := n + 5) (k := c) (a := (p : Int)) (by omega) (by omega) (by omega)
  have e2 : ((p : Int)) ^ c = ((p ^ c : Nat) : Int) := by push_cast; rfl
  rw [e2] at q4
  have ol := ord_len c1 c5
  have r6 : rngOk 6 = true := rngOk_of (by omega) (by omega)
  let rows : D := .lst ((allOrd c).map fun l => .lst (iL l))
  let told : D := .tup ((allOrd c).map fun l => .tup (iL l))
  let tab : D := .tup ((allOrd c).map (pairD c p))
  let env1 : T.Env := [some (.pure (.int c)), some (.pure (.int p)), some (.pure rows), some (.pure told), some (.pure tab), none, none, none, none, none, none, none]
  have lc1 : lcRun [8] (.nm 8) .seq (fun env => some (.ok true, env)) (fun env => evalE (pd.ctx (n + 6)) e0_law_whole env) [.val rows] env1 = some (.ok (.lst (((allOrd c).map fun l => D.tup (iL l)).map O.pure)), env1) := by
    have := lcRg (ds := [rows]) (l := true) (own := [8]) (tg := .nm 8) (k := .seq) (test := fun env => some (.ok true, env)) (elt := fun env => evalE (pd.ctx (n + 6)) e0_law_whole env) (as := [.val rows]) (env := env1) rfl env1 ((allOrd c).map fun l => .lst (iL l)) (fun d => (tupOf d).map fun l => .pure (.tup (iL l))) rfl rfl rfl (by rw [List.length_map]; omega) fun x hx => by
      obtain ⟨l, hl, rfl⟩ := List.mem_map.mp hx
      have i3 : tupOf (.lst (iL l)) = some l := intsOf_iL
      unfold e0_law_whole
      clear q1 q2 q3 q4 hx hl c1 c5 p1 p40
      simp only [env1]
      walk_at "ev*"
      exact ⟨_, rfl, rfl⟩
    rw [this, fm_map (g := fun l => O.pure (.tup (iL l))) (fun l => by show (intsOf (iL l)).map _ = _; rw [intsOf_iL]; rfl), List.map_map]
    rfl
  have lc2 : lcRun [11] (.nm 11) .rng1 (fun env => some (.ok true, env)) (fun env => evalE (pd.ctx (n + 6)) e1_law_whole env) [.val (.int 6)] env1 = some (.ok (.lst ((iL (overL c p)).map O.pure)), env1) := by
    have := lcRg (ds := [.int 6]) (l := true) (own := [11]) (tg := .nm 11) (k := .rng1) (test := fun env => some (.ok true, env)) (elt := fun env => evalE (pd.ctx (n + 6)) e1_law_whole env) (as := [.val (.int 6)]) (env := env1) rfl env1 (iL (rangeI 6)) (intF fun r => some (.pure (.int (chI ((p : Int) + c - r) c)))) rfl (by rw [it_rng1, r6, if_pos rfl, ← irange_0]; rfl) rfl (by rw [iL_len, rangeI_len]; omega) fun x hx => by
      obtain ⟨r, hr, rfl⟩ := List.mem_map.mp hx
      obtain ⟨j, hj, rfl⟩ := List.mem_map.mp hr
      have hj := List.mem_range.mp hj
      have i1 := s_law_choose (n := n + 5) (c := c) (m := (p : Int) + c - (j : Nat)) c5 c1 (by omega) (by omega)
      unfold e1_law_whole intF
      clear q1 q2 q3 q4 hx hr hj c1 c5 p1 p40 lc1
      simp only [env1]
      walk_at "ev*"
      exact ⟨_, rfl, rfl⟩
    rw [this, intF_iL, fm_some]
    unfold overL
    rw [← map_iL, List.map_map]
    rfl
  simp only [env1, rows, told, tab] at lc1 lc2
  clear_value env1 rows told tab
  have sO := sum_of c1 c5 p1 p40
  have eT := @eqA_tt (allOrd c) (allOrd c)
  have ls : ∀ a b, (shD a b).lf = true := fun a b => rfl
  rw [fn_law_whole]
  unfold b_law_whole
  have hp : 0 < p ^ c := Nat.pow_pos (by omega)
  have hp2 : p ^ c ≤ 50 ^ 5 := Nat.le_trans (Nat.pow_le_pow_left (by omega) c) (Nat.pow_le_pow_right (by omega) c5)
  have P1 : 1 ≤ c ∧ c ≤ 5 ∧ 1 ≤ p ∧ p ≤ 40 := ⟨c1, c5, p1, p40⟩
  clear c1 c5 p1 p40 ol
  walk_at "ev*"
  generalize hF : forLoop _ _ _ _ _ = F
  clear lc1 lc2 q1 q2 q3 q4 eT e2 r6
  obtain ⟨c1, c5, p1, p40⟩ := P1
  refine Exists.elim (forIg hF (fun i e => ∃ x y z w, e = [some (.pure (.int c)), some (.pure (.int p)), some (.pure (.lst ((allOrd c).map fun l => .lst (iL l)))), some (.pure (.tup ((allOrd c).map fun l => .tup (iL l)))), some (.pure (.tup ((allOrd c).map (pairD c p)))), some (.lst ((iL (overL c p)).map O.pure)), some (.pure (.int ((p ^ c : Nat) : Int))), some (.pure (.int (sumL c p ((allOrd c).take i) : Nat))), x, y, z, w]) ⟨none, none, none, none, rfl⟩ ?st) ?go
  case go =>
    rintro e ⟨rfl, x, y, z, w, rfl⟩
    have hl : (zip2D ((allOrd c).map fun l => D.lst (iL l)) ((allOrd c).map (pairD c p))).length = (allOrd c).length := by rw [zip_map, List.length_map]
    rw [hl, List.take_length, sO]
    clear hF hl sO c1 c5 p1 p40
    walk_at "ev"
  case st =>
    rintro i d e hx ⟨x, y, z, w, rfl⟩
    rw [zip_map, List.getElem?_map] at hx
    cases hj : (allOrd c)[i]? with
    | none => rw [hj] at hx; cases hx
    | some l =>
      rw [hj] at hx
      cases hx
      have o := ordM c1 c5 (List.mem_of_getElem? hj)
      obtain ⟨h1, h2, h3⟩ := sh_of c1 c5 p1 p40 (rise1 l) o.rle
      have i1 := s_law_rising (n := n + 5) o
      have i2 := s_is_ok (n := n + 4) o p1 p40
      have i3 : L2.ixN (overL c p).length ((riseI l : Nat) : Int) = some (riseI l) := by
        rw [overL_len, ixN_in (by omega) (by have := o.rle; omega)]
        congr 1
      have i4 : (overL c p)[riseI l]? = some (wN c p (riseI l) : Int) := by
        rw [overL_get (by have := o.rle; omega), h1]
      have ts := take_sum (p := p) (c := c) hj
      rw [ts, Int.natCast_add]
      clear hF hj o h1 h2 h3 c1 c5 p1 p40 sO hp hp2 ts
      unfold f0_law_whole pairD
      walk_at "ev*"
      exact ⟨_, rfl, _, _, _, _, rfl⟩
theorem cst (m : Nat) (h : m ≤ 100) (k : Int) (h0 : 0 ≤ k) (h1 : k < (if (m : Int) > 1 then (m : Int) else 1)) : ∃ j : Nat, k = (j : Int) ∧ j < max m 1 := ⟨k.toNat, by omega, by split at h1 <;> omega⟩
theorem s_law_body {n : Nat} {ns : List Int} : ∃ post, (pd.ctx (n + 8)).fn 32 [.pure (.lst (iL ns))] = some (.ok (.pure (.bl true)), post) := by
  have sa := @argAt_stO
  have q1 : (pd.ctx (n + 7)).fn 0 [.pure (.lst (iL ns))] = some (.ok (stO ns 0 0 0 7), [.pure .non]) := s_start
  have r4 : rngOk 4 = true := rngOk_of (by omega) (by omega)
  have S0 : StOk 0 7 := ⟨by omega, by omega, by omega⟩
  rw [fn_law_body]
  unfold b_law_body
  walk_at "ev*"
  generalize hF : forLoop _ _ _ _ _ = F
  refine Exists.elim (forIg hF (fun i e => ∃ a b d e' x y z, e = [some (.pure (.lst (iL ns))), some (stO ns a b d e'), x, y, z] ∧ StOk a e') ⟨0, 0, 0, 7, none, none, none, rfl, S0⟩ ?st) ?go
  case go =>
    rintro e ⟨rfl, a, b, d, e', x, y, z, rfl, S⟩
    obtain ⟨a1, b1, d1, e1, g1, h1, S1, l1, u1⟩ := s_draw (n := n + 6) (cells := ns) (b := b) (c := d) (k := 4) S (by omega)
    obtain ⟨a2, b2, d2, e2, g2, h2, S2, l2, u2⟩ := s_draw (n := n + 6) (cells := ns) (b := b1) (c := d1) (k := 4) S1 (by omega)
    obtain ⟨a3, b3, d3, e3, g3, h3, S3, l3, u3⟩ := s_draw (n := n + 6) (cells := ns) (b := b2) (c := d2) (k := 40) S2 (by omega)
    obtain ⟨a4, b4, d4, e4, g4, h4, S4, l4, u4⟩ := s_draw (n := n + 6) (cells := ns) (b := b3) (c := d3) (k := 4) S3 (by omega)
    obtain ⟨a5, b5, d5, e5, g5, h5, S5, l5, u5⟩ := s_draw (n := n + 6) (cells := ns) (b := b4) (c := d4) (k := 6) S4 (by omega)
    simp only [Int.reduceGT, if_true] at u1 u2 u3 u4 u5
    obtain ⟨j1, rfl⟩ : ∃ j : Nat, g1 = j := ⟨g1.toNat, by omega⟩
    obtain ⟨j3, rfl⟩ : ∃ j : Nat, g3 = j := ⟨g3.toNat, by omega⟩
    obtain ⟨j4, rfl⟩ : ∃ j : Nat, g4 = j := ⟨g4.toNat, by omega⟩
    obtain ⟨j5, rfl⟩ : ∃ j : Nat, g5 = j := ⟨g5.toNat, by omega⟩
    have w1 := s_law_whole (n := n) (c := j1 + 1) (p := j3 + 1) (by omega) (by omega) (by omega) (by omega)
    have w2 := s_law_whole (n := n) (c := 5) (p := j3 + 1) (by omega) (by omega) (by omega) (by omega)
    have w3 := s_law_whole (n := n) (c := j4 + 1) (p := j5 + 1) (by omega) (by omega) (by omega) (by omega)
    have ad : ∀ j : Nat, (1 : Int) + (j : Int) = ((j + 1 : Nat) : Int) := fun j => by omega
    have c5 : ((5 : Nat) : Int) = 5 := rfl
    rw [c5] at w2
    by_cases k0 : g2 = 0
    · subst k0
      clear q1 r4 S0 S S1 S2 S3 S4 S5 l1 l2 l3 l4 l5 u1 u2 u3 u4 u5 hF c5
      walk_at "ev*"
      exact ⟨_, rfl⟩
    · clear q1 r4 S0 S S1 S2 S3 S4 S5 l1 l2 l3 l4 l5 u1 u2 u3 u4 u5 hF c5
      walk_at "ev*"
      exact ⟨_, rfl⟩
  case st =>
    rintro i v e hx ⟨a, b, d, e', x, y, z, rfl, S⟩
    obtain ⟨rfl, hi⟩ := irange_get hx
    obtain ⟨a1, b1, d1, e1, g1, h1, S1, l1, u1⟩ := s_draw (n := n + 6) (cells := ns) (b := b) (c := d) (k := 5) S (by omega)
    obtain ⟨a2, b2, d2, e2, g2, h2, S2, l2, u2⟩ := s_draw (n := n + 6) (cells := ns) (b := b1) (c := d1) (k := 8) S1 (by omega)
    obtain ⟨a3, b3, d3, e3, g3, h3, S3, l3, u3⟩ := s_draw (n := n + 6) (cells := ns) (b := b2) (c := d2) (k := 2) S2 (by omega)
    obtain ⟨a4, b4, d4, e4, g4, h4, S4, l4, u4⟩ := s_draw (n := n + 6) (cells := ns) (b := b3) (c := d3) (k := 40) S3 (by omega)
    simp only [Int.reduceGT, if_true] at u1 u2 u3 u4
    obtain ⟨j1, rfl⟩ : ∃ j : Nat, g1 = j := ⟨g1.toNat, by omega⟩
    obtain ⟨j2, rfl⟩ : ∃ j : Nat, g2 = j := ⟨g2.toNat, by omega⟩
    obtain ⟨j4, rfl⟩ : ∃ j : Nat, g4 = j := ⟨g4.toNat, by omega⟩
    have ad : ∀ j : Nat, (1 : Int) + (j : Int) = ((j + 1 : Nat) : Int) := fun j => by omega
    by_cases k0 : g3 = 0
    · subst k0
      obtain ⟨a5, b5, d5, e5, l, h5, S5, m⟩ := s_law_order (n := n + 5) (cells := ns) (b := b4) (d := d4) (c := j1 + 1) S4 (by omega) (by omega)
      have o := ordM (by omega) (by omega) m
      obtain ⟨a6, b6, d6, e6, h6, S6⟩ := s_law_asked (n := n + 2) (cells := ns) (b := b5) (d := d5) (p := j4 + 1) S5 o (by omega) (by omega)
      obtain ⟨a7, b7, d7, e7, h7, S7⟩ := s_law_puts (n := n + 3) (cells := ns) (b := b6) (d := d6) (c := j1 + 1) S6 (by omega) (by omega)
      clear q1 r4 S0 S S1 S2 S3 S4 S5 S6 l1 l2 l3 l4 u1 u2 u3 u4 hF hx o m hi
      unfold f0_law_body
      walk_at "ev*"
      exact ⟨_, rfl, _, _, _, _, _, _, _, rfl, S7⟩
    · obtain ⟨a5, b5, d5, e5, l, h5, S5, m⟩ := s_law_order (n := n + 5) (cells := ns) (b := b3) (d := d3) (c := j1 + 1) S3 (by omega) (by omega)
      have o := ordM (by omega) (by omega) m
      obtain ⟨a6, b6, d6, e6, h6, S6⟩ := s_law_asked (n := n + 2) (cells := ns) (b := b5) (d := d5) (p := j2 + 1) S5 o (by omega) (by omega)
      obtain ⟨a7, b7, d7, e7, h7, S7⟩ := s_law_puts (n := n + 3) (cells := ns) (b := b6) (d := d6) (c := j1 + 1) S6 (by omega) (by omega)
      clear q1 r4 S0 S S1 S2 S3 S4 S5 S6 l1 l2 l3 l4 u1 u2 u3 u4 hF hx o m hi h4
      unfold f0_law_body
      walk_at "ev*"
      exact ⟨_, rfl, _, _, _, _, _, _, _, rfl, S7⟩
theorem s_law {n : Nat} {ns : List Int} : ∃ post, (pd.ctx (n + 9)).fn 33 [.pure (.lst (iL ns))] = some (.ok (.pure (.bl true)), post) := by
  obtain ⟨post, h⟩ := s_law_body (n := n) (ns := ns)
  have hl : ∀ {n : Nat} {o : O} {r : Except Exn O} {post : List O}, (pd.ctx (n + 1)).fn 32 [o] = some (r, post) → ∃ o', post = [o'] := by
    intro n o r post h
    rw [fn_law_body] at h
    unfold endK at h
    split at h <;> first
      | (cases h; done)
      | (rename_i env _
         unfold wrapR at h
         cases env with
         | nil => cases h
         | cons x env =>
           rw [posts_f, posts_nil, oo_some, run_kf] at h
           cases h
           exact ⟨_, rfl⟩)
  obtain ⟨o', rfl⟩ := hl h
  rw [fn_law]
  unfold b_law
  walk_at "ev*"
  exact ⟨_, rfl⟩
theorem plain : PlainLaw pd 12 lawIx := fun ns _ _ => s_law (n := 3) (ns := ns)
end K75
set_option maxRecDepth 100000
set_option maxHeartbeats 0
namespace K75
open PySem PySem.Spec PyProof.Rows T
abbrev R : PySem.W.OpenRow := PySem.W.OpenLaw.row PySem.Challenge.rw_sourcestold_k75_rising_rows
abbrev hk : PySem.W.Hook := He.hookX 4 pd.facts pd.defs [] [] pd.ex
def ob (s : PySem.W.SharedT) : He.AlX := He.obsX 4 pd.facts pd.defs [] [] pd.ex (HandSHeadRun.getT s)
theorem ob_eq (s : PySem.W.SharedT) : ob s = hk.obs s.abs := He.obsX_eq (HandSHeadRun.getT_eq s)
theorem run (w : World) : HandSHeadRun.RunEq R (PySem.W.view R.prog [46]) hk ob 3000 loose w := by
  intro os
  kernel_rfl
end K75
set_option maxRecDepth 100000
set_option maxHeartbeats 0
open PySem PySem.W PySem.Calls PyProof.Rows
set_option maxHeartbeats 0 in
theorem PySem.Challenge.cw_sourcestold_k75_rising_rows_holds : PySem.Challenge.rw_sourcestold_k75_rising_rows.Holds := by
  w_on; o_law
  refine HandSHeadRun.head_any (r := OpenLaw.row PySem.Challenge.rw_sourcestold_k75_rising_rows) (q := view (OpenLaw.row PySem.Challenge.rw_sourcestold_k75_rising_rows).prog [46]) (H := K75.hk) (ob := K75.ob) (M := 3000) (loose := K75.loose) (d := HandSHeadRun.topDef (OpenLaw.row PySem.Challenge.rw_sourcestold_k75_rising_rows).prog 46) (kwd := []) K75.ob_eq
    (by kernel_rfl) (fun s => by kernel_rfl) K75.run (by kernel_rfl) (by kernel_rfl) (by kernel_rfl) (by rfl) (by first | assumption | decide +kernel) (by decide +kernel) ⟨rfl, rfl, rfl, rfl, rfl, by decide +kernel⟩ ?hw ?hc
  case hw => w_witness2
  case hc =>
    exact T.law_walk (d := K75.pd) (n := 12) (f := K75.lawIx) (x := K75.d_law) (script := "script") rfl (by kernel_rfl) ⟨rfl, by decide, by decide⟩ K75.okT K75.okP (by kernel_rfl) (by kernel_rfl) (by kernel_rfl) K75.plain
