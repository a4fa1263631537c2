import PyProof.Rows.All
import HandS.ForMost
import HandS.Exc
import HandS.IsInst
import HandS.WideBits
import HandS.Flow
import HandS.Style
import HandS.Conv
import HandS.SortInts
import PyProof.ReprRoads
import HandS.Zip
import HandS.Small
import HandS.ExcIs
import HandS.ExcOwn
import HandS.Defaults
import HandS.HeadWalk
import HandS.ClsMeth
import HandS.TryOnly
import HandS.Comp
import HandS.FStr
import HandS.HeadEnd
import HandS.HeadHook2
import HandS.Head0
import HandS.Head1
import HandS.Head2
import PySem.Challenge.RW_noaslong_k21_lots_counted

section
set_option Elab.async false
set_option linter.all false
namespace Ev
open PySem L2

/-- data as trees: nobody changes them any more -/
inductive T where
  | non | bl (b : Bool) | int (i : Int) | str (x : Str)
  | lst (xs : List T) | tup (xs : List T) | dic (kvs : List (Key × T))
  | ins (c : Nat) (fs : List (Nat × T)) | fn (f : Nat) | arg (ns : List Int)
  deriving Inhabited
/-- a value: a tree, or a cell of the store -/
inductive D where
  | t (x : T) | loc (n : Nat)
  deriving Inhabited
inductive Cell where
  | dead | lst (ds : List D) | dic (kvs : List (Key × D)) | ins (c : Nat) (fs : List (Nat × D))
  deriving Inhabited
abbrev Store := List Cell
abbrev Env := List (Option D)
/-- an exception: its class, its fields -/
structure Exn where
  cls : Nat
  fs : List (Nat × T)
inductive R (α : Type) where
  | ok (a : α) (S : Store) | exc (e : Exn) (S : Store) | bad
def R.bind {α β : Type} (r : R α) (f : α → Store → R β) : R β := match r with
  | .ok a S => f a S
  | .exc e S => .exc e S
  | .bad => .bad
@[simp] theorem R.bind_ok {α β : Type} (a : α) (S : Store) (f : α → Store → R β) : (R.ok a S).bind f = f a S := rfl
@[simp] theorem R.bind_exc {α β : Type} (e : Exn) (S : Store) (f : α → Store → R β) : (R.exc e S : R α).bind f = .exc e S := rfl
@[simp] theorem R.bind_bad {α β : Type} (f : α → Store → R β) : (R.bad : R α).bind f = .bad := rfl
def ofOpt {α : Type} (o : Option α) (S : Store) : R α := match o with
  | some a => .ok a S
  | none => .bad
@[simp] theorem ofOpt_some {α : Type} (a : α) (S : Store) : ofOpt (some a) S = .ok a S := rfl
@[simp] theorem ofOpt_none {α : Type} (S : Store) : ofOpt (none : Option α) S = .bad := rfl

/-- where an exception is not served -/
def R.noX {α : Type} (r : R α) : R α := match r with
  | .exc _ _ => .bad
  | r => r
@[simp] theorem R.noX_ok {α : Type} (a : α) (S : Store) : (R.ok a S).noX = .ok a S := rfl
@[simp] theorem R.noX_bad {α : Type} : (R.bad : R α).noX = .bad := rfl
inductive BOp where
  | add | sub | mul | fdiv | mod | pow | shl | shr | band | bor | bxor
  deriving DecidableEq
inductive COp where
  | eq | ne | lt | le | gt | ge | is_ | isn | in_ | nin
  deriving DecidableEq
/-- a class as a test of isinstance: a built-in type, an own class -/
inductive Cl where
  | ty (n : String) | own (c : Nat)
  deriving DecidableEq
/-- built-in functions that give a tree or a number -/
inductive Bi where
  | len | abs | max2 | min2 | sum | all | any | int | divmod | lenset | bitlen | repr | str | tuple | maxl | minl | asLen | asRep
  deriving DecidableEq
/-- methods of a list or dict in the store -/
inductive Bm where
  | append | pop | popAt | clear | index | count | get | getOr | insert | remove | reverse | extend
  deriving DecidableEq
/-- what a call's new object becomes: a tree; a cell at the end of the store; as the callee left it -/
inductive Md where
  | fz | nw | raw
  deriving DecidableEq

mutual
inductive E where
  | var (i : Nat) | cst (t : T) | tup (es : List E)
  | fr (f : F) | nw (f : F) | dnw | ddi (ks : List Key) (es : List E) | fz (e : E)
  | bin (o : BOp) (a b : E) | neg (a : E)
  | cmp (o : COp) (a b : E) | cmp2 (o p : COp) (a b c : E)
  | and_ (a b : E) | or_ (a b : E) | not_ (a : E) | ife (c a b : E)
  | fld (e : E) (f : Nat) | idx (a i : E)
  | bi (b : Bi) (es : List E) | bm (b : Bm) (o : E) (es : List E)
  | isi (e : E) (cs : List Cl)
  | fm (e : E) | js (es : List E)
  | call (m : Md) (f : Nat) (es : List E) (ds : List T)
  | meth (m : Md) (x : Nat) (o : E) (es : List E) (ds : List T)
  | mk (m : Md) (c : Nat) (es : List E) (ds : List T)
inductive F where
  | disp (es : List E) | cat (a b : E) | rep (a n : E)
  | slc (a : E) (lo hi : Option E) | rev (a : E)
  | comp (tg : Tg) (it : It) (ifs : List E) (e : E)
  | listOf (e : E) | keysOf (e : E) | rng (es : List E) | sorted (e : E)
inductive It where
  | val (e : E) | rng (es : List E) | enu (e : E) | zip (a b : E) | items (e : E)
inductive Tg where
  | nm (i : Nat) | tp (ts : List Tg) | ix (a i : E)
end
/-- what an except suite says of what it caught -/
inductive Hx where
  | cst (b : Bool) | isi (c : Cl) | and_ (a b : Hx) | or_ (a b : Hx) | not_ (a : Hx)
inductive Sm where
  | expr (e : E) | ret (e : E) | retN | asg (t : Tg) (e : E) | mas (ts : List Tg) (es : List E)
  | aug (i : Nat) (o : BOp) (e : E) | augIx (a i : E) (o : BOp) (e : E)
  | fasg (o : E) (f : Nat) (e : E)
  | iff (c : E) (a b : List Sm)
  | for_ (t : Tg) (it : It) (body : List Sm)
  | whil (k : Nat) (c : E) (body : List Sm)
  | pass | brk | cont | raise
  | rai (c : Nat)
  | tr (c i : Nat) (b : Sm) (j : Nat) (h : Hx)
  | frv (i : Nat)
inductive Fl where
  | nx | rt (d : D) | bk | ct

/-! ### trees -/
mutual
def T.dat : T → Option PyData
  | .non => some .none
  | .bl b => some (.bool b)
  | .int i => some (.int i)
  | .str x => some (.str x)
  | .lst xs => (datL xs).map .list
  | .tup xs => (datL xs).map .tuple
  | .dic _ => none
  | .ins _ _ => none
  | .fn _ => none
  | .arg _ => none
def datL : List T → Option (List PyData)
  | [] => some []
  | x :: r => match x.dat, datL r with
    | some d, some ds => some (d :: ds)
    | _, _ => none
end
def allT : List D → Option (List T)
  | [] => some []
  | .t x :: r => (allT r).map (x :: ·)
  | .loc _ :: _ => none
def allTF : List (Nat × D) → Option (List (Nat × T))
  | [] => some []
  | (f, .t x) :: r => (allTF r).map ((f, x) :: ·)
  | (_, .loc _) :: _ => none
def allTK : List (Key × D) → Option (List (Key × T))
  | [] => some []
  | (f, .t x) :: r => (allTK r).map ((f, x) :: ·)
  | (_, .loc _) :: _ => none
/-- what a value is as a tree now (read alone) -/
def rdT (S : Store) : Nat → D → Option T
  | _, .t x => some x
  | 0, .loc _ => none
  | k + 1, .loc n => match S[n]? with
    | some (.lst ds) => (ds.mapM (rdT S k)).map .lst
    | some (.dic kvs) => (kvs.mapM fun p => (rdT S k p.2).map fun t => (p.1, t)).map .dic
    | some (.ins c fs) => (fs.mapM fun p => (rdT S k p.2).map fun t => (p.1, t)).map (.ins c)
    | _ => none
/-- frozen: of cells from L on alone -/
def rdF (L : Nat) (S : Store) : Nat → D → Option T
  | _, .t x => some x
  | 0, .loc _ => none
  | k + 1, .loc n => if n < L then none else match S[n]? with
    | some (.lst ds) => (ds.mapM (rdF L S k)).map .lst
    | some (.dic kvs) => (kvs.mapM fun p => (rdF L S k p.2).map fun t => (p.1, t)).map .dic
    | some (.ins c fs) => (fs.mapM fun p => (rdF L S k p.2).map fun t => (p.1, t)).map (.ins c)
    | _ => none

end Ev
end

section
set_option Elab.async false
set_option linter.all false
namespace Ev
open PySem L2

def kGet {α : Type} (kvs : List (Key × α)) (k : Key) : Option α := (kvs.find? fun p => decide (p.1 = k)).map (·.2)
def kPut {α : Type} (kvs : List (Key × α)) (k : Key) (v : α) : List (Key × α) :=
  if (kvs.any fun p => decide (p.1 = k)) = true then kvs.map (fun p => if p.1 = k then (p.1, v) else p) else kvs ++ [(k, v)]
def kDrop {α : Type} (kvs : List (Key × α)) (k : Key) : List (Key × α) := kvs.filter fun p => decide (p.1 ≠ k)
def fPut {α : Type} (f : Nat) (v : α) : List (Nat × α) → List (Nat × α)
  | [] => [(f, v)]
  | (g, x) :: r => if g = f then (g, v) :: r else (g, x) :: fPut f v r
def toKey : T → Option Key
  | .int i => some (.inl i)
  | .str x => some (.inr x)
  | _ => none
def keyT : Key → T
  | .inl i => .int i
  | .inr x => .str x
noncomputable def numOp (o : BOp) (i j : Int) : Option Int := match o with
  | .add => some (i + j)
  | .sub => some (i - j)
  | .mul => @ite _ ((-(2 ^ 64) < i ∧ i < 2 ^ 64) ∨ (-(2 ^ 64) < j ∧ j < 2 ^ 64)) (Classical.propDecidable _) (some (i * j)) none
  | .fdiv => @ite _ (0 < j ∧ j < 1073741824) (Classical.propDecidable _) (some (i / j)) none
  | .mod => if 0 < j then some (i % j) else none
  | .pow => @ite _ (0 ≤ j ∧ j ≤ 1000000 ∧ i.natAbs < 2 ^ 64) (Classical.propDecidable _) (some (i ^ j.toNat)) none
  | .shl => @ite _ (0 ≤ j ∧ j ≤ 1000000 ∧ i.natAbs < 2 ^ 64) (Classical.propDecidable _) (some (i * 2 ^ j.toNat)) none
  | .shr => if 0 ≤ j then some (i / 2 ^ j.toNat) else none
  | .band => some (Builtin.bitAnd i j)
  | .bor => some (Builtin.bitOr i j)
  | .bxor => some (Builtin.bitXor i j)
noncomputable def tBin (o : BOp) (x y : T) : Option T := match x, y with
  | .int i, .int j => (numOp o i j).map .int
  | .str a, .str b => match o with
    | .add => if a.length + b.length ≤ sizeLine then some (.str (a ++ b)) else none
    | _ => none
  | _, _ => none
noncomputable def evBin (o : BOp) (x y : D) (S : Store) : R D := match x, y with
  | .t a, .t b => ofOpt ((tBin o a b).map .t) S
  | _, _ => .bad
def datOf (S : Store) (x : D) : Option PyData := (rdT S 6 x).bind fun t => t.dat.bind fun d => if SeqAt.shaped d then some d else none
def ordI (o : COp) (i j : Int) : Option Bool := match o with
  | .lt => some (decide (i < j))
  | .le => some (decide (i ≤ j))
  | .gt => some (decide (j < i))
  | .ge => some (decide (j ≤ i))
  | _ => none
def flatT : T → Option V
  | .non => some .non
  | .bl b => some (.bl b)
  | .int i => some (.int i)
  | .str x => some (.str x)
  | _ => none
/-- the items of a list or tuple, read -/
def seqT (S : Store) (x : D) : Option (List T) := match x with
  | .t (.lst xs) => some xs
  | .t (.tup xs) => some xs
  | .loc n => match S[n]? with
    | some (.lst ds) => allT ds
    | _ => none
  | _ => none
/-- the dict, asked for a key -/
def dicD (S : Store) (y : D) : Option (Key → Bool) := match y with
  | .t (.dic kvs) => some fun k => (kGet kvs k).isSome
  | .loc n => match S[n]? with
    | some (.dic kvs) => some fun k => (kGet kvs k).isSome
    | _ => none
  | _ => none
def signIn (x y : T) : Option Bool := match x, y with
  | .str c, .str z => match c.cps.toList with
    | [k] => some (decide (k ∈ z.cps.toList))
    | _ => none
  | _, _ => none
/-- x in y -/
def inD (S : Store) (x y : D) : Option Bool := match x with
  | .loc _ => none
  | .t x => match dicD S y with
    | some f => (toKey x).map f
    | none => match y with
      | .t (.str z) => signIn x (.str z)
      | y => (flatT x).bind fun v => (seqT S y).bind fun ts => (ts.mapM flatT).map fun vs => inV v vs
def tyT : T → Option String
  | .non => some "NoneType"
  | .bl _ => some "bool"
  | .int _ => some "int"
  | .str _ => some "str"
  | .lst _ => some "list"
  | .tup _ => some "tuple"
  | .dic _ => some "dict"
  | _ => none
def isLoc : D → Bool
  | .loc _ => true
  | _ => false
def isNone : D → Bool
  | .t .non => true
  | _ => false
def evCmp (o : COp) (x y : D) (S : Store) : R D := match o with
  | .eq => ofOpt ((datOf S x).bind fun d => (datOf S y).map fun e => .t (.bl (PyData.eqv d e))) S
  | .ne => ofOpt ((datOf S x).bind fun d => (datOf S y).map fun e => .t (.bl (!PyData.eqv d e))) S
  | .in_ => ofOpt ((inD S x y).map fun b => .t (.bl b)) S
  | .nin => ofOpt ((inD S x y).map fun b => .t (.bl (!b))) S
  | .is_ => if isNone y then .ok (.t (.bl (isNone x))) S else .bad
  | .isn => if isNone y then .ok (.t (.bl (!isNone x))) S else .bad
  | o => match x, y with
    | .t (.int i), .t (.int j) => ofOpt ((ordI o i j).map fun b => .t (.bl b)) S
    | _, _ => .bad
/-- a dict's keys -/
def keysD (S : Store) (x : D) : Option (List Key) := match x with
  | .t (.dic kvs) => some (kvs.map (·.1))
  | .loc n => match S[n]? with
    | some (.dic kvs) => some (kvs.map (·.1))
    | _ => none
  | _ => none
/-- a value's truth -/
def truD (S : Store) (x : D) : Option Bool := match x with
  | .t .non => some false
  | .t (.bl b) => some b
  | .t (.int i) => some (i != 0)
  | .t (.str y) => if y.length ≤ sizeLine then some ((y.length : Int) != 0) else none
  | .t (.lst xs) => some (!xs.isEmpty)
  | .t (.tup xs) => some (!xs.isEmpty)
  | .t (.dic xs) => some (!xs.isEmpty)
  | .loc n => match S[n]? with
    | some (.lst ds) => some (!ds.isEmpty)
    | some (.dic ds) => some (!ds.isEmpty)
    | _ => none
  | _ => none
def lenD (S : Store) (x : D) : Option Nat := match x with
  | .t (.str y) => if y.length ≤ sizeLine then some y.length else none
  | .t (.lst xs) => some xs.length
  | .t (.tup xs) => some xs.length
  | .t (.arg xs) => some xs.length
  | .t (.dic xs) => some xs.length
  | .loc n => match S[n]? with
    | some (.lst ds) => some ds.length
    | some (.dic ds) => some ds.length
    | _ => none
  | _ => none
def intsT : List T → Option (List Int)
  | [] => some []
  | .int i :: r => (intsT r).map (i :: ·)
  | _ :: _ => none
def blsT : List T → Option (List Bool)
  | [] => some []
  | .bl i :: r => (blsT r).map (i :: ·)
  | _ :: _ => none
/-- the items of a list or tuple -/
def itsD (S : Store) (x : D) : Option (List D) := match x with
  | .t (.lst xs) => some (xs.map .t)
  | .loc n => match S[n]? with
    | some (.lst ds) => some ds
    | _ => none
  | _ => none
/-- a list that is a tree -/
def lstTr (x : D) : Option (List T) := match x with
  | .t (.lst xs) => some xs
  | _ => none
def lstT (S : Store) (x : D) : Option (List T) := (itsD S x).bind allT
noncomputable def evBi (b : Bi) (ds : List D) (S : Store) : R D := match b, ds with
  | .len, [x] => ofOpt ((lenD S x).map fun (n : Nat) => .t (.int (n : Nat))) S
  | .abs, [.t (.int i)] => .ok (.t (.int (if i < 0 then -i else i))) S
  | .max2, [.t (.int i), .t (.int j)] => .ok (.t (.int (if j > i then j else i))) S
  | .min2, [.t (.int i), .t (.int j)] => .ok (.t (.int (if j < i then j else i))) S
  | .sum, [x] => ofOpt ((lstT S x).bind fun ts => (intsT ts).map fun ns => .t (.int ns.sum)) S
  | .all, [x] => ofOpt ((lstT S x).bind fun ts => (blsT ts).map fun ns => .t (.bl (ns.all id))) S
  | .any, [x] => ofOpt ((lstT S x).bind fun ts => (blsT ts).map fun ns => .t (.bl (ns.any id))) S
  | .int, [.t (.int i)] => .ok (.t (.int i)) S
  | .int, [.t (.bl b)] => .ok (.t (.int (if b then 1 else 0))) S
  | .divmod, [.t (.int i), .t (.int j)] => @ite _ (0 < j ∧ j < 1073741824) (Classical.propDecidable _) (.ok (.t (.tup [.int (i / j), .int (i % j)])) S) .bad
  | .lenset, [x] => ofOpt ((lstT S x).bind fun ts => (intsT ts).bind fun ns => if ns.length < 4000 then some (.t (.int (ns.foldl PyProof.Rows.step_dedup []).length)) else none) S
  | .bitlen, [.t (.int i)] => .ok (.t (.int (Builtin.Int.intBits i : Nat))) S
  | .repr, [x] => ofOpt ((datOf S x).bind fun d => if d.showable = true ∧ d.depth ≤ 100 ∧ d.shown.length ≤ sizeLine then some (.t (.str d.shown)) else none) S
  | .asRep, [.t (.str y)] => .ok (.t (.str y)) S
  | .asLen, [.t (.int i)] => @ite _ (0 ≤ i ∧ i < 4611686018427387904) (Classical.propDecidable _) (.ok (.t (.int i)) S) .bad
  | _, _ => .bad
/-- of what an f-string shows as repr does -/
def fmB : PyData → Bool
  | .int _ => true
  | .list _ => true
  | .tuple _ => true
  | _ => false
def evFm (x : D) (S : Store) : R D := match x with
  | .t (.str y) => if y.length ≤ sizeLine then .ok (.t (.str y)) S else .bad
  | x => ofOpt ((datOf S x).bind fun d => if fmB d = true ∧ d.showable = true ∧ d.depth ≤ 100 ∧ d.shown.length ≤ sizeLine then some (.t (.str d.shown)) else none) S
def lstAt (S : Store) (x : D) : Option (Nat × List D) := match x with
  | .loc n => match S[n]? with
    | some (.lst ds) => some (n, ds)
    | _ => none
  | _ => none
/-- what a dict holds -/
def dicG (S : Store) (y : D) : Option (Key → Option D) := match y with
  | .t (.dic kvs) => some fun k => (kGet kvs k).map .t
  | .loc n => match S[n]? with
    | some (.dic kvs) => some fun k => kGet kvs k
    | _ => none
  | _ => none
def Bm.ty : Bm → String
  | .get => "dict"
  | .getOr => "dict"
  | _ => "list"
def bmAppend (o : D) (ds : List D) (S : Store) : R D := match ds with
  | [y] => (match lstAt S o with
    | some (n, xs) => if xs.length < sizeLine then .ok (.t .non) (S.set n (.lst (xs ++ [y]))) else .bad
    | none => .bad)
  | _ => .bad
def bmPop (o : D) (ds : List D) (S : Store) : R D := match ds with
  | [] => (match lstAt S o with
    | some (n, xs) => (match xs[xs.length - 1]? with
      | some y => .ok y (S.set n (.lst xs.dropLast))
      | none => .bad)
    | none => .bad)
  | _ => .bad
noncomputable def bmPopAt (o : D) (ds : List D) (S : Store) : R D := match ds with
  | [.t (.int i)] => (match lstAt S o with
    | some (n, xs) => @ite _ (0 ≤ i ∧ i < 9223372036854775808) (Classical.propDecidable _) (match xs[i.toNat]? with
      | some y => .ok y (S.set n (.lst (xs.eraseIdx i.toNat)))
      | none => .bad) .bad
    | none => .bad)
  | _ => .bad
def bmClear (o : D) (ds : List D) (S : Store) : R D := match ds with
  | [] => (match lstAt S o with
    | some (n, _) => .ok (.t .non) (S.set n (.lst []))
    | none => .bad)
  | _ => .bad
def bmReverse (o : D) (ds : List D) (S : Store) : R D := match ds with
  | [] => (match lstAt S o with
    | some (n, xs) => .ok (.t .non) (S.set n (.lst xs.reverse))
    | none => .bad)
  | _ => .bad
def bmIndex (o : D) (ds : List D) (S : Store) : R D := match ds with
  | [.t y] => (match (flatT y).bind fun v => (seqT S o).bind fun ts => (ts.mapM flatT).bind fun vs => vs.findIdx? fun z => eqV z v with
    | some j => .ok (.t (.int (j : Nat))) S
    | none => .bad)
  | _ => .bad
def bmGet (o : D) (ds : List D) (S : Store) : R D := match ds with
  | [.t y] => (match dicG S o with
    | some g => ofOpt ((toKey y).map fun k => (g k).getD (.t .non)) S
    | none => .bad)
  | _ => .bad
def bmGetOr (o : D) (ds : List D) (S : Store) : R D := match ds with
  | [.t y, z] => (match dicG S o with
    | some g => ofOpt ((toKey y).map fun k => (g k).getD z) S
    | none => .bad)
  | _ => .bad
noncomputable def evBm (b : Bm) (o : D) (ds : List D) (S : Store) : R D := match b with
  | .append => bmAppend o ds S
  | .pop => bmPop o ds S
  | .popAt => bmPopAt o ds S
  | .clear => bmClear o ds S
  | .reverse => bmReverse o ds S
  | .index => bmIndex o ds S
  | .get => bmGet o ds S
  | .getOr => bmGetOr o ds S
  | _ => .bad
def evIdx (x i : D) (S : Store) : R D := match x, i with
  | .t (.lst xs), .t (.int i) => ofOpt ((atI xs i).map .t) S
  | .t (.tup xs), .t (.int i) => ofOpt ((atI xs i).map .t) S
  | .t (.arg xs), .t (.int i) => ofOpt ((atI xs i).map fun n => .t (.int n)) S
  | .t (.dic kvs), .t k => ofOpt ((toKey k).bind fun k => (kGet kvs k).map .t) S
  | .t (.str z), .t (.int i) => if z.length ≤ sizeLine then ofOpt ((atI z.cps.toList i).map fun c => .t (.str ⟨#[c]⟩)) S else .bad
  | .loc n, .t k => match S[n]? with
    | some (.lst ds) => (match k with
      | .int i => ofOpt (atI ds i) S
      | _ => .bad)
    | some (.dic kvs) => ofOpt ((toKey k).bind fun k => kGet kvs k) S
    | _ => .bad
  | _, _ => .bad
/-- o[i] = v -/
def evPut (x i v : D) (S : Store) : R Unit := match x, i with
  | .loc n, .t k => match S[n]? with
    | some (.lst ds) => (match k with
      | .int i => match ixN ds.length i with
        | some j => .ok () (S.set n (.lst (ds.set j v)))
        | none => .bad
      | _ => .bad)
    | some (.dic kvs) => (match toKey k with
      | some k => if kvs.length < sizeLine then .ok () (S.set n (.dic (kPut kvs k v))) else .bad
      | none => .bad)
    | _ => .bad
  | _, _ => .bad
def evFld (x : D) (f : Nat) (S : Store) : R D := match x with
  | .t (.ins _ fs) => ofOpt ((fs.lookup f).map .t) S
  | .loc n => match S[n]? with
    | some (.ins _ fs) => ofOpt (fs.lookup f) S
    | _ => .bad
  | _ => .bad
def clsD (S : Store) (x : D) : Option Nat := match x with
  | .t (.ins c _) => some c
  | .loc n => match S[n]? with
    | some (.ins c _) => some c
    | _ => none
  | _ => none
def tyD (S : Store) (x : D) : Option (String ⊕ Nat) := match x with
  | .t (.ins c _) => some (.inr c)
  | .t x => (tyT x).map .inl
  | .loc n => match S[n]? with
    | some (.lst _) => some (.inl "list")
    | some (.dic _) => some (.inl "dict")
    | some (.ins c _) => some (.inr c)
    | _ => none
/-- a cell names no cell from L on -/
def Cell.below (L : Nat) : Cell → Prop
  | .dead => True
  | .lst ds => ∀ n, D.loc n ∈ ds → n < L
  | .dic kvs => ∀ k n, (k, D.loc n) ∈ kvs → n < L
  | .ins _ fs => ∀ k n, (k, D.loc n) ∈ fs → n < L
/-- the cells of the call's start may stand without those that the callee made -/
def Keeps (S S' : Store) : Prop := S.length ≤ S'.length ∧ ∀ (n : Nat) (c : Cell), n < S.length → S'[n]? = some c → S[n]? = some c ∨ c.below S.length
open Classical in
/-- behind a call: the callee's cells go -/
noncomputable def fin (m : Md) (S0 : Store) (r : R D) : R D := match m, r with
  | .raw, r => r
  | .fz, .ok d S => if Keeps S0 S then (match d with
      | .t x => .ok (.t x) (S.take S0.length)
      | .loc n => if n < S0.length then .ok (.loc n) (S.take S0.length) else ofOpt ((rdF S0.length S 6 (.loc n)).map .t) (S.take S0.length)) else .bad
  | .nw, .ok d S => if Keeps S0 S then (match d with
      | .t x => .bad
      | .loc n => if n < S0.length then .ok (.loc n) (S.take S0.length) else match S[n]? with
        | some (.lst ds) => (match allT ds with
          | some ts => .ok (.loc S0.length) (S.take S0.length ++ [.lst (ts.map .t)])
          | none => .bad)
        | some (.dic kvs) => (match allTK kvs with
          | some ts => .ok (.loc S0.length) (S.take S0.length ++ [.dic (ts.map fun p => (p.1, .t p.2))])
          | none => .bad)
        | _ => .bad) else .bad
  | _, .exc e S => if Keeps S0 S then .exc e (S.take S0.length) else .bad
  | _, .bad => .bad

/-- the program: methods by class, the __init__s, what is a subclass of what, the defs' promise -/
structure Prg where
  meth : Nat → Nat → Option Nat
  init : Nat → Option Nat
  isa : (String ⊕ Nat) → Cl → Option Bool
  /-- of exceptions: isinstance; a clause's class -/
  xisa : Nat → Cl → Option Bool
  xmat : Nat → Nat → Option Bool
/-- an exception's class; a built-in one -/
abbrev xo (c : Nat) : Cl := .own c
abbrev xt (n : String) : Cl := .ty n
/-- of a caught exception of the class c -/
def evH (x : Nat → Cl → Option Bool) : Hx → Nat → Option Bool
  | .cst b, _ => some b
  | .isi k, c => x c k
  | .and_ a b, c => match evH x a c with
    | some true => evH x b c
    | some false => some false
    | none => none
  | .or_ a b, c => match evH x a c with
    | some false => evH x b c
    | some true => some true
    | none => none
  | .not_ a, c => (evH x a c).map (!·)
abbrev Calls := Nat → List D → Store → R D

/-! ### loops -/
def forL (f : D → Env → Store → R (Fl × Env)) : List D → Env → Store → R (Fl × Env)
  | [], τ, S => .ok (.nx, τ) S
  | d :: r, τ, S => (f d τ S).bind fun q S' => match q.1 with
    | .nx => forL f r q.2 S'
    | .ct => forL f r q.2 S'
    | .bk => .ok (.nx, q.2) S'
    | .rt v => .ok (.rt v, q.2) S'
/-- over the list in the cell n, as it stands at each turn -/
def forC (n : Nat) (f : D → Env → Store → R (Fl × Env)) : Nat → Nat → Env → Store → R (Fl × Env)
  | k, i, τ, S => match S[n]? with
    | some (.lst ds) => match ds[i]? with
      | none => .ok (.nx, τ) S
      | some d => match k with
        | 0 => .bad
        | k + 1 => (f d τ S).bind fun q S' => match q.1 with
          | .nx => forC n f k (i + 1) q.2 S'
          | .ct => forC n f k (i + 1) q.2 S'
          | .bk => .ok (.nx, q.2) S'
          | .rt v => .ok (.rt v, q.2) S'
    | _ => .bad
def whiL (c : Env → Store → R Bool) (f : Env → Store → R (Fl × Env)) : Nat → Env → Store → R (Fl × Env)
  | 0, _, _ => .bad
  | k + 1, τ, S => (c τ S).bind fun b S1 => match b with
    | false => .ok (.nx, τ) S1
    | true => (f τ S1).bind fun q S' => match q.1 with
      | .nx => whiL c f k q.2 S'
      | .ct => whiL c f k q.2 S'
      | .bk => .ok (.nx, q.2) S'
      | .rt v => .ok (.rt v, q.2) S'
/-- a comprehension's turns: what is kept -/
def cmpL (f : D → Store → R (Option D)) : List D → List D → Store → R (List D)
  | [], acc, S => .ok acc S
  | d :: r, acc, S => (f d S).bind fun q S' => match q with
    | some y => if acc.length < sizeLine then cmpL f r (acc ++ [y]) S' else .bad
    | none => cmpL f r acc S'
def cmpC (n : Nat) (f : D → Store → R (Option D)) : Nat → Nat → List D → Store → R (List D)
  | k, i, acc, S => match S[n]? with
    | some (.lst ds) => match ds[i]? with
      | none => .ok acc S
      | some d => match k with
        | 0 => .bad
        | k + 1 => (f d S).bind fun q S' => match q with
          | some y => if acc.length < sizeLine then cmpC n f k (i + 1) (acc ++ [y]) S' else .bad
          | none => cmpC n f k (i + 1) acc S'
    | _ => .bad
/-- what is walked: written items, or the list in a cell -/
inductive Src where
  | ds (ds : List D) | cell (n k : Nat)
def srcOf (S : Store) (x : D) : Option Src := match x with
  | .t (.lst xs) => some (.ds (xs.map .t))
  | .t (.tup xs) => some (.ds (xs.map .t))
  | .loc n => match S[n]? with
    | some (.lst ds) => some (.cell n (ds.length + 1))
    | _ => none
  | _ => none
noncomputable def rngI : List D → Option (List Int)
  | [.t (.int n)] => @ite _ (-(2 ^ 62) ≤ n ∧ n < 2 ^ 62) (Classical.propDecidable _) (some ((List.range n.toNat).map fun (i : Nat) => (i : Int))) none
  | [.t (.int a), .t (.int b)] => @ite _ (-(2 ^ 62) ≤ a ∧ a < 2 ^ 62 ∧ -(2 ^ 62) ≤ b ∧ b < 2 ^ 62) (Classical.propDecidable _) (some ((List.range (b - a).toNat).map fun (i : Nat) => a + (i : Int))) none
  | _ => none
def wipeE (τ : Env) : List Nat → Env
  | [] => τ
  | v :: vs => (wipeE τ vs).set v none
mutual
def tgVars : Tg → List Nat
  | .nm i => [i]
  | .tp ts => tgsVars ts
  | .ix _ _ => []
def tgsVars : List Tg → List Nat
  | [] => []
  | t :: r => tgVars t ++ tgsVars r
end
def cutD (xs : List D) (lo hi : Option Int) : List D := (xs.drop (HT.sIx xs.length 0 lo)).take (HT.sIx xs.length xs.length hi - HT.sIx xs.length 0 lo)
def tupD (d : D) : Option (List T) := match d with
  | .t (.tup xs) => some xs
  | .t (.lst xs) => some xs
  | _ => none
def isAny (isa : (String ⊕ Nat) → Cl → Option Bool) (q : String ⊕ Nat) : List Cl → Option Bool
  | [] => some false
  | c :: r => match isa q c, isAny isa q r with
    | some b, some d => some (b || d)
    | _, _ => none
end Ev
end

section
set_option Elab.async false
set_option linter.all false
namespace Ev
open PySem L2

section
variable (P : Prg) (C : Calls)
mutual
noncomputable def evE : E → Env → Store → R D
  | .var i, τ, S => match τ[i]? with
    | some (some d) => .ok d S
    | _ => .bad
  | .cst t, _, S => .ok (.t t) S
  | .tup es, τ, S => (evEs es τ S).bind fun ds S1 => if ds.length ≤ sizeLine then ofOpt ((allT ds).map fun ts => .t (.tup ts)) S1 else .bad
  | .fr f, τ, S => (evF f τ S).bind fun ds S1 => ofOpt ((allT ds).map fun ts => .t (.lst ts)) S1
  | .nw f, τ, S => (evF f τ S).bind fun ds S1 => .ok (.loc S1.length) (S1 ++ [.lst ds])
  | .dnw, _, S => .ok (.loc S.length) (S ++ [.dic []])
  | .ddi ks es, τ, S => (evEs es τ S).bind fun ds S1 => if ks.length = ds.length ∧ ks.length ≤ 15 ∧ ks.Nodup then .ok (.loc S1.length) (S1 ++ [.dic (ks.zip ds)]) else .bad
  | .fz e, τ, S => (evE e τ S).bind fun d S1 => match d with
    | .t x => .ok (.t x) S1
    | .loc n => match S1[n]? with
      | some (.lst ds) => ofOpt ((allT ds).map fun ts => .t (.lst ts)) (S1.set n .dead)
      | some (.dic ds) => ofOpt ((allTK ds).map fun ts => .t (.dic ts)) (S1.set n .dead)
      | some (.ins c ds) => ofOpt ((allTF ds).map fun ts => .t (.ins c ts)) (S1.set n .dead)
      | _ => .bad
  | .bin o a b, τ, S => (evE a τ S).bind fun x S1 => (evE b τ S1).bind fun y S2 => evBin o x y S2
  | .neg a, τ, S => (evE a τ S).bind fun x S1 => match x with
    | .t (.int i) => .ok (.t (.int (-i))) S1
    | _ => .bad
  | .cmp o a b, τ, S => (evE a τ S).bind fun x S1 => (evE b τ S1).bind fun y S2 => evCmp o x y S2
  | .cmp2 o p a b c, τ, S => (evE a τ S).bind fun x S1 => (evE b τ S1).bind fun y S2 => (evCmp o x y S2).bind fun q S3 => match q with
    | .t (.bl true) => (evE c τ S3).bind fun z S4 => evCmp p y z S4
    | .t (.bl false) => .ok (.t (.bl false)) S3
    | _ => .bad
  | .and_ a b, τ, S => (evE a τ S).bind fun x S1 => match x with
    | .t (.bl true) => evE b τ S1
    | .t (.bl false) => .ok (.t (.bl false)) S1
    | _ => .bad
  | .or_ a b, τ, S => (evE a τ S).bind fun x S1 => match x with
    | .t (.bl false) => evE b τ S1
    | .t (.bl true) => .ok (.t (.bl true)) S1
    | _ => .bad
  | .not_ a, τ, S => (evE a τ S).bind fun x S1 => ofOpt ((truD S1 x).map fun b => .t (.bl (!b))) S1
  | .ife c a b, τ, S => (evT c τ S).bind fun q S1 => match q with
    | true => evE a τ S1
    | false => evE b τ S1
  | .fld e f, τ, S => (evE e τ S).bind fun x S1 => evFld x f S1
  | .idx a i, τ, S => (evE a τ S).bind fun x S1 => (evE i τ S1).bind fun y S2 => evIdx x y S2
  | .bi b es, τ, S => (evEs es τ S).bind fun ds S1 => evBi b ds S1
  | .bm b o es, τ, S => (evE o τ S).bind fun x S1 => if tyD S1 x = some (.inl b.ty) then (evEs es τ S1).bind fun ds S2 => evBm b x ds S2 else .bad
  | .isi e cs, τ, S => (evE e τ S).bind fun x S1 => ofOpt ((tyD S1 x).bind fun q => (isAny P.isa q cs).map fun b => .t (.bl b)) S1
  | .fm e, τ, S => (evE e τ S).bind fun x S1 => evFm x S1
  | .js es, τ, S => (evJ es Str.empty τ S).bind fun y S1 => .ok (.t (.str y)) S1
  | .call m f es df, τ, S => (evEs es τ S).bind fun ds S1 => fin m S1 (C f (ds ++ df.map .t) S1)
  | .meth m x o es df, τ, S => (evE o τ S).bind fun y S1 => match (clsD S1 y).bind fun c => P.meth c x with
    | some f => (evEs es τ S1).bind fun ds S2 => fin m S2 (C f (y :: (ds ++ df.map .t)) S2)
    | none => .bad
  | .mk m c es df, τ, S => (evEs es τ S).bind fun ds S1 => match P.init c with
    | some f => fin m S1 ((C f (.loc S1.length :: (ds ++ df.map .t)) (S1 ++ [.ins c []])).bind fun q S2 => match q with
      | .t .non => .ok (.loc S1.length) S2
      | _ => .bad)
    | none => .bad
/-- as a test -/
noncomputable def evT : E → Env → Store → R Bool
  | .and_ a b, τ, S => (evT a τ S).bind fun x S1 => match x with
    | true => evT b τ S1
    | false => .ok false S1
  | .or_ a b, τ, S => (evT a τ S).bind fun x S1 => match x with
    | true => .ok true S1
    | false => evT b τ S1
  | .not_ a, τ, S => (evT a τ S).bind fun x S1 => .ok (!x) S1
  | e, τ, S => (evE e τ S).bind fun x S1 => ofOpt (truD S1 x) S1
noncomputable def evEs : List E → Env → Store → R (List D)
  | [], _, S => .ok [] S
  | e :: r, τ, S => (evE e τ S).bind fun d S1 => (evEs r τ S1).bind fun ds S2 => .ok (d :: ds) S2
/-- an f-string's parts -/
noncomputable def evJ : List E → Str → Env → Store → R Str
  | [], acc, _, S => .ok acc S
  | e :: r, acc, τ, S => (evE e τ S).bind fun x S1 => match x with
    | .t (.str y) => if (acc ++ y).length ≤ sizeLine then evJ r (acc ++ y) τ S1 else .bad
    | _ => .bad
/-- a fresh list's items -/
noncomputable def evF : F → Env → Store → R (List D)
  | .disp es, τ, S => (evEs es τ S).bind fun ds S1 => if ds.length ≤ sizeLine then .ok ds S1 else .bad
  | .cat a b, τ, S => (evE a τ S).bind fun x S1 => (evE b τ S1).bind fun y S2 => ofOpt ((itsD S2 x).bind fun xs => (itsD S2 y).bind fun ys => if xs.length + ys.length ≤ sizeLine then some (xs ++ ys) else none) S2
  | .rep a n, τ, S => (evE a τ S).bind fun x S1 => (evE n τ S1).bind fun y S2 => match y with
    | .t (.int k) => ofOpt ((itsD S2 x).bind fun xs => @ite _ (-(2 ^ 63) ≤ k ∧ k < 2 ^ 63 ∧ xs.length * k.toNat ≤ sizeLine) (Classical.propDecidable _) (some ((List.replicate k.toNat xs).flatten)) none) S2
    | _ => .bad
  | .slc a lo hi, τ, S => (evE a τ S).bind fun x S1 => (evO lo τ S1).bind fun l S2 => (evO hi τ S2).bind fun h S3 => ofOpt ((itsD S3 x).map fun xs => cutD xs l h) S3
  | .rev a, τ, S => (evE a τ S).bind fun x S1 => ofOpt ((itsD S1 x).map List.reverse) S1
  | .comp tg it ifs e, τ, S => (evIt it τ S).bind fun src S1 =>
    let f : D → Store → R (Option D) := fun d S => ((asgT tg d (wipeE τ (tgVars tg)) S).bind fun τ' S' => (evTs ifs τ' S').bind fun b S2 => bif b then (evE e τ' S2).bind fun y S3 => .ok (some y) S3 else .ok none S2).noX
    match src with
    | .ds ds => cmpL f ds [] S1
    | .cell n k => cmpC n f k 0 [] S1
  | .listOf e, τ, S => (evE e τ S).bind fun x S1 => ofOpt (itsD S1 x) S1
  | .keysOf e, τ, S => (evE e τ S).bind fun x S1 => ofOpt ((keysD S1 x).map fun ks => ks.map fun k => .t (keyT k)) S1
  | .rng es, τ, S => (evEs es τ S).bind fun ds S1 => ofOpt ((rngI ds).bind fun ns => if ns.length ≤ 16777216 then some (ns.map fun n => .t (.int n)) else none) S1
  | .sorted e, τ, S => (evE e τ S).bind fun x S1 => ofOpt ((lstT S1 x).bind fun ts => (intsT ts).map fun ns => (ns.mergeSort (fun a b => decide (a ≤ b))).map fun n => .t (.int n)) S1
noncomputable def evO : Option E → Env → Store → R (Option Int)
  | none, _, S => .ok none S
  | some e, τ, S => (evE e τ S).bind fun x S1 => match x with
    | .t (.int i) => .ok (some i) S1
    | _ => .bad
noncomputable def evIt : It → Env → Store → R Src
  | .val e, τ, S => (evE e τ S).bind fun x S1 => ofOpt (srcOf S1 x) S1
  | .rng es, τ, S => (evEs es τ S).bind fun ds S1 => ofOpt ((rngI ds).map fun ns => .ds (ns.map fun n => .t (.int n))) S1
  | .enu e, τ, S => (evE e τ S).bind fun x S1 => ofOpt ((lstTr x).map fun ts => .ds ((List.range ts.length).zip ts |>.map fun (p : Nat × T) => .t (.tup [.int ((p.1 : Nat) : Int), p.2]))) S1
  | .zip a b, τ, S => (evE a τ S).bind fun x S1 => (evE b τ S1).bind fun y S2 => ofOpt ((lstTr x).bind fun xs => (lstTr y).map fun ys => .ds ((xs.zip ys).map fun p => .t (.tup [p.1, p.2]))) S2
  | .items e, τ, S => .bad
noncomputable def evTs : List E → Env → Store → R Bool
  | [], _, S => .ok true S
  | e :: r, τ, S => (evT e τ S).bind fun b S1 => match b with
    | true => evTs r τ S1
    | false => .ok false S1
noncomputable def asgT : Tg → D → Env → Store → R Env
  | .nm i, d, τ, S => .ok (τ.set i (some d)) S
  | .tp ts, d, τ, S => match tupD d with
    | some xs => if xs.length = ts.length then asgTs ts (xs.map .t) τ S else .bad
    | none => .bad
  | .ix a i, d, τ, S => ((evE a τ S).bind fun x S1 => (evE i τ S1).bind fun y S2 => (evPut x y d S2).bind fun _ S3 => .ok τ S3).noX
noncomputable def asgTs : List Tg → List D → Env → Store → R Env
  | [], [], τ, S => .ok τ S
  | t :: r, d :: ds, τ, S => (asgT t d τ S).bind fun τ1 S1 => asgTs r ds τ1 S1
  | _, _, _, _ => .bad
end
end
end Ev
end

section
set_option Elab.async false
set_option linter.all false
namespace Ev
open PySem L2

section
variable (P : Prg) (C : Calls)
mutual
noncomputable def evS : Sm → Env → Store → R (Fl × Env)
  | .expr e, τ, S => (evE P C e τ S).bind fun _ S1 => .ok (.nx, τ) S1
  | .ret e, τ, S => (evE P C e τ S).bind fun d S1 => .ok (.rt d, τ) S1
  | .retN, τ, S => .ok (.rt (.t .non), τ) S
  | .asg t e, τ, S => (evE P C e τ S).bind fun d S1 => (asgT P C t d τ S1).bind fun τ1 S2 => .ok (.nx, τ1) S2
  | .mas ts es, τ, S => (evEs P C es τ S).bind fun ds S1 => if ds.length = ts.length ∧ ds.length ≤ 16777216 then (asgTs P C ts ds τ S1).bind fun τ1 S2 => .ok (.nx, τ1) S2 else .bad
  | .aug i o e, τ, S => match τ[i]? with
    | some (some x) => (evE P C e τ S).bind fun y S1 => (evBin o x y S1).bind fun z S2 => .ok (.nx, τ.set i (some z)) S2
    | _ => .bad
  | .augIx a i o e, τ, S => (evE P C a τ S).bind fun x S1 => if isLoc x = true then (evE P C i τ S1).bind fun k S2 => (evIdx x k S2).bind fun v S3 =>
    (evE P C e τ S3).bind fun y S4 => (evBin o v y S4).bind fun z S5 => (evPut x k z S5).bind fun _ S6 => .ok (.nx, τ) S6 else .bad
  | .fasg o f e, τ, S => (evE P C e τ S).bind fun y S1 => (evE P C o τ S1).bind fun x S2 => match x with
    | .loc n => match S2[n]? with
      | some (.ins c fs) => if fs.length < 1000 then .ok (.nx, τ) (S2.set n (.ins c (fPut f y fs))) else .bad
      | _ => .bad
    | _ => .bad
  | .iff c a b, τ, S => (evT P C c τ S).bind fun q S1 => match q with
    | true => evSs a τ S1
    | false => evSs b τ S1
  | .for_ t it body, τ, S => (evIt P C it τ S).bind fun src S1 =>
    match src with
    | .ds ds => forL (fun d τ S => (asgT P C t d τ S).bind fun τ1 S2 => evSs body τ1 S2) ds τ S1
    | .cell n k => forC n (fun d τ S => (asgT P C t d τ S).bind fun τ1 S2 => evSs body τ1 S2) k 0 τ S1
  | .whil k c body, τ, S => whiL (evT P C c) (evSs body) k τ S
  | .pass, τ, S => .ok (.nx, τ) S
  | .brk, τ, S => .ok (.bk, τ) S
  | .cont, τ, S => .ok (.ct, τ) S
  | .raise, _, _ => .bad
  | .rai c, _, S => .exc ⟨c, []⟩ S
  | .tr c i b j h, τ, S => match evS b τ S with
    | .exc e S1 => (match P.xmat e.cls c with
      | some true => (match e.fs, evH P.xisa h e.cls with
        | [], some r => .ok (.nx, (τ.set j (some (.t (.bl r)))).set i none) S1
        | _, _ => .bad)
      | some false => .exc e S1
      | none => .bad)
    | r => r
  | .frv i, τ, S => match τ[i]? with
    | some (some (.loc n)) => (match S[n]? with
      | some (.lst ds) => ofOpt ((allT ds).map fun ts => (.nx, τ.set i (some (.t (.lst ts))))) (S.set n .dead)
      | some (.dic ds) => ofOpt ((allTK ds).map fun ts => (.nx, τ.set i (some (.t (.dic ts))))) (S.set n .dead)
      | some (.ins c ds) => ofOpt ((allTF ds).map fun ts => (.nx, τ.set i (some (.t (.ins c ts))))) (S.set n .dead)
      | _ => .bad)
    | some (some (.t _)) => .ok (.nx, τ) S
    | _ => .bad
noncomputable def evSs : List Sm → Env → Store → R (Fl × Env)
  | [], τ, S => .ok (.nx, τ) S
  | s :: r, τ, S => (evS s τ S).bind fun q S1 => match q.1 with
    | .nx => evSs r q.2 S1
    | _ => .ok q S1
end
end
/-- a def: how many names, how many parameters, its body -/
structure Fn where
  slots : Nat
  pars : Nat
  body : List Sm
/-- its body run -/
noncomputable def runFn (P : Prg) (C : Calls) (f : Fn) (ds : List D) (S : Store) : R D :=
  if ds.length = f.pars then (evSs P C f.body (ds.map some ++ List.replicate (f.slots - ds.length) none) S).bind fun q S1 => match q.1 with
    | .rt d => .ok d S1
    | .nx => .ok (.t .non) S1
    | _ => .bad
  else .bad
/-- the program's calls, so deep -/
noncomputable def callF (P : Prg) (fns : Nat → Option Fn) : Nat → Calls
  | 0, _, _, _ => .bad
  | k + 1, f, ds, S => match fns f with
    | some fn => runFn P (callF P fns k) fn ds S
    | none => .bad
end Ev
end

section
set_option Elab.async false
set_option linter.all false
namespace Ev
open PySem L2

/-- where the classes, the defs stand; the fields' names -/
structure Glob where
  cls : Nat → Addr
  /-- the exceptions' classes -/
  xc : Nat → Addr
  fn : Nat → Addr
  fld : Nat → Str
  nf : Nat
  /-- the script, where it is one of the module's own objects -/
  arg : Addr → List Int → Prop
variable {G : Glob}
mutual
def RepT (G : Glob) (U : Hp) : T → V → Prop
  | .non, v => v = .non
  | .bl b, v => v = .bl b
  | .int i, v => v = .int i
  | .str x, v => v = .str x
  | .lst xs, v => ∃ a vs, v = .ref a ∧ U a = some (.lst vs) ∧ RepTs G U xs vs
  | .tup xs, v => ∃ a vs, v = .ref a ∧ U a = some (.tup vs) ∧ RepTs G U xs vs
  | .dic kvs, v => ∃ a vs, v = .ref a ∧ U a = some (.dK vs) ∧ RepTK G U kvs vs
  | .ins c fs, v => ∃ a dx vs, v = .ref a ∧ U a = some (.ins (G.cls c) dx vs) ∧ U dx = some (.own a) ∧ RepTF G U fs vs
  | .fn f, v => v = .ref (G.fn f)
  | .arg ns, v => ∃ a, v = .ref a ∧ ((∃ o, U a = some (.frz o (.lst (ns.map V.int)))) ∨ G.arg a ns)
def RepTs (G : Glob) (U : Hp) : List T → List V → Prop
  | [], vs => vs = []
  | x :: r, vs => ∃ v ws, vs = v :: ws ∧ RepT G U x v ∧ RepTs G U r ws
def RepTK (G : Glob) (U : Hp) : List (Key × T) → List (Key × V) → Prop
  | [], vs => vs = []
  | (k, x) :: r, vs => ∃ v ws, vs = (k, v) :: ws ∧ RepT G U x v ∧ RepTK G U r ws
def RepTF (G : Glob) (U : Hp) : List (Nat × T) → List (Str × V) → Prop
  | [], vs => vs = []
  | (f, x) :: r, vs => ∃ v ws, vs = (G.fld f, v) :: ws ∧ f < G.nf ∧ RepT G U x v ∧ RepTF G U r ws
end
abbrev Sub (U U' : Hp) : Prop := ∀ a o, U a = some o → U' a = some o
mutual
theorem RepT.mono {U U' : Hp} (s : Sub U U') : ∀ (x : T) (v : V), RepT G U x v → RepT G U' x v
  | .non, _, h => h
  | .bl _, _, h => h
  | .int _, _, h => h
  | .str _, _, h => h
  | .lst xs, v, h => by
    simp only [RepT] at h ⊢
    obtain ⟨a, vs, e, h1, h2⟩ := h
    exact ⟨a, vs, e, s _ _ h1, RepTs.mono s xs vs h2⟩
  | .tup xs, v, h => by
    simp only [RepT] at h ⊢
    obtain ⟨a, vs, e, h1, h2⟩ := h
    exact ⟨a, vs, e, s _ _ h1, RepTs.mono s xs vs h2⟩
  | .dic xs, v, h => by
    simp only [RepT] at h ⊢
    obtain ⟨a, vs, e, h1, h2⟩ := h
    exact ⟨a, vs, e, s _ _ h1, RepTK.mono s xs vs h2⟩
  | .ins c xs, v, h => by
    simp only [RepT] at h ⊢
    obtain ⟨a, dx, vs, e, h1, h2, h3⟩ := h
    exact ⟨a, dx, vs, e, s _ _ h1, s _ _ h2, RepTF.mono s xs vs h3⟩
  | .fn _, _, h => by simp only [RepT] at h ⊢; exact h
  | .arg _, _, h => by
    simp only [RepT] at h ⊢
    obtain ⟨a, e, h⟩ := h
    exact ⟨a, e, h.imp_left fun ⟨o, h⟩ => ⟨o, s _ _ h⟩⟩
theorem RepTs.mono {U U' : Hp} (s : Sub U U') : ∀ (xs : List T) (vs : List V), RepTs G U xs vs → RepTs G U' xs vs
  | [], _, h => by simp only [RepTs] at h ⊢; exact h
  | x :: r, vs, h => by
    simp only [RepTs] at h ⊢
    obtain ⟨v, ws, e, h1, h2⟩ := h
    exact ⟨v, ws, e, RepT.mono s x v h1, RepTs.mono s r ws h2⟩
theorem RepTK.mono {U U' : Hp} (s : Sub U U') : ∀ (xs : List (Key × T)) (vs : List (Key × V)), RepTK G U xs vs → RepTK G U' xs vs
  | [], _, h => by simp only [RepTK] at h ⊢; exact h
  | (k, x) :: r, vs, h => by
    simp only [RepTK] at h ⊢
    obtain ⟨v, ws, e, h1, h2⟩ := h
    exact ⟨v, ws, e, RepT.mono s x v h1, RepTK.mono s r ws h2⟩
theorem RepTF.mono {U U' : Hp} (s : Sub U U') : ∀ (xs : List (Nat × T)) (vs : List (Str × V)), RepTF G U xs vs → RepTF G U' xs vs
  | [], _, h => by simp only [RepTF] at h ⊢; exact h
  | (k, x) :: r, vs, h => by
    simp only [RepTF] at h ⊢
    obtain ⟨v, ws, e, h0, h1, h2⟩ := h
    exact ⟨v, ws, e, h0, RepT.mono s x v h1, RepTF.mono s r ws h2⟩
end
def RepD (G : Glob) (ρ : List Addr) (U : Hp) : D → V → Prop
  | .t x, v => RepT G U x v
  | .loc n, v => ∃ a, ρ[n]? = some a ∧ v = .ref a
abbrev RepDs (G : Glob) (ρ : List Addr) (U : Hp) : List D → List V → Prop := Paired (RepD G ρ U)
abbrev RepDK (G : Glob) (ρ : List Addr) (U : Hp) : List (Key × D) → List (Key × V) → Prop := Paired fun p q => p.1 = q.1 ∧ RepD G ρ U p.2 q.2
abbrev RepDF (G : Glob) (ρ : List Addr) (U : Hp) : List (Nat × D) → List (Str × V) → Prop := Paired fun p q => (q.1 = G.fld p.1 ∧ p.1 < G.nf) ∧ RepD G ρ U p.2 q.2
/-- what the cell at a is -/
def CellRep (G : Glob) (ρ : List Addr) (U H : Hp) (a : Addr) : Cell → Prop
  | .dead => True
  | .lst ds => ∃ vs, H a = some (.lst vs) ∧ RepDs G ρ U ds vs
  | .dic kvs => ∃ vs, H a = some (.dK vs) ∧ RepDK G ρ U kvs vs
  | .ins c fs => ∃ dx vs, H a = some (.ins (G.cls c) dx vs) ∧ U dx = some (.own a) ∧ RepDF G ρ U fs vs
def live (c : Cell) : Prop := match c with
  | .dead => False
  | _ => True
structure Rel (G : Glob) (ρ : List Addr) (S : Store) (U H : Hp) : Prop where
  len : ρ.length = S.length
  nd : ρ.Nodup
  cell : ∀ (n : Nat) (c : Cell) (a : Addr), S[n]? = some c → ρ[n]? = some a → CellRep G ρ U H a c
  sub : Sub U H
  dis : ∀ (n : Nat) (c : Cell) (a : Addr), S[n]? = some c → ρ[n]? = some a → live c → U a = none
  thr : ∀ a ∈ ρ, H a ≠ none
def RepE (G : Glob) (ρ : List Addr) (U : Hp) (τ : Env) (σ : St) : Prop :=
  τ.length = σ.length ∧ ∀ (i : Nat) (d : D), τ[i]? = some (some d) → ∃ v, σ[i]? = some (some v) ∧ RepD G ρ U d v
structure Step (ρ : List Addr) (U H : Hp) (ρ' : List Addr) (U' H' : Hp) : Prop where
  pre : ρ <+: ρ'
  mono : Sub U U'
  keep : ∀ a o, H a = some o → a ∉ ρ → H' a = some o
  frr : ∀ a ∈ ρ', a ∉ ρ → H a = none
  fru : ∀ a, U a = none → U' a ≠ none → H a = none ∨ a ∈ ρ
theorem Step.refl {ρ : List Addr} {U H : Hp} : Step ρ U H ρ U H := ⟨List.prefix_refl _, fun _ _ h => h, fun _ _ h _ => h, fun _ h n => absurd h n, fun _ h n => absurd h n⟩
theorem Step.trans {ρ ρ1 ρ2 : List Addr} {U U1 U2 H H1 H2 : Hp} (s : Step ρ U H ρ1 U1 H1) (t : Step ρ1 U1 H1 ρ2 U2 H2) : Step ρ U H ρ2 U2 H2 := by
  have k : ∀ a, a ∉ ρ → H1 a = none → H a = none := fun a n h => by
    cases e : H a with
    | none => rfl
    | some o => rw [s.keep a o e n] at h; cases h
  have q : ∀ a o, H a = some o → a ∉ ρ → a ∉ ρ1 := fun a o e n m => by rw [s.frr a m n] at e; cases e
  refine ⟨s.pre.trans t.pre, fun a o h => t.mono a o (s.mono a o h), fun a o h n => t.keep a o (s.keep a o h n) (q a o h n), fun a h n => ?_, fun a h n => ?_⟩
  · by_cases m : a ∈ ρ1
    · exact s.frr a m n
    · exact k a n (t.frr a h m)
  · by_cases z : U1 a = none
    · rcases t.fru a z n with y | y
      · by_cases m : a ∈ ρ
        · exact .inr m
        · exact .inl (k a m y)
      · by_cases m : a ∈ ρ
        · exact .inr m
        · exact .inl (s.frr a y m)
    · exact s.fru a h z
theorem pre_get {α : Type} {l l' : List α} (p : l <+: l') {n : Nat} {a : α} (h : l[n]? = some a) : l'[n]? = some a := by
  obtain ⟨r, rfl⟩ := p
  exact List.getElem?_append_left (List.getElem?_eq_some_iff.mp h).1 |>.trans h
theorem RepD.mono {ρ ρ' : List Addr} {U U' : Hp} (p : ρ <+: ρ') (s : Sub U U') {d : D} {v : V} (h : RepD G ρ U d v) : RepD G ρ' U' d v := by
  cases d with
  | t x => exact RepT.mono s x v h
  | loc n => obtain ⟨a, e, r⟩ := h; exact ⟨a, pre_get p e, r⟩
theorem RepD.step {ρ ρ' : List Addr} {U U' H H' : Hp} (s : Step ρ U H ρ' U' H') {d : D} {v : V} (h : RepD G ρ U d v) : RepD G ρ' U' d v := h.mono s.pre s.mono
theorem RepDs.mono {ρ ρ' : List Addr} {U U' : Hp} (p : ρ <+: ρ') (s : Sub U U') {ds : List D} {vs : List V} (h : RepDs G ρ U ds vs) : RepDs G ρ' U' ds vs := Paired.mapP h fun _ _ r => r.mono p s
theorem RepDs.step {ρ ρ' : List Addr} {U U' H H' : Hp} (s : Step ρ U H ρ' U' H') {ds : List D} {vs : List V} (h : RepDs G ρ U ds vs) : RepDs G ρ' U' ds vs := Paired.mapP h fun _ _ r => r.step s
theorem RepDK.mono {ρ ρ' : List Addr} {U U' : Hp} (p : ρ <+: ρ') (s : Sub U U') {ds : List (Key × D)} {vs : List (Key × V)} (h : RepDK G ρ U ds vs) : RepDK G ρ' U' ds vs := Paired.mapP h fun _ _ r => ⟨r.1, r.2.mono p s⟩
theorem RepDF.mono {ρ ρ' : List Addr} {U U' : Hp} (p : ρ <+: ρ') (s : Sub U U') {ds : List (Nat × D)} {vs : List (Str × V)} (h : RepDF G ρ U ds vs) : RepDF G ρ' U' ds vs := Paired.mapP h fun _ _ r => ⟨r.1, r.2.mono p s⟩
theorem CellRep.mono {ρ ρ' : List Addr} {U U' H H' : Hp} {a : Addr} {c : Cell} (p : ρ <+: ρ') (s : Sub U U') (e : H' a = H a) (h : CellRep G ρ U H a c) : CellRep G ρ' U' H' a c := by
  cases c with
  | dead => trivial
  | lst ds => obtain ⟨vs, h1, h2⟩ := h; exact ⟨vs, e.trans h1, RepDs.mono p s h2⟩
  | dic ds => obtain ⟨vs, h1, h2⟩ := h; exact ⟨vs, e.trans h1, RepDK.mono p s h2⟩
  | ins c fs => obtain ⟨dx, vs, h1, h2, h3⟩ := h; exact ⟨dx, vs, e.trans h1, s _ _ h2, RepDF.mono p s h3⟩
theorem RepE.step {ρ ρ' : List Addr} {U U' H H' : Hp} (s : Step ρ U H ρ' U' H') {τ : Env} {σ : St} (h : RepE G ρ U τ σ) : RepE G ρ' U' τ σ :=
  ⟨h.1, fun i d e => let ⟨v, a, b⟩ := h.2 i d e; ⟨v, a, b.step s⟩⟩

/-! ### the moves of the state -/
section
variable {ρ : List Addr} {S : Store} {U H : Hp}
theorem Rel.at_ (R : Rel G ρ S U H) {n : Nat} {c : Cell} (h : S[n]? = some c) : ∃ a, ρ[n]? = some a ∧ CellRep G ρ U H a c := by
  have l : n < ρ.length := by rw [R.len]; exact (List.getElem?_eq_some_iff.mp h).1
  exact ⟨ρ[n], List.getElem?_eq_getElem l, R.cell n c _ h (List.getElem?_eq_getElem l)⟩
theorem mem_of_get {α : Type} {l : List α} {n : Nat} {a : α} (h : l[n]? = some a) : a ∈ l := by
  obtain ⟨h1, h2⟩ := List.getElem?_eq_some_iff.mp h
  exact h2 ▸ List.getElem_mem h1
/-- a new object: a tree -/
theorem Rel.out (R : Rel G ρ S U H) {p : Addr} (hp : H p = none) : p ∉ ρ := fun h => R.thr p h hp
theorem upd_thr {H : Hp} {a p : Addr} {o : HO} (h : H a ≠ none) : upd H p o a ≠ none := by
  by_cases e : a = p
  · subst e; rw [upd_same]; exact fun z => nomatch z
  · rw [upd_ne e]; exact h
theorem Rel.newU (R : Rel G ρ S U H) {p : Addr} {o : HO} (hp : H p = none) : Rel G ρ S (upd U p o) (upd H p o) ∧ Step ρ U H ρ (upd U p o) (upd H p o) := by
  have su : Sub U (upd U p o) := fun a u h => by
    by_cases e : a = p
    · subst e; rw [R.sub a u h] at hp; cases hp
    · rw [upd_ne e]; exact h
  have hr := R.out hp
  have ne : ∀ {n : Nat} {a : Addr}, ρ[n]? = some a → a ≠ p := fun h e => hr (e ▸ mem_of_get h)
  refine ⟨⟨R.len, R.nd, fun n c a h1 h2 => (R.cell n c a h1 h2).mono (List.prefix_refl _) su (upd_ne (ne h2)), fun a u h => ?_, fun n c a h1 h2 h3 => ?_, fun a h => upd_thr (R.thr a h)⟩, List.prefix_refl _, su, fun a u h n => ?_, fun a h n => absurd h n, fun a h n => ?_⟩
  · by_cases e : a = p
    · subst e; rw [upd_same] at h ⊢; exact h
    · rw [upd_ne e] at h ⊢; exact R.sub a u h
  · rw [upd_ne (ne h2)]; exact R.dis n c a h1 h2 h3
  · rw [upd_ne (by rintro rfl; rw [hp] at h; cases h)]; exact h
  · by_cases e : a = p
    · subst e; exact .inl hp
    · rw [upd_ne e] at n; exact absurd h n
theorem get_snoc {α : Type} {l : List α} {x : α} {n : Nat} {c : α} (h : (l ++ [x])[n]? = some c) : (l[n]? = some c ∧ n < l.length) ∨ (n = l.length ∧ c = x) := by
  by_cases e : n < l.length
  · rw [List.getElem?_append_left e] at h; exact .inl ⟨h, e⟩
  · have z := (List.getElem?_eq_some_iff.mp h).1
    simp at z
    have : n = l.length := by omega
    subst this
    simp at h
    exact .inr ⟨rfl, h.symm⟩
/-- a new object: a cell -/
theorem Rel.newC (R : Rel G ρ S U H) {p : Addr} {o : HO} {c : Cell} (hp : H p = none) (hc : CellRep G (ρ ++ [p]) U (upd H p o) p c) : Rel G (ρ ++ [p]) (S ++ [c]) U (upd H p o) ∧ Step ρ U H (ρ ++ [p]) U (upd H p o) := by
  have hr := R.out hp
  have ne : ∀ {n : Nat} {a : Addr}, ρ[n]? = some a → a ≠ p := fun h e => hr (e ▸ mem_of_get h)
  have pu : U p = none := by
    cases e : U p with
    | none => rfl
    | some u => rw [R.sub p u e] at hp; cases hp
  refine ⟨⟨by simp [R.len], ?_, fun n d a h1 h2 => ?_, fun a u h => ?_, fun n d a h1 h2 h3 => ?_, fun a h => ?_⟩, List.prefix_append _ _, fun _ _ h => h, fun a u h n => ?_, fun a h n => ?_, fun a h n => absurd h n⟩
  · rw [List.nodup_append]
    exact ⟨R.nd, by simp, fun a ha b hb => by simp at hb; subst hb; exact fun e => hr (e ▸ ha)⟩
  · rcases get_snoc h1 with ⟨h1, l1⟩ | ⟨e1, rfl⟩
    · rcases get_snoc h2 with ⟨h2, _⟩ | ⟨e2, rfl⟩
      · exact (R.cell n d a h1 h2).mono (List.prefix_append _ _) (fun _ _ h => h) (upd_ne (ne h2))
      · have := R.len; omega
    · rcases get_snoc h2 with ⟨h2, l2⟩ | ⟨e2, rfl⟩
      · have := R.len; omega
      · exact hc
  · rw [upd_ne (by rintro rfl; rw [pu] at h; cases h)]; exact R.sub a u h
  · rcases get_snoc h1 with ⟨h1, l1⟩ | ⟨e1, rfl⟩
    · rcases get_snoc h2 with ⟨h2, _⟩ | ⟨e2, rfl⟩
      · exact R.dis n d a h1 h2 h3
      · have := R.len; omega
    · rcases get_snoc h2 with ⟨h2, l2⟩ | ⟨e2, rfl⟩
      · have := R.len; omega
      · exact pu
  · rcases List.mem_append.mp h with h | h
    · exact upd_thr (R.thr a h)
    · simp at h; subst h; rw [upd_same]; exact fun z => nomatch z
  · rw [upd_ne (by rintro rfl; rw [hp] at h; cases h)]; exact h
  · rcases List.mem_append.mp h with h | h
    · exact absurd h n
    · simp at h; subst h; exact hp
/-- a cell is written -/
theorem Rel.put (R : Rel G ρ S U H) {n : Nat} {a : Addr} {o : HO} {c c' : Cell} (hS : S[n]? = some c) (ha : ρ[n]? = some a) (hl : live c) (hc : CellRep G ρ U (upd H a o) a c') : Rel G ρ (S.set n c') U (upd H a o) ∧ Step ρ U H ρ U (upd H a o) := by
  have ua := R.dis n c a hS ha hl
  have ne : ∀ {m : Nat} {b : Addr}, ρ[m]? = some b → m ≠ n → b ≠ a := fun h z e => by
    subst e
    obtain ⟨l1, e1⟩ := List.getElem?_eq_some_iff.mp h
    obtain ⟨l2, e2⟩ := List.getElem?_eq_some_iff.mp ha
    exact z ((List.getElem_inj R.nd).mp (e1.trans e2.symm))
  refine ⟨⟨by simp [R.len], R.nd, fun m d b h1 h2 => ?_, fun b u h => ?_, fun m d b h1 h2 h3 => ?_, fun b h => upd_thr (R.thr b h)⟩, List.prefix_refl _, fun _ _ h => h, fun b u h z => ?_, fun b h z => absurd h z, fun b h z => absurd h z⟩
  · by_cases e : m = n
    · subst e
      have l := (List.getElem?_eq_some_iff.mp hS).1
      rw [List.getElem?_set_self l] at h1
      rw [ha] at h2
      cases h1; cases h2
      exact hc
    · rw [List.getElem?_set_ne (Ne.symm e)] at h1
      exact (R.cell m d b h1 h2).mono (List.prefix_refl _) (fun _ _ h => h) (upd_ne (ne h2 e))
  · rw [upd_ne (by rintro rfl; rw [ua] at h; cases h)]; exact R.sub b u h
  · by_cases e : m = n
    · subst e; rw [ha] at h2; cases h2; exact ua
    · rw [List.getElem?_set_ne (Ne.symm e)] at h1
      exact R.dis m d b h1 h2 h3
  · rw [upd_ne (by rintro rfl; exact z (mem_of_get ha))]; exact h
/-- a cell is frozen -/
theorem Rel.frz (R : Rel G ρ S U H) {n : Nat} {a : Addr} {o : HO} {c : Cell} (hS : S[n]? = some c) (ha : ρ[n]? = some a) (hl : live c) (ho : H a = some o) : Rel G ρ (S.set n .dead) (upd U a o) H ∧ Step ρ U H ρ (upd U a o) H := by
  have ua := R.dis n c a hS ha hl
  have su : Sub U (upd U a o) := fun b u h => by
    rw [upd_ne (by rintro rfl; rw [ua] at h; cases h)]; exact h
  have ne : ∀ {m : Nat} {b : Addr}, ρ[m]? = some b → m ≠ n → b ≠ a := fun h z e => by
    subst e
    obtain ⟨l1, e1⟩ := List.getElem?_eq_some_iff.mp h
    obtain ⟨l2, e2⟩ := List.getElem?_eq_some_iff.mp ha
    exact z ((List.getElem_inj R.nd).mp (e1.trans e2.symm))
  refine ⟨⟨by simp [R.len], R.nd, fun m d b h1 h2 => ?_, fun b u h => ?_, fun m d b h1 h2 h3 => ?_, R.thr⟩, List.prefix_refl _, su, fun b u h z => h, fun b h z => absurd h z, fun b h z => ?_⟩
  · by_cases e : m = n
    · subst e
      have l := (List.getElem?_eq_some_iff.mp hS).1
      rw [List.getElem?_set_self l] at h1
      cases h1
      trivial
    · rw [List.getElem?_set_ne (Ne.symm e)] at h1
      exact (R.cell m d b h1 h2).mono (List.prefix_refl _) su rfl
  · by_cases e : b = a
    · subst e; rw [upd_same] at h; cases h; exact ho
    · rw [upd_ne e] at h; exact R.sub b u h
  · by_cases e : m = n
    · subst e
      have l := (List.getElem?_eq_some_iff.mp hS).1
      rw [List.getElem?_set_self l] at h1
      cases h1
      exact h3.elim
    · rw [List.getElem?_set_ne (Ne.symm e)] at h1
      rw [upd_ne (ne h2 e)]
      exact R.dis m d b h1 h2 h3
  · by_cases e : b = a
    · subst e; exact .inr (mem_of_get ha)
    · rw [upd_ne e] at z; exact absurd h z
/-- cells are forgotten -/
theorem Rel.take (R : Rel G ρ S U H) {ρ0 : List Addr} (hp : ρ0 <+: ρ) (hc : ∀ (n : Nat) (c : Cell), n < ρ0.length → S[n]? = some c → ∀ a, ρ[n]? = some a → CellRep G ρ0 U H a c) : Rel G ρ0 (S.take ρ0.length) U H := by
  obtain ⟨r, rfl⟩ := hp
  have hl := R.len
  simp at hl
  refine ⟨by rw [List.length_take]; omega, (List.nodup_append.mp R.nd).1, fun n c a h1 h2 => ?_, R.sub, fun n c a h1 h2 h3 => ?_, fun a h => R.thr a (List.mem_append_left _ h)⟩
  · have l := (List.getElem?_eq_some_iff.mp h2).1
    rw [List.getElem?_take_of_lt l] at h1
    exact hc n c l h1 a (pre_get (List.prefix_append _ _) h2)
  · have l := (List.getElem?_eq_some_iff.mp h2).1
    rw [List.getElem?_take_of_lt l] at h1
    exact R.dis n c a h1 (pre_get (List.prefix_append _ _) h2) h3
/-- an object beside -/
theorem Rel.beside (R : Rel G ρ S U H) {p : Addr} {o : HO} (hu : U p = none) (hr : p ∉ ρ) : Rel G ρ S U (upd H p o) :=
  ⟨R.len, R.nd, fun n c a h1 h2 => (R.cell n c a h1 h2).mono (List.prefix_refl _) (fun _ _ h => h) (upd_ne fun e => hr (e ▸ mem_of_get h2)), fun a u h => by rw [upd_ne (by rintro rfl; rw [hu] at h; cases h)]; exact R.sub a u h, R.dis, fun a h => upd_thr (R.thr a h)⟩
end
end Ev
end

section
set_option Elab.async false
set_option linter.all false
namespace Ev
open PySem L2
section
variable {G : Glob}
theorem RepDs.len {ρ : List Addr} {U : Hp} {ds : List D} {vs : List V} (h : RepDs G ρ U ds vs) : ds.length = vs.length := Paired.length h
theorem RepTs.len {U : Hp} : ∀ {ts : List T} {vs : List V}, RepTs G U ts vs → ts.length = vs.length
  | [], _, h => by simp only [RepTs] at h; subst h; rfl
  | x :: r, vs, h => by
    simp only [RepTs] at h
    obtain ⟨v, ws, rfl, _, h2⟩ := h
    simp [RepTs.len h2]
theorem RepDs.ofT {ρ : List Addr} {U : Hp} : ∀ {ts : List T} {vs : List V}, RepTs G U ts vs → RepDs G ρ U (ts.map .t) vs
  | [], _, h => by simp only [RepTs] at h; subst h; exact .nil
  | x :: r, vs, h => by
    simp only [RepTs] at h
    obtain ⟨v, ws, rfl, h1, h2⟩ := h
    exact .cons h1 (RepDs.ofT h2)
theorem allT_rep {ρ : List Addr} {U : Hp} : ∀ {ds : List D} {ts : List T} {vs : List V}, allT ds = some ts → RepDs G ρ U ds vs → RepTs G U ts vs
  | [], ts, vs, h, r => by cases r; simp [allT] at h; subst h; simp [RepTs]
  | .t x :: ds, ts, vs, h, r => by
    cases r with
    | cons r1 r2 =>
      simp only [allT, Option.map_eq_some_iff] at h
      obtain ⟨ts', h1, rfl⟩ := h
      simp only [RepTs]
      exact ⟨_, _, rfl, r1, allT_rep h1 r2⟩
  | .loc n :: ds, ts, vs, h, r => by simp [allT] at h
theorem allT_map : ∀ {ds : List D} {ts : List T}, allT ds = some ts → ds = ts.map .t
  | [], ts, h => by simp [allT] at h; subst h; rfl
  | .t x :: ds, ts, h => by
    simp only [allT, Option.map_eq_some_iff] at h
    obtain ⟨ts', h1, rfl⟩ := h
    rw [allT_map h1]; rfl
  | .loc n :: ds, ts, h => by simp [allT] at h
@[simp] theorem allT_mapT (ts : List T) : allT (ts.map .t) = some ts := by
  induction ts with
  | nil => rfl
  | cons x r ih => simp [allT, ih]
theorem allTK_rep {ρ : List Addr} {U : Hp} : ∀ {ds : List (Key × D)} {ts : List (Key × T)} {vs : List (Key × V)}, allTK ds = some ts → RepDK G ρ U ds vs → RepTK G U ts vs
  | [], ts, vs, h, r => by cases r; simp [allTK] at h; subst h; simp [RepTK]
  | (k, .t x) :: ds, ts, vs, h, r => by
    cases r with
    | cons r1 r2 =>
      rename_i q vs
      obtain ⟨k', v⟩ := q
      obtain ⟨e, r1⟩ := r1
      simp only at e
      subst e
      simp only [allTK, Option.map_eq_some_iff] at h
      obtain ⟨ts', h1, rfl⟩ := h
      simp only [RepTK]
      exact ⟨_, _, rfl, r1, allTK_rep h1 r2⟩
  | (k, .loc n) :: ds, ts, vs, h, r => by simp [allTK] at h
theorem allTF_rep {ρ : List Addr} {U : Hp} : ∀ {ds : List (Nat × D)} {ts : List (Nat × T)} {vs : List (Str × V)}, allTF ds = some ts → RepDF G ρ U ds vs → RepTF G U ts vs
  | [], ts, vs, h, r => by cases r; simp [allTF] at h; subst h; simp [RepTF]
  | (k, .t x) :: ds, ts, vs, h, r => by
    cases r with
    | cons r1 r2 =>
      rename_i q vs
      obtain ⟨k', v⟩ := q
      obtain ⟨⟨e, e'⟩, r1⟩ := r1
      simp only at e
      subst e
      simp only [allTF, Option.map_eq_some_iff] at h
      obtain ⟨ts', h1, rfl⟩ := h
      simp only [RepTF]
      exact ⟨_, _, rfl, e', r1, allTF_rep h1 r2⟩
  | (k, .loc n) :: ds, ts, vs, h, r => by simp [allTF] at h
/-- reading a value -/
theorem mapM_rep {ρ : List Addr} {U H : Hp} {f : D → Option T} (hf : ∀ d t v, f d = some t → RepD G ρ U d v → RepT G H t v) : ∀ {ds : List D} {ts : List T} {vs : List V}, ds.mapM f = some ts → RepDs G ρ U ds vs → RepTs G H ts vs
  | [], ts, vs, h, r => by cases r; simp at h; subst h; simp [RepTs]
  | d :: ds, ts, vs, h, r => by
    cases r with
    | cons r1 r2 =>
      simp only [List.mapM_cons, Option.bind_eq_bind, Option.bind_eq_some_iff, Option.pure_def, Option.some.injEq] at h
      obtain ⟨t, h1, ts', h2, rfl⟩ := h
      simp only [RepTs]
      exact ⟨_, _, rfl, hf _ _ _ h1 r1, mapM_rep hf h2 r2⟩
theorem mapMK_rep {ρ : List Addr} {U H : Hp} {f : D → Option T} (hf : ∀ d t v, f d = some t → RepD G ρ U d v → RepT G H t v) : ∀ {ds : List (Key × D)} {ts : List (Key × T)} {vs : List (Key × V)}, ds.mapM (fun p => (f p.2).map fun t => (p.1, t)) = some ts → RepDK G ρ U ds vs → RepTK G H ts vs
  | [], ts, vs, h, r => by cases r; simp at h; subst h; simp [RepTK]
  | d :: ds, ts, vs, h, r => by
    cases r with
    | cons r1 r2 =>
      rename_i q vs
      obtain ⟨k', v⟩ := q
      obtain ⟨k, d⟩ := d
      obtain ⟨e, r1⟩ := r1
      simp only at e
      subst e
      simp only [List.mapM_cons, Option.bind_eq_bind, Option.bind_eq_some_iff, Option.pure_def, Option.some.injEq, Option.map_eq_some_iff] at h
      obtain ⟨t, ⟨t', h1, rfl⟩, ts', h2, rfl⟩ := h
      simp only [RepTK]
      exact ⟨_, _, rfl, hf _ _ _ h1 r1, mapMK_rep hf h2 r2⟩
theorem mapMF_rep {ρ : List Addr} {U H : Hp} {f : D → Option T} (hf : ∀ d t v, f d = some t → RepD G ρ U d v → RepT G H t v) : ∀ {ds : List (Nat × D)} {ts : List (Nat × T)} {vs : List (Str × V)}, ds.mapM (fun p => (f p.2).map fun t => (p.1, t)) = some ts → RepDF G ρ U ds vs → RepTF G H ts vs
  | [], ts, vs, h, r => by cases r; simp at h; subst h; simp [RepTF]
  | d :: ds, ts, vs, h, r => by
    cases r with
    | cons r1 r2 =>
      rename_i q vs
      obtain ⟨k', v⟩ := q
      obtain ⟨k, d⟩ := d
      obtain ⟨⟨e, e'⟩, r1⟩ := r1
      simp only at e
      subst e
      simp only [List.mapM_cons, Option.bind_eq_bind, Option.bind_eq_some_iff, Option.pure_def, Option.some.injEq, Option.map_eq_some_iff] at h
      obtain ⟨t, ⟨t', h1, rfl⟩, ts', h2, rfl⟩ := h
      simp only [RepTF]
      exact ⟨_, _, rfl, e', hf _ _ _ h1 r1, mapMF_rep hf h2 r2⟩
variable {ρ : List Addr} {S : Store} {U H : Hp}
theorem rdT_rep (R : Rel G ρ S U H) : ∀ (k : Nat) (d : D) (t : T) (v : V), rdT S k d = some t → RepD G ρ U d v → RepT G H t v
  | k, .t x, t, v, h, r => by
    have e : rdT S k (.t x) = some x := by cases k <;> rfl
    rw [e] at h; cases h
    exact RepT.mono R.sub _ _ r
  | 0, .loc n, t, v, h, r => by simp [rdT] at h
  | k + 1, .loc n, t, v, h, r => by
    obtain ⟨a, ha, rfl⟩ := r
    simp only [rdT] at h
    cases e : S[n]? with
    | none => rw [e] at h; simp at h
    | some c =>
      have cr := R.cell n c a e ha
      rw [e] at h
      cases c with
      | dead => simp at h
      | lst ds =>
        simp only [Option.map_eq_some_iff] at h
        obtain ⟨ts, h1, rfl⟩ := h
        obtain ⟨vs, h2, h3⟩ := cr
        simp only [RepT]
        exact ⟨a, vs, rfl, h2, mapM_rep (fun d t v q z => rdT_rep R k d t v q z) h1 h3⟩
      | dic ds =>
        simp only [Option.map_eq_some_iff] at h
        obtain ⟨ts, h1, rfl⟩ := h
        obtain ⟨vs, h2, h3⟩ := cr
        simp only [RepT]
        exact ⟨a, vs, rfl, h2, mapMK_rep (fun d t v q z => rdT_rep R k d t v q z) h1 h3⟩
      | ins c ds =>
        simp only [Option.map_eq_some_iff] at h
        obtain ⟨ts, h1, rfl⟩ := h
        obtain ⟨dx, vs, h2, h4, h3⟩ := cr
        simp only [RepT]
        exact ⟨a, dx, vs, rfl, h2, R.sub _ _ h4, mapMF_rep (fun d t v q z => rdT_rep R k d t v q z) h1 h3⟩
theorem seqT_rep (R : Rel G ρ S U H) {d : D} {ts : List T} {v : V} (h : seqT S d = some ts) (r : RepD G ρ U d v) : ∃ a vs, v = .ref a ∧ (H a = some (.lst vs) ∨ H a = some (.tup vs)) ∧ RepTs G H ts vs := by
  cases d with
  | t x =>
    have r : RepT G U x v := r
    cases x <;> simp [seqT] at h
    · subst h
      simp only [RepT] at r
      obtain ⟨a, vs, rfl, h1, h2⟩ := r
      exact ⟨a, vs, rfl, .inl (R.sub _ _ h1), RepTs.mono R.sub _ _ h2⟩
    · subst h
      simp only [RepT] at r
      obtain ⟨a, vs, rfl, h1, h2⟩ := r
      exact ⟨a, vs, rfl, .inr (R.sub _ _ h1), RepTs.mono R.sub _ _ h2⟩
  | loc n =>
    obtain ⟨a, ha, rfl⟩ := r
    simp only [seqT] at h
    cases e : S[n]? with
    | none => rw [e] at h; simp at h
    | some c =>
      have cr := R.cell n c a e ha
      rw [e] at h
      cases c <;> simp at h
      obtain ⟨vs, h2, h3⟩ := cr
      exact ⟨a, vs, rfl, .inl h2, RepTs.mono R.sub _ _ (allT_rep h h3)⟩
theorem itsD_rep (R : Rel G ρ S U H) {d : D} {ts : List D} {v : V} (h : itsD S d = some ts) (r : RepD G ρ U d v) : ∃ a vs, v = .ref a ∧ H a = some (.lst vs) ∧ RepDs G ρ U ts vs := by
  cases d with
  | t x =>
    have r : RepT G U x v := r
    cases x <;> simp [itsD] at h
    · subst h
      simp only [RepT] at r
      obtain ⟨a, vs, rfl, h1, h2⟩ := r
      exact ⟨a, vs, rfl, R.sub _ _ h1, RepDs.ofT h2⟩
  | loc n =>
    obtain ⟨a, ha, rfl⟩ := r
    simp only [itsD] at h
    cases e : S[n]? with
    | none => rw [e] at h; simp at h
    | some c =>
      have cr := R.cell n c a e ha
      rw [e] at h
      cases c <;> simp at h
      subst h
      obtain ⟨vs, h2, h3⟩ := cr
      exact ⟨a, vs, rfl, h2, h3⟩
variable {K : PySem.W.Frag}
mutual
theorem dat_Dp : ∀ (x : T) (d : PyData) (v : V), x.dat = some d → RepT G H x v → Dp K H v d
  | .non, d, v, h, r => by simp only [T.dat, Option.some.injEq] at h; subst h; simp only [RepT] at r; subst r; exact .non
  | .bl b, d, v, h, r => by simp only [T.dat, Option.some.injEq] at h; subst h; simp only [RepT] at r; subst r; exact .bl b
  | .int b, d, v, h, r => by simp only [T.dat, Option.some.injEq] at h; subst h; simp only [RepT] at r; subst r; exact .int b
  | .str b, d, v, h, r => by simp only [T.dat, Option.some.injEq] at h; subst h; simp only [RepT] at r; subst r; exact .str b
  | .lst xs, d, v, h, r => by
    simp only [T.dat, Option.map_eq_some_iff] at h
    obtain ⟨ds, h1, rfl⟩ := h
    simp only [RepT] at r
    obtain ⟨a, vs, rfl, h2, h3⟩ := r
    exact .lst (SqL.of h2) (datL_Dp xs ds vs h1 h3)
  | .tup xs, d, v, h, r => by
    simp only [T.dat, Option.map_eq_some_iff] at h
    obtain ⟨ds, h1, rfl⟩ := h
    simp only [RepT] at r
    obtain ⟨a, vs, rfl, h2, h3⟩ := r
    exact .tup (SqT.of h2) (datL_Dp xs ds vs h1 h3)
  | .dic _, d, v, h, r => by simp [T.dat] at h
  | .ins _ _, d, v, h, r => by simp [T.dat] at h
  | .fn _, d, v, h, r => by simp [T.dat] at h
  | .arg _, d, v, h, r => by simp [T.dat] at h
theorem datL_Dp : ∀ (xs : List T) (ds : List PyData) (vs : List V), datL xs = some ds → RepTs G H xs vs → DpAll K H vs ds
  | [], ds, vs, h, r => by simp only [datL, Option.some.injEq] at h; subst h; simp only [RepTs] at r; subst r; exact .nil
  | x :: xs, ds, vs, h, r => by
    simp only [RepTs] at r
    obtain ⟨v, ws, rfl, h1, h2⟩ := r
    simp only [datL] at h
    cases e1 : x.dat with
    | none => rw [e1] at h; simp at h
    | some d =>
      cases e2 : datL xs with
      | none => rw [e1, e2] at h; simp at h
      | some ds' =>
        rw [e1, e2] at h
        simp at h
        subst h
        exact .cons (dat_Dp x d v e1 h1) (datL_Dp xs ds' ws e2 h2)
end
theorem datOf_Dp (R : Rel G ρ S U H) {x : D} {d : PyData} {v : V} (h : datOf S x = some d) (r : RepD G ρ U x v) : Dp K H v d ∧ SeqAt.shaped d = true := by
  simp only [datOf, Option.bind_eq_some_iff] at h
  obtain ⟨t, h1, d', h2, h3⟩ := h
  split at h3
  · cases h3
    exact ⟨dat_Dp _ _ _ h2 (rdT_rep R _ _ _ _ h1 r), by assumption⟩
  · cases h3
end

/-! ### the judgements -/
def RepX (G : Glob) (U : Hp) (e : Exn) (c : Value) (dx : Option Addr) (H : Hp) : Prop := c = .ref (G.xc e.cls) ∧ match dx with
  | none => e.fs = []
  | some d => e.fs ≠ [] ∧ ∃ vs, H d = some (.xd vs) ∧ RepTF G U e.fs vs
def OutG {α β : Type} (G : Glob) (rep : List Addr → Hp → α → β → Prop) (ρ : List Addr) (U H : Hp) (r : R α) (Q : β → Hp → Prop) (E : XK) : Prop := match r with
  | .ok a S' => ∀ ρ' U' H' b, Step ρ U H ρ' U' H' → Rel G ρ' S' U' H' → rep ρ' U' a b → Q b H'
  | .exc e S' => ∀ ρ' U' H' c dx, Step ρ U H ρ' U' H' → Rel G ρ' S' U' H' → RepX G U' e c dx H' → E c dx H'
  | .bad => False
section
variable {G : Glob} {α β γ δ : Type} {rep : List Addr → Hp → α → β → Prop} {rep2 : List Addr → Hp → γ → δ → Prop} {ρ ρ1 : List Addr} {U H U1 H1 : Hp} {r : R α} {f : α → Store → R γ} {Q : δ → Hp → Prop} {Q1 : β → Hp → Prop} {E : XK}
theorem OutG.step (s : Step ρ U H ρ1 U1 H1) (h : OutG G rep ρ U H r Q1 E) : OutG G rep ρ1 U1 H1 r Q1 E := by
  cases r with
  | ok a S => exact fun ρ' U' H' b t R q => h ρ' U' H' b (s.trans t) R q
  | exc e S => exact fun ρ' U' H' b d t R q => h ρ' U' H' b d (s.trans t) R q
  | bad => exact h
theorem OutG.bind (h : OutG G rep2 ρ U H (r.bind f) Q E) (k : ∀ a S1 ρ1 U1 H1 b, r = .ok a S1 → Step ρ U H ρ1 U1 H1 → Rel G ρ1 S1 U1 H1 → rep ρ1 U1 a b → OutG G rep2 ρ1 U1 H1 (f a S1) Q E → Q1 b H1) : OutG G rep ρ U H r Q1 E := by
  cases r with
  | ok a S => exact fun ρ' U' H' b t R q => k a S ρ' U' H' b rfl t R q (h.step t)
  | exc e S => exact h
  | bad => exact h
theorem OutG.now {a : α} {S : Store} {b : β} (h : OutG G rep ρ U H (.ok a S) Q1 E) (R : Rel G ρ S U H) (q : rep ρ U a b) : Q1 b H := h ρ U H b .refl R q
theorem OutG.opt {o : Option α} {S : Store} (h : OutG G rep ρ U H (ofOpt o S) Q1 E) : ∃ a, o = some a ∧ OutG G rep ρ U H (.ok a S) Q1 E := by
  cases o with
  | none => exact h.elim
  | some a => exact ⟨a, rfl, h⟩
end
abbrev repB : List Addr → Hp → Bool → Bool → Prop := fun _ _ a b => a = b
section
variable (G : Glob) (P : Prg) (C : Calls) (W : WX)
def simE (m : E) : TE := fun σ H Q => ∃ ρ S U τ, Rel G ρ S U H ∧ RepE G ρ U τ σ ∧ OutG G (RepD G) ρ U H (evE P C m τ S) Q fun c d H' => W c d σ H'
def simT (m : E) : TT := fun σ H Q => ∃ ρ S U τ, Rel G ρ S U H ∧ RepE G ρ U τ σ ∧ OutG G repB ρ U H (evT P C m τ S) Q fun c d H' => W c d σ H'
def simA (ms : List E) : TA := fun σ H Q => ∃ ρ S U τ, Rel G ρ S U H ∧ RepE G ρ U τ σ ∧ OutG G (RepDs G) ρ U H (evEs P C ms τ S) Q fun c d H' => W c d σ H'
end
section
variable {X : Cx} {e a b c : Expr} {es : List Expr} {t t' : TE} {u u' : TT} {p p' : TA} {pos : Pos}
theorem PE.imp (h : PE X e t) (i : ∀ σ H Q, t' σ H Q → t σ H Q) : PE X e t' := ⟨fun pins s σ H Q I w => h.run pins s σ H Q I (i _ _ _ w)⟩
theorem PT.imp (h : PT X e u) (i : ∀ σ H Q, u' σ H Q → u σ H Q) : PT X e u' := ⟨fun pins s σ H Q I w => h.run pins s σ H Q I (i _ _ _ w)⟩
theorem PA.imp (h : PA X es p) (i : ∀ σ H Q, p' σ H Q → p σ H Q) : PA X es p' := ⟨fun pos pins s σ H Q I w => h.run pos pins s σ H Q I (i _ _ _ w)⟩
end
end Ev
end

section
set_option Elab.async false
set_option linter.all false
namespace Ev
open PySem L2
section
variable {G : Glob} {P : Prg} {C : Calls} {W : WX} {X : Cx} {e a b c : Expr} {es : List Expr} {m ma mb mc : E} {ms : List E} {pos : Pos}
variable {ρ : List Addr} {S : Store} {U H : Hp} {τ : Env} {σ : St} {Q : VK} {E' : XK}

theorem sim_var {i : Nat} {x : Str} (hN : X.N[i]? = some x) (hv : Vis X.env.scope x) (hd : (x == ("__debug__" : Str)) = false) (hcd : (x == ("__classdict__" : Str)) = false) : PE X (.Name x pos) (simE G P C W (.var i)) := by
  refine PE.imp (pe_var hN hv hd hcd) fun σ H Q ⟨ρ, S, U, τ, R, RE, O⟩ => ?_
  simp only [evE] at O
  split at O
  · rename_i d hd
    obtain ⟨v, h1, h2⟩ := RE.2 i d hd
    exact ⟨v, h1, O.now R h2⟩
  · exact O.elim
/-- a constant -/
theorem sim_cst {e : Expr} {t : T} {v : V} (he : PE X e (tC v)) (hr : ∀ U, RepT G U t v) : PE X e (simE G P C W (.cst t)) :=
  PE.imp he fun σ H Q ⟨ρ, S, U, τ, R, RE, O⟩ => by
    simp only [evE] at O
    exact O.now R (hr U)

/-! ### several values -/
theorem two {r : R2} {f : D → D → Store → R D} (R : Rel G ρ S U H) (RE : RepE G ρ U τ σ)
    (h : OutG G (RepD G) ρ U H ((evE P C ma τ S).bind fun x S1 => (evE P C mb τ S1).bind fun y S2 => f x y S2) Q fun c d H' => W c d σ H')
    (k : ∀ x y S2 ρ2 U2 H2 v u, Rel G ρ2 S2 U2 H2 → RepE G ρ2 U2 τ σ → RepD G ρ2 U2 x v → RepD G ρ2 U2 y u → OutG G (RepD G) ρ2 U2 H2 (f x y S2) Q (fun c d H' => W c d σ H') → r v u H2 Q) :
    tOp r (simE G P C W ma) (simE G P C W mb) σ H Q := by
  refine ⟨ρ, S, U, τ, R, RE, h.bind fun x S1 ρ1 U1 H1 v _ s1 R1 r1 h1 => ?_⟩
  refine ⟨ρ1, S1, U1, τ, R1, RE.step s1, h1.bind fun y S2 ρ2 U2 H2 u _ s2 R2 r2 h2 => ?_⟩
  exact k x y S2 ρ2 U2 H2 v u R2 ((RE.step s1).step s2) (r1.step s2) r2 h2
theorem one {β : Type} {rep : List Addr → Hp → β → V → Prop} {t : TE} {f : D → Store → R D} (R : Rel G ρ S U H) (RE : RepE G ρ U τ σ) {Q1 : VK}
    (h : OutG G (RepD G) ρ U H ((evE P C ma τ S).bind f) Q fun c d H' => W c d σ H')
    (k : ∀ x S1 ρ1 U1 H1 v, Rel G ρ1 S1 U1 H1 → RepE G ρ1 U1 τ σ → RepD G ρ1 U1 x v → Step ρ U H ρ1 U1 H1 → OutG G (RepD G) ρ1 U1 H1 (f x S1) Q (fun c d H' => W c d σ H') → Q1 v H1) :
    simE G P C W ma σ H Q1 :=
  ⟨ρ, S, U, τ, R, RE, h.bind fun x S1 ρ1 U1 H1 v _ s1 R1 r1 h1 => k x S1 ρ1 U1 H1 v R1 (RE.step s1) r1 s1 h1⟩
theorem many {α β : Type} {rep : List Addr → Hp → α → β → Prop} {Qb : β → Hp → Prop} {f : List D → Store → R α} (R : Rel G ρ S U H) (RE : RepE G ρ U τ σ) {Q1 : List V → Hp → Prop}
    (h : OutG G rep ρ U H ((evEs P C ms τ S).bind f) Qb fun c d H' => W c d σ H')
    (k : ∀ xs S1 ρ1 U1 H1 vs, Rel G ρ1 S1 U1 H1 → RepE G ρ1 U1 τ σ → RepDs G ρ1 U1 xs vs → Step ρ U H ρ1 U1 H1 → OutG G rep ρ1 U1 H1 (f xs S1) Qb (fun c d H' => W c d σ H') → Q1 vs H1) :
    simA G P C W ms σ H Q1 :=
  ⟨ρ, S, U, τ, R, RE, h.bind fun x S1 ρ1 U1 H1 v _ s1 R1 r1 h1 => k x S1 ρ1 U1 H1 v R1 (RE.step s1) r1 s1 h1⟩
theorem sim_nil : PA X [] (simA G P C W []) := PA.imp pa_nil fun σ H Q ⟨ρ, S, U, τ, R, RE, O⟩ => by
  simp only [evEs] at O
  exact O.now R .nil
theorem sim_cons (ha : PE X e (simE G P C W m)) (hr : PA X es (simA G P C W ms)) (hs : starEach (e :: es) X.env = (false, eval e X.env) :: starEach es X.env) : PA X (e :: es) (simA G P C W (m :: ms)) := by
  refine PA.imp (pa_cons ha hr hs) fun σ H Q ⟨ρ, S, U, τ, R, RE, O⟩ => ?_
  simp only [evEs] at O
  refine ⟨ρ, S, U, τ, R, RE, O.bind fun x S1 ρ1 U1 H1 v _ s1 R1 r1 h1 => ?_⟩
  refine ⟨ρ1, S1, U1, τ, R1, RE.step s1, h1.bind fun xs S2 ρ2 U2 H2 vs _ s2 R2 r2 h2 => ?_⟩
  exact h2.now R2 (.cons (r1.step s2) r2)

/-! ### operators -/
def BOp.op : BOp → Operator
  | .add => .Add | .sub => .Sub | .mul => .Mult | .fdiv => .FloorDiv | .mod => .Mod | .pow => .Pow | .shl => .LShift | .shr => .RShift | .band => .BitAnd | .bor => .BitOr | .bxor => .BitXor
def rBin (o : BOp) : R2 := fun x y H Q => (∃ i j k, x = .int i ∧ y = .int j ∧ numOp o i j = some k ∧ Q (.int k) H) ∨ (∃ i j, x = .str i ∧ y = .str j ∧ o = .add ∧ i.length + j.length ≤ sizeLine ∧ Q (.str (i ++ j)) H)
theorem op_bin (o : BOp) : OpR X (binaryOp o.op) (rBin o) := by
  intro pins s σ H x y v u Q I rx ry h
  rcases h with ⟨i, j, k, rfl, rfl, h, q⟩ | ⟨i, j, rfl, rfl, rfl, h, q⟩
  · cases o <;> simp only [numOp, Option.some.injEq] at h <;> try subst h
    · exact op_add pins s σ H _ _ v u Q I rx ry ⟨i, j, rfl, rfl, q⟩
    · exact op_sub pins s σ H _ _ v u Q I rx ry ⟨i, j, rfl, rfl, q⟩
    · split at h <;> cases h
      rename_i c
      exact op_mul pins s σ H _ _ v u Q I rx ry ⟨i, j, rfl, rfl, c, q⟩
    · split at h <;> cases h
      rename_i c
      exact op_fdiv pins s σ H _ _ v u Q I rx ry ⟨i, j, rfl, rfl, c, q⟩
    · split at h <;> cases h
      rename_i c
      exact op_mod pins s σ H _ _ v u Q I rx ry ⟨i, j, rfl, rfl, c, q⟩
    · split at h <;> cases h
      rename_i c
      exact op_pow pins s σ H _ _ v u Q I rx ry ⟨i, j, rfl, rfl, c, q⟩
    · split at h <;> cases h
      rename_i c
      exact op_shl pins s σ H _ _ v u Q I rx ry ⟨i, j, rfl, rfl, c, q⟩
    · split at h <;> cases h
      rename_i c
      exact op_shr pins s σ H _ _ v u Q I rx ry ⟨i, j, rfl, rfl, c, q⟩
    · exact op_and pins s σ H _ _ v u Q I rx ry ⟨i, j, rfl, rfl, q⟩
    · exact op_or pins s σ H _ _ v u Q I rx ry ⟨i, j, rfl, rfl, q⟩
    · exact op_xor pins s σ H _ _ v u Q I rx ry ⟨i, j, rfl, rfl, q⟩
  · exact op_add_str pins s σ H _ _ v u Q I rx ry ⟨i, j, rfl, rfl, h, q⟩
theorem bin_out {o : BOp} {x y : D} {v u : V} (R : Rel G ρ S U H) (r1 : RepD G ρ U x v) (r2 : RepD G ρ U y u) (h : OutG G (RepD G) ρ U H (evBin o x y S) Q E') : rBin o v u H Q := by
  cases x with
  | loc n => exact h.elim
  | t x =>
    cases y with
    | loc n => cases x <;> exact h.elim
    | t y =>
      obtain ⟨d, e, h⟩ := OutG.opt h
      simp only [Option.map_eq_some_iff] at e
      obtain ⟨z, e, rfl⟩ := e
      have r1 : RepT G U x v := r1
      have r2 : RepT G U y u := r2
      cases x <;> cases y <;> simp only [tBin, Option.map_eq_some_iff] at e <;> try (cases e; done)
      · obtain ⟨k, e, rfl⟩ := e
        simp only [RepT] at r1 r2
        subst r1 r2
        exact .inl ⟨_, _, k, rfl, rfl, e, h.now R (by simp [RepD, RepT])⟩
      · cases o <;> simp at e
        obtain ⟨c, rfl⟩ := e
        simp only [RepT] at r1 r2
        subst r1 r2
        exact .inr ⟨_, _, rfl, rfl, rfl, c, h.now R (by simp [RepD, RepT])⟩
theorem sim_bin {o : BOp} (ha : PE X a (simE G P C W ma)) (hb : PE X b (simE G P C W mb)) : PE X (.BinOp a o.op b pos) (simE G P C W (.bin o ma mb)) := by
  refine PE.imp (pe_op (op_bin o) ha hb) fun σ H Q ⟨ρ, S, U, τ, R, RE, O⟩ => ?_
  simp only [evE] at O
  exact two R RE O fun x y S2 ρ2 U2 H2 v u R2 _ r1 r2 h => bin_out R2 r1 r2 h
theorem sim_neg (ha : PE X a (simE G P C W ma)) : PE X (.UnaryOp .USub a pos) (simE G P C W (.neg ma)) := by
  refine PE.imp (pe_un un_neg ha) fun σ H Q ⟨ρ, S, U, τ, R, RE, O⟩ => ?_
  simp only [evE] at O
  refine one (β := Unit) (rep := fun _ _ _ _ => True) (t := fun _ _ _ => True) R RE O fun x S1 ρ1 U1 H1 v R1 _ r1 _ h => ?_
  split at h
  · have r1 : RepT G U1 _ v := r1
    simp only [RepT] at r1
    subst r1
    exact ⟨_, rfl, h.now R1 (by simp [RepD, RepT])⟩
  · exact h.elim

/-! ### comparisons -/
def COp.op : COp → CmpOp
  | .eq => .Eq | .ne => .NotEq | .lt => .Lt | .le => .LtE | .gt => .Gt | .ge => .GtE | .is_ => .Is | .isn => .IsNot | .in_ => .In | .nin => .NotIn
/-- what a comparison asks, by values -/
def rCmp (K : PySem.W.Frag) (o : COp) : R2 := fun x y H Q => match o with
  | .eq => rEqD K x y H Q
  | .ne => rNeD K x y H Q
  | .is_ => y = .non ∧ Q (.bl (decide (x = .non))) H
  | .isn => y = .non ∧ Q (.bl (!decide (x = .non))) H
  | .in_ => rIn K false x y H Q ∨ (∃ a r, y = .ref a ∧ DGet H a x r ∧ Q (.bl r.isSome) H) ∨ ∃ (c : Nat) (z : Str), x = .str ⟨#[c]⟩ ∧ y = .str z ∧ Q (.bl (decide (c ∈ z.cps.toList))) H
  | .nin => rIn K true x y H Q ∨ (∃ a r, y = .ref a ∧ DGet H a x r ∧ Q (.bl (!r.isSome)) H) ∨ ∃ (c : Nat) (z : Str), x = .str ⟨#[c]⟩ ∧ y = .str z ∧ Q (.bl (!decide (c ∈ z.cps.toList))) H
  | o => ∃ i j b, x = .int i ∧ y = .int j ∧ ordI o i j = some b ∧ Q (.bl b) H
theorem op_cmp (hu : X.A.units + 64 < cLine) (o : COp) : OpR X (compareOp o.op) (rCmp X.K o) := by
  intro pins s σ H x y v u Q I rx ry h
  cases o
  · exact op_eqD hu pins s σ H _ _ v u Q I rx ry h
  · exact op_neD hu pins s σ H _ _ v u Q I rx ry h
  · obtain ⟨i, j, k, rfl, rfl, e, q⟩ := h
    simp only [ordI, Option.some.injEq] at e; subst e
    exact op_lt pins s σ H _ _ v u Q I rx ry ⟨i, j, rfl, rfl, q⟩
  · obtain ⟨i, j, k, rfl, rfl, e, q⟩ := h
    simp only [ordI, Option.some.injEq] at e; subst e
    exact op_le pins s σ H _ _ v u Q I rx ry ⟨i, j, rfl, rfl, q⟩
  · obtain ⟨i, j, k, rfl, rfl, e, q⟩ := h
    simp only [ordI, Option.some.injEq] at e; subst e
    exact op_gt pins s σ H _ _ v u Q I rx ry ⟨i, j, rfl, rfl, q⟩
  · obtain ⟨i, j, k, rfl, rfl, e, q⟩ := h
    simp only [ordI, Option.some.injEq] at e; subst e
    exact op_ge pins s σ H _ _ v u Q I rx ry ⟨i, j, rfl, rfl, q⟩
  · exact op_isN pins s σ H _ _ v u Q I rx ry h
  · exact op_notN pins s σ H _ _ v u Q I rx ry h
  · rcases h with h | ⟨a, r, rfl, g, q⟩ | ⟨c, z, rfl, rfl, q⟩
    · exact op_in_seq pins s σ H _ _ v u Q I rx ry h
    · cases ry
      exact d_in (A := X.A) (by omega) I g rx fun s' I' => ⟨.bl _, H, I', rfl, q⟩
    · exact op_in_sign pins s σ H _ _ v u Q I rx ry ⟨c, z, rfl, rfl, q⟩
  · rcases h with h | ⟨a, r, rfl, g, q⟩ | ⟨c, z, rfl, rfl, q⟩
    · exact op_notIn_seq pins s σ H _ _ v u Q I rx ry h
    · cases ry
      exact d_notIn (A := X.A) (by omega) I g rx fun s' I' => ⟨.bl _, H, I', rfl, q⟩
    · exact op_notIn_sign pins s σ H _ _ v u Q I rx ry ⟨c, z, rfl, rfl, q⟩
end
end Ev
end

section
set_option Elab.async false
set_option linter.all false
namespace Ev
open PySem L2
section
variable {G : Glob} {P : Prg} {C : Calls} {W : WX} {X : Cx} {e a b c : Expr} {es : List Expr} {m ma mb mc : E} {ms : List E} {pos : Pos}
variable {ρ : List Addr} {S : Store} {U H : Hp} {τ : Env} {σ : St} {Q : VK} {E' : XK}
theorem kGet_cons {α : Type} {k : Key} {j : Key} {x : α} {r : List (Key × α)} : kGet ((j, x) :: r) k = if j = k then some x else kGet r k := by
  unfold kGet
  by_cases e : j = k
  · simp [e]
  · simp [e]
theorem valV_cons {k : Key} {j : Key} {x : V} {r : List (Key × V)} : valV ((j, x) :: r) k = if j = k then some x else valV r k := by
  by_cases e : j = k
  · rw [valV_pos e, if_pos e]
  · rw [valV_neg e, if_neg e]
theorem RepTK.get (k : Key) : ∀ {kvs : List (Key × T)} {vs : List (Key × V)}, RepTK G U kvs vs → (kGet kvs k = none ∧ valV vs k = none) ∨ ∃ t v, kGet kvs k = some t ∧ valV vs k = some v ∧ RepT G U t v
  | [], _, h => by simp only [RepTK] at h; subst h; exact .inl ⟨rfl, rfl⟩
  | (j, x) :: r, vs, h => by
    simp only [RepTK] at h
    obtain ⟨v, ws, rfl, h1, h2⟩ := h
    rw [kGet_cons, valV_cons]
    by_cases e : j = k
    · rw [if_pos e, if_pos e]; exact .inr ⟨x, v, rfl, rfl, h1⟩
    · rw [if_neg e, if_neg e]; exact RepTK.get k h2
theorem RepDK.get (k : Key) : ∀ {kvs : List (Key × D)} {vs : List (Key × V)}, RepDK G ρ U kvs vs → (kGet kvs k = none ∧ valV vs k = none) ∨ ∃ t v, kGet kvs k = some t ∧ valV vs k = some v ∧ RepD G ρ U t v
  | [], _, h => by cases h; exact .inl ⟨rfl, rfl⟩
  | (j, x) :: r, vs, h => by
    cases h with
    | cons h1 h2 =>
      rename_i q ws
      obtain ⟨j', v⟩ := q
      obtain ⟨e', h1⟩ := h1
      simp only at e'
      subst e'
      rw [kGet_cons, valV_cons]
      by_cases e : j = k
      · rw [if_pos e, if_pos e]; exact .inr ⟨x, v, rfl, rfl, h1⟩
      · rw [if_neg e, if_neg e]; exact RepDK.get k h2
theorem toKey_rep {x : T} {k : Key} {v : V} (h : toKey x = some k) (r : RepT G U x v) : v = kV k := by
  cases x <;> simp [toKey] at h <;> subst h <;> simp only [RepT] at r <;> exact r
theorem flatT_rep {x : T} {v w : V} (h : flatT x = some v) (r : RepT G U x w) : w = v ∧ flatV v = true := by
  cases x <;> simp [flatT] at h <;> subst h <;> simp only [RepT] at r <;> subst r <;> exact ⟨rfl, rfl⟩
theorem flats_rep : ∀ {ts : List T} {vs ws : List V}, ts.mapM flatT = some vs → RepTs G U ts ws → ws = vs ∧ vs.all flatV = true
  | [], vs, ws, h, r => by simp at h; subst h; simp only [RepTs] at r; subst r; exact ⟨rfl, rfl⟩
  | t :: ts, vs, ws, h, r => by
    simp only [RepTs] at r
    obtain ⟨w, ws, rfl, h1, h2⟩ := r
    simp only [List.mapM_cons, Option.bind_eq_bind, Option.bind_eq_some_iff, Option.pure_def, Option.some.injEq] at h
    obtain ⟨v, e1, vs', e2, rfl⟩ := h
    obtain ⟨rfl, q1⟩ := flatT_rep e1 h1
    obtain ⟨rfl, q2⟩ := flats_rep e2 h2
    exact ⟨rfl, by simp [q1]; simpa using q2⟩
theorem dicD_rep (R : Rel G ρ S U H) {y : D} {f : Key → Bool} {u : V} (h : dicD S y = some f) (r : RepD G ρ U y u) : ∃ a, u = .ref a ∧ ∀ k, ∃ o, DGet H a (kV k) o ∧ f k = o.isSome := by
  cases y with
  | t x =>
    have r : RepT G U x u := r
    cases x <;> simp [dicD] at h
    subst h
    simp only [RepT] at r
    obtain ⟨a, vs, rfl, h1, h2⟩ := r
    refine ⟨a, rfl, fun k => ⟨_, DGet.k (R.sub _ _ h1), ?_⟩⟩
    rcases h2.get k with ⟨e1, e2⟩ | ⟨t, v, e1, e2, _⟩ <;> simp [e1, e2]
  | loc n =>
    obtain ⟨a, ha, rfl⟩ := r
    simp only [dicD] at h
    cases e : S[n]? with
    | none => rw [e] at h; simp at h
    | some c =>
      have cr := R.cell n c a e ha
      rw [e] at h
      cases c <;> simp at h
      subst h
      obtain ⟨vs, h1, h2⟩ := cr
      refine ⟨a, rfl, fun k => ⟨_, DGet.k h1, ?_⟩⟩
      rcases RepDK.get k h2 with ⟨e1, e2⟩ | ⟨t, v, e1, e2, _⟩ <;> simp [e1, e2]
theorem RepD.t {x : T} {v : V} (h : RepD G ρ U (.t x) v) : RepT G U x v := h
theorem in_rep (R : Rel G ρ S U H) {K : PySem.W.Frag} {x y : D} {b : Bool} {v u : V} (h : inD S x y = some b) (r1 : RepD G ρ U x v) (r2 : RepD G ρ U y u) :
    (∃ p xs, u = .ref p ∧ (SqL K H p xs ∨ SqT K H p xs) ∧ flatV v = true ∧ xs.all flatV = true ∧ b = inV v xs) ∨ (∃ a r, u = .ref a ∧ DGet H a v r ∧ b = r.isSome) ∨ ∃ (c : Nat) (z : Str), v = .str ⟨#[c]⟩ ∧ u = .str z ∧ b = decide (c ∈ z.cps.toList) := by
  cases x with
  | loc n => simp [inD] at h
  | t x =>
    have r1 : RepT G U x v := r1
    simp only [inD] at h
    split at h
    · rename_i f hf
      simp only [Option.map_eq_some_iff] at h
      obtain ⟨k, hk, rfl⟩ := h
      obtain ⟨a, rfl, g⟩ := dicD_rep R hf r2
      obtain ⟨o, g1, g2⟩ := g k
      exact .inr (.inl ⟨a, o, rfl, by rw [toKey_rep hk r1]; exact g1, g2⟩)
    · split at h
      · rename_i z _
        have r2 := r2.t
        simp only [RepT] at r2
        subst r2
        cases x <;> simp only [signIn] at h <;> try (cases h; done)
        rename_i c
        split at h <;> try (cases h; done)
        rename_i k hk
        simp only [Option.some.injEq] at h
        subst h
        simp only [RepT] at r1
        subst r1
        refine .inr (.inr ⟨k, z, ?_, rfl, rfl⟩)
        exact congrArg (fun q => V.str ⟨q⟩) (Array.toList_inj.mp (hk.trans (show [k] = (#[k] : Array Nat).toList from rfl)))
      · simp only [Option.bind_eq_some_iff, Option.map_eq_some_iff] at h
        obtain ⟨w, h1, ts, h2, vs, h3, rfl⟩ := h
        obtain ⟨a, ws, rfl, h4, h5⟩ := seqT_rep R h2 r2
        obtain ⟨rfl, q1⟩ := flatT_rep h1 r1
        obtain ⟨rfl, q2⟩ := flats_rep h3 h5
        exact .inl ⟨a, ws, rfl, h4.imp SqL.of SqT.of, q1, q2, rfl⟩
theorem isNone_rep {x : D} {v : V} (r : RepD G ρ U x v) : isNone x = decide (v = .non) := by
  cases x with
  | loc n => obtain ⟨a, _, rfl⟩ := r; rfl
  | t x =>
    have r := r.t
    cases x <;> simp only [RepT] at r <;> first | (subst r; rfl) | (obtain ⟨a, h⟩ := r; first | (obtain ⟨rfl, _⟩ := h; rfl) | (obtain ⟨vs, rfl, _⟩ := h; rfl) | (obtain ⟨dx, vs, rfl, _⟩ := h; rfl))
theorem repBl {k : Bool} : RepD G ρ U (.t (.bl k)) (.bl k) := by simp [RepD, RepT]
theorem repInt {k : Int} : RepD G ρ U (.t (.int k)) (.int k) := by simp [RepD, RepT]
theorem repStr {k : Str} : RepD G ρ U (.t (.str k)) (.str k) := by simp [RepD, RepT]
theorem repNon : RepD G ρ U (.t .non) .non := by simp [RepD, RepT]
theorem cmp_out {K : PySem.W.Frag} {o : COp} {x y : D} {v u : V} (R : Rel G ρ S U H) (r1 : RepD G ρ U x v) (r2 : RepD G ρ U y u) (h : OutG G (RepD G) ρ U H (evCmp o x y S) Q E') : rCmp K o v u H Q := by
  cases o
  · obtain ⟨d, e, h⟩ := OutG.opt h
    simp only [Option.bind_eq_some_iff, Option.map_eq_some_iff] at e
    obtain ⟨d1, e1, d2, e2, rfl⟩ := e
    obtain ⟨p1, q1⟩ := datOf_Dp R e1 r1
    obtain ⟨p2, q2⟩ := datOf_Dp R e2 r2
    exact ⟨d1, d2, p1, p2, q1, q2, h.now R repBl⟩
  · obtain ⟨d, e, h⟩ := OutG.opt h
    simp only [Option.bind_eq_some_iff, Option.map_eq_some_iff] at e
    obtain ⟨d1, e1, d2, e2, rfl⟩ := e
    obtain ⟨p1, q1⟩ := datOf_Dp R e1 r1
    obtain ⟨p2, q2⟩ := datOf_Dp R e2 r2
    exact ⟨d1, d2, p1, p2, q1, q2, h.now R repBl⟩
  iterate 4
    · cases x with
      | loc n => exact h.elim
      | t x =>
        cases y with
        | loc n => cases x <;> exact h.elim
        | t y =>
          have r1 := r1.t
          have r2 := r2.t
          cases x <;> cases y <;> first | exact h.elim | skip
          simp only [evCmp] at h
          obtain ⟨d, e, h⟩ := OutG.opt h
          simp only [Option.map_eq_some_iff] at e
          obtain ⟨k, e, rfl⟩ := e
          simp only [RepT] at r1 r2
          subst r1 r2
          exact ⟨_, _, k, rfl, rfl, e, h.now R repBl⟩
  · simp only [evCmp] at h
    split at h
    · rename_i e
      rw [isNone_rep r2] at e
      exact ⟨of_decide_eq_true e, by rw [← isNone_rep r1]; exact h.now R repBl⟩
    · exact h.elim
  · simp only [evCmp] at h
    split at h
    · rename_i e
      rw [isNone_rep r2] at e
      exact ⟨of_decide_eq_true e, by rw [← isNone_rep r1]; exact h.now R repBl⟩
    · exact h.elim
  · obtain ⟨d, e, h⟩ := OutG.opt h
    simp only [Option.map_eq_some_iff] at e
    obtain ⟨k, e, rfl⟩ := e
    have q := h.now R repBl
    rcases in_rep (K := K) R e r1 r2 with ⟨p, xs, rfl, q1, q2, q3, rfl⟩ | ⟨a, r, rfl, g, rfl⟩ | ⟨c, z, rfl, rfl, rfl⟩
    · exact .inl ⟨p, xs, rfl, q1, q2, q3, q⟩
    · exact .inr (.inl ⟨a, r, rfl, g, q⟩)
    · exact .inr (.inr ⟨c, z, rfl, rfl, q⟩)
  · obtain ⟨d, e, h⟩ := OutG.opt h
    simp only [Option.map_eq_some_iff] at e
    obtain ⟨k, e, rfl⟩ := e
    have q := h.now R repBl
    rcases in_rep (K := K) R e r1 r2 with ⟨p, xs, rfl, q1, q2, q3, rfl⟩ | ⟨a, r, rfl, g, rfl⟩ | ⟨c, z, rfl, rfl, rfl⟩
    · exact .inl ⟨p, xs, rfl, q1, q2, q3, q⟩
    · exact .inr (.inl ⟨a, r, rfl, g, q⟩)
    · exact .inr (.inr ⟨c, z, rfl, rfl, q⟩)
theorem evCmp_ok {o : COp} {x y : D} {q : D} {S' : Store} (h : evCmp o x y S = .ok q S') : ∃ k, q = .t (.bl k) ∧ S' = S := by
  cases o <;> simp only [evCmp] at h
  case eq => 
    cases e : ((datOf S x).bind fun d => (datOf S y).map fun e => D.t (.bl (PyData.eqv d e))) with
    | none => rw [e] at h; cases h
    | some z =>
      rw [e] at h; cases h
      simp only [Option.bind_eq_some_iff, Option.map_eq_some_iff] at e
      obtain ⟨d1, e1, d2, e2, rfl⟩ := e
      exact ⟨_, rfl, rfl⟩
  case ne => 
    cases e : ((datOf S x).bind fun d => (datOf S y).map fun e => D.t (.bl (!PyData.eqv d e))) with
    | none => rw [e] at h; cases h
    | some z =>
      rw [e] at h; cases h
      simp only [Option.bind_eq_some_iff, Option.map_eq_some_iff] at e
      obtain ⟨d1, e1, d2, e2, rfl⟩ := e
      exact ⟨_, rfl, rfl⟩
  case in_ =>
    cases e : inD S x y with
    | none => rw [e] at h; cases h
    | some z => rw [e] at h; cases h; exact ⟨_, rfl, rfl⟩
  case nin =>
    cases e : inD S x y with
    | none => rw [e] at h; cases h
    | some z => rw [e] at h; cases h; exact ⟨_, rfl, rfl⟩
  case is_ => split at h <;> cases h; exact ⟨_, rfl, rfl⟩
  case isn => split at h <;> cases h; exact ⟨_, rfl, rfl⟩
  all_goals
    cases x with
    | loc n => cases h
    | t x =>
      cases y with
      | loc n => cases x <;> cases h
      | t y => cases x <;> cases y <;> first | (cases h; done) | (simp [ordI] at h; obtain ⟨rfl, rfl⟩ := h; exact ⟨_, rfl, rfl⟩)
theorem nomark_of {o : COp} (hm : ∀ es k p, b ≠ .Set es k p) : behindInMarks o.op b = false := by
  cases b <;> first | rfl | exact absurd rfl (hm _ _ _)
theorem sim_cmp (hu : X.A.units + 64 < cLine) {o : COp} (ha : PE X a (simE G P C W ma)) (hb : PE X b (simE G P C W mb)) (hm : behindInMarks o.op b = false) : PE X (.Compare a [o.op] [b] pos) (simE G P C W (.cmp o ma mb)) := by
  refine PE.imp (pe_cmpR (op_cmp hu o) ha hb hm) fun σ H Q ⟨ρ, S, U, τ, R, RE, O⟩ => ?_
  simp only [evE] at O
  exact two R RE O fun x y S2 ρ2 U2 H2 v u R2 _ r1 r2 h => cmp_out R2 r1 r2 h
theorem rCmp_bl {K : PySem.W.Frag} {o : COp} {v u : V} (h : rCmp K o v u H Q) : ∃ k, Q (.bl k) H := by
  cases o <;> simp only [rCmp] at h
  · obtain ⟨_, _, _, _, _, _, q⟩ := h; exact ⟨_, q⟩
  · obtain ⟨_, _, _, _, _, _, q⟩ := h; exact ⟨_, q⟩
  · obtain ⟨_, _, _, _, _, _, q⟩ := h; exact ⟨_, q⟩
  · obtain ⟨_, _, _, _, _, _, q⟩ := h; exact ⟨_, q⟩
  · obtain ⟨_, _, _, _, _, _, q⟩ := h; exact ⟨_, q⟩
  · obtain ⟨_, _, _, _, _, _, q⟩ := h; exact ⟨_, q⟩
  · exact ⟨_, h.2⟩
  · exact ⟨_, h.2⟩
  · rcases h with h | ⟨_, _, _, _, q⟩ | ⟨_, _, _, _, q⟩
    · obtain ⟨_, _, _, _, _, _, q⟩ := h; exact ⟨_, q⟩
    · exact ⟨_, q⟩
    · exact ⟨_, q⟩
  · rcases h with h | ⟨_, _, _, _, q⟩ | ⟨_, _, _, _, q⟩
    · obtain ⟨_, _, _, _, _, _, q⟩ := h; exact ⟨_, q⟩
    · exact ⟨_, q⟩
    · exact ⟨_, q⟩
theorem sim_cmp2 (hu : X.A.units + 64 < cLine) {o p : COp} (ha : PE X a (simE G P C W ma)) (hb : PE X b (simE G P C W mb)) (hc : PE X c (simE G P C W mc)) (hm : lastMarks [o.op, p.op] [b, c] = false) : PE X (.Compare a [o.op, p.op] [b, c] pos) (simE G P C W (.cmp2 o p ma mb mc)) := by
  refine PE.imp (pe_chain (op_cmp hu o) (op_cmp hu p) ha hb hc hm) fun σ H Q ⟨ρ, S, U, τ, R, RE, O⟩ => ?_
  simp only [evE] at O
  refine ⟨ρ, S, U, τ, R, RE, O.bind fun x S1 ρ1 U1 H1 v _ s1 R1 r1 h1 => ?_⟩
  refine ⟨ρ1, S1, U1, τ, R1, RE.step s1, h1.bind fun y S2 ρ2 U2 H2 u _ s2 R2 r2 h2 => ?_⟩
  have R1' := r1.step s2
  have z : OutG G (RepD G) ρ2 U2 H2 (evCmp o x y S2) (fun z H3 => ∃ k, z = .bl k ∧ if k = true then simE G P C W mc σ H3 fun w' H4 => rCmp X.K p u w' H4 Q else Q (.bl false) H3) fun c d H' => W c d σ H' := by
    refine h2.bind fun q S3 ρ3 U3 H3 t e3 s3 R3 r3 h3 => ?_
    obtain ⟨k, rfl, rfl⟩ := evCmp_ok e3
    have r3 := r3.t
    simp only [RepT] at r3
    subst r3
    refine ⟨k, rfl, ?_⟩
    cases k with
    | true =>
      rw [if_pos rfl]
      refine ⟨ρ3, S3, U3, τ, R3, ((RE.step s1).step s2).step s3, h3.bind fun z S4 ρ4 U4 H4 w _ s4 R4 r4 h4 => ?_⟩
      exact cmp_out R4 ((r2.step s3).step s4) r4 h4
    | false => exact h3.now R3 repBl
  exact cmp_out R2 R1' r2 z
end
end Ev
end

section
set_option Elab.async false
set_option linter.all false
namespace Ev
open PySem L2
section
variable {G : Glob} {P : Prg} {C : Calls} {W : WX} {X : Cx} {e a b c : Expr} {es : List Expr} {m ma mb mc : E} {ms : List E} {pos : Pos}
variable {ρ : List Addr} {S : Store} {U H : Hp} {τ : Env} {σ : St} {Q : VK} {E' : XK}
/-! ### truth, and, or, not -/
theorem empty_iff {α β : Type} {xs : List α} {ys : List β} (h : xs.length = ys.length) : xs.isEmpty = ys.isEmpty := by
  cases xs <;> cases ys <;> simp_all
theorem RepTK.len : ∀ {ts : List (Key × T)} {vs : List (Key × V)}, RepTK G U ts vs → ts.length = vs.length
  | [], _, h => by simp only [RepTK] at h; subst h; rfl
  | (k, x) :: r, vs, h => by
    simp only [RepTK] at h
    obtain ⟨v, ws, rfl, _, h2⟩ := h
    simp [RepTK.len h2]
theorem tru_rep (R : Rel G ρ S U H) {K : PySem.W.Frag} {x : D} {k : Bool} {v : V} (h : truD S x = some k) (r : RepD G ρ U x v) : TruV K v H k := by
  cases x with
  | t x =>
    have r := r.t
    cases x <;> simp only [truD] at h <;> simp only [RepT] at r
    · simp at h; subst h; subst r; exact rfl
    · simp at h; subst h; subst r; exact rfl
    · simp only [Option.some.injEq] at h; subst h; subst r; exact rfl
    · split at h <;> simp at h
      subst h; subst r; exact ⟨by assumption, rfl⟩
    · obtain ⟨a, vs, rfl, h1, h2⟩ := r
      simp only [Option.some.injEq] at h; subst h
      exact .inl ⟨vs, SqL.of (R.sub _ _ h1), by rw [empty_iff h2.len]⟩
    · obtain ⟨a, vs, rfl, h1, h2⟩ := r
      simp only [Option.some.injEq] at h; subst h
      exact .inr (.inl ⟨vs, SqT.of (R.sub _ _ h1), by rw [empty_iff h2.len]⟩)
    · obtain ⟨a, vs, rfl, h1, h2⟩ := r
      simp only [Option.some.injEq] at h; subst h
      exact .inr (.inr ⟨vs, R.sub _ _ h1, by rw [empty_iff h2.len]⟩)
    · cases h
    · cases h
    · cases h
  | loc n =>
    obtain ⟨a, ha, rfl⟩ := r
    simp only [truD] at h
    cases e : S[n]? with
    | none => rw [e] at h; simp at h
    | some c =>
      have cr := R.cell n c a e ha
      rw [e] at h
      cases c <;> simp only [Option.some.injEq] at h <;> try (cases h; done)
      · subst h
        obtain ⟨vs, h1, h2⟩ := cr
        exact .inl ⟨vs, SqL.of h1, by rw [empty_iff (Paired.length h2)]⟩
      · subst h
        obtain ⟨vs, h1, h2⟩ := cr
        exact .inr (.inr ⟨vs, h1, by rw [empty_iff (Paired.length h2)]⟩)
/-- an expression as a test -/
theorem sim_truth (ha : PE X a (simE G P C W m)) (he : ∀ whole, isTrue a X.env whole = (do let v ← whole; standAt a.pos; holding [v] (truthy v)))
    (hm : ∀ τ S, evT P C m τ S = (evE P C m τ S).bind fun x S1 => ofOpt (truD S1 x) S1) : PT X a (simT G P C W m) := by
  refine PT.imp (pt_truth ha he) fun σ H Q ⟨ρ, S, U, τ, R, RE, O⟩ => ?_
  rw [hm] at O
  refine ⟨ρ, S, U, τ, R, RE, O.bind fun x S1 ρ1 U1 H1 v _ s1 R1 r1 h1 => ?_⟩
  obtain ⟨k, e, h1⟩ := OutG.opt h1
  exact ⟨k, tru_rep R1 e r1, h1.now R1 rfl⟩
/-- a comparison as a test -/
theorem simT_of_bl {t : TE} (he : PT X a (tTest t)) (h1 : ∀ σ H Q, simE G P C W m σ H Q → t σ H Q)
    (hm : ∀ τ S, evT P C m τ S = (evE P C m τ S).bind fun x S1 => ofOpt (truD S1 x) S1) (hb : ∀ τ S q S', evE P C m τ S = .ok q S' → ∃ k, q = .t (.bl k)) : PT X a (simT G P C W m) := by
  refine PT.imp he fun σ H Q ⟨ρ, S, U, τ, R, RE, O⟩ => ?_
  rw [hm] at O
  refine h1 σ H _ ⟨ρ, S, U, τ, R, RE, O.bind fun x S1 ρ1 U1 H1 v e1 s1 R1 r1 h1 => ?_⟩
  obtain ⟨k, rfl⟩ := hb _ _ _ _ e1
  have r1 := r1.t
  simp only [RepT] at r1
  subst r1
  obtain ⟨k', e, h1⟩ := OutG.opt h1
  simp [truD] at e
  subst e
  exact ⟨k, rfl, h1.now R1 rfl⟩
theorem bind_ok {α β : Type} {r : R α} {f : α → Store → R β} {b : β} {S' : Store} (h : r.bind f = .ok b S') : ∃ a S1, r = .ok a S1 ∧ f a S1 = .ok b S' := by
  cases r with
  | ok a S => exact ⟨a, S, rfl, h⟩
  | exc e S => cases h
  | bad => cases h
theorem cmp_bl {o : COp} {τ : Env} {S : Store} {q : D} {S' : Store} (h : evE P C (.cmp o ma mb) τ S = .ok q S') : ∃ k, q = .t (.bl k) := by
  simp only [evE] at h
  obtain ⟨x, S1, _, h⟩ := bind_ok h
  obtain ⟨y, S2, _, h⟩ := bind_ok h
  obtain ⟨k, e, _⟩ := evCmp_ok h
  exact ⟨k, e⟩
theorem cmp2_bl {o p : COp} {τ : Env} {S : Store} {q : D} {S' : Store} (h : evE P C (.cmp2 o p ma mb mc) τ S = .ok q S') : ∃ k, q = .t (.bl k) := by
  simp only [evE] at h
  obtain ⟨x, S1, _, h⟩ := bind_ok h
  obtain ⟨y, S2, _, h⟩ := bind_ok h
  obtain ⟨z, S3, h3, h⟩ := bind_ok h
  obtain ⟨k, rfl, _⟩ := evCmp_ok h3
  cases k with
  | false => cases h; exact ⟨_, rfl⟩
  | true =>
    obtain ⟨w, S4, _, h⟩ := bind_ok h
    obtain ⟨k, e, _⟩ := evCmp_ok h
    exact ⟨k, e⟩
theorem simT_cmp (hu : X.A.units + 64 < cLine) {o : COp} (ha : PE X a (simE G P C W ma)) (hb : PE X b (simE G P C W mb)) (hm : behindInMarks o.op b = false) : PT X (.Compare a [o.op] [b] pos) (simT G P C W (.cmp o ma mb)) :=
  simT_of_bl (pt_cmpR (op_cmp hu o) ha hb hm) (fun σ H Q ⟨ρ, S, U, τ, R, RE, O⟩ => by
    simp only [evE] at O
    exact two R RE O fun x y S2 ρ2 U2 H2 v u R2 _ r1 r2 h => cmp_out R2 r1 r2 h) (fun τ S => by simp only [evT]) fun τ S q S' h => cmp_bl h
theorem simT_and (ha : PT X a (simT G P C W ma)) {es : List Expr} (hb : PW X (.BoolOp .And (b :: es) pos) (simT G P C W mb)) : PW X (.BoolOp .And (a :: b :: es) pos) (simT G P C W (.and_ ma mb)) := by
  refine ⟨fun wh pins s σ H Q I h => (pw_and ha hb).run wh pins s σ H Q I ?_⟩
  obtain ⟨ρ, S, U, τ, R, RE, O⟩ := h
  simp only [evT] at O
  refine ⟨ρ, S, U, τ, R, RE, O.bind fun x S1 ρ1 U1 H1 k _ s1 R1 r1 h1 => ?_⟩
  have r1 : x = k := r1
  subst r1
  cases x with
  | true => exact ⟨ρ1, S1, U1, τ, R1, RE.step s1, h1⟩
  | false => exact h1.now R1 rfl
theorem simT_or (ha : PT X a (simT G P C W ma)) {es : List Expr} (hb : PW X (.BoolOp .Or (b :: es) pos) (simT G P C W mb)) : PW X (.BoolOp .Or (a :: b :: es) pos) (simT G P C W (.or_ ma mb)) := by
  refine ⟨fun wh pins s σ H Q I h => (pw_or ha hb).run wh pins s σ H Q I ?_⟩
  obtain ⟨ρ, S, U, τ, R, RE, O⟩ := h
  simp only [evT] at O
  refine ⟨ρ, S, U, τ, R, RE, O.bind fun x S1 ρ1 U1 H1 k _ s1 R1 r1 h1 => ?_⟩
  have r1 : x = k := r1
  subst r1
  cases x with
  | true => exact h1.now R1 rfl
  | false => exact ⟨ρ1, S1, U1, τ, R1, RE.step s1, h1⟩
theorem simT_not (ha : PT X a (simT G P C W ma)) : PT X (.UnaryOp .Not a pos) (simT G P C W (.not_ ma)) := by
  refine PT.imp (pt_not ha) fun σ H Q ⟨ρ, S, U, τ, R, RE, O⟩ => ?_
  simp only [evT] at O
  refine ⟨ρ, S, U, τ, R, RE, O.bind fun x S1 ρ1 U1 H1 k _ s1 R1 r1 h1 => ?_⟩
  have r1 : x = k := r1
  subst r1
  exact h1.now R1 rfl
theorem sim_and (ha : PE X a (simE G P C W ma)) {es : List Expr} (hb : PE X (.BoolOp .And (b :: es) pos) (simE G P C W mb)) : PE X (.BoolOp .And (a :: b :: es) pos) (simE G P C W (.and_ ma mb)) := by
  refine PE.imp (pe_and ha hb) fun σ H Q ⟨ρ, S, U, τ, R, RE, O⟩ => ?_
  simp only [evE] at O
  refine ⟨ρ, S, U, τ, R, RE, O.bind fun x S1 ρ1 U1 H1 v _ s1 R1 r1 h1 => ?_⟩
  split at h1
  · have r1 := r1.t
    simp only [RepT] at r1
    exact ⟨true, r1, by rw [if_pos rfl]; exact ⟨ρ1, S1, U1, τ, R1, RE.step s1, h1⟩⟩
  · have r1 := r1.t
    simp only [RepT] at r1
    exact ⟨false, r1, h1.now R1 repBl⟩
  · exact h1.elim
theorem sim_or (ha : PE X a (simE G P C W ma)) {es : List Expr} (hb : PE X (.BoolOp .Or (b :: es) pos) (simE G P C W mb)) : PE X (.BoolOp .Or (a :: b :: es) pos) (simE G P C W (.or_ ma mb)) := by
  refine PE.imp (pe_or ha hb) fun σ H Q ⟨ρ, S, U, τ, R, RE, O⟩ => ?_
  simp only [evE] at O
  refine ⟨ρ, S, U, τ, R, RE, O.bind fun x S1 ρ1 U1 H1 v _ s1 R1 r1 h1 => ?_⟩
  split at h1
  · have r1 := r1.t
    simp only [RepT] at r1
    exact ⟨false, r1, by rw [if_neg (by decide)]; exact ⟨ρ1, S1, U1, τ, R1, RE.step s1, h1⟩⟩
  · have r1 := r1.t
    simp only [RepT] at r1
    exact ⟨true, r1, by rw [if_pos rfl]; exact h1.now R1 repBl⟩
  · exact h1.elim
theorem sim_not (ha : PE X a (simE G P C W ma)) : PE X (.UnaryOp .Not a pos) (simE G P C W (.not_ ma)) := by
  refine PE.imp (pe_notT ha) fun σ H Q ⟨ρ, S, U, τ, R, RE, O⟩ => ?_
  simp only [evE] at O
  refine ⟨ρ, S, U, τ, R, RE, O.bind fun x S1 ρ1 U1 H1 v _ s1 R1 r1 h1 => ?_⟩
  obtain ⟨z, e, h1⟩ := OutG.opt h1
  simp only [Option.map_eq_some_iff] at e
  obtain ⟨k, e, rfl⟩ := e
  exact ⟨k, tru_rep R1 e r1, h1.now R1 repBl⟩
theorem sim_ife {ct : Expr} (hc : PT X ct (simT G P C W m)) (ha : PE X a (simE G P C W ma)) (hb : PE X b (simE G P C W mb)) : PE X (.IfExp ct a b pos) (simE G P C W (.ife m ma mb)) := by
  refine PE.imp (pe_ifExp hc ha hb) fun σ H Q ⟨ρ, S, U, τ, R, RE, O⟩ => ?_
  simp only [evE] at O
  refine ⟨ρ, S, U, τ, R, RE, O.bind fun x S1 ρ1 U1 H1 k _ s1 R1 r1 h1 => ?_⟩
  have r1 : x = k := r1
  subst r1
  cases x with
  | true => rw [if_pos rfl]; exact ⟨ρ1, S1, U1, τ, R1, RE.step s1, h1⟩
  | false => rw [if_neg (by decide)]; exact ⟨ρ1, S1, U1, τ, R1, RE.step s1, h1⟩
/-! ### objects made -/
end
end Ev
end

section
set_option Elab.async false
set_option linter.all false
namespace Ev
open PySem L2
section
variable {G : Glob} {P : Prg} {C : Calls} {W : WX} {X : Cx} {e a b c : Expr} {es : List Expr} {m ma mb mc : E} {ms : List E} {f : F} {pos : Pos}
variable {ρ : List Addr} {S : Store} {U H : Hp} {τ : Env} {σ : St} {Q : VK} {E' : XK}
def simF (G : Glob) (P : Prg) (C : Calls) (W : WX) (f : F) : TE := fun σ H Q => ∃ ρ S U τ, Rel G ρ S U H ∧ RepE G ρ U τ σ ∧
  OutG G (RepDs G) ρ U H (evF P C f τ S) (fun vs H1 => ∀ p, H1 p = none → Q (.ref p) (upd H1 p (.lst vs))) fun c d H' => W c d σ H'
theorem RepTs.ofD {ts : List T} {ρ : List Addr} {vs : List V} (h : RepDs G ρ U (ts.map .t) vs) : RepTs G U ts vs := allT_rep (allT_mapT ts) h
theorem sub_upd (R : Rel G ρ S U H) {p : Addr} {o : HO} (h : H p = none) : Sub U (upd U p o) := (R.newU (o := o) h).2.mono
theorem sim_fr (h : PE X e (simF G P C W f)) : PE X e (simE G P C W (.fr f)) := by
  refine PE.imp h fun σ H Q ⟨ρ, S, U, τ, R, RE, O⟩ => ?_
  simp only [evE] at O
  refine ⟨ρ, S, U, τ, R, RE, O.bind fun ds S1 ρ1 U1 H1 vs _ s1 R1 r1 h1 p hp => ?_⟩
  obtain ⟨z, e, h1⟩ := OutG.opt h1
  simp only [Option.map_eq_some_iff] at e
  obtain ⟨ts, e, rfl⟩ := e
  obtain ⟨R2, s2⟩ := R1.newU (o := .lst vs) hp
  refine h1 _ _ _ _ s2 R2 ?_
  show RepT G _ _ _
  simp only [RepT]
  exact ⟨p, vs, rfl, upd_same, RepTs.mono s2.mono _ _ (allT_rep e r1)⟩
theorem sim_nw (h : PE X e (simF G P C W f)) : PE X e (simE G P C W (.nw f)) := by
  refine PE.imp h fun σ H Q ⟨ρ, S, U, τ, R, RE, O⟩ => ?_
  simp only [evE] at O
  refine ⟨ρ, S, U, τ, R, RE, O.bind fun ds S1 ρ1 U1 H1 vs _ s1 R1 r1 h1 p hp => ?_⟩
  obtain ⟨R2, s2⟩ := R1.newC (o := .lst vs) (c := .lst ds) hp ⟨vs, upd_same, RepDs.mono (List.prefix_append _ _) (fun _ _ h => h) r1⟩
  refine h1 _ _ _ _ s2 R2 ⟨p, ?_, rfl⟩
  rw [← R1.len]
  simp
theorem simF_disp (h : PA X es (simA G P C W ms)) : PE X (.List es pos) (simF G P C W (.disp ms)) := by
  refine PE.imp (pe_lst h) fun σ H Q ⟨ρ, S, U, τ, R, RE, O⟩ => ?_
  simp only [evF] at O
  refine many R RE O fun xs S1 ρ1 U1 H1 vs R1 _ r1 _ h1 => ?_
  split at h1
  · rename_i l
    exact ⟨by rw [← RepDs.len r1]; exact l, fun p hp => h1.now R1 r1 p hp⟩
  · exact h1.elim
theorem Paired.app {α β : Type} {F : α → β → Prop} : ∀ {a b : List α} {c d : List β}, Paired F a c → Paired F b d → Paired F (a ++ b) (c ++ d)
  | _, _, _, _, .nil, h => h
  | _, _, _, _, .cons r t, h => .cons r (Paired.app t h)
theorem simF_cat (ha : PE X a (simE G P C W ma)) (hb : PE X b (simE G P C W mb)) : PE X (.BinOp a .Add b pos) (simF G P C W (.cat ma mb)) := by
  refine PE.imp (pe_op op_cat ha hb) fun σ H Q ⟨ρ, S, U, τ, R, RE, O⟩ => ?_
  simp only [evF] at O
  refine ⟨ρ, S, U, τ, R, RE, O.bind fun x S1 ρ1 U1 H1 v _ s1 R1 r1 h1 => ?_⟩
  refine ⟨ρ1, S1, U1, τ, R1, RE.step s1, h1.bind fun y S2 ρ2 U2 H2 u _ s2 R2 r2 h2 => ?_⟩
  obtain ⟨z, e, h2⟩ := OutG.opt h2
  simp only [Option.bind_eq_some_iff] at e
  obtain ⟨xs, e1, ys, e2, e3⟩ := e
  split at e3
  · rename_i l
    cases e3
    obtain ⟨p, vs, rfl, q1, q2⟩ := itsD_rep R2 e1 (r1.step s2)
    obtain ⟨p', vs', rfl, q3, q4⟩ := itsD_rep R2 e2 r2
    exact ⟨p, p', vs, vs', rfl, rfl, q1, q3, by rw [← RepDs.len q2, ← RepDs.len q4]; exact l, h2.now R2 (Paired.app q2 q4)⟩
  · cases e3
theorem Paired.rep {α β : Type} {F : α → β → Prop} {a : List α} {b : List β} (h : Paired F a b) : ∀ n : Nat, Paired F (List.replicate n a).flatten (List.replicate n b).flatten
  | 0 => .nil
  | n + 1 => by simp only [List.replicate_succ, List.flatten_cons]; exact Paired.app h (Paired.rep h n)
theorem simF_rep (ha : PE X a (simE G P C W ma)) (hb : PE X b (simE G P C W mb)) : PE X (.BinOp a .Mult b pos) (simF G P C W (.rep ma mb)) := by
  refine PE.imp (pe_op op_rep ha hb) fun σ H Q ⟨ρ, S, U, τ, R, RE, O⟩ => ?_
  simp only [evF] at O
  refine ⟨ρ, S, U, τ, R, RE, O.bind fun x S1 ρ1 U1 H1 v _ s1 R1 r1 h1 => ?_⟩
  refine ⟨ρ1, S1, U1, τ, R1, RE.step s1, h1.bind fun y S2 ρ2 U2 H2 u _ s2 R2 r2 h2 => ?_⟩
  split at h2
  · rename_i k
    obtain ⟨z, e, h2⟩ := OutG.opt h2
    simp only [Option.bind_eq_some_iff] at e
    obtain ⟨xs, e1, e3⟩ := e
    split at e3
    · rename_i l
      cases e3
      obtain ⟨p, vs, rfl, q1, q2⟩ := itsD_rep R2 e1 (r1.step s2)
      have r2 := r2.t
      simp only [RepT] at r2
      exact ⟨p, _, vs, rfl, r2, q1, l.1, l.2.1, by rw [← RepDs.len q2]; exact l.2.2, h2.now R2 (Paired.rep q2 _)⟩
    · cases e3
  · exact h2.elim
def simO (G : Glob) (P : Prg) (C : Calls) (W : WX) (o : Option E) : TO := fun σ H Q => ∃ ρ S U τ, Rel G ρ S U H ∧ RepE G ρ U τ σ ∧
  OutG G (fun _ _ a b => a = b) ρ U H (evO P C o τ S) Q fun c d H' => W c d σ H'
theorem PO.imp {o : Option Expr} {t t' : TO} (h : PO X o t) (i : ∀ σ H Q, t' σ H Q → t σ H Q) : PO X o t' := ⟨fun pins s σ H Q I w => h.run pins s σ H Q I (i _ _ _ w)⟩
theorem simO_none : PO X none (simO G P C W none) := PO.imp po_none fun σ H Q ⟨ρ, S, U, τ, R, RE, O⟩ => by
  simp only [evO] at O
  exact O.now R rfl
theorem simO_some (h : PE X e (simE G P C W m)) : PO X (some e) (simO G P C W (some m)) := by
  refine PO.imp (po_some h) fun σ H Q ⟨ρ, S, U, τ, R, RE, O⟩ => ?_
  simp only [evO] at O
  refine ⟨ρ, S, U, τ, R, RE, O.bind fun x S1 ρ1 U1 H1 v _ s1 R1 r1 h1 => ?_⟩
  split at h1
  · have r1 := r1.t
    simp only [RepT] at r1
    exact ⟨_, r1, h1.now R1 rfl⟩
  · exact h1.elim
theorem Paired.drop {α β : Type} {F : α → β → Prop} : ∀ {a : List α} {b : List β} (n : Nat), Paired F a b → Paired F (a.drop n) (b.drop n)
  | _, _, 0, h => h
  | _, _, n + 1, .nil => .nil
  | _, _, n + 1, .cons r t => Paired.drop n t
theorem Paired.take {α β : Type} {F : α → β → Prop} : ∀ {a : List α} {b : List β} (n : Nat), Paired F a b → Paired F (a.take n) (b.take n)
  | _, _, 0, h => .nil
  | _, _, n + 1, .nil => .nil
  | _, _, n + 1, .cons r t => .cons r (Paired.take n t)
theorem Paired.rev {α β : Type} {F : α → β → Prop} : ∀ {a : List α} {b : List β}, Paired F a b → Paired F a.reverse b.reverse
  | _, _, .nil => .nil
  | _, _, .cons r t => by rw [List.reverse_cons, List.reverse_cons]; exact Paired.app (Paired.rev t) (.cons r .nil)
theorem simF_slc {lo hi : Option Expr} {ml mh : Option E} {p2 : Pos} (ha : PE X a (simE G P C W ma)) (hl : PO X lo (simO G P C W ml)) (hh : PO X hi (simO G P C W mh)) : PE X (.Subscript a (.Slice lo hi none p2) pos) (simF G P C W (.slc ma ml mh)) := by
  refine PE.imp (pe_slice sl_list ha hl hh) fun σ H Q ⟨ρ, S, U, τ, R, RE, O⟩ => ?_
  simp only [evF] at O
  refine ⟨ρ, S, U, τ, R, RE, O.bind fun x S1 ρ1 U1 H1 v _ s1 R1 r1 h1 => ?_⟩
  refine ⟨ρ1, S1, U1, τ, R1, RE.step s1, h1.bind fun l S2 ρ2 U2 H2 l' _ s2 R2 r2 h2 => ?_⟩
  have r2 : l = l' := r2
  subst r2
  refine ⟨ρ2, S2, U2, τ, R2, (RE.step s1).step s2, h2.bind fun h S3 ρ3 U3 H3 h' _ s3 R3 r3 h3 => ?_⟩
  have r3 : h = h' := r3
  subst r3
  obtain ⟨z, e, h3⟩ := OutG.opt h3
  simp only [Option.map_eq_some_iff] at e
  obtain ⟨xs, e1, rfl⟩ := e
  obtain ⟨p, vs, rfl, q1, q2⟩ := itsD_rep R3 e1 ((r1.step s2).step s3)
  have en := RepDs.len q2
  refine ⟨p, vs, rfl, SqL.of q1, fun q hq => ?_⟩
  have := h3.now R3 (b := cutV vs l h) (by
    unfold cutD cutV
    rw [en]
    exact Paired.take _ (Paired.drop _ q2)) q hq
  exact this
theorem simF_rev {k : Nat} {p1 p2 p3 : Pos} (ha : PE X a (simE G P C W ma)) : PE X (.Subscript a (.Slice none none (some (.UnaryOp .USub (.Constant (.int 1) k p1) p2)) p3) pos) (simF G P C W (.rev ma)) := by
  refine PE.imp (pe_revL ha) fun σ H Q ⟨ρ, S, U, τ, R, RE, O⟩ => ?_
  simp only [evF] at O
  refine ⟨ρ, S, U, τ, R, RE, O.bind fun x S1 ρ1 U1 H1 v _ s1 R1 r1 h1 => ?_⟩
  obtain ⟨z, e, h1⟩ := OutG.opt h1
  simp only [Option.map_eq_some_iff] at e
  obtain ⟨xs, e1, rfl⟩ := e
  obtain ⟨p, vs, rfl, q1, q2⟩ := itsD_rep R1 e1 r1
  exact ⟨p, vs, rfl, SqL.of q1, h1.now R1 (Paired.rev q2)⟩
end
end Ev
end

section
set_option Elab.async false
set_option linter.all false
namespace Ev
open PySem L2
section
variable {G : Glob} {P : Prg} {C : Calls} {W : WX} {X : Cx} {e a b c : Expr} {es : List Expr} {m ma mb mc : E} {ms : List E} {f : F} {pos p p2 q : Pos}
variable {ρ : List Addr} {S : Store} {U H : Hp} {τ : Env} {σ : St} {Q : VK} {E' : XK}
/-! ### built-in functions -/
def Bi.fn : Bi → Value
  | .len => .builtin "len" | .abs => .builtin "abs" | .max2 => .builtin "max" | .min2 => .builtin "min" | .sum => .builtin "sum" | .all => .builtin "all" | .any => .builtin "any"
  | .int => .type "int" | .divmod => .builtin "divmod" | .lenset => .none | .bitlen => .none | .repr => .builtin "repr" | .str => .type "str" | .tuple => .type "tuple" | .maxl => .builtin "max" | .minl => .builtin "min" | .asLen => .none | .asRep => .none
def Bi.std : Bi → Bool
  | .lenset => false | .bitlen => false | .asLen => false | .asRep => false | _ => true
def rBi (K : PySem.W.Frag) (b : Bi) : List V → Hp → VK → Prop := fun vs H Q => match b with
  | .len => (∃ x n, vs = [x] ∧ LenV K x H n ∧ Q (.int n) H) ∨ ∃ a kvs, vs = [.ref a] ∧ H a = some (.dK kvs) ∧ Q (.int kvs.length) H
  | .abs => ∃ i, vs = [.int i] ∧ Q (.int (if i < 0 then -i else i)) H
  | .max2 => ∃ i j, vs = [.int i, .int j] ∧ Q (.int (if j > i then j else i)) H
  | .min2 => ∃ i j, vs = [.int i, .int j] ∧ Q (.int (if j < i then j else i)) H
  | .sum => rSum K vs H Q
  | .all => rAll K vs H Q
  | .any => rAny K vs H Q
  | .int => (∃ i, vs = [.int i] ∧ Q (.int i) H) ∨ ∃ k, vs = [.bl k] ∧ Q (.int (if k then 1 else 0)) H
  | .divmod => ∃ i j, vs = [.int i, .int j] ∧ CDiv i j ∧ ∀ p, H p = none → Q (.ref p) (upd H p (.tup [.int (i / j), .int (i % j)]))
  | .repr => ∃ x d, vs = [x] ∧ Dp K H x d ∧ (d.showable = true ∧ d.depth ≤ 100 ∧ d.shown.length ≤ sizeLine) ∧ SeqAt.shaped d = true ∧ Q (.str d.shown) H
  | _ => False
theorem call_reprD (hu : X.A.units + 128 < cLine) (hg : X.A.guards = some []) : CallR X (.builtin "repr") (fun vs H Q => ∃ x d, vs = [x] ∧ Dp X.K H x d ∧ (d.showable = true ∧ d.depth ≤ 100 ∧ d.shown.length ≤ sizeLine) ∧ SeqAt.shaped d = true ∧ Q (.str d.shown) H) := by
  intro pins s σ H xs us Q I r h
  obtain ⟨x, d, rfl, D, ⟨h1, h2, h3⟩, h4, q⟩ := h
  obtain ⟨u, rfl, ru⟩ := vals1 r
  have h4 : d.hasDict = false := PyData.hasDict_of_canLay d (SeqAt.canLay_of_shaped h4)
  obtain ⟨as, rd⟩ := Dp.reads I d x u D ru
  have big : ∀ a, u = .ref a → wpAny (model X.prog X.w) X.A (call (.builtin "repr") [u]) (EP X pins σ Q) X.xe s := by
    rintro a rfl
    refine repr_of_reads' rd h1 (PyData.noDict_hsm h4) hg (by omega) (fun _ _ e => e) (fun h' t tk k => ?_) h3
    exact ⟨.str d.shown, H, I.kept k, ⟨t, rfl⟩, q⟩
  cases D with
  | non => cases ru; exact P.repr_of_none ⟨.str _, H, I.tok _, ⟨_, rfl⟩, q⟩
  | bl b => cases ru; exact P.repr_of_bool ⟨.str _, H, I.tok _, ⟨_, rfl⟩, by simpa [PyData.shown] using q⟩
  | int i =>
    obtain ⟨t, rfl⟩ := ru
    exact P.repr_of_int (by simpa [PyData.showable] using h1) ⟨.str _, H, I.tok _, ⟨_, rfl⟩, by simpa [PyData.shown] using q⟩
  | str z =>
    obtain ⟨t, rfl⟩ := ru
    exact P.repr_of_str ⟨.str _, H, I.tok _, ⟨_, rfl⟩, by simpa [PyData.shown] using q⟩ (by simpa [PyData.shown] using h3)
  | lst s1 s2 => exact big _ ru
  | tup s1 s2 => exact big _ ru
theorem cr_bi (hc : X.calm = true) (hu : X.A.units + 128 < cLine) (hg : X.A.guards = some []) (b : Bi) : CallR X b.fn (rBi X.K b) := by
  intro pins s σ H xs us Q I r h
  cases b <;> simp only [rBi] at h
  case len =>
    rcases h with h | ⟨a, kvs, rfl, e, q⟩
    · exact call_len pins s σ H _ us Q I r h
    · obtain ⟨u, rfl, ru⟩ := vals1 r
      cases ru
      exact d_len I (Rd.of e) fun t s' I' => ⟨.int kvs.length, H, I', ⟨t, rfl⟩, q⟩
  case abs => exact call_abs pins s σ H _ us Q I r h
  case max2 => exact call_max2 hc pins s σ H _ us Q I r h
  case min2 => exact call_min2 hc pins s σ H _ us Q I r h
  case sum => exact cr_sum hc pins s σ H _ us Q I r h
  case all => exact cr_all hc pins s σ H _ us Q I r h
  case any => exact cr_any hc pins s σ H _ us Q I r h
  case int => exact call_int1 pins s σ H _ us Q I r h
  case divmod => exact call_divmod pins s σ H _ us Q I r h
  case repr => exact call_reprD hu hg pins s σ H _ us Q I r h
  all_goals exact h.elim
def ArgOk (G : Glob) (K : PySem.W.Frag) : Prop := ∀ a ns, G.arg a ns → ∀ H, SqL K H a (ns.map V.int)
theorem arg_rep {K : PySem.W.Frag} (hk : ArgOk G K) (R : Rel G ρ S U H) {ns : List Int} {v : V} (r : RepT G U (.arg ns) v) : ∃ a, v = .ref a ∧ SqL K H a (ns.map V.int) := by
  simp only [RepT] at r
  obtain ⟨a, rfl, ⟨o, h⟩ | h⟩ := r
  · exact ⟨a, rfl, .inl (.inr ⟨o, R.sub _ _ h⟩)⟩
  · exact ⟨a, rfl, hk a ns h H⟩
theorem lenD_rep {K : PySem.W.Frag} (hk : ArgOk G K) (R : Rel G ρ S U H) {x : D} {n : Nat} {v : V} (h : lenD S x = some n) (r : RepD G ρ U x v) : LenV K v H n ∨ ∃ a kvs, v = .ref a ∧ H a = some (.dK kvs) ∧ n = kvs.length := by
  cases x with
  | t x =>
    have r := r.t
    cases x <;> simp only [lenD] at h <;> simp only [RepT] at r <;> try (cases h; done)
    · split at h <;> simp at h
      subst h; subst r; exact .inl ⟨by assumption, rfl⟩
    · obtain ⟨a, vs, rfl, h1, h2⟩ := r
      simp only [Option.some.injEq] at h; subst h
      exact .inl (.inl ⟨vs, SqL.of (R.sub _ _ h1), h2.len⟩)
    · obtain ⟨a, vs, rfl, h1, h2⟩ := r
      simp only [Option.some.injEq] at h; subst h
      exact .inl (.inr ⟨vs, SqT.of (R.sub _ _ h1), h2.len⟩)
    · obtain ⟨a, vs, rfl, h1, h2⟩ := r
      simp only [Option.some.injEq] at h; subst h
      exact .inr ⟨a, vs, rfl, R.sub _ _ h1, h2.len⟩
    · rename_i ns
      obtain ⟨a, rfl, q⟩ := arg_rep hk R (by simp only [RepT]; exact r)
      simp only [Option.some.injEq] at h; subst h
      exact .inl (.inl ⟨_, q, by simp⟩)
  | loc n =>
    obtain ⟨a, ha, rfl⟩ := r
    simp only [lenD] at h
    cases e : S[n]? with
    | none => rw [e] at h; simp at h
    | some c =>
      have cr := R.cell n c a e ha
      rw [e] at h
      cases c <;> simp only [Option.some.injEq] at h <;> try (cases h; done)
      · subst h
        obtain ⟨vs, h1, h2⟩ := cr
        exact .inl (.inl ⟨vs, SqL.of h1, Paired.length h2⟩)
      · subst h
        obtain ⟨vs, h1, h2⟩ := cr
        exact .inr ⟨a, vs, rfl, h1, Paired.length h2⟩
theorem intsT_rep : ∀ {ts : List T} {ns : List Int} {vs : List V}, intsT ts = some ns → RepTs G U ts vs → vs = ns.map V.int
  | [], ns, vs, h, r => by simp [intsT] at h; subst h; simp only [RepTs] at r; exact r
  | t :: ts, ns, vs, h, r => by
    simp only [RepTs] at r
    obtain ⟨v, ws, rfl, h1, h2⟩ := r
    cases t <;> simp [intsT] at h
    obtain ⟨ms, e, rfl⟩ := h
    simp only [RepT] at h1
    rw [intsT_rep e h2, h1]; rfl
theorem blsT_rep : ∀ {ts : List T} {ns : List Bool} {vs : List V}, blsT ts = some ns → RepTs G U ts vs → vs = ns.map V.bl
  | [], ns, vs, h, r => by simp [blsT] at h; subst h; simp only [RepTs] at r; exact r
  | t :: ts, ns, vs, h, r => by
    simp only [RepTs] at r
    obtain ⟨v, ws, rfl, h1, h2⟩ := r
    cases t <;> simp [blsT] at h
    obtain ⟨ms, e, rfl⟩ := h
    simp only [RepT] at h1
    rw [blsT_rep e h2, h1]; rfl
theorem shaped_noDict {d : PyData} (h : SeqAt.shaped d = true) : d.hasDict = false := PyData.hasDict_of_canLay d (SeqAt.canLay_of_shaped h)
theorem rows_rep {K : PySem.W.Frag} {a : Addr} {vs : List V} (h : H a = some (.lst vs) ∨ H a = some (.tup vs)) : SqL K H a vs ∨ SqT K H a vs := h.imp SqL.of SqT.of
end
end Ev
end

section
set_option Elab.async false
set_option linter.all false
namespace Ev
open PySem L2
section
variable {G : Glob} {P : Prg} {C : Calls} {W : WX} {X : Cx} {e a b c : Expr} {es : List Expr} {m ma mb mc : E} {ms : List E} {f : F} {pos p p2 q : Pos}
variable {ρ : List Addr} {S : Store} {U H : Hp} {τ : Env} {σ : St} {Q : VK} {E' : XK}
theorem RepDs.one {x : D} {vs : List V} (h : RepDs G ρ U [x] vs) : ∃ v, vs = [v] ∧ RepD G ρ U x v := by
  cases h with
  | cons r t => cases t; exact ⟨_, rfl, r⟩
theorem RepDs.two {x y : D} {vs : List V} (h : RepDs G ρ U [x, y] vs) : ∃ v u, vs = [v, u] ∧ RepD G ρ U x v ∧ RepD G ρ U y u := by
  cases h with
  | cons r t =>
    obtain ⟨u, rfl, r2⟩ := RepDs.one t
    exact ⟨_, _, rfl, r, r2⟩
theorem lstT_rep (R : Rel G ρ S U H) {x : D} {ts : List T} {v : V} (h : lstT S x = some ts) (r : RepD G ρ U x v) : ∃ a vs, v = .ref a ∧ H a = some (.lst vs) ∧ RepTs G U ts vs := by
  simp only [lstT, Option.bind_eq_some_iff] at h
  obtain ⟨ds, h1, h2⟩ := h
  obtain ⟨a, vs, rfl, h3, h4⟩ := itsD_rep R h1 r
  exact ⟨a, vs, rfl, h3, allT_rep h2 h4⟩
theorem bi_out {K : PySem.W.Frag} (hk : ArgOk G K) {b : Bi} {ds : List D} {vs : List V} (R : Rel G ρ S U H) (r : RepDs G ρ U ds vs) (h : OutG G (RepD G) ρ U H (evBi b ds S) Q E') (hb : b.std = true) : rBi K b vs H Q := by
  unfold evBi at h
  split at h
  case h_1 =>
    obtain ⟨v, rfl, r1⟩ := RepDs.one r
    obtain ⟨d, e, h⟩ := OutG.opt h
    simp only [Option.map_eq_some_iff] at e
    obtain ⟨n, e, rfl⟩ := e
    rcases lenD_rep hk R e r1 with g | ⟨a, kvs, rfl, g1, rfl⟩
    · exact .inl ⟨v, n, rfl, g, h.now R repInt⟩
    · exact .inr ⟨a, kvs, rfl, g1, h.now R repInt⟩
  case h_2 =>
    obtain ⟨v, rfl, r1⟩ := RepDs.one r
    have r1 := r1.t; simp only [RepT] at r1; subst r1
    exact ⟨_, rfl, h.now R repInt⟩
  case h_3 =>
    obtain ⟨v, u, rfl, r1, r2⟩ := RepDs.two r
    have r1 := r1.t; simp only [RepT] at r1; subst r1
    have r2 := r2.t; simp only [RepT] at r2; subst r2
    exact ⟨_, _, rfl, h.now R repInt⟩
  case h_4 =>
    obtain ⟨v, u, rfl, r1, r2⟩ := RepDs.two r
    have r1 := r1.t; simp only [RepT] at r1; subst r1
    have r2 := r2.t; simp only [RepT] at r2; subst r2
    exact ⟨_, _, rfl, h.now R repInt⟩
  case h_5 =>
    obtain ⟨v, rfl, r1⟩ := RepDs.one r
    obtain ⟨d, e, h⟩ := OutG.opt h
    simp only [Option.bind_eq_some_iff, Option.map_eq_some_iff] at e
    obtain ⟨ts, e1, ns, e2, rfl⟩ := e
    obtain ⟨a, ws, rfl, q1, q2⟩ := lstT_rep R e1 r1
    obtain rfl := intsT_rep e2 q2
    exact ⟨a, ns, rfl, SqL.of q1, h.now R repInt⟩
  case h_6 =>
    obtain ⟨v, rfl, r1⟩ := RepDs.one r
    obtain ⟨d, e, h⟩ := OutG.opt h
    simp only [Option.bind_eq_some_iff, Option.map_eq_some_iff] at e
    obtain ⟨ts, e1, ns, e2, rfl⟩ := e
    obtain ⟨a, ws, rfl, q1, q2⟩ := lstT_rep R e1 r1
    obtain rfl := blsT_rep e2 q2
    exact ⟨a, ns, rfl, SqL.of q1, h.now R repBl⟩
  case h_7 =>
    obtain ⟨v, rfl, r1⟩ := RepDs.one r
    obtain ⟨d, e, h⟩ := OutG.opt h
    simp only [Option.bind_eq_some_iff, Option.map_eq_some_iff] at e
    obtain ⟨ts, e1, ns, e2, rfl⟩ := e
    obtain ⟨a, ws, rfl, q1, q2⟩ := lstT_rep R e1 r1
    obtain rfl := blsT_rep e2 q2
    exact ⟨a, ns, rfl, SqL.of q1, h.now R repBl⟩
  case h_8 =>
    obtain ⟨v, rfl, r1⟩ := RepDs.one r
    have r1 := r1.t; simp only [RepT] at r1; subst r1
    exact .inl ⟨_, rfl, h.now R repInt⟩
  case h_9 =>
    obtain ⟨v, rfl, r1⟩ := RepDs.one r
    have r1 := r1.t; simp only [RepT] at r1; subst r1
    exact .inr ⟨_, rfl, h.now R repInt⟩
  case h_10 =>
    obtain ⟨v, u, rfl, r1, r2⟩ := RepDs.two r
    have r1 := r1.t; simp only [RepT] at r1; subst r1
    have r2 := r2.t; simp only [RepT] at r2; subst r2
    split at h
    · rename_i g
      refine ⟨_, _, rfl, g, fun p hp => ?_⟩
      obtain ⟨R2, s2⟩ := R.newU (o := .tup _) hp
      exact h _ _ _ _ s2 R2 (by
        show RepT G _ _ _
        simp only [RepT]
        exact ⟨p, _, rfl, upd_same, by simp only [RepTs, RepT]; exact ⟨_, _, rfl, rfl, _, _, rfl, rfl, rfl⟩⟩)
    · exact h.elim
  case h_11 => cases hb
  case h_12 => cases hb
  case h_13 =>
    obtain ⟨v, rfl, r1⟩ := RepDs.one r
    obtain ⟨d, e, h⟩ := OutG.opt h
    simp only [Option.bind_eq_some_iff] at e
    obtain ⟨d1, e1, e2⟩ := e
    split at e2 <;> cases e2
    rename_i g
    obtain ⟨D1, s1⟩ := datOf_Dp (K := K) R e1 r1
    exact ⟨v, d1, rfl, D1, g, s1, h.now R repStr⟩
  case h_14 => cases hb
  case h_15 => cases hb
  case h_16 => exact h.elim
/-- a call of a built-in function by its name -/
theorem sim_bi (hk : ArgOk G X.K) {x : Str} {b : Bi} (hc : X.calm = true) (hu : X.A.units + 128 < cLine) (hgd : X.A.guards = some []) (hb : b.std = true) (hg : Gl X x) (hm : X.mg x = none) (hv : bootBuiltins x = some b.fn)
    (ha : PA X (e :: es) (simA G P C W ms)) (hn : x ≠ "__name__") (hdb : (x == ("__debug__" : Str)) = false) (he : starEach (e :: es) X.env = (false, eval e X.env) :: starEach es X.env) (hpl : (backTo pos (starEach es X.env)).any (·.1) = false) :
    PE X (.Call (.Name x p) (e :: es) [] pos) (simE G P C W (.bi b ms)) := by
  have key : PE X (.Call (.Name x p) (e :: es) [] pos) (tCB (rBi X.K b) (simA G P C W ms)) := by
    have cr := cr_bi hc hu hgd b
    have two : (∃ id, b.fn = .builtin id) ∨ ∃ t, b.fn = .type t := by
      cases b <;> first | (exact .inl ⟨_, rfl⟩) | (exact .inr ⟨_, rfl⟩) | cases hb
    rcases two with ⟨id, e1⟩ | ⟨t, e1⟩
    · rw [e1] at cr hv
      exact pe_callB cr hg hm hv ha hn hdb he hpl
    · rw [e1] at cr hv
      exact pe_callTy cr hg hm hv ha hn hdb he hpl
  refine PE.imp key fun σ H Q ⟨ρ, S, U, τ, R, RE, O⟩ => ?_
  simp only [evE] at O
  exact many (rep := RepD G) (Qb := Q) R RE O fun xs S1 ρ1 U1 H1 vs R1 _ r1 _ h1 => bi_out hk R1 r1 h1 hb
theorem foldl_range (ns : List Int) : PyProof.Rows.firstMet (fun i => ns.getD i 0) ns.length = ns.foldl PyProof.Rows.step_dedup [] := by
  unfold PyProof.Rows.firstMet
  congr 1
  apply List.ext_getElem
  · simp
  · intro i h1 h2
    simp at h1
    simp [h1]
theorem firstMet_len (ns : List Int) : (ns.foldl PyProof.Rows.step_dedup []).length ≤ ns.length := by
  rw [← foldl_range]; exact PyProof.Rows.firstMet_length_le _ _
theorem sim_lenset (hc : X.calm = true) (hg : Gl X "len") (hm : X.mg "len" = none) (hg2 : Gl X "set") (hm2 : X.mg "set" = none) (ha : PE X a (simE G P C W ma)) (na : starEach [a] X.env = (false, eval a X.env) :: starEach [] X.env) :
    PE X (.Call (.Name "len" p) [.Call (.Name "set" p2) [a] [] q] [] pos) (simE G P C W (.bi .lenset [ma])) := by
  refine ⟨fun pins s σ H Q I ⟨ρ, S, U, τ, R, RE, O⟩ => ?_⟩
  simp only [evE, evEs] at O
  refine PyProof.Rows.Call_ (ld_blt I hg hm boot_len (PyProof.Rows.callWith_builtin1 (PyProof.Rows.args_cons ?_ rfl) rfl rfl))
  refine PyProof.Rows.Call_ (ld_blt I hg2 hm2 PyProof.Rows.boot_set (PyProof.Rows.callWith_type1 (PyProof.Rows.args_cons ?_ na) na rfl))
  have O2 : OutG G (RepD G) ρ U H ((evE P C ma τ S).bind fun x S1 => evBi .lenset [x] S1) Q fun c d H' => W c d σ H' := by
    cases e : evE P C ma τ S <;> rw [e] at O <;> exact O
  have sim : simE G P C W ma σ H fun v H1 => ∃ (l : Addr) (ns : List Int), v = .ref l ∧ H1 l = some (.lst (ns.map V.int)) ∧ ns.length < 4000 ∧ Q (.int (ns.foldl PyProof.Rows.step_dedup []).length) H1 :=
    ⟨ρ, S, U, τ, R, RE, O2.bind fun x S1 ρ1 U1 H1 v _ s1 R1 r1 h => by
      simp only [evBi] at h
      obtain ⟨d, e, h⟩ := OutG.opt h
      simp only [Option.bind_eq_some_iff] at e
      obtain ⟨ts, e1, ns, e2, e3⟩ := e
      split at e3 <;> cases e3
      rename_i g
      obtain ⟨l, ws, rfl, q1, q2⟩ := lstT_rep R1 e1 r1
      obtain rfl := intsT_rep e2 q2
      exact ⟨l, ns, rfl, q1, g, h.now R1 repInt⟩⟩
  refine thn (ha.run pins s σ H _ I sim) fun v s1 ⟨x, H1, I1, r1, l, ns, ex, hl, g, q1⟩ => PyProof.Rows.args_nil ?_
  subst ex
  cases r1
  obtain ⟨its, r, pl, hz⟩ := I1.list (SqL.of hl)
  have hlen : its.toArray.size = ns.length := by
    have := r.length
    simp at this ⊢
    omega
  refine PySem.call_set_list (I1.ok.hd hc) pl.isList (by simpa using RZ.intsAre_vals r) (by rw [hlen]; unfold scanBound; omega) fun h' tk hS hk => PyProof.Rows.args_nil ?_
  rw [hlen, foldl_range] at hS
  obtain ⟨o, es, ep, t, ho, hex, hd, _, _, _, hf, hn⟩ := hS
  have I2 : Inv X pins σ H1 { s1 with heap := h', toks := tk } := I1.kept fun b o e => hk b o (Heap.lt_size e) e
  have fl := firstMet_len ns
  exact PySem.call_len_set ho hex hd hf (by rw [hn] <;> omega) ⟨.int _, H1, I2.tok _, ⟨_, by rw [hn]⟩, q1⟩
theorem sim_bitlen {apos : Pos} (ho : PE X a (simE G P C W ma)) (hbase : attributeBase a "bit_length" X.env (eval a X.env) = eval a X.env) (hline : (apos.endLine == pos.line) = true) : PE X (.Call (.Attribute a "bit_length" apos) [] [] pos) (simE G P C W (.bi .bitlen [ma])) := by
  refine PE.imp (pe_bits ho hbase hline) fun σ H Q ⟨ρ, S, U, τ, R, RE, O⟩ => ?_
  simp only [evE, evEs] at O
  have O2 : OutG G (RepD G) ρ U H ((evE P C ma τ S).bind fun x S1 => evBi .bitlen [x] S1) Q fun c d H' => W c d σ H' := by
    cases e : evE P C ma τ S <;> rw [e] at O <;> exact O
  refine ⟨ρ, S, U, τ, R, RE, O2.bind fun x S1 ρ1 U1 H1 v _ s1 R1 r1 h => ?_⟩
  cases x with
  | loc n => exact h.elim
  | t x =>
    have r1 := r1.t
    cases x <;> first | exact h.elim | skip
    simp only [RepT] at r1
    exact ⟨_, r1, h.now R1 repInt⟩
end
end Ev
end

section
set_option Elab.async false
set_option linter.all false
namespace Ev
open PySem L2
section
variable {prog : Program} {w : World} {A : Around} {E : Value → Shared → Prop} {s : Shared}
/-- o[i] by the operator, whatever the text is -/
theorem tail_any {va sl : Expr} {o i : Value} {T' id : String} {Q : Value → Shared → Prop} (hT : s.TypeIs o T') (hl : typeLookup (.type T') "__getitem__" = pure (some (.builtin id)))
    (hs : subscripted sl false o i = operate [o, i] (getItem o i)) (h : wpAny (model prog w) A (getItem o i) Q E s) : wpAny (model prog w) A (PyProof.Rows.subscriptTail va sl o i) Q E s := by
  unfold PyProof.Rows.subscriptTail
  refine wpAny_bind ?_
  rw [getitemInPython_of_ne hT.not_modules]
  refine wpAny_bind (wpAny_specialOf hT hl ?_)
  have z : wpAny (model prog w) A (subscripted sl false o i) (fun r s3 => wpAny (model prog w) A (letTemporaryGo va o r >>= fun _ => pure r) Q E s3) E s := by
    rw [hs]
    exact wpAny_operating (thn h fun r s3 h3 => wpAny_bind (wpAny_letTemporaryGo (wpAny_pure h3)))
  first
    | exact wpAny_pure (wpAny_bind z)
    | exact wpAny_bind (wpAny_pure (wpAny_bind z))
end
section
variable {G : Glob} {P : Prg} {C : Calls} {W : WX} {X : Cx} {e a b c : Expr} {es : List Expr} {m ma mb mc : E} {ms : List E} {f : F} {pos p p2 q : Pos}
variable {ρ : List Addr} {S : Store} {U H : Hp} {τ : Env} {σ : St} {Q : VK} {E' : XK}
def rIxD : R2 := fun x y H Q => ∃ a v, x = .ref a ∧ DGet H a y (some v) ∧ Q v H
theorem ix_dict (hu : X.A.units + 1 < cLine) : IxR X rIxD := by
  intro value slice pins s σ H x y v u Q I rx ry h hs
  obtain ⟨a, v, rfl, g, q⟩ := h
  cases rx
  exact tail_any (dict_typeIs I g) PySem.F.slot_dict_getitem.lookup hs (d_getItem hu I g ry fun w' s3 I3 rw' => ⟨v, H, I3, rw', q⟩)
def rIxA (K : PySem.W.Frag) : R2 := fun x y H Q => rIxL K x y H Q ∨ rIxT K x y H Q ∨ rIxS x y H Q ∨ rIxD x y H Q
theorem ix_all (hu : X.A.units + 1 < cLine) : IxR X (rIxA X.K) := IxR.or ix_list (IxR.or ix_tup (IxR.or ix_str (ix_dict hu)))
theorem RepTs.atI : ∀ {ts : List T} {vs : List V}, RepTs G U ts vs → ∀ {i : Int} {t : T}, L2.atI ts i = some t → ∃ v, L2.atI vs i = some v ∧ RepT G U t v := by
  intro ts vs r i t h
  have get : ∀ {ts : List T} {vs : List V} {j : Nat} {t : T}, RepTs G U ts vs → ts[j]? = some t → ∃ v, vs[j]? = some v ∧ RepT G U t v := by
    intro ts
    induction ts with
    | nil => intro vs j t r h; simp at h
    | cons x ts ih =>
      intro vs j t r h
      simp only [RepTs] at r
      obtain ⟨v, ws, rfl, h1, h2⟩ := r
      cases j with
      | zero => simp at h; subst h; exact ⟨v, rfl, h1⟩
      | succ j => simp at h ⊢; exact ih h2 h
  unfold L2.atI at h ⊢
  rw [← r.len]
  simp only [Option.bind_eq_some_iff] at h ⊢
  obtain ⟨j, h1, h2⟩ := h
  obtain ⟨v, h3, h4⟩ := get r h2
  exact ⟨v, ⟨j, h1, h3⟩, h4⟩
theorem Paired.getR {α β : Type} {F : α → β → Prop} : ∀ {a : List α} {b : List β} {j : Nat} {t : α}, Paired F a b → a[j]? = some t → ∃ v, b[j]? = some v ∧ F t v
  | _, _, _, _, .nil, h => by simp at h
  | _, _, 0, _, .cons r t, h => by simp at h; subst h; exact ⟨_, rfl, r⟩
  | _, _, j + 1, _, .cons r t, h => by
    simp at h
    obtain ⟨v, h1, h2⟩ := Paired.getR t h
    exact ⟨v, by simpa using h1, h2⟩
theorem RepDs.atI {ds : List D} {vs : List V} (r : RepDs G ρ U ds vs) {i : Int} {t : D} (h : L2.atI ds i = some t) : ∃ v, L2.atI vs i = some v ∧ RepD G ρ U t v := by
  unfold L2.atI at h ⊢
  rw [← RepDs.len r]
  simp only [Option.bind_eq_some_iff] at h ⊢
  obtain ⟨j, h1, h2⟩ := h
  obtain ⟨v, h3, h4⟩ := Paired.getR r h2
  exact ⟨v, ⟨j, h1, h3⟩, h4⟩
theorem idx_out {K : PySem.W.Frag} (hk : ArgOk G K) {x y : D} {v u : V} (R : Rel G ρ S U H) (r1 : RepD G ρ U x v) (r2 : RepD G ρ U y u) (h : OutG G (RepD G) ρ U H (evIdx x y S) Q E') : rIxA K v u H Q := by
  unfold evIdx at h
  split at h
  · obtain ⟨d, e, h⟩ := OutG.opt h
    simp only [Option.map_eq_some_iff] at e
    obtain ⟨t, e, rfl⟩ := e
    have r1 := r1.t; simp only [RepT] at r1
    have r2 := r2.t; simp only [RepT] at r2; subst r2
    obtain ⟨a, vs, rfl, h1, h2⟩ := r1
    obtain ⟨z, e1, e2⟩ := h2.atI e
    exact .inl ⟨a, vs, _, z, rfl, rfl, SqL.of (R.sub _ _ h1), e1, h.now R e2⟩
  · obtain ⟨d, e, h⟩ := OutG.opt h
    simp only [Option.map_eq_some_iff] at e
    obtain ⟨t, e, rfl⟩ := e
    have r1 := r1.t; simp only [RepT] at r1
    have r2 := r2.t; simp only [RepT] at r2; subst r2
    obtain ⟨a, vs, rfl, h1, h2⟩ := r1
    obtain ⟨z, e1, e2⟩ := h2.atI e
    exact .inr (.inl ⟨a, vs, _, z, rfl, rfl, SqT.of (R.sub _ _ h1), e1, h.now R e2⟩)
  · obtain ⟨d, e, h⟩ := OutG.opt h
    simp only [Option.map_eq_some_iff] at e
    obtain ⟨t, e, rfl⟩ := e
    obtain ⟨a, rfl, q⟩ := arg_rep hk R r1.t
    have r2 := r2.t; simp only [RepT] at r2; subst r2
    refine .inl ⟨a, _, _, .int t, rfl, rfl, q, ?_, h.now R repInt⟩
    unfold L2.atI at e ⊢
    rw [List.length_map]
    simp only [Option.bind_eq_some_iff] at e ⊢
    obtain ⟨j, h1, h2⟩ := e
    exact ⟨j, h1, by rw [List.getElem?_map, h2]; rfl⟩
  · obtain ⟨d, e, h⟩ := OutG.opt h
    simp only [Option.bind_eq_some_iff, Option.map_eq_some_iff] at e
    obtain ⟨k, e1, t, e2, rfl⟩ := e
    have r1 := r1.t; simp only [RepT] at r1
    obtain ⟨a, vs, rfl, h1, h2⟩ := r1
    have r2 := toKey_rep e1 r2.t
    rcases h2.get k with ⟨z1, _⟩ | ⟨t', v', z1, z2, z3⟩
    · rw [z1] at e2; cases e2
    · rw [z1] at e2; cases e2
      exact .inr (.inr (.inr ⟨a, v', rfl, by rw [r2, ← z2]; exact DGet.k (R.sub _ _ h1), h.now R z3⟩))
  · split at h
    · rename_i l
      obtain ⟨d, e, h⟩ := OutG.opt h
      simp only [Option.map_eq_some_iff] at e
      obtain ⟨t, e, rfl⟩ := e
      have r1 := r1.t; simp only [RepT] at r1; subst r1
      have r2 := r2.t; simp only [RepT] at r2; subst r2
      exact .inr (.inr (.inl ⟨_, _, t, rfl, rfl, l, e, h.now R repStr⟩))
    · exact h.elim
  · rename_i n k
    obtain ⟨a, ha, rfl⟩ := r1
    split at h
    · rename_i ds hs
      obtain ⟨vs, h1, h2⟩ := R.cell n _ a hs ha
      split at h
      · obtain ⟨d, e, h⟩ := OutG.opt h
        have r2 := r2.t; simp only [RepT] at r2; subst r2
        obtain ⟨z, e1, e2⟩ := RepDs.atI h2 e
        exact .inl ⟨a, vs, _, z, rfl, rfl, SqL.of h1, e1, h.now R e2⟩
      · exact h.elim
    · rename_i kvs hs
      obtain ⟨vs, h1, h2⟩ := R.cell n _ a hs ha
      obtain ⟨d, e, h⟩ := OutG.opt h
      simp only [Option.bind_eq_some_iff] at e
      obtain ⟨kk, e1, e2⟩ := e
      have r2 := toKey_rep e1 r2.t
      rcases RepDK.get kk h2 with ⟨z1, _⟩ | ⟨t', v', z1, z2, z3⟩
      · rw [z1] at e2; cases e2
      · rw [z1] at e2; cases e2
        exact .inr (.inr (.inr ⟨a, v', rfl, by rw [r2, ← z2]; exact DGet.k h1, h.now R z3⟩))
    · exact h.elim
  · exact h.elim
theorem sim_idx (hk : ArgOk G X.K) (hu : X.A.units + 1 < cLine) (ha : PE X a (simE G P C W ma)) (hb : PE X b (simE G P C W mb)) (hs : PlainIx b) : PE X (.Subscript a b pos) (simE G P C W (.idx ma mb)) := by
  refine PE.imp (pe_ix (ix_all hu) ha hb hs) fun σ H Q ⟨ρ, S, U, τ, R, RE, O⟩ => ?_
  simp only [evE] at O
  exact two R RE O fun x y S2 ρ2 U2 H2 v u R2 _ r1 r2 h => idx_out hk R2 r1 r2 h
/-! ### fields -/
/-- the classes' facts -/
structure ClsOk (G : Glob) (K : PySem.W.Frag) (isF : Nat → Prop) : Prop where
  cls : ∀ c, Cls K (G.cls c)
  noat : ∀ c f, isF f → NoAttr K (G.cls c) (G.fld f)
  inj : ∀ f g, isF f → isF g → G.fld f = G.fld g → f = g
theorem sim_fldT {isF : Nat → Prop} : True := trivial
end
end Ev
end

section
set_option Elab.async false
set_option linter.all false
namespace Ev
open PySem L2
def tyv (G : Glob) : (String ⊕ Nat) → Value
  | .inl s => .type s
  | .inr c => .ref (G.cls c)
def clv (G : Glob) : Cl → Value
  | .ty n => .type n
  | .own c => .ref (G.cls c)
def clV (G : Glob) : Cl → V
  | .ty n => .ty n
  | .own c => .ref (G.cls c)
/-- an exception's class as a test -/
def xclv (G : Glob) : Cl → Value
  | .ty n => .type n
  | .own c => .ref (G.xc c)
def xclV (G : Glob) : Cl → V
  | .ty n => .ty n
  | .own c => .ref (G.xc c)
/-- what the top has left of classes and names -/
structure GOk (G : Glob) (K : PySem.W.Frag) (P : Prg) : Prop where
  arg : ArgOk G K
  cls : ∀ c, Cls K (G.cls c)
  noat : ∀ c f, f < G.nf → NoAttr K (G.cls c) (G.fld f)
  inj : ∀ f g, f < G.nf → g < G.nf → G.fld f = G.fld g → f = g
  isa : ∀ q c b, P.isa q c = some b → PySem.W.kitOne K (tyv G q) (clv G c) = some b
  ty : ∀ c, PySem.W.findIn K (.ref (G.cls c)) "__class__" = some (some (.builtin "object.__class__")) ∧ PySem.W.mroIn K (G.cls c) (.type "object") = some true
  tyo : PySem.W.specialIn K (.builtin "object.__class__") "__get__" = some (some (.builtin "getset_descriptor.__get__")) ∧ PySem.W.takesIn K (.builtin "object.__class__") = some true
  xisa : ∀ c k b, P.xisa c k = some b → ExcC K (G.xc c) ∧ PySem.W.kitOne K (.ref (G.xc c)) (xclv G k) = some b
  xmat : ∀ c d b, P.xmat c d = some b → PySem.W.exmOne K (.ref (G.xc c)) (.ref (G.xc d)) = some b
section
variable {G : Glob} {P : Prg} {C : Calls} {W : WX} {X : Cx} {e a b c : Expr} {es : List Expr} {m ma mb mc : E} {ms : List E} {f : F} {pos p p2 q : Pos}
variable {ρ : List Addr} {S : Store} {U H : Hp} {τ : Env} {σ : St} {Q : VK} {E' : XK} {K : PySem.W.Frag}
theorem RepTF.look (inj : ∀ f g, f < G.nf → g < G.nf → G.fld f = G.fld g → f = g) {f : Nat} : ∀ {fs : List (Nat × T)} {vs : List (Str × V)} {t : T}, RepTF G U fs vs → fs.lookup f = some t → f < G.nf ∧ ∃ v, vs.lookup (G.fld f) = some v ∧ RepT G U t v
  | [], vs, t, h, e => by simp at e
  | (g, x) :: r, vs, t, h, e => by
    simp only [RepTF] at h
    obtain ⟨v, ws, rfl, h0, h1, h2⟩ := h
    by_cases z : f = g
    · subst z
      simp [List.lookup] at e
      subst e
      exact ⟨h0, v, by simp [List.lookup], h1⟩
    · have z' : (f == g) = false := by simpa using z
      simp only [List.lookup, z'] at e
      obtain ⟨q0, w, q1, q2⟩ := RepTF.look inj h2 e
      have z2 : (G.fld f == G.fld g) = false := by
        simp only [beq_eq_false_iff_ne]
        exact fun q => z (inj _ _ q0 h0 q)
      exact ⟨q0, w, by simp only [List.lookup, z2]; exact q1, q2⟩
theorem RepDF.look (inj : ∀ f g, f < G.nf → g < G.nf → G.fld f = G.fld g → f = g) {f : Nat} : ∀ {fs : List (Nat × D)} {vs : List (Str × V)} {t : D}, RepDF G ρ U fs vs → fs.lookup f = some t → f < G.nf ∧ ∃ v, vs.lookup (G.fld f) = some v ∧ RepD G ρ U t v
  | [], vs, t, h, e => by simp at e
  | (g, x) :: r, vs, t, h, e => by
    cases h with
    | cons h1 h2 =>
      rename_i q ws
      obtain ⟨g', v⟩ := q
      obtain ⟨⟨e0, h0⟩, h1⟩ := h1
      simp only at e0 h0
      subst e0
      by_cases z : f = g
      · subst z
        simp [List.lookup] at e
        subst e
        exact ⟨h0, v, by simp [List.lookup], h1⟩
      · have z' : (f == g) = false := by simpa using z
        simp only [List.lookup, z'] at e
        obtain ⟨q0, w, q1, q2⟩ := RepDF.look inj h2 e
        have z2 : (G.fld f == G.fld g) = false := by
          simp only [beq_eq_false_iff_ne]
          exact fun q => z (inj _ _ q0 h0 q)
        exact ⟨q0, w, by simp only [List.lookup, z2]; exact q1, q2⟩
theorem fld_out (g : GOk G K P) {x : D} {f : Nat} {v : V} (R : Rel G ρ S U H) (r1 : RepD G ρ U x v) (h : OutG G (RepD G) ρ U H (evFld x f S) Q E') :
    ∃ a C dx fs v', v = .ref a ∧ H a = some (.ins C dx fs) ∧ Cls K C ∧ NoAttr K C (G.fld f) ∧ fs.lookup (G.fld f) = some v' ∧ Q v' H := by
  unfold evFld at h
  split at h
  · obtain ⟨d, e, h⟩ := OutG.opt h
    simp only [Option.map_eq_some_iff] at e
    obtain ⟨t, e, rfl⟩ := e
    have r1 := r1.t; simp only [RepT] at r1
    obtain ⟨a, dx, vs, rfl, h1, h2, h3⟩ := r1
    obtain ⟨q0, w, q1, q2⟩ := h3.look g.inj e
    exact ⟨a, _, dx, vs, w, rfl, R.sub _ _ h1, g.cls _, g.noat _ _ q0, q1, h.now R q2⟩
  · obtain ⟨a, ha, rfl⟩ := r1
    split at h
    · rename_i hs
      obtain ⟨dx, vs, h1, h2, h3⟩ := R.cell _ _ a hs ha
      obtain ⟨d, e, h⟩ := OutG.opt h
      obtain ⟨q0, w, q1, q2⟩ := RepDF.look g.inj h3 e
      exact ⟨a, _, dx, vs, w, rfl, h1, g.cls _, g.noat _ _ q0, q1, h.now R q2⟩
    · exact h.elim
  · exact h.elim
theorem sim_fld (g : GOk G X.K P) {f : Nat} (ha : PE X a (simE G P C W ma)) (hb : attributeBase a (G.fld f) X.env (eval a X.env) = eval a X.env) : PE X (.Attribute a (G.fld f) pos) (simE G P C W (.fld ma f)) := by
  refine PE.imp (pe_fld ha hb) fun σ H Q ⟨ρ, S, U, τ, R, RE, O⟩ => ?_
  simp only [evE] at O
  exact ⟨ρ, S, U, τ, R, RE, O.bind fun x S1 ρ1 U1 H1 v _ s1 R1 r1 h1 => fld_out g R1 r1 h1⟩
theorem sim_tup {k : Nat} (h : PA X es (simA G P C W ms)) : PE X (.Tuple es k pos) (simE G P C W (.tup ms)) := by
  refine PE.imp (pe_tup h) fun σ H Q ⟨ρ, S, U, τ, R, RE, O⟩ => ?_
  simp only [evE] at O
  refine many (rep := RepD G) (Qb := Q) R RE O fun xs S1 ρ1 U1 H1 vs R1 _ r1 _ h1 => ?_
  split at h1
  · rename_i l
    obtain ⟨d, e, h1⟩ := OutG.opt h1
    simp only [Option.map_eq_some_iff] at e
    obtain ⟨ts, e, rfl⟩ := e
    refine ⟨by rw [← RepDs.len r1]; exact l, fun p hp => ?_⟩
    obtain ⟨R2, s2⟩ := R1.newU (o := .tup vs) hp
    refine h1 _ _ _ _ s2 R2 ?_
    show RepT G _ _ _
    simp only [RepT]
    exact ⟨p, vs, rfl, upd_same, RepTs.mono s2.mono _ _ (allT_rep e r1)⟩
  · exact h1.elim
theorem sim_dnw : PE X (.Dict [] [] pos) (simE G P C W .dnw) := by
  refine PE.imp pe_dnewK fun σ H Q ⟨ρ, S, U, τ, R, RE, O⟩ => ?_
  simp only [evE] at O
  intro p hp
  obtain ⟨R2, s2⟩ := R.newC (o := .dK []) (c := .dic []) hp ⟨[], upd_same, .nil⟩
  refine O _ _ _ _ s2 R2 ⟨p, ?_, rfl⟩
  rw [← R.len]
  simp
theorem ty_rep (g : GOk G K P) (R : Rel G ρ S U H) {x : D} {q : String ⊕ Nat} {v : V} (h : tyD S x = some q) (r : RepD G ρ U x v) : TyX K H v (tyv G q) := by
  cases x with
  | t x =>
    have r := r.t
    cases x <;> simp only [tyD, tyT, Option.map_some, Option.map_none, Option.some.injEq] at h <;> simp only [RepT] at r <;> try (cases h; done)
    · subst h r; exact .base .non
    · subst h r; exact .base (.bl _)
    · subst h r; exact .base (.int _)
    · subst h r; exact .base (.str _)
    · obtain ⟨a, vs, rfl, h1, _⟩ := r; subst h; exact .base (.lst (R.sub _ _ h1))
    · obtain ⟨a, vs, rfl, h1, _⟩ := r; subst h; exact .base (.tup (R.sub _ _ h1))
    · obtain ⟨a, vs, rfl, h1, _⟩ := r; subst h; exact .base (.dK (R.sub _ _ h1))
    · obtain ⟨a, dx, vs, rfl, h1, _⟩ := r; subst h; exact .base (.ins (R.sub _ _ h1) (g.cls _) (g.ty _).1 g.tyo.1 g.tyo.2 (g.ty _).2)
  | loc n =>
    obtain ⟨a, ha, rfl⟩ := r
    simp only [tyD] at h
    cases e : S[n]? with
    | none => rw [e] at h; simp at h
    | some c =>
      have cr := R.cell n c a e ha
      rw [e] at h
      cases c <;> simp only [Option.some.injEq] at h <;> try (cases h; done)
      · subst h; obtain ⟨vs, h1, _⟩ := cr; exact .base (.lst h1)
      · subst h; obtain ⟨vs, h1, _⟩ := cr; exact .base (.dK h1)
      · subst h; obtain ⟨dx, vs, h1, _⟩ := cr; exact .base (.ins h1 (g.cls _) (g.ty _).1 g.tyo.1 g.tyo.2 (g.ty _).2)
theorem clv_ok (c : Cl) : ClsV (clV G c) (clv G c) := by
  cases c with
  | ty n => exact .ty n
  | own n => exact .own _
theorem kit_any (g : GOk G K P) {q : String ⊕ Nat} : ∀ {cs : List Cl} {b : Bool}, isAny P.isa q cs = some b → PySem.W.kitAny K (tyv G q) (cs.map (clv G)) = some b
  | [], b, h => by simp [isAny] at h; subst h; exact kitAny_nil
  | c :: r, b, h => by
    simp only [isAny] at h
    split at h
    · rename_i b1 d1 e1 e2
      cases h
      refine kitAny_cons (g.isa _ _ _ e1) (fun z => ?_) (fun z => by rw [z]; rfl)
      rw [z, Bool.false_or]
      exact kit_any g e2
    · cases h
/-- isinstance(x, C) -/
theorem sim_isi (g : GOk G X.K P) {cl : Cl} {x : Str} (hx : x = "isinstance") (hg : Gl X x) (hm : X.mg x = none) (ha : PE X a (simE G P C W ma)) (hb : PE X b (tC (clV G cl)))
    (n1 : starEach [a, b] X.env = (false, eval a X.env) :: starEach [b] X.env) (n2 : starEach [b] X.env = (false, eval b X.env) :: starEach [] X.env) (hpl : (backTo pos (starEach [b] X.env)).any (·.1) = false) :
    PE X (.Call (.Name x p) [a, b] [] pos) (simE G P C W (.isi ma [cl])) := by
  subst hx
  refine PE.imp (pe_callB call_isi hg hm PyProof.Rows.boot_isinstance (pa_cons ha (pa_cons hb pa_nil n2) n1) (by decide) (by decide) n1 hpl) fun σ H Q ⟨ρ, S, U, τ, R, RE, O⟩ => ?_
  simp only [evE] at O
  refine ⟨ρ, S, U, τ, R, RE, O.bind fun x S1 ρ1 U1 H1 v _ s1 R1 r1 h1 => ?_⟩
  obtain ⟨d, e, h1⟩ := OutG.opt h1
  simp only [Option.bind_eq_some_iff, Option.map_eq_some_iff] at e
  obtain ⟨q, e1, k, e2, rfl⟩ := e
  simp only [isAny] at e2
  split at e2 <;> cases e2
  rename_i b1 d1 e3 e4
  cases e4
  exact ⟨v, clV G cl, _, _, b1, rfl, clv_ok cl, ty_rep g R1 e1 r1, g.isa _ _ _ e3, by simpa using h1.now R1 repBl⟩
end
end Ev
end

section
set_option Elab.async false
set_option linter.all false
namespace Ev
open PySem PySem.Spec PyProof.Rows L2
/-- a def keeps its promise where nothing guards a repr -/
structure FnG (P : Program) (w : World) (K : PySem.W.Frag) (mg : Str → Option Value) (base : Heap) (k : Nat) (f : Addr) (fd : FuncData) (ps : List Str) (sp : Sp) : Prop where
  len : ∀ vs H Q E, sp vs H Q E → vs.length = ps.length
  run : ∀ (A : Around) (outer : List PySem.Env) (s : Shared) (H : Hp) (args : Args) (us : List Value) (vs : List V) (Q : VK) (E : XK), Room k A → A.guards = some [] →
    Env0 P w K mg base A outer s H → BindsTo s fd args (ps.zip us) → Vals vs us → sp vs H Q E → codeAny (model P w) A (.call (.ref f) args) (CR (CX P w) outer P w H s Q E) s
theorem FnG.mono {P : Program} {w : World} {K : PySem.W.Frag} {mg : Str → Option Value} {base : Heap} {j k : Nat} {f : Addr} {fd : FuncData} {ps : List Str} {sp : Sp} (F : FnG P w K mg base j f fd ps sp) (h : j ≤ k) : FnG P w K mg base k f fd ps sp :=
  ⟨F.len, fun A o s H a us vs Q E r => F.run A o s H a us vs Q E (r.mono h)⟩
/-- by its body -/
theorem fnG_of {P : Program} {w : World} {K : PySem.W.Frag} {mg : Str → Option Value} {base : Heap} {k : Nat} {f : Addr} {x qual : Str} {params : Arguments} {body : List Stmt} {sc : Scope} {dvs : List V} {kws : List (Str × V)} {fd : FuncData} {N ps : List Str} {sp : Sp}
    (F : FunD K x qual params body sc dvs kws f fd) (S : FnScope N ps sc) (len : ∀ vs H Q E, sp vs H Q E → vs.length = ps.length)
    (hb : ∀ (cdv : Value) (A : Around) (outer : List PySem.Env) (s : Shared) (H : Hp) (vs : List V) (Q : VK) (E : XK), Room k (A.deeper (envOfC qual sc s.heap.objs.size f cdv)) → (A.deeper (envOfC qual sc s.heap.objs.size f cdv)).guards = some [] → sp vs H Q E →
      ∃ t, PSs (cxOf (CX P w) P w K mg base N qual sc f cdv A outer s H E) body t ∧ t { nx := fun _ H' => Q .non H', rt := Q } (start N vs) H) :
    FnG P w K mg base (k + 1) f fd ps sp := by
  obtain ⟨⟨oc, od, dV, kV, doc, pm, an, cdv, ct, osl, rfl, lk, hcd, _, _⟩, _⟩ := F
  refine ⟨len, fun A outer s H args us vs Q E hr gd e0 bt r hsp => ?_⟩
  have KX : K.In s.heap := e0.mod.kin.keeps fun b o e => (e0.bs b o e).1
  have lim : s.heap.NoLimit := e0.mod.nolimit.keeps fun b o e => (e0.bs b o e).1
  have kinds : ∀ y ∈ ps.zip us, sc.names.lookup y.1 = some .local ∨ (sc.names.lookup y.1 = some .cell ∧ ((cellsFrom (s.heap.objs.size + 1) sc.names []).lookup y.1).isSome = true) := by
    rintro ⟨n, v⟩ hy
    exact (S.par n (List.of_mem_zip hy).1).imp id fun q => ⟨q, PySem.W.cellsFrom_some _ _ _ (.inl q)⟩
  refine codeAny_call_function hr.depth (KX _ _ lk) rfl S.co S.gen rfl (PySem.W.codeRec_of KX hcd) (bt _ _ _ _ (wpAny_newFunctionEnv_cells S.kind kinds fun env he s1 x => ?_))
  subst he
  obtain ⟨t, ht, hq⟩ := hb cdv A outer s H vs Q E (hr.deeper _) gd hsp
  have I := inv_start (CX := CX P w) (mg := mg) (E := E) S hr.hd e0 (len _ _ _ _ hsp) r x
  refine ⟨lim.keeps x.toInCall.keep, codeAny_func (wpAny_mono (ht.run [] s1 (start N vs) H _ I hq) (fun fl s' hs => ?_) fun e s' hs => hs)⟩
  cases fl with
  | ret u =>
    obtain ⟨v, σ', H', J, rv, q⟩ := hs
    exact ⟨v, H', J.os, J.bare, J.base, J.hok, rv, q⟩
  | next =>
    obtain ⟨σ', H', J, q⟩ := hs
    exact ⟨.non, H', J.os, J.bare, J.base, J.hok, rfl, q⟩
  | brk => exact hs.elim fun _ z => z.elim fun _ z => z.2.elim
  | cont => exact hs.elim fun _ z => z.elim fun _ z => z.2.elim
section
variable {X : Cx} {pins : List (Addr × Obj)} {σ : L2.St} {H : Hp} {s : Shared} {Q : VK} {us ds : List Value} {vs dvs : List V} {k : Nat} {f : Addr} {fd : FuncData} {ps : List Str} {sp : Sp} {E : XK} {W : WX}
/-- such a def called with values; what it raises is taken -/
theorem run_fnG (F : FnG X.prog X.w X.K X.mg X.base k f fd ps sp) (hr : Room k X.A) (gd : X.A.guards = some []) (tk : Takes X W) (hW : ∀ c d H', E c d H' → W c d σ H')
    {args : Args} (I : Inv X pins σ H s) (hb : BindsTo s fd args (ps.zip us)) (r : Vals vs us) (h : sp vs H Q E) : codeAny (model X.prog X.w) X.A (.call (.ref f) args) (fun r s' => match r with
      | .ok (.ret u) => EP X pins σ Q u s'
      | .ok _ => False
      | .error e => X.xe e s') s := by
  refine codeAny_mono (F.run X.A X.stack s H args us vs Q E hr gd I.env0 hb r h) fun r s' q => ?_
  cases r with
  | error e => exact tk _ _ (XE.of_call I hW q)
  | ok fl =>
    cases fl with
    | ret u => exact I.after q
    | next => exact q
    | brk => exact q
    | cont => exact q
theorem call_fnG (F : FnG X.prog X.w X.K X.mg X.base k f fd ps sp) (hr : Room k X.A) (gd : X.A.guards = some []) (tk : Takes X W) (hW : ∀ c d H', E c d H' → W c d σ H')
    (hb : Binds X.K fd ps ds) (hd : Vals dvs ds) (I : Inv X pins σ H s) (r : Vals vs us) (h : sp (vs ++ dvs) H Q E) : wpAny (model X.prog X.w) X.A (call (.ref f) us) (EP X pins σ Q) X.xe s := by
  have r2 : Vals (vs ++ dvs) (us ++ ds) := r.append hd
  refine wpAny_call (codeAny_mono (run_fnG F hr gd tk hW I (hb s us I.kIn (by rw [← r2.length]; exact F.len _ _ _ _ h)) r2 h) fun r s' q => ?_)
  cases r with
  | error e => exact q
  | ok fl => cases fl <;> exact q
/-- C(..) by such an __init__ -/
theorem make_fnG {C : Addr} (M : Mk X.K C f) (F : FnG X.prog X.w X.K X.mg X.base k f fd ps sp) (hr : Room (k + 1) X.A) (gd : X.A.guards = some []) (tk : Takes X W) (hW : ∀ c d H', E c d H' → W c d σ H')
    (hb : Binds X.K fd ps ds) (hd : Vals dvs ds) (I : Inv X pins σ H s) (r : Vals vs us)
    (h : ∀ x dx, H x = none → H dx = none → dx ≠ x → sp (.ref x :: (vs ++ dvs)) (upd (upd H dx (.own x)) x (.ins C dx [])) (fun v H2 => v = .non ∧ Q (.ref x) H2) E) : wpAny (model X.prog X.w) X.A (call (.ref C) us) (EP X pins σ Q) X.xe s := by
  have I2 := Inv.made (C := C) I
  have z := h (s.heap.objs.size + 1) s.heap.objs.size (I.hok.fresh (Nat.le_succ _)) (I.hok.fresh (Nat.le_refl _)) (Nat.ne_of_lt (Nat.lt_succ_self _))
  have r2 : Vals (V.ref (s.heap.objs.size + 1) :: (vs ++ dvs)) (Value.ref (s.heap.objs.size + 1) :: (us ++ ds)) := .cons rfl (r.append hd)
  have hl : (Value.ref (s.heap.objs.size + 1) :: us ++ ds).length = ps.length := (F.len _ _ _ _ z ▸ r2.length).symm
  refine wpAny_call (make_map (f := f) I.kIn M.makes M.init (beq_iff_eq.mp M.fn) (codeAny_mono (F.run _ X.stack _ _ ⟨Value.ref (s.heap.objs.size + 1) :: us, []⟩ (Value.ref (s.heap.objs.size + 1) :: (us ++ ds)) _ _ E (hr.make C us []) gd
    (I2.env0.make C us []) (hb _ (Value.ref (s.heap.objs.size + 1) :: us) I2.kIn hl) r2 z) fun r s' q => ?_))
  cases r with
  | error e => exact tk _ _ (XE.of_call I2 hW q)
  | ok fl =>
    cases fl with
    | ret u =>
      obtain ⟨v, H', I3, rv, ev, q3⟩ := I2.after q
      subst ev
      exact ⟨rv, V.ref (s.heap.objs.size + 1), H', I3, rfl, q3⟩
    | next => exact q
    | brk => exact q
    | cont => exact q
end
end Ev
end

section
set_option Elab.async false
set_option linter.all false
namespace Ev
open PySem L2
section
variable {G : Glob} {ρ ρ' : List Addr} {S S' : Store} {U U' H H' : Hp} {Q : VK} {E' : XK}
theorem RepD.back (hp : ρ <+: ρ') {d : D} {v : V} (h : RepD G ρ' U d v) (hb : ∀ n, d = .loc n → n < ρ.length) : RepD G ρ U d v := by
  cases d with
  | t x => exact h
  | loc n =>
    obtain ⟨a, e, r⟩ := h
    obtain ⟨q, rfl⟩ := hp
    rw [List.getElem?_append_left (hb n rfl)] at e
    exact ⟨a, e, r⟩
theorem Paired.mapM {α β : Type} {F F' : α → β → Prop} : ∀ {a : List α} {b : List β}, Paired F a b → (∀ x y, x ∈ a → F x y → F' x y) → Paired F' a b
  | _, _, .nil, _ => .nil
  | _, _, .cons r t, h => .cons (h _ _ List.mem_cons_self r) (Paired.mapM t fun x y m z => h x y (List.mem_cons_of_mem _ m) z)
theorem CellRep.back (hp : ρ <+: ρ') {a : Addr} {c : Cell} (h : CellRep G ρ' U H a c) (hb : c.below ρ.length) : CellRep G ρ U H a c := by
  cases c with
  | dead => trivial
  | lst ds =>
    obtain ⟨vs, h1, h2⟩ := h
    exact ⟨vs, h1, Paired.mapM h2 fun x y m z => z.back hp fun n e => hb n (e ▸ m)⟩
  | dic ds =>
    obtain ⟨vs, h1, h2⟩ := h
    exact ⟨vs, h1, Paired.mapM h2 fun x y m z => ⟨z.1, z.2.back hp fun n e => hb x.1 n (by rw [← e]; exact m)⟩⟩
  | ins c ds =>
    obtain ⟨dx, vs, h1, h3, h2⟩ := h
    exact ⟨dx, vs, h1, h3, Paired.mapM h2 fun x y m z => ⟨z.1, z.2.back hp fun n e => hb x.1 n (by rw [← e]; exact m)⟩⟩
theorem RepD.lt {n : Nat} {v : V} (h : RepD G ρ U (.loc n) v) : n < ρ.length := by
  obtain ⟨a, e, _⟩ := h
  exact (List.getElem?_eq_some_iff.mp e).1
theorem Paired.memL {α β : Type} {F : α → β → Prop} : ∀ {a : List α} {b : List β} {x : α}, Paired F a b → x ∈ a → ∃ y, F x y
  | _, _, _, .nil, h => by cases h
  | _, _, _, .cons r t, h => by
    rcases List.mem_cons.mp h with rfl | h
    · exact ⟨_, r⟩
    · exact Paired.memL t h
theorem Rel.below (R : Rel G ρ S U H) {n : Nat} {c : Cell} (h : S[n]? = some c) : c.below ρ.length := by
  obtain ⟨a, _, r⟩ := R.at_ h
  cases c with
  | dead => trivial
  | lst ds =>
    obtain ⟨vs, _, h2⟩ := r
    intro k m
    obtain ⟨y, q⟩ := Paired.memL h2 m
    exact q.lt
  | dic ds =>
    obtain ⟨vs, _, h2⟩ := r
    intro j k m
    obtain ⟨y, q⟩ := Paired.memL h2 m
    exact RepD.lt q.2
  | ins c ds =>
    obtain ⟨dx, vs, _, _, h2⟩ := r
    intro j k m
    obtain ⟨y, q⟩ := Paired.memL h2 m
    exact RepD.lt q.2
/-- behind a call, its own cells forgotten -/
theorem Rel.back (R : Rel G ρ S U H) (s : Step ρ U H ρ' U' H') (R' : Rel G ρ' S' U' H') (k : Keeps S S') : Rel G ρ (S'.take S.length) U' H' ∧ Step ρ U H ρ U' H' := by
  refine ⟨?_, List.prefix_refl _, s.mono, s.keep, fun _ h n => absurd h n, s.fru⟩
  rw [← R.len]
  refine R'.take s.pre fun n c l h a ha => ?_
  have z := R'.cell n c a h ha
  refine z.back s.pre ?_
  rcases k.2 n c (by rw [← R.len]; exact l) h with q | q
  · exact R.below q
  · rw [R.len]; exact q
/-- what the callee made, frozen -/
noncomputable def frzU (ρ ρ' : List Addr) (U' H' : Hp) : Hp := fun a => if a ∈ ρ' ∧ a ∉ ρ then H' a else U' a
theorem frzU_sub (R' : Rel G ρ' S' U' H') : Sub U' (frzU ρ ρ' U' H') := fun a o h => by
  unfold frzU
  split
  · exact R'.sub a o h
  · exact h
theorem frzU_new {n : Nat} {a : Addr} (R' : Rel G ρ' S' U' H') (hp : ρ <+: ρ') (ha : ρ'[n]? = some a) (hn : ρ.length ≤ n) : frzU ρ ρ' U' H' a = H' a := by
  unfold frzU
  rw [if_pos]
  refine ⟨mem_of_get ha, fun m => ?_⟩
  obtain ⟨q, rfl⟩ := hp
  obtain ⟨j, l, e⟩ := List.getElem_of_mem m
  have e2 : (ρ ++ q)[j]? = some a := by rw [List.getElem?_append_left l]; rw [List.getElem?_eq_getElem l, e]
  obtain ⟨l1, e1⟩ := List.getElem?_eq_some_iff.mp ha
  obtain ⟨l2, e2⟩ := List.getElem?_eq_some_iff.mp e2
  have := (List.getElem_inj R'.nd).mp (e1.trans e2.symm)
  omega
theorem rdF_rep (R' : Rel G ρ' S' U' H') (hp : ρ <+: ρ') {L : Nat} (hL : L = ρ.length) : ∀ (k : Nat) (d : D) (t : T) (v : V), rdF L S' k d = some t → RepD G ρ' U' d v → RepT G (frzU ρ ρ' U' H') t v
  | k, .t x, t, v, h, r => by
    have e : rdF L S' k (.t x) = some x := by cases k <;> rfl
    rw [e] at h; cases h
    exact RepT.mono (frzU_sub R') _ _ r
  | 0, .loc n, t, v, h, r => by simp [rdF] at h
  | k + 1, .loc n, t, v, h, r => by
    obtain ⟨a, ha, rfl⟩ := r
    simp only [rdF] at h
    split at h
    · cases h
    · rename_i hn
      have fr := frzU_new R' hp ha (by omega : ρ.length ≤ n)
      cases e : S'[n]? with
      | none => rw [e] at h; simp at h
      | some c =>
        have cr := R'.cell n c a e ha
        rw [e] at h
        cases c with
        | dead => simp at h
        | lst ds =>
          simp only [Option.map_eq_some_iff] at h
          obtain ⟨ts, h1, rfl⟩ := h
          obtain ⟨vs, h2, h3⟩ := cr
          simp only [RepT]
          exact ⟨a, vs, rfl, fr.trans h2, mapM_rep (fun d t v q z => rdF_rep R' hp hL k d t v q z) h1 h3⟩
        | dic ds =>
          simp only [Option.map_eq_some_iff] at h
          obtain ⟨ts, h1, rfl⟩ := h
          obtain ⟨vs, h2, h3⟩ := cr
          simp only [RepT]
          exact ⟨a, vs, rfl, fr.trans h2, mapMK_rep (fun d t v q z => rdF_rep R' hp hL k d t v q z) h1 h3⟩
        | ins c ds =>
          simp only [Option.map_eq_some_iff] at h
          obtain ⟨ts, h1, rfl⟩ := h
          obtain ⟨dx, vs, h2, h4, h3⟩ := cr
          simp only [RepT]
          exact ⟨a, dx, vs, rfl, fr.trans h2, frzU_sub R' _ _ h4, mapMF_rep (fun d t v q z => rdF_rep R' hp hL k d t v q z) h1 h3⟩
theorem frzU_rel (R : Rel G ρ S U H) (s : Step ρ U H ρ' U' H') (R' : Rel G ρ' S' U' H') (k : Keeps S S') : Rel G ρ (S'.take S.length) (frzU ρ ρ' U' H') H' ∧ Step ρ U H ρ (frzU ρ ρ' U' H') H' := by
  obtain ⟨R2, s2⟩ := R.back s R' k
  have su := frzU_sub (ρ := ρ) R'
  refine ⟨⟨R2.len, R2.nd, fun n c a h1 h2 => (R2.cell n c a h1 h2).mono (List.prefix_refl _) su rfl, fun a o h => ?_, fun n c a h1 h2 h3 => ?_, R2.thr⟩, List.prefix_refl _, fun a o h => su _ _ (s.mono a o h), s.keep, fun _ h n => absurd h n, fun a h n => ?_⟩
  · unfold frzU at h
    split at h
    · exact h
    · exact R'.sub a o h
  · unfold frzU
    rw [if_neg fun z => z.2 (mem_of_get h2)]
    exact R2.dis n c a h1 h2 h3
  · unfold frzU at n
    split at n
    · rename_i z
      exact .inl (s.frr a z.1 z.2)
    · exact s.fru a h n
theorem fin_out {m : Md} {r : R D} (R : Rel G ρ S U H) (h : OutG G (RepD G) ρ U H (fin m S r) Q E') : OutG G (RepD G) ρ U H r Q E' := by
  cases r with
  | bad => cases m <;> exact h
  | exc e S' =>
    cases m with
    | raw => exact h
    | fz =>
      simp only [fin] at h
      split at h
      · rename_i k
        intro ρ' U' H' c dx s R' x
        obtain ⟨R2, s2⟩ := R.back s R' k
        exact h _ _ _ _ _ s2 R2 x
      · exact h.elim
    | nw =>
      simp only [fin] at h
      split at h
      · rename_i k
        intro ρ' U' H' c dx s R' x
        obtain ⟨R2, s2⟩ := R.back s R' k
        exact h _ _ _ _ _ s2 R2 x
      · exact h.elim
  | ok d S' =>
    cases m with
    | raw => exact h
    | fz =>
      simp only [fin] at h
      split at h
      · rename_i k
        intro ρ' U' H' v s R' x
        cases d with
        | t y =>
          obtain ⟨R2, s2⟩ := R.back s R' k
          exact h _ _ _ _ s2 R2 x
        | loc n =>
          simp only at h
          split at h
          · rename_i l
            obtain ⟨R2, s2⟩ := R.back s R' k
            exact h _ _ _ _ s2 R2 (x.back s.pre fun j e => by cases e; rw [R.len]; exact l)
          · obtain ⟨z, e, h⟩ := OutG.opt h
            simp only [Option.map_eq_some_iff] at e
            obtain ⟨t, e, rfl⟩ := e
            obtain ⟨R2, s2⟩ := frzU_rel R s R' k
            exact h _ _ _ _ s2 R2 (rdF_rep R' s.pre R.len.symm _ _ _ _ e x)
      · exact h.elim
    | nw =>
      simp only [fin] at h
      split at h
      · rename_i k
        intro ρ' U' H' v s R' x
        cases d with
        | t y => exact h.elim
        | loc n =>
          simp only at h
          split at h
          · rename_i l
            obtain ⟨R2, s2⟩ := R.back s R' k
            exact h _ _ _ _ s2 R2 (x.back s.pre fun j e => by cases e; rw [R.len]; exact l)
          · rename_i l
            obtain ⟨R2, s2⟩ := R.back s R' k
            obtain ⟨a, ha, rfl⟩ := x
            have nr : a ∉ ρ := fun m => by
              obtain ⟨q, rfl⟩ := s.pre
              obtain ⟨j, l', e⟩ := List.getElem_of_mem m
              have e2 : (ρ ++ q)[j]? = some a := by rw [List.getElem?_append_left l', List.getElem?_eq_getElem l', e]
              obtain ⟨l1, e1⟩ := List.getElem?_eq_some_iff.mp ha
              obtain ⟨l2, e2⟩ := List.getElem?_eq_some_iff.mp e2
              have := (List.getElem_inj R'.nd).mp (e1.trans e2.symm)
              have := R.len
              omega
            have fin : ∀ c : Cell, live c → S'[n]? = some c → CellRep G (ρ ++ [a]) U' H' a c → Rel G (ρ ++ [a]) (S'.take S.length ++ [c]) U' H' ∧ Step ρ U H (ρ ++ [a]) U' H' := fun c lc hc cr => by
              refine ⟨⟨by simp [← R2.len], ?_, fun j d b h1 h2 => ?_, R2.sub, fun j d b h1 h2 h3 => ?_, fun b hb => ?_⟩, List.prefix_append _ _, s2.mono, s2.keep, fun b hb n2 => ?_, s2.fru⟩
              · rw [List.nodup_append]
                exact ⟨R2.nd, by simp, fun x hx y hy => by simp at hy; subst hy; exact fun e => nr (e ▸ hx)⟩
              · rcases get_snoc h1 with ⟨h1, l1⟩ | ⟨e1, rfl⟩
                · rcases get_snoc h2 with ⟨h2, _⟩ | ⟨e2, rfl⟩
                  · exact (R2.cell j d b h1 h2).mono (List.prefix_append _ _) (fun _ _ h => h) rfl
                  · have := R2.len; omega
                · rcases get_snoc h2 with ⟨h2, l2⟩ | ⟨e2, rfl⟩
                  · have := R2.len; omega
                  · exact cr
              · rcases get_snoc h1 with ⟨h1, l1⟩ | ⟨e1, rfl⟩
                · rcases get_snoc h2 with ⟨h2, _⟩ | ⟨e2, rfl⟩
                  · exact R2.dis j d b h1 h2 h3
                  · have := R2.len; omega
                · rcases get_snoc h2 with ⟨h2, l2⟩ | ⟨e2, rfl⟩
                  · have := R2.len; omega
                  · exact R'.dis n _ _ hc ha h3
              · rcases List.mem_append.mp hb with hb | hb
                · exact R2.thr b hb
                · simp at hb; subst hb; exact R'.thr _ (mem_of_get ha)
              · rcases List.mem_append.mp hb with hb | hb
                · exact absurd hb n2
                · simp at hb; subst hb; exact s.frr _ (mem_of_get ha) n2
            have loc : RepD G (ρ ++ [a]) U' (.loc S.length) (.ref a) := ⟨a, by rw [← R.len]; simp, rfl⟩
            split at h
            · rename_i ds hc
              split at h
              · rename_i ts e
                obtain ⟨vs, h1, h2⟩ := R'.cell n _ a hc ha
                have cr : CellRep G (ρ ++ [a]) U' H' a (.lst ds) := ⟨vs, h1, by rw [allT_map e]; exact RepDs.ofT (allT_rep e h2)⟩
                obtain ⟨R3, s3⟩ := fin (.lst ds) trivial hc cr
                rw [allT_map e] at R3
                exact h _ _ _ _ s3 R3 loc
              · exact h.elim
            · rename_i ds hc
              split at h
              · rename_i ts e
                obtain ⟨vs, h1, h2⟩ := R'.cell n _ a hc ha
                have em : ds = ts.map fun p => (p.1, D.t p.2) := by
                  clear h h2 R' s2 fin hc
                  induction ds generalizing ts with
                  | nil => simp [allTK] at e; subst e; rfl
                  | cons p ds ih =>
                    obtain ⟨k, d⟩ := p
                    cases d with
                    | loc _ => simp [allTK] at e
                    | t x =>
                      simp only [allTK, Option.map_eq_some_iff] at e
                      obtain ⟨ts', e1, rfl⟩ := e
                      simp [← ih _ e1]
                have cr : CellRep G (ρ ++ [a]) U' H' a (.dic ds) := ⟨vs, h1, by
                  rw [em] at h2 ⊢
                  exact Paired.mapM h2 fun x y m z => ⟨z.1, by
                    simp only [List.mem_map] at m
                    obtain ⟨q, _, rfl⟩ := m
                    exact z.2⟩⟩
                obtain ⟨R3, s3⟩ := fin (.dic ds) trivial hc cr
                rw [em] at R3
                exact h _ _ _ _ s3 R3 loc
              · exact h.elim
            · exact h.elim
      · exact h.elim
end
end Ev
end

section
set_option Elab.async false
set_option linter.all false
namespace Ev
open PySem L2
/-- a def does what C tells -/
def specF (G : Glob) (C : Calls) (f n : Nat) : Sp := fun vs H Q E => ∃ ρ S U ds, Rel G ρ S U H ∧ RepDs G ρ U ds vs ∧ ds.length = n ∧ OutG G (RepD G) ρ U H (C f ds S) Q E
/-- the def f can be called with n values, keywords ks, the defaults df behind -/
def CallOk (G : Glob) (C : Calls) (X : Cx) (f n : Nat) (ks : List Str) (df : List T) : Prop := ∃ (k : Nat) (fd : FuncData) (ps : List Str) (dvs : List V) (ds : List Value),
  FnG X.prog X.w X.K X.mg X.base k (G.fn f) fd ps (specF G C f ps.length) ∧ Room (k + 1) X.A ∧ Vals dvs ds ∧ (∀ U, RepTs G U df dvs) ∧ ps.length = n + ks.length + df.length ∧
  ∀ (s : Shared) (us ws : List Value), X.K.In s.heap → us.length = n → ws.length = ks.length → BindsTo s fd ⟨us, ks.zip ws⟩ (ps.zip (us ++ ws ++ ds))
theorem evEs_len {P : Prg} {C : Calls} {τ : Env} : ∀ {ms : List E} {S : Store} {ds : List D} {S' : Store}, evEs P C ms τ S = .ok ds S' → ds.length = ms.length
  | [], S, ds, S', h => by simp only [evEs] at h; cases h; rfl
  | m :: ms, S, ds, S', h => by
    simp only [evEs] at h
    obtain ⟨d, S1, h1, h⟩ := bind_ok h
    obtain ⟨ds', S2, h2, h⟩ := bind_ok h
    cases h
    simp [evEs_len h2]
section
variable {G : Glob} {P : Prg} {C : Calls} {W : WX} {X : Cx} {e a b c : Expr} {es args : List Expr} {kws : List Keyword} {m ma mb mc mo : E} {ms mk : List E} {f : F} {pos p p2 q : Pos}
variable {ρ : List Addr} {S : Store} {U H : Hp} {τ : Env} {σ : St} {Q : VK} {E' : XK} {md : Md} {fi n : Nat} {ks : List Str} {df : List T}
theorem RepDs.app {ds es : List D} {vs us : List V} (h : RepDs G ρ U ds vs) (g : RepDs G ρ U es us) : RepDs G ρ U (ds ++ es) (vs ++ us) := Paired.app h g
theorem Vals.app {vs us : List V} {a b : List Value} (h : Vals vs a) (g : Vals us b) : Vals (vs ++ us) (a ++ b) := h.append g
/-- the call itself -/
theorem run_spec {pins : List (Addr × Obj)} {s : Shared} {ds : List D} {vs zs : List V} {us ws : List Value} (ok : CallOk G C X fi n ks df) (gd : X.A.guards = some []) (tk : Takes X W) (I : Inv X pins σ H s)
    (R : Rel G ρ S U H) (r : Vals vs us) (rz : Vals zs ws) (l1 : us.length = n) (l2 : ws.length = ks.length) (rd : RepDs G ρ U ds (vs ++ zs))
    (O : OutG G (RepD G) ρ U H (C fi (ds ++ df.map .t) S) Q fun c d H' => W c d σ H') : wpAny (model X.prog X.w) X.A (call (.ref (G.fn fi)) us (ks.zip ws)) (EP X pins σ Q) X.xe s := by
  obtain ⟨k, fd, ps, dvs, dl, F, hr, hd, hdf, hl, hb⟩ := ok
  have r2 : Vals (vs ++ zs ++ dvs) (us ++ ws ++ dl) := (r.append rz).append hd
  have rr : RepDs G ρ U (ds ++ df.map .t) (vs ++ zs ++ dvs) := RepDs.app rd (RepDs.ofT (hdf U))
  have e1 := RepDs.len rr
  have e2 := r2.length
  have e3 := hd.length
  have e4 := (hdf U).len
  simp at e1 e2
  refine wpAny_call (codeAny_mono (run_fnG F (hr.mono (Nat.le_succ _)) gd tk (fun _ _ _ q => q) I (hb s us ws I.kIn l1 l2) r2 ⟨ρ, S, U, _, R, rr, by simp; omega, O⟩) fun r s' q => ?_)
  cases r with
  | error e => exact q
  | ok fl => cases fl <;> exact q
/-- f(..) -/
theorem sim_call {x : Str} (ok : CallOk G C X fi (e :: es).length [] df) (gd : X.A.guards = some []) (tk : Takes X W) (hg : Gl X x) (hm : X.mg x = some (.ref (G.fn fi))) (hk : PySem.W.keepIn X.K (.ref (G.fn fi)) = true)
    (ha : PA X (e :: es) (simA G P C W ms)) (hdb : (x == ("__debug__" : Str)) = false) (he : starEach (e :: es) X.env = (false, eval e X.env) :: starEach es X.env) (hpl : (backTo pos (starEach es X.env)).any (·.1) = false) (hms : ms.length = (e :: es).length) :
    PE X (.Call (.Name x p) (e :: es) [] pos) (simE G P C W (.call md fi ms df)) := by
  refine ⟨fun pins s σ H Q I ⟨ρ, S, U, τ, R, RE, O⟩ => ?_⟩
  simp only [evE] at O
  have sim : simA G P C W ms σ H fun vs H1 => ∃ ρ1 S1 U1 ds, Rel G ρ1 S1 U1 H1 ∧ RepDs G ρ1 U1 ds vs ∧ vs.length = (e :: es).length ∧ OutG G (RepD G) ρ1 U1 H1 (C fi (ds ++ df.map .t) S1) Q fun c d H' => W c d σ H' := by
    refine ⟨ρ, S, U, τ, R, RE, O.bind fun xs S1 ρ1 U1 H1 vs e1 s1 R1 r1 h1 => ⟨ρ1, S1, U1, xs, R1, r1, ?_, fin_out R1 h1⟩⟩
    rw [← RepDs.len r1, evEs_len e1, hms]
  refine wpAny_Call_Name_kw (ld_glob I hg hm ?_ hdb)
  refine PySem.W.callWith_K (h₀ := X.base) I.ok.mod.kin hk (thn (ha.run pos pins s σ H _ I sim) fun us s1 ⟨vs, H1, I1, r, ρ1, S1, U1, ds, R1, r1, hl, O1⟩ => ⟨I1.kIn, ?_⟩) he hpl
  have := r.length
  exact run_spec (ks := []) (us := [] ++ us) (ws := []) (zs := []) ok gd tk I1 R1 (by simpa using r) .nil (by rw [List.nil_append, ← this, hl]) rfl (by simpa using r1) O1
/-- f() -/
theorem sim_call0 {x : Str} (ok : CallOk G C X fi 0 [] df) (gd : X.A.guards = some []) (tk : Takes X W) (hg : Gl X x) (hm : X.mg x = some (.ref (G.fn fi))) (hk : PySem.W.keepIn X.K (.ref (G.fn fi)) = true) (hdb : (x == ("__debug__" : Str)) = false) :
    PE X (.Call (.Name x p) [] [] pos) (simE G P C W (.call md fi [] df)) := by
  refine ⟨fun pins s σ H Q I ⟨ρ, S, U, τ, R, RE, O⟩ => ?_⟩
  simp only [evE, evEs, Ev.R.bind_ok] at O
  refine wpAny_Call_Name_kw (ld_glob I hg hm (PySem.W.callWith_K0 I.kIn hk ?_) hdb)
  exact run_spec (ks := []) (us := []) (ws := []) (zs := []) (vs := []) (ds := []) ok gd tk I R .nil .nil rfl rfl .nil (fin_out R O)
theorem PK.imp {t t' : TA} (h : PK X kws t) (i : ∀ σ H Q, t' σ H Q → t σ H Q) : PK X kws t' := ⟨fun pos pins s σ H Q I w => h.run pos pins s σ H Q I (i _ _ _ w)⟩
theorem simK_nil : PK X [] (simA G P C W []) := PK.imp pk_nil fun σ H Q ⟨ρ, S, U, τ, R, RE, O⟩ => by
  simp only [evEs] at O
  exact O.now R .nil
theorem simK_cons {nm : Option Str} {kp : Pos} (ha : PE X e (simE G P C W m)) (hr : PK X kws (simA G P C W ms)) : PK X (⟨nm, e, kp⟩ :: kws) (simA G P C W (m :: ms)) := by
  refine PK.imp (pk_cons ha hr) fun σ H Q ⟨ρ, S, U, τ, R, RE, O⟩ => ?_
  simp only [evEs] at O
  refine ⟨ρ, S, U, τ, R, RE, O.bind fun x S1 ρ1 U1 H1 v _ s1 R1 r1 h1 => ?_⟩
  refine ⟨ρ1, S1, U1, τ, R1, RE.step s1, h1.bind fun xs S2 ρ2 U2 H2 vs _ s2 R2 r2 h2 => ?_⟩
  exact h2.now R2 (.cons (r1.step s2) r2)
theorem bind_assoc {α β γ : Type} (r : R α) (f : α → Store → R β) (g : β → Store → R γ) : (r.bind f).bind g = r.bind fun a S => (f a S).bind g := by cases r <;> rfl
theorem evEs_app : ∀ (ms mk : List E) (τ : Env) (S : Store), evEs P C (ms ++ mk) τ S = (evEs P C ms τ S).bind fun ds S1 => (evEs P C mk τ S1).bind fun es S2 => .ok (ds ++ es) S2
  | [], mk, τ, S => by
    simp only [List.nil_append, evEs, Ev.R.bind_ok]
    cases evEs P C mk τ S <;> rfl
  | m :: ms, mk, τ, S => by
    simp only [List.cons_append, evEs, bind_assoc, evEs_app ms mk τ, Ev.R.bind_ok]
/-- the values of the arguments, then of the keywords -/
theorem args_kws {Qb : VK} {α β : Type} {rep : List Addr → Hp → α → β → Prop} {Q2 : β → Hp → Prop} {g : List D → Store → R α} (R : Rel G ρ S U H) (RE : RepE G ρ U τ σ) (O : OutG G rep ρ U H ((evEs P C (ms ++ mk) τ S).bind g) Q2 fun c d H' => W c d σ H') :
    simA G P C W ms σ H fun vs H1 => vs.length = ms.length ∧ simA G P C W mk σ H1 fun zs H2 => zs.length = mk.length ∧ ∃ ρ2 S2 U2 ds, Rel G ρ2 S2 U2 H2 ∧ RepDs G ρ2 U2 ds (vs ++ zs) ∧ OutG G rep ρ2 U2 H2 (g ds S2) Q2 fun c d H' => W c d σ H' := by
  rw [evEs_app, bind_assoc] at O
  refine ⟨ρ, S, U, τ, R, RE, O.bind fun xs S1 ρ1 U1 H1 vs e1 s1 R1 r1 h1 => ⟨by rw [← RepDs.len r1, evEs_len e1], ?_⟩⟩
  simp only [bind_assoc] at h1
  refine ⟨ρ1, S1, U1, τ, R1, RE.step s1, h1.bind fun ys S2 ρ2 U2 H2 zs e2 s2 R2 r2 h2 => ⟨by rw [← RepDs.len r2, evEs_len e2], ?_⟩⟩
  exact ⟨ρ2, S2, U2, xs ++ ys, R2, RepDs.app (r1.step s2) r2, h2⟩
/-- f(e, .., k = v, ..) -/
theorem sim_callK {x : Str} (ok : CallOk G C X fi (e :: es).length ks df) (gd : X.A.guards = some []) (tk : Takes X W) (hg : Gl X x) (hm : X.mg x = some (.ref (G.fn fi))) (hk : PySem.W.keepIn X.K (.ref (G.fn fi)) = true)
    (ha : PA X (e :: es) (simA G P C W ms)) (hkw : PK X kws (simA G P C W mk)) (hall : (backToKw pos (keywordEach kws X.env)).all (·.1.isSome) = true) (hks : (backToKw pos (keywordEach kws X.env)).filterMap (·.1) = ks)
    (hdb : (x == ("__debug__" : Str)) = false) (he : starEach (e :: es) X.env = (false, eval e X.env) :: starEach es X.env) (hpl : ((backTo pos (starEach (e :: es) X.env)).any (·.1) || (backToKw pos (keywordEach kws X.env)).any (·.1.isNone)) = false)
    (hms : ms.length = (e :: es).length) (hmk : mk.length = ks.length) : PE X (.Call (.Name x p) (e :: es) kws pos) (simE G P C W (.call md fi (ms ++ mk) df)) := by
  refine ⟨fun pins s σ H Q I ⟨ρ, S, U, τ, R, RE, O⟩ => ?_⟩
  simp only [evE] at O
  have sim := args_kws (Qb := Q) R RE O
  refine wpAny_Call_Name_kw (ld_glob I hg hm ?_ hdb)
  refine PySem.W.callWith_KW (h₀ := X.base) I.ok.mod.kin hk hall (thn (ha.run pos pins s σ H _ I sim) fun us s1 ⟨vs, H1, I1, r1, l1, q1⟩ => thn (hkw.run pos pins s1 σ H1 _ I1 q1) fun ws s2 ⟨zs, H2, I2, r2, l2, ρ2, S2, U2, ds, R2, rd, O2⟩ => ⟨I2.kIn, ?_⟩) hpl he
  rw [hks]
  have e1 := r1.length
  have e2 := r2.length
  exact run_spec (us := [] ++ us) ok gd tk I2 R2 (by simpa using r1) r2 (by rw [List.nil_append, ← e1, l1, hms]) (by rw [← e2, l2, hmk]) rd (fin_out R2 O2)
/-! ### methods -/
/-- the class c's method mi stands as the def fi, called mn -/
structure MethOk (G : Glob) (X : Cx) (c fi : Nat) (mn : Str) : Prop where
  meth : Meth X.K (G.cls c) mn (G.fn fi)
  free : ∀ f, f < G.nf → G.fld f ≠ mn
theorem RepTF.noneL {mn : Str} (h : ∀ f, f < G.nf → G.fld f ≠ mn) : ∀ {fs : List (Nat × T)} {vs : List (Str × V)}, RepTF G U fs vs → vs.lookup mn = none
  | [], _, r => by simp only [RepTF] at r; subst r; rfl
  | (f, x) :: r, vs, q => by
    simp only [RepTF] at q
    obtain ⟨v, ws, rfl, h0, _, h2⟩ := q
    have z : (mn == G.fld f) = false := by
      simp only [beq_eq_false_iff_ne]
      exact fun e => h f h0 e.symm
    simp only [List.lookup, z]
    exact RepTF.noneL h h2
theorem RepDF.noneL {mn : Str} (h : ∀ f, f < G.nf → G.fld f ≠ mn) : ∀ {fs : List (Nat × D)} {vs : List (Str × V)}, RepDF G ρ U fs vs → vs.lookup mn = none
  | [], _, r => by cases r; rfl
  | (f, x) :: r, vs, q => by
    cases q with
    | cons h1 h2 =>
      rename_i q ws
      obtain ⟨g', v⟩ := q
      obtain ⟨⟨e0, h0⟩, _⟩ := h1
      simp only at e0 h0
      subst e0
      have z : (mn == G.fld f) = false := by
        simp only [beq_eq_false_iff_ne]
        exact fun e => h f h0 e.symm
      simp only [List.lookup, z]
      exact RepDF.noneL h h2
theorem cls_rep {c : Nat} {x : D} {v : V} (R : Rel G ρ S U H) (r : RepD G ρ U x v) (h : clsD S x = some c) : ∃ a dx vs, v = .ref a ∧ H a = some (.ins (G.cls c) dx vs) ∧ ∀ mn, (∀ f, f < G.nf → G.fld f ≠ mn) → vs.lookup mn = none := by
  cases x with
  | t x =>
    have r := r.t
    cases x <;> simp only [clsD, Option.some.injEq] at h <;> try (cases h; done)
    subst h
    simp only [RepT] at r
    obtain ⟨a, dx, vs, rfl, h1, h2, h3⟩ := r
    exact ⟨a, dx, vs, rfl, R.sub _ _ h1, fun mn z => h3.noneL z⟩
  | loc n =>
    obtain ⟨a, ha, rfl⟩ := r
    simp only [clsD] at h
    cases e : S[n]? with
    | none => rw [e] at h; simp at h
    | some c =>
      have cr := R.cell n c a e ha
      rw [e] at h
      cases c <;> simp only [Option.some.injEq] at h <;> try (cases h; done)
      subst h
      obtain ⟨dx, vs, h1, h2, h3⟩ := cr
      exact ⟨a, dx, vs, rfl, h1, fun mn z => RepDF.noneL z h3⟩
theorem meth_tree {o : Expr} {mn : Str} {apos : Pos} (hb : attributeBase o mn X.env (eval o X.env) = eval o X.env) (hf : methodCallForm (args.length + kws.length) (backTo pos (starEach args X.env)) (backToKw pos (keywordEach kws X.env)) = true) (hl : (apos.endLine == pos.line) = true) :
    eval (.Call (.Attribute o mn apos) args kws pos) X.env = (do
      let ov ← eval o X.env
      standAt apos.atName
      let (f, first) ← holding [ov] (getMethod ov mn (plainOf o X.env))
      callWith pos f first (backTo pos (starEach args X.env)) (backToKw pos (keywordEach kws X.env))) := by
  show (do
    let ov ← attributeBase o mn X.env (eval o X.env)
    standAt apos.atName
    methodCall o mn apos pos X.env ov (args.length + kws.length) (backTo pos (starEach args X.env)) (backToKw pos (keywordEach kws X.env))) = _
  rw [hb]
  simp only [mcall_line hf hl]
/-- o.m(..) -/
theorem sim_meth {o : Expr} {mn : Str} {apos : Pos} {mi : Nat} (g : GOk G X.K P) (ho : PE X o (simE G P C W mo)) (ok : ∀ c fi, P.meth c mi = some fi → MethOk G X c fi mn ∧ CallOk G C X fi ((e :: es).length + 1) [] df) (gd : X.A.guards = some []) (tk : Takes X W)
    (ha : PA X (e :: es) (simA G P C W ms)) (he : starEach (e :: es) X.env = (false, eval e X.env) :: starEach es X.env) (hpl : (backTo pos (starEach es X.env)).any (·.1) = false) (hms : ms.length = (e :: es).length)
    (hb : attributeBase o mn X.env (eval o X.env) = eval o X.env) (hf : methodCallForm ((e :: es).length + ([] : List Keyword).length) (backTo pos (starEach (e :: es) X.env)) (backToKw pos (keywordEach [] X.env)) = true) (hl : (apos.endLine == pos.line) = true) :
    PE X (.Call (.Attribute o mn apos) (e :: es) [] pos) (simE G P C W (.meth md mi mo ms df)) := by
  refine ⟨fun pins s σ H Q I ⟨ρ, S, U, τ, R, RE, O⟩ => ?_⟩
  simp only [evE] at O
  have sim : simE G P C W mo σ H fun v H1 => ∃ a c fi dx fs, v = .ref a ∧ P.meth c mi = some fi ∧ H1 a = some (.ins (G.cls c) dx fs) ∧ fs.lookup mn = none ∧ simA G P C W ms σ H1 fun vs H2 => vs.length = (e :: es).length ∧
      ∃ ρ2 S2 U2 ds, Rel G ρ2 S2 U2 H2 ∧ RepDs G ρ2 U2 ds (v :: vs) ∧ OutG G (RepD G) ρ2 U2 H2 (C fi (ds ++ df.map .t) S2) Q fun c d H' => W c d σ H' := by
    refine ⟨ρ, S, U, τ, R, RE, O.bind fun y S1 ρ1 U1 H1 v _ s1 R1 r1 h1 => ?_⟩
    split at h1
    · rename_i fi hfi
      simp only [Option.bind_eq_some_iff] at hfi
      obtain ⟨c, hc, hfi⟩ := hfi
      obtain ⟨a, dx, fs, rfl, q1, q2⟩ := cls_rep R1 r1 hc
      refine ⟨a, c, fi, dx, fs, rfl, hfi, q1, q2 mn (ok c fi hfi).1.free, ρ1, S1, U1, τ, R1, RE.step s1, h1.bind fun xs S2 ρ2 U2 H2 vs e2 s2 R2 r2 h2 => ?_⟩
      exact ⟨by rw [← RepDs.len r2, evEs_len e2, hms], ρ2, S2, U2, y :: xs, R2, .cons (r1.step s2) r2, fin_out R2 h2⟩
    · exact h1.elim
  refine PySem.W.methodCall_KW (thn (ho.run pins s σ H _ I sim) fun u s1 ⟨x, H1, I1, rx, a, c, fi, dx, fs, ex, hfi, ha1, hl1, q⟩ => ?_) (meth_tree hb hf hl)
  subst ex
  obtain rfl : u = Value.ref a := rx
  obtain ⟨M, ok'⟩ := ok c fi hfi
  refine getmeth_ok I1 ha1 (g.cls c) M.meth hl1 ?_
  refine PySem.W.callWith_K (first := [.ref a]) (h₀ := X.base) I.ok.mod.kin M.meth.kp (thn (ha.run pos pins s1 σ H1 _ I1 q) fun us s2 ⟨vs, H2, I2, r, l2, ρ2, S2, U2, ds, R2, rd, O2⟩ => ⟨I2.kIn, ?_⟩) he hpl
  have := r.length
  exact run_spec (ks := []) (us := .ref a :: us) (vs := .ref a :: vs) (ws := []) (zs := []) ok' gd tk I2 R2 (.cons rfl r) .nil (by rw [List.length_cons, ← this, l2]) rfl (by simpa using rd) O2
theorem sim_meth0 {o : Expr} {mn : Str} {apos : Pos} {mi : Nat} (g : GOk G X.K P) (ho : PE X o (simE G P C W mo)) (ok : ∀ c fi, P.meth c mi = some fi → MethOk G X c fi mn ∧ CallOk G C X fi 1 [] df) (gd : X.A.guards = some []) (tk : Takes X W)
    (hb : attributeBase o mn X.env (eval o X.env) = eval o X.env) (hl : (apos.endLine == pos.line) = true) :
    PE X (.Call (.Attribute o mn apos) [] [] pos) (simE G P C W (.meth md mi mo [] df)) := by
  refine ⟨fun pins s σ H Q I ⟨ρ, S, U, τ, R, RE, O⟩ => ?_⟩
  simp only [evE, evEs, Ev.R.bind_ok] at O
  have sim : simE G P C W mo σ H fun v H1 => ∃ a c fi dx fs, v = .ref a ∧ P.meth c mi = some fi ∧ H1 a = some (.ins (G.cls c) dx fs) ∧ fs.lookup mn = none ∧
      ∃ ρ2 S2 U2 ds, Rel G ρ2 S2 U2 H1 ∧ RepDs G ρ2 U2 ds [v] ∧ OutG G (RepD G) ρ2 U2 H1 (C fi (ds ++ df.map .t) S2) Q fun c d H' => W c d σ H' := by
    refine ⟨ρ, S, U, τ, R, RE, O.bind fun y S1 ρ1 U1 H1 v _ s1 R1 r1 h1 => ?_⟩
    split at h1
    · rename_i fi hfi
      simp only [Option.bind_eq_some_iff] at hfi
      obtain ⟨c, hc, hfi⟩ := hfi
      obtain ⟨a, dx, fs, rfl, q1, q2⟩ := cls_rep R1 r1 hc
      exact ⟨a, c, fi, dx, fs, rfl, hfi, q1, q2 mn (ok c fi hfi).1.free, ρ1, S1, U1, [y], R1, .cons r1 .nil, fin_out R1 h1⟩
    · exact h1.elim
  refine PySem.W.methodCall_KW (thn (ho.run pins s σ H _ I sim) fun u s1 ⟨x, H1, I1, rx, a, c, fi, dx, fs, ex, hfi, ha1, hl1, ρ2, S2, U2, ds, R2, rd, O2⟩ => ?_) (meth_tree hb rfl hl)
  subst ex
  obtain rfl : u = Value.ref a := rx
  obtain ⟨M, ok'⟩ := ok c fi hfi
  refine getmeth_ok I1 ha1 (g.cls c) M.meth hl1 (PySem.W.callWith_K0 I1.kIn M.meth.kp ?_)
  exact run_spec (ks := []) (us := [.ref a]) (vs := [.ref a]) (ws := []) (zs := []) ok' gd tk I1 R2 (.cons rfl .nil) .nil rfl rfl (by simpa using rd) O2
end
end Ev
end

section
set_option Elab.async false
set_option linter.all false
namespace Ev
open PySem L2
section
variable {G : Glob} {P : Prg} {C : Calls} {W : WX} {X : Cx} {e a b c : Expr} {es args : List Expr} {kws : List Keyword} {m ma mb mc mo : E} {ms mk : List E} {f : F} {pos p p2 q : Pos}
variable {ρ : List Addr} {S : Store} {U H : Hp} {τ : Env} {σ : St} {Q : VK} {E' : XK} {md : Md} {fi n ci : Nat} {ks : List Str} {df : List T}
/-- a new instance's cell -/
theorem Rel.newI (R : Rel G ρ S U H) {x dx : Addr} (hx : H x = none) (hd : H dx = none) (ne : dx ≠ x) : ∃ U', Rel G (ρ ++ [x]) (S ++ [.ins ci []]) U' (upd (upd H dx (.own x)) x (.ins (G.cls ci) dx [])) ∧ Step ρ U H (ρ ++ [x]) U' (upd (upd H dx (.own x)) x (.ins (G.cls ci) dx [])) := by
  obtain ⟨R1, s1⟩ := R.newU (o := .own x) hd
  have hx1 : upd H dx (.own x) x = none := by rw [upd_ne (Ne.symm ne)]; exact hx
  obtain ⟨R2, s2⟩ := R1.newC (o := .ins (G.cls ci) dx []) (c := .ins ci []) hx1 ⟨dx, [], upd_same, upd_same, .nil⟩
  exact ⟨_, R2, s1.trans s2⟩
theorem run_mk {pins : List (Addr × Obj)} {s : Shared} {ds : List D} {vs : List V} {us : List Value} (ok : CallOk G C X fi (n + 1) [] df) (M : Mk X.K (G.cls ci) (G.fn fi)) (gd : X.A.guards = some []) (tk : Takes X W) (I : Inv X pins σ H s)
    (R : Rel G ρ S U H) (r : Vals vs us) (l1 : us.length = n) (rd : RepDs G ρ U ds vs)
    (O : OutG G (RepD G) ρ U H ((C fi (.loc S.length :: (ds ++ df.map .t)) (S ++ [.ins ci []])).bind fun q S2 => match q with
      | .t .non => .ok (.loc S.length) S2
      | _ => .bad) Q fun c d H' => W c d σ H') : wpAny (model X.prog X.w) X.A (call (.ref (G.cls ci)) us) (EP X pins σ Q) X.xe s := by
  obtain ⟨k, fd, ps, dvs, dl, F, hr, hd, hdf, hl, hb⟩ := ok
  have e3 := hd.length
  have e4 := (hdf U).len
  simp at hl
  refine make_fnG M F hr gd tk (E := fun c d H' => W c d σ H') (fun _ _ _ q => q) (dvs := dvs) (fun s us KX lu => ?_) hd I r fun x dx hx hdx ne => ?_
  · have := hb s us [] KX (by simp at lu; omega) rfl
    simpa using this
  · obtain ⟨U', R2, s2⟩ := R.newI (ci := ci) hx hdx ne
    have rr : RepDs G (ρ ++ [x]) U' (.loc S.length :: (ds ++ df.map .t)) (.ref x :: (vs ++ dvs)) := .cons ⟨x, by rw [← R.len]; simp, rfl⟩ (RepDs.app (RepDs.step s2 rd) (RepDs.ofT (hdf U')))
    refine ⟨_, _, _, _, R2, rr, by have := RepDs.len rd; have := r.length; simp; omega, ?_⟩
    refine (OutG.step s2 O).bind fun a S1 ρ1 U1 H1 b e1 s1 R1 r1 h1 => ?_
    split at h1
    · have r1 := r1.t
      simp only [RepT] at r1
      refine ⟨r1, h1.now R1 ?_⟩
      refine ⟨x, pre_get s1.pre ?_, rfl⟩
      rw [← R.len]
      simp
    · exact h1.elim
/-- C(..) -/
theorem sim_mk {x : Str} (ok : CallOk G C X fi ((e :: es).length + 1) [] df) (hi : P.init ci = some fi) (M : Mk X.K (G.cls ci) (G.fn fi)) (gd : X.A.guards = some []) (tk : Takes X W) (hg : Gl X x) (hm : X.mg x = some (.ref (G.cls ci)))
    (ha : PA X (e :: es) (simA G P C W ms)) (hdb : (x == ("__debug__" : Str)) = false) (he : starEach (e :: es) X.env = (false, eval e X.env) :: starEach es X.env) (hpl : (backTo pos (starEach es X.env)).any (·.1) = false) (hms : ms.length = (e :: es).length) :
    PE X (.Call (.Name x p) (e :: es) [] pos) (simE G P C W (.mk md ci ms df)) := by
  refine ⟨fun pins s σ H Q I ⟨ρ, S, U, τ, R, RE, O⟩ => ?_⟩
  simp only [evE, hi] at O
  have sim : simA G P C W ms σ H fun vs H1 => ∃ ρ1 S1 U1 ds, Rel G ρ1 S1 U1 H1 ∧ RepDs G ρ1 U1 ds vs ∧ vs.length = (e :: es).length ∧ OutG G (RepD G) ρ1 U1 H1 ((C fi (.loc S1.length :: (ds ++ df.map .t)) (S1 ++ [.ins ci []])).bind fun q S2 => match q with
      | .t .non => .ok (.loc S1.length) S2
      | _ => .bad) Q fun c d H' => W c d σ H' := by
    refine ⟨ρ, S, U, τ, R, RE, O.bind fun xs S1 ρ1 U1 H1 vs e1 s1 R1 r1 h1 => ⟨ρ1, S1, U1, xs, R1, r1, ?_, fin_out R1 h1⟩⟩
    rw [← RepDs.len r1, evEs_len e1, hms]
  refine wpAny_Call_Name_kw (ld_glob I hg hm ?_ hdb)
  refine PySem.W.callWith_K (h₀ := X.base) I.ok.mod.kin M.kp (thn (ha.run pos pins s σ H _ I sim) fun us s1 ⟨vs, H1, I1, r, ρ1, S1, U1, ds, R1, r1, hl, O1⟩ => ⟨I1.kIn, ?_⟩) he hpl
  exact run_mk (us := [] ++ us) ok M gd tk I1 R1 (by simpa using r) (by rw [List.nil_append, ← r.length, hl]) r1 O1
theorem sim_mk0 {x : Str} (ok : CallOk G C X fi 1 [] df) (hi : P.init ci = some fi) (M : Mk X.K (G.cls ci) (G.fn fi)) (gd : X.A.guards = some []) (tk : Takes X W) (hg : Gl X x) (hm : X.mg x = some (.ref (G.cls ci))) (hdb : (x == ("__debug__" : Str)) = false) :
    PE X (.Call (.Name x p) [] [] pos) (simE G P C W (.mk md ci [] df)) := by
  refine ⟨fun pins s σ H Q I ⟨ρ, S, U, τ, R, RE, O⟩ => ?_⟩
  simp only [evE, evEs, Ev.R.bind_ok, hi] at O
  refine wpAny_Call_Name_kw (ld_glob I hg hm (PySem.W.callWith_K0 I.kIn M.kp ?_) hdb)
  exact run_mk (us := []) (ds := []) ok M gd tk I R .nil rfl .nil (fin_out R O)
/-- the class at ci, read by its name x: its def called m is fi -/
structure UpOk (G : Glob) (X : Cx) (ci fi : Nat) (x mn : Str) : Prop where
  glob : X.mg x = some (.ref (G.cls ci))
  read : ClX.CRead X.K (G.cls ci) (.type "type")
  val : ClX.CVal X.K (G.cls ci) (.type "type") mn (.ref (G.fn fi)) (.ref (G.fn fi))
  kp : PySem.W.keepIn X.K (.ref (G.fn fi)) = true
/-- C.m(self, .., k = v, ..) -/
theorem sim_up {x mn : Str} {p apos : Pos} (u : UpOk G X ci fi x mn) (ok : CallOk G C X fi (e :: es).length ks df) (gd : X.A.guards = some []) (tk : Takes X W) (hg : Gl X x)
    (ha : PA X (e :: es) (simA G P C W ms)) (hkw : PK X kws (simA G P C W mk)) (hall : (backToKw pos (keywordEach kws X.env)).all (·.1.isSome) = true) (hks : (backToKw pos (keywordEach kws X.env)).filterMap (·.1) = ks)
    (hdb : (x == ("__debug__" : Str)) = false) (he : starEach (e :: es) X.env = (false, eval e X.env) :: starEach es X.env) (hpl : ((backTo pos (starEach (e :: es) X.env)).any (·.1) || (backToKw pos (keywordEach kws X.env)).any (·.1.isNone)) = false)
    (hf : methodCallForm ((e :: es).length + kws.length) (backTo pos (starEach (e :: es) X.env)) (backToKw pos (keywordEach kws X.env)) = true) (hl : (apos.endLine == pos.line) = true)
    (hms : ms.length = (e :: es).length) (hmk : mk.length = ks.length) : PE X (.Call (.Attribute (.Name x p) mn apos) (e :: es) kws pos) (simE G P C W (.call md fi (ms ++ mk) df)) := by
  refine ⟨fun pins s σ H Q I ⟨ρ, S, U, τ, R, RE, O⟩ => ?_⟩
  simp only [evE] at O
  have sim := args_kws (Qb := Q) R RE O
  refine PySem.W.methodCall_KW (ld_glob I hg u.glob (PySem.W.method_cls I.kIn u.read.ga (ClX.getcval_ok I u.read u.val fun s0 I0 => ?_)) hdb) (meth_tree rfl hf hl)
  refine PySem.W.callWith_KW (h₀ := X.base) I.ok.mod.kin u.kp hall (thn (ha.run pos pins s0 σ H _ I0 sim) fun us s1 ⟨vs, H1, I1, r1, l1, q1⟩ => thn (hkw.run pos pins s1 σ H1 _ I1 q1) fun ws s2 ⟨zs, H2, I2, r2, l2, ρ2, S2, U2, ds, R2, rd, O2⟩ => ⟨I2.kIn, ?_⟩) hpl he
  rw [hks]
  have e1 := r1.length
  have e2 := r2.length
  exact run_spec (us := [] ++ us) ok gd tk I2 R2 (by simpa using r1) r2 (by rw [List.nil_append, ← e1, l1, hms]) (by rw [← e2, l2, hmk]) rd (fin_out R2 O2)
end
end Ev
end

section
set_option Elab.async false
set_option linter.all false
namespace Ev
open PySem L2
section
variable {G : Glob} {P : Prg} {C : Calls} {W : WX} {X : Cx} {e a b c : Expr} {es args : List Expr} {m ma mb mc mo : E} {ms mk : List E} {f : F} {pos p p2 q : Pos}
variable {ρ : List Addr} {S : Store} {U H : Hp} {τ : Env} {σ : St} {Q : VK} {E' : XK}
/-- the wish where no exception may come -/
abbrev W0 : WX := fun _ _ _ _ => False
theorem OutG.noX {α β : Type} {rep : List Addr → Hp → α → β → Prop} {r : R α} {Q : β → Hp → Prop} {E1 E2 : XK} (h : OutG G rep ρ U H r.noX Q E1) : OutG G rep ρ U H r Q E2 := by
  cases r with
  | ok a S => exact h
  | exc e S => exact h.elim
  | bad => exact h
/-- an item of what is walked -/
def srcAt (src : Src) (S : Store) (i : Nat) : Option (Option D) := match src with
  | .ds ds => some ds[i]?
  | .cell n _ => match S[n]? with
    | some (.lst ds) => some ds[i]?
    | _ => none
def repSrc (G : Glob) (ρ : List Addr) (U : Hp) (src : Src) (J : L2.It) : Prop := ∀ (ρ' : List Addr) (S' : Store) (U' H' : Hp) (i : Nat), ρ <+: ρ' → Sub U U' → Rel G ρ' S' U' H' →
  (srcAt src S' i = some none → J.stop i H') ∧
  ∀ d, srcAt src S' i = some (some d) → J.go i H' ∧ ∀ x H2, J.yld i H' x H2 → ∃ U2, Rel G ρ' S' U2 H2 ∧ Step ρ' U' H' ρ' U2 H2 ∧ RepD G ρ' U2 d x
def simI (G : Glob) (P : Prg) (C : Calls) (W : WX) (it : Ev.It) : TI := fun σ H Q => ∃ ρ S U τ, Rel G ρ S U H ∧ RepE G ρ U τ σ ∧ OutG G (repSrc G) ρ U H (evIt P C it τ S) Q fun c d H' => W c d σ H'
/-- what a target writes -/
def Wrote (vs : List Nat) (σ σ' : St) : Prop := σ'.length = σ.length ∧ ∀ i : Nat, i ∉ vs → σ'[i]? = σ[i]?
theorem Wrote.refl {vs : List Nat} : Wrote vs σ σ := ⟨rfl, fun _ _ => rfl⟩
theorem Wrote.trans {vs ws : List Nat} {σ1 σ2 : St} (h : Wrote vs σ σ1) (g : Wrote ws σ1 σ2) : Wrote (vs ++ ws) σ σ2 :=
  ⟨g.1.trans h.1, fun i n => (g.2 i fun m => n (List.mem_append_right _ m)).trans (h.2 i fun m => n (List.mem_append_left _ m))⟩
def simG (G : Glob) (P : Prg) (C : Calls) (W : WX) (tg : Tg) : TG := fun v σ H Q => ∃ ρ S U τ d, Rel G ρ S U H ∧ RepE G ρ U τ σ ∧ RepD G ρ U d v ∧ OutG G (RepE G) ρ U H (asgT P C tg d τ S) (fun σ' H' => Wrote (tgVars tg) σ σ' → Q σ' H') fun c d H' => W c d σ H'
def simGs (G : Glob) (P : Prg) (C : Calls) (W : WX) (tgs : List Tg) : TGs := fun vs σ H Q => ∃ ρ S U τ ds, Rel G ρ S U H ∧ RepE G ρ U τ σ ∧ RepDs G ρ U ds vs ∧ OutG G (RepE G) ρ U H (asgTs P C tgs ds τ S) (fun σ' H' => Wrote (tgsVars tgs) σ σ' → Q σ' H') fun c d H' => W c d σ H'
def simTs (G : Glob) (P : Prg) (C : Calls) (W : WX) (ms : List E) : TT := fun σ H Q => ∃ ρ S U τ, Rel G ρ S U H ∧ RepE G ρ U τ σ ∧ OutG G repB ρ U H (evTs P C ms τ S) Q fun c d H' => W c d σ H'
theorem PTs.imp {ifs : List Expr} {t t' : TT} (h : PTs X ifs t) (i : ∀ σ H Q, t' σ H Q → t σ H Q) : PTs X ifs t' := ⟨fun pins s σ H Q I w => h.run pins s σ H Q I (i _ _ _ w)⟩
theorem simTs_nil : PTs X [] (simTs G P C W []) := PTs.imp pts_nil fun σ H Q ⟨ρ, S, U, τ, R, RE, O⟩ => by
  simp only [evTs] at O
  exact O.now R rfl
theorem simTs_one (h : PT X c (simT G P C W m)) : PTs X [c] (simTs G P C W [m]) := by
  refine PTs.imp (pts_one h) fun σ H Q ⟨ρ, S, U, τ, R, RE, O⟩ => ?_
  simp only [evTs] at O
  refine ⟨ρ, S, U, τ, R, RE, O.bind fun x S1 ρ1 U1 H1 k _ s1 R1 r1 h1 => ?_⟩
  have r1 : x = k := r1
  subst r1
  cases x <;> exact h1.now R1 rfl
/-! ### targets -/
theorem PG.imp {tg : Expr} {t t' : TG} (h : PG X tg t) (i : ∀ v σ H Q, t' v σ H Q → t v σ H Q) : PG X tg t' := ⟨fun pins s σ H v u Q I r w => h.run pins s σ H v u Q I r (i _ _ _ _ w)⟩
theorem PGs.imp {tg : List Expr} {t t' : TGs} (h : PGs X tg t) (i : ∀ v σ H Q, t' v σ H Q → t v σ H Q) : PGs X tg t' := ⟨fun pins s σ H v u Q I r w => h.run pins s σ H v u Q I r (i _ _ _ _ w)⟩
theorem RepE.set {i : Nat} {d : D} {v : V} (h : RepE G ρ U τ σ) (r : RepD G ρ U d v) : RepE G ρ U (τ.set i (some d)) (σ.set i (some v)) := by
  refine ⟨by simp [h.1], fun j d' e => ?_⟩
  by_cases z : i = j
  · subst z
    rw [List.getElem?_set] at e
    simp at e
    obtain ⟨l, e⟩ := e
    subst e
    refine ⟨v, ?_, r⟩
    rw [List.getElem?_set]
    simp
    rw [← h.1]; exact l
  · rw [List.getElem?_set_ne z] at e
    rw [List.getElem?_set_ne z]
    exact h.2 j d' e
theorem simG_nm {i : Nat} {x : Str} (hN : X.N.Nodup) (hi : X.N[i]? = some x) (hx : Loc X.env.scope x) (hf : X.fn x = true ∨ X.env.scope.names.lookup x = some .local) : PG X (.Name x pos) (simG G P C W (.nm i)) :=
  PG.imp (pg_name hN hi hx hf) fun v σ H Q ⟨ρ, S, U, τ, d, R, RE, r, O⟩ => by
    simp only [asgT] at O
    exact O.now R (RE.set r) ⟨by simp, fun j n => by rw [List.getElem?_set_ne (by rintro rfl; exact n (by simp [tgVars]))]⟩
mutual
theorem asgT_noX : ∀ (t : Tg) (d : D) (τ : Env) (S : Store) (x : Exn) (S' : Store), asgT P C t d τ S ≠ .exc x S'
  | .nm i, d, τ, S, x, S', h => by simp only [asgT] at h; cases h
  | .tp ts, d, τ, S, x, S', h => by
    simp only [asgT] at h
    split at h
    · split at h
      · exact asgTs_noX ts _ _ _ _ _ h
      · cases h
    · cases h
  | .ix a i, d, τ, S, x, S', h => by
    simp only [asgT] at h
    revert h
    generalize ((evE P C a τ S).bind fun x S1 => (evE P C i τ S1).bind fun y S2 => (evPut x y d S2).bind fun _ S3 => Ev.R.ok τ S3) = r
    intro h
    cases r <;> cases h
theorem asgTs_noX : ∀ (ts : List Tg) (ds : List D) (τ : Env) (S : Store) (x : Exn) (S' : Store), asgTs P C ts ds τ S ≠ .exc x S'
  | [], [], τ, S, x, S', h => by simp only [asgTs] at h; cases h
  | [], _ :: _, τ, S, x, S', h => by simp only [asgTs] at h; cases h
  | _ :: _, [], τ, S, x, S', h => by simp only [asgTs] at h; cases h
  | t :: ts, d :: ds, τ, S, x, S', h => by
    simp only [asgTs] at h
    cases e : asgT P C t d τ S with
    | ok a S1 => rw [e] at h; exact asgTs_noX ts ds _ _ _ _ h
    | exc y S1 => exact asgT_noX t d τ S y S1 e
    | bad => rw [e] at h; cases h
end
theorem OutG.noE {α β : Type} {rep : List Addr → Hp → α → β → Prop} {r : R α} {Q : β → Hp → Prop} {E1 E2 : XK} (h : OutG G rep ρ U H r Q E1) (n : ∀ x S, r ≠ .exc x S) : OutG G rep ρ U H r Q E2 := by
  cases r with
  | ok a S => exact h
  | exc e S => exact absurd rfl (n _ _)
  | bad => exact h
theorem OutG.imp {α β : Type} {rep : List Addr → Hp → α → β → Prop} {r : R α} {Q1 Q2 : β → Hp → Prop} {E1 : XK} (h : OutG G rep ρ U H r Q1 E1) (k : ∀ b H', Q1 b H' → Q2 b H') : OutG G rep ρ U H r Q2 E1 := by
  cases r with
  | ok a S => exact fun ρ' U' H' b s R q => k _ _ (h ρ' U' H' b s R q)
  | exc e S => exact h
  | bad => exact h
theorem simGs_nil : PGs X [] (simGs G P C W []) := PGs.imp pgs_nil fun v σ H Q ⟨ρ, S, U, τ, d, R, RE, r, O⟩ => by
  cases r with
  | nil =>
    simp only [asgTs] at O
    exact ⟨rfl, O.now R RE .refl⟩
  | cons _ _ => simp only [asgTs] at O; exact False.elim O
theorem simGs_cons {t : Tg} {ts : List Tg} (h1 : PG X e (simG G P C W t)) (h2 : PGs X es (simGs G P C W ts)) (hs : (assignEach (e :: es) X.env).map (·.2) = assign e X.env :: (assignEach es X.env).map (·.2)) : PGs X (e :: es) (simGs G P C W (t :: ts)) := by
  refine PGs.imp (pgs_cons h1 h2 hs) fun vs σ H Q ⟨ρ, S, U, τ, ds, R, RE, r, O⟩ => ?_
  cases r with
  | nil => simp only [asgTs] at O; exact False.elim O
  | cons r rr =>
    simp only [asgTs] at O
    refine ⟨_, _, rfl, ρ, S, U, τ, _, R, RE, r, O.bind fun τ1 S1 ρ1 U1 H1 σ1 _ s1 R1 r1 h1 w1 => ?_⟩
    refine ⟨ρ1, S1, U1, τ1, _, R1, r1, RepDs.step s1 rr, ?_⟩
    have h2 := h1.noE (E2 := fun c d H' => W c d σ1 H') (asgTs_noX _ _ _ _)
    exact h2.imp fun σ2 H2 k w2 => k (w1.trans w2)
theorem pg_or {t1 t2 : TG} (h1 : PG X e t1) (h2 : PG X e t2) : PG X e (fun v σ H Q => t1 v σ H Q ∨ t2 v σ H Q) :=
  ⟨fun pins s σ H v u Q I r hw => hw.elim (h1.run pins s σ H v u Q I r) (h2.run pins s σ H v u Q I r)⟩
theorem simG_tp {ts : List Tg} {k n : Nat} (hc : X.calm = true) (h : PGs X es (simGs G P C W ts)) (hn : (assignEach es X.env).length = n) (hst : (assignEach es X.env).findIdx? (·.1) = none) (hts : ts.length = n) : PG X (.Tuple es k pos) (simG G P C W (.tp ts)) := by
  refine PG.imp (pg_or (pg_tup hc h hn hst) (pg_lst hc h hn hst)) fun v σ H Q ⟨ρ, S, U, τ, d, R, RE, r, O⟩ => ?_
  simp only [asgT] at O
  split at O
  · rename_i xs hx
    unfold tupD at hx
    split at hx <;> cases hx
    · have r := r.t
      simp only [RepT] at r
      obtain ⟨a, vs, rfl, h1, h2⟩ := r
      split at O
      · rename_i len
        exact .inl ⟨a, vs, rfl, SqT.of (R.sub _ _ h1), by rw [← h2.len, len, hts], ρ, S, U, τ, _, R, RE, RepDs.ofT h2, O⟩
      · exact False.elim O
    · have r := r.t
      simp only [RepT] at r
      obtain ⟨a, vs, rfl, h1, h2⟩ := r
      split at O
      · rename_i len
        exact .inr ⟨a, vs, rfl, SqL.of (R.sub _ _ h1), by rw [← h2.len, len, hts], ρ, S, U, τ, _, R, RE, RepDs.ofT h2, O⟩
      · exact False.elim O
  · exact False.elim O
theorem put_rep {x i v : D} {o u w : V} (R : Rel G ρ S U H) (r1 : RepD G ρ U x o) (r2 : RepD G ρ U i u) (r3 : RepD G ρ U v w) {S' : Store} {q : Unit} (h : evPut x i v S = .ok q S') :
    ∃ H', (rSetL o u w H (fun H2 => H2 = H') ∨ rSetD o u w H fun H2 => H2 = H') ∧ Rel G ρ S' U H' ∧ Step ρ U H ρ U H' := by
  unfold evPut at h
  split at h
  · rename_i n k
    obtain ⟨a, ha, rfl⟩ := r1
    split at h
    · rename_i ds hs
      obtain ⟨vs, h1, h2⟩ := R.cell n _ a hs ha
      split at h
      · rename_i i
        split at h
        · rename_i j hj
          cases h
          have r2 := r2.t
          simp only [RepT] at r2
          subst r2
          have len := RepDs.len h2
          have z := R.put (o := .lst (vs.set j w)) (c' := .lst (ds.set j v)) hs ha trivial ⟨_, upd_same, by
            clear h1 hs hj len
            induction h2 generalizing j with
            | nil => exact .nil
            | cons q t ih => cases j with
              | zero => exact .cons r3 t
              | succ j => exact .cons q (ih j)⟩
          exact ⟨_, .inl ⟨a, vs, i, j, rfl, rfl, h1, by rw [← len]; exact hj, rfl⟩, z⟩
        · cases h
      · cases h
    · rename_i ds hs
      obtain ⟨vs, h1, h2⟩ := R.cell n _ a hs ha
      split at h
      · rename_i kk hk
        split at h
        · rename_i l
          cases h
          have r2 := toKey_rep hk r2.t
          subst r2
          have len := Paired.length h2
          have any : (ds.any fun p => decide (p.1 = kk)) = (vs.any fun p => decide (p.1 = kk)) := by
            clear h1 hs l len
            induction h2 with
            | nil => rfl
            | cons q t ih => simp [q.1, ih]
          have z := R.put (o := .dK (putK vs kk w)) (c' := .dic (kPut ds kk v)) hs ha trivial ⟨_, upd_same, by
            unfold kPut putK
            rw [any]
            split
            · rename_i z0
              clear h1 hs l len any z0
              induction h2 with
              | nil => exact .nil
              | cons q t ih =>
                refine .cons ?_ ih
                dsimp only
                rw [q.1]
                split
                · exact ⟨rfl, r3⟩
                · exact q
            · exact Paired.app h2 (.cons ⟨rfl, r3⟩ .nil)⟩
          exact ⟨_, .inr ⟨a, _, rfl, DPut.k h1 (by rw [← len]; exact l), rfl⟩, z⟩
        · cases h
      · cases h
    · cases h
  · cases h
theorem PSet.or {r r' : TSet} (h : PSet X r) (h' : PSet X r') : PSet X (fun o i v H Q => r o i v H Q ∨ r' o i v H Q) := by
  intro pins s σ H o i v ov iv u Q I ro ri rv q
  rcases q with q | q
  · exact h pins s σ H o i v ov iv u Q I ro ri rv q
  · exact h' pins s σ H o i v ov iv u Q I ro ri rv q
theorem simG_ix {o i : Expr} {mo mi : E} (hu : X.A.units + 1 < cLine) (ho : PE X o (simE G P C W mo)) (hi : PE X i (simE G P C W mi))
    (ha : ∀ v, assign (.Subscript o i pos) X.env v = (do
      let ov ← holding [v] (eval o X.env)
      let iv ← holding [v, ov] (eval i X.env)
      standAt pos
      holding [v, ov, iv] (setItem ov iv v)
      release [v, ov, iv] [])) : PG X (.Subscript o i pos) (simG G P C W (.ix mo mi)) := by
  refine PG.imp (pg_sub ho hi (PSet.or set_list (set_dict hu)) ha) fun v σ H Q ⟨ρ, S, U, τ, d, R, RE, r, O⟩ => ?_
  simp only [asgT] at O
  have O := O.noX (E2 := fun c d H' => W c d σ H')
  refine ⟨ρ, S, U, τ, R, RE, O.bind fun x S1 ρ1 U1 H1 o' _ s1 R1 r1 h1 => ?_⟩
  refine ⟨ρ1, S1, U1, τ, R1, RE.step s1, h1.bind fun y S2 ρ2 U2 H2 u _ s2 R2 r2 h2 => ?_⟩
  cases e : evPut x y d S2 with
  | bad => rw [e] at h2; exact False.elim h2
  | exc z S3 =>
    exfalso
    unfold evPut at e
    split at e
    · split at e
      · split at e
        · split at e <;> cases e
        · cases e
      · split at e
        · split at e <;> cases e
        · cases e
      · cases e
    · cases e
  | ok z S3 =>
    rw [e] at h2
    obtain ⟨H3, q, R3, s3⟩ := put_rep R2 (r1.step s2) r2 ((r.step s1).step s2) e
    have fin : Q σ H3 := h2 _ _ _ _ s3 R3 (((RE.step s1).step s2).step s3) .refl
    rcases q with ⟨p, xs, k, j, e1, e2, e3, e4, e5⟩ | ⟨a, H4, e1, e2, e3⟩
    · exact .inl ⟨p, xs, k, j, e1, e2, e3, e4, by rw [e5]; exact fin⟩
    · exact .inr ⟨a, H4, e1, e2, by rw [e3]; exact fin⟩
end
end Ev
end

section
set_option Elab.async false
set_option linter.all false
namespace Ev
open PySem L2
section
variable {G : Glob} {P : Prg} {C : Calls} {W : WX} {X : Cx} {e a b c : Expr} {es args : List Expr} {m ma mb mc mo : E} {ms mk : List E} {f : F} {pos p p2 q : Pos}
variable {ρ : List Addr} {S : Store} {U H : Hp} {τ : Env} {σ : St} {Q : VK} {E' : XK}
theorem PI.imp {tg it : Expr} {t t' : TI} (h : PI X tg it t) (i : ∀ σ H R, t' σ H R → t σ H R) : PI X tg it t' := ⟨fun pins s σ H R I w => h.run pins s σ H R I (i _ _ _ w)⟩
theorem RepDs.mapT {ts : List T} {vs : List V} (h : RepTs G U ts vs) {i : Nat} {d : D} (e : (ts.map D.t)[i]? = some d) : ∃ v, vs[i]? = some v ∧ RepD G ρ U d v := Paired.getR (RepDs.ofT (ρ := ρ) h) e
/-- a list that stands -/
theorem src_lst {K : PySem.W.Frag} {a : Addr} {vs : List V} {ts : List T} (h1 : U a = some (.lst vs)) (h2 : RepTs G U ts vs) : repSrc G ρ U (.ds (ts.map .t)) (Itl K a) := by
  intro ρ' S' U' H' i hp hs R
  have q := SqL.of (K := K) (R.sub _ _ (hs _ _ h1))
  refine ⟨fun h => ?_, fun d h => ?_⟩
  · simp only [srcAt, Option.some.injEq] at h
    refine ⟨vs, q, ?_⟩
    rw [← h2.len]
    simpa using h
  · simp only [srcAt, Option.some.injEq] at h
    obtain ⟨v, e1, e2⟩ := RepDs.mapT (ρ := ρ) h2 h
    refine ⟨⟨vs, v, q, e1⟩, fun x H2 z => ?_⟩
    obtain ⟨rfl, z⟩ := z
    have z := z vs q
    rw [e1] at z
    cases z
    exact ⟨U', R, .refl, e2.mono hp hs⟩
theorem src_tup {K : PySem.W.Frag} {a : Addr} {vs : List V} {ts : List T} (h1 : U a = some (.tup vs)) (h2 : RepTs G U ts vs) : repSrc G ρ U (.ds (ts.map .t)) (Itt K a) := by
  intro ρ' S' U' H' i hp hs R
  have q := SqT.of (K := K) (R.sub _ _ (hs _ _ h1))
  refine ⟨fun h => ?_, fun d h => ?_⟩
  · simp only [srcAt, Option.some.injEq] at h
    refine ⟨vs, q, ?_⟩
    rw [← h2.len]
    simpa using h
  · simp only [srcAt, Option.some.injEq] at h
    obtain ⟨v, e1, e2⟩ := RepDs.mapT (ρ := ρ) h2 h
    refine ⟨⟨vs, v, q, e1⟩, fun x H2 z => ?_⟩
    obtain ⟨rfl, z⟩ := z
    have z := z vs q
    rw [e1] at z
    cases z
    exact ⟨U', R, .refl, e2.mono hp hs⟩
theorem src_cell {K : PySem.W.Frag} {a : Addr} {n k : Nat} (ha : ρ[n]? = some a) : repSrc G ρ U (.cell n k) (Itl K a) := by
  intro ρ' S' U' H' i hp hs R
  have ha' := pre_get hp ha
  cases e : S'[n]? with
  | none => simp [srcAt, e]
  | some c =>
    have cr := R.cell n c a e ha'
    cases c with
    | lst ds =>
      obtain ⟨vs, h1, h2⟩ := cr
      have q := SqL.of (K := K) h1
      simp only [srcAt, e]
      refine ⟨fun h => ?_, fun d h => ?_⟩
      · simp only [Option.some.injEq] at h
        exact ⟨vs, q, by rw [← RepDs.len h2]; simpa using h⟩
      · simp only [Option.some.injEq] at h
        obtain ⟨v, e1, e2⟩ := Paired.getR h2 h
        refine ⟨⟨vs, v, q, e1⟩, fun x H2 z => ?_⟩
        obtain ⟨rfl, z⟩ := z
        have z := z vs q
        rw [e1] at z
        cases z
        exact ⟨U', R, .refl, e2⟩
    | dead => simp [srcAt, e]
    | dic _ => simp [srcAt, e]
    | ins _ _ => simp [srcAt, e]
/-- a list or a tuple, walked -/
def iSeq (K : PySem.W.Frag) (tl : TE) : TI := fun σ H R => tl σ H fun x H1 => ∃ a, x = .ref a ∧ (((∃ xs, SqL K H1 a xs) ∧ R (Itl K a) H1) ∨ ((∃ xs, SqT K H1 a xs) ∧ R (Itt K a) H1))
theorem fp_new {pins : List (Addr × Obj)} {s : Shared} (I : Inv X pins σ H s) : ∀ b ∈ [s.heap.objs.size], FpOk X pins H b := fun b hb => by
  rw [List.mem_singleton.mp hb]
  exact I.fpOk (Nat.le_refl _) (I.hok.fresh (Nat.le_refl _))
theorem pi_seq {l tg : Expr} {tl : TE} (hl : PE X l tl) : PI X tg l (iSeq X.K tl) := by
  refine ⟨fun pins s σ H R I h => thn (hl.run pins s σ H _ I h) fun v s1 ⟨x, H1, I1, r1, a, ex, q⟩ => ?_⟩
  subst ex
  cases r1
  have kp : ∀ (o : Obj) b u, s1.heap.get? b = some u → (s1.heap.push o).get? b = some u := fun o b u e => Heap.get?_push_of_some _ e
  rcases q with ⟨⟨xs, hq⟩, q⟩ | ⟨⟨xs, hq⟩, q⟩
  · obtain ⟨its, rv, p, hz⟩ := I1.list hq
    exact wpAny_pyIter_list p.isList ⟨_, _, _, _, H1, rfl, I1.kept (t' := s1.toks) (kp _), turn_list a _, ⟨_, Heap.get?_push_size _ rfl, rfl, rfl⟩, fp_new I1, q⟩
  · obtain ⟨its, rv, p, hz⟩ := I1.tuple hq
    exact wpAny_pyIter_tuple (show s1.heap.IsTuple a its.toArray from p) ⟨_, _, _, _, H1, rfl, I1.kept (t' := s1.toks) (kp _), turn_tuple a _, ⟨_, Heap.get?_push_size _ rfl, rfl, rfl⟩, fp_new I1, q⟩
theorem simI_val {l tg : Expr} (hl : PE X l (simE G P C W m)) : PI X tg l (simI G P C W (.val m)) := by
  refine PI.imp (pi_seq hl) fun σ H Q ⟨ρ, S, U, τ, R, RE, O⟩ => ?_
  simp only [evIt] at O
  refine ⟨ρ, S, U, τ, R, RE, O.bind fun x S1 ρ1 U1 H1 v _ s1 R1 r1 h1 => ?_⟩
  obtain ⟨src, e, h1⟩ := OutG.opt h1
  cases x with
  | t x =>
    have r1 := r1.t
    cases x <;> simp only [srcOf, Option.some.injEq] at e <;> simp only [RepT] at r1 <;> try (cases e; done)
    · obtain ⟨a, vs, rfl, q1, q2⟩ := r1
      subst e
      exact ⟨a, rfl, .inl ⟨⟨vs, SqL.of (R1.sub _ _ q1)⟩, h1.now R1 (src_lst q1 q2)⟩⟩
    · obtain ⟨a, vs, rfl, q1, q2⟩ := r1
      subst e
      exact ⟨a, rfl, .inr ⟨⟨vs, SqT.of (R1.sub _ _ q1)⟩, h1.now R1 (src_tup q1 q2)⟩⟩
  | loc n =>
    obtain ⟨a, ha, rfl⟩ := r1
    simp only [srcOf] at e
    split at e <;> cases e
    rename_i ds hs
    obtain ⟨vs, q1, q2⟩ := R1.cell n _ a hs ha
    exact ⟨a, rfl, .inl ⟨⟨vs, SqL.of q1⟩, h1.now R1 (src_cell ha)⟩⟩
theorem src_rng {lo : Int} {n : Nat} : repSrc G ρ U (.ds ((List.range n).map fun (i : Nat) => .t (.int (lo + (i : Int))))) (Itr lo n) := by
  intro ρ' S' U' H' i hp hs R
  refine ⟨fun h => ?_, fun d h => ?_⟩
  · simp only [srcAt, Option.some.injEq] at h
    simp at h
    exact h
  · simp only [srcAt, Option.some.injEq] at h
    rw [List.getElem?_map, Option.map_eq_some_iff] at h
    obtain ⟨a, h, rfl⟩ := h
    obtain ⟨l, e⟩ := List.getElem?_eq_some_iff.mp h
    simp at l e
    subst e
    refine ⟨l, fun x H2 z => ?_⟩
    obtain ⟨rfl, rfl⟩ := z
    exact ⟨U', R, .refl, repInt⟩
theorem manyE {α β : Type} {rep : List Addr → Hp → α → β → Prop} {Qb : β → Hp → Prop} {f : List D → Store → R α} (R : Rel G ρ S U H) (RE : RepE G ρ U τ σ) {Q1 : List V → Hp → Prop}
    (h : OutG G rep ρ U H ((evEs P C ms τ S).bind f) Qb fun c d H' => W c d σ H')
    (k : ∀ xs S1 ρ1 U1 H1 vs, xs.length = ms.length → Rel G ρ1 S1 U1 H1 → RepE G ρ1 U1 τ σ → RepDs G ρ1 U1 xs vs → OutG G rep ρ1 U1 H1 (f xs S1) Qb (fun c d H' => W c d σ H') → Q1 vs H1) :
    simA G P C W ms σ H Q1 :=
  ⟨ρ, S, U, τ, R, RE, h.bind fun x S1 ρ1 U1 H1 v e s1 R1 r1 h1 => k x S1 ρ1 U1 H1 v (evEs_len e) R1 (RE.step s1) r1 h1⟩
theorem simI_rng1 {tg : Expr} {p : Pos} (hg : Gl X "range") (hm : X.mg "range" = none) (ha : PA X [a] (simA G P C W [ma])) (hs : starEach [a] X.env = [(false, eval a X.env)]) : PI X tg (.Call (.Name "range" p) [a] [] pos) (simI G P C W (.rng [ma])) := by
  refine PI.imp (pi_range1 hg hm ha hs) fun σ H Q ⟨ρ, S, U, τ, R, RE, O⟩ => ?_
  simp only [evIt] at O
  refine manyE (rep := repSrc G) (Qb := Q) R RE O fun xs S1 ρ1 U1 H1 vs len R1 _ r1 h1 => ?_
  obtain ⟨src, e, h1⟩ := OutG.opt h1
  simp only [Option.map_eq_some_iff] at e
  obtain ⟨ns, e, rfl⟩ := e
  unfold rngI at e
  split at e
  · rename_i k
    split at e <;> cases e
    rename_i l
    obtain ⟨v, rfl, r⟩ := RepDs.one r1
    have r := r.t; simp only [RepT] at r; subst r
    refine ⟨k, rfl, l.1, l.2, h1.now R1 ?_⟩
    have := src_rng (G := G) (ρ := ρ1) (U := U1) (lo := 0) (n := k.toNat)
    simpa [Function.comp_def] using this
  · cases len
  · cases e
theorem simI_rng2 {tg : Expr} {p : Pos} (hg : Gl X "range") (hm : X.mg "range" = none) (ha : PA X [a, b] (simA G P C W [ma, mb])) (hs : starEach [a, b] X.env = [(false, eval a X.env), (false, eval b X.env)]) (hs2 : starEach [b] X.env = [(false, eval b X.env)]) : PI X tg (.Call (.Name "range" p) [a, b] [] pos) (simI G P C W (.rng [ma, mb])) := by
  refine PI.imp (pi_range2 hg hm ha hs hs2) fun σ H Q ⟨ρ, S, U, τ, R, RE, O⟩ => ?_
  simp only [evIt] at O
  refine manyE (rep := repSrc G) (Qb := Q) R RE O fun xs S1 ρ1 U1 H1 vs len R1 _ r1 h1 => ?_
  obtain ⟨src, e, h1⟩ := OutG.opt h1
  simp only [Option.map_eq_some_iff] at e
  obtain ⟨ns, e, rfl⟩ := e
  unfold rngI at e
  split at e
  · cases len
  · rename_i k j
    split at e <;> cases e
    rename_i l
    obtain ⟨v, u, rfl, r, r2⟩ := RepDs.two r1
    have r := r.t; simp only [RepT] at r; subst r
    have r2 := r2.t; simp only [RepT] at r2; subst r2
    refine ⟨k, j, rfl, l, h1.now R1 ?_⟩
    have := src_rng (G := G) (ρ := ρ1) (U := U1) (lo := k) (n := (j - k).toNat)
    simpa [Function.comp_def] using this
  · cases e
theorem enu_get {ts : List T} {i : Nat} : ((List.range ts.length).zip ts |>.map fun (p : Nat × T) => D.t (.tup [.int ((p.1 : Nat) : Int), p.2]))[i]? = (ts[i]?).map fun t => .t (.tup [.int (i : Int), t]) := by
  rw [List.getElem?_map]
  by_cases h : i < ts.length
  · have e : ((List.range ts.length).zip ts)[i]? = some (i, ts[i]) := by
      rw [List.getElem?_zip_eq_some]
      exact ⟨by rw [List.getElem?_range h], List.getElem?_eq_getElem h⟩
    rw [e, List.getElem?_eq_getElem h]; rfl
  · rw [List.getElem?_eq_none (by simp; omega), List.getElem?_eq_none (by omega)]; rfl
theorem RepTs.get {ts : List T} {vs : List V} (h : RepTs G U ts vs) {i : Nat} {t : T} (e : ts[i]? = some t) : ∃ v, vs[i]? = some v ∧ RepT G U t v := by
  obtain ⟨v, e1, e2⟩ := RepDs.mapT (ρ := []) h (i := i) (d := .t t) (by rw [List.getElem?_map, e]; rfl)
  exact ⟨v, e1, e2.t⟩
theorem src_enu {K : PySem.W.Frag} {a : Addr} {vs : List V} {ts : List T} (h1 : U a = some (.lst vs)) (h2 : RepTs G U ts vs) : repSrc G ρ U (.ds ((List.range ts.length).zip ts |>.map fun (p : Nat × T) => .t (.tup [.int ((p.1 : Nat) : Int), p.2]))) (Ite K a) := by
  intro ρ' S' U' H' i hp hs R
  have q := SqL.of (K := K) (R.sub _ _ (hs _ _ h1))
  refine ⟨fun h => ?_, fun d h => ?_⟩
  · simp only [srcAt, Option.some.injEq] at h
    rw [enu_get, Option.map_eq_none_iff] at h
    exact ⟨vs, q, by rw [← h2.len]; exact List.getElem?_eq_none_iff.mp h⟩
  · simp only [srcAt, Option.some.injEq] at h
    rw [enu_get, Option.map_eq_some_iff] at h
    obtain ⟨t, e, rfl⟩ := h
    obtain ⟨v, e1, e2⟩ := RepTs.get h2 e
    refine ⟨⟨vs, v, q, e1⟩, fun x H2 z => ?_⟩
    obtain ⟨p, x', rfl, hp', rfl, z⟩ := z
    have z := z vs q
    rw [e1] at z
    cases z
    obtain ⟨R2, s2⟩ := R.newU (o := .tup [.int (i : Nat), v]) hp'
    refine ⟨_, R2, s2, ?_⟩
    show RepT G _ _ _
    simp only [RepT]
    exact ⟨p, _, rfl, upd_same, by simp only [RepTs]; exact ⟨_, _, rfl, by simp only [RepT], _, _, rfl, (e2.mono hs).mono s2.mono, rfl⟩⟩
theorem src_zip {K : PySem.W.Frag} {a b : Addr} {vs ws : List V} {ts us : List T} (h1 : U a = some (.lst vs)) (h2 : RepTs G U ts vs) (g1 : U b = some (.lst ws)) (g2 : RepTs G U us ws) : repSrc G ρ U (.ds ((ts.zip us).map fun p => .t (.tup [p.1, p.2]))) (Itz K a b) := by
  intro ρ' S' U' H' i hp hs R
  have q := SqL.of (K := K) (R.sub _ _ (hs _ _ h1))
  have q2 := SqL.of (K := K) (R.sub _ _ (hs _ _ g1))
  refine ⟨fun h => ?_, fun d h => ?_⟩
  · simp only [srcAt, Option.some.injEq] at h
    rw [List.getElem?_map, Option.map_eq_none_iff, List.getElem?_eq_none_iff, List.length_zip] at h
    refine ⟨vs, ws, q, q2, ?_⟩
    rw [← h2.len, ← g2.len]
    omega
  · simp only [srcAt, Option.some.injEq] at h
    rw [List.getElem?_map, Option.map_eq_some_iff] at h
    obtain ⟨⟨t, u⟩, e, rfl⟩ := h
    obtain ⟨et, eu⟩ := List.getElem?_zip_eq_some.mp e
    obtain ⟨v, e1, e2⟩ := RepTs.get h2 et
    obtain ⟨w, f1, f2⟩ := RepTs.get g2 eu
    refine ⟨⟨vs, ws, v, w, q, q2, e1, f1⟩, fun x H2 z => ?_⟩
    obtain ⟨p, x', y', rfl, hp', rfl, z, z2⟩ := z
    have z := z vs q
    have z2 := z2 ws q2
    rw [e1] at z
    rw [f1] at z2
    cases z
    cases z2
    obtain ⟨R2, s2⟩ := R.newU (o := .tup [v, w]) hp'
    refine ⟨_, R2, s2, ?_⟩
    show RepT G _ _ _
    simp only [RepT]
    exact ⟨p, _, rfl, upd_same, by simp only [RepTs]; exact ⟨_, _, rfl, (e2.mono hs).mono s2.mono, _, _, rfl, (f2.mono hs).mono s2.mono, rfl⟩⟩
theorem lstTr_rep {x : D} {v : V} {ts : List T} (e : lstTr x = some ts) (r : RepD G ρ U x v) : ∃ a vs, v = .ref a ∧ U a = some (.lst vs) ∧ RepTs G U ts vs := by
  unfold lstTr at e
  split at e <;> cases e
  have r := r.t
  simp only [RepT] at r
  exact r
theorem simI_enu {elts : List Expr} {kk : Nat} {tpos p : Pos} (hg : Gl X "enumerate") (hm : X.mg "enumerate" = none) (ha : PA X [a] (simA G P C W [ma])) (hs : starEach [a] X.env = [(false, eval a X.env)]) : PI X (.Tuple elts kk tpos) (.Call (.Name "enumerate" p) [a] [] pos) (simI G P C W (.enu ma)) := by
  refine PI.imp (pi_enum hg hm ha hs) fun σ H Q ⟨ρ, S, U, τ, R, RE, O⟩ => ?_
  simp only [evIt] at O
  have O2 : OutG G (repSrc G) ρ U H ((evEs P C [ma] τ S).bind fun xs S1 => match xs with
      | [x] => ofOpt ((lstTr x).map fun ts => Src.ds ((List.range ts.length).zip ts |>.map fun (p : Nat × T) => .t (.tup [.int ((p.1 : Nat) : Int), p.2]))) S1
      | _ => .bad) Q fun c d H' => W c d σ H' := by
    simp only [evEs]
    cases e : evE P C ma τ S <;> rw [e] at O <;> exact O
  refine manyE (rep := repSrc G) (Qb := Q) R RE O2 fun xs S1 ρ1 U1 H1 vs len R1 _ r1 h1 => ?_
  split at h1
  · rename_i x
    obtain ⟨v, rfl, r⟩ := RepDs.one r1
    obtain ⟨src, e, h1⟩ := OutG.opt h1
    simp only [Option.map_eq_some_iff] at e
    obtain ⟨ts, e, rfl⟩ := e
    obtain ⟨a, vs, rfl, q1, q2⟩ := lstTr_rep e r
    exact ⟨a, vs, rfl, SqL.of (R1.sub _ _ q1), h1.now R1 (src_enu q1 q2)⟩
  · exact h1.elim
theorem simI_zip {elts : List Expr} {kk : Nat} {tpos p : Pos} (hg : Gl X "zip") (hm : X.mg "zip" = none) (ha : PA X [a, b] (simA G P C W [ma, mb])) (hs : starEach [a, b] X.env = (false, eval a X.env) :: starEach [b] X.env) (hpl : (backTo pos (starEach [b] X.env)).any (·.1) = false) : PI X (.Tuple elts kk tpos) (.Call (.Name "zip" p) [a, b] [] pos) (simI G P C W (.zip ma mb)) := by
  refine PI.imp (pi_zip hg hm ha hs hpl) fun σ H Q ⟨ρ, S, U, τ, R, RE, O⟩ => ?_
  simp only [evIt] at O
  have O2 : OutG G (repSrc G) ρ U H ((evEs P C [ma, mb] τ S).bind fun xs S1 => match xs with
      | [x, y] => ofOpt ((lstTr x).bind fun xs => (lstTr y).map fun ys => Src.ds ((xs.zip ys).map fun p => .t (.tup [p.1, p.2]))) S1
      | _ => .bad) Q fun c d H' => W c d σ H' := by
    simp only [evEs]
    cases e : evE P C ma τ S with
    | bad => rw [e] at O; exact O
    | exc _ _ => rw [e] at O; exact O
    | ok x S1 =>
      rw [e] at O
      simp only [Ev.R.bind_ok] at O ⊢
      cases e2 : evE P C mb τ S1 <;> rw [e2] at O <;> exact O
  refine manyE (rep := repSrc G) (Qb := Q) R RE O2 fun xs S1 ρ1 U1 H1 vs len R1 _ r1 h1 => ?_
  split at h1
  · rename_i x y
    obtain ⟨v, w, rfl, r, r2⟩ := RepDs.two r1
    obtain ⟨src, e, h1⟩ := OutG.opt h1
    simp only [Option.bind_eq_some_iff, Option.map_eq_some_iff] at e
    obtain ⟨ts, e, us, e2, rfl⟩ := e
    obtain ⟨a, vs, rfl, q1, q2⟩ := lstTr_rep e r
    obtain ⟨b, ws, rfl, g1, g2⟩ := lstTr_rep e2 r2
    exact ⟨a, b, vs, ws, rfl, SqL.of (R1.sub _ _ q1), SqL.of (R1.sub _ _ g1), h1.now R1 (src_zip q1 q2 g1 g2)⟩
  · exact h1.elim
/-! ### the fresh lists of built-ins -/
theorem simF_list {x : Str} (hx : x = "list") (hg : Gl X x) (hm : X.mg x = none) (ha : PE X a (simE G P C W ma)) (hs : starEach [a] X.env = (false, eval a X.env) :: starEach [] X.env) : PE X (.Call (.Name x p) [a] [] pos) (simF G P C W (.listOf ma)) := by
  subst hx
  refine PE.imp (pe_callTy call_list_of hg hm PyProof.Rows.boot_list (pa_cons ha pa_nil hs) (by decide) (by decide) hs rfl) fun σ H Q ⟨ρ, S, U, τ, R, RE, O⟩ => ?_
  simp only [evF] at O
  refine ⟨ρ, S, U, τ, R, RE, O.bind fun x S1 ρ1 U1 H1 v _ s1 R1 r1 h1 => ?_⟩
  obtain ⟨xs, e1, h1⟩ := OutG.opt h1
  obtain ⟨p, vs, rfl, q1, q2⟩ := itsD_rep R1 e1 r1
  exact ⟨p, vs, rfl, .inl (SqL.of q1), h1.now R1 q2⟩
theorem rg_len (ns : List Int) : RepTs G U (ns.map .int) (ns.map V.int) := by
  induction ns with
  | nil => simp [RepTs]
  | cons n r ih => simp only [List.map_cons, RepTs]; exact ⟨_, _, rfl, by simp [RepT], ih⟩
theorem simF_rng1 {x y : Str} (hx : x = "list") (hy : y = "range") (hc : X.calm = true) (hg : Gl X x) (hm : X.mg x = none) (hg2 : Gl X y) (hm2 : X.mg y = none) (ha : PE X a (simE G P C W ma)) (na : starEach [a] X.env = (false, eval a X.env) :: starEach [] X.env) :
    PE X (.Call (.Name x p) [.Call (.Name y p2) [a] [] q] [] pos) (simF G P C W (.rng [ma])) := by
  subst hx hy
  refine PE.imp (pe_listRg hc hg hm (prg_1 hg2 hm2 ha na) rfl) fun σ H Q ⟨ρ, S, U, τ, R, RE, O⟩ => ?_
  simp only [evF, evEs] at O
  have O2 : OutG G (RepDs G) ρ U H ((evE P C ma τ S).bind fun x S1 => ofOpt ((rngI [x]).bind fun ns => if ns.length ≤ 16777216 then some (ns.map fun n => D.t (.int n)) else none) S1) (fun vs H1 => ∀ p, H1 p = none → Q (.ref p) (upd H1 p (.lst vs))) fun c d H' => W c d σ H' := by
    cases e : evE P C ma τ S <;> rw [e] at O <;> exact O
  refine ⟨ρ, S, U, τ, R, RE, O2.bind fun x S1 ρ1 U1 H1 v _ s1 R1 r1 h1 => ?_⟩
  obtain ⟨ds, e, h1⟩ := OutG.opt h1
  simp only [Option.bind_eq_some_iff] at e
  obtain ⟨ns, e, e2⟩ := e
  split at e2 <;> cases e2
  rename_i l2
  unfold rngI at e
  split at e
  · rename_i k hk
    cases hk
    split at e <;> cases e
    rename_i l
    have r := r1.t; simp only [RepT] at r; subst r
    refine ⟨k, rfl, ⟨by decide, by decide, l.1, l.2, by simpa using l2⟩, ?_⟩
    have := h1.now R1 (b := rgV 0 k) (by
      have := RepDs.ofT (ρ := ρ1) (rg_len (G := G) (U := U1) ((List.range k.toNat).map fun (i : Nat) => (i : Int)))
      simpa [rgV, Function.comp_def] using this)
    exact this
  · rename_i hk; cases hk
  · cases e
theorem simF_sorted {x : Str} (hx : x = "sorted") (hg : Gl X x) (hm : X.mg x = none) (ha : PE X a (simE G P C W ma)) (hs : starEach [a] X.env = (false, eval a X.env) :: starEach [] X.env) : PE X (.Call (.Name x p) [a] [] pos) (simF G P C W (.sorted ma)) := by
  subst hx
  refine PE.imp (pe_callB cr_sortedI hg hm PyProof.Rows.boot_sorted (pa_cons ha pa_nil hs) (by decide) (by decide) hs rfl) fun σ H Q ⟨ρ, S, U, τ, R, RE, O⟩ => ?_
  simp only [evF] at O
  refine ⟨ρ, S, U, τ, R, RE, O.bind fun x S1 ρ1 U1 H1 v _ s1 R1 r1 h1 => ?_⟩
  obtain ⟨ds, e, h1⟩ := OutG.opt h1
  simp only [Option.bind_eq_some_iff, Option.map_eq_some_iff] at e
  obtain ⟨ts, e1, ns, e2, rfl⟩ := e
  obtain ⟨a, vs, rfl, q1, q2⟩ := lstT_rep R1 e1 r1
  obtain rfl := intsT_rep e2 q2
  refine ⟨a, ns, rfl, SqL.of q1, fun ns' p pm up hp => ?_⟩
  have same : ns' = ns.mergeSort (fun a b => decide (a ≤ b)) := by
    refine PySem.W.ksm_same (pm.trans (List.mergeSort_perm _ _).symm) up ?_
    have := List.pairwise_mergeSort (le := fun a b : Int => decide (a ≤ b)) (by intro a b c; simp; omega) (by intro a b; simp; omega) ns
    simpa using this
  rw [same]
  have := RepDs.ofT (ρ := ρ1) (rg_len (G := G) (U := U1) (ns.mergeSort (fun a b => decide (a ≤ b))))
  exact h1.now R1 (by simpa [Function.comp_def] using this) p hp
end
end Ev
end

section
set_option Elab.async false
set_option linter.all false
namespace Ev
open PySem L2
/-- without one object -/
def del (H : Hp) (p : Addr) : Hp := fun a => if a = p then none else H a
theorem del_same {H : Hp} {p : Addr} : del H p p = none := by unfold del; rw [if_pos rfl]
theorem del_ne {H : Hp} {a p : Addr} (h : a ≠ p) : del H p a = H a := by unfold del; rw [if_neg h]
theorem upd_del {H : Hp} {p : Addr} {o : HO} (h : H p = some o) : upd (del H p) p o = H := by
  funext a
  by_cases e : a = p
  · subst e; rw [upd_same, h]
  · rw [upd_ne e, del_ne e]
theorem del_upd {H : Hp} {p : Addr} {o : HO} (h : H p = none) : del (upd H p o) p = H := by
  funext a
  by_cases e : a = p
  · subst e; rw [del_same, h]
  · rw [del_ne e, upd_ne e]
theorem del_upd2 {H : Hp} {p : Addr} {o : HO} : del (upd H p o) p = del H p := by
  funext a
  by_cases e : a = p
  · subst e; rw [del_same, del_same]
  · rw [del_ne e, del_ne e, upd_ne e]
section
variable {G : Glob} {P : Prg} {C : Calls} {W : WX} {X : Cx} {e a b c : Expr} {es args : List Expr} {m ma mb mc mo : E} {ms mk : List E} {f : F} {pos p p2 q : Pos}
variable {ρ ρ' : List Addr} {S S' : Store} {U U' H H' : Hp} {τ : Env} {σ : St} {Q : VK} {E' : XK}
/-- an object beside comes, stays and goes -/
theorem beside_step {p : Addr} {o : HO} (R : Rel G ρ S U H) (hp : H p = none) (s : Step ρ U (upd H p o) ρ' U' H') (R' : Rel G ρ' S' U' H') :
    H' p = some o ∧ p ∉ ρ' ∧ U' p = none ∧ Rel G ρ' S' U' (del H' p) ∧ Step ρ U H ρ' U' (del H' p) := by
  have nr := R.out hp
  have up : U p = none := by
    cases e : U p with
    | none => rfl
    | some u => rw [R.sub p u e] at hp; cases hp
  have h1 := s.keep p o upd_same nr
  have h2 : p ∉ ρ' := fun m => by have := s.frr p m nr; rw [upd_same] at this; cases this
  have h3 : U' p = none := by
    cases e : U' p with
    | none => rfl
    | some u =>
      rcases s.fru p up (by rw [e]; exact fun z => nomatch z) with z | z
      · rw [upd_same] at z; cases z
      · exact absurd z nr
  refine ⟨h1, h2, h3, ⟨R'.len, R'.nd, fun n c a e1 e2 => (R'.cell n c a e1 e2).mono (List.prefix_refl _) (fun _ _ h => h) (del_ne fun z => h2 (z ▸ mem_of_get e2)), fun a u h => ?_, R'.dis, fun a m => ?_⟩, s.pre, s.mono, fun a u h n => ?_, fun a m n => ?_, fun a h n => ?_⟩
  · rw [del_ne (by rintro rfl; rw [h3] at h; cases h)]; exact R'.sub a u h
  · rw [del_ne (by rintro rfl; exact h2 m)]; exact R'.thr a m
  · have ne : a ≠ p := by rintro rfl; rw [hp] at h; cases h
    rw [del_ne ne]; exact s.keep a u (by rw [upd_ne ne]; exact h) n
  · have ne : a ≠ p := by rintro rfl; exact h2 m
    have := s.frr a m n
    rwa [upd_ne ne] at this
  · rcases s.fru a h n with z | z
    · by_cases ne : a = p
      · subst ne; exact .inl hp
      · rw [upd_ne ne] at z; exact .inl z
    · exact .inr z
theorem wipe_rep {vs : List Nat} (h : RepE G ρ U τ σ) : RepE G ρ U (wipeE τ vs) (wipe σ vs) := by
  induction vs with
  | nil => exact h
  | cons v vs ih =>
    unfold wipeE wipe
    refine ⟨by simp [ih.1], fun i d e => ?_⟩
    by_cases z : v = i
    · subst z
      rw [List.getElem?_set] at e
      simp at e
    · rw [List.getElem?_set_ne z] at e ⊢
      exact ih.2 i d e
theorem wipe_wrote {vs : List Nat} {σ' : St} (h : Wrote vs (wipe σ vs) σ') : wipe σ' vs = wipe σ vs := by
  have wi : ∀ (vs : List Nat) (σ : St) (i : Nat), (wipe σ vs)[i]? = if i ∈ vs then (if i < σ.length then some none else none) else σ[i]? := by
    intro vs
    induction vs with
    | nil => intro σ i; simp [wipe]
    | cons v vs ih =>
      intro σ i
      unfold wipe
      rw [List.getElem?_set, wipe_length, ih]
      by_cases e : v = i
      · subst e; simp
      · simp [e, Ne.symm e]
  apply List.ext_getElem?
  intro i
  rw [wi, wi]
  have l := h.1
  rw [wipe_length] at l
  by_cases m : i ∈ vs
  · simp [m, l]
  · have := h.2 i m
    rw [wi] at this
    first
      | (simp [m] at this ⊢; exact this)
      | (simp [m] at this ⊢)
/-- the rest of a comprehension's turns -/
def restC (src : Src) (f : D → Store → R (Option D)) (k i : Nat) (acc : List D) (S : Store) : R (List D) := match src with
  | .ds ds => cmpL f (ds.drop i) acc S
  | .cell n _ => cmpC n f k i acc S
theorem restC_turn {src : Src} {f : D → Store → R (Option D)} {k i : Nat} {acc : List D} {S : Store} (h : restC src f k i acc S ≠ .bad) :
    (srcAt src S i = some none ∧ restC src f k i acc S = .ok acc S) ∨ ∃ d k', srcAt src S i = some (some d) ∧ (match src with | .ds ds => i < ds.length | .cell _ _ => k' + 1 = k) ∧
      restC src f k i acc S = (f d S).bind fun q S' => match q with
        | some y => if acc.length < sizeLine then restC src f k' (i + 1) (acc ++ [y]) S' else .bad
        | none => restC src f k' (i + 1) acc S' := by
  cases src with
  | ds ds =>
    simp only [restC, srcAt]
    by_cases l : i < ds.length
    · refine .inr ⟨ds[i], 0, by rw [List.getElem?_eq_getElem l], l, ?_⟩
      rw [List.drop_eq_getElem_cons l]
      first
        | (simp only [cmpL]; rfl)
        | simp only [cmpL]
    · have e : ds.drop i = [] := List.drop_eq_nil_of_le (by omega)
      refine .inl ⟨by rw [List.getElem?_eq_none (by omega)], by rw [e]; rfl⟩
  | cell n z =>
    have key : restC (.cell n z) f k i acc S = cmpC n f k i acc S := rfl
    rw [key] at h ⊢
    rw [cmpC] at h
    simp only [srcAt]
    cases e : S[n]? with
    | none => rw [e] at h; exact absurd rfl h
    | some c =>
      rw [e] at h
      cases c with
      | lst ds =>
        cases e2 : ds[i]? with
        | none => exact .inl ⟨by simp [e2], by rw [cmpC, e]; simp only [e2]⟩
        | some d =>
          simp only [e2] at h
          cases k with
          | zero => exact absurd rfl h
          | succ k => exact .inr ⟨d, k, by simp [e2], rfl, by rw [cmpC, e]; simp only [e2]; rfl⟩
      | _ => exact absurd rfl h
def mesC (src : Src) (k i : Nat) : Nat := match src with
  | .ds ds => ds.length - i
  | .cell _ _ => k
theorem sim_comp_core {g : TG} {tt : TT} {te : TE} {tg : Tg} {it : Ev.It} {ifs : List E} {σ : St} {H : Hp} (hg : g = simG G P C W0 tg) (ht : tt = simTs G P C W0 ifs) (he : te = simE G P C W0 m)
    (h : simF G P C W (.comp tg it ifs m) σ H Q) : tLc (simI G P C W it) g tt te (tgVars tg) σ H Q := by
  subst hg ht he
  obtain ⟨ρ, S, U, τ, R, RE, O⟩ := h
  simp only [evF] at O
  refine ⟨ρ, S, U, τ, R, RE, O.bind fun src S1 ρ1 U1 H1 J _ s1 R1 rs h1 A0 hA => ?_⟩
  have RE1 := RE.step s1
  obtain ⟨ft, hft⟩ : ∃ ft : D → Store → Ev.R (Option D), ft = fun d S => ((asgT P C tg d (wipeE τ (tgVars tg)) S).bind fun τ' S' => (evTs P C ifs τ' S').bind fun b S2 => bif b then (evE P C m τ' S2).bind fun y S3 => .ok (some y) S3 else .ok none S2).noX := ⟨_, rfl⟩
  rw [← hft] at h1
  obtain ⟨k0, h1⟩ : ∃ k0, OutG G (RepDs G) ρ1 U1 H1 (restC src ft k0 0 [] S1) (fun vs H1 => ∀ p, H1 p = none → Q (.ref p) (upd H1 p (.lst vs))) fun c d H' => W c d σ H' := by
    cases src with
    | ds ds => exact ⟨0, by simpa [restC] using h1⟩
    | cell n k => exact ⟨k, by simpa [restC] using h1⟩
  refine ⟨fun i m H => ∃ ρ2 S2 U2 acc vs k, Rel G ρ2 S2 U2 (del H A0) ∧ Step ρ1 U1 H1 ρ2 U2 (del H A0) ∧ H A0 = some (.lst vs) ∧ RepDs G ρ2 U2 acc vs ∧ m = mesC src k i ∧
    OutG G (RepDs G) ρ2 U2 (del H A0) (restC src ft k i acc S2) (fun vs H1 => ∀ p, H1 p = none → Q (.ref p) (upd H1 p (.lst vs))) fun c d H' => W c d σ H', ⟨_, ρ1, S1, U1, [], [], k0, ?_, ?_, upd_same, .nil, rfl, ?_⟩, ?_⟩
  · rw [del_upd hA]; exact R1
  · rw [del_upd hA]; exact .refl
  · rw [del_upd hA]; exact h1
  · rintro i m' H ⟨ρ2, S2, U2, acc, vs, k, R2, s2, hv, rv, rfl, O2⟩
    have eH : upd (del H A0) A0 (.lst vs) = H := upd_del hv
    have nr : A0 ∉ ρ2 := R2.out del_same
    have nu : U2 A0 = none := by
      cases z : U2 A0 with
      | none => rfl
      | some u => have := R2.sub _ _ z; rw [del_same] at this; cases this
    have R2' : Rel G ρ2 S2 U2 H := by have := R2.beside (o := .lst vs) nu nr; rwa [eH] at this
    have src' := rs ρ2 S2 U2 H i s2.pre s2.mono R2'
    rcases restC_turn (src := src) (f := ft) (k := k) (i := i) (acc := acc) (S := S2) (fun z => by rw [z] at O2; exact O2) with ⟨e1, e2⟩ | ⟨d, k', e1, e2, e3⟩
    · refine .inl ⟨src'.1 e1, ?_⟩
      rw [e2] at O2
      have := O2.now R2 rv A0 del_same
      rwa [eH] at this
    · obtain ⟨go, yl⟩ := src'.2 d e1
      have less : mesC src k' (i + 1) < mesC src k i := by
        cases src with
        | ds ds => simp only [mesC]; simp only at e2; omega
        | cell n z => simp only [mesC]; simp only at e2; omega
      rw [e3] at O2
      refine .inr ⟨go, fun H' => ∃ m2, m2 < mesC src k i ∧ ∃ ρ2 S2 U2 acc vs k, Rel G ρ2 S2 U2 (del H' A0) ∧ Step ρ1 U1 H1 ρ2 U2 (del H' A0) ∧ H' A0 = some (.lst vs) ∧ RepDs G ρ2 U2 acc vs ∧ m2 = mesC src k (i + 1) ∧
        OutG G (RepDs G) ρ2 U2 (del H' A0) (restC src ft k (i + 1) acc S2) (fun vs H1 => ∀ p, H1 p = none → Q (.ref p) (upd H1 p (.lst vs))) fun c d H' => W c d σ H', fun H' z => z, fun x H' hy => ?_⟩
      obtain ⟨U3, R3, s3, r3⟩ := yl x H' hy
      -- what the turn comes to
      cases big : ((asgT P C tg d (wipeE τ (tgVars tg)) S2).bind fun τ' S' => (evTs P C ifs τ' S').bind fun b S2 => bif b then (evE P C m τ' S2).bind fun y S3 => Ev.R.ok (some y) S3 else .ok none S2) with
      | bad => rw [hft] at O2; dsimp only at O2; rw [big] at O2; exact False.elim O2
      | exc z S3 => rw [hft] at O2; dsimp only at O2; rw [big] at O2; exact False.elim O2
      | ok q S9 =>
        have fq : ft d S2 = .ok q S9 := by rw [hft]; dsimp only; rw [big]; rfl
        rw [fq] at O2
        simp only [Ev.R.bind_ok] at O2
        obtain ⟨τ', S3, b1, big⟩ := bind_ok big
        obtain ⟨bb, S4, b2, big⟩ := bind_ok big
        refine ⟨ρ2, S2, U3, _, d, R3, wipe_rep (((RE1.step s2)).step s3), r3, ?_⟩
        rw [b1]
        intro ρ3 U4 H2 σ2 s4 R4 rE w
        refine ⟨wipe_wrote w, ρ3, S3, U4, τ', R4, rE, ?_⟩
        rw [b2]
        intro ρ4 U5 H3 b' s5 R5 eb
        have eb : bb = b' := eb
        subst eb
        have steps : Step ρ2 U2 H ρ4 U5 H3 := (s3.trans s4).trans s5
        cases bb with
        | true =>
          rw [cond_true] at big
          obtain ⟨y, S5, b3, big⟩ := bind_ok big
          cases big
          simp only at O2
          rw [if_pos rfl]
          refine ⟨ρ4, S4, U5, τ', R5, rE.step s5, ?_⟩
          rw [b3]
          intro ρ5 U6 H4 v s6 R6 ry
          have st := steps.trans s6
          rw [← eH] at st
          obtain ⟨q1, q2, q3, q4, q5⟩ := beside_step R2 del_same st R6
          split at O2
          · rename_i l
            refine ⟨vs, q1, by rw [← RepDs.len rv]; exact l, _, less, ρ5, _, U6, acc ++ [y], vs ++ [v], k', by rw [del_upd2]; exact q4, by rw [del_upd2]; exact s2.trans q5, upd_same, Paired.app (RepDs.step q5 rv) (.cons ry .nil), rfl, ?_⟩
            rw [del_upd2]
            exact O2.step q5
          · exact False.elim O2
        | false =>
          rw [cond_false] at big
          cases big
          simp only at O2
          rw [if_neg (by decide)]
          rw [← eH] at steps
          obtain ⟨q1, q2, q3, q4, q5⟩ := beside_step R2 del_same steps R5
          exact ⟨_, less, ρ4, _, U5, acc, vs, k', q4, s2.trans q5, q1, RepDs.step q5 rv, rfl, O2.step q5⟩
end
end Ev
end

section
set_option Elab.async false
set_option linter.all false
namespace Ev
open PySem L2
/-- a statement's end, by values -/
inductive RFl where
  | nx (σ : St) | rt (v : V) | bk (σ : St) | ct (σ : St)
def RFl.to (D : Ends) (H : Hp) : RFl → Prop
  | .nx σ => D.nx σ H
  | .rt v => D.rt v H
  | .bk σ => D.bk σ H
  | .ct σ => D.ct σ H
def repFl (G : Glob) (ρ : List Addr) (U : Hp) (r : Fl × Env) (b : RFl) : Prop := match r.1, b with
  | .nx, .nx σ => RepE G ρ U r.2 σ
  | .bk, .bk σ => RepE G ρ U r.2 σ
  | .ct, .ct σ => RepE G ρ U r.2 σ
  | .rt d, .rt v => RepD G ρ U d v
  | _, _ => False
section
variable (G : Glob) (P : Prg) (C : Calls) (W : WX)
def simS (m : Sm) : TS := fun D σ H => ∃ ρ S U τ, Rel G ρ S U H ∧ RepE G ρ U τ σ ∧ OutG G (repFl G) ρ U H (evS P C m τ S) (fun b H' => b.to D H') fun c d H' => W c d σ H'
def simSs (ms : List Sm) : TS := fun D σ H => ∃ ρ S U τ, Rel G ρ S U H ∧ RepE G ρ U τ σ ∧ OutG G (repFl G) ρ U H (evSs P C ms τ S) (fun b H' => b.to D H') fun c d H' => W c d σ H'
end
section
variable {G : Glob} {P : Prg} {C : Calls} {W : WX} {X : Cx} {e a b c : Expr} {es args : List Expr} {m ma mb mc mo : E} {ms mk : List E} {f : F} {pos p p2 q : Pos} {st : Stmt} {sts : List Stmt} {s : Sm} {ss sa sb : List Sm}
variable {ρ ρ' : List Addr} {S S' : Store} {U U' H H' : Hp} {τ : Env} {σ : St} {Q : VK} {E' : XK}
theorem PS.imp {t t' : TS} (h : PS X st t) (i : ∀ D σ H, t' D σ H → t D σ H) : PS X st t' := ⟨fun pins s σ H D I w => h.run pins s σ H D I (i _ _ _ w)⟩
theorem PSs.imp {t t' : TS} (h : PSs X sts t) (i : ∀ D σ H, t' D σ H → t D σ H) : PSs X sts t' := ⟨fun pins s σ H D I w => h.run pins s σ H D I (i _ _ _ w)⟩
/-- a comprehension -/
theorem simF_comp {elt tg iter : Expr} {ifs : List Expr} {scope : Scope} {own : List (Str × Nat)} {mt : Tg} {it : Ev.It} {mf : List E} (hc : X.calm = true) (hN : X.N.Nodup) (hi : PI X tg iter (simI G P C W it)) (ok : BlkOk X.N X.env.scope scope own)
    (hg : ∀ (s : Shared) (H : Hp) (Ca : Addr) (cl : List (Str × Addr)) (fp : List Addr), PG (X.blk s H scope (compEnvC scope cl Ca X.env) fp) tg (simG G P C W0 mt))
    (ht : ∀ (s : Shared) (H : Hp) (Ca : Addr) (cl : List (Str × Addr)) (fp : List Addr), PTs (X.blk s H scope (compEnvC scope cl Ca X.env) fp) ifs (simTs G P C W0 mf))
    (he : ∀ (s : Shared) (H : Hp) (Ca : Addr) (cl : List (Str × Addr)) (fp : List Addr), PE (X.blk s H scope (compEnvC scope cl Ca X.env) fp) elt (simE G P C W0 m))
    (hs : ∀ x, foldedSetIterable iter X.env x = pure x) (hv : own.map (·.2) = tgVars mt) : PE X (.ListComp elt [⟨tg, iter, ifs, 0⟩] scope pos) (simF G P C W (.comp mt it mf m)) :=
  PE.imp (pe_lc hc hN hi ok hg ht he hs) fun σ H Q h => by rw [hv]; exact sim_comp_core rfl rfl rfl h
theorem simS_expr (he : PE X e (simE G P C W m)) (hs : swapsWith e none pos.line X.env = pure false) : PS X (.Expr e pos) (simS G P C W (.expr m)) := by
  refine PS.imp (ps_expr he hs) fun D σ H ⟨ρ, S, U, τ, R, RE, O⟩ => ?_
  simp only [evS] at O
  exact ⟨ρ, S, U, τ, R, RE, O.bind fun x S1 ρ1 U1 H1 v _ s1 R1 r1 h1 => h1.now (b := RFl.nx σ) R1 (RE.step s1)⟩
theorem simS_ret (he : PE X e (simE G P C W m)) : PS X (.Return (some e) pos) (simS G P C W (.ret m)) := by
  refine PS.imp (ps_ret he) fun D σ H ⟨ρ, S, U, τ, R, RE, O⟩ => ?_
  simp only [evS] at O
  exact ⟨ρ, S, U, τ, R, RE, O.bind fun x S1 ρ1 U1 H1 v _ s1 R1 r1 h1 => h1.now (b := RFl.rt v) R1 r1⟩
theorem simS_retN : PS X (.Return none pos) (simS G P C W .retN) := PS.imp ps_retN fun D σ H ⟨ρ, S, U, τ, R, RE, O⟩ => by
  simp only [evS] at O
  exact O.now (b := RFl.rt .non) R (repNon (G := G) (ρ := ρ) (U := U))
theorem simS_pass : PS X (.Pass pos) (simS G P C W .pass) := PS.imp ps_pass fun D σ H ⟨ρ, S, U, τ, R, RE, O⟩ => by
  simp only [evS] at O
  exact O.now (b := RFl.nx σ) R RE
theorem simS_brk : PS X (.Break pos) (simS G P C W .brk) := PS.imp ps_break fun D σ H ⟨ρ, S, U, τ, R, RE, O⟩ => by
  simp only [evS] at O
  exact O.now (b := RFl.bk σ) R RE
theorem simS_cont : PS X (.Continue pos) (simS G P C W .cont) := PS.imp ps_continue fun D σ H ⟨ρ, S, U, τ, R, RE, O⟩ => by
  simp only [evS] at O
  exact O.now (b := RFl.ct σ) R RE
/-- target = value -/
theorem simS_asg {tg : Expr} {t : Tg} (he : PE X e (simE G P C W m)) (hg : PG X tg (simG G P C W t)) (hs : swapsWithSole [tg] e pos.line X.env = pure false) (hw : swappedStores [tg] e X.env = pure none) (h1 : (assignEach [tg] X.env).map (·.2) = [assign tg X.env]) :
    PS X (.Assign [tg] e pos) (simS G P C W (.asg t m)) := by
  refine PS.imp (ps_asg he hg hs hw h1) fun D σ H ⟨ρ, S, U, τ, R, RE, O⟩ => ?_
  simp only [evS] at O
  refine ⟨ρ, S, U, τ, R, RE, O.bind fun x S1 ρ1 U1 H1 v _ s1 R1 r1 h1 => ?_⟩
  exact ⟨ρ1, S1, U1, τ, x, R1, RE.step s1, r1, h1.bind fun τ1 S2 ρ2 U2 H2 σ2 _ s2 R2 r2 h2 _ => h2.now (b := RFl.nx σ2) R2 r2⟩
/-- name = [..], stored within the comprehension's frame -/
theorem simS_setLc {i : Nat} {y : Str} {py spos : Pos} {elt tg iter : Expr} {ifs : List Expr} {scope : Scope} {own : List (Str × Nat)} {mt : Tg} {it : Ev.It} {mf : List E} {nw : Bool} (hc : X.calm = true) (hN : X.N.Nodup) (hy : X.N[i]? = some y) (hyl : X.env.scope.names.lookup y = some .local)
    (hsw : swapsWith (.ListComp elt [⟨tg, iter, ifs, 0⟩] scope pos) (some (.Name y py)) spos.line X.env = pure true) (hi : PI X tg iter (simI G P C W it)) (ok : BlkOk X.N X.env.scope scope own)
    (hg : ∀ (s : Shared) (H : Hp) (Ca : Addr) (cl : List (Str × Addr)) (fp : List Addr), PG (X.blk s H scope (compEnvC scope cl Ca X.env) fp) tg (simG G P C W0 mt))
    (ht : ∀ (s : Shared) (H : Hp) (Ca : Addr) (cl : List (Str × Addr)) (fp : List Addr), PTs (X.blk s H scope (compEnvC scope cl Ca X.env) fp) ifs (simTs G P C W0 mf))
    (he : ∀ (s : Shared) (H : Hp) (Ca : Addr) (cl : List (Str × Addr)) (fp : List Addr), PE (X.blk s H scope (compEnvC scope cl Ca X.env) fp) elt (simE G P C W0 m))
    (hs : ∀ x, foldedSetIterable iter X.env x = pure x) (hv : own.map (·.2) = tgVars mt) :
    PS X (.Assign [.Name y py] (.ListComp elt [⟨tg, iter, ifs, 0⟩] scope pos) spos) (simS G P C W (.asg (.nm i) (if nw then .nw (.comp mt it mf m) else .fr (.comp mt it mf m)))) := by
  refine PS.imp (ps_setLc hc hN hy hyl hsw hi ok hg ht he hs) fun D σ H ⟨ρ, S, U, τ, R, RE, O⟩ => ?_
  rw [hv]
  refine sim_comp_core rfl rfl rfl ?_
  refine ⟨ρ, S, U, τ, R, RE, ?_⟩
  cases nw with
  | false =>
    simp only [evS, evE, asgT, Bool.false_eq_true, if_false, bind_assoc] at O
    refine O.bind fun ds S1 ρ1 U1 H1 vs _ s1 R1 r1 h1 p hp => ?_
    cases e : allT ds with
    | none => simp [e] at h1; exact False.elim h1
    | some ts =>
      simp only [e, Option.map_some, ofOpt_some, Ev.R.bind_ok] at h1
      obtain ⟨R2, s2⟩ := R1.newU (o := .lst vs) hp
      refine h1 _ _ _ (.nx (σ.set i (some (.ref p)))) s2 R2 (((RE.step s1).step s2).set ?_)
      show RepT G _ _ _
      simp only [RepT]
      exact ⟨p, vs, rfl, upd_same, RepTs.mono s2.mono _ _ (allT_rep e r1)⟩
  | true =>
    simp only [evS, evE, asgT, if_true, bind_assoc, Ev.R.bind_ok] at O
    refine O.bind fun ds S1 ρ1 U1 H1 vs _ s1 R1 r1 h1 p hp => ?_
    obtain ⟨R2, s2⟩ := R1.newC (o := .lst vs) (c := .lst ds) hp ⟨vs, upd_same, RepDs.mono (List.prefix_append _ _) (fun _ _ h => h) r1⟩
    exact h1 _ _ _ (.nx (σ.set i (some (.ref p)))) s2 R2 (((RE.step s1).step s2).set ⟨p, by rw [← R1.len]; simp, rfl⟩)
/-! ### blocks -/
theorem simSs_nil : PSs X [] (simSs G P C W []) := PSs.imp pss_nil fun D σ H ⟨ρ, S, U, τ, R, RE, O⟩ => by
  simp only [evSs] at O
  exact O.now (b := RFl.nx σ) R RE
theorem simSs_one (h : PS X st (simS G P C W s)) : PSs X [st] (simSs G P C W [s]) := by
  refine PSs.imp (pss_one h) fun D σ H ⟨ρ, S, U, τ, R, RE, O⟩ => ⟨ρ, S, U, τ, R, RE, ?_⟩
  simp only [evSs] at O
  have e : evS P C s τ S = (evS P C s τ S).bind fun q S1 => match q.1 with
    | .nx => Ev.R.ok (.nx, q.2) S1
    | _ => .ok q S1 := by
    cases evS P C s τ S with
    | ok q S1 => obtain ⟨fl, τ1⟩ := q; cases fl <;> rfl
    | exc _ _ => rfl
    | bad => rfl
  rw [e]; exact O
theorem simSs_cons (hW : ∀ c d σ σ' H, W c d σ H → W c d σ' H) (h1 : PS X st (simS G P C W s)) (h2 : PSs X sts (simSs G P C W ss)) : PSs X (st :: sts) (simSs G P C W (s :: ss)) := by
  refine PSs.imp (pss_cons h1 h2) fun D σ H ⟨ρ, S, U, τ, R, RE, O⟩ => ⟨ρ, S, U, τ, R, RE, ?_⟩
  simp only [evSs] at O
  refine O.bind fun q S1 ρ1 U1 H1 b _ s1 R1 r1 h1 => ?_
  obtain ⟨fl, τ1⟩ := q
  cases fl with
  | nx =>
    cases b <;> first | exact False.elim r1 | skip
    rename_i σ1
    refine ⟨ρ1, S1, U1, τ1, R1, r1, ?_⟩
    simp only at h1
    cases e : evSs P C ss τ1 S1 with
    | ok a S2 => rw [e] at h1; exact h1
    | exc x S2 => rw [e] at h1; exact fun _ _ _ _ _ a b c => hW _ _ _ _ _ (h1 _ _ _ _ _ a b c)
    | bad => rw [e] at h1; exact h1
  | rt d => cases b <;> first | exact False.elim r1 | exact h1.now (b := RFl.rt _) R1 r1
  | bk => cases b <;> first | exact False.elim r1 | exact h1.now (b := RFl.bk _) R1 r1
  | ct => cases b <;> first | exact False.elim r1 | exact h1.now (b := RFl.ct _) R1 r1
theorem simS_iff {ct : Expr} {ba bb : List Stmt} (hc : PT X ct (simT G P C W m)) (ha : PSs X ba (simSs G P C W sa)) (hb : PSs X bb (simSs G P C W sb)) : PS X (.If ct ba bb pos) (simS G P C W (.iff m sa sb)) := by
  refine PS.imp (ps_if hc ha hb) fun D σ H ⟨ρ, S, U, τ, R, RE, O⟩ => ?_
  simp only [evS] at O
  refine ⟨ρ, S, U, τ, R, RE, O.bind fun x S1 ρ1 U1 H1 k _ s1 R1 r1 h1 => ?_⟩
  have r1 : x = k := r1
  subst r1
  cases x with
  | true => rw [if_pos rfl]; exact ⟨ρ1, S1, U1, τ, R1, RE.step s1, h1⟩
  | false => rw [if_neg (by decide)]; exact ⟨ρ1, S1, U1, τ, R1, RE.step s1, h1⟩
end
end Ev
end

section
set_option Elab.async false
set_option linter.all false
namespace Ev
open PySem L2
section
variable {G : Glob} {P : Prg} {C : Calls} {W : WX} {X : Cx} {e a b c : Expr} {es args : List Expr} {m ma mb mc mo : E} {ms mk : List E} {f : F} {pos p p2 q : Pos} {st : Stmt} {sts : List Stmt} {s : Sm} {ss sa sb : List Sm}
variable {ρ ρ' : List Addr} {S S' : Store} {U U' H H' : Hp} {τ : Env} {σ : St} {Q : VK} {E' : XK}
theorem op_ibin {o : BOp} (ho : o ≠ .pow) : OpR X (inplaceOp o.op) (rBin o) := by
  intro pins s σ H x y v u Q I rx ry h
  rcases h with ⟨i, j, k, rfl, rfl, h, q⟩ | ⟨i, j, rfl, rfl, rfl, h, q⟩
  · cases o <;> simp only [numOp, Option.some.injEq] at h <;> try subst h
    · exact iop_add pins s σ H _ _ v u Q I rx ry ⟨i, j, rfl, rfl, q⟩
    · exact iop_sub pins s σ H _ _ v u Q I rx ry ⟨i, j, rfl, rfl, q⟩
    · split at h <;> cases h
      rename_i c
      exact iop_mul pins s σ H _ _ v u Q I rx ry ⟨i, j, rfl, rfl, c, q⟩
    · split at h <;> cases h
      rename_i c
      exact iop_fdiv pins s σ H _ _ v u Q I rx ry ⟨i, j, rfl, rfl, c, q⟩
    · split at h <;> cases h
      rename_i c
      exact iop_mod pins s σ H _ _ v u Q I rx ry ⟨i, j, rfl, rfl, c, q⟩
    · exact absurd rfl ho
    · split at h <;> cases h
      rename_i c
      exact iop_shl pins s σ H _ _ v u Q I rx ry ⟨i, j, rfl, rfl, c, q⟩
    · split at h <;> cases h
      rename_i c
      exact iop_shr pins s σ H _ _ v u Q I rx ry ⟨i, j, rfl, rfl, c, q⟩
    · exact iop_and pins s σ H _ _ v u Q I rx ry ⟨i, j, rfl, rfl, q⟩
    · exact iop_or pins s σ H _ _ v u Q I rx ry ⟨i, j, rfl, rfl, q⟩
    · exact iop_xor pins s σ H _ _ v u Q I rx ry ⟨i, j, rfl, rfl, q⟩
  · exact iop_add_str pins s σ H _ _ v u Q I rx ry ⟨i, j, rfl, rfl, h, q⟩
/-- x op= e -/
theorem simS_aug {i : Nat} {x : Str} {o : BOp} {p' : Pos} (ho : o ≠ .pow) (hN : X.N.Nodup) (hi : X.N[i]? = some x) (hx : Loc X.env.scope x) (hf : X.fn x = true ∨ X.env.scope.names.lookup x = some .local) (he : PE X e (simE G P C W m)) : PS X (.AugAssign (.Name x p') o.op e pos) (simS G P C W (.aug i o m)) := by
  refine PS.imp (ps_aug hN hi hx he (op_ibin ho) hf) fun D σ H ⟨ρ, S, U, τ, R, RE, O⟩ => ?_
  simp only [evS] at O
  split at O
  · rename_i d hd
    obtain ⟨v, h1, h2⟩ := RE.2 i d hd
    refine ⟨v, h1, ρ, S, U, τ, R, RE, O.bind fun y S1 ρ1 U1 H1 u _ s1 R1 r1 h3 => ?_⟩
    have z : OutG G (RepD G) ρ1 U1 H1 (evBin o d y S1) (fun z H2 => D.nx (σ.set i (some z)) H2) fun c d H' => W c d σ H' :=
      h3.bind fun z S2 ρ2 U2 H2 w _ s2 R2 r2 h4 => h4.now (b := RFl.nx _) R2 (((RE.step s1).step s2).set r2)
    exact bin_out R1 (h2.step s1) r1 z
  · exact False.elim O
theorem get_list : PGet X (rIxL X.K) := by
  intro pins s σ H o i ov iv Q I rx ry h
  obtain ⟨p, xs, i, z, rfl, rfl, hq, he, q⟩ := h
  cases rx
  obtain ⟨t, rfl⟩ := ry
  obtain ⟨its, r, pl, hz⟩ := I.list hq
  obtain ⟨j, h1, h2, h3, h4, h5⟩ := atI_get he
  obtain ⟨w, ew, rw'⟩ := r.get h2
  have hl := r.length
  have fin : EP X pins σ Q w s := ⟨z, H, I, rw', q⟩
  by_cases h0 : 0 ≤ i
  · have hj : i.toNat = j := by
      rw [seqIndex_of h0 h5] at h1
      exact Option.some.inj h1
    exact wpAny_getItem_list pl.isList h0 (by rw [sizeLine_eq] at hz; omega) (by rw [hj]; simpa using ew) fin
  · have hj : (i + (its.toArray.size : Int)).toNat = j := by
      rw [seqIndex_neg (by omega) h4] at h1
      rw [List.size_toArray, ← hl]
      exact Option.some.inj h1
    exact wpAny_getItem_list_neg pl.isList (by omega) (by rw [List.size_toArray] <;> omega) (by rw [sizeLine_eq] at hz; omega) (by rw [hj]; simpa using ew) fin
theorem get_dict (hu : X.A.units + 1 < cLine) : PGet X rIxD := by
  intro pins s σ H o i ov iv Q I rx ry h
  obtain ⟨a, v, rfl, g, q⟩ := h
  cases rx
  exact d_getItem hu I g ry fun w' s3 I3 rw' => ⟨v, H, I3, rw', q⟩
theorem idx_loc {K : PySem.W.Frag} {n : Nat} {y : D} {v u : V} (R : Rel G ρ S U H) (r1 : RepD G ρ U (.loc n) v) (r2 : RepD G ρ U y u) (h : OutG G (RepD G) ρ U H (evIdx (.loc n) y S) Q E') : rIxL K v u H Q ∨ rIxD v u H Q := by
  unfold evIdx at h
  split at h
  · rename_i hx; cases hx
  · rename_i hx; cases hx
  · rename_i hx; cases hx
  · rename_i hx; cases hx
  · rename_i hx; cases hx
  · rename_i n' k hx
    cases hx
    obtain ⟨a, ha, rfl⟩ := r1
    split at h
    · rename_i ds hs
      obtain ⟨vs, h1, h2⟩ := R.cell _ _ a hs ha
      split at h
      · obtain ⟨d, e, h⟩ := OutG.opt h
        have r2 := r2.t; simp only [RepT] at r2; subst r2
        obtain ⟨z, e1, e2⟩ := RepDs.atI h2 e
        exact .inl ⟨a, vs, _, z, rfl, rfl, SqL.of h1, e1, h.now R e2⟩
      · exact h.elim
    · rename_i kvs hs
      obtain ⟨vs, h1, h2⟩ := R.cell _ _ a hs ha
      obtain ⟨d, e, h⟩ := OutG.opt h
      simp only [Option.bind_eq_some_iff] at e
      obtain ⟨kk, e1, e2⟩ := e
      have r2 := toKey_rep e1 r2.t
      rcases RepDK.get kk h2 with ⟨z1, _⟩ | ⟨t', v', z1, z2, z3⟩
      · rw [z1] at e2; cases e2
      · rw [z1] at e2; cases e2
        exact .inr ⟨a, v', rfl, by rw [r2, ← z2]; exact DGet.k h1, h.now R z3⟩
    · exact h.elim
  · exact h.elim
theorem put_noexc {x y d : D} {S S3 : Store} {z : Exn} (e : evPut x y d S = .exc z S3) : False := by
  unfold evPut at e
  split at e
  · split at e
    · split at e
      · split at e <;> cases e
      · cases e
    · split at e
      · split at e <;> cases e
      · cases e
    · cases e
  · cases e
theorem PGet.or {r r' : V → V → Hp → VK → Prop} (h : PGet X r) (h' : PGet X r') : PGet X (fun o i H Q => r o i H Q ∨ r' o i H Q) := by
  intro pins s σ H o i ov iv Q I ro ri q
  rcases q with q | q
  · exact h pins s σ H o i ov iv Q I ro ri q
  · exact h' pins s σ H o i ov iv Q I ro ri q
/-- a[b] op= e -/
theorem simS_augIx (hk : ArgOk G X.K) (hu : X.A.units + 1 < cLine) {o : BOp} {p' : Pos} (ho : o ≠ .pow) (ha : PE X a (simE G P C W ma)) (hi : PE X b (simE G P C W mb)) (he : PE X e (simE G P C W m))
    (hst : ∀ ov iv new, augStore b ov iv new = (do holding [new, ov, iv] (setItem ov iv new); release [new, ov, iv] []; pure .next)) : PS X (.AugAssign (.Subscript a b p') o.op e pos) (simS G P C W (.augIx ma mb o m)) := by
  refine PS.imp (ps_augS ha hi (PGet.or get_list (get_dict hu)) he (op_ibin ho) (PSet.or set_list (set_dict hu)) hst) fun D σ H ⟨ρ, S, U, τ, R, RE, O⟩ => ?_
  simp only [evS] at O
  refine ⟨ρ, S, U, τ, R, RE, O.bind fun x S1 ρ1 U1 H1 o' _ s1 R1 r1 h1 => ?_⟩
  refine ⟨ρ1, S1, U1, τ, R1, RE.step s1, ?_⟩
  split at h1
  case isFalse => exact h1.elim
  rename_i hl
  cases x with
  | t x => cases hl
  | loc n =>
  refine h1.bind fun k S2 ρ2 U2 H2 u _ s2 R2 r2 h2 => ?_
  have z3 : OutG G (RepD G) ρ2 U2 H2 (evIdx (.loc n) k S2) (fun old H3 => (simE G P C W m) σ H3 fun y H4 => rBin o old y H4 fun z H5 => (fun o i v H Q => rSetL o i v H Q ∨ rSetD o i v H Q) o' u z H5 fun H6 => D.nx σ H6) fun c d H' => W c d σ H' :=
    h2.bind fun v S3 ρ3 U3 H3 w _ s3 R3 r3 h3 => ⟨ρ3, S3, U3, τ, R3, ((RE.step s1).step s2).step s3, h3.bind fun y S4 ρ4 U4 H4 t _ s4 R4 r4 h4 => by
      have z5 : OutG G (RepD G) ρ4 U4 H4 (evBin o v y S4) (fun z H5 => rSetL o' u z H5 (fun H6 => D.nx σ H6) ∨ rSetD o' u z H5 fun H6 => D.nx σ H6) fun c d H' => W c d σ H' :=
        h4.bind fun z S5 ρ5 U5 H5 q _ s5 R5 r5 h5 => by
          cases e5 : evPut (.loc n) k z S5 with
          | bad => rw [e5] at h5; exact False.elim h5
          | exc x1 S6 => exact (put_noexc e5).elim
          | ok x1 S6 =>
            rw [e5] at h5
            obtain ⟨H6, q6, R6, s6⟩ := put_rep R5 ((((r1.step s2).step s3).step s4).step s5) (((r2.step s3).step s4).step s5) r5 e5
            have fin : D.nx σ H6 := h5 _ _ _ (RFl.nx σ) s6 R6 ((((((RE.step s1).step s2).step s3).step s4).step s5).step s6)
            rcases q6 with ⟨p, xs, k, j, e1, e2, e3, e4, e6⟩ | ⟨a, H7, e1, e2, e3⟩
            · exact .inl ⟨p, xs, k, j, e1, e2, e3, e4, by rw [e6]; exact fin⟩
            · exact .inr ⟨a, H7, e1, e2, by rw [e3]; exact fin⟩
      exact bin_out R4 (r3.step s4) r4 z5⟩
  exact idx_loc R2 (r1.step s2) r2 z3
/-- o.f = e -/
theorem simS_fasg (g : GOk G X.K P) {o : Expr} {fi : Nat} {p' : Pos} (hfi : fi < G.nf) (ho : PE X o (simE G P C W mo)) (he : PE X e (simE G P C W m)) (hs : swapsWith e (some (.Attribute o (G.fld fi) p')) pos.line X.env = pure false) : PS X (.Assign [.Attribute o (G.fld fi) p'] e pos) (simS G P C W (.fasg mo fi m)) := by
  refine PS.imp (ps_fld ho he hs) fun D σ H ⟨ρ, S, U, τ, R, RE, O⟩ => ?_
  simp only [evS] at O
  refine ⟨ρ, S, U, τ, R, RE, O.bind fun y S1 ρ1 U1 H1 v _ s1 R1 r1 h1 => ?_⟩
  refine ⟨ρ1, S1, U1, τ, R1, RE.step s1, h1.bind fun x S2 ρ2 U2 H2 u _ s2 R2 r2 h2 => ?_⟩
  split at h2
  · rename_i n
    obtain ⟨a, ha, rfl⟩ := r2
    split at h2
    · rename_i c fs hs
      split at h2
      · rename_i l
        obtain ⟨dx, vs, q1, q2, q3⟩ := R2.cell _ _ a hs ha
        have len := Paired.length q3
        refine ⟨a, _, dx, vs, rfl, q1, g.cls c, g.noat c fi hfi, by rw [← len]; exact l, ?_⟩
        have z := R2.put (o := .ins (G.cls c) dx (putF (G.fld fi) v vs)) (c' := .ins c (fPut fi y fs)) hs ha trivial ⟨dx, _, upd_same, q2, by
          have r1' : RepD G ρ2 U2 y v := r1.step s2
          clear q1 hs len l h2
          induction q3 with
          | nil => exact .cons ⟨⟨rfl, hfi⟩, r1'⟩ .nil
          | cons r t ih =>
            rename_i p q _ _
            obtain ⟨j, d⟩ := p
            obtain ⟨nm, w⟩ := q
            obtain ⟨⟨e1, e2⟩, e3⟩ := r
            simp only at e1 e2 e3
            subst e1
            simp only [fPut, putF]
            by_cases z : j = fi
            · subst z
              rw [if_pos rfl, if_pos rfl]
              exact .cons ⟨⟨rfl, e2⟩, r1'⟩ t
            · rw [if_neg z, if_neg fun w => z (g.inj _ _ e2 hfi w)]
              exact .cons ⟨⟨rfl, e2⟩, e3⟩ ih⟩
        exact h2 _ _ _ (.nx σ) z.2 z.1 (((RE.step s1).step s2).step z.2)
      · exact False.elim h2
    · exact False.elim h2
  · exact False.elim h2
/-- the rest of a for's turns -/
noncomputable def restF (src : Src) (f : D → Env → Store → R (Fl × Env)) (k i : Nat) (τ : Env) (S : Store) : R (Fl × Env) := match src with
  | .ds ds => forL f (ds.drop i) τ S
  | .cell n _ => forC n f k i τ S
/-- what a turn's end is -/
def turnE (next : Env → Store → R (Fl × Env)) (q : Fl × Env) (S' : Store) : R (Fl × Env) := match q.1 with
  | .nx => next q.2 S'
  | .ct => next q.2 S'
  | .bk => .ok (.nx, q.2) S'
  | .rt v => .ok (.rt v, q.2) S'
theorem restF_turn {src : Src} {f : D → Env → Store → R (Fl × Env)} {k i : Nat} {τ : Env} {S : Store} (h : restF src f k i τ S ≠ .bad) :
    (srcAt src S i = some none ∧ restF src f k i τ S = .ok (.nx, τ) S) ∨ ∃ d k', srcAt src S i = some (some d) ∧ (match src with | .ds ds => i < ds.length | .cell _ _ => k' + 1 = k) ∧
      restF src f k i τ S = (f d τ S).bind (turnE fun τ' S' => restF src f k' (i + 1) τ' S') := by
  have same : ∀ (r : R (Fl × Env)) (g h : Fl × Env → Store → R (Fl × Env)), (∀ q S, g q S = h q S) → r.bind g = r.bind h := fun r g h e => by cases r with
    | ok a S => exact e a S
    | _ => rfl
  cases src with
  | ds ds =>
    have key : ∀ i τ S, restF (.ds ds) f k i τ S = forL f (ds.drop i) τ S := fun _ _ _ => rfl
    simp only [srcAt]
    by_cases l : i < ds.length
    · refine .inr ⟨ds[i], k, by rw [List.getElem?_eq_getElem l], l, ?_⟩
      rw [key, List.drop_eq_getElem_cons l, forL]
      refine same _ _ _ fun q S => ?_
      obtain ⟨fl, τ1⟩ := q
      cases fl <;> rfl
    · have e : ds.drop i = [] := List.drop_eq_nil_of_le (by omega)
      exact .inl ⟨by rw [List.getElem?_eq_none (by omega)], by rw [key, e]; rfl⟩
  | cell n z =>
    have key : ∀ k i τ S, restF (.cell n z) f k i τ S = forC n f k i τ S := fun _ _ _ _ => rfl
    rw [key] at h
    rw [forC] at h
    simp only [srcAt]
    cases e : S[n]? with
    | none => rw [e] at h; exact absurd rfl h
    | some c =>
      rw [e] at h
      cases c with
      | lst ds =>
        cases e2 : ds[i]? with
        | none => exact .inl ⟨by simp [e2], by rw [key, forC, e]; simp only [e2]⟩
        | some d =>
          simp only [e2] at h
          cases k with
          | zero => exact absurd rfl h
          | succ k =>
            refine .inr ⟨d, k, by simp [e2], rfl, ?_⟩
            rw [key, forC, e]
            simp only [e2]
            refine same _ _ _ fun q S => ?_
            obtain ⟨fl, τ1⟩ := q
            cases fl <;> rfl
      | _ => exact absurd rfl h
theorem OutG.toE {α β : Type} {rep : List Addr → Hp → α → β → Prop} {r : R α} {Q1 : β → Hp → Prop} {E1 E2 : XK} (h : OutG G rep ρ U H r Q1 E1) (k : ∀ c d H', E1 c d H' → E2 c d H') : OutG G rep ρ U H r Q1 E2 := by
  cases r with
  | ok a S => exact h
  | exc e S => exact fun ρ' U' H' c d s R x => k _ _ _ (h ρ' U' H' c d s R x)
  | bad => exact h
theorem simS_for {tg iter : Expr} {body : List Stmt} {mt : Tg} {it : Ev.It} (hW : ∀ c d σ σ' H, W c d σ H → W c d σ' H) (hp : PassesOwn (model X.prog X.w) X.A X.env X.xe) (hc : X.calm = true) (hi : PI X tg iter (simI G P C W it)) (hg : PG X tg (simG G P C W mt)) (hb : PSs X body (simSs G P C W ss))
    (hs : ∀ x, foldedSetIterable iter X.env x = pure x) : PS X (.For tg iter body [] pos) (simS G P C W (.for_ mt it ss)) := by
  refine PS.imp (ps_for hp hc hi hg hb hs) fun D σ0 H ⟨ρ, S, U, τ, R, RE, O⟩ => ?_
  simp only [evS] at O
  refine ⟨ρ, S, U, τ, R, RE, O.bind fun src S1 ρ1 U1 H1 J _ s1 R1 rs h1 => ?_⟩
  obtain ⟨ft, hft⟩ : ∃ ft : Ev.D → Env → Store → Ev.R (Fl × Env), ft = fun d τ S => (asgT P C mt d τ S).bind fun τ1 S2 => evSs P C ss τ1 S2 := ⟨_, rfl⟩
  rw [← hft] at h1
  obtain ⟨k0, h1⟩ : ∃ k0, OutG G (repFl G) ρ1 U1 H1 (restF src ft k0 0 τ S1) (fun b H' => b.to D H') fun c d H' => W c d σ0 H' := by
    cases src with
    | ds ds => exact ⟨0, by simpa [restF] using h1⟩
    | cell n k => exact ⟨k, by simpa [restF] using h1⟩
  refine ⟨fun i m σ H => ∃ ρ2 S2 U2 τ2 k, Rel G ρ2 S2 U2 H ∧ RepE G ρ2 U2 τ2 σ ∧ (ρ1 <+: ρ2 ∧ Sub U1 U2) ∧ m = mesC src k i ∧ OutG G (repFl G) ρ2 U2 H (restF src ft k i τ2 S2) (fun b H' => b.to D H') fun c d H' => W c d σ0 H',
    ⟨_, ρ1, S1, U1, τ, k0, R1, RE.step s1, ⟨List.prefix_refl _, fun _ _ h => h⟩, rfl, h1⟩, ?_⟩
  rintro i m' σ H ⟨ρ2, S2, U2, τ2, k, R2, RE2, pr, rfl, O2⟩
  have src' := rs ρ2 S2 U2 H i pr.1 pr.2 R2
  rcases restF_turn (src := src) (f := ft) (k := k) (i := i) (τ := τ2) (S := S2) (fun z => by rw [z] at O2; exact O2) with ⟨e1, e2⟩ | ⟨d, k', e1, e2, e3⟩
  · rw [e2] at O2
    exact .inl ⟨src'.1 e1, O2.now (b := RFl.nx σ) R2 RE2⟩
  · obtain ⟨go, yl⟩ := src'.2 d e1
    have less : mesC src k' (i + 1) < mesC src k i := by
      cases src with
      | ds ds => simp only [mesC]; simp only at e2; omega
      | cell n z => simp only [mesC]; simp only at e2; omega
    rw [e3, hft] at O2
    simp only [bind_assoc] at O2
    refine .inr ⟨go, fun σ' H' => ∃ m2, m2 < mesC src k i ∧ ∃ ρ2 S2 U2 τ2 k, Rel G ρ2 S2 U2 H' ∧ RepE G ρ2 U2 τ2 σ' ∧ (ρ1 <+: ρ2 ∧ Sub U1 U2) ∧ m2 = mesC src k (i + 1) ∧ OutG G (repFl G) ρ2 U2 H' (restF src ft k (i + 1) τ2 S2) (fun b H' => b.to D H') fun c d H' => W c d σ0 H', fun σ' H' z => z, fun x H' hy => ?_⟩
    obtain ⟨U3, R3, s3, r3⟩ := yl x H' hy
    refine ⟨ρ2, S2, U3, τ2, d, R3, RE2.step s3, r3, ((O2.step s3).toE fun _ _ _ z => hW _ _ _ σ _ z).bind fun τ3 S3 ρ3 U4 H3 σ3 _ s4 R4 r4 h4 _ => ?_⟩
    refine ⟨ρ3, S3, U4, τ3, R4, r4, (h4.toE fun _ _ _ z => hW _ _ _ σ3 _ z).bind fun q S4 ρ4 U5 H4 b _ s5 R5 r5 h5 => ?_⟩
    obtain ⟨fl, τ4⟩ := q
    have pr4 : ρ1 <+: ρ4 ∧ Sub U1 U5 := ⟨((pr.1.trans s3.pre).trans s4.pre).trans s5.pre, fun a o h => s5.mono _ _ (s4.mono _ _ (s3.mono _ _ (pr.2 a o h)))⟩
    cases fl with
    | nx =>
      cases b <;> first | exact False.elim r5 | skip
      refine ⟨_, less, ρ4, S4, U5, τ4, k', R5, r5, pr4, rfl, ?_⟩
      rw [hft]
      exact (show OutG G (repFl G) ρ4 U5 H4 (restF src _ k' (i + 1) τ4 S4) _ _ from h5).toE fun _ _ _ z => hW _ _ _ σ0 _ z
    | ct =>
      cases b <;> first | exact False.elim r5 | skip
      refine ⟨_, less, ρ4, S4, U5, τ4, k', R5, r5, pr4, rfl, ?_⟩
      rw [hft]
      exact (show OutG G (repFl G) ρ4 U5 H4 (restF src _ k' (i + 1) τ4 S4) _ _ from h5).toE fun _ _ _ z => hW _ _ _ σ0 _ z
    | bk =>
      cases b <;> first | exact False.elim r5 | skip
      rename_i σ4
      exact OutG.now (b := RFl.nx σ4) (show OutG G (repFl G) ρ4 U5 H4 (.ok (.nx, τ4) S4) (fun b H' => b.to D H') _ from h5) R5 r5
    | rt v =>
      cases b <;> first | exact False.elim r5 | skip
      rename_i w
      exact OutG.now (b := RFl.rt w) (show OutG G (repFl G) ρ4 U5 H4 (.ok (.rt v, τ4) S4) (fun b H' => b.to D H') _ from h5) R5 r5
end
end Ev
end

section
set_option Elab.async false
set_option linter.all false
namespace Ev
open PySem L2
section
variable {G : Glob} {P : Prg} {C : Calls} {W : WX} {X : Cx} {e a b c : Expr} {es args : List Expr} {m ma mb mc mo : E} {ms mk : List E} {f : F} {pos p p2 q : Pos} {st : Stmt} {sts : List Stmt} {s : Sm} {ss sa sb : List Sm}
variable {ρ ρ' : List Addr} {S S' : Store} {U U' H H' : Hp} {τ : Env} {σ : St} {Q : VK} {E' : XK}
theorem simS_whil {ct : Expr} {body : List Stmt} {k : Nat} (hW : ∀ c d σ σ' H, W c d σ H → W c d σ' H) (hp : PassesOwn (model X.prog X.w) X.A X.env X.xe) (hc : PT X ct (simT G P C W m)) (hb : PSs X body (simSs G P C W ss)) : PS X (.While ct body [] pos) (simS G P C W (.whil k m ss)) := by
  refine PS.imp (ps_while hp hc hb) fun D σ0 H ⟨ρ, S, U, τ, R, RE, O⟩ => ?_
  simp only [evS] at O
  refine ⟨fun j σ H => ∃ ρ S U τ, Rel G ρ S U H ∧ RepE G ρ U τ σ ∧ OutG G (repFl G) ρ U H (whiL (evT P C m) (evSs P C ss) j τ S) (fun b H' => b.to D H') fun c d H' => W c d σ0 H', ⟨k, ρ, S, U, τ, R, RE, O⟩, ?_⟩
  rintro j σ H ⟨ρ, S, U, τ, R, RE, O⟩
  cases j with
  | zero => exact False.elim O
  | succ j =>
    simp only [whiL] at O
    refine ⟨ρ, S, U, τ, R, RE, (O.toE fun _ _ _ z => hW _ _ _ σ _ z).bind fun x S1 ρ1 U1 H1 kk _ s1 R1 r1 h1 => ?_⟩
    have r1 : x = kk := r1
    subst r1
    cases x with
    | false => rw [if_neg (by decide)]; exact h1.now (b := RFl.nx σ) R1 (RE.step s1)
    | true =>
      rw [if_pos rfl]
      refine ⟨fun σ' H' => ∃ m', m' < j + 1 ∧ ∃ ρ S U τ, Rel G ρ S U H' ∧ RepE G ρ U τ σ' ∧ OutG G (repFl G) ρ U H' (whiL (evT P C m) (evSs P C ss) m' τ S) (fun b H' => b.to D H') fun c d H' => W c d σ0 H', fun σ' H' z => z, ?_⟩
      refine ⟨ρ1, S1, U1, τ, R1, RE.step s1, h1.bind fun q S4 ρ4 U5 H4 b _ s5 R5 r5 h5 => ?_⟩
      obtain ⟨fl, τ4⟩ := q
      cases fl with
      | nx =>
        cases b <;> first | exact False.elim r5 | skip
        exact ⟨j, Nat.lt_succ_self _, ρ4, S4, U5, τ4, R5, r5, OutG.toE (show OutG G (repFl G) ρ4 U5 H4 (whiL (evT P C m) (evSs P C ss) j τ4 S4) _ _ from h5) fun _ _ _ z => hW _ _ _ σ0 _ z⟩
      | ct =>
        cases b <;> first | exact False.elim r5 | skip
        exact ⟨j, Nat.lt_succ_self _, ρ4, S4, U5, τ4, R5, r5, OutG.toE (show OutG G (repFl G) ρ4 U5 H4 (whiL (evT P C m) (evSs P C ss) j τ4 S4) _ _ from h5) fun _ _ _ z => hW _ _ _ σ0 _ z⟩
      | bk =>
        cases b <;> first | exact False.elim r5 | skip
        rename_i σ4
        exact OutG.now (b := RFl.nx σ4) (show OutG G (repFl G) ρ4 U5 H4 (.ok (.nx, τ4) S4) (fun b H' => b.to D H') _ from h5) R5 r5
      | rt v =>
        cases b <;> first | exact False.elim r5 | skip
        rename_i w
        exact OutG.now (b := RFl.rt w) (show OutG G (repFl G) ρ4 U5 H4 (.ok (.rt v, τ4) S4) (fun b H' => b.to D H') _ from h5) R5 r5
/-- a, b = x, y: the pair is a tuple beside -/
theorem simS_mas {ts : List Tg} {tgs : List Expr} {k k2 n : Nat} {p1 p2 : Pos} (hc : X.calm = true) (he : PA X es (simA G P C W ms)) (hg : PGs X tgs (simGs G P C W ts)) (hn : (assignEach tgs X.env).length = n) (hst : (assignEach tgs X.env).findIdx? (·.1) = none) (hts : ts.length = n)
    (hs : swapsWithSole [.Tuple tgs k p1] (.Tuple es k2 p2) pos.line X.env = pure false) (hw : swappedStores [.Tuple tgs k p1] (.Tuple es k2 p2) X.env = pure none) (h1 : (assignEach [.Tuple tgs k p1] X.env).map (·.2) = [assign (.Tuple tgs k p1) X.env]) :
    PS X (.Assign [.Tuple tgs k p1] (.Tuple es k2 p2) pos) (simS G P C W (.mas ts ms)) := by
  refine PS.imp (ps_asg (pe_tup he) (pg_tup hc hg hn hst) hs hw h1) fun D σ H ⟨ρ, S, U, τ, R, RE, O⟩ => ?_
  simp only [evS] at O
  refine manyE (rep := repFl G) (Qb := fun b H' => b.to D H') R RE O fun xs S1 ρ1 U1 H1 vs len R1 RE1 r1 h1 => ?_
  split at h1
  · rename_i l
    have e1 := RepDs.len r1
    refine ⟨by rw [← e1]; exact l.2, fun p hp => ?_⟩
    obtain ⟨R2, s2⟩ := R1.newU (o := .tup vs) hp
    refine ⟨p, vs, rfl, SqT.of upd_same, by rw [← e1, l.1, hts], ρ1, _, _, _, _, R2, RE1.step s2, RepDs.step s2 r1, ?_⟩
    exact (h1.step s2).bind fun τ1 S2 ρ2 U2 H2 σ2 _ s3 R3 r3 h3 _ => h3.now (b := RFl.nx σ2) R3 r3
  · exact False.elim h1
/-- x, y = e1, e2, both plain names -/
theorem simS_par {i j : Nat} {x y : Str} {px py pt : Pos} {kt k2 : Nat} {pt2 : Pos} (hc : X.calm = true) (hN : X.N.Nodup) (hi : X.N[i]? = some x) (hj : X.N[j]? = some y) (hij : i ≠ j) (hx : X.env.scope.names.lookup x = some .local) (hy : X.env.scope.names.lookup y = some .local)
    (ha : PA X [a, b] (simA G P C W [ma, mb])) (hw : swappedStores [.Tuple [.Name x px, .Name y py] kt pt] (.Tuple [a, b] k2 pt2) X.env = pure (some [x, y])) (hs : swapsWithSole [.Tuple [.Name x px, .Name y py] kt pt] (.Tuple [a, b] k2 pt2) pos.line X.env = pure false) :
    PS X (.Assign [.Tuple [.Name x px, .Name y py] kt pt] (.Tuple [a, b] k2 pt2) pos) (simS G P C W (.mas [.nm i, .nm j] [ma, mb])) := by
  refine PS.imp (ps_par hc hN hi hj hij hx hy ha hw hs) fun D σ H ⟨ρ, S, U, τ, R, RE, O⟩ => ?_
  simp only [evS] at O
  refine manyE (rep := repFl G) (Qb := fun b H' => b.to D H') R RE O fun xs S1 ρ1 U1 H1 vs len R1 RE1 r1 h1 => ?_
  match xs, len with
  | [d1, d2], _ =>
    obtain ⟨v, u, rfl, r1, r2⟩ := RepDs.two r1
    have l : ([d1, d2] : List Ev.D).length = ([Tg.nm i, Tg.nm j] : List Tg).length ∧ ([d1, d2] : List Ev.D).length ≤ 16777216 := ⟨rfl, by simp⟩
    simp only [if_pos l, asgTs, asgT, Ev.R.bind_ok] at h1
    exact ⟨v, u, rfl, h1.now (b := RFl.nx _) R1 ((RE1.set r1).set r2)⟩
/-- a variable's cell frozen: no text for it -/
theorem simSs_frv {i : Nat} (hW : ∀ c d σ σ' H, W c d σ H → W c d σ' H) (h : PSs X sts (simSs G P C W ss)) : PSs X sts (simSs G P C W (.frv i :: ss)) := by
  refine PSs.imp h fun D σ H ⟨ρ, S, U, τ, R, RE, O⟩ => ?_
  simp only [evSs, evS] at O
  cases hv : τ[i]? with
  | none => rw [hv] at O; exact False.elim O
  | some o =>
    cases o with
    | none => rw [hv] at O; exact False.elim O
    | some d =>
      obtain ⟨v, h1, h2⟩ := RE.2 i d hv
      cases d with
      | t x => rw [hv] at O; exact ⟨ρ, S, U, τ, R, RE, O⟩
      | loc n =>
        obtain ⟨a, ha, rfl⟩ := h2
        rw [hv] at O
        have fin : ∀ (c : Cell) (o : HO) (t : T), S[n]? = some c → live c → H a = some o → (∀ U', Sub U U' → U' a = some o → RepT G U' t (.ref a)) → OutG G (repFl G) ρ U H (evSs P C ss (τ.set i (some (.t t))) (S.set n .dead)) (fun b H' => b.to D H') (fun c d H' => W c d σ H') → simSs G P C W ss D σ H := fun c o t hS lc ho hr O => by
          obtain ⟨R2, s2⟩ := R.frz hS ha lc ho
          have r := hr _ s2.mono upd_same
          have eσ : σ.set i (some (.ref a)) = σ := by
            apply List.ext_getElem?
            intro j
            by_cases z : i = j
            · subst z
              rw [List.getElem?_set, h1]
              simp [(List.getElem?_eq_some_iff.mp h1).1]
            · rw [List.getElem?_set_ne z]
          refine ⟨ρ, _, _, _, R2, ?_, O.step s2⟩
          have := (RE.step s2).set (i := i) (d := .t t) (v := .ref a) r
          rwa [eσ] at this
        cases hS : S[n]? with
        | none => simp [hS] at O; exact False.elim O
        | some c =>
          have cr := R.cell n c a hS ha
          cases c with
          | dead => simp [hS] at O; exact False.elim O
          | lst ds =>
            simp only [hS] at O
            cases e : allT ds with
            | none => simp [e] at O; exact False.elim O
            | some ts =>
              simp only [e, Option.map_some, ofOpt_some, Ev.R.bind_ok] at O
              obtain ⟨vs, q1, q2⟩ := cr
              exact fin _ _ _ hS trivial q1 (fun U' su hu => by simp only [RepT]; exact ⟨a, vs, rfl, hu, RepTs.mono su _ _ (allT_rep e q2)⟩) O
          | dic ds =>
            simp only [hS] at O
            cases e : allTK ds with
            | none => simp [e] at O; exact False.elim O
            | some ts =>
              simp only [e, Option.map_some, ofOpt_some, Ev.R.bind_ok] at O
              obtain ⟨vs, q1, q2⟩ := cr
              exact fin _ _ _ hS trivial q1 (fun U' su hu => by simp only [RepT]; exact ⟨a, vs, rfl, hu, RepTK.mono su _ _ (allTK_rep e q2)⟩) O
          | ins c ds =>
            simp only [hS] at O
            cases e : allTF ds with
            | none => simp [e] at O; exact False.elim O
            | some ts =>
              simp only [e, Option.map_some, ofOpt_some, Ev.R.bind_ok] at O
              obtain ⟨dx, vs, q1, q3, q2⟩ := cr
              exact fin _ _ _ hS trivial q1 (fun U' su hu => by simp only [RepT]; exact ⟨a, dx, vs, rfl, hu, su _ _ q3, RepTF.mono su _ _ (allTF_rep e q2)⟩) O
end
end Ev
end

section
set_option Elab.async false
set_option linter.all false
namespace Ev
open PySem L2
section
variable {G : Glob} {P : Prg} {C : Calls} {W : WX} {X : Cx} {e a b c : Expr} {es args : List Expr} {m ma mb mc mo : E} {ms mk : List E} {f : F} {pos p p2 q : Pos} {apos cpos : Pos}
variable {ρ ρ' : List Addr} {S S' : Store} {U U' H H' : Hp} {τ : Env} {σ : St} {Q : VK} {E' : XK}
/-- what a method of a list asks -/
def rBm (b : Bm) : V → List V → Hp → VK → Prop := match b with
  | .append => rAppend
  | .pop => rPop
  | .popAt => rPopAt
  | .clear => rClear
  | .reverse => rReverse
  | _ => fun _ _ _ _ => False
theorem ty_list {K : PySem.W.Frag} (R : Rel G ρ S U H) {x : D} {v : V} (h : tyD S x = some (.inl "list")) (r : RepD G ρ U x v) : tyV K "list" v H := by
  cases x with
  | t x =>
    have r := r.t
    cases x <;> simp [tyD, tyT] at h <;> simp only [RepT] at r
    obtain ⟨a, vs, rfl, h1, _⟩ := r
    exact .inl ⟨rfl, vs, SqL.of (R.sub _ _ h1)⟩
  | loc n =>
    obtain ⟨a, ha, rfl⟩ := r
    simp only [tyD] at h
    cases e : S[n]? with
    | none => rw [e] at h; simp at h
    | some c =>
      have cr := R.cell n c a e ha
      rw [e] at h
      cases c <;> simp at h
      obtain ⟨vs, h1, _⟩ := cr
      exact .inl ⟨rfl, vs, SqL.of h1⟩
theorem lstAt_rep (R : Rel G ρ S U H) {x : D} {v : V} {n : Nat} {ds : List D} (h : lstAt S x = some (n, ds)) (r : RepD G ρ U x v) : S[n]? = some (.lst ds) ∧ ∃ a vs, ρ[n]? = some a ∧ v = .ref a ∧ H a = some (.lst vs) ∧ RepDs G ρ U ds vs := by
  cases x with
  | t x => simp [lstAt] at h
  | loc k =>
    obtain ⟨a, ha, rfl⟩ := r
    simp only [lstAt] at h
    cases e : S[k]? with
    | none => rw [e] at h; simp at h
    | some c =>
      have cr := R.cell k c a e ha
      rw [e] at h
      cases c <;> simp at h
      obtain ⟨rfl, rfl⟩ := h
      obtain ⟨vs, h1, h2⟩ := cr
      exact ⟨e, a, vs, ha, rfl, h1, h2⟩
theorem Paired.dropLast {α β : Type} {F : α → β → Prop} : ∀ {a : List α} {b : List β}, Paired F a b → Paired F a.dropLast b.dropLast
  | _, _, .nil => .nil
  | _, _, .cons r .nil => .nil
  | _, _, .cons r (.cons r2 t) => .cons r (Paired.dropLast (.cons r2 t))
theorem Paired.erase {α β : Type} {F : α → β → Prop} : ∀ {a : List α} {b : List β} (j : Nat), Paired F a b → Paired F (a.eraseIdx j) (b.eraseIdx j)
  | _, _, _, .nil => .nil
  | _, _, 0, .cons r t => t
  | _, _, j + 1, .cons r t => .cons r (Paired.erase j t)
theorem RepDs.nilv {vs : List V} (h : RepDs G ρ U [] vs) : vs = [] := by cases h; rfl
theorem bm_out {b : Bm} {x : D} {ds : List D} {v : V} {vs : List V} (hb : b = .append ∨ b = .pop ∨ b = .popAt ∨ b = .clear ∨ b = .reverse) (R : Rel G ρ S U H) (r : RepD G ρ U x v) (rs : RepDs G ρ U ds vs) (h : OutG G (RepD G) ρ U H (evBm b x ds S) Q E') : rBm b v vs H Q := by
  rcases hb with rfl | rfl | rfl | rfl | rfl
  · simp only [evBm, bmAppend] at h
    split at h
    · obtain ⟨u, rfl, ru⟩ := RepDs.one rs
      split at h
      · rename_i n xs hl
        obtain ⟨hS, a, ws, ha, rfl, h1, h2⟩ := lstAt_rep R hl r
        split at h
        · rename_i l
          obtain ⟨R2, s2⟩ := R.put (o := .lst (ws ++ [u])) (c' := .lst (xs ++ [_])) hS ha trivial ⟨_, upd_same, Paired.app h2 (.cons ru .nil)⟩
          exact ⟨a, ws, u, rfl, rfl, h1, by rw [← RepDs.len h2]; exact l, h _ _ _ _ s2 R2 repNon⟩
        · exact False.elim h
      · exact False.elim h
    · exact False.elim h
  · simp only [evBm, bmPop] at h
    split at h
    · obtain rfl := RepDs.nilv rs
      split at h
      · rename_i n xs hl
        obtain ⟨hS, a, ws, ha, rfl, h1, h2⟩ := lstAt_rep R hl r
        split at h
        · rename_i y hy
          obtain ⟨u, hu, ru⟩ := Paired.getR h2 hy
          obtain ⟨R2, s2⟩ := R.put (o := .lst ws.dropLast) (c' := .lst xs.dropLast) hS ha trivial ⟨_, upd_same, Paired.dropLast h2⟩
          exact ⟨a, ws, u, rfl, rfl, h1, by rw [← RepDs.len h2]; exact hu, h _ _ _ _ s2 R2 (ru.step s2)⟩
        · exact False.elim h
      · exact False.elim h
    · exact False.elim h
  · simp only [evBm, bmPopAt] at h
    split at h
    · rename_i i
      obtain ⟨u, rfl, ru⟩ := RepDs.one rs
      have ru := ru.t; simp only [RepT] at ru; subst ru
      split at h
      · rename_i n xs hl
        obtain ⟨hS, a, ws, ha, rfl, h1, h2⟩ := lstAt_rep R hl r
        split at h
        · rename_i l
          split at h
          · rename_i y hy
            obtain ⟨u, hu, ru⟩ := Paired.getR h2 hy
            obtain ⟨R2, s2⟩ := R.put (o := .lst (ws.eraseIdx i.toNat)) (c' := .lst (xs.eraseIdx i.toNat)) hS ha trivial ⟨_, upd_same, Paired.erase _ h2⟩
            have lt := (List.getElem?_eq_some_iff.mp hu).1
            refine ⟨a, ws, i, i.toNat, u, rfl, rfl, h1, by omega, by simpa using l.2, ?_, hu, h _ _ _ _ s2 R2 (ru.step s2)⟩
            unfold seqIndex?
            have n0 : ¬ i < 0 := by omega
            simp only [n0, if_false]
            rw [if_pos]
            simp
            omega
          · exact False.elim h
        · exact False.elim h
      · exact False.elim h
    · exact False.elim h
  · simp only [evBm, bmClear] at h
    split at h
    · obtain rfl := RepDs.nilv rs
      split at h
      · rename_i n xs hl
        obtain ⟨hS, a, ws, ha, rfl, h1, h2⟩ := lstAt_rep R hl r
        obtain ⟨R2, s2⟩ := R.put (o := .lst []) (c' := .lst []) hS ha trivial ⟨_, upd_same, .nil⟩
        exact ⟨a, ws, rfl, rfl, h1, h _ _ _ _ s2 R2 repNon⟩
      · exact False.elim h
    · exact False.elim h
  · simp only [evBm, bmReverse] at h
    split at h
    · obtain rfl := RepDs.nilv rs
      split at h
      · rename_i n xs hl
        obtain ⟨hS, a, ws, ha, rfl, h1, h2⟩ := lstAt_rep R hl r
        obtain ⟨R2, s2⟩ := R.put (o := .lst ws.reverse) (c' := .lst xs.reverse) hS ha trivial ⟨_, upd_same, Paired.rev h2⟩
        exact ⟨a, ws, rfl, rfl, h1, h _ _ _ _ s2 R2 repNon⟩
      · exact False.elim h
    · exact False.elim h
/-- the names: in the text, in the library -/
def Bm.nm : Bm → Str × String
  | .append => ("append", "list.append") | .pop => ("pop", "list.pop") | .popAt => ("pop", "list.pop") | .clear => ("clear", "list.clear") | .reverse => ("reverse", "list.reverse")
  | .index => ("index", "list.index") | .count => ("count", "list.count") | .get => ("get", "dict.get") | .getOr => ("get", "dict.get") | .insert => ("insert", "list.insert") | .remove => ("remove", "list.remove") | .extend => ("extend", "list.extend")
def Bm.lst (b : Bm) : Prop := b = .append ∨ b = .pop ∨ b = .popAt ∨ b = .clear ∨ b = .reverse
theorem bm_sim {o : E} {b : Bm} (hb : b.lst) (h : simE G P C W (.bm b o ms) σ H Q) : simE G P C W o σ H fun x H1 => tyV X.K "list" x H1 ∧ simA G P C W ms σ H1 fun vs H2 => rBm b x vs H2 Q := by
  obtain ⟨ρ, S, U, τ, R, RE, O⟩ := h
  simp only [evE] at O
  have tb : b.ty = "list" := by rcases hb with rfl | rfl | rfl | rfl | rfl <;> rfl
  refine ⟨ρ, S, U, τ, R, RE, O.bind fun x S1 ρ1 U1 H1 v _ s1 R1 r1 h1 => ?_⟩
  split at h1
  · rename_i ht
    rw [tb] at ht
    refine ⟨ty_list R1 ht r1, ρ1, S1, U1, τ, R1, RE.step s1, h1.bind fun ds S2 ρ2 U2 H2 vs _ s2 R2 r2 h2 => ?_⟩
    exact bm_out hb R2 (r1.step s2) r2 h2
  · exact False.elim h1
theorem sim_bm0 {b : Bm} {o : Expr} {nm : Str} (hb : b = .pop ∨ b = .clear ∨ b = .reverse) (hn : nm = b.nm.1) (ho : PE X o (simE G P C W mo)) (hbase : attributeBase o nm X.env (eval o X.env) = eval o X.env) (hline : (apos.endLine == cpos.line) = true) :
    PE X (.Call (.Attribute o nm apos) [] [] cpos) (simE G P C W (.bm b mo [])) := by
  subst hn
  have key : PE X (.Call (.Attribute o b.nm.1 apos) [] [] cpos) (tBM0 X.K "list" (rBm b) (simE G P C W mo)) := by
    rcases hb with rfl | rfl | rfl
    · exact pe_bm0 PySem.F.plainAttrs_list PySem.F.slot_list_pop PySem.F.type_list_pop mt_pop ho hbase hline
    · exact pe_bm0 PySem.F.plainAttrs_list PySem.F.slot_list_clear PySem.F.type_list_clear mt_clear ho hbase hline
    · exact pe_bm0 PySem.F.plainAttrs_list PySem.F.slot_list_reverse PySem.F.type_list_reverse mt_reverse ho hbase hline
  refine PE.imp key fun σ H Q h => ?_
  have := bm_sim (X := X) (by rcases hb with rfl | rfl | rfl <;> simp [Bm.lst]) h
  obtain ⟨ρ, S, U, τ, R, RE, O⟩ := this
  refine ⟨ρ, S, U, τ, R, RE, O.imp fun x H1 ⟨ty, ρ1, S1, U1, τ1, R1, RE1, O1⟩ => ⟨ty, ?_⟩⟩
  simp only [evEs] at O1
  exact O1.now R1 .nil
theorem sim_bm {b : Bm} {o : Expr} {nm : Str} (hb : b = .append ∨ b = .popAt) (hn : nm = b.nm.1) (ho : PE X o (simE G P C W mo)) (ha : PA X [e] (simA G P C W ms)) (hbase : attributeBase o nm X.env (eval o X.env) = eval o X.env) (hline : (apos.endLine == cpos.line) = true)
    (hfew : ((backTo cpos (starEach [e] X.env)).all (fun x => !x.1) && (backToKw cpos (keywordEach [] X.env)).all (fun x => x.1.isSome) && decide ([e].length + ([] : List Keyword).length + (if ([] : List Keyword).isEmpty then 0 else 1) < 30)) = true)
    (hs : starEach [e] X.env = (false, eval e X.env) :: starEach [] X.env) : PE X (.Call (.Attribute o nm apos) [e] [] cpos) (simE G P C W (.bm b mo ms)) := by
  subst hn
  have key : PE X (.Call (.Attribute o b.nm.1 apos) [e] [] cpos) (tBM X.K "list" (rBm b) (simE G P C W mo) (simA G P C W ms)) := by
    rcases hb with rfl | rfl
    · exact pe_bm PySem.F.plainAttrs_list PySem.F.slot_list_append PySem.F.type_list_append mt_append ho ha hbase hfew hline hs rfl
    · exact pe_bm PySem.F.plainAttrs_list PySem.F.slot_list_pop PySem.F.type_list_pop mt_popAt ho ha hbase hfew hline hs rfl
  refine PE.imp key fun σ H Q h => ?_
  exact bm_sim (X := X) (by rcases hb with rfl | rfl <;> simp [Bm.lst]) h
end
end Ev
end

section
set_option Elab.async false
set_option linter.all false
namespace Ev
open PySem L2
section
variable {G : Glob} {P : Prg} {C : Calls} {W : WX} {X : Cx} {e a b c : Expr} {es args : List Expr} {m ma mb mc mo : E} {ms mk : List E} {f : F} {pos p p2 q : Pos} {apos cpos : Pos} {md : Md}
variable {ρ ρ' : List Addr} {S S' : Store} {U U' H H' : Hp} {τ : Env} {σ : St} {Q : VK} {E' : XK}
/-- len(o) by the class's own -/
theorem sim_lenO {x : Str} {o : Expr} {mi : Nat} (hx : x = "len") (hg : Gl X x) (hm : X.mg x = none) (ho : PE X o (simE G P C W mo))
    (ok : ∀ c fi, P.meth c mi = some fi → MethOk G X c fi "__len__" ∧ CallOk G C X fi 1 [] []) (gd : X.A.guards = some []) (tk : Takes X W)
    (hs : starEach [o] X.env = (false, eval o X.env) :: starEach [] X.env) :
    PE X (.Call (.Name x p) [o] [] pos) (simE G P C W (.bi .asLen [.meth md mi mo [] []])) := by
  subst hx
  refine ⟨fun pins s σ H Q I ⟨ρ, S, U, τ, R, RE, O⟩ => ?_⟩
  simp only [evE, evEs, bind_assoc, Ev.R.bind_ok] at O
  have sim : (tCons (simE G P C W mo) tNil) σ H fun vs H1 => ∃ v a c fi dx fs, vs = [v] ∧ v = .ref a ∧ P.meth c mi = some fi ∧ H1 a = some (.ins (G.cls c) dx fs) ∧
      ∃ ρ2 S2 U2 ds, Rel G ρ2 S2 U2 H1 ∧ RepDs G ρ2 U2 ds [v] ∧ OutG G (RepD G) ρ2 U2 H1 (C fi ds S2) (fun v H' => ∃ n, v = .int n ∧ (0 ≤ n ∧ n < 4611686018427387904) ∧ Q (.int n) H') fun c d H' => W c d σ H' := by
    refine ⟨ρ, S, U, τ, R, RE, O.bind fun y S1 ρ1 U1 H1 v _ s1 R1 r1 h1 => ?_⟩
    split at h1
    · rename_i fi hfi
      simp only [Option.bind_eq_some_iff] at hfi
      obtain ⟨c, hc, hfi⟩ := hfi
      obtain ⟨a, dx, fs, rfl, q1, q2⟩ := cls_rep R1 r1 hc
      refine ⟨_, a, c, fi, dx, fs, rfl, rfl, hfi, q1, ρ1, S1, U1, [y], R1, .cons r1 .nil, fin_out (m := md) R1 ?_⟩
      simp only [List.map_nil, List.append_nil] at h1
      refine h1.bind fun d S2 ρ2 U2 H2 b _ s2 R2 r2 h2 => ?_
      cases d with
      | loc n => exact h2.elim
      | t x =>
        cases x <;> first | exact h2.elim | skip
        rename_i i
        simp only [evBi] at h2
        split at h2
        · rename_i l
          have r2 := r2.t; simp only [RepT] at r2; subst r2
          exact ⟨_, rfl, l, h2.now R2 repInt⟩
        · exact h2.elim
    · exact h1.elim
  refine wpAny_Call_Name_kw (ld_blt I hg hm boot_len ?_ (by decide) (by decide))
  refine PyProof.Rows.callWith_builtin1 (thn ((pa_cons ho pa_nil hs).run pos pins s σ H _ I sim) fun us s1 ⟨vs, H1, I1, r1, v, a, c, fi, dx, fs, e1, e2, hfi, ha1, ρ2, S2, U2, ds, R2, rd, O2⟩ => ?_) hs rfl
  subst e1 e2
  obtain ⟨u, rfl, ru⟩ := vals1 r1
  obtain rfl : u = Value.ref a := ru
  obtain ⟨M, k, fd, ps, dvs, dl, F, hr, hd, hdf, hl, hb⟩ := ok c fi hfi
  obtain ⟨mA, J, _⟩ := ins_get I1.hok ha1
  obtain ⟨od, J, _⟩ := J.look
  obtain ⟨m, hF⟩ := I1.fr
  have e0 : dl = [] := by
    have h1 := hd.length
    have h2 := (hdf U2).len
    simp at h2
    rw [← h2] at h1
    exact List.length_eq_zero_iff.mp h1.symm
  have hb' := hb s1 [.ref a] [] I1.kIn rfl rfl
  subst e0
  simp only [List.append_nil, List.zip_nil_right] at hb'
  have e3 := RepDs.len rd
  refine PySem.W.len_K hF I1.ok.mod.kin J M.meth.at_ M.meth.fn (wpAny_call (codeAny_mono (F.run X.A.in1 X.stack s1 H1 ⟨[.ref a], []⟩ [.ref a] [.ref a] _ _ (hr.in1) gd I1.env0.in1 hb' (.cons rfl .nil) ⟨ρ2, S2, U2, ds, R2, rd, by simp at e3 hl; omega, O2⟩) fun r s' q => ?_))
  cases r with
  | error e => exact tk _ _ (XE.of_call I1 (fun _ _ _ q => q) q)
  | ok fl =>
    cases fl with
    | ret u =>
      obtain ⟨v, H', I3, rv, n, rfl, l, q3⟩ := I1.after q
      obtain ⟨t, rfl⟩ := rv
      exact ⟨⟨l.1, by omega⟩, .int n, H', I3.tok _, ⟨_, rfl⟩, q3⟩
    | next => exact q
    | brk => exact q
    | cont => exact q
end
end Ev
end

section
set_option Elab.async false
set_option linter.all false
namespace Ev
open PySem L2
section
variable {G : Glob} {P : Prg} {C : Calls} {W : WX} {X : Cx} {e a b c : Expr} {es args : List Expr} {m ma mb mc mo : E} {ms mk : List E} {f : F} {pos p p2 q : Pos} {apos cpos : Pos} {md : Md}
variable {ρ ρ' : List Addr} {S S' : Store} {U U' H H' : Hp} {τ : Env} {σ : St} {Q : VK} {E' : XK}
theorem Step.weak {p : Addr} {o : HO} (hp : H p = none) (s : Step ρ U (upd H p o) ρ' U' H') : Step ρ U H ρ' U' H' := by
  have ne : ∀ {a : Addr}, upd H p o a = none → H a = none := fun {a} h => by
    by_cases e : a = p
    · subst e; exact hp
    · rwa [upd_ne e] at h
  refine ⟨s.pre, s.mono, fun a u h n => s.keep a u ?_ n, fun a m n => ne (s.frr a m n), fun a h n => (s.fru a h n).imp_left ne⟩
  rw [upd_ne (by rintro rfl; rw [hp] at h; cases h)]; exact h
theorem merge_new : ∀ {kvs acc : List (Key × V)}, ((acc ++ kvs).map (·.1)).Nodup → mergeK acc kvs = acc ++ kvs
  | [], acc, _ => by simp [mergeK]
  | (k, v) :: r, acc, h => by
    have hk : valV acc k = none := by
      have : k ∉ acc.map (·.1) := by
        simp only [List.map_append, List.map_cons] at h
        rw [List.nodup_append] at h
        exact fun m => h.2.2 _ m _ (by simp) rfl
      unfold valV
      rw [Option.map_eq_none_iff, List.find?_eq_none]
      intro x hx
      simp only [decide_eq_true_eq]
      rintro rfl
      exact this (List.mem_map_of_mem hx)
    show mergeK (putK acc k v) r = _
    rw [putK_new v hk, merge_new (by simpa using h)]
    simp
theorem simA_cons (h : simA G P C W (m :: ms) σ H Ql) : simE G P C W m σ H fun y H2 => simA G P C W ms σ H2 fun ys H3 => Ql (y :: ys) H3 := by
  obtain ⟨ρ, S, U, τ, R, RE, O⟩ := h
  simp only [evEs] at O
  refine ⟨ρ, S, U, τ, R, RE, O.bind fun x S1 ρ1 U1 H1 v _ s1 R1 r1 h1 => ?_⟩
  refine ⟨ρ1, S1, U1, τ, R1, RE.step s1, h1.bind fun xs S2 ρ2 U2 H2 vs _ s2 R2 r2 h2 => ?_⟩
  exact h2.now R2 (.cons (r1.step s2) r2)
theorem simA_none (h : simA G P C W [] σ H Ql) : Ql [] H := by
  obtain ⟨ρ, S, U, τ, R, RE, O⟩ := h
  simp only [evEs] at O
  exact O.now R .nil
theorem pairs_sim : ∀ {ks : List Key} {ms : List E} {H : Hp} {K : List (V × V) → Hp → Prop}, ks.length = ms.length → (simA G P C W ms σ H fun vs H2 => K ((ks.zip vs).map fun kv => (kV kv.1, kv.2)) H2) →
    tPairs ((ks.zip ms).map fun km => (tC (kV km.1), simE G P C W km.2)) σ H K
  | [], [], H, K, _, h => by simpa [tPairs] using simA_none h
  | k :: ks, m :: ms, H, K, l, h => by
    simp only [List.zip_cons_cons, List.map_cons, tPairs]
    show simE G P C W m σ H _
    obtain ⟨ρ, S, U, τ, R, RE, O⟩ := simA_cons h
    refine ⟨ρ, S, U, τ, R, RE, O.imp fun y H2 h2 => ?_⟩
    exact pairs_sim (K := fun ps H3 => K ((kV k, y) :: ps) H3) (by simpa using l) h2
  | [], _ :: _, _, _, l, _ => by simp at l
  | _ :: _, [], _, _, l, _ => by simp at l
def keyC : Key → Const
  | .inl i => .int i
  | .inr x => .str x
theorem pe_key {k : Key} {j : Nat} : PE X (.Constant (keyC k) j pos) (tC (kV k)) := by
  cases k with
  | inl i => exact pe_int
  | inr x => exact pe_str
/-- the keys, the values of a display -/
inductive Pes (G : Glob) (P : Prg) (C : Calls) (W : WX) (X : Cx) : List (Option Expr) → List Expr → List Key → List E → Prop where
  | nil : Pes G P C W X [] [] [] []
  | cons {k : Key} {j : Nat} {pos : Pos} {e : Expr} {m : E} {ks vs kk ms} : PE X e (simE G P C W m) → Pes G P C W X ks vs kk ms → Pes G P C W X (some (.Constant (keyC k) j pos) :: ks) (e :: vs) (k :: kk) (m :: ms)
theorem Pes.pps {kx : List (Option Expr)} {vx : List Expr} {ks : List Key} {ms : List E} (h : Pes G P C W X kx vx ks ms) :
    PPs X pos kx vx ((ks.zip ms).map fun km => (tC (kV km.1), simE G P C W km.2)) ∧ kx.all (·.isSome) = true ∧ kx.length = vx.length ∧ kx.length = ks.length ∧ ks.length = ms.length := by
  induction h with
  | nil => exact ⟨pps_nil, rfl, rfl, rfl, rfl⟩
  | cons h1 h2 ih =>
    obtain ⟨i1, i2, i3, i4, i5⟩ := ih
    exact ⟨pps_cons pe_key h1 i1, by simpa using i2, by simp [i3], by simp [i4], by simp [i5]⟩
theorem zip_repDK : ∀ {ks : List Key} {ds : List D} {vs : List V}, RepDs G ρ U ds vs → RepDK G ρ U (ks.zip ds) (ks.zip vs)
  | [], _, _, _ => by simp; exact .nil
  | _ :: _, _, _, .nil => by simp; exact .nil
  | k :: ks, _, _, .cons h t => by simp only [List.zip_cons_cons]; exact .cons ⟨rfl, h⟩ (zip_repDK t)
/-- {k: e, ..} -/
theorem sim_ddi {kx : List (Option Expr)} {vx : List Expr} {ks : List Key} (h : Pes G P C W X kx vx ks ms) (h0 : ks ≠ []) (h15 : ks.length ≤ 15) : PE X (.Dict kx vx pos) (simE G P C W (.ddi ks ms)) := by
  obtain ⟨hp, hall, hl, hl2, hl3⟩ := h.pps (pos := pos)
  refine PE.imp (pe_disp hp hall hl (by rintro rfl; simp at hl2; exact h0 (List.length_eq_zero_iff.mp hl2.symm)) (by omega)) fun σ H Q ⟨ρ, S, U, τ, R, RE, O⟩ => ?_
  simp only [evE] at O
  intro p hpn
  have nr := R.out hpn
  have up : U p = none := by
    cases e : U p with
    | none => rfl
    | some u => rw [R.sub p u e] at hpn; cases hpn
  refine pairs_sim hl3 ⟨ρ, S, U, τ, R.beside up nr, RE, ?_⟩
  cases e : evEs P C ms τ S with
  | bad => rw [e] at O; exact O
  | exc z S1 =>
    rw [e] at O
    exact fun ρ' U' H' c dx s1 R1 r1 => O ρ' U' H' c dx (s1.weak hpn) R1 r1
  | ok ds S1 =>
    rw [e] at O
    intro ρ' U' H' vs s1 R1 r1
    obtain ⟨q1, q2, q3, q4, q5⟩ := beside_step R hpn s1 R1
    simp only [Ev.R.bind_ok] at O
    split at O
    · rename_i hh
      obtain ⟨l1, l2, nd⟩ := hh
      have l3 := RepDs.len r1
      refine ⟨q1, ks.zip vs, rfl, by simp; omega, ?_⟩
      have ez : ((ks.zip vs).map (·.1)) = ks := by
        rw [List.map_fst_zip]; omega
      rw [merge_new (by simpa [ez] using nd), List.nil_append]
      obtain ⟨R3, s3⟩ := q4.newC (o := .dK (ks.zip vs)) (c := .dic (ks.zip ds)) del_same ⟨_, upd_same, (zip_repDK r1).mono (List.prefix_append _ _) (fun _ _ h => h)⟩
      have := O _ _ _ (.ref p) (q5.trans s3) R3 ⟨p, by rw [← R1.len]; simp, rfl⟩
      rw [show upd H' p (.dK (ks.zip vs)) = upd (del H' p) p (.dK (ks.zip vs)) from ?_]
      · exact this
      · funext a
        by_cases e : a = p
        · subst e; rw [upd_same, upd_same]
        · rw [upd_ne e, upd_ne e, del_ne e]
    · exact O.elim
/-! ### list(d) -/
theorem keysD_rep (R : Rel G ρ S U H) {x : D} {ks : List Key} {v : V} (h : keysD S x = some ks) (r : RepD G ρ U x v) : ∃ a kvs, v = .ref a ∧ H a = some (.dK kvs) ∧ kvs.map (·.1) = ks := by
  cases x with
  | t x =>
    have r := r.t
    cases x <;> simp only [keysD] at h <;> try (cases h; done)
    cases h
    simp only [RepT] at r
    obtain ⟨a, vs, rfl, h1, h2⟩ := r
    refine ⟨a, vs, rfl, R.sub _ _ h1, ?_⟩
    rename_i kvs
    clear h1 r
    induction kvs generalizing vs with
    | nil => simp only [RepTK] at h2; subst h2; rfl
    | cons q r ih =>
      obtain ⟨k, x⟩ := q
      simp only [RepTK] at h2
      obtain ⟨v, ws, rfl, _, h2⟩ := h2
      simp [ih ws h2]
  | loc n =>
    obtain ⟨a, ha, rfl⟩ := r
    simp only [keysD] at h
    cases e : S[n]? with
    | none => rw [e] at h; simp at h
    | some c =>
      have cr := R.cell n c a e ha
      rw [e] at h
      cases c <;> simp only [Option.some.injEq] at h <;> try (cases h; done)
      subst h
      obtain ⟨vs, h2, h3⟩ := cr
      refine ⟨a, vs, rfl, h2, ?_⟩
      clear h2 e
      induction h3 with
      | nil => rfl
      | cons h t ih => simp only [List.map_cons]; rw [ih, h.1]
theorem keys_rep (ks : List Key) : RepDs G ρ U (ks.map fun k => .t (keyT k)) (ks.map kV) := by
  induction ks with
  | nil => exact .nil
  | cons k r ih =>
    refine .cons ?_ ih
    cases k <;> simp [keyT, RepD, RepT, kV]
theorem simF_keys {x : Str} (hx : x = "list") (hc : X.calm = true) (hg : Gl X x) (hm : X.mg x = none) (ha : PE X a (simE G P C W ma)) (hs : starEach [a] X.env = (false, eval a X.env) :: starEach [] X.env) : PE X (.Call (.Name x p) [a] [] pos) (simF G P C W (.keysOf ma)) := by
  subst hx
  refine PE.imp (pe_callTy (call_list_dK hc) hg hm PyProof.Rows.boot_list (pa_cons ha pa_nil hs) (by decide) (by decide) hs rfl) fun σ H Q ⟨ρ, S, U, τ, R, RE, O⟩ => ?_
  simp only [evF] at O
  refine ⟨ρ, S, U, τ, R, RE, O.bind fun x S1 ρ1 U1 H1 v _ s1 R1 r1 h1 => ?_⟩
  obtain ⟨xs, e1, h1⟩ := OutG.opt h1
  simp only [Option.map_eq_some_iff] at e1
  obtain ⟨ks, e1, rfl⟩ := e1
  obtain ⟨d, kvs, rfl, q1, rfl⟩ := keysD_rep R1 e1 r1
  refine ⟨d, kvs, rfl, q1, ?_⟩
  have := h1.now R1 (keys_rep (kvs.map (·.1)))
  rw [List.map_map] at this
  exact this
end
end Ev
end

section
set_option Elab.async false
set_option linter.all false
namespace Ev
open PySem L2
/-! ### exceptions: raised, caught -/
section
variable {G : Glob} {P : Prg} {C : Calls} {W : WX} {X : Cx} {pos p p2 q : Pos} {b : Sm}
variable {ρ : List Addr} {S : Store} {U H : Hp} {τ : Env} {σ : L2.St}
/-- raise C('m') -/
theorem sim_rai {c j : Nat} {x m : Str} (hc : X.calm = true) (tk : Takes X W) (hx : PySem.W.excIn X.K (G.xc c) [.type "ValueError", .type "Exception", .type "BaseException", .type "object"] "ValueError.__new__" = true) (hk : PySem.W.keepIn X.K (.ref (G.xc c)) = true)
    (h1 : PySem.W.subIn X.K (.ref (G.xc c)) (.type "BaseException") = some true) (h2 : PySem.W.typeIn X.K (.ref (G.xc c)) = some (.type "type")) (hg : Gl X x) (hm : X.mg x = some (.ref (G.xc c))) (hd : (x == ("__debug__" : Str)) = false) :
    PS X (.Raise (some (.Call (.Name x p) [.Constant (.str m) j p2] [] q)) none pos) (simS G P C W (.rai c)) := by
  refine PS.imp (ps_raise hc tk (pmk_own F.excBase_ValueError hx hm hk (raises_own h1 h2) hg hd)) fun D σ H ⟨ρ, S, U, τ, R, RE, O⟩ => ?_
  simp only [evS] at O
  exact O ρ U H _ none .refl R ⟨rfl, rfl⟩
/-- of what is caught -/
def simH (P : Prg) (i : Nat) (a : Addr) (c : Nat) (h : Hx) : TE := fun σ H Q => σ[i]? = some (some (.ref a)) ∧ ∃ r, evH P.xisa h c = some r ∧ Q (.bl r) H
section
variable {a : Addr} {oe : Obj} {pn : List (Addr × Obj)} {i c : Nat} {n : Str} {u v w : Expr} {ha hb hc : Hx}
theorem simH_cst {d : Bool} {j : Nat} : PE (X.suite a ((a, oe) :: pn)) (.Constant (.bool d) j pos) (simH P i a c (.cst d)) := PE.imp pe_bl fun σ H Q ⟨_, r, e, h⟩ => by
  simp only [evH, Option.some.injEq] at e
  subst e
  exact h
theorem simH_isi (g : GOk G X.K P) {k : Cl} {x : Str} (hx : x = "isinstance") (hg : Gl X x) (hm : X.mg x = none) (hz : Zc (.ref (G.xc c)) none oe) (hf : ∃ vs, oe.data = .fields vs) (hn : X.N[i]? = some n) (hv : Vis X.env.scope n) (hd : (n == ("__debug__" : Str)) = false) (hcd : (n == ("__classdict__" : Str)) = false)
    (hb : PE (X.suite a ((a, oe) :: pn)) v (tC (xclV G k))) (n2 : starEach [v] X.env = (false, eval v X.env) :: starEach [] X.env) (hpl : (backTo pos (starEach [v] X.env)).any (·.1) = false) : PE (X.suite a ((a, oe) :: pn)) (.Call (.Name x p) [.Name n p2, v] [] pos) (simH P i a c (.isi k)) := by
  subst hx
  have hg' : Gl (X.suite a ((a, oe) :: pn)) "isinstance" := hg
  have hv' : PE (X.suite a ((a, oe) :: pn)) (.Name n p2) (tVar i) := pe_var hn hv hd hcd
  refine ⟨fun pins s σ H Q I ⟨hi, r, e, hq⟩ => ?_⟩
  simp only [evH] at e
  obtain ⟨ex, kt⟩ := g.xisa _ _ _ e
  refine (pe_callB (call_isE ex hz hf) hg' hm PyProof.Rows.boot_isinstance (pa_cons hv' (pa_cons hb pa_nil n2) rfl) (by decide) (by decide) rfl hpl).run pins s σ H Q I ?_
  refine ⟨.ref a, hi, xclV G k, xclv G k, r, rfl, fun u hu => ?_, kt, hq⟩
  cases k <;> (cases hu; rfl)
theorem simH_and (h1 : PE (X.suite a ((a, oe) :: pn)) u (simH P i a c ha)) {es : List Expr} (h2 : PE (X.suite a ((a, oe) :: pn)) (.BoolOp .And (v :: es) pos) (simH P i a c hb)) : PE (X.suite a ((a, oe) :: pn)) (.BoolOp .And (u :: v :: es) pos) (simH P i a c (.and_ ha hb)) :=
  PE.imp (pe_and h1 h2) fun σ H Q ⟨z, r, e, h⟩ => by
    simp only [evH] at e
    cases e1 : evH P.xisa ha c with
    | none => rw [e1] at e; cases e
    | some k =>
      rw [e1] at e
      refine ⟨z, k, e1, k, rfl, ?_⟩
      cases k with
      | true => rw [if_pos rfl]; exact ⟨z, r, e, h⟩
      | false => rw [if_neg (by decide)]; cases e; exact h
theorem simH_or (h1 : PE (X.suite a ((a, oe) :: pn)) u (simH P i a c ha)) {es : List Expr} (h2 : PE (X.suite a ((a, oe) :: pn)) (.BoolOp .Or (v :: es) pos) (simH P i a c hb)) : PE (X.suite a ((a, oe) :: pn)) (.BoolOp .Or (u :: v :: es) pos) (simH P i a c (.or_ ha hb)) :=
  PE.imp (pe_or h1 h2) fun σ H Q ⟨z, r, e, h⟩ => by
    simp only [evH] at e
    cases e1 : evH P.xisa ha c with
    | none => rw [e1] at e; cases e
    | some k =>
      rw [e1] at e
      refine ⟨z, k, e1, k, rfl, ?_⟩
      cases k with
      | false => rw [if_neg (by decide)]; exact ⟨z, r, e, h⟩
      | true => rw [if_pos rfl]; cases e; exact h
theorem simH_not (h1 : PE (X.suite a ((a, oe) :: pn)) u (simH P i a c ha)) : PE (X.suite a ((a, oe) :: pn)) (.UnaryOp .Not u pos) (simH P i a c (.not_ ha)) :=
  PE.imp (pe_not h1) fun σ H Q ⟨z, r, e, h⟩ => by
    simp only [evH, Option.map_eq_some_iff] at e
    obtain ⟨k, e1, rfl⟩ := e
    exact ⟨z, k, e1, k, rfl, h⟩
end
/-- the suite: name = .. -/
def tsH (G : Glob) (P : Prg) (i j : Nat) (h : Hx) (a : Addr) (cls : Value) (d : Option Addr) : TS := fun D σ H => ∃ c r, cls = .ref (G.xc c) ∧ d = none ∧ σ[i]? = some (some (.ref a)) ∧ evH P.xisa h c = some r ∧ D.nx (σ.set j (some (.bl r))) H
theorem RepE.set2 {i j : Nat} {x : D} {v w : V} (RE : RepE G ρ U τ σ) (r : RepD G ρ U x v) : RepE G ρ U ((τ.set j (some x)).set i none) (((σ.set i (some w)).set j (some v)).set i none) := by
  refine ⟨by simp [RE.1], fun k d e => ?_⟩
  rw [List.getElem?_set] at e ⊢
  split at e
  · split at e <;> cases e
  · rename_i hk
    rw [if_neg hk]
    rw [List.getElem?_set] at e ⊢
    split at e
    · rename_i hj
      rw [if_pos hj]
      split at e <;> cases e
      rename_i hl
      exact ⟨v, by rw [if_pos (by simpa [RE.1] using hl)], r⟩
    · rename_i hj
      rw [if_neg hj, List.getElem?_set, if_neg hk]
      exact RE.2 _ _ e
theorem sim_tr {c i j : Nat} {h : Hx} {x n z : Str} {np hp zp spos : Pos} {bd : Stmt} {hx : Expr} (g : GOk G X.K P) (hs : X.stack = X.env :: X.outer) (hf : X.env.frame = some X.env.locals) (hN : X.N.Nodup) (hi : X.N[i]? = some n) (hln : X.env.scope.names.lookup n = some .local)
    (hg : Gl X x) (hdb : (x == ("__debug__" : Str)) = false) (hm : X.mg x = some (.ref (G.xc c))) (tk : Takes X W)
    (hb : ∀ (W' : WX) (pn : List (Addr × Obj)) (xe : Value → Shared → Prop), Takes (X.tr pn xe) W' → PassesOwn (model X.prog X.w) X.A X.env xe → PS (X.tr pn xe) bd (simS G P C W' b))
    (hz : X.N[j]? = some z) (hl : Loc X.env.scope z) (hfn : X.fn z = true ∨ X.env.scope.names.lookup z = some .local)
    (hh : ∀ (a : Addr) (oe : Obj) (e : Nat) (pn : List (Addr × Obj)), Zc (.ref (G.xc e)) none oe → (∃ vs, oe.data = .fields vs) → PE (X.suite a ((a, oe) :: pn)) hx (simH P i a e h))
    (h1 : swapsWithSole [.Name z zp] hx spos.line X.env = pure false) (h2 : swappedStores [.Name z zp] hx X.env = pure none) :
    PS X (.Try [bd] [.ExceptHandler (some (.Name x np)) (some n) [.Assign [.Name z zp] hx spos] hp] [] [] pos) (simS G P C W (.tr c i b j h)) := by
  refine ⟨fun pins s σ H D I ⟨ρ, S, U, τ, R, RE, O⟩ => ?_⟩
  have il : i < σ.length := by rw [I.len]; exact (List.getElem?_eq_some_iff.mp hi).1
  refine (ps_try_as (tb := fun W' => simS G P C W' b) (ts := tsH G P i j h) hs hf hN hi hln ⟨hg, hdb, .inl hm⟩ tk (fun W' pn xe t po => pss_one (hb W' pn xe t po)) fun a oe cls d pn zc fs => ?_).run pins s σ H D I ?_
  · refine pss_one ⟨fun pins s σ H D I ⟨e, r, e1, e2, e3, e4, q⟩ => ?_⟩
    subst e1 e2
    refine (ps_asg (hh a oe e pn zc fs) (pg_name hN hz hl hfn) h1 h2 rfl).run pins s σ H D I ⟨e3, r, e4, q⟩
  · refine ⟨ρ, S, U, τ, R, RE, ?_⟩
    simp only [evS] at O
    cases eb : evS P C b τ S with
    | ok v S1 => rw [eb] at O; exact O
    | bad => rw [eb] at O; exact O.elim
    | exc e S1 =>
      rw [eb] at O
      simp only at O
      intro ρ' U' H' cv dx st R' rx
      obtain ⟨rfl, rx⟩ := rx
      cases em : P.xmat e.cls c with
      | none => rw [em] at O; exact O.elim
      | some k =>
        rw [em] at O
        refine ⟨k, g.xmat _ _ _ em, fun hk a na => ?_, fun hk => ?_⟩
        · subst hk
          simp only at O
          cases ef : e.fs with
          | cons _ _ => rw [ef] at O; simp only at O; exact O.elim
          | nil =>
            cases er : evH P.xisa h e.cls with
            | none => rw [ef, er] at O; simp only at O; exact O.elim
            | some r =>
              rw [ef, er] at O
              simp only at O
              have hdx : dx = none := by
                cases dx with
                | none => rfl
                | some d => exact absurd ef rx.1
              refine ⟨e.cls, r, rfl, hdx, by rw [List.getElem?_set]; simp [il], er, ?_⟩
              exact O ρ' U' H' (.nx _) st R' ((RE.step st).set2 repBl)
        · subst hk
          simp only at O
          exact O ρ' U' H' _ dx st R' ⟨rfl, rx⟩
end
section
variable {G : Glob} {P : Prg} {C : Calls} {W : WX} {X : Cx} {e : Expr} {es : List Expr} {m mo : E} {ms : List E} {pos p : Pos} {md : Md}
variable {ρ : List Addr} {S : Store} {U H : Hp} {τ : Env} {σ : L2.St} {Q : VK}
/-! ### frozen -/
theorem sim_fz (h : PE X e (simE G P C W m)) : PE X e (simE G P C W (.fz m)) := PE.imp h fun σ H Q ⟨ρ, S, U, τ, R, RE, O⟩ => by
  refine ⟨ρ, S, U, τ, R, RE, ?_⟩
  simp only [evE] at O
  refine O.bind fun d S1 ρ1 U1 H1 v _ s1 R1 r1 h1 => ?_
  cases d with
  | t x => exact h1.now R1 r1
  | loc n =>
    obtain ⟨a, ha, rfl⟩ := r1
    simp only at h1
    have fin : ∀ (c : Cell) (o : HO) (t : T), S1[n]? = some c → live c → H1 a = some o → (∀ U', Sub U1 U' → U' a = some o → RepT G U' t (.ref a)) → OutG G (RepD G) ρ1 U1 H1 (.ok (.t t) (S1.set n .dead)) Q (fun c d H' => W c d σ H') → Q (.ref a) H1 := fun c o t hS lc ho hr O => by
      obtain ⟨R2, s2⟩ := R1.frz hS ha lc ho
      exact O _ _ _ _ s2 R2 (hr _ s2.mono upd_same)
    cases hS : S1[n]? with
    | none => simp [hS] at h1; exact False.elim h1
    | some c =>
      have cr := R1.cell n c a hS ha
      cases c with
      | dead => simp [hS] at h1; exact False.elim h1
      | lst ds =>
        simp only [hS] at h1
        cases e : allT ds with
        | none => simp [e] at h1; exact False.elim h1
        | some ts =>
          simp only [e, Option.map_some, ofOpt_some] at h1
          obtain ⟨vs, q1, q2⟩ := cr
          exact fin _ _ _ hS trivial q1 (fun U' su hu => by simp only [RepT]; exact ⟨a, vs, rfl, hu, RepTs.mono su _ _ (allT_rep e q2)⟩) h1
      | dic ds =>
        simp only [hS] at h1
        cases e : allTK ds with
        | none => simp [e] at h1; exact False.elim h1
        | some ts =>
          simp only [e, Option.map_some, ofOpt_some] at h1
          obtain ⟨vs, q1, q2⟩ := cr
          exact fin _ _ _ hS trivial q1 (fun U' su hu => by simp only [RepT]; exact ⟨a, vs, rfl, hu, RepTK.mono su _ _ (allTK_rep e q2)⟩) h1
      | ins k ds =>
        simp only [hS] at h1
        cases e : allTF ds with
        | none => simp [e] at h1; exact False.elim h1
        | some ts =>
          simp only [e, Option.map_some, ofOpt_some] at h1
          obtain ⟨dx, vs, q1, q2, q3⟩ := cr
          exact fin _ _ _ hS trivial q1 (fun U' su hu => by simp only [RepT]; exact ⟨a, dx, vs, rfl, hu, su _ _ q2, RepTF.mono su _ _ (allTF_rep e q3)⟩) h1
/-! ### f-strings -/
theorem sim_fm (hu : X.A.units + 128 < cLine) (hg : X.A.guards = some []) (h : PE X e (simE G P C W m)) : PE X (.FormattedValue e (-1) none pos) (simE G P C W (.fm m)) := by
  refine ⟨fun pins s σ H Q I ⟨ρ, S, U, τ, R, RE, O⟩ => ?_⟩
  simp only [evE] at O
  refine wpAny_FormattedValue_plain (thn (h.run pins s σ H (fun v H1 => ∃ ρ1 S1 U1 x, Rel G ρ1 S1 U1 H1 ∧ RepD G ρ1 U1 x v ∧ OutG G (RepD G) ρ1 U1 H1 (evFm x S1) Q fun c d H' => W c d σ H') I ⟨ρ, S, U, τ, R, RE, O.bind fun x S1 ρ1 U1 H1 v _ s1 R1 r1 h1 => ⟨ρ1, S1, U1, x, R1, r1, h1⟩⟩) fun v s1 hv => ?_)
  obtain ⟨w, H1, I1, rw', ρ1, S1, U1, x, R1, r1, h1⟩ := hv
  have other : OutG G (RepD G) ρ1 U1 H1 (ofOpt ((datOf S1 x).bind fun d => if fmB d = true ∧ d.showable = true ∧ d.depth ≤ 100 ∧ d.shown.length ≤ sizeLine then some (.t (.str d.shown)) else none) S1) Q (fun c d H' => W c d σ H') →
      wpAny (model X.prog X.w) X.A (formatField v Str.empty) (EP X pins σ Q) X.xe s1 := fun h1 => by
    obtain ⟨z, e, h1⟩ := OutG.opt h1
    simp only [Option.bind_eq_some_iff] at e
    obtain ⟨d, e1, e2⟩ := e
    split at e2 <;> cases e2
    rename_i g
    obtain ⟨g1, g2, g3, g4⟩ := g
    have q : Q (.str d.shown) H1 := h1.now R1 (repStr (G := G) (ρ := ρ1) (U := U1))
    obtain ⟨D, sh⟩ := datOf_Dp (K := X.K) R1 e1 r1
    have nd : d.hasDict = false := PyData.hasDict_of_canLay d (SeqAt.canLay_of_shaped sh)
    obtain ⟨as, rd⟩ := Dp.reads I1 d w v D rw'
    have big : ∀ a, v = .ref a → wpAny (model X.prog X.w) X.A (formatField v Str.empty) (EP X pins σ Q) X.xe s1 := by
      rintro a rfl
      exact formatField_of_reads rd g2 (PyData.noDict_hsm nd) hg (by omega) (fun _ _ e => e) (fun h' t tk k => ⟨.str d.shown, H1, I1.kept k, ⟨t, rfl⟩, q⟩) g4
    cases D with
    | non => cases g1
    | bl b => cases g1
    | str z => cases g1
    | int i =>
      obtain ⟨t, rfl⟩ := rw'
      refine wpAny_formatField_int (by simpa [PyData.showable] using g2) ⟨.str (toString i), H1, I1.tok _, ⟨_, rfl⟩, by simpa [PyData.shown] using q⟩
    | lst s1 s2 => exact big _ rw'
    | tup s1 s2 => exact big _ rw'
  cases x with
  | loc n => exact other h1
  | t x =>
    cases x with
    | str y =>
      simp only [evFm] at h1
      split at h1
      · rename_i l
        have r1 := r1.t
        simp only [RepT] at r1
        subst r1
        obtain ⟨t, rfl⟩ := rw'
        have q : Q (.str y) H1 := h1.now R1 (repStr (G := G) (ρ := ρ1) (U := U1))
        exact wpAny_formatField_str ⟨.str y, H1, I1, ⟨t, rfl⟩, q⟩ ⟨.str y, H1, I1.tok _, ⟨_, rfl⟩, q⟩ l
      · exact h1.elim
    | _ => exact other h1
theorem js_sim : ∀ {ms : List E} {acc : Str} {ρ : List Addr} {S : Store} {U H : Hp} {τ : Env} {Q : Str → Hp → Prop}, Rel G ρ S U H → RepE G ρ U τ σ → OutG G (fun _ _ (a b : Str) => a = b) ρ U H (evJ P C ms acc τ S) Q (fun c d H' => W c d σ H') → tJs (ms.map (simE G P C W)) acc σ H Q
  | [], acc, ρ, S, U, H, τ, Q, R, RE, O => by
    simp only [evJ] at O
    exact O.now R rfl
  | m :: ms, acc, ρ, S, U, H, τ, Q, R, RE, O => by
    simp only [evJ] at O
    refine ⟨ρ, S, U, τ, R, RE, O.bind fun x S1 ρ1 U1 H1 v _ s1 R1 r1 h1 => ?_⟩
    cases x with
    | loc n => exact h1.elim
    | t x =>
      cases x with
      | str y =>
        have r1 := r1.t
        simp only [RepT] at r1
        subst r1
        simp only at h1
        split at h1
        · rename_i l
          exact ⟨y, rfl, l, js_sim R1 (RE.step s1) h1⟩
        · exact h1.elim
      | _ => exact h1.elim
theorem sim_js {a b : Expr} {r : List Expr} (h : PJ X (a :: b :: r) (ms.map (simE G P C W))) : PE X (.JoinedStr (a :: b :: r) pos) (simE G P C W (.js ms)) :=
  PE.imp (pe_joined h) fun σ H Q ⟨ρ, S, U, τ, R, RE, O⟩ => by
    simp only [evE] at O
    refine js_sim R RE ?_
    refine O.bind fun y S1 ρ1 U1 H1 z _ s1 R1 r1 h1 => ?_
    obtain rfl : y = z := r1
    exact h1.now R1 (repStr (G := G) (ρ := ρ1) (U := U1))
/-- repr(o) by the class's own -/
theorem sim_repO {x : Str} {o : Expr} {mi : Nat} (hx : x = "repr") (hg : Gl X x) (hm : X.mg x = none) (ho : PE X o (simE G P C W mo))
    (ok : ∀ c fi, P.meth c mi = some fi → MethOk G X c fi "__repr__" ∧ CallOk G C X fi 1 [] []) (gd : X.A.guards = some []) (hu : X.A.units + 1 < cLine) (tk : Takes X W)
    (hs : starEach [o] X.env = (false, eval o X.env) :: starEach [] X.env) :
    PE X (.Call (.Name x p) [o] [] pos) (simE G P C W (.bi .asRep [.meth md mi mo [] []])) := by
  subst hx
  refine ⟨fun pins s σ H Q I ⟨ρ, S, U, τ, R, RE, O⟩ => ?_⟩
  simp only [evE, evEs, bind_assoc, Ev.R.bind_ok] at O
  have sim : (tCons (simE G P C W mo) tNil) σ H fun vs H1 => ∃ v a c fi dx fs, vs = [v] ∧ v = .ref a ∧ P.meth c mi = some fi ∧ H1 a = some (.ins (G.cls c) dx fs) ∧
      ∃ ρ2 S2 U2 ds, Rel G ρ2 S2 U2 H1 ∧ RepDs G ρ2 U2 ds [v] ∧ OutG G (RepD G) ρ2 U2 H1 (C fi ds S2) (fun v H' => ∃ n, v = .str n ∧ Q (.str n) H') fun c d H' => W c d σ H' := by
    refine ⟨ρ, S, U, τ, R, RE, O.bind fun y S1 ρ1 U1 H1 v _ s1 R1 r1 h1 => ?_⟩
    split at h1
    · rename_i fi hfi
      simp only [Option.bind_eq_some_iff] at hfi
      obtain ⟨c, hc, hfi⟩ := hfi
      obtain ⟨a, dx, fs, rfl, q1, q2⟩ := cls_rep R1 r1 hc
      refine ⟨_, a, c, fi, dx, fs, rfl, rfl, hfi, q1, ρ1, S1, U1, [y], R1, .cons r1 .nil, fin_out (m := md) R1 ?_⟩
      simp only [List.map_nil, List.append_nil] at h1
      refine h1.bind fun d S2 ρ2 U2 H2 b _ s2 R2 r2 h2 => ?_
      cases d with
      | loc n => exact h2.elim
      | t x =>
        cases x <;> first | exact h2.elim | skip
        rename_i i
        simp only [evBi] at h2
        have r2 := r2.t; simp only [RepT] at r2; subst r2
        exact ⟨_, rfl, h2.now R2 repStr⟩
    · exact h1.elim
  refine wpAny_Call_Name_kw (ld_blt I hg hm PyProof.Rows.boot_repr ?_ (by decide) (by decide))
  refine PyProof.Rows.callWith_builtin1 (thn ((pa_cons ho pa_nil hs).run pos pins s σ H _ I sim) fun us s1 ⟨vs, H1, I1, r1, v, a, c, fi, dx, fs, e1, e2, hfi, ha1, ρ2, S2, U2, ds, R2, rd, O2⟩ => ?_) hs rfl
  subst e1 e2
  obtain ⟨u, rfl, ru⟩ := vals1 r1
  obtain rfl : u = Value.ref a := ru
  obtain ⟨M, k, fd, ps, dvs, dl, F, hr, hd, hdf, hl, hb⟩ := ok c fi hfi
  obtain ⟨mA, J, _⟩ := ins_get I1.hok ha1
  obtain ⟨od, J, _⟩ := J.look
  obtain ⟨m, hF⟩ := I1.fr
  have e0 : dl = [] := by
    have h1 := hd.length
    have h2 := (hdf U2).len
    simp at h2
    rw [← h2] at h1
    exact List.length_eq_zero_iff.mp h1.symm
  have hb' := hb s1 [.ref a] [] I1.kIn rfl rfl
  subst e0
  simp only [List.append_nil, List.zip_nil_right] at hb'
  have e3 := RepDs.len rd
  refine PySem.W.repr_K (show X.A.units + 1 < cLine from hu) hF I1.ok.mod.kin J M.meth.at_ M.meth.fn (wpAny_call (codeAny_mono (F.run X.A.in1 X.stack s1 H1 ⟨[.ref a], []⟩ [.ref a] [.ref a] _ _ (hr.in1) gd I1.env0.in1 hb' (.cons rfl .nil) ⟨ρ2, S2, U2, ds, R2, rd, by simp at e3 hl; omega, O2⟩) fun r s' q => ?_))
  cases r with
  | error e => exact tk _ _ (XE.of_call I1 (fun _ _ _ q => q) q)
  | ok fl =>
    cases fl with
    | ret u =>
      obtain ⟨v, H', I3, rv, n, rfl, q3⟩ := I1.after q
      obtain ⟨t, rfl⟩ := rv
      exact ⟨.str n, H', I3, ⟨_, rfl⟩, q3⟩
    | next => exact q
    | brk => exact q
    | cont => exact q
end
end Ev
end

section
set_option Elab.async false
set_option linter.all false
namespace Ev
open PySem L2
/-! ### the text's static parts -/
def noStar : Expr → Bool
  | .Starred _ _ => false
  | _ => true
theorem star1 {e : Expr} {es : List Expr} {env : PySem.Env} (h : noStar e = true) : starEach (e :: es) env = (false, eval e env) :: starEach es env := by
  cases e <;> first | rfl | cases h
theorem stars {env : PySem.Env} : ∀ {es : List Expr}, es.all noStar = true → starEach es env = es.map fun e => (false, eval e env)
  | [], _ => rfl
  | e :: es, h => by
    simp only [List.all_cons, Bool.and_eq_true] at h
    rw [star1 h.1, stars h.2]; rfl
theorem stars_any {pos : Pos} {env : PySem.Env} {es : List Expr} (h : es.all noStar = true) : (backTo pos (starEach es env)).any (·.1) = false := by
  rw [stars h]
  simp [backTo]
theorem stars_all {pos : Pos} {env : PySem.Env} {es : List Expr} (h : es.all noStar = true) : (backTo pos (starEach es env)).all (fun x => !x.1) = true := by
  rw [stars h]
  simp [backTo]
theorem few {pos : Pos} {env : PySem.Env} {es : List Expr} {n : Nat} (h : es.all noStar = true) (hn : n < 30) : methodCallForm n (backTo pos (starEach es env)) (backToKw pos (keywordEach [] env)) = true := by
  unfold methodCallForm
  rw [show ((backTo pos (starEach es env)).all fun x => !x.1) = true from stars_all h]
  simp [backToKw, keywordEach]
  exact hn
theorem kws_eq {env : PySem.Env} : ∀ {kws : List Keyword}, keywordEach kws env = kws.map fun k => (k.arg, eval k.value env)
  | [] => rfl
  | ⟨n, v, p⟩ :: r => by
    show (n, eval v env) :: keywordEach r env = _
    rw [kws_eq]; rfl
def kwNames : List Keyword → Option (List Str)
  | [] => some []
  | ⟨some n, _, _⟩ :: r => (kwNames r).map (n :: ·)
  | ⟨none, _, _⟩ :: _ => none
theorem kw_all {pos : Pos} {env : PySem.Env} : ∀ {kws : List Keyword} {ks : List Str}, kwNames kws = some ks → (backToKw pos (keywordEach kws env)).all (·.1.isSome) = true ∧ (backToKw pos (keywordEach kws env)).filterMap (·.1) = ks ∧
    (backToKw pos (keywordEach kws env)).any (·.1.isNone) = false ∧ kws.length = ks.length
  | [], ks, h => by simp [kwNames] at h; subst h; exact ⟨rfl, rfl, rfl, rfl⟩
  | ⟨none, _, _⟩ :: r, ks, h => by simp [kwNames] at h
  | ⟨some n, v, p⟩ :: r, ks, h => by
    simp only [kwNames, Option.map_eq_some_iff] at h
    obtain ⟨ks', h, rfl⟩ := h
    obtain ⟨h1, h2, h3, h4⟩ := kw_all (pos := pos) (env := env) h
    rw [kws_eq] at h1 h2 h3 ⊢
    simp only [backToKw, List.map_map] at h1 h2 h3 ⊢
    refine ⟨?_, ?_, ?_, by simp [h4]⟩
    · simpa using h1
    · simpa using h2
    · simpa using h3
theorem few_kw {pos : Pos} {env : PySem.Env} {es : List Expr} {kws : List Keyword} {ks : List Str} (h : es.all noStar = true) (hk : kwNames kws = some ks) (hn : es.length + kws.length < 29) : methodCallForm (es.length + kws.length) (backTo pos (starEach es env)) (backToKw pos (keywordEach kws env)) = true := by
  unfold methodCallForm
  rw [show ((backTo pos (starEach es env)).all fun x => !x.1) = true from stars_all h, show ((backToKw pos (keywordEach kws env)).all fun x => x.1.isSome) = true from (kw_all hk).1]
  simp only [Bool.true_and, decide_eq_true_eq]
  split <;> omega
def noComp : Expr → Bool
  | .ListComp .. => false | .SetComp .. => false | .DictComp .. => false
  | _ => true
theorem swaps_no {e : Expr} {t : Option Expr} {l : Nat} {env : PySem.Env} (h : noComp e = true) : swapsWith e t l env = pure false := by
  cases e <;> first | rfl | cases h
theorem foldSet {e : Expr} {env : PySem.Env} (h : (match e with | .Set .. => false | _ => true) = true) : ∀ x, foldedSetIterable e env x = pure x := by
  intro x
  cases e <;> first | rfl | cases h
def isSet : Expr → Bool
  | .Set .. => true
  | _ => false
theorem foldSet' {e : Expr} {env : PySem.Env} (h : isSet e = false) : ∀ x, foldedSetIterable e env x = pure x := foldSet (by cases e <;> first | rfl | cases h)
theorem noMark {op : CmpOp} {b : Expr} (h : isSet b = false) : behindInMarks op b = false := by cases b <;> first | rfl | cases h
/-- no super() -/
def attrOk : Expr → Bool
  | .Call (.Name id _) [] [] _ => decide (id ≠ "super")
  | _ => true
theorem attr_ok {o : Expr} {f : Str} {env : PySem.Env} {w : Sem Value} (h : attrOk o = true) : attributeBase o f env w = w := by
  unfold attributeBase
  split
  · simp only [attrOk, ne_eq, decide_not, Bool.not_eq_true', decide_eq_false_iff_not] at h
    have : ((_ : Str) != "super") = true := bne_iff_ne.mpr h
    simp [this]
  · rfl
def isSlice : Expr → Bool
  | .Slice .. => true
  | _ => false
theorem plainIx_of {b : Expr} (h : isSlice b = false) : PlainIx b := by
  intro o i
  cases b <;> first | rfl | cases h
def plainT : Expr → Bool
  | .UnaryOp .Not _ _ => false
  | .BoolOp .. => false
  | .IfExp .. => false
  | .Compare .. => false
  | _ => true
theorem isTrue_plain {e : Expr} {env : PySem.Env} (h : plainT e = true) : ∀ whole, isTrue e env whole = (do let v ← whole; standAt e.pos; holding [v] (truthy v)) := by
  intro w
  cases e <;> first | rfl | cases h | skip
  rename_i op _ _
  cases op <;> first | rfl | cases h
def plainM : E → Bool
  | .and_ .. => false | .or_ .. => false | .not_ .. => false
  | _ => true
theorem evT_plain {P : Prg} {C : Calls} {m : E} (h : plainM m = true) : ∀ τ S, evT P C m τ S = (evE P C m τ S).bind fun x S1 => ofOpt (truD S1 x) S1 := by
  intro τ S
  cases m <;> first | (simp only [evT]; done) | cases h
theorem pe_bool1 {X : Cx} {e : Expr} {t : TE} {op : BoolOp} {pos : Pos} (h : PE X e t) : PE X (.BoolOp op [e] pos) t := ⟨fun pins s σ H Q I w => h.run pins s σ H Q I w⟩
end Ev
end

section
set_option Elab.async false
set_option linter.all false
namespace Ev
open PySem L2
inductive GK where
  | fn (f : Nat) | cls (c : Nat) | int (i : Int) | str (x : Str)
structure Sig where
  f : Nat
  n : Nat
  ks : List Str
  df : List T
/-- what is known of the module's names, of the classes, of how defs are called -/
structure Tab where
  gl : List (Str × GK)
  blts : List Str
  sigs : List Sig
  meths : List ((Nat × Nat) × Nat)
  mns : List Str
  inits : List (Nat × Nat)
  ups : List ((Nat × Str) × Nat)
  flds : List Str
  xgl : List (Str × Nat)
  xmk : List Nat
def tEq : T → T → Bool
  | .non, .non => true
  | .bl a, .bl b => decide (a = b)
  | .int a, .int b => decide (a = b)
  | .str a, .str b => decide (a = b)
  | .tup [], .tup [] => true
  | _, _ => false
theorem tEq_ok {a b : T} (h : tEq a b = true) : a = b := by
  unfold tEq at h
  split at h <;> first | rfl | (rw [of_decide_eq_true h]) | cases h
def tsEq : List T → List T → Bool
  | [], [] => true
  | a :: x, b :: y => tEq a b && tsEq x y
  | _, _ => false
theorem tsEq_ok : ∀ {a b : List T}, tsEq a b = true → a = b
  | [], [], _ => rfl
  | [], _ :: _, h => by cases h
  | _ :: _, [], h => by cases h
  | a :: x, b :: y, h => by
    simp only [tsEq, Bool.and_eq_true] at h
    rw [tEq_ok h.1, tsEq_ok h.2]
section
variable (T_ : Tab)
def Tab.sig (f n : Nat) (ks : List Str) (df : List T) : Bool := T_.sigs.any fun s => decide (s.f = f) && decide (s.n = n) && decide (s.ks = ks) && tsEq s.df df
theorem Tab.sig_ok {T_ : Tab} {f n : Nat} {ks : List Str} {df : List T} (h : T_.sig f n ks df = true) : ⟨f, n, ks, df⟩ ∈ T_.sigs := by
  simp only [Tab.sig, List.any_eq_true, Bool.and_eq_true, decide_eq_true_eq] at h
  obtain ⟨s, h1, ⟨⟨h2, h3⟩, h4⟩, h5⟩ := h
  obtain ⟨a, b, c, d⟩ := s
  simp only at h2 h3 h4 h5
  have := tsEq_ok h5
  subst h2 h3 h4 this
  exact h1
/-- every def that the method mi may be can be called so -/
def Tab.msig (mi n : Nat) (df : List T) : Bool := T_.meths.all fun q => !decide (q.1.2 = mi) || T_.sig q.2 n [] df
def Tab.blt (x : Str) : Bool := T_.blts.any fun y => decide (y = x)
end
/-- it is raised with a text -/
structure XMk (K : PySem.W.Frag) (C : Addr) : Prop where
  ex : PySem.W.excIn K C [.type "ValueError", .type "Exception", .type "BaseException", .type "object"] "ValueError.__new__" = true
  keep : PySem.W.keepIn K (.ref C) = true
  sub : PySem.W.subIn K (.ref C) (.type "BaseException") = some true
  ty : PySem.W.typeIn K (.ref C) = some (.type "type")
/-- the tables are right -/
structure TOk (T_ : Tab) (G : Glob) (P : Prg) (C : Calls) (X : Cx) : Prop where
  g : GOk G X.K P
  fnv : ∀ x f, T_.gl.lookup x = some (.fn f) → X.mg x = some (.ref (G.fn f)) ∧ PySem.W.keepIn X.K (.ref (G.fn f)) = true
  clv : ∀ x c, T_.gl.lookup x = some (.cls c) → X.mg x = some (.ref (G.cls c))
  iv : ∀ x i, T_.gl.lookup x = some (.int i) → ∃ t, X.mg x = some (.int i t)
  sv : ∀ x i, T_.gl.lookup x = some (.str i) → ∃ t, X.mg x = some (.str i t)
  bv : ∀ x, T_.blt x = true → X.mg x = none
  sig : ∀ f n ks df, ⟨f, n, ks, df⟩ ∈ T_.sigs → CallOk G C X f n ks df
  meth : ∀ c mi fi, P.meth c mi = some fi → ((c, mi), fi) ∈ T_.meths ∧ ∀ mn, T_.mns[mi]? = some mn → MethOk G X c fi mn
  init : ∀ c fi, T_.inits.lookup c = some fi → P.init c = some fi ∧ Mk X.K (G.cls c) (G.fn fi)
  up : ∀ c mn fi x, T_.ups.lookup (c, mn) = some fi → T_.gl.lookup x = some (.cls c) → UpOk G X c fi x mn
  fld : ∀ (f : Nat) (x : Str), T_.flds[f]? = some x → f < G.nf ∧ G.fld f = x
  xr : ∀ x c, T_.xgl.lookup x = some c → X.mg x = some (.ref (G.xc c))
  xk : ∀ c, c ∈ T_.xmk → XMk X.K (G.xc c)
/-- the context is right -/
structure KOk (T_ : Tab) (G : Glob) (P : Prg) (C : Calls) (N : List Str) (sc raw : Scope) (X : Cx) (W : WX) : Prop where
  t : TOk T_ G P C X
  N : X.N = N
  nd : X.N.Nodup
  dbg : ∀ x ∈ X.N, (x == ("__debug__" : Str)) = false ∧ (x == ("__classdict__" : Str)) = false
  sc : X.env.scope = sc
  fn : ∀ x, raw.names.lookup x = some .cell → X.fn x = true
  calm : X.calm = true
  un : X.A.units + 128 < cLine
  gd : X.A.guards = some []
  tk : Takes X W
/-- tasks -/
inductive Job where
  | e (m : E) (x : Expr) | t (m : E) (x : Expr) | w (op : BoolOp) (m : E) (xs : List Expr) | we (op : BoolOp) (m : E) (xs : List Expr)
  | es (ms : List E) (xs : List Expr) | f (m : F) (x : Expr) | o (m : Option E) (x : Option Expr)
  | i (m : Ev.It) (x : Expr) | g (m : Tg) (x : Expr) | gs (ms : List Tg) (xs : List Expr) | ts (ms : List E) (xs : List Expr)
  | k (ms : List E) (xs : List Keyword) | kv (ks : List Key) (ms : List E) (kx : List (Option Expr)) (vx : List Expr) | j (ms : List E) (xs : List Expr)
/-- it asks a tuple of targets -/
def tupIt : Ev.It → Bool
  | .enu _ => true
  | .zip _ _ => true
  | _ => false
def isTupX : Expr → Bool
  | .Tuple .. => true
  | _ => false
def itTg (m : Ev.It) (tg : Expr) : Bool := !tupIt m || isTupX tg
def Good1 (G : Glob) (P : Prg) (C : Calls) (W : WX) (X : Cx) : Job → Prop
  | .e m x => PE X x (simE G P C W m)
  | .t m x => PT X x (simT G P C W m)
  | .w op m xs => ∀ pos, PW X (.BoolOp op xs pos) (simT G P C W m)
  | .we op m xs => ∀ pos, PE X (.BoolOp op xs pos) (simE G P C W m)
  | .es ms xs => PA X xs (simA G P C W ms) ∧ xs.all noStar = true ∧ ms.length = xs.length
  | .f m x => PE X x (simF G P C W m)
  | .o m x => PO X x (simO G P C W m)
  | .i m x => ∀ tg, itTg m tg = true → PI X tg x (simI G P C W m)
  | .g m x => PG X x (simG G P C W m)
  | .gs ms xs => PGs X xs (simGs G P C W ms) ∧ xs.all noStar = true ∧ ms.length = xs.length
  | .ts ms xs => PTs X xs (simTs G P C W ms)
  | .k ms xs => PK X xs (simA G P C W ms) ∧ ms.length = xs.length
  | .kv ks ms kx vx => Pes G P C W X kx vx ks ms
  | .j ms xs => PJ X xs (ms.map (simE G P C W))
def Good (T_ : Tab) (G : Glob) (P : Prg) (C : Calls) (N : List Str) (sc raw : Scope) (j : Job) : Prop := ∀ X W, KOk T_ G P C N sc raw X W → Good1 G P C W X j

def visB (sc : Scope) (x : Str) : Bool := match sc.names.lookup x with
  | some .local => true
  | some .cell => true
  | some .free => true
  | _ => false
theorem visB_ok {sc : Scope} {x : Str} (h : visB sc x = true) : Vis sc x := by
  unfold visB at h
  split at h <;> first | cases h | skip
  · exact .inl (by assumption)
  · exact .inr (.inl (by assumption))
  · exact .inr (.inr (by assumption))
def glB (sc : Scope) (x : Str) : Bool := match sc.names.lookup x with
  | some .globalImplicit => true
  | _ => false
theorem glB_ok {sc : Scope} {x : Str} (h : glB sc x = true) : sc.names.lookup x = some .globalImplicit := by
  unfold glB at h
  split at h
  · assumption
  · cases h
/-- a name that is stored -/
def locB (sc raw : Scope) (x : Str) : Bool := match sc.names.lookup x with
  | some .local => true
  | some .cell => (match raw.names.lookup x with
    | some .cell => true
    | _ => false)
  | _ => false
theorem KOk.locB {T_ : Tab} {G : Glob} {P : Prg} {C : Calls} {N : List Str} {sc raw : Scope} {X : Cx} {W : WX} (k : KOk T_ G P C N sc raw X W) {x : Str} (h : locB sc raw x = true) :
    Loc X.env.scope x ∧ (X.fn x = true ∨ X.env.scope.names.lookup x = some .local) := by
  unfold Ev.locB at h
  rw [k.sc]
  split at h
  · rename_i e; exact ⟨.inl e, .inr e⟩
  · rename_i e
    refine ⟨.inr e, .inl (k.fn x ?_)⟩
    split at h
    · assumption
    · cases h
  · cases h
theorem KOk.gl {T_ : Tab} {G : Glob} {P : Prg} {C : Calls} {N : List Str} {sc raw : Scope} {X : Cx} {W : WX} (k : KOk T_ G P C N sc raw X W) {x : Str} (h : glB sc x = true) : Gl X x := by
  show X.env.scope.names.lookup x = _
  rw [k.sc]; exact glB_ok h
def opB : BOp → Operator → Bool
  | .add, .Add => true | .sub, .Sub => true | .mul, .Mult => true | .fdiv, .FloorDiv => true | .mod, .Mod => true | .pow, .Pow => true | .shl, .LShift => true | .shr, .RShift => true | .band, .BitAnd => true | .bor, .BitOr => true | .bxor, .BitXor => true
  | _, _ => false
theorem opB_ok {o : BOp} {op : Operator} (h : opB o op = true) : op = o.op := by
  cases o <;> cases op <;> first | rfl | cases h
def copB : COp → CmpOp → Bool
  | .eq, .Eq => true | .ne, .NotEq => true | .lt, .Lt => true | .le, .LtE => true | .gt, .Gt => true | .ge, .GtE => true | .is_, .Is => true | .isn, .IsNot => true | .in_, .In => true | .nin, .NotIn => true
  | _, _ => false
theorem copB_ok {o : COp} {op : CmpOp} (h : copB o op = true) : op = o.op := by
  cases o <;> cases op <;> first | rfl | cases h
def cstB : T → Const → Bool
  | .non, .none => true
  | .bl a, .bool b => decide (a = b)
  | .int a, .int b => decide (a = b)
  | .str a, .str b => decide (a = b)
  | _, _ => false
theorem cstB_ok {t : T} {c : Const} {j : Nat} {pos : Pos} {G : Glob} {P : Prg} {C : Calls} {W : WX} {X : Cx} (h : cstB t c = true) : PE X (.Constant c j pos) (simE G P C W (.cst t)) := by
  unfold cstB at h
  split at h <;> first | cases h | skip
  · exact sim_cst pe_non fun U => by simp [RepT]
  · rw [of_decide_eq_true h]; exact sim_cst pe_bl fun U => by simp [RepT]
  · rw [of_decide_eq_true h]; exact sim_cst pe_int fun U => by simp [RepT]
  · rw [of_decide_eq_true h]; exact sim_cst pe_str fun U => by simp [RepT]
def keyB : Key → Const → Bool
  | .inl a, .int b => decide (a = b)
  | .inr a, .str b => decide (a = b)
  | _, _ => false
theorem keyB_ok {k : Key} {c : Const} (h : keyB k c = true) : c = keyC k := by
  unfold keyB at h
  split at h <;> first | cases h | (rw [of_decide_eq_true h]; rfl)
/-- built-in types by name -/
def tyB (x : Str) : Option String := if x = "int" then some "int" else if x = "bool" then some "bool" else if x = "str" then some "str" else if x = "list" then some "list" else if x = "tuple" then some "tuple" else if x = "dict" then some "dict" else none
theorem tyB_ok {x : Str} {n : String} (h : tyB x = some n) : bootBuiltins x = some (.type n) ∧ x ≠ "__name__" ∧ (x == ("__debug__" : Str)) = false := by
  unfold tyB at h
  split at h
  · rename_i e; subst e; cases h; exact ⟨by kernel_rfl, by decide, by decide⟩
  · split at h
    · rename_i e; subst e; cases h; exact ⟨by kernel_rfl, by decide, by decide⟩
    · split at h
      · rename_i e; subst e; cases h; exact ⟨by kernel_rfl, by decide, by decide⟩
      · split at h
        · rename_i e; subst e; cases h; exact ⟨by kernel_rfl, by decide, by decide⟩
        · split at h
          · rename_i e; subst e; cases h; exact ⟨by kernel_rfl, by decide, by decide⟩
          · split at h
            · rename_i e; subst e; cases h; exact ⟨by kernel_rfl, by decide, by decide⟩
            · cases h
def Bi.name : Bi → Str
  | .len => "len" | .abs => "abs" | .max2 => "max" | .min2 => "min" | .sum => "sum" | .all => "all" | .any => "any" | .int => "int" | .divmod => "divmod" | .repr => "repr" | .str => "str" | .tuple => "tuple" | .maxl => "max" | .minl => "min"
  | .lenset => "" | .bitlen => "" | .asLen => "" | .asRep => ""
theorem bi_boot {b : Bi} (h : b.std = true) : bootBuiltins b.name = some b.fn ∧ b.name ≠ "__name__" ∧ (b.name == ("__debug__" : Str)) = false := by
  cases b <;> first | (exact absurd h (by decide)) | (exact ⟨by kernel_rfl, by decide, by decide⟩)
end Ev
end

section
set_option Elab.async false
set_option linter.all false
namespace Ev
open PySem L2
/-- one step; r: the same scope; rb: a block's scope -/
structure Rec where
  r : Job → Bool
  rb : Scope → Job → Bool
section
variable (T_ : Tab) (N : List Str) (sc raw : Scope) (R : Rec)
def cCall (f : Nat) (ms : List E) (df : List T) (x : Expr) : Bool := match x with
  | .Call (.Name x _) [] [] _ => (match ms with | [] => true | _ => false) && (glB sc x && ((match T_.gl.lookup x with | some (.fn g) => decide (g = f) | _ => false) && (T_.sig f 0 [] df && decide (x ≠ "__debug__"))))
  | .Call (.Name x _) (e :: es) kws _ => glB sc x && ((match T_.gl.lookup x with | some (.fn g) => decide (g = f) | _ => false) && (decide (x ≠ "__debug__") &&
      (match kws with
        | [] => R.r (.es ms (e :: es)) && T_.sig f (e :: es).length [] df
        | kws => (match kwNames kws with
          | some ks => R.r (.es (ms.take (e :: es).length) (e :: es)) && (R.r (.k (ms.drop (e :: es).length) kws) && T_.sig f (e :: es).length ks df)
          | none => false))))
  | .Call (.Attribute (.Name x _) mn apos) (e :: es) kws pos => glB sc x && ((match T_.gl.lookup x with | some (.cls c) => decide (T_.ups.lookup (c, mn) = some f) | _ => false) && (decide (x ≠ "__debug__") &&
      ((apos.endLine == pos.line) && (decide ((e :: es).length + kws.length < 29) && (match kwNames kws with
          | some ks => R.r (.es (ms.take (e :: es).length) (e :: es)) && (R.r (.k (ms.drop (e :: es).length) kws) && T_.sig f (e :: es).length ks df)
          | none => false)))))
  | _ => false
def cBi (b : Bi) (ms : List E) (x : Expr) : Bool := match b with
  | .lenset => (match ms, x with
    | [m], .Call (.Name x _) [.Call (.Name y _) [a] [] _] [] _ => decide (x = "len") && (decide (y = "set") && (glB sc x && (glB sc y && (T_.blt x && (T_.blt y && (R.r (.e m a) && noStar a))))))
    | _, _ => false)
  | .bitlen => (match ms, x with
    | [m], .Call (.Attribute a nm apos) [] [] pos => decide (nm = "bit_length") && (R.r (.e m a) && (attrOk a && (apos.endLine == pos.line)))
    | _, _ => false)
  | .asLen => (match ms, x with
    | [.meth _ mi mo [] []], .Call (.Name x _) [o] [] _ => decide (x = "len") && (glB sc x && (T_.blt x && (R.r (.e mo o) && (noStar o && (decide (T_.mns[mi]? = some "__len__") && T_.msig mi 1 [])))))
    | _, _ => false)
  | .asRep => (match ms, x with
    | [.meth _ mi mo [] []], .Call (.Name x _) [o] [] _ => decide (x = "repr") && (glB sc x && (T_.blt x && (R.r (.e mo o) && (noStar o && (decide (T_.mns[mi]? = some "__repr__") && T_.msig mi 1 [])))))
    | _, _ => false)
  | b => (match x with
    | .Call (.Name x _) (e :: es) [] _ => decide (x = b.name) && (b.std && (glB sc x && (T_.blt x && R.r (.es ms (e :: es)))))
    | _ => false)
def cBm (b : Bm) (o : E) (ms : List E) (x : Expr) : Bool := match x with
  | .Call (.Attribute a nm apos) [] [] pos => (match b with | .pop => true | .clear => true | .reverse => true | _ => false) && ((match ms with | [] => true | _ => false) && (decide (nm = b.nm.1) && (R.r (.e o a) && (attrOk a && (apos.endLine == pos.line)))))
  | .Call (.Attribute a nm apos) [e] [] pos => (match b with | .append => true | .popAt => true | _ => false) && (decide (nm = b.nm.1) && (R.r (.e o a) && (R.r (.es ms [e]) && (attrOk a && (apos.endLine == pos.line)))))
  | _ => false
def cMeth (mi : Nat) (o : E) (ms : List E) (df : List T) (x : Expr) : Bool := match x with
  | .Call (.Attribute a mn apos) [] [] pos => (match ms with | [] => true | _ => false) && (decide (T_.mns[mi]? = some mn) && (T_.msig mi 1 df && (R.r (.e o a) && (attrOk a && (apos.endLine == pos.line)))))
  | .Call (.Attribute a mn apos) (e :: es) [] pos => decide (T_.mns[mi]? = some mn) && (T_.msig mi ((e :: es).length + 1) df && (R.r (.e o a) && (R.r (.es ms (e :: es)) && (attrOk a && ((apos.endLine == pos.line) && decide ((e :: es).length < 29))))))
  | _ => false
def cMk (c : Nat) (ms : List E) (df : List T) (x : Expr) : Bool := match x with
  | .Call (.Name x _) [] [] _ => (match ms with | [] => true | _ => false) && (glB sc x && ((match T_.gl.lookup x with | some (.cls d) => decide (d = c) | _ => false) && ((match T_.inits.lookup c with | some f => T_.sig f 1 [] df | none => false) && decide (x ≠ "__debug__"))))
  | .Call (.Name x _) (e :: es) [] _ => glB sc x && ((match T_.gl.lookup x with | some (.cls d) => decide (d = c) | _ => false) && ((match T_.inits.lookup c with | some f => T_.sig f ((e :: es).length + 1) [] df | none => false) && (decide (x ≠ "__debug__") && R.r (.es ms (e :: es)))))
  | _ => false
def cIsi (m : E) (cs : List Cl) (x : Expr) : Bool := match x with
  | .Call (.Name x _) [a, .Name y _] [] _ => decide (x = "isinstance") && (glB sc x && (T_.blt x && (R.r (.e m a) && (noStar a && (glB sc y && (match cs with
    | [.ty n] => decide (tyB y = some n) && T_.blt y
    | [.own c] => (match T_.gl.lookup y with | some (.cls d) => decide (d = c) | _ => false) && decide (y ≠ "__debug__")
    | _ => false))))))
  | _ => false
def cE (m : E) (x : Expr) : Bool := match m with
  | .var i => (match x with
    | .Name y _ => decide (N[i]? = some y) && visB sc y
    | _ => false)
  | .cst t => (match x with
    | .Constant c _ _ => cstB t c
    | .Name y _ => glB sc y && (decide (y ≠ "__debug__") && (match T_.gl.lookup y, t with
      | some (.int i), .int j => decide (i = j)
      | some (.str i), .str j => decide (i = j)
      | _, _ => false))
    | _ => false)
  | .tup ms => (match x with
    | .Tuple es _ _ => R.r (.es ms es)
    | _ => false)
  | .fr f => R.r (.f f x)
  | .nw f => R.r (.f f x)
  | .dnw => (match x with
    | .Dict [] [] _ => true
    | _ => false)
  | .ddi ks ms => (match x with
    | .Dict kx vx _ => R.r (.kv ks ms kx vx) && ((match ks with | [] => false | _ => true) && decide (ks.length ≤ 15))
    | _ => false)
  | .bin o a b => (match x with
    | .BinOp p op q _ => opB o op && (R.r (.e a p) && R.r (.e b q))
    | _ => false)
  | .neg a => (match x with
    | .UnaryOp .USub p _ => R.r (.e a p)
    | _ => false)
  | .cmp o a b => (match x with
    | .Compare p [op] [q] _ => copB o op && (R.r (.e a p) && (R.r (.e b q) && !isSet q))
    | _ => false)
  | .cmp2 o o2 a b c => (match x with
    | .Compare p [op, op2] [q, r] _ => copB o op && (copB o2 op2 && (R.r (.e a p) && (R.r (.e b q) && (R.r (.e c r) && !isSet r))))
    | _ => false)
  | .and_ a b => (match x with
    | .BoolOp op xs _ => R.r (.we op (.and_ a b) xs)
    | _ => false)
  | .or_ a b => (match x with
    | .BoolOp op xs _ => R.r (.we op (.or_ a b) xs)
    | _ => false)
  | .not_ a => (match x with
    | .UnaryOp .Not p _ => R.r (.e a p)
    | _ => false)
  | .ife c a b => (match x with
    | .IfExp t p q _ => R.r (.t c t) && (R.r (.e a p) && R.r (.e b q))
    | _ => false)
  | .fld a f => (match x with
    | .Attribute p nm _ => R.r (.e a p) && (attrOk p && decide (T_.flds[f]? = some nm))
    | _ => false)
  | .idx a i => (match x with
    | .Subscript p q _ => R.r (.e a p) && (R.r (.e i q) && !isSlice q)
    | _ => false)
  | .bi b ms => cBi T_ sc R b ms x
  | .bm b o ms => cBm R b o ms x
  | .isi m cs => cIsi T_ sc R m cs x
  | .call _ f ms df => cCall T_ sc R f ms df x
  | .meth _ mi o ms df => cMeth T_ R mi o ms df x
  | .mk _ c ms df => cMk T_ sc R c ms df x
  | .fz m => R.r (.e m x)
  | .fm m => (match x with
    | .FormattedValue a k none _ => decide (k = -1) && R.r (.e m a)
    | _ => false)
  | .js ms => (match x with
    | .JoinedStr (a :: b :: r) _ => R.r (.j ms (a :: b :: r))
    | _ => false)
def cT (m : E) (x : Expr) : Bool := match x with
  | .BoolOp op xs _ => R.r (.w op m xs)
  | .UnaryOp .Not p _ => (match m with | .not_ a => R.r (.t a p) | _ => false)
  | .Compare p [op] [q] _ => (match m with | .cmp o a b => copB o op && (R.r (.e a p) && (R.r (.e b q) && !isSet q)) | _ => false)
  | x => plainT x && (plainM m && R.r (.e m x))
def cW (op : BoolOp) (m : E) (xs : List Expr) : Bool := match xs with
  | [x] => R.r (.t m x)
  | x :: y :: r => (match op, m with
    | .And, .and_ a b => R.r (.t a x) && R.r (.w .And b (y :: r))
    | .Or, .or_ a b => R.r (.t a x) && R.r (.w .Or b (y :: r))
    | _, _ => false)
  | [] => false
def cWe (op : BoolOp) (m : E) (xs : List Expr) : Bool := match xs with
  | [x] => R.r (.e m x)
  | x :: y :: r => (match op, m with
    | .And, .and_ a b => R.r (.e a x) && R.r (.we .And b (y :: r))
    | .Or, .or_ a b => R.r (.e a x) && R.r (.we .Or b (y :: r))
    | _, _ => false)
  | [] => false
def cEs (ms : List E) (xs : List Expr) : Bool := match ms, xs with
  | [], [] => true
  | m :: ms, x :: xs => R.r (.e m x) && (noStar x && R.r (.es ms xs))
  | _, _ => false
def cComp (tg : Tg) (it : Ev.It) (ifs : List E) (m : E) (x : Expr) : Bool := match x with
  | .ListComp elt [⟨t, iter, is, 0⟩] scope _ => (itTg it t && R.r (.i it iter)) && (!isSet iter && (
      let own := (tgVars tg).filterMap fun i => (N[i]?).map fun y => (y, i)
      blkC N sc scope own && (decide (own.map (·.2) = tgVars tg) && (R.rb scope (.g tg t) && (R.rb scope (.ts ifs is) && R.rb scope (.e m elt))))))
  | _ => false
def cF (m : F) (x : Expr) : Bool := match m with
  | .disp ms => (match x with
    | .List es _ => R.r (.es ms es)
    | _ => false)
  | .cat a b => (match x with
    | .BinOp p .Add q _ => R.r (.e a p) && R.r (.e b q)
    | _ => false)
  | .rep a b => (match x with
    | .BinOp p .Mult q _ => R.r (.e a p) && R.r (.e b q)
    | _ => false)
  | .slc a lo hi => (match x with
    | .Subscript p (.Slice l h none _) _ => R.r (.e a p) && (R.r (.o lo l) && R.r (.o hi h))
    | _ => false)
  | .rev a => (match x with
    | .Subscript p (.Slice none none (some (.UnaryOp .USub (.Constant (.int 1) _ _) _)) _) _ => R.r (.e a p)
    | _ => false)
  | .comp tg it ifs m => cComp N sc R tg it ifs m x
  | .listOf a => (match x with
    | .Call (.Name y _) [p] [] _ => decide (y = "list") && (glB sc y && (T_.blt y && (R.r (.e a p) && noStar p)))
    | _ => false)
  | .keysOf a => (match x with
    | .Call (.Name y _) [p] [] _ => decide (y = "list") && (glB sc y && (T_.blt y && (R.r (.e a p) && noStar p)))
    | _ => false)
  | .rng ms => (match ms, x with
    | [a], .Call (.Name y _) [.Call (.Name z _) [p] [] _] [] _ => decide (y = "list") && (decide (z = "range") && (glB sc y && (T_.blt y && (glB sc z && (T_.blt z && (R.r (.e a p) && noStar p))))))
    | _, _ => false)
  | .sorted a => (match x with
    | .Call (.Name y _) [p] [] _ => decide (y = "sorted") && (glB sc y && (T_.blt y && (R.r (.e a p) && noStar p)))
    | _ => false)
def cO (m : Option E) (x : Option Expr) : Bool := match m, x with
  | none, none => true
  | some m, some x => R.r (.e m x)
  | _, _ => false
def cI (m : Ev.It) (x : Expr) : Bool := match m with
  | .val m => R.r (.e m x)
  | .rng ms => (match ms, x with
    | [a], .Call (.Name z _) [p] [] _ => decide (z = "range") && (glB sc z && (T_.blt z && (R.r (.e a p) && noStar p)))
    | [a, b], .Call (.Name z _) [p, q] [] _ => decide (z = "range") && (glB sc z && (T_.blt z && (R.r (.e a p) && (noStar p && (R.r (.e b q) && noStar q)))))
    | _, _ => false)
  | .enu a => (match x with
    | .Call (.Name z _) [p] [] _ => decide (z = "enumerate") && (glB sc z && (T_.blt z && (R.r (.e a p) && noStar p)))
    | _ => false)
  | .zip a b => (match x with
    | .Call (.Name z _) [p, q] [] _ => decide (z = "zip") && (glB sc z && (T_.blt z && (R.r (.e a p) && (noStar p && (R.r (.e b q) && noStar q)))))
    | _ => false)
  | _ => false
def cG (m : Tg) (x : Expr) : Bool := match m with
  | .nm i => (match x with
    | .Name y _ => decide (N[i]? = some y) && locB sc raw y
    | _ => false)
  | .tp ts => (match x with
    | .Tuple es _ _ => R.r (.gs ts es)
    | _ => false)
  | .ix a i => (match x with
    | .Subscript p q _ => R.r (.e a p) && (R.r (.e i q) && !isSlice q)
    | _ => false)
def cGs (ms : List Tg) (xs : List Expr) : Bool := match ms, xs with
  | [], [] => true
  | m :: ms, x :: xs => R.r (.g m x) && (noStar x && R.r (.gs ms xs))
  | _, _ => false
def cTs (ms : List E) (xs : List Expr) : Bool := match ms, xs with
  | [], [] => true
  | [m], [x] => R.r (.t m x)
  | _, _ => false
def cK (ms : List E) (xs : List Keyword) : Bool := match ms, xs with
  | [], [] => true
  | m :: ms, ⟨_, x, _⟩ :: xs => R.r (.e m x) && R.r (.k ms xs)
  | _, _ => false
def cKv (ks : List Key) (ms : List E) (kx : List (Option Expr)) (vx : List Expr) : Bool := match ks, ms, kx, vx with
  | [], [], [], [] => true
  | k :: ks, m :: ms, some (.Constant c _ _) :: kx, x :: vx => keyB k c && (R.r (.e m x) && R.r (.kv ks ms kx vx))
  | _, _, _, _ => false
def cJ (ms : List E) (xs : List Expr) : Bool := match ms, xs with
  | [], [] => true
  | m :: ms, x :: xs => R.r (.e m x) && R.r (.j ms xs)
  | _, _ => false
def step (j : Job) : Bool := match j with
  | .e m x => cE T_ N sc R m x
  | .t m x => cT R m x
  | .w op m xs => cW R op m xs
  | .we op m xs => cWe R op m xs
  | .es ms xs => cEs R ms xs
  | .f m x => cF T_ N sc R m x
  | .o m x => cO R m x
  | .i m x => cI T_ sc R m x
  | .g m x => cG N sc raw R m x
  | .gs ms xs => cGs R ms xs
  | .ts ms xs => cTs R ms xs
  | .k ms xs => cK R ms xs
  | .kv ks ms kx vx => cKv R ks ms kx vx
  | .j ms xs => cJ R ms xs
end
def chk (T_ : Tab) (N : List Str) : Nat → Scope → Scope → Job → Bool
  | 0, _, _, _ => false
  | n + 1, sc, raw, j => step T_ N sc raw ⟨fun j => chk T_ N n sc raw j, fun scope j => chk T_ N n (relS scope sc) scope j⟩ j
end Ev
end

section
set_option Elab.async false
set_option linter.all false
namespace Ev
open PySem L2
section
variable {T_ : Tab} {N : List Str} {sc raw : Scope} {R : Rec} {G : Glob} {P : Prg} {C : Calls} {X : Cx} {W : WX}
theorem Takes.w0 {s : Shared} {H : Hp} {scope : Scope} {cenv : PySem.Env} {fp : List Addr} : Takes (X.blk s H scope cenv fp) W0 := fun u s' ⟨_, _, _, _, _, _, _, _, _, _, _, _, _, _, _, _, w⟩ => w.elim
theorem KOk.blk (k : KOk T_ G P C N sc raw X W) (scope : Scope) (s : Shared) (H : Hp) (Ca : Addr) (cl : List (Str × Addr)) (fp : List Addr) : KOk T_ G P C N (relS scope sc) scope (X.blk s H scope (compEnvC scope cl Ca X.env) fp) W0 :=
  { t := ⟨k.t.g, k.t.fnv, k.t.clv, k.t.iv, k.t.sv, k.t.bv, k.t.sig, fun c mi fi h => ⟨(k.t.meth c mi fi h).1, fun mn h2 => ⟨((k.t.meth c mi fi h).2 mn h2).meth, ((k.t.meth c mi fi h).2 mn h2).free⟩⟩, k.t.init, fun c mn fi x h1 h2 => ⟨(k.t.up c mn fi x h1 h2).glob, (k.t.up c mn fi x h1 h2).read, (k.t.up c mn fi x h1 h2).val, (k.t.up c mn fi x h1 h2).kp⟩, k.t.fld, k.t.xr, k.t.xk⟩
    N := k.N
    nd := k.nd
    dbg := k.dbg
    sc := by
      show relS scope X.env.scope = _
      rw [k.sc]
    fn := fun x h => by
      show (scope.names.lookup x == some .cell) = true
      rw [h]; rfl
    calm := k.calm
    un := k.un
    gd := k.gd
    tk := Takes.w0 }
theorem andT {a b : Bool} (h : (a && b) = true) : a = true ∧ b = true := by
  cases a <;> cases b <;> first | exact ⟨rfl, rfl⟩ | cases h
theorem neD {x : Str} (h : decide (x ≠ "__debug__") = true) : (x == ("__debug__" : Str)) = false := by
  simp only [ne_eq, decide_not, Bool.not_eq_true', decide_eq_false_iff_not] at h
  exact beq_eq_false_iff_ne.mpr h
variable (hr : ∀ j, R.r j = true → Good T_ G P C N sc raw j)
include hr
theorem cCall_ok {md : Md} {f : Nat} {ms : List E} {df : List T} {x : Expr} (h : cCall T_ sc R f ms df x = true) (k : KOk T_ G P C N sc raw X W) : PE X x (simE G P C W (.call md f ms df)) := by
  unfold cCall at h
  split at h
  · rename_i x p1 p2
    obtain ⟨h1, h⟩ := andT h
    obtain ⟨h2, h⟩ := andT h
    obtain ⟨h3, h⟩ := andT h
    obtain ⟨h4, h5⟩ := andT h
    split at h1 <;> cases h1
    split at h3 <;> try (cases h3; done)
    rename_i g e
    obtain rfl := of_decide_eq_true h3
    obtain ⟨e1, e2⟩ := k.t.fnv _ _ e
    exact sim_call0 (k.t.sig _ _ _ _ (Tab.sig_ok h4)) k.gd k.tk (k.gl h2) e1 e2 (neD h5)
  · rename_i x p1 e es kws p2
    obtain ⟨h2, h⟩ := andT h
    obtain ⟨h3, h⟩ := andT h
    obtain ⟨h5, h⟩ := andT h
    split at h3 <;> try (cases h3; done)
    rename_i g e0
    obtain rfl := of_decide_eq_true h3
    obtain ⟨e1, e2⟩ := k.t.fnv _ _ e0
    split at h
    · obtain ⟨h6, h7⟩ := andT h
      obtain ⟨a1, a2, a3⟩ := hr _ h6 X W k
      have a4 : noStar e = true ∧ es.all noStar = true := by simpa using a2
      exact sim_call (k.t.sig _ _ _ _ (Tab.sig_ok h7)) k.gd k.tk (k.gl h2) e1 e2 a1 (neD h5) (star1 a4.1) (stars_any a4.2) a3
    · split at h
      · rename_i ks hks
        obtain ⟨h6, h⟩ := andT h
        obtain ⟨h7, h8⟩ := andT h
        obtain ⟨a1, a2, a3⟩ := hr _ h6 X W k
        obtain ⟨b1, b2⟩ := hr _ h7 X W k
        have a4 : noStar e = true ∧ es.all noStar = true := by simpa using a2
        obtain ⟨q1, q2, q3, q4⟩ := kw_all (pos := p2) (env := X.env) hks
        have := sim_callK (md := md) (p := p1) (k.t.sig _ _ _ _ (Tab.sig_ok h8)) k.gd k.tk (k.gl h2) e1 e2 a1 b1 q1 q2 (neD h5) (star1 a4.1) (by rw [stars_any a2, q3]; rfl) a3 (by rw [b2, q4])
        rw [List.take_append_drop] at this
        exact this
      · cases h
  · rename_i x p1 mn apos e es kws p2
    obtain ⟨h2, h⟩ := andT h
    obtain ⟨h3, h⟩ := andT h
    obtain ⟨h5, h⟩ := andT h
    obtain ⟨h6, h⟩ := andT h
    obtain ⟨h7, h⟩ := andT h
    split at h3 <;> try (cases h3; done)
    rename_i c e0
    split at h
    · rename_i ks hks
      obtain ⟨h8, h⟩ := andT h
      obtain ⟨h9, h10⟩ := andT h
      obtain ⟨a1, a2, a3⟩ := hr _ h8 X W k
      obtain ⟨b1, b2⟩ := hr _ h9 X W k
      have a4 : noStar e = true ∧ es.all noStar = true := by simpa using a2
      obtain ⟨q1, q2, q3, q4⟩ := kw_all (pos := p2) (env := X.env) hks
      have := sim_up (md := md) (p := p1) (k.t.up _ _ _ _ (of_decide_eq_true h3) e0) (k.t.sig _ _ _ _ (Tab.sig_ok h10)) k.gd k.tk (k.gl h2) a1 b1 q1 q2 (neD h5) (star1 a4.1) (by rw [stars_any a2, q3]; rfl) (few_kw a2 hks (of_decide_eq_true h7)) h6 a3 (by rw [b2, q4])
      rw [List.take_append_drop] at this
      exact this
    · cases h
  · cases h
theorem msig_ok {mi n : Nat} {df : List T} {mn : Str} (k : KOk T_ G P C N sc raw X W) (h1 : T_.mns[mi]? = some mn) (h2 : T_.msig mi n df = true) : ∀ c fi, P.meth c mi = some fi → MethOk G X c fi mn ∧ CallOk G C X fi n [] df := by
  intro c fi h
  obtain ⟨q1, q2⟩ := k.t.meth c mi fi h
  refine ⟨q2 mn h1, k.t.sig _ _ _ _ (Tab.sig_ok ?_)⟩
  have := List.all_eq_true.mp h2 _ q1
  simpa using this
theorem cMeth_ok {md : Md} {mi : Nat} {o : E} {ms : List E} {df : List T} {x : Expr} (h : cMeth T_ R mi o ms df x = true) (k : KOk T_ G P C N sc raw X W) : PE X x (simE G P C W (.meth md mi o ms df)) := by
  unfold cMeth at h
  split at h
  · obtain ⟨h1, h⟩ := andT h
    obtain ⟨h2, h⟩ := andT h
    obtain ⟨h3, h⟩ := andT h
    obtain ⟨h4, h⟩ := andT h
    obtain ⟨h5, h6⟩ := andT h
    split at h1 <;> cases h1
    exact sim_meth0 k.t.g (hr _ h4 X W k) (msig_ok hr k (of_decide_eq_true h2) h3) k.gd k.tk (attr_ok h5) h6
  · obtain ⟨h2, h⟩ := andT h
    obtain ⟨h3, h⟩ := andT h
    obtain ⟨h4, h⟩ := andT h
    obtain ⟨h5, h⟩ := andT h
    obtain ⟨h6, h⟩ := andT h
    obtain ⟨h7, h8⟩ := andT h
    obtain ⟨a1, a2, a3⟩ := hr _ h5 X W k
    have a4 := a2
    simp only [List.all_cons, Bool.and_eq_true] at a4
    exact sim_meth k.t.g (hr _ h4 X W k) (msig_ok hr k (of_decide_eq_true h2) h3) k.gd k.tk a1 (star1 a4.1) (stars_any a4.2) a3 (attr_ok h6) (few a2 (by have := of_decide_eq_true h8; simp at this ⊢; omega)) h7
  · cases h
theorem cMk_ok {md : Md} {c : Nat} {ms : List E} {df : List T} {x : Expr} (h : cMk T_ sc R c ms df x = true) (k : KOk T_ G P C N sc raw X W) : PE X x (simE G P C W (.mk md c ms df)) := by
  unfold cMk at h
  split at h
  · obtain ⟨h1, h⟩ := andT h
    obtain ⟨h2, h⟩ := andT h
    obtain ⟨h3, h⟩ := andT h
    obtain ⟨h4, h5⟩ := andT h
    split at h1 <;> cases h1
    split at h3 <;> try (cases h3; done)
    rename_i d e0
    obtain rfl := of_decide_eq_true h3
    split at h4 <;> try (cases h4; done)
    rename_i f e1
    obtain ⟨q1, q2⟩ := k.t.init _ _ e1
    exact sim_mk0 (k.t.sig _ _ _ _ (Tab.sig_ok h4)) q1 q2 k.gd k.tk (k.gl h2) (k.t.clv _ _ e0) (neD h5)
  · obtain ⟨h2, h⟩ := andT h
    obtain ⟨h3, h⟩ := andT h
    obtain ⟨h4, h⟩ := andT h
    obtain ⟨h5, h6⟩ := andT h
    split at h3 <;> try (cases h3; done)
    rename_i d e0
    obtain rfl := of_decide_eq_true h3
    split at h4 <;> try (cases h4; done)
    rename_i f e1
    obtain ⟨q1, q2⟩ := k.t.init _ _ e1
    obtain ⟨a1, a2, a3⟩ := hr _ h6 X W k
    have a4 := a2
    simp only [List.all_cons, Bool.and_eq_true] at a4
    exact sim_mk (k.t.sig _ _ _ _ (Tab.sig_ok h4)) q1 q2 k.gd k.tk (k.gl h2) (k.t.clv _ _ e0) a1 (neD h5) (star1 a4.1) (stars_any a4.2) a3
  · cases h
theorem cIsi_ok {m : E} {cs : List Cl} {x : Expr} (h : cIsi T_ sc R m cs x = true) (k : KOk T_ G P C N sc raw X W) : PE X x (simE G P C W (.isi m cs)) := by
  unfold cIsi at h
  split at h
  · obtain ⟨h1, h⟩ := andT h
    obtain ⟨h2, h⟩ := andT h
    obtain ⟨h3, h⟩ := andT h
    obtain ⟨h4, h⟩ := andT h
    obtain ⟨h5, h⟩ := andT h
    obtain ⟨h6, h⟩ := andT h
    split at h
    · obtain ⟨h7, h8⟩ := andT h
      obtain ⟨q1, q2, q3⟩ := tyB_ok (of_decide_eq_true h7)
      exact sim_isi k.t.g (of_decide_eq_true h1) (k.gl h2) (k.t.bv _ h3) (hr _ h4 X W k) (pe_bltn (k.gl h6) (k.t.bv _ h8) q1 rfl q2 q3) (star1 h5) (star1 rfl) (stars_any (by simp [noStar]))
    · obtain ⟨h7, h8⟩ := andT h
      split at h7 <;> try (cases h7; done)
      rename_i d e0
      obtain rfl := of_decide_eq_true h7
      exact sim_isi k.t.g (of_decide_eq_true h1) (k.gl h2) (k.t.bv _ h3) (hr _ h4 X W k) (pe_glob (k.gl h6) (k.t.clv _ _ e0) rfl (neD h8)) (star1 h5) (star1 rfl) (stars_any (by simp [noStar]))
    · cases h
  · cases h
theorem cBm_ok {b : Bm} {o : E} {ms : List E} {x : Expr} (h : cBm R b o ms x = true) (k : KOk T_ G P C N sc raw X W) : PE X x (simE G P C W (.bm b o ms)) := by
  unfold cBm at h
  split at h
  · obtain ⟨h1, h⟩ := andT h
    obtain ⟨h2, h⟩ := andT h
    obtain ⟨h3, h⟩ := andT h
    obtain ⟨h4, h⟩ := andT h
    obtain ⟨h5, h6⟩ := andT h
    split at h2 <;> cases h2
    exact sim_bm0 (by cases b <;> first | (simp; done) | cases h1) (of_decide_eq_true h3) (hr _ h4 X W k) (attr_ok h5) h6
  · obtain ⟨h1, h⟩ := andT h
    obtain ⟨h3, h⟩ := andT h
    obtain ⟨h4, h⟩ := andT h
    obtain ⟨h5, h⟩ := andT h
    obtain ⟨h6, h7⟩ := andT h
    obtain ⟨a1, a2, a3⟩ := hr _ h5 X W k
    refine sim_bm (by cases b <;> first | (simp; done) | cases h1) (of_decide_eq_true h3) (hr _ h4 X W k) a1 (attr_ok h6) h7 ?_ (star1 (by simpa using a2))
    exact few (n := 1) a2 (by decide)
  · cases h
theorem cBi_ok {b : Bi} {ms : List E} {x : Expr} (h : cBi T_ sc R b ms x = true) (k : KOk T_ G P C N sc raw X W) : PE X x (simE G P C W (.bi b ms)) := by
  unfold cBi at h
  split at h
  · split at h
    · obtain ⟨h1, h⟩ := andT h
      obtain ⟨h2, h⟩ := andT h
      obtain ⟨h3, h⟩ := andT h
      obtain ⟨h4, h⟩ := andT h
      obtain ⟨h5, h⟩ := andT h
      obtain ⟨h6, h⟩ := andT h
      obtain ⟨h7, h8⟩ := andT h
      obtain rfl := of_decide_eq_true h1
      obtain rfl := of_decide_eq_true h2
      exact sim_lenset k.calm (k.gl h3) (k.t.bv _ h5) (k.gl h4) (k.t.bv _ h6) (hr _ h7 X W k) (star1 h8)
    · cases h
  · split at h
    · obtain ⟨h1, h⟩ := andT h
      obtain ⟨h2, h⟩ := andT h
      obtain ⟨h3, h4⟩ := andT h
      obtain rfl := of_decide_eq_true h1
      exact sim_bitlen (hr _ h2 X W k) (attr_ok h3) h4
    · cases h
  · split at h
    · obtain ⟨h1, h⟩ := andT h
      obtain ⟨h2, h⟩ := andT h
      obtain ⟨h3, h⟩ := andT h
      obtain ⟨h4, h⟩ := andT h
      obtain ⟨h5, h⟩ := andT h
      obtain ⟨h6, h7⟩ := andT h
      exact sim_lenO (of_decide_eq_true h1) (k.gl h2) (k.t.bv _ h3) (hr _ h4 X W k) (msig_ok hr k (of_decide_eq_true h6) h7) k.gd k.tk (star1 h5)
    · cases h
  · split at h
    · obtain ⟨h1, h⟩ := andT h
      obtain ⟨h2, h⟩ := andT h
      obtain ⟨h3, h⟩ := andT h
      obtain ⟨h4, h⟩ := andT h
      obtain ⟨h5, h⟩ := andT h
      obtain ⟨h6, h7⟩ := andT h
      exact sim_repO (of_decide_eq_true h1) (k.gl h2) (k.t.bv _ h3) (hr _ h4 X W k) (msig_ok hr k (of_decide_eq_true h6) h7) k.gd (by have := k.un; omega) k.tk (star1 h5)
    · cases h
  · split at h
    · obtain ⟨h1, h⟩ := andT h
      obtain ⟨h2, h⟩ := andT h
      obtain ⟨h3, h⟩ := andT h
      obtain ⟨h4, h5⟩ := andT h
      obtain ⟨a1, a2, a3⟩ := hr _ h5 X W k
      have a4 := a2
      simp only [List.all_cons, Bool.and_eq_true] at a4
      obtain ⟨q1, q2, q3⟩ := bi_boot h2
      rw [← of_decide_eq_true h1] at q1 q2 q3
      exact sim_bi k.t.g.arg k.calm k.un k.gd h2 (k.gl h3) (k.t.bv _ h4) q1 a1 q2 q3 (star1 a4.1) (stars_any a4.2)
    · cases h
end
end Ev
end

section
set_option Elab.async false
set_option linter.all false
namespace Ev
open PySem L2
section
variable {T_ : Tab} {N : List Str} {sc raw : Scope} {R : Rec} {G : Glob} {P : Prg} {C : Calls} {X : Cx} {W : WX}
variable (hr : ∀ j, R.r j = true → Good T_ G P C N sc raw j)
theorem KOk.nm (k : KOk T_ G P C N sc raw X W) {i : Nat} {y : Str} (h : N[i]? = some y) : X.N[i]? = some y ∧ (y == ("__debug__" : Str)) = false ∧ (y == ("__classdict__" : Str)) = false := by
  have e : X.N[i]? = some y := by rw [k.N]; exact h
  exact ⟨e, k.dbg y (mem_of_get e)⟩
theorem asg_ix {o i : Expr} {pos : Pos} {env : PySem.Env} (h : isSlice i = false) (v : Value) : assign (.Subscript o i pos) env v = (do
      let ov ← holding [v] (eval o env)
      let iv ← holding [v, ov] (eval i env)
      standAt pos
      holding [v, ov, iv] (setItem ov iv v)
      release [v, ov, iv] []) := by
  cases i <;> first | rfl | cases h
theorem lastNo {o p : CmpOp} {b c : Expr} (h : isSet c = false) : lastMarks [o, p] [b, c] = false := noMark h
include hr
theorem cE_ok {m : E} {x : Expr} (h : cE T_ N sc R m x = true) (k : KOk T_ G P C N sc raw X W) : PE X x (simE G P C W m) := by
  unfold cE at h
  split at h
  · split at h <;> try (cases h; done)
    obtain ⟨h1, h2⟩ := andT h
    obtain ⟨e, e1, e2⟩ := k.nm (of_decide_eq_true h1)
    exact sim_var e (by rw [k.sc]; exact visB_ok h2) e1 e2
  · split at h
    · exact cstB_ok h
    · obtain ⟨h1, h⟩ := andT h
      obtain ⟨h2, h⟩ := andT h
      split at h <;> try (cases h; done)
      · obtain rfl := of_decide_eq_true h
        obtain ⟨t, e1⟩ := k.t.iv _ _ (by assumption)
        exact sim_cst (pe_glob (v := .int _) (k.gl h1) e1 ⟨t, rfl⟩ (neD h2)) fun U => by simp [RepT]
      · obtain rfl := of_decide_eq_true h
        obtain ⟨t, e1⟩ := k.t.sv _ _ (by assumption)
        exact sim_cst (pe_glob (v := .str _) (k.gl h1) e1 ⟨t, rfl⟩ (neD h2)) fun U => by simp [RepT]
    · cases h
  · split at h <;> try (cases h; done)
    exact sim_tup (hr _ h X W k).1
  · exact sim_fr (hr _ h X W k)
  · exact sim_nw (hr _ h X W k)
  · split at h <;> try (cases h; done)
    exact sim_dnw
  · split at h <;> try (cases h; done)
    obtain ⟨h1, h⟩ := andT h
    obtain ⟨h2, h3⟩ := andT h
    exact sim_ddi (hr _ h1 X W k) (by rintro rfl; cases h2) (of_decide_eq_true h3)
  · split at h <;> try (cases h; done)
    obtain ⟨h1, h⟩ := andT h
    obtain ⟨h2, h3⟩ := andT h
    rw [opB_ok h1]
    exact sim_bin (hr _ h2 X W k) (hr _ h3 X W k)
  · split at h <;> try (cases h; done)
    exact sim_neg (hr _ h X W k)
  · split at h <;> try (cases h; done)
    obtain ⟨h1, h⟩ := andT h
    obtain ⟨h2, h⟩ := andT h
    obtain ⟨h3, h4⟩ := andT h
    rw [copB_ok h1]
    exact sim_cmp (by have := k.un; omega) (hr _ h2 X W k) (hr _ h3 X W k) (noMark (by simpa using h4))
  · split at h <;> try (cases h; done)
    obtain ⟨h1, h⟩ := andT h
    obtain ⟨h2, h⟩ := andT h
    obtain ⟨h3, h⟩ := andT h
    obtain ⟨h4, h⟩ := andT h
    obtain ⟨h5, h6⟩ := andT h
    rw [copB_ok h1, copB_ok h2]
    exact sim_cmp2 (by have := k.un; omega) (hr _ h3 X W k) (hr _ h4 X W k) (hr _ h5 X W k) (lastNo (by simpa using h6))
  · split at h <;> try (cases h; done)
    exact hr _ h X W k _
  · split at h <;> try (cases h; done)
    exact hr _ h X W k _
  · split at h <;> try (cases h; done)
    exact sim_not (hr _ h X W k)
  · split at h <;> try (cases h; done)
    obtain ⟨h1, h⟩ := andT h
    obtain ⟨h2, h3⟩ := andT h
    exact sim_ife (hr _ h1 X W k) (hr _ h2 X W k) (hr _ h3 X W k)
  · split at h <;> try (cases h; done)
    obtain ⟨h1, h⟩ := andT h
    obtain ⟨h2, h3⟩ := andT h
    rw [← (k.t.fld _ _ (of_decide_eq_true h3)).2]
    exact sim_fld k.t.g (hr _ h1 X W k) (attr_ok h2)
  · split at h <;> try (cases h; done)
    obtain ⟨h1, h⟩ := andT h
    obtain ⟨h2, h3⟩ := andT h
    exact sim_idx k.t.g.arg (by have := k.un; omega) (hr _ h1 X W k) (hr _ h2 X W k) (plainIx_of (by simpa using h3))
  · exact cBi_ok hr h k
  · exact cBm_ok hr h k
  · exact cIsi_ok hr h k
  · exact cCall_ok hr h k
  · exact cMeth_ok hr h k
  · exact cMk_ok hr h k
  · exact sim_fz (hr _ h X W k)
  · split at h <;> try (cases h; done)
    obtain ⟨h1, h2⟩ := andT h
    obtain rfl := of_decide_eq_true h1
    exact sim_fm k.un k.gd (hr _ h2 X W k)
  · split at h <;> try (cases h; done)
    exact sim_js (hr _ h X W k)
theorem cT_ok {m : E} {x : Expr} (h : cT R m x = true) (k : KOk T_ G P C N sc raw X W) : PT X x (simT G P C W m) := by
  unfold cT at h
  split at h
  · exact (hr _ h X W k _).pt
  · split at h <;> try (cases h; done)
    exact simT_not (hr _ h X W k)
  · split at h <;> try (cases h; done)
    obtain ⟨h1, h⟩ := andT h
    obtain ⟨h2, h⟩ := andT h
    obtain ⟨h3, h4⟩ := andT h
    rw [copB_ok h1]
    exact simT_cmp (by have := k.un; omega) (hr _ h2 X W k) (hr _ h3 X W k) (noMark (by simpa using h4))
  · obtain ⟨h1, h⟩ := andT h
    obtain ⟨h2, h3⟩ := andT h
    exact sim_truth (hr _ h3 X W k) (isTrue_plain h1) (evT_plain h2)
theorem cW_ok {op : BoolOp} {m : E} {xs : List Expr} (h : cW R op m xs = true) (k : KOk T_ G P C N sc raw X W) (pos : Pos) : PW X (.BoolOp op xs pos) (simT G P C W m) := by
  unfold cW at h
  split at h
  · cases op
    · exact pw_and1 (hr _ h X W k)
    · exact pw_or1 (hr _ h X W k)
  · split at h <;> try (cases h; done)
    · obtain ⟨h1, h2⟩ := andT h
      exact simT_and (hr _ h1 X W k) (hr _ h2 X W k _)
    · obtain ⟨h1, h2⟩ := andT h
      exact simT_or (hr _ h1 X W k) (hr _ h2 X W k _)
  · cases h
theorem cWe_ok {op : BoolOp} {m : E} {xs : List Expr} (h : cWe R op m xs = true) (k : KOk T_ G P C N sc raw X W) (pos : Pos) : PE X (.BoolOp op xs pos) (simE G P C W m) := by
  unfold cWe at h
  split at h
  · exact pe_bool1 (hr _ h X W k)
  · split at h <;> try (cases h; done)
    · obtain ⟨h1, h2⟩ := andT h
      exact sim_and (hr _ h1 X W k) (hr _ h2 X W k _)
    · obtain ⟨h1, h2⟩ := andT h
      exact sim_or (hr _ h1 X W k) (hr _ h2 X W k _)
  · cases h
theorem cEs_ok {ms : List E} {xs : List Expr} (h : cEs R ms xs = true) (k : KOk T_ G P C N sc raw X W) : PA X xs (simA G P C W ms) ∧ xs.all noStar = true ∧ ms.length = xs.length := by
  unfold cEs at h
  split at h
  · exact ⟨sim_nil, rfl, rfl⟩
  · obtain ⟨h1, h⟩ := andT h
    obtain ⟨h2, h3⟩ := andT h
    obtain ⟨a1, a2, a3⟩ := hr _ h3 X W k
    exact ⟨sim_cons (hr _ h1 X W k) a1 (star1 h2), by simp only [List.all_cons, h2, a2, Bool.and_self], by simp [a3]⟩
  · cases h
theorem cO_ok {m : Option E} {x : Option Expr} (h : cO R m x = true) (k : KOk T_ G P C N sc raw X W) : PO X x (simO G P C W m) := by
  unfold cO at h
  split at h
  · exact simO_none
  · exact simO_some (hr _ h X W k)
  · cases h
theorem cI_ok {m : Ev.It} {x tg : Expr} (h : cI T_ sc R m x = true) (k : KOk T_ G P C N sc raw X W) (ht : itTg m tg = true) : PI X tg x (simI G P C W m) := by
  unfold cI at h
  split at h
  · exact simI_val (hr _ h X W k)
  · split at h
    · obtain ⟨h1, h⟩ := andT h
      obtain ⟨h2, h⟩ := andT h
      obtain ⟨h3, h⟩ := andT h
      obtain ⟨h4, h5⟩ := andT h
      obtain rfl := of_decide_eq_true h1
      exact simI_rng1 (k.gl h2) (k.t.bv _ h3) (sim_cons (hr _ h4 X W k) sim_nil (star1 h5)) (star1 h5)
    · obtain ⟨h1, h⟩ := andT h
      obtain ⟨h2, h⟩ := andT h
      obtain ⟨h3, h⟩ := andT h
      obtain ⟨h4, h⟩ := andT h
      obtain ⟨h5, h⟩ := andT h
      obtain ⟨h6, h7⟩ := andT h
      obtain rfl := of_decide_eq_true h1
      have e2 := star1 (es := []) (env := X.env) h7
      exact simI_rng2 (k.gl h2) (k.t.bv _ h3) (sim_cons (hr _ h4 X W k) (sim_cons (hr _ h6 X W k) sim_nil e2) (star1 h5)) (by rw [star1 h5, e2]; rfl) e2
    · cases h
  · split at h <;> try (cases h; done)
    obtain ⟨h1, h⟩ := andT h
    obtain ⟨h2, h⟩ := andT h
    obtain ⟨h3, h⟩ := andT h
    obtain ⟨h4, h5⟩ := andT h
    obtain rfl := of_decide_eq_true h1
    cases tg <;> first | cases ht | skip
    exact simI_enu (k.gl h2) (k.t.bv _ h3) (sim_cons (hr _ h4 X W k) sim_nil (star1 h5)) (star1 h5)
  · split at h <;> try (cases h; done)
    obtain ⟨h1, h⟩ := andT h
    obtain ⟨h2, h⟩ := andT h
    obtain ⟨h3, h⟩ := andT h
    obtain ⟨h4, h⟩ := andT h
    obtain ⟨h5, h⟩ := andT h
    obtain ⟨h6, h7⟩ := andT h
    obtain rfl := of_decide_eq_true h1
    have e2 := star1 (es := []) (env := X.env) h7
    cases tg <;> first | cases ht | skip
    exact simI_zip (k.gl h2) (k.t.bv _ h3) (sim_cons (hr _ h4 X W k) (sim_cons (hr _ h6 X W k) sim_nil e2) (star1 h5)) (star1 h5) (by rw [e2]; rfl)
  · cases h
theorem cG_ok {m : Tg} {x : Expr} (h : cG N sc raw R m x = true) (k : KOk T_ G P C N sc raw X W) : PG X x (simG G P C W m) := by
  unfold cG at h
  split at h
  · split at h <;> try (cases h; done)
    obtain ⟨h1, h2⟩ := andT h
    obtain ⟨e, _, _⟩ := k.nm (of_decide_eq_true h1)
    obtain ⟨q1, q2⟩ := k.locB h2
    exact simG_nm k.nd e q1 q2
  · split at h <;> try (cases h; done)
    rename_i es _ _
    obtain ⟨a1, a2, a3⟩ := hr _ h X W k
    have key : ∀ {es : List Expr}, es.all noStar = true → (assignEach es X.env).length = es.length ∧ (assignEach es X.env).findIdx? (·.1) = none := by
      intro es
      induction es with
      | nil => intro _; exact ⟨rfl, rfl⟩
      | cons e es ih =>
        intro h
        simp only [List.all_cons, Bool.and_eq_true] at h
        have e1 : assignEach (e :: es) X.env = (false, assign e X.env) :: assignEach es X.env := by
          have := h.1
          cases e <;> first | rfl | cases this
        obtain ⟨i1, i2⟩ := ih h.2
        rw [e1]
        refine ⟨by simp [i1], ?_⟩
        rw [List.findIdx?_cons]
        simp [i2]
    obtain ⟨q1, q2⟩ := key a2
    exact simG_tp k.calm a1 q1 q2 a3
  · split at h <;> try (cases h; done)
    obtain ⟨h1, h⟩ := andT h
    obtain ⟨h2, h3⟩ := andT h
    refine simG_ix (by have := k.un; omega) (hr _ h1 X W k) (hr _ h2 X W k) fun v => ?_
    exact asg_ix (by simpa using h3) v
theorem cGs_ok {ms : List Tg} {xs : List Expr} (h : cGs R ms xs = true) (k : KOk T_ G P C N sc raw X W) : PGs X xs (simGs G P C W ms) ∧ xs.all noStar = true ∧ ms.length = xs.length := by
  unfold cGs at h
  split at h
  · exact ⟨simGs_nil, rfl, rfl⟩
  · obtain ⟨h1, h⟩ := andT h
    obtain ⟨h2, h3⟩ := andT h
    obtain ⟨a1, a2, a3⟩ := hr _ h3 X W k
    have key : ∀ {e : Expr} {es : List Expr}, noStar e = true → (assignEach (e :: es) X.env).map (·.2) = assign e X.env :: (assignEach es X.env).map (·.2) := by
      intro e es h
      cases e <;> first | rfl | cases h
    exact ⟨simGs_cons (hr _ h1 X W k) a1 (key h2), by simp only [List.all_cons, h2, a2, Bool.and_self], by simp [a3]⟩
  · cases h
theorem cTs_ok {ms : List E} {xs : List Expr} (h : cTs R ms xs = true) (k : KOk T_ G P C N sc raw X W) : PTs X xs (simTs G P C W ms) := by
  unfold cTs at h
  split at h
  · exact simTs_nil
  · exact simTs_one (hr _ h X W k)
  · cases h
theorem cK_ok {ms : List E} {xs : List Keyword} (h : cK R ms xs = true) (k : KOk T_ G P C N sc raw X W) : PK X xs (simA G P C W ms) ∧ ms.length = xs.length := by
  unfold cK at h
  split at h
  · exact ⟨simK_nil, rfl⟩
  · obtain ⟨h1, h2⟩ := andT h
    obtain ⟨a1, a2⟩ := hr _ h2 X W k
    exact ⟨simK_cons (hr _ h1 X W k) a1, by simp [a2]⟩
  · cases h
theorem cKv_ok {ks : List Key} {ms : List E} {kx : List (Option Expr)} {vx : List Expr} (h : cKv R ks ms kx vx = true) (k : KOk T_ G P C N sc raw X W) : Pes G P C W X kx vx ks ms := by
  unfold cKv at h
  split at h
  · exact .nil
  · obtain ⟨h1, h⟩ := andT h
    obtain ⟨h2, h3⟩ := andT h
    rw [keyB_ok h1]
    exact .cons (hr _ h2 X W k) (hr _ h3 X W k)
  · cases h
omit hr in
theorem own_ok (k : KOk T_ G P C N sc raw X W) {scope : Scope} {own : List (Str × Nat)} (h : blkC N sc scope own = true) : BlkOk X.N X.env.scope scope own := by
  rw [k.N, k.sc]; exact blkOk_by h
variable (hb : ∀ scope j, R.rb scope j = true → Good T_ G P C N (relS scope sc) scope j)
include hb
theorem cF_ok {m : F} {x : Expr} (h : cF T_ N sc R m x = true) (k : KOk T_ G P C N sc raw X W) : PE X x (simF G P C W m) := by
  unfold cF at h
  split at h
  · split at h <;> try (cases h; done)
    exact simF_disp (hr _ h X W k).1
  · split at h <;> try (cases h; done)
    obtain ⟨h1, h2⟩ := andT h
    exact simF_cat (hr _ h1 X W k) (hr _ h2 X W k)
  · split at h <;> try (cases h; done)
    obtain ⟨h1, h2⟩ := andT h
    exact simF_rep (hr _ h1 X W k) (hr _ h2 X W k)
  · split at h <;> try (cases h; done)
    obtain ⟨h1, h⟩ := andT h
    obtain ⟨h2, h3⟩ := andT h
    exact simF_slc (hr _ h1 X W k) (hr _ h2 X W k) (hr _ h3 X W k)
  · split at h <;> try (cases h; done)
    exact simF_rev (hr _ h X W k)
  · unfold cComp at h
    split at h <;> try (cases h; done)
    obtain ⟨h1, h⟩ := andT h
    obtain ⟨h2, h⟩ := andT h
    simp only at h
    obtain ⟨h3, h⟩ := andT h
    obtain ⟨h4, h⟩ := andT h
    obtain ⟨h5, h⟩ := andT h
    obtain ⟨h6, h7⟩ := andT h
    obtain ⟨h0, h1⟩ := andT h1
    exact simF_comp k.calm k.nd (hr _ h1 X W k _ h0) (own_ok k h3) (fun s H Ca cl fp => hb _ _ h5 _ _ (k.blk _ s H Ca cl fp)) (fun s H Ca cl fp => hb _ _ h6 _ _ (k.blk _ s H Ca cl fp)) (fun s H Ca cl fp => hb _ _ h7 _ _ (k.blk _ s H Ca cl fp))
      (foldSet' (by simpa using h2)) (of_decide_eq_true h4)
  · split at h <;> try (cases h; done)
    obtain ⟨h1, h⟩ := andT h
    obtain ⟨h2, h⟩ := andT h
    obtain ⟨h3, h⟩ := andT h
    obtain ⟨h4, h5⟩ := andT h
    exact simF_list (of_decide_eq_true h1) (k.gl h2) (k.t.bv _ h3) (hr _ h4 X W k) (star1 h5)
  · split at h <;> try (cases h; done)
    obtain ⟨h1, h⟩ := andT h
    obtain ⟨h2, h⟩ := andT h
    obtain ⟨h3, h⟩ := andT h
    obtain ⟨h4, h5⟩ := andT h
    exact simF_keys (of_decide_eq_true h1) k.calm (k.gl h2) (k.t.bv _ h3) (hr _ h4 X W k) (star1 h5)
  · split at h <;> try (cases h; done)
    obtain ⟨h1, h⟩ := andT h
    obtain ⟨h2, h⟩ := andT h
    obtain ⟨h3, h⟩ := andT h
    obtain ⟨h4, h⟩ := andT h
    obtain ⟨h5, h⟩ := andT h
    obtain ⟨h6, h⟩ := andT h
    obtain ⟨h7, h8⟩ := andT h
    exact simF_rng1 (of_decide_eq_true h1) (of_decide_eq_true h2) k.calm (k.gl h3) (k.t.bv _ h4) (k.gl h5) (k.t.bv _ h6) (hr _ h7 X W k) (star1 h8)
  · split at h <;> try (cases h; done)
    obtain ⟨h1, h⟩ := andT h
    obtain ⟨h2, h⟩ := andT h
    obtain ⟨h3, h⟩ := andT h
    obtain ⟨h4, h5⟩ := andT h
    exact simF_sorted (of_decide_eq_true h1) (k.gl h2) (k.t.bv _ h3) (hr _ h4 X W k) (star1 h5)

theorem cJ_ok {ms : List E} {xs : List Expr} (h : cJ R ms xs = true) (k : KOk T_ G P C N sc raw X W) : PJ X xs (ms.map (simE G P C W)) := by
  unfold cJ at h
  split at h
  · exact .nil
  · obtain ⟨h1, h2⟩ := andT h
    exact .cons (hr _ h1 X W k) (hr _ h2 X W k)
  · cases h
theorem step_ok {j : Job} (h : step T_ N sc raw R j = true) : Good T_ G P C N sc raw j := by
  intro X W k
  cases j
  · exact cE_ok hr h k
  · exact cT_ok hr h k
  · exact fun pos => cW_ok hr h k pos
  · exact fun pos => cWe_ok hr h k pos
  · exact cEs_ok hr h k
  · exact cF_ok hr hb h k
  · exact cO_ok hr h k
  · exact fun tg ht => cI_ok hr h k ht
  · exact cG_ok hr h k
  · exact cGs_ok hr h k
  · exact cTs_ok hr h k
  · exact cK_ok hr h k
  · exact cKv_ok hr h k
  · exact cJ_ok hr hb h k
end
theorem chk_ok {T_ : Tab} {N : List Str} {G : Glob} {P : Prg} {C : Calls} : ∀ (n : Nat) (sc raw : Scope) (j : Job), chk T_ N n sc raw j = true → Good T_ G P C N sc raw j
  | 0, _, _, _, h => by cases h
  | n + 1, sc, raw, j, h => step_ok (R := ⟨fun j => chk T_ N n sc raw j, fun scope j => chk T_ N n (relS scope sc) scope j⟩) (fun j h => chk_ok n sc raw j h) (fun scope j h => chk_ok n _ scope j h) h
end Ev
end

section
set_option Elab.async false
set_option linter.all false
namespace Ev
open PySem L2
/-- where a comprehension's store is exchanged -/
def swB (sc : Scope) (y : Str) (py : Pos) (scope : Scope) (cpos : Pos) : Bool := (match sc.names.lookup y with | some .local => true | _ => false) && ((py.line == cpos.line) && !(scope.names.any fun (n, k) => n == y && (k == .local || k == .cell)))
def notPair : Expr → Expr → Bool
  | .Tuple .., .Tuple .. => false
  | .List .., .Tuple .. => false
  | _, _ => true
def notName : Expr → Bool
  | .Name .. => false
  | _ => true
inductive JobS where
  | s (m : Sm) (x : Stmt) | ss (ms : List Sm) (xs : List Stmt)
section
variable (T_ : Tab) (N : List Str) (sc raw : Scope) (R : Rec) (r : JobS → Bool)
def cAsg (t : Tg) (m : E) (tg x : Expr) : Bool := match x with
  | .ListComp elt [⟨ct, iter, is, 0⟩] scope cpos => (match tg with
    | .Name y py => (match swB sc y py scope cpos with
      | true => (match t, m with
        | .nm i, .fr (.comp ctg it ifs me) => decide (N[i]? = some y) && cComp N sc R ctg it ifs me x
        | .nm i, .nw (.comp ctg it ifs me) => decide (N[i]? = some y) && cComp N sc R ctg it ifs me x
        | _, _ => false)
      | false => R.r (.e m x) && R.r (.g t tg))
    | .Subscript .. => R.r (.e m x) && R.r (.g t tg)
    | .Tuple .. => R.r (.e m x) && R.r (.g t tg)
    | _ => false)
  | x => noComp x && (notPair tg x && (R.r (.e m x) && (R.r (.g t tg) && noStar tg)))
def cMas (ts : List Tg) (ms : List E) (tgs es : List Expr) : Bool := match tgs, es with
  | [.Name x px, .Name y py], [a, b] => (match ts with
    | [.nm i, .nm j] => decide (N[i]? = some x) && (decide (N[j]? = some y) && (decide (i ≠ j) && (decide (sc.names.lookup x = some .local) && (decide (sc.names.lookup y = some .local) && ((px.line == py.line) && (decide (x ≠ y) &&
        (!(foldedForSure 8 a && foldedForSure 8 b) && (!(constantsAlone 8 a && constantsAlone 8 b) && (noStar a && (noStar b && R.r (.es ms [a, b])))))))))))
    | _ => false)
  | tgs, es => tgs.any notName && (R.r (.es ms es) && R.r (.gs ts tgs))
/-- what a try may do: one statement -/
def cB (m : Sm) (x : Stmt) : Bool := match m with
  | .expr m => (match x with
    | .Expr x _ => R.r (.e m x) && noComp x
    | _ => false)
  | .ret m => (match x with
    | .Return (some x) _ => R.r (.e m x)
    | _ => false)
  | .asg (.nm k) m => (match x with
    | .Assign [.Name y _] x _ => noComp x && (notPair (.Name y ⟨0, 0, 0, 0⟩) x && (R.r (.e m x) && (decide (N[k]? = some y) && locB sc raw y)))
    | _ => false)
  | _ => false
/-- a clause's class -/
def xtyB (x : Str) : Option String := if x = "ValueError" then some "ValueError" else if x = "LookupError" then some "LookupError" else if x = "KeyError" then some "KeyError" else if x = "RuntimeError" then some "RuntimeError" else if x = "ArithmeticError" then some "ArithmeticError" else none
def cH (T_ : Tab) (N : List Str) (sc : Scope) (i : Nat) : Hx → Expr → Bool
  | .cst b, .Constant (.bool d) _ _ => decide (b = d)
  | .isi k, .Call (.Name x _) [.Name n _, .Name y _] [] _ => decide (x = "isinstance") && (glB sc x && (T_.blt x && (decide (N[i]? = some n) && (visB sc n && (glB sc y && (match k with
    | .ty m => decide (xtyB y = some m) && T_.blt y
    | .own c => (match T_.xgl.lookup y with | some d => decide (d = c) | none => false) && decide (y ≠ "__debug__")))))))
  | .and_ a b, .BoolOp .And [x, y] _ => cH T_ N sc i a x && cH T_ N sc i b y
  | .and_ a (.and_ b c), .BoolOp .And [x, y, z] _ => cH T_ N sc i a x && (cH T_ N sc i b y && cH T_ N sc i c z)
  | .or_ a b, .BoolOp .Or [x, y] _ => cH T_ N sc i a x && cH T_ N sc i b y
  | .or_ a (.or_ b c), .BoolOp .Or [x, y, z] _ => cH T_ N sc i a x && (cH T_ N sc i b y && cH T_ N sc i c z)
  | .not_ a, .UnaryOp .Not x _ => cH T_ N sc i a x
  | _, _ => false
def cS (m : Sm) (x : Stmt) : Bool := match m with
  | .expr m => (match x with
    | .Expr x _ => R.r (.e m x) && noComp x
    | _ => false)
  | .ret m => (match x with
    | .Return (some x) _ => R.r (.e m x)
    | _ => false)
  | .retN => (match x with
    | .Return none _ => true
    | _ => false)
  | .asg t m => (match x with
    | .Assign [tg] x _ => cAsg N sc R t m tg x
    | _ => false)
  | .mas ts ms => (match x with
    | .Assign [.Tuple tgs _ _] (.Tuple es _ _) _ => cMas N sc R ts ms tgs es
    | _ => false)
  | .aug i o m => (match x with
    | .AugAssign (.Name y _) op x _ => opB o op && (decide (o ≠ .pow) && (decide (N[i]? = some y) && (locB sc raw y && R.r (.e m x))))
    | _ => false)
  | .augIx a i o m => (match x with
    | .AugAssign (.Subscript p q _) op x _ => opB o op && (decide (o ≠ .pow) && (R.r (.e a p) && (R.r (.e i q) && (R.r (.e m x) && !isSlice q))))
    | _ => false)
  | .fasg o f m => (match x with
    | .Assign [.Attribute p nm _] x _ => decide (T_.flds[f]? = some nm) && (R.r (.e o p) && R.r (.e m x))
    | _ => false)
  | .iff c a b => (match x with
    | .If t x y _ => R.r (.t c t) && (r (.ss a x) && r (.ss b y))
    | _ => false)
  | .for_ t it b => (match x with
    | .For tg iter bd [] _ => (itTg it tg && R.r (.i it iter)) && (R.r (.g t tg) && (r (.ss b bd) && !isSet iter))
    | _ => false)
  | .whil _ c b => (match x with
    | .While t bd [] _ => R.r (.t c t) && r (.ss b bd)
    | _ => false)
  | .pass => (match x with
    | .Pass _ => true
    | _ => false)
  | .brk => (match x with
    | .Break _ => true
    | _ => false)
  | .cont => (match x with
    | .Continue _ => true
    | _ => false)
  | .raise => true
  | .rai c => (match x with
    | .Raise (some (.Call (.Name y _) [.Constant (.str _) _ _] [] _)) none _ => glB sc y && (decide (y ≠ "__debug__") && ((match T_.xgl.lookup y with | some d => decide (d = c) | none => false) && T_.xmk.any fun d => decide (d = c)))
    | _ => false)
  | .tr c i b j h => (match x with
    | .Try [bd] [.ExceptHandler (some (.Name y _)) (some n) [.Assign [.Name z _] hx _] _] [] [] _ => glB sc y && (decide (y ≠ "__debug__") && ((match T_.xgl.lookup y with | some d => decide (d = c) | none => false) && (decide (N[i]? = some n) && (decide (sc.names.lookup n = some .local) &&
        (decide (N[j]? = some z) && (locB sc raw z && (cB N sc raw R b bd && (cH T_ N sc i h hx && (noComp hx && notPair (.Name z ⟨0, 0, 0, 0⟩) hx)))))))))
    | _ => false)
  | _ => false
def cSs (ms : List Sm) (xs : List Stmt) : Bool := match ms with
  | [] => (match xs with | [] => true | _ => false)
  | .frv _ :: ms => r (.ss ms xs)
  | m :: ms => (match xs with
    | x :: xs => r (.s m x) && r (.ss ms xs)
    | _ => false)
end
def chkS (T_ : Tab) (N : List Str) (sc : Scope) (R : Rec) : Nat → JobS → Bool
  | 0, _ => false
  | n + 1, .s m x => cS T_ N sc sc R (chkS T_ N sc R n) m x
  | n + 1, .ss ms xs => cSs (chkS T_ N sc R n) ms xs
structure SOk (T_ : Tab) (G : Glob) (P : Prg) (C : Calls) (N : List Str) (sc : Scope) (X : Cx) (W : WX) : Prop where
  k : KOk T_ G P C N sc sc X W
  hW : ∀ c d σ σ' H, W c d σ H → W c d σ' H
  hp : PassesOwn (model X.prog X.w) X.A X.env X.xe
  kind : X.env.scope.kind = .function
  stk : X.stack = X.env :: X.outer
  frm : X.env.frame = some X.env.locals
def GoodS (T_ : Tab) (G : Glob) (P : Prg) (C : Calls) (N : List Str) (sc : Scope) (j : JobS) : Prop := ∀ X W, SOk T_ G P C N sc X W → match j with
  | .s m x => PS X x (simS G P C W m)
  | .ss ms xs => PSs X xs (simSs G P C W ms)
section
variable {T_ : Tab} {N : List Str} {sc : Scope} {R : Rec} {r : JobS → Bool} {G : Glob} {P : Prg} {C : Calls} {X : Cx} {W : WX}
variable (hr : ∀ j, R.r j = true → Good T_ G P C N sc sc j) (hb : ∀ scope j, R.rb scope j = true → Good T_ G P C N (relS scope sc) scope j) (hs : ∀ j, r j = true → GoodS T_ G P C N sc j)
theorem sw_false {elt : Expr} {gs : List Comprehension} {scope : Scope} {pos py : Pos} {y : Str} {l : Nat} {env : PySem.Env} (h : swB env.scope y py scope pos = false) : swapsWith (.ListComp elt gs scope pos) (some (.Name y py)) l env = pure false := by
  have key : (env.blockKind == .function && env.kindOf y == some .local && py.line == pos.line && !(scope.names.any fun (n, k) => n == y && (k == .local || k == .cell))) = false := by
    unfold swB at h
    simp only [Env.kindOf]
    cases e : env.scope.names.lookup y with
    | none => simp
    | some q =>
      rw [e] at h
      cases q <;> first | (simp; done) | skip
      simp only [Bool.true_and] at h
      cases h1 : (py.line == pos.line) <;> simp_all
  show (pure (env.blockKind == .function && env.kindOf y == some .local && py.line == pos.line && !(scope.names.any fun (n, k) => n == y && (k == .local || k == .cell))) : Sem Bool) = pure false
  rw [key]
theorem aug_store {b : Expr} (h : isSlice b = false) : ∀ ov iv new, augStore b ov iv new = (do holding [new, ov, iv] (setItem ov iv new); release [new, ov, iv] []; pure .next) := by
  intro ov iv new
  cases b <;> first | rfl | cases h
theorem swap_none {tg x : Expr} {env : PySem.Env} (h : notPair tg x = true) : swappedStores [tg] x env = pure none := by
  cases tg <;> cases x <;> first | rfl | cases h
theorem asg1 {tg : Expr} {env : PySem.Env} (h : noStar tg = true) : (assignEach [tg] env).map (·.2) = [assign tg env] := by
  cases tg <;> first | rfl | cases h
include hr hb in
theorem cAsg_ok {t : Tg} {m : E} {tg x : Expr} {pos : Pos} (h : cAsg N sc R t m tg x = true) (k : SOk T_ G P C N sc X W) : PS X (.Assign [tg] x pos) (simS G P C W (.asg t m)) := by
  have comp : ∀ {i : Nat} {ctg : Tg} {it : Ev.It} {ifs : List E} {me : E} {y : Str} {py : Pos} {elt ct iter : Expr} {is : List Expr} {scope : Scope} {cpos : Pos} (nw : Bool), swB sc y py scope cpos = true → N[i]? = some y →
      cComp N sc R ctg it ifs me (.ListComp elt [⟨ct, iter, is, 0⟩] scope cpos) = true →
      PS X (.Assign [.Name y py] (.ListComp elt [⟨ct, iter, is, 0⟩] scope cpos) pos) (simS G P C W (.asg (.nm i) (if nw then .nw (.comp ctg it ifs me) else .fr (.comp ctg it ifs me)))) := by
    intro i ctg it ifs me y py elt ct iter is scope cpos nw hsw hi hc
    unfold swB at hsw
    obtain ⟨s1, s2⟩ := andT hsw
    obtain ⟨s2, s3⟩ := andT s2
    have hy : X.env.scope.names.lookup y = some .local := by
      rw [k.k.sc]
      split at s1
      · assumption
      · cases s1
    obtain ⟨e, _, _⟩ := k.k.nm hi
    unfold cComp at hc
    simp only at hc
    obtain ⟨h1, h⟩ := andT hc
    obtain ⟨h2, h⟩ := andT h
    obtain ⟨h3, h⟩ := andT h
    obtain ⟨h4, h⟩ := andT h
    obtain ⟨h5, h⟩ := andT h
    obtain ⟨h6, h7⟩ := andT h
    obtain ⟨h0, h1⟩ := andT h1
    exact simS_setLc k.k.calm k.k.nd e hy (sw_true k.kind hy s2 (by simpa using s3)) (hr _ h1 X W k.k _ h0) (own_ok k.k h3) (fun s H Ca cl fp => hb _ _ h5 _ _ (k.k.blk _ s H Ca cl fp)) (fun s H Ca cl fp => hb _ _ h6 _ _ (k.k.blk _ s H Ca cl fp))
      (fun s H Ca cl fp => hb _ _ h7 _ _ (k.k.blk _ s H Ca cl fp)) (foldSet' (by simpa using h2)) (of_decide_eq_true h4)
  unfold cAsg at h
  split at h
  · split at h <;> try (cases h; done)
    · split at h
      · rename_i hsw
        split at h <;> try (cases h; done)
        · obtain ⟨h1, h2⟩ := andT h
          exact comp false hsw (of_decide_eq_true h1) h2
        · obtain ⟨h1, h2⟩ := andT h
          exact comp true hsw (of_decide_eq_true h1) h2
      · rename_i hsw
        obtain ⟨h1, h2⟩ := andT h
        exact simS_asg (hr _ h1 X W k.k) (hr _ h2 X W k.k) (sw_false (l := pos.line) (by rw [k.k.sc]; exact hsw)) rfl rfl
    · obtain ⟨h1, h2⟩ := andT h
      exact simS_asg (hr _ h1 X W k.k) (hr _ h2 X W k.k) rfl rfl rfl
    · obtain ⟨h1, h2⟩ := andT h
      exact simS_asg (hr _ h1 X W k.k) (hr _ h2 X W k.k) rfl rfl rfl
  · obtain ⟨h1, h⟩ := andT h
    obtain ⟨h2, h⟩ := andT h
    obtain ⟨h3, h⟩ := andT h
    obtain ⟨h4, h5⟩ := andT h
    exact simS_asg (hr _ h3 X W k.k) (hr _ h4 X W k.k) (swaps_no h1) (swap_none h2) (asg1 h5)
theorem swaps_attr {e o : Expr} {f : Str} {p : Pos} {l : Nat} {env : PySem.Env} : swapsWith e (some (.Attribute o f p)) l env = pure false := by
  cases e <;> rfl
theorem asg_len {env : PySem.Env} : ∀ {es : List Expr}, es.all noStar = true → (assignEach es env).length = es.length ∧ (assignEach es env).findIdx? (·.1) = none := by
  intro es
  induction es with
  | nil => intro _; exact ⟨rfl, rfl⟩
  | cons e es ih =>
    intro h
    simp only [List.all_cons, Bool.and_eq_true] at h
    have e1 : assignEach (e :: es) env = (false, assign e env) :: assignEach es env := by
      have := h.1
      cases e <;> first | rfl | cases this
    obtain ⟨i1, i2⟩ := ih h.2
    rw [e1]
    refine ⟨by simp [i1], ?_⟩
    rw [List.findIdx?_cons]
    simp [i2]
theorem notT {b : Bool} (h : (!b) = true) : b = false := by cases b <;> first | rfl | cases h
theorem fm_lt {α β : Type} {f : α → Option β} : ∀ {l : List α}, (l.any fun x => (f x).isNone) = true → (l.filterMap f).length ≠ l.length
  | [], h => by simp at h
  | x :: r, h => by
    have le := List.length_filterMap_le f r
    cases e : f x with
    | none => rw [List.filterMap_cons_none e]; simp; omega
    | some y =>
      rw [List.filterMap_cons_some e]
      have : (r.any fun x => (f x).isNone) = true := by simpa [e] using h
      have := fm_lt this
      simpa using this
theorem swap_mas {tgs es : List Expr} {k k2 : Nat} {p1 p2 : Pos} {env : PySem.Env} (h : tgs.any notName = true) : swappedStores [.Tuple tgs k p1] (.Tuple es k2 p2) env = pure none := by
  have key : ∀ line : Nat, (tgs.filterMap fun t => match t with
    | .Name id pos => if env.kindOf id == some .local && pos.line == line then some id else none
    | _ => none).length ≠ tgs.length := by
    intro line
    refine fm_lt ?_
    simp only [List.any_eq_true] at h ⊢
    obtain ⟨x, h1, h2⟩ := h
    refine ⟨x, h1, ?_⟩
    cases x <;> first | rfl | cases h2
  unfold swappedStores
  simp only
  split
  · rfl
  · split
    · rfl
    · split
      · rfl
      · rename_i hh
        refine absurd ?_ hh
        rw [Bool.or_eq_true]
        exact .inl (bne_iff_ne.mpr (key _))
theorem swap_par {x y : Str} {px py p1 p2 : Pos} {a b : Expr} {k k2 : Nat} {env : PySem.Env} (hk : env.scope.kind = .function) (hx : env.scope.names.lookup x = some .local) (hy : env.scope.names.lookup y = some .local) (hl : (px.line == py.line) = true) (hn : x ≠ y)
    (h1 : (foldedForSure 8 a && foldedForSure 8 b) = false) (h2 : (constantsAlone 8 a && constantsAlone 8 b) = false) (sa : noStar a = true) (sb : noStar b = true) :
    swappedStores [.Tuple [.Name x px, .Name y py] k p1] (.Tuple [a, b] k2 p2) env = pure (some [x, y]) := by
  have hbk : (env.blockKind != .function) = false := by unfold Env.blockKind; rw [hk]; rfl
  have hx' : env.kindOf x = some .local := hx
  have hy' : env.kindOf y = some .local := hy
  have hl' : (py.line == px.line) = true := beq_iff_eq.mpr (beq_iff_eq.mp hl).symm
  have st : ∀ f : Expr → Bool, (∀ e, noStar e = true → f e = false) → ([a, b].any f) = false := by
    intro f hf
    simp [hf a sa, hf b sb]
  have ed : ([x, y].eraseDups.length != 2) = false := by
    have : (y == x) = false := beq_eq_false_iff_ne.mpr (Ne.symm hn)
    simp [List.eraseDups, List.eraseDupsBy, List.eraseDupsBy.loop, this]
  unfold swappedStores
  simp only [List.length_cons, List.length_nil, hbk, Expr.pos, List.head?_cons, Option.map_some, Option.getD_some, hx', hy', hl', List.filterMap_cons, List.filterMap_nil, beq_self_eq_true, Bool.and_self, if_true, List.all_cons, List.all_nil, Bool.and_true, h1, h2]
  rw [if_neg (by simp), if_neg (by rw [st _ (fun e h => by cases e <;> first | rfl | cases h)]; simp)]
  rw [if_neg (by rw [ed]; simp)]
  simp
include hr in
theorem cMas_ok {ts : List Tg} {ms : List E} {tgs es : List Expr} {k1 k2 : Nat} {p1 p2 pos : Pos} (h : cMas N sc R ts ms tgs es = true) (k : SOk T_ G P C N sc X W) : PS X (.Assign [.Tuple tgs k1 p1] (.Tuple es k2 p2) pos) (simS G P C W (.mas ts ms)) := by
  unfold cMas at h
  split at h
  · split at h <;> try (cases h; done)
    obtain ⟨h1, h⟩ := andT h
    obtain ⟨h2, h⟩ := andT h
    obtain ⟨h3, h⟩ := andT h
    obtain ⟨h4, h⟩ := andT h
    obtain ⟨h5, h⟩ := andT h
    obtain ⟨h6, h⟩ := andT h
    obtain ⟨h7, h⟩ := andT h
    obtain ⟨h8, h⟩ := andT h
    obtain ⟨h9, h⟩ := andT h
    obtain ⟨h10, h⟩ := andT h
    obtain ⟨h11, h12⟩ := andT h
    obtain ⟨a1, a2, a3⟩ := hr _ h12 X W k.k
    match ms, a3 with
    | [ma, mb], _ =>
      obtain ⟨e1, _, _⟩ := k.k.nm (of_decide_eq_true h1)
      obtain ⟨e2, _, _⟩ := k.k.nm (of_decide_eq_true h2)
      have l1 := of_decide_eq_true h4
      have l2 := of_decide_eq_true h5
      rw [← k.k.sc] at l1 l2
      exact simS_par k.k.calm k.k.nd e1 e2 (of_decide_eq_true h3) l1 l2 a1 (swap_par k.kind l1 l2 h6 (of_decide_eq_true h7) (notT h8) (notT h9) h10 h11) rfl
  · obtain ⟨h1, h⟩ := andT h
    obtain ⟨h2, h3⟩ := andT h
    obtain ⟨a1, a2, a3⟩ := hr _ h2 X W k.k
    obtain ⟨b1, b2, b3⟩ := hr _ h3 X W k.k
    obtain ⟨q1, q2⟩ := asg_len (env := X.env) b2
    exact simS_mas k.k.calm a1 b1 q1 q2 b3 rfl (swap_mas h1) rfl
include hr in
theorem cB_ok {m : Sm} {x : Stmt} {W' : WX} {pn : List (Addr × Obj)} {xe : Value → Shared → Prop} (h : cB N sc sc R m x = true) (k : SOk T_ G P C N sc X W) (tk : Takes (X.tr pn xe) W') : PS (X.tr pn xe) x (simS G P C W' m) := by
  have k1 : KOk T_ G P C N sc sc (X.tr pn xe) W' := ⟨⟨k.k.t.g, k.k.t.fnv, k.k.t.clv, k.k.t.iv, k.k.t.sv, k.k.t.bv, k.k.t.sig, fun c mi fi h => ⟨(k.k.t.meth c mi fi h).1, fun mn h2 => ⟨((k.k.t.meth c mi fi h).2 mn h2).meth, ((k.k.t.meth c mi fi h).2 mn h2).free⟩⟩, k.k.t.init, fun c mn fi x h1 h2 => ⟨(k.k.t.up c mn fi x h1 h2).glob, (k.k.t.up c mn fi x h1 h2).read, (k.k.t.up c mn fi x h1 h2).val, (k.k.t.up c mn fi x h1 h2).kp⟩, k.k.t.fld, k.k.t.xr, k.k.t.xk⟩, k.k.N, k.k.nd, k.k.dbg, k.k.sc, k.k.fn, k.k.calm, k.k.un, k.k.gd, tk⟩
  unfold cB at h
  split at h
  · split at h <;> try (cases h; done)
    obtain ⟨h1, h2⟩ := andT h
    exact simS_expr (hr _ h1 _ W' k1) (swaps_no h2)
  · split at h <;> try (cases h; done)
    exact simS_ret (hr _ h _ W' k1)
  · split at h <;> try (cases h; done)
    obtain ⟨h1, h⟩ := andT h
    obtain ⟨h2, h⟩ := andT h
    obtain ⟨h3, h⟩ := andT h
    obtain ⟨h4, h5⟩ := andT h
    obtain ⟨n1, _, _⟩ := k1.nm (of_decide_eq_true h4)
    obtain ⟨q1, q2⟩ := k1.locB h5
    exact simS_asg (X := X.tr pn xe) (hr _ h3 _ W' k1) (simG_nm k1.nd n1 q1 q2) (by unfold swapsWithSole; exact swaps_no h1) (swap_none h2) (asg1 rfl)
  · cases h
theorem xtyB_ok {x : Str} {n : String} (h : xtyB x = some n) : bootBuiltins x = some (.type n) ∧ x ≠ "__name__" ∧ (x == ("__debug__" : Str)) = false := by
  unfold xtyB at h
  split at h
  · rename_i e; subst e; cases h; exact ⟨by kernel_rfl, by decide, by decide⟩
  · split at h
    · rename_i e; subst e; cases h; exact ⟨by kernel_rfl, by decide, by decide⟩
    · split at h
      · rename_i e; subst e; cases h; exact ⟨by kernel_rfl, by decide, by decide⟩
      · split at h
        · rename_i e; subst e; cases h; exact ⟨by kernel_rfl, by decide, by decide⟩
        · split at h
          · rename_i e; subst e; cases h; exact ⟨by kernel_rfl, by decide, by decide⟩
          · cases h
theorem cH_ok {a : Addr} {oe : Obj} {pn : List (Addr × Obj)} {i c : Nat} (k : SOk T_ G P C N sc X W) (hz : Zc (.ref (G.xc c)) none oe) (hf : ∃ vs, oe.data = .fields vs) : ∀ {h : Hx} {x : Expr}, cH T_ N sc i h x = true → PE (X.suite a ((a, oe) :: pn)) x (simH P i a c h) := by
  intro h x e
  fun_induction cH T_ N sc i h x with
  | case1 b d => rw [of_decide_eq_true e]; exact simH_cst
  | case2 kk x p n p2 y p3 pos =>
    obtain ⟨h1, h⟩ := andT e
    obtain ⟨h2, h⟩ := andT h
    obtain ⟨h3, h⟩ := andT h
    obtain ⟨h4, h⟩ := andT h
    obtain ⟨h5, h⟩ := andT h
    obtain ⟨h6, h⟩ := andT h
    obtain ⟨n1, n2, n3⟩ := k.k.nm (of_decide_eq_true h4)
    have v : Vis X.env.scope n := by rw [k.k.sc]; exact visB_ok h5
    have g2 : Gl (X.suite a ((a, oe) :: pn)) y := k.k.gl h6
    refine simH_isi k.k.t.g (of_decide_eq_true h1) (k.k.gl h2) (k.k.t.bv _ h3) hz hf n1 v n2 n3 ?_ (star1 rfl) (stars_any (by simp [noStar]))
    cases kk with
    | ty m =>
      obtain ⟨h7, h8⟩ := andT h
      obtain ⟨q1, q2, q3⟩ := xtyB_ok (of_decide_eq_true h7)
      exact pe_bltn g2 (k.k.t.bv _ h8) q1 rfl q2 q3
    | own d =>
      obtain ⟨h7, h8⟩ := andT h
      split at h7 <;> try (cases h7; done)
      rename_i d' e0
      obtain rfl := of_decide_eq_true h7
      exact pe_glob g2 (k.k.t.xr _ _ e0) rfl (neD h8)
  | case3 a b x y p i1 i2 =>
    obtain ⟨h1, h2⟩ := andT e
    exact simH_and (i1 h1) (pe_bool1 (i2 h2))
  | case4 a b c x y z p i1 i2 i3 =>
    obtain ⟨h1, h⟩ := andT e
    obtain ⟨h2, h3⟩ := andT h
    exact simH_and (i1 h1) (simH_and (i2 h2) (pe_bool1 (i3 h3)))
  | case5 a b x y p i1 i2 =>
    obtain ⟨h1, h2⟩ := andT e
    exact simH_or (i1 h1) (pe_bool1 (i2 h2))
  | case6 a b c x y z p i1 i2 i3 =>
    obtain ⟨h1, h⟩ := andT e
    obtain ⟨h2, h3⟩ := andT h
    exact simH_or (i1 h1) (simH_or (i2 h2) (pe_bool1 (i3 h3)))
  | case7 a x p i1 => exact simH_not (i1 e)
  | case8 => cases e
include hr hb hs in
theorem cS_ok {m : Sm} {x : Stmt} (h : cS T_ N sc sc R r m x = true) (k : SOk T_ G P C N sc X W) : PS X x (simS G P C W m) := by
  unfold cS at h
  split at h
  · split at h <;> try (cases h; done)
    obtain ⟨h1, h2⟩ := andT h
    exact simS_expr (hr _ h1 X W k.k) (swaps_no h2)
  · split at h <;> try (cases h; done)
    exact simS_ret (hr _ h X W k.k)
  · split at h <;> try (cases h; done)
    exact simS_retN
  · split at h <;> try (cases h; done)
    exact cAsg_ok hr hb h k
  · split at h <;> try (cases h; done)
    exact cMas_ok hr h k
  · split at h <;> try (cases h; done)
    obtain ⟨h1, h⟩ := andT h
    obtain ⟨h2, h⟩ := andT h
    obtain ⟨h3, h⟩ := andT h
    obtain ⟨h4, h5⟩ := andT h
    obtain ⟨e, _, _⟩ := k.k.nm (of_decide_eq_true h3)
    obtain ⟨q1, q2⟩ := k.k.locB h4
    rw [opB_ok h1]
    exact simS_aug (of_decide_eq_true h2) k.k.nd e q1 q2 (hr _ h5 X W k.k)
  · split at h <;> try (cases h; done)
    obtain ⟨h1, h⟩ := andT h
    obtain ⟨h2, h⟩ := andT h
    obtain ⟨h3, h⟩ := andT h
    obtain ⟨h4, h⟩ := andT h
    obtain ⟨h5, h6⟩ := andT h
    rw [opB_ok h1]
    exact simS_augIx k.k.t.g.arg (by have := k.k.un; omega) (of_decide_eq_true h2) (hr _ h3 X W k.k) (hr _ h4 X W k.k) (hr _ h5 X W k.k) (aug_store (by simpa using h6))
  · split at h <;> try (cases h; done)
    obtain ⟨h1, h⟩ := andT h
    obtain ⟨h2, h3⟩ := andT h
    obtain ⟨e1, e2⟩ := k.k.t.fld _ _ (of_decide_eq_true h1)
    rw [← e2]
    rename_i x0 _ 
    exact simS_fasg k.k.t.g e1 (hr _ h2 X W k.k) (hr _ h3 X W k.k) (swaps_attr)
  · split at h <;> try (cases h; done)
    obtain ⟨h1, h⟩ := andT h
    obtain ⟨h2, h3⟩ := andT h
    exact simS_iff (hr _ h1 X W k.k) (hs _ h2 X W k) (hs _ h3 X W k)
  · split at h <;> try (cases h; done)
    obtain ⟨h1, h⟩ := andT h
    obtain ⟨h2, h⟩ := andT h
    obtain ⟨h3, h4⟩ := andT h
    obtain ⟨h0, h1⟩ := andT h1
    exact simS_for k.hW k.hp k.k.calm (hr _ h1 X W k.k _ h0) (hr _ h2 X W k.k) (hs _ h3 X W k) (foldSet' (by simpa using h4))
  · split at h <;> try (cases h; done)
    obtain ⟨h1, h2⟩ := andT h
    exact simS_whil k.hW k.hp (hr _ h1 X W k.k) (hs _ h2 X W k)
  · split at h <;> try (cases h; done)
    exact simS_pass
  · split at h <;> try (cases h; done)
    exact simS_brk
  · split at h <;> try (cases h; done)
    exact simS_cont
  · exact ⟨fun pins s σ H D I ⟨_, _, _, _, _, _, O⟩ => by simp only [evS] at O; exact O.elim⟩
  · split at h <;> try (cases h; done)
    obtain ⟨h1, h⟩ := andT h
    obtain ⟨h2, h⟩ := andT h
    obtain ⟨h3, h4⟩ := andT h
    split at h3 <;> try (cases h3; done)
    rename_i d e0
    obtain rfl := of_decide_eq_true h3
    obtain ⟨d', m, e⟩ := List.any_eq_true.mp h4
    obtain rfl := of_decide_eq_true e
    obtain ⟨q1, q2, q3, q4⟩ := k.k.t.xk _ m
    exact sim_rai k.k.calm k.k.tk q1 q2 q3 q4 (k.k.gl h1) (k.k.t.xr _ _ e0) (neD h2)
  · split at h <;> try (cases h; done)
    obtain ⟨h1, h⟩ := andT h
    obtain ⟨h2, h⟩ := andT h
    obtain ⟨h3, h⟩ := andT h
    obtain ⟨h4, h⟩ := andT h
    obtain ⟨h5, h⟩ := andT h
    obtain ⟨h6, h⟩ := andT h
    obtain ⟨h7, h⟩ := andT h
    obtain ⟨h8, h⟩ := andT h
    obtain ⟨h9, h⟩ := andT h
    obtain ⟨h10, h11⟩ := andT h
    split at h3 <;> try (cases h3; done)
    rename_i d e0
    obtain rfl := of_decide_eq_true h3
    obtain ⟨n1, _, _⟩ := k.k.nm (of_decide_eq_true h4)
    obtain ⟨n2, _, _⟩ := k.k.nm (of_decide_eq_true h6)
    obtain ⟨q1, q2⟩ := k.k.locB h7
    exact sim_tr k.k.t.g k.stk k.frm k.k.nd n1 (by rw [k.k.sc]; exact of_decide_eq_true h5) (k.k.gl h1) (neD h2) (k.k.t.xr _ _ e0) k.k.tk
      (fun W' pn xe t po => cB_ok hr h8 k t) n2 q1 q2 (fun a oe e pn hz hf => cH_ok k hz hf h9) (by unfold swapsWithSole; exact swaps_no h10) (swap_none h11)
  · cases h
include hs in
theorem cSs_ok {ms : List Sm} {xs : List Stmt} (h : cSs r ms xs = true) (k : SOk T_ G P C N sc X W) : PSs X xs (simSs G P C W ms) := by
  unfold cSs at h
  split at h
  · split at h <;> try (cases h; done)
    exact simSs_nil
  · exact simSs_frv k.hW (hs _ h X W k)
  · split at h <;> try (cases h; done)
    obtain ⟨h1, h2⟩ := andT h
    exact simSs_cons k.hW (hs _ h1 X W k) (hs _ h2 X W k)
end
theorem chkS_ok {T_ : Tab} {N : List Str} {sc : Scope} {R : Rec} {G : Glob} {P : Prg} {C : Calls} (hr : ∀ j, R.r j = true → Good T_ G P C N sc sc j) (hb : ∀ scope j, R.rb scope j = true → Good T_ G P C N (relS scope sc) scope j) :
    ∀ (n : Nat) (j : JobS), chkS T_ N sc R n j = true → GoodS T_ G P C N sc j
  | 0, _, h => by cases h
  | n + 1, .s m x, h => fun X W k => cS_ok hr hb (fun j h => chkS_ok hr hb n j h) h k
  | n + 1, .ss ms xs, h => fun X W k => cSs_ok (fun j h => chkS_ok hr hb n j h) h k
end Ev
end

section
set_option Elab.async false
set_option linter.all false
namespace Ev
open PySem PySem.Spec PyProof.Rows L2
def nodupB : List Str → Bool
  | [] => true
  | x :: r => !(r.any fun y => decide (x = y)) && nodupB r
theorem nodupB_ok : ∀ {l : List Str}, nodupB l = true → l.Nodup
  | [], _ => .nil
  | x :: r, h => by
    obtain ⟨h1, h2⟩ := andT h
    refine List.nodup_cons.mpr ⟨fun m => ?_, nodupB_ok h2⟩
    have : (r.any fun y => decide (x = y)) = true := List.any_eq_true.mpr ⟨x, m, by simp⟩
    rw [this] at h1; cases h1
def fnScopeB (N ps : List Str) (sc : Scope) : Bool := (match sc.kind with | .function => true | _ => false) && (!sc.isCoroutine && (!sc.isGenerator && (nodupB N && (decide (N.take ps.length = ps) && ((ps.all fun x => match sc.names.lookup x with | some .local => true | some .cell => true | _ => false) &&
  (sc.names.all fun y => match y.2 with | .free => false | _ => true))))))
theorem fnScopeB_ok {N ps : List Str} {sc : Scope} (h : fnScopeB N ps sc = true) : FnScope N ps sc := by
  obtain ⟨h1, h⟩ := andT h
  obtain ⟨h2, h⟩ := andT h
  obtain ⟨h3, h⟩ := andT h
  obtain ⟨h4, h⟩ := andT h
  obtain ⟨h5, h⟩ := andT h
  obtain ⟨h6, h7⟩ := andT h
  refine ⟨?_, notT h2, notT h3, nodupB_ok h4, of_decide_eq_true h5, fun x hx => ?_, fun y hy e => ?_⟩
  · split at h1
    · assumption
    · cases h1
  · have := List.all_eq_true.mp h6 x hx
    split at this
    · exact .inl (by assumption)
    · exact .inr (by assumption)
    · cases this
  · have := List.all_eq_true.mp h7 y hy
    rw [e] at this; cases this
def okN (N : List Str) : Bool := N.all fun x => !decide (x = "__debug__") && !decide (x = "__classdict__")
theorem okN_ok {N : List Str} (h : okN N = true) : ∀ x ∈ N, (x == ("__debug__" : Str)) = false ∧ (x == ("__classdict__" : Str)) = false := by
  intro x hx
  obtain ⟨h1, h2⟩ := andT (List.all_eq_true.mp h x hx)
  exact ⟨beq_eq_false_iff_ne.mpr (of_decide_eq_false (notT h1)), beq_eq_false_iff_ne.mpr (of_decide_eq_false (notT h2))⟩
/-- a def's text and what it is to do -/
def defB (T_ : Tab) (N ps : List Str) (sc : Scope) (fn : Fn) (body : List Stmt) : Bool := fnScopeB N ps sc && (okN N && (decide (fn.pars = ps.length) && (decide (fn.slots = N.length) &&
  chkS T_ N sc ⟨fun j => chk T_ N 200 sc sc j, fun scope j => chk T_ N 200 (relS scope sc) scope j⟩ 200 (.ss fn.body body))))
structure TS (T_ : Tab) (G : Glob) (P : Prg) (K : PySem.W.Frag) (mg : Str → Option Value) : Prop where
  g : GOk G K P
  fnv : ∀ x f, T_.gl.lookup x = some (.fn f) → mg x = some (.ref (G.fn f)) ∧ PySem.W.keepIn K (.ref (G.fn f)) = true
  clv : ∀ x c, T_.gl.lookup x = some (.cls c) → mg x = some (.ref (G.cls c))
  iv : ∀ x i, T_.gl.lookup x = some (.int i) → ∃ t, mg x = some (.int i t)
  sv : ∀ x i, T_.gl.lookup x = some (.str i) → ∃ t, mg x = some (.str i t)
  bv : ∀ x, T_.blt x = true → mg x = none
  meth : ∀ c mi fi, P.meth c mi = some fi → ((c, mi), fi) ∈ T_.meths ∧ ∀ mn, T_.mns[mi]? = some mn → Meth K (G.cls c) mn (G.fn fi) ∧ ∀ f, f < G.nf → G.fld f ≠ mn
  init : ∀ c fi, T_.inits.lookup c = some fi → P.init c = some fi ∧ Mk K (G.cls c) (G.fn fi)
  up : ∀ c mn fi x, T_.ups.lookup (c, mn) = some fi → T_.gl.lookup x = some (.cls c) → ClX.CRead K (G.cls c) (.type "type") ∧ ClX.CVal K (G.cls c) (.type "type") mn (.ref (G.fn fi)) (.ref (G.fn fi)) ∧ PySem.W.keepIn K (.ref (G.fn fi)) = true
  fld : ∀ (f : Nat) (x : Str), T_.flds[f]? = some x → f < G.nf ∧ G.fld f = x
  xr : ∀ x c, T_.xgl.lookup x = some c → mg x = some (.ref (G.xc c))
  xk : ∀ c, c ∈ T_.xmk → XMk K (G.xc c)
def IsF (K : PySem.W.Frag) (G : Glob) (fi : Nat) (fd : FuncData) : Prop := ∃ oc od osl, K.lookup (G.fn fi) = some ⟨oc, od, .func fd, osl⟩
theorem IsF.eq {K : PySem.W.Frag} {G : Glob} {fi : Nat} {fd fd' : FuncData} (a : IsF K G fi fd) (b : IsF K G fi fd') : fd = fd' := by
  obtain ⟨_, _, _, a⟩ := a
  obtain ⟨_, _, _, b⟩ := b
  rw [a] at b
  cases b; rfl
theorem FunD.isF {K : PySem.W.Frag} {G : Glob} {fi : Nat} {x qual : Str} {params : Arguments} {body : List Stmt} {scope : Scope} {dvs : List V} {kws : List (Str × V)} {fd : FuncData} (F : FunD K x qual params body scope dvs kws (G.fn fi) fd) : IsF K G fi fd := by
  obtain ⟨⟨oc, od, dV, kV, doc, pm, an, cdv, ct, osl, rfl, lk, _⟩, _⟩ := F
  exact ⟨oc, od, osl, lk⟩
/-- how a def is bound -/
def ShOk (K : PySem.W.Frag) (G : Glob) (PS : Nat → List Str) (s : Sig) : Prop := ∃ (fd : FuncData) (dvs : List V) (ds : List Value), IsF K G s.f fd ∧ Vals dvs ds ∧ (∀ U, RepTs G U s.df dvs) ∧ (PS s.f).length = s.n + s.ks.length + s.df.length ∧
  ∀ (sh : Shared) (us ws : List Value), K.In sh.heap → us.length = s.n → ws.length = s.ks.length → BindsTo sh fd ⟨us, s.ks.zip ws⟩ ((PS s.f).zip (us ++ ws ++ ds))
/-- the program -/
structure POk (T_ : Tab) (G : Glob) (P : Prg) (fns : Nat → Option Fn) (K : PySem.W.Frag) (mg : Str → Option Value) (PS : Nat → List Str) : Prop where
  t : TS T_ G P K mg
  sh : ∀ s ∈ T_.sigs, ShOk K G PS s
  df : ∀ fi fn, fns fi = some fn → ∃ (x qual : Str) (params : Arguments) (body : List Stmt) (sc : Scope) (dvs : List V) (kws : List (Str × V)) (fd : FuncData) (N : List Str),
    FunD K x qual params body sc dvs kws (G.fn fi) fd ∧ defB T_ N (PS fi) sc fn body = true
theorem start_rep {G : Glob} {ρ : List Addr} {U : Hp} {ds : List D} {vs : List V} {n : Nat} (h : RepDs G ρ U ds vs) : RepE G ρ U (ds.map some ++ List.replicate (n - ds.length) none) (vs.map some ++ List.replicate (n - vs.length) none) := by
  have l := RepDs.len h
  refine ⟨by simp [l], fun i d e => ?_⟩
  by_cases hi : i < ds.length
  · rw [List.getElem?_append_left (by simpa using hi), List.getElem?_map] at e
    simp only [Option.map_eq_some_iff, Option.some.injEq, exists_eq_right] at e
    obtain ⟨v, h1, h2⟩ := Paired.getR h e
    exact ⟨v, by rw [List.getElem?_append_left (by rw [List.length_map, ← l]; exact hi), List.getElem?_map, h1]; rfl, h2⟩
  · rw [List.getElem?_append_right (by simpa using hi), List.getElem?_replicate] at e
    split at e <;> cases e
section
variable {T_ : Tab} {G : Glob} {P : Prg} {fns : Nat → Option Fn} {K : PySem.W.Frag} {mg : Str → Option Value} {PS : Nat → List Str} {prog : Program} {w : World} {base : Heap}
theorem fnAll (ok : POk T_ G P fns K mg PS) : ∀ (d fi : Nat) (fd : FuncData), IsF K G fi fd → FnG prog w K mg base (2 * d) (G.fn fi) fd (PS fi) (specF G (callF P fns d) fi (PS fi).length)
  | 0, fi, fd, _ => ⟨fun vs H Q E ⟨_, _, _, ds, _, r, l, _⟩ => by rw [← RepDs.len r, l], fun A outer s H args us vs Q E _ _ _ _ _ ⟨_, _, _, ds, _, _, _, O⟩ => by simp only [callF] at O; exact O.elim⟩
  | d + 1, fi, fd, isf => by
    cases e : fns fi with
    | none => exact ⟨fun vs H Q E ⟨_, _, _, ds, _, r, l, _⟩ => by rw [← RepDs.len r, l], fun A outer s H args us vs Q E _ _ _ _ _ ⟨_, _, _, ds, _, _, _, O⟩ => by simp only [callF, e] at O; exact O.elim⟩
    | some fn =>
      obtain ⟨x, qual, params, body, sc, dvs, kws, fd', N, F, hB⟩ := ok.df fi fn e
      obtain rfl := isf.eq (FunD.isF F)
      obtain ⟨h1, h⟩ := andT hB
      obtain ⟨h2, h⟩ := andT h
      obtain ⟨h3, h⟩ := andT h
      obtain ⟨h4, h5⟩ := andT h
      have h3 := of_decide_eq_true h3
      have h4 := of_decide_eq_true h4
      have S := fnScopeB_ok h1
      have IH := fnAll ok d
      refine fnG_of F S (fun vs H Q E ⟨_, _, _, ds, _, r, l, _⟩ => by rw [← RepDs.len r, l]) fun cdv A outer s H vs Q E hroom gd ⟨ρ, S0, U, ds, R, rd, l, O⟩ => ?_
      obtain ⟨X, hX⟩ : ∃ X, X = cxOf (CX prog w) prog w K mg base N qual sc (G.fn fi) cdv A outer s H E := ⟨_, rfl⟩
      have kt : TOk T_ G P (callF P fns d) X := by
        subst hX
        refine ⟨ok.t.g, ok.t.fnv, ok.t.clv, ok.t.iv, ok.t.sv, ok.t.bv, fun f n ks df m => ?_, fun c mi fi h => ⟨(ok.t.meth c mi fi h).1, fun mn h2 => ⟨((ok.t.meth c mi fi h).2 mn h2).1, ((ok.t.meth c mi fi h).2 mn h2).2⟩⟩, ok.t.init, fun c mn fi x h1 h2 => ⟨ok.t.clv _ _ h2, (ok.t.up c mn fi x h1 h2).1, (ok.t.up c mn fi x h1 h2).2.1, (ok.t.up c mn fi x h1 h2).2.2⟩, ok.t.fld, ok.t.xr, ok.t.xk⟩
        obtain ⟨fd2, dv2, dl, isf2, q1, q2, q3, q4⟩ := ok.sh _ m
        exact ⟨2 * d, fd2, PS f, dv2, dl, IH f fd2 isf2, hroom, q1, q2, q3, q4⟩
      have kk : KOk T_ G P (callF P fns d) N sc sc X (fun c dx _ H => E c dx H) := by
        subst hX
        exact { t := kt, N := rfl, nd := S.nd, dbg := okN_ok h2, sc := rfl, fn := fun _ _ => rfl, calm := rfl, un := by have := hroom.un; show (A.deeper _).units + 128 < _; omega, gd := gd, tk := takes_of rfl rfl rfl rfl }
      have ks : SOk T_ G P (callF P fns d) N sc X (fun c dx _ H => E c dx H) := by
        subst hX
        exact { k := kk, hW := fun _ _ _ _ _ h => h, hp := passes_of rfl, kind := S.kind, stk := rfl, frm := rfl }
      refine ⟨simSs G P (callF P fns d) (fun c dx _ H => E c dx H) fn.body, hX ▸ (chkS_ok (fun j h => chk_ok 200 _ _ j h) (fun scope j h => chk_ok 200 _ _ j h) 200 (.ss fn.body body) h5 X _ ks), ?_⟩
      refine ⟨ρ, S0, U, ds.map some ++ List.replicate (N.length - ds.length) none, R, start_rep rd, ?_⟩
      · simp only [callF, e, runFn, h3, h4] at O
        rw [if_pos l] at O
        refine O.bind fun q S1 ρ1 U1 H1 b _ s1 R1 r1 h => ?_
        obtain ⟨fl, τ1⟩ := q
        cases fl with
        | nx =>
          cases b <;> first | exact False.elim r1 | skip
          exact h.now (b := V.non) R1 repNon
        | rt d =>
          cases b <;> first | exact False.elim r1 | skip
          exact h.now R1 r1
        | bk => exact h.elim
        | ct => exact h.elim
end
end Ev
end

section
set_option Elab.async false
set_option linter.all false
namespace Ev
open PySem PySem.Spec PyProof.Rows L2
theorem cx_none {P : Program} {w : World} {H : Hp} {s s' : Shared} {e : Value} (h : CX P w [] H s (fun _ _ _ => False) e s') : False := by
  obtain ⟨_, _, _, _, _, _, _, _, _, _, _, _, z⟩ := h
  exact z
section
variable {P : Program} {w : World} {K : PySem.W.Frag} {mg mb : Str → Option Value} {k : Nat} {fa a : Addr} {fd : FuncData} {x : Str} {sp : Sp} {s1 : Shared} {vs : List Value} {ns : List Int}
/-- what is known behind the top -/
structure Top (K : PySem.W.Frag) (mg mb : Str → Option Value) (s1 : Shared) (a : Addr) (vs : List Value) : Prop where
  k : K.In s1.heap
  m : s1.heap.Ns mainGlobals mg
  b : s1.heap.Ns builtinsNs mb
  bb : ∀ x : Str, x ≠ "__name__" → mb x = bootBuiltins x
  lim : s1.heap.NoLimit
  g : s1.gens = #[]
  obj : s1.heap.get? a = some { cls := .type "list", data := .seq vs.toArray }
abbrev LawEnd (P : Program) (w : World) (fa a : Addr) (s1 : Shared) : Prop :=
  codeAny (model P w) callerA (.call (.ref fa) ⟨[.ref a], []⟩) (fun r s' => r = .ok (.ret (.bool true)) ∧ OldK s1.heap s'.heap ∧ s'.os = s1.os ∧ AllBare s'.gens) s1
/-- with H: what is tracked of the heap: the script, perhaps -/
theorem law_core (t : Top K mg mb s1 a vs) (H : Hp) (only : Only H) (hok : HOk P w H s1.heap) (at_ : ∀ b, H b ≠ none → b = a ∧ K.lookup b = none) (hr : Room k callerA)
    (F : ∀ base : Heap, K.In base → base.Ns mainGlobals mg → FnG P w K mg base k fa fd [x] sp) (bind : ∀ (s : Shared) (u : Value), BindsTo s fd ⟨[u], []⟩ [(x, u)])
    (hsp : sp [.ref a] H (fun v _ => v = .bl true) fun _ _ _ => False) : LawEnd P w fa a s1 := by
  have some_of : ∀ {b : Addr} {u : HO}, H b = some u → b = a ∧ K.lookup b = none := fun {b u} e => at_ b (by rw [e]; exact fun z => nomatch z)
  have inK : ∀ {b : Addr} {o : Obj}, K.lookup b = some o → H b = none := fun {b o} e => by
    cases q : H b with
    | none => rfl
    | some u => rw [(some_of q).2] at e; cases e
  have inD : ∀ {b : Addr} {o : Obj} {es : Array DictEntry} {n : Nat}, s1.heap.get? b = some o → o.data = .dict es n → H b = none := fun {b o es n} e d => by
    cases q : H b with
    | none => rfl
    | some u =>
      have e2 := (some_of q).1
      rw [e2, t.obj] at e
      cases e
      exact nomatch d
  have nsOf : ∀ {b : Addr} {m : Str → Option Value}, s1.heap.Ns b m → (hidT s1.heap H).Ns b m := fun {b m} h => by
    obtain ⟨o, es, n, q1, q2, q3⟩ := h
    exact ⟨o, es, n, hidT_get q1 (inD q1 q2), q2, q3⟩
  have kin : K.In (hidT s1.heap H) := fun b o e => hidT_get (t.k b o e) (inK e)
  obtain ⟨mc, l1, l2⟩ := t.lim
  have hm : Mod K mg (hidT s1.heap H) := { kin := kin, glob := nsOf t.m, blt := ⟨mb, nsOf t.b, t.bb⟩, nolimit := ⟨mc, nsOf l1, l2⟩ }
  have env : Env0 P w K mg (hidT s1.heap H) callerA [] s1 H :=
    { frames := rfl, mod := hm, bs := fun b o e => of_hidT e, bsz := Nat.le_of_eq (hidT_size _ _), funs := trivial, frf := fun b hb => (by cases hb), hok := hok, bare := .of_eq t.g }
  have run := (F _ kin hm.glob).run callerA [] s1 H ⟨[.ref a], []⟩ [.ref a] [.ref a] _ _ hr rfl env (bind s1 (.ref a)) (.cons rfl .nil) hsp
  refine codeAny_mono run fun r s' h => ?_
  match r, h with
  | .error e, h => exact (cx_none h).elim
  | .ok (.ret u), h =>
    obtain ⟨v, H', h1, h2, h3, h4, h5, rfl⟩ := h
    obtain rfl : u = Value.bool true := h5
    refine ⟨rfl, OldK.of_keep fun b o e => ?_, h1, h2⟩
    cases q : H b with
    | none => exact h3.keep b o e q (fun z => by cases z) (fun z => by cases z)
    | some u =>
      obtain z | ⟨ob, xs, z⟩ := only b
      · rw [q] at z; cases z
      · have e1 := (hok b _ z).1
        have e2 := (h4 b _ (h3.frzs b ob _ z)).1
        rw [e] at e1
        cases e1
        exact e2
theorem law_callG (t : Top K mg mb s1 a vs) (hi : IntsAre vs ns) (hl : ns.length ≤ sizeLine) (hr : Room k callerA)
    (F : ∀ base : Heap, K.In base → base.Ns mainGlobals mg → FnG P w K mg base k fa fd [x] sp) (bind : ∀ (s : Shared) (u : Value), BindsTo s fd ⟨[u], []⟩ [(x, u)])
    (hsp : ∀ H : Hp, ((∃ o, H = fun b => if b = a then some (.frz o (.lst (ns.map V.int))) else none) ∨ (H = (fun _ => none) ∧ ∀ H', SqL K H' a (ns.map V.int))) → sp [.ref a] H (fun v _ => v = .bl true) fun _ _ _ => False) : LawEnd P w fa a s1 := by
  have rv := vals_ints hi
  have len := hi.length
  cases q : K.lookup a with
  | none =>
    refine law_core t _ (fun b => ?_) (fun b u z => ?_) (fun b z => ?_) hr F bind (hsp _ (.inl ⟨{ cls := .type "list", data := .seq vs.toArray }, rfl⟩))
    · by_cases e : b = a
      · exact .inr ⟨_, _, if_pos e⟩
      · exact .inl (if_neg e)
    · by_cases e : b = a
      · subst e
        rw [if_pos rfl] at z
        cases z
        exact ⟨t.obj, by rw [List.length_map]; exact hl, vs, _, rv, t.obj⟩
      · rw [if_neg e] at z; cases z
    · by_cases e : b = a
      · exact ⟨e, e ▸ q⟩
      · exact absurd (if_neg e) z
  | some o =>
    have e := t.k a o q
    rw [t.obj] at e
    cases e
    refine law_core t _ (fun b => .inl rfl) (fun b u z => nomatch z) (fun b z => absurd rfl z) hr F bind (hsp _ (.inr ⟨rfl, fun H' => .inr ⟨_, vs.toArray, _, q, rfl, rfl, rfl, ?_, rv⟩⟩))
    rw [List.size_toArray, len]; exact hl
end
end Ev
end

section
set_option Elab.async false
set_option linter.all false
namespace Ev
open PySem PySem.Spec PyProof.Rows L2
/-- where the program's parts stand -/
structure Lay where
  cn : List Str
  fa : List (Str × Option Str)
  fl : List Str
  isa : List ((String ⊕ Nat) × Cl × Bool)
  xn : List Str
  xisa : List (Nat × Cl × Bool)
  xmat : List (Nat × Nat × Bool)
  T : Tab
def Lay.G (L : Lay) (K : PySem.W.Frag) : Glob where
  cls c := He.ga K (L.cn.getD c (L.cn.headD ""))
  xc c := He.ga K (L.xn.getD c "")
  fn f := He.fAd K (L.fa.getD f ("", none))
  fld f := L.fl.getD f ""
  nf := L.fl.length
  arg b ms := ∀ H, SqL K H b (ms.map V.int)
def isaL (l : List ((String ⊕ Nat) × Cl × Bool)) (q : String ⊕ Nat) (c : Cl) : Option Bool := match l with
  | [] => none
  | e :: r => if q = e.1 ∧ c = e.2.1 then some e.2.2 else isaL r q c
def xisaL (l : List (Nat × Cl × Bool)) (q : Nat) (c : Cl) : Option Bool := match l with
  | [] => none
  | e :: r => if q = e.1 ∧ c = e.2.1 then some e.2.2 else xisaL r q c
def xmatL (l : List (Nat × Nat × Bool)) (q c : Nat) : Option Bool := match l with
  | [] => none
  | e :: r => if q = e.1 ∧ c = e.2.1 then some e.2.2 else xmatL r q c
def methL (l : List ((Nat × Nat) × Nat)) (c m : Nat) : Option Nat := match l with
  | [] => none
  | e :: r => if c = e.1.1 ∧ m = e.1.2 then some e.2 else methL r c m
def Lay.P (L : Lay) : Prg where
  meth := methL L.T.meths
  init c := L.T.inits.lookup c
  isa := isaL L.isa
  xisa := xisaL L.xisa
  xmat := xmatL L.xmat
theorem xisaL_ok {q : Nat} {c : Cl} {b : Bool} : ∀ {l : List (Nat × Cl × Bool)}, xisaL l q c = some b → (q, c, b) ∈ l
  | [], h => by cases h
  | (q', c', b') :: r, h => by
    unfold xisaL at h
    split at h
    · rename_i e
      obtain ⟨e1, e2⟩ := e
      cases h; subst e1 e2
      exact List.mem_cons_self
    · exact List.mem_cons_of_mem _ (xisaL_ok h)
theorem xmatL_ok {q c : Nat} {b : Bool} : ∀ {l : List (Nat × Nat × Bool)}, xmatL l q c = some b → (q, c, b) ∈ l
  | [], h => by cases h
  | (q', c', b') :: r, h => by
    unfold xmatL at h
    split at h
    · rename_i e
      obtain ⟨e1, e2⟩ := e
      cases h; subst e1 e2
      exact List.mem_cons_self
    · exact List.mem_cons_of_mem _ (xmatL_ok h)
theorem isaL_ok {q : String ⊕ Nat} {c : Cl} {b : Bool} : ∀ {l : List ((String ⊕ Nat) × Cl × Bool)}, isaL l q c = some b → (q, c, b) ∈ l
  | [], h => by cases h
  | e :: r, h => by
    unfold isaL at h
    split at h
    · rename_i z
      obtain ⟨a, b, c⟩ := e
      obtain ⟨rfl, rfl⟩ := z
      cases h
      exact List.mem_cons_self
    · exact List.mem_cons_of_mem _ (isaL_ok h)
theorem methL_ok {c m f : Nat} : ∀ {l : List ((Nat × Nat) × Nat)}, methL l c m = some f → ((c, m), f) ∈ l
  | [], h => by cases h
  | e :: r, h => by
    unfold methL at h
    split at h
    · rename_i z
      obtain ⟨⟨a, b⟩, c⟩ := e
      obtain ⟨rfl, rfl⟩ := z
      cases h
      exact List.mem_cons_self
    · exact List.mem_cons_of_mem _ (methL_ok h)
theorem lookup_mem {α β : Type} [BEq α] [LawfulBEq α] {a : α} {b : β} : ∀ {l : List (α × β)}, l.lookup a = some b → (a, b) ∈ l
  | [], h => by cases h
  | (x, y) :: r, h => by
    rw [List.lookup_cons] at h
    split at h
    · rename_i e
      cases h
      rw [eq_of_beq e]
      exact List.mem_cons_self
    · exact List.mem_cons_of_mem _ (lookup_mem h)
def clsB (K : PySem.W.Frag) (C : Addr) : Bool := PySem.W.plainGet K C Str.empty && (PySem.W.hasDictIn K C && (PySem.W.plainOver K C && (He.eqO (PySem.W.findIn K (.ref C) "__setattr__") (some (some (.builtin "object.__setattr__"))) &&
  (He.eqO (PySem.W.findIn K (.ref C) "__class__") (some (some (.builtin "object.__class__"))) && decide (PySem.W.mroIn K C (.type "object") = some true)))))
def globB (L : Lay) (K : PySem.W.Frag) (q : Str × GK) : Bool := match q.2 with
  | .fn f => decide (L.fa[f]? = some (q.1, none)) && (He.eqO (PySem.W.nsIn K mainGlobals q.1) (some (some (.ref (He.ga K q.1)))) && PySem.W.keepIn K (.ref (He.ga K q.1)))
  | .cls c => decide (L.cn[c]? = some q.1) && He.eqO (PySem.W.nsIn K mainGlobals q.1) (some (some (.ref (He.ga K q.1))))
  | .int i => (match PySem.W.nsIn K mainGlobals q.1 with
    | some (some (.int j _)) => decide (j = i)
    | _ => false)
  | .str z => (match PySem.W.nsIn K mainGlobals q.1 with
    | some (some (.str y _)) => decide (y = z)
    | _ => false)
def methB (L : Lay) (K : PySem.W.Frag) (q : (Nat × Nat) × Nat) : Bool := match L.T.mns[q.1.2]? with
  | some mn => He.eqO (PySem.W.findIn K (.ref ((L.G K).cls q.1.1)) mn) (some (some (.ref ((L.G K).fn q.2)))) && (PySem.W.isFn K (.ref ((L.G K).fn q.2)) && PySem.W.keepIn K (.ref ((L.G K).fn q.2)))
  | none => false
def initB (L : Lay) (K : PySem.W.Frag) (q : Nat × Nat) : Bool := PySem.W.makesIn K ((L.G K).cls q.1) && (He.eqO (PySem.W.findIn K (.ref ((L.G K).cls q.1)) "__init__") (some (some (.ref ((L.G K).fn q.2)))) &&
  (PySem.W.isFn K (.ref ((L.G K).fn q.2)) && PySem.W.keepIn K (.ref ((L.G K).cls q.1))))
def upB (L : Lay) (K : PySem.W.Frag) (q : (Nat × Str) × Nat) : Bool := PySem.W.readsIn K ((L.G K).cls q.1.1) (.type "type") && (He.eqO (PySem.W.specialIn K (.ref ((L.G K).cls q.1.1)) "__getattribute__") (some (some (.builtin "type.__getattribute__"))) &&
  ((match PySem.W.findCls K (.ref ((L.G K).cls q.1.1)) (.type "type") q.1.2 with
    | some (.val u) => decide (u = .ref ((L.G K).fn q.2))
    | _ => false) && PySem.W.keepIn K (.ref ((L.G K).fn q.2))))
def excCB (K : PySem.W.Frag) (D : Addr) : Bool := He.eqO (PySem.W.findIn K (.ref D) "__getattribute__") (some (some (.builtin "BaseException.__getattribute__"))) && (He.eqO (PySem.W.findIn K (.ref D) "__getattr__") (some none) &&
  (decide (PySem.W.subIn K (.ref D) (.type "BaseException") = some true) && (PySem.W.hasDictIn K D && (He.eqO (PySem.W.findIn K (.ref D) "__class__") (some (some (.builtin "object.__class__"))) &&
  (He.eqO (PySem.W.specialIn K (.builtin "object.__class__") "__get__") (some (some (.builtin "getset_descriptor.__get__"))) && (decide (PySem.W.takesIn K (.builtin "object.__class__") = some true) && decide (PySem.W.mroIn K D (.type "object") = some true)))))))
theorem excCB_ok {K : PySem.W.Frag} {D : Addr} (h : excCB K D = true) : ExcC K D := by
  obtain ⟨h1, h⟩ := andT h
  obtain ⟨h2, h⟩ := andT h
  obtain ⟨h3, h⟩ := andT h
  obtain ⟨h4, h⟩ := andT h
  obtain ⟨h5, h⟩ := andT h
  obtain ⟨h6, h⟩ := andT h
  obtain ⟨h7, h8⟩ := andT h
  exact ⟨He.eqO_ok h1, He.eqO_ok h2, of_decide_eq_true h3, h4, He.eqO_ok h5, He.eqO_ok h6, of_decide_eq_true h7, of_decide_eq_true h8⟩
def xmkB (K : PySem.W.Frag) (C : Addr) : Bool := PySem.W.excIn K C [.type "ValueError", .type "Exception", .type "BaseException", .type "object"] "ValueError.__new__" && (PySem.W.keepIn K (.ref C) &&
  (decide (PySem.W.subIn K (.ref C) (.type "BaseException") = some true) && decide (PySem.W.typeIn K (.ref C) = some (.type "type"))))
theorem xmkB_ok {K : PySem.W.Frag} {C : Addr} (h : xmkB K C = true) : XMk K C := by
  obtain ⟨h1, h⟩ := andT h
  obtain ⟨h2, h⟩ := andT h
  obtain ⟨h3, h4⟩ := andT h
  exact ⟨h1, h2, of_decide_eq_true h3, of_decide_eq_true h4⟩
/-- the exceptions' part -/
def layX (L : Lay) (K : PySem.W.Frag) : Bool := (L.xisa.all fun e => excCB K ((L.G K).xc e.1) && decide (PySem.W.kitOne K (.ref ((L.G K).xc e.1)) (xclv (L.G K) e.2.1) = some e.2.2)) &&
  ((L.xmat.all fun e => decide (PySem.W.exmOne K (.ref ((L.G K).xc e.1)) (.ref ((L.G K).xc e.2.1)) = some e.2.2)) &&
  ((L.T.xgl.all fun q => decide (L.xn[q.2]? = some q.1) && He.eqO (PySem.W.nsIn K mainGlobals q.1) (some (some (.ref (He.ga K q.1))))) && (L.T.xmk.all fun c => xmkB K ((L.G K).xc c))))
/-- the part that asks nothing of the top -/
def layS (L : Lay) : Bool := decide (0 < L.cn.length) && (nodupB L.fl && (L.T.mns.all (fun m => !(L.fl.any fun f => decide (f = m))) && decide (L.T.flds = L.fl)))
/-- what the top must have left -/
def layB (L : Lay) (K : PySem.W.Frag) : Bool := (L.cn.all fun x => clsB K (He.ga K x)) && ((L.cn.all fun x => L.fl.all fun f => He.eqO (PySem.W.findIn K (.ref (He.ga K x)) f) (some none)) &&
  ((L.isa.all fun e => decide (PySem.W.kitOne K (tyv (L.G K) e.1) (clv (L.G K) e.2.1) = some e.2.2)) &&
  ((He.eqO (PySem.W.specialIn K (.builtin "object.__class__") "__get__") (some (some (.builtin "getset_descriptor.__get__"))) && decide (PySem.W.takesIn K (.builtin "object.__class__") = some true)) &&
  ((L.T.gl.all (globB L K)) && ((L.T.blts.all fun x => He.eqO (PySem.W.nsIn K mainGlobals x) (some none)) && ((L.T.meths.all (methB L K)) && ((L.T.inits.all (initB L K)) && ((L.T.ups.all (upB L K)) && layX L K))))))))
theorem all_of {α : Type} {l : List α} {p : α → Bool} (h : l.all p = true) {x : α} (m : x ∈ l) : p x = true := List.all_eq_true.mp h x m
theorem cls_of {K : PySem.W.Frag} {C : Addr} (h : clsB K C = true) : Cls K C ∧ PySem.W.findIn K (.ref C) "__class__" = some (some (.builtin "object.__class__")) ∧ PySem.W.mroIn K C (.type "object") = some true := by
  obtain ⟨h1, h⟩ := andT h
  obtain ⟨h2, h⟩ := andT h
  obtain ⟨h3, h⟩ := andT h
  obtain ⟨h4, h⟩ := andT h
  obtain ⟨h5, h6⟩ := andT h
  exact ⟨⟨h1, h2, h3, He.eqO_ok h4⟩, He.eqO_ok h5, of_decide_eq_true h6⟩
theorem nodup_getD : ∀ {l : List Str} {f g : Nat}, l.Nodup → f < l.length → g < l.length → l.getD f "" = l.getD g "" → f = g := by
  intro l f g nd hf hg e
  simp only [List.getD_eq_getElem?_getD, List.getElem?_eq_getElem hf, List.getElem?_eq_getElem hg, Option.getD_some] at e
  exact (List.getElem_inj nd).mp e
set_option maxHeartbeats 4000000 in
theorem lay_ok {L : Lay} {K : PySem.W.Frag} {h : Heap} {mg : Str → Option Value} (hs : layS L = true) (hk : layB L K = true) (X : K.In h) (N : h.Ns mainGlobals mg) : TS L.T (L.G K) L.P K mg := by
  obtain ⟨s1, hs⟩ := andT hs
  obtain ⟨s2, hs⟩ := andT hs
  obtain ⟨s3, s4⟩ := andT hs
  have s1 := of_decide_eq_true s1
  have s4 := of_decide_eq_true s4
  obtain ⟨k1, hk⟩ := andT hk
  obtain ⟨k2, hk⟩ := andT hk
  obtain ⟨k3, hk⟩ := andT hk
  obtain ⟨k4, hk⟩ := andT hk
  obtain ⟨k5, hk⟩ := andT hk
  obtain ⟨k6, hk⟩ := andT hk
  obtain ⟨k7, hk⟩ := andT hk
  obtain ⟨k8, hk⟩ := andT hk
  obtain ⟨k9, kx⟩ := andT hk
  unfold layX at kx
  obtain ⟨x1, kx⟩ := andT kx
  obtain ⟨x2, kx⟩ := andT kx
  obtain ⟨x3, x4⟩ := andT kx
  have cm : ∀ c, L.cn.getD c (L.cn.headD "") ∈ L.cn := by
    intro c
    rw [List.getD_eq_getElem?_getD]
    cases e : L.cn[c]? with
    | some x => exact mem_of_get e
    | none =>
      cases q : L.cn with
      | nil => rw [q] at s1; exact absurd s1 (by simp)
      | cons x r => simp
  have fm : ∀ f, f < L.fl.length → L.fl.getD f "" ∈ L.fl := by
    intro f hf
    simp only [List.getD_eq_getElem?_getD, List.getElem?_eq_getElem hf, Option.getD_some]
    exact List.getElem_mem hf
  have clsAt : ∀ {c : Nat} {x : Str}, L.cn[c]? = some x → (L.G K).cls c = He.ga K x := by
    intro c x e
    show He.ga K (L.cn.getD c _) = _
    rw [List.getD_eq_getElem?_getD, e]; rfl
  have fnAt : ∀ {f : Nat} {x : Str × Option Str}, L.fa[f]? = some x → (L.G K).fn f = He.fAd K x := by
    intro f x e
    show He.fAd K (L.fa.getD f _) = _
    rw [List.getD_eq_getElem?_getD, e]; rfl
  obtain ⟨k41, k42⟩ := andT k4
  have xi : ∀ c k b, (L.P).xisa c k = some b → ExcC K ((L.G K).xc c) ∧ PySem.W.kitOne K (.ref ((L.G K).xc c)) (xclv (L.G K) k) = some b := fun c k b e => by
    have q := all_of x1 (xisaL_ok (l := L.xisa) e)
    obtain ⟨q1, q2⟩ := andT q
    exact ⟨excCB_ok q1, of_decide_eq_true q2⟩
  have xm : ∀ c d b, (L.P).xmat c d = some b → PySem.W.exmOne K (.ref ((L.G K).xc c)) (.ref ((L.G K).xc d)) = some b := fun c d b e => of_decide_eq_true (all_of x2 (xmatL_ok (l := L.xmat) e))
  have xk : ∀ c, c ∈ L.T.xmk → XMk K ((L.G K).xc c) := fun c m => by
    have q := all_of x4 m
    exact xmkB_ok q
  refine { g := { arg := fun a ns z => z, cls := fun c => (cls_of (all_of k1 (cm c))).1, noat := fun c f hf => He.eqO_ok (all_of (all_of k2 (cm c)) (fm f hf)), inj := fun f g hf hg e => nodup_getD (nodupB_ok s2) hf hg e, isa := fun q c b e => of_decide_eq_true (all_of k3 (isaL_ok (l := L.isa) e)), ty := fun c => (cls_of (all_of k1 (cm c))).2, tyo := ⟨He.eqO_ok k41, of_decide_eq_true k42⟩, xisa := xi, xmat := xm }, fnv := ?_, clv := ?_, iv := ?_, sv := ?_, bv := ?_, meth := ?_, init := ?_, up := ?_, fld := ?_, xr := ?_, xk := xk }
  · intro x f e
    obtain ⟨q1, q⟩ := andT (all_of k5 (lookup_mem e))
    obtain ⟨q2, q3⟩ := andT q
    rw [fnAt (of_decide_eq_true q1)]
    exact ⟨PySem.W.mg_of X N (He.eqO_ok q2), q3⟩
  · intro x c e
    obtain ⟨q1, q2⟩ := andT (all_of k5 (lookup_mem e))
    rw [clsAt (of_decide_eq_true q1)]
    exact PySem.W.mg_of X N (He.eqO_ok q2)
  · intro x i e
    exact He.int_ok X N (all_of k5 (lookup_mem e))
  · intro x i e
    exact He.str_ok X N (all_of k5 (lookup_mem e))
  · intro x e
    obtain ⟨y, m, e⟩ := List.any_eq_true.mp e
    obtain rfl := of_decide_eq_true e
    exact PySem.W.mg_none_of X N (He.eqO_ok (all_of k6 m))
  · intro c mi fi e
    have m := methL_ok e
    refine ⟨m, fun mn hmn => ?_⟩
    have q := all_of k7 m
    unfold methB at q
    simp only [hmn] at q
    obtain ⟨q1, q⟩ := andT q
    obtain ⟨q2, q3⟩ := andT q
    refine ⟨⟨He.eqO_ok q1, q2, q3⟩, fun f hf e => ?_⟩
    have z := notT (all_of s3 (mem_of_get hmn))
    have : (L.fl.any fun f => decide (f = mn)) = true := List.any_eq_true.mpr ⟨_, fm f hf, decide_eq_true (show L.fl.getD f "" = mn from e)⟩
    rw [this] at z; cases z
  · intro c fi e
    refine ⟨e, ?_⟩
    obtain ⟨q1, q⟩ := andT (all_of k8 (lookup_mem e))
    obtain ⟨q2, q⟩ := andT q
    obtain ⟨q3, q4⟩ := andT q
    exact ⟨q1, He.eqO_ok q2, q3, q4⟩
  · intro c mn fi x e _
    obtain ⟨q1, q⟩ := andT (all_of k9 (lookup_mem e))
    obtain ⟨q2, q⟩ := andT q
    obtain ⟨q3, q4⟩ := andT q
    refine ⟨⟨q1, He.eqO_ok q2⟩, ⟨?_, rfl⟩, q4⟩
    split at q3
    · rename_i u z
      simp only at z
      rw [z, of_decide_eq_true q3]
    · cases q3
  · intro f x e
    rw [s4] at e
    have hf := (List.getElem?_eq_some_iff.mp e).1
    refine ⟨hf, ?_⟩
    show L.fl.getD f "" = x
    rw [List.getD_eq_getElem?_getD, e]; rfl
  · intro x c e
    obtain ⟨q1, q2⟩ := andT (all_of x3 (lookup_mem e))
    have z : (L.G K).xc c = He.ga K x := by
      show He.ga K (L.xn.getD c _) = _
      rw [List.getD_eq_getElem?_getD, of_decide_eq_true q1]; rfl
    rw [z]
    exact PySem.W.mg_of X N (He.eqO_ok q2)
end Ev
end

section
set_option Elab.async false
set_option linter.all false
namespace Ev
open PySem PySem.Spec PyProof.Rows L2
/-! ### binding -/
section
variable {K : PySem.W.Frag} {G : Glob} {PS : Nat → List Str} {fi : Nat} {x qual : Str} {params : Arguments} {body : List Stmt} {scope : Scope} {dvs : List V} {kws : List (Str × V)} {fd : FuncData} {ps : List Str}
theorem sh_all (F : FunD K x qual params body scope [] kws (G.fn fi) fd) (hps : PS fi = ps) (n : Nat) (hn : n = ps.length)
    (h : ∀ (kV doc pm : Value) (an : Option Addr) (cdv ct : Value) (us : List Value), us.length = ps.length → bindArgs (PySem.W.fnOf x qual params body scope .none kV doc pm an cdv ct) ⟨us, []⟩ = pure (ps.zip us)) : ShOk K G PS ⟨fi, n, [], []⟩ := by
  subst hn
  refine ⟨fd, [], [], FunD.isF F, .nil, fun U => by simp [RepTs], by simp [hps], fun sh us ws X l1 l2 => ?_⟩
  obtain rfl : ws = [] := List.length_eq_zero_iff.mp l2
  have := FunD.bindsN F h sh us X (by simpa using l1)
  simpa [hps] using this
theorem sh_kw0 (F : FunD K x qual params body scope [] kws (G.fn fi) fd) (hps : PS fi = ps) (n : Nat) (df : List T) (hk : kws ≠ []) (hn : n + kws.length = ps.length) (hdf : ∀ U, RepTs G U df (kws.map (·.2)))
    (h : ∀ (D : Addr) (doc pm : Value) (an : Option Addr) (cdv ct : Value) (us ks : List Value), us.length = n → ks.length = kws.length →
      KwChain D ((kws.map (·.1)).zip ks) (bindArgs (PySem.W.fnOf x qual params body scope .none (.ref D) doc pm an cdv ct) ⟨us, []⟩) (ps.zip (us ++ ks))) : ShOk K G PS ⟨fi, n, [], df⟩ := by
  obtain ⟨ds, hv, hb⟩ := FunD.binds0 F n hk hn h
  have l := (hdf (fun _ => none)).len
  have l2 := hv.length
  simp at l l2
  refine ⟨fd, _, ds, FunD.isF F, hv, hdf, by simp [hps]; omega, fun sh us ws X l1 l3 => ?_⟩
  obtain rfl : ws = [] := List.length_eq_zero_iff.mp l3
  have := hb sh us X (by simp at l1 ⊢; omega)
  simpa [hps] using this
theorem sh_b1 (F : FunD K x qual params body scope dvs kws (G.fn fi) fd) (hps : PS fi = ps) (n j : Nat) (df : List T) (hd : dvs ≠ []) (hn : n + (dvs.length - j) = ps.length) (hdf : ∀ U, RepTs G U df (dvs.drop j))
    (h : ∀ (T : Addr) (kV doc pm : Value) (an : Option Addr) (cdv ct : Value) (us its : List Value), us.length = n → its.length = dvs.length →
      ∃ k, bindArgs (PySem.W.fnOf x qual params body scope (.ref T) kV doc pm an cdv ct) ⟨us, []⟩ = seqItems? (.ref T) >>= k ∧ k (some its.toArray) = pure (ps.zip (us ++ its.drop j))) : ShOk K G PS ⟨fi, n, [], df⟩ := by
  obtain ⟨ds, hv, hb⟩ := FunD.binds1 F n j hd hn h
  have l := (hdf (fun _ => none)).len
  have l2 := hv.length
  simp at l l2
  refine ⟨fd, _, ds, FunD.isF F, hv, hdf, by simp [hps]; omega, fun sh us ws X l1 l3 => ?_⟩
  obtain rfl : ws = [] := List.length_eq_zero_iff.mp l3
  have := hb sh us X (by simp at l1 ⊢; omega)
  simpa [hps] using this
end
/-! ### the Hook -/
/-- a def: where it stands, its text (or none), its names, its parameters -/
structure Df where
  d : He.DefD
  N : List Str
  ps : List Str
  fn : Option Fn
def obsM (L : Lay) (ds : List (Nat × Df)) (K : PySem.W.Frag) : He.AlD := (layB L K && ds.all fun e => e.2.d.ok K, ds.map fun e => He.fnW K e.2.d.at_)
def obsMG (n : Nat) (L : Lay) (ds : List (Nat × Df)) (g : Addr → Option Obj) : He.AlD := obsM L ds (He.frG g (cStatics :: He.asD g n))
def valM (ds : List (Nat × Df)) : He.AlD := (true, ds.map fun e => e.2.d.val)
def SaysM (L : Lay) (ds : List (Nat × Df)) (K : PySem.W.Frag) : Prop := obsM L ds K = valM ds
def hookM (n : Nat) (L : Lay) (ds : List (Nat × Df)) : PySem.W.Hook where
  α := He.AlD
  obs := fun s => obsMG n L ds s.heap.get?
  val := fun _ => valM ds
  says := fun _ h => ∃ K : PySem.W.Frag, K.In h ∧ SaysM L ds K
  of := fun _ s e => ⟨He.frG s.heap.get? (cStatics :: He.asD s.heap.get? n), He.frG_in, e⟩
  keeps := fun _ _ _ ⟨K, hK, c⟩ k => ⟨K, PySem.W.Frag.In.keeps hK k, c⟩
theorem obsMG_eq {n : Nat} {L : Lay} {ds : List (Nat × Df)} {g : Addr → Option Obj} {s : Shared} (h : ∀ a, g a = s.heap.get? a) : obsMG n L ds g = (hookM n L ds).obs s := by
  have e : g = s.heap.get? := funext h
  rw [e]; rfl
theorem SaysM.lay {L : Lay} {ds : List (Nat × Df)} {K : PySem.W.Frag} (c : SaysM L ds K) : layB L K = true := (andT (show (layB L K && ds.all fun e => e.2.d.ok K) = true from congrArg (fun z : He.AlD => z.1) c)).1
theorem SaysM.df {L : Lay} {ds : List (Nat × Df)} {K : PySem.W.Frag} (c : SaysM L ds K) {e : Nat × Df} (m : e ∈ ds) : ∃ fd, FunD K e.2.d.name e.2.d.qual e.2.d.params e.2.d.body e.2.d.scope (e.2.d.dvs K) (e.2.d.kws K) (He.fAd K e.2.d.at_) fd := by
  have c2 := (andT (show (layB L K && ds.all fun e => e.2.d.ok K) = true from congrArg (fun z : He.AlD => z.1) c)).2
  have c3 : ds.map (fun e => He.fnW K e.2.d.at_) = ds.map fun e => e.2.d.val := congrArg (fun z : He.AlD => z.2) c
  have c4 : He.fnW K e.2.d.at_ = e.2.d.val := by
    have := List.map_eq_map_iff.mp c3 e m
    exact this
  exact He.DefD.funD c4 (all_of c2 m)
/-! ### the end -/
def fnsL (ds : List (Nat × Df)) (i : Nat) : Option Fn := (ds.lookup i).bind (·.fn)
def psL (ds : List (Nat × Df)) (i : Nat) : List Str := ((ds.lookup i).map (·.ps)).getD []
/-- the static part: each def is where the layout says, its text is right -/
def dfB (L : Lay) (ds : List (Nat × Df)) : Bool := ds.all fun e => decide (L.fa[e.1]? = some e.2.d.at_) && match e.2.fn with
  | none => true
  | some fn => defB L.T e.2.N e.2.ps e.2.d.scope fn e.2.d.body
theorem pok {L : Lay} {ds : List (Nat × Df)} {K : PySem.W.Frag} {h : Heap} {mg : Str → Option Value} (hs : layS L = true) (hd : dfB L ds = true) (X : K.In h) (N : h.Ns mainGlobals mg) (c : SaysM L ds K)
    (sh : ∀ s ∈ L.T.sigs, ShOk K (L.G K) (psL ds) s) : POk L.T (L.G K) L.P (fnsL ds) K mg (psL ds) := by
  refine ⟨lay_ok hs c.lay X N, sh, fun fi fn e => ?_⟩
  simp only [fnsL, Option.bind_eq_some_iff] at e
  obtain ⟨df, e1, e2⟩ := e
  obtain ⟨fd, F⟩ := c.df (lookup_mem e1)
  obtain ⟨h1, q⟩ := andT (all_of hd (lookup_mem e1))
  have h1 := of_decide_eq_true h1
  simp only [e2] at q
  have ef : (L.G K).fn fi = He.fAd K df.d.at_ := by
    show He.fAd K (L.fa.getD fi _) = _
    rw [List.getD_eq_getElem?_getD, h1]; rfl
  exact ⟨_, _, _, _, _, _, _, fd, df.N, by rw [ef]; exact F, by simpa [psL, e1] using q⟩
/-- a def's facts by its place -/
theorem SaysM.at_ {L : Lay} {ds : List (Nat × Df)} {K : PySem.W.Frag} (c : SaysM L ds K) (hd : dfB L ds = true) (i : Nat) {e : Df} (h : ds.lookup i = some e) : ∃ fd, FunD K e.d.name e.d.qual e.d.params e.d.body e.d.scope (e.d.dvs K) (e.d.kws K) ((L.G K).fn i) fd := by
  obtain ⟨fd, F⟩ := c.df (lookup_mem h)
  have h1 := of_decide_eq_true (andT (all_of hd (lookup_mem h))).1
  have ef : (L.G K).fn i = He.fAd K e.d.at_ := by
    show He.fAd K (L.fa.getD i _) = _
    rw [List.getD_eq_getElem?_getD, h1]; rfl
  exact ⟨fd, by rw [ef]; exact F⟩
/-- THE END of a law: i is the law's def, so deep the calls -/
theorem walkM {l : PySem.W.OpenLaw} {n depth : Nat} {q : Program} {loose : List Str} {XP : (Str → Option Value) → Heap → Prop} {d : DefRec} {L : Lay} {ds : List (Nat × Df)} {m i : Nat} {x : Str} {e : Df}
    (hn : l.most = some n) (hn2 : n ≤ sizeLine) (hdf : d.params.defaults = []) (hr : Room (2 * depth) callerA) (hs : layS L = true) (hd : dfB L ds = true) (hi : ds.lookup i = some e) (hps : e.ps = [x]) (hlook : L.T.gl.lookup d.name = some (.fn i))
    (sh : ∀ (K : PySem.W.Frag), SaysM L ds K → ∀ s ∈ L.T.sigs, ShOk K (L.G K) (psL ds) s)
    (bind : ∀ (K : PySem.W.Frag) (fd : FuncData), FunD K e.d.name e.d.qual e.d.params e.d.body e.d.scope (e.d.dvs K) (e.d.kws K) ((L.G K).fn i) fd → ∀ (s : Shared) (u : Value), BindsTo s fd ⟨[u], []⟩ [(x, u)])
    (plain : ∀ ns : List Int, ns.length ≤ n → ∃ S', callF L.P (fnsL ds) depth i [.t (.arg ns)] [] = .ok (.t (.bl true)) S') :
    PySem.W.WalkO q loose XP (hookM m L ds).says l.row.toRowW d [] (fun f vs => PySem.call f vs) := by
  refine Att.attach_call hn hdf fun w s₀ s1 mg mb fa o pm cd doc a vs ns G Y ho hdd hcd hmg hobj hints hlen hg => ?_
  obtain ⟨K, KX, c⟩ := Y
  obtain ⟨fd, F⟩ := c.at_ hd i hi
  have t : Top K mg mb s1 a vs := ⟨KX, G.T.g, G.T.b, G.T.builtins, G.T.nolimit, hg, hobj⟩
  have ok := pok hs hd KX G.T.g c (sh K c)
  have ea : fa = (L.G K).fn i := by
    have := (ok.t.fnv _ _ hlook).1
    rw [hmg] at this
    cases this; rfl
  subst ea
  obtain ⟨S', hp⟩ := plain ns hlen
  have hps2 : psL ds i = [x] := by simp [psL, hi, hps]
  refine law_callG (sp := specF (L.G K) (callF L.P (fnsL ds) depth) i 1) t hints (Nat.le_trans hlen hn2) hr (fun base kb nb => ?_) (bind K fd F) fun H hH => ?_
  · have := fnAll (prog := l.prog) (w := w) (base := base) ok depth i fd (FunD.isF F)
    rw [hps2] at this
    exact this
  · refine ⟨[], [], H, [.t (.arg ns)], ⟨rfl, .nil, fun n c a h => by simp at h, fun _ _ h => h, fun n c a h => by simp at h, fun a h => by cases h⟩, .cons ?_ .nil, rfl, ?_⟩
    · show RepT _ _ _ _
      simp only [RepT]
      rcases hH with ⟨o, rfl⟩ | ⟨_, hq⟩
      · exact ⟨a, rfl, .inl ⟨o, if_pos rfl⟩⟩
      · exact ⟨a, rfl, .inr hq⟩
    · rw [hp]
      intro ρ' U' H' b _ _ r
      have r : RepT _ _ _ _ := r
      simp only [RepT] at r
      exact r
end Ev
end

section
set_option Elab.async false
set_option linter.all false
namespace Ev
open PySem L2
/-- is_number -/
def mp_0 : Fn := ⟨2, 2, [.ret (.and_ (.isi (.var 0) [.ty "int"]) (.and_ (.not_ (.isi (.var 0) [.ty "bool"])) (.cmp2 .le .lt (.cst (.int 0)) (.var 0) (.var 1))))]⟩
/-- is_heap -/
def mp_1 : Fn := ⟨3, 2, [.iff (.or_ (.not_ (.isi (.var 0) [.ty "list"])) (.not_ (.bi .all [.fr (.comp (.nm 2) (.val (.var 0)) [] (.call .fz 0 [.var 2, .var 1] []))]))) [.ret (.cst (.bl false))] [],
  .ret (.cmp .eq (.bi .lenset [.var 0]) (.bi .len [.var 0]))]⟩
/-- joined -/
def mp_2 : Fn := ⟨2, 2, [.raise]⟩
/-- common -/
def mp_3 : Fn := ⟨2, 2, [.raise]⟩
/-- but -/
def mp_4 : Fn := ⟨2, 2, [.raise]⟩
/-- all_heaps -/
def mp_5 : Fn := ⟨7, 2, [.iff (.cmp .gt (.bin .shl (.cst (.int 1)) (.var 0)) (.var 1)) [.raise] [],
  .asg (.nm 2) (.nw (.disp [.fr (.disp [])])),
  .asg (.nm 3) (.fr (.disp [.fr (.disp [])])),
  .for_ (.nm 4) (.rng [.var 0]) [.raise,
  .expr (.bm .extend (.var 2) [.var 3])],
  .ret (.var 2)]⟩
/-- Yard.__init__ -/
def mp_6 : Fn := ⟨3, 3, [.fasg (.var 0) 0 (.fr (.rng [.var 1])),
  .fasg (.var 0) 1 (.var 2)]⟩
/-- Yard.many -/
def mp_7 : Fn := ⟨1, 1, [.ret (.bi .len [.fld (.var 0) 0])]⟩
/-- Yard.things -/
def mp_8 : Fn := ⟨1, 1, [.ret (.nw (.listOf (.fld (.var 0) 0)))]⟩
/-- Yard.worth -/
def mp_9 : Fn := ⟨2, 2, [.expr (.call .fz 18 [.var 0, .var 1] []),
  .ret (.meth .fz 4 (.var 0) [.fr (.listOf (.var 1))] [])]⟩
/-- Yard.worth_of -/
def mp_10 : Fn := ⟨2, 2, [.ret (.cst (.int 0))]⟩
/-- Yard.whole -/
def mp_11 : Fn := ⟨1, 1, [.ret (.meth .fz 4 (.var 0) [.meth .fz 2 (.var 0) [] []] [])]⟩
/-- Yard.sort_word -/
def mp_12 : Fn := ⟨1, 1, [.ret (.cst (.str "Yard"))]⟩
/-- Yard.made_of -/
def mp_13 : Fn := ⟨1, 1, [.ret (.nw (.disp []))]⟩
/-- Yard.__eq__ -/
def mp_14 : Fn := ⟨2, 2, [.ret (.and_ (.isi (.var 1) [.own 0]) (.and_ (.cmp .eq (.meth .fz 6 (.var 0) [] []) (.meth .fz 6 (.var 1) [] [])) (.cmp .eq (.meth .fz 7 (.var 0) [] []) (.meth .fz 7 (.var 1) [] []))))]⟩
/-- Yard.__len__ -/
def mp_15 : Fn := ⟨1, 1, [.ret (.bi .len [.fld (.var 0) 0])]⟩
/-- want_yard -/
def mp_16 : Fn := ⟨1, 1, [.iff (.not_ (.isi (.var 0) [.own 0])) [.raise] []]⟩
/-- want_nested -/
def mp_17 : Fn := ⟨1, 1, [.iff (.cmp .gt (.var 0) (.cst (.int 4))) [.raise] []]⟩
/-- want_heap -/
def mp_18 : Fn := ⟨2, 2, [.iff (.not_ (.call .fz 1 [.var 1, .meth .fz 1 (.var 0) [] []] [])) [.rai 2] []]⟩
/-- want_thing -/
def mp_19 : Fn := ⟨2, 2, [.iff (.not_ (.call .fz 0 [.var 1, .meth .fz 1 (.var 0) [] []] [])) [.raise] []]⟩
/-- want_list -/
def mp_20 : Fn := ⟨1, 1, [.iff (.not_ (.isi (.var 0) [.ty "list"])) [.raise] [],
  .iff (.cmp .gt (.bi .len [.var 0]) (.cst (.int 24))) [.raise] []]⟩
/-- want_each -/
def mp_21 : Fn := ⟨1, 1, [.iff (.not_ (.bi .all [.var 0])) [.raise] []]⟩
/-- is_pair -/
def mp_22 : Fn := ⟨3, 2, [.ret (.and_ (.isi (.var 0) [.ty "tuple"]) (.and_ (.cmp .eq (.bi .len [.var 0]) (.cst (.int 2))) (.bi .all [.fr (.comp (.nm 2) (.val (.var 0)) [] (.call .fz 0 [.var 2, .var 1] []))])))]⟩
/-- piece_of -/
def mp_23 : Fn := ⟨3, 2, [.asg (.nm 2) (.var 1),
  .whil 1000000 (.cmp .ne (.idx (.var 0) (.var 2)) (.var 2)) [.asg (.nm 2) (.idx (.var 0) (.var 2))],
  .ret (.var 2)]⟩
/-- Ties.__init__ -/
def mp_24 : Fn := ⟨4, 3, [.iff (.or_ (.not_ (.call .fz 0 [.var 1, .bin .add (.cst (.int 12)) (.cst (.int 1))] [])) (.cmp .eq (.var 1) (.cst (.int 0)))) [.raise] [],
  .expr (.call .fz 20 [.var 2] []),
  .expr (.call .fz 21 [.fr (.comp (.nm 3) (.val (.var 2)) [] (.call .fz 22 [.var 3, .var 1] []))] []),
  .expr (.call .fz 6 [.var 0, .bi .len [.var 2]] [.int 0]),
  .fasg (.var 0) 2 (.var 1),
  .fasg (.var 0) 3 (.fr (.listOf (.var 2)))]⟩
/-- Ties.places -/
def mp_25 : Fn := ⟨1, 1, [.ret (.fld (.var 0) 2)]⟩
/-- Ties.pairs -/
def mp_26 : Fn := ⟨1, 1, [.ret (.nw (.listOf (.fld (.var 0) 3)))]⟩
/-- Ties.worth_of -/
def mp_27 : Fn := ⟨8, 2, [.asg (.nm 2) (.nw (.rng [.fld (.var 0) 2])),
  .asg (.nm 3) (.cst (.int 0)),
  .for_ (.nm 4) (.val (.var 1)) [.asg (.tp [(.nm 5), (.nm 6)]) (.fr (.comp (.nm 7) (.val (.idx (.fld (.var 0) 3) (.var 4))) [] (.call .fz 23 [.var 2, .var 7] []))),
  .iff (.cmp .ne (.var 5) (.var 6)) [.asg (.ix (.var 2) (.var 5)) (.var 6),
  .aug 3 .add (.cst (.int 1))] []],
  .ret (.var 3)]⟩
/-- Ties.sort_word -/
def mp_28 : Fn := ⟨1, 1, [.ret (.cst (.str "Ties"))]⟩
/-- Ties.made_of -/
def mp_29 : Fn := ⟨1, 1, [.ret (.nw (.disp [.fld (.var 0) 2, .fr (.listOf (.fld (.var 0) 3))]))]⟩
/-- Ties.__repr__ -/
def mp_30 : Fn := ⟨1, 1, [.ret (.js [.cst (.str "Ties("), .fm (.fld (.var 0) 2), .cst (.str ", "), .fm (.fld (.var 0) 3), .cst (.str ")")])]⟩
/-- Rows.__init__ -/
def mp_31 : Fn := ⟨3, 2, [.expr (.call .fz 20 [.var 1] []),
  .expr (.call .fz 21 [.fr (.comp (.nm 2) (.val (.var 1)) [] (.call .fz 0 [.var 2, .cst (.int 4096)] []))] []),
  .expr (.call .fz 6 [.var 0, .bi .len [.var 1]] [.int 0]),
  .fasg (.var 0) 4 (.fr (.listOf (.var 1)))]⟩
/-- Rows.rows -/
def mp_32 : Fn := ⟨1, 1, [.ret (.nw (.listOf (.fld (.var 0) 4)))]⟩
/-- Rows.worth_of -/
def mp_33 : Fn := ⟨5, 2, [.asg (.nm 2) .dnw,
  .for_ (.nm 3) (.val (.var 1)) [.asg (.nm 4) (.idx (.fld (.var 0) 4) (.var 3)),
  .whil 1000000 (.cmp .in_ (.bi .bitlen [.var 4]) (.var 2)) [.aug 4 .bxor (.idx (.var 2) (.bi .bitlen [.var 4]))],
  .iff (.cmp .gt (.var 4) (.cst (.int 0))) [.asg (.ix (.var 2) (.bi .bitlen [.var 4])) (.var 4)] []],
  .ret (.bi .len [.var 2])]⟩
/-- Rows.sort_word -/
def mp_34 : Fn := ⟨1, 1, [.ret (.cst (.str "Rows"))]⟩
/-- Rows.made_of -/
def mp_35 : Fn := ⟨1, 1, [.ret (.nw (.disp [.fr (.listOf (.fld (.var 0) 4))]))]⟩
/-- Rows.__repr__ -/
def mp_36 : Fn := ⟨1, 1, [.ret (.js [.cst (.str "Rows("), .fm (.fld (.var 0) 4), .cst (.str ")")])]⟩
/-- are_tops -/
def mp_37 : Fn := ⟨2, 1, [.iff (.or_ (.not_ (.isi (.var 0) [.ty "list"])) (.cmp .gt (.bi .len [.var 0]) (.cst (.int 8)))) [.ret (.cst (.bl false))] [],
  .ret (.bi .all [.fr (.comp (.nm 1) (.val (.var 0)) [] (.call .fz 0 [.var 1, .bin .add (.cst (.int 24)) (.cst (.int 1))] []))])]⟩
/-- Lots.__init__ -/
def mp_38 : Fn := ⟨4, 3, [.iff (.not_ (.call .fz 37 [.var 1] [])) [.raise] [],
  .expr (.call .fz 20 [.var 2] []),
  .expr (.call .fz 21 [.fr (.comp (.nm 3) (.val (.var 2)) [] (.call .fz 0 [.var 3, .bi .len [.var 1]] []))] []),
  .expr (.call .fz 6 [.var 0, .bi .len [.var 2]] [.int 0]),
  .fasg (.var 0) 5 (.fr (.listOf (.var 1))),
  .fasg (.var 0) 6 (.fr (.listOf (.var 2)))]⟩
/-- Lots.tops -/
def mp_39 : Fn := ⟨1, 1, [.ret (.nw (.listOf (.fld (.var 0) 5)))]⟩
/-- Lots.lots -/
def mp_40 : Fn := ⟨1, 1, [.ret (.nw (.listOf (.fld (.var 0) 6)))]⟩
/-- Lots.worth_of -/
def mp_41 : Fn := ⟨6, 2, [.asg (.nm 2) (.nw (.rep (.fr (.disp [.cst (.int 0)])) (.bi .len [.fld (.var 0) 5]))),
  .for_ (.nm 3) (.val (.var 1)) [.augIx (.var 2) (.idx (.fld (.var 0) 6) (.var 3)) .add (.cst (.int 1))],
  .frv 2,
  .ret (.bi .sum [.fr (.comp (.tp [(.nm 4), (.nm 5)]) (.zip (.var 2) (.fld (.var 0) 5)) [] (.bi .min2 [.var 4, .var 5]))])]⟩
/-- Lots.sort_word -/
def mp_42 : Fn := ⟨1, 1, [.ret (.cst (.str "Lots"))]⟩
/-- Lots.made_of -/
def mp_43 : Fn := ⟨1, 1, [.ret (.nw (.disp [.fr (.listOf (.fld (.var 0) 5)), .fr (.listOf (.fld (.var 0) 6))]))]⟩
/-- Lots.__repr__ -/
def mp_44 : Fn := ⟨1, 1, [.ret (.js [.cst (.str "Lots("), .fm (.fld (.var 0) 5), .cst (.str ", "), .fm (.fld (.var 0) 6), .cst (.str ")")])]⟩
/-- finds_seat -/
def mp_45 : Fn := ⟨5, 4, [.for_ (.nm 4) (.val (.idx (.var 0) (.var 1))) [.iff (.cmp .nin (.var 4) (.var 3)) [.expr (.bm .append (.var 3) [.var 4]),
  .iff (.or_ (.cmp .nin (.var 4) (.var 2)) (.call .fz 45 [.var 0, .idx (.var 2) (.var 4), .var 2, .var 3] [])) [.asg (.ix (.var 2) (.var 4)) (.var 1),
  .ret (.cst (.bl true))] []] []],
  .ret (.cst (.bl false))]⟩
/-- seated -/
def mp_46 : Fn := ⟨4, 2, [.asg (.nm 2) .dnw,
  .for_ (.nm 3) (.val (.var 1)) [.expr (.call .fz 45 [.var 0, .var 3, .var 2, .nw (.disp [])] [])],
  .ret (.var 2)]⟩
/-- Seats.__init__ -/
def mp_47 : Fn := ⟨4, 3, [.iff (.not_ (.call .fz 0 [.var 1, .bin .add (.cst (.int 12)) (.cst (.int 1))] [])) [.raise] [],
  .expr (.call .fz 20 [.var 2] []),
  .expr (.call .fz 21 [.fr (.comp (.nm 3) (.val (.var 2)) [] (.call .fz 1 [.var 3, .var 1] []))] []),
  .expr (.call .fz 6 [.var 0, .bi .len [.var 2]] [.int 0]),
  .fasg (.var 0) 7 (.var 1),
  .fasg (.var 0) 4 (.fr (.comp (.nm 3) (.val (.var 2)) [] (.fr (.listOf (.var 3)))))]⟩
/-- Seats.seats -/
def mp_48 : Fn := ⟨1, 1, [.ret (.fld (.var 0) 7)]⟩
/-- Seats.rows -/
def mp_49 : Fn := ⟨2, 1, [.ret (.nw (.comp (.nm 1) (.val (.fld (.var 0) 4)) [] (.fr (.listOf (.var 1)))))]⟩
/-- Seats.worth_of -/
def mp_50 : Fn := ⟨2, 2, [.ret (.bi .len [.call .fz 46 [.fld (.var 0) 4, .var 1] []])]⟩
/-- Seats.sort_word -/
def mp_51 : Fn := ⟨1, 1, [.ret (.cst (.str "Seats"))]⟩
/-- Seats.made_of -/
def mp_52 : Fn := ⟨1, 1, [.ret (.nw (.disp [.fld (.var 0) 7, .meth .fz 13 (.var 0) [] []]))]⟩
/-- Seats.__repr__ -/
def mp_53 : Fn := ⟨1, 1, [.ret (.js [.cst (.str "Seats("), .fm (.fld (.var 0) 7), .cst (.str ", "), .fm (.fld (.var 0) 4), .cst (.str ")")])]⟩
/-- sitting -/
def mp_54 : Fn := ⟨4, 2, [.expr (.call .fz 18 [.var 0, .var 1] []),
  .raise]⟩
/-- adds -/
def mp_55 : Fn := ⟨3, 3, [.ret (.cmp .gt (.meth .fz 4 (.var 0) [.call .fz 2 [.var 1, .fr (.disp [.var 2])] []] []) (.meth .fz 4 (.var 0) [.var 1] []))]⟩
/-- carries -/
def mp_56 : Fn := ⟨3, 3, [.expr (.call .fz 18 [.var 0, .var 1] []),
  .expr (.call .fz 19 [.var 0, .var 2] []),
  .ret (.not_ (.call .fz 55 [.var 0, .var 1, .var 2] []))]⟩
/-- fulfils -/
def mp_57 : Fn := ⟨2, 2, [.expr (.call .fz 18 [.var 0, .var 1] []),
  .ret (.cmp .eq (.meth .fz 4 (.var 0) [.var 1] []) (.meth .fz 5 (.var 0) [] []))]⟩
/-- is_idle -/
def mp_58 : Fn := ⟨2, 2, [.expr (.call .fz 19 [.var 0, .var 1] []),
  .ret (.not_ (.call .fz 55 [.var 0, .fr (.disp []), .var 1] []))]⟩
/-- is_free -/
def mp_59 : Fn := ⟨2, 2, [.expr (.call .fz 18 [.var 0, .var 1] []),
  .ret (.cmp .eq (.meth .fz 4 (.var 0) [.var 1] []) (.bi .len [.var 1]))]⟩
/-- carried -/
def mp_60 : Fn := ⟨3, 2, [.expr (.call .fz 18 [.var 0, .var 1] []),
  .ret (.nw (.comp (.nm 2) (.val (.meth .fz 2 (.var 0) [] [])) [.not_ (.call .fz 55 [.var 0, .var 1, .var 2] [])] (.var 2)))]⟩
/-- out_of -/
def mp_61 : Fn := ⟨2, 2, [.ret (.call .nw 4 [.meth .fz 2 (.var 0) [] [], .var 1] [])]⟩
/-- is_ring -/
def mp_62 : Fn := ⟨4, 2, [.expr (.call .fz 18 [.var 0, .var 1] []),
  .asg (.nm 2) (.bin .sub (.bi .len [.var 1]) (.cst (.int 1))),
  .iff (.or_ (.cmp .eq (.var 1) (.fr (.disp []))) (.cmp .ne (.meth .fz 4 (.var 0) [.var 1] []) (.var 2))) [.ret (.cst (.bl false))] [],
  .ret (.bi .all [.fr (.comp (.nm 3) (.val (.var 1)) [] (.cmp .eq (.meth .fz 4 (.var 0) [.call .fz 4 [.var 1, .fr (.disp [.var 3])] []] []) (.var 2)))])]⟩
/-- is_fence -/
def mp_63 : Fn := ⟨2, 2, [.expr (.call .fz 18 [.var 0, .var 1] []),
  .ret (.cmp .lt (.meth .fz 4 (.var 0) [.call .fz 61 [.var 0, .var 1] []] []) (.meth .fz 5 (.var 0) [] []))]⟩
/-- is_least_fence -/
def mp_64 : Fn := ⟨4, 2, [.iff (.not_ (.call .fz 63 [.var 0, .var 1] [])) [.ret (.cst (.bl false))] [],
  .asg (.nm 2) (.call .fz 61 [.var 0, .var 1] []),
  .ret (.bi .all [.fr (.comp (.nm 3) (.val (.var 1)) [] (.cmp .eq (.meth .fz 4 (.var 0) [.call .fz 2 [.var 2, .fr (.disp [.var 3])] []] []) (.meth .fz 5 (.var 0) [] [])))])]⟩
/-- want_other -/
def mp_65 : Fn := ⟨3, 3, [.expr (.call .fz 18 [.var 0, .var 1] []),
  .expr (.call .fz 19 [.var 0, .var 2] []),
  .iff (.cmp .in_ (.var 2) (.var 1)) [.rai 2] []]⟩
/-- least_carrying -/
def mp_66 : Fn := ⟨6, 3, [.asg (.nm 3) (.var 1),
  .for_ (.nm 4) (.val (.var 1)) [.asg (.nm 5) (.call .fz 4 [.var 3, .fr (.disp [.var 4])] []),
  .iff (.not_ (.call .fz 55 [.var 0, .var 5, .var 2] [])) [.asg (.nm 3) (.var 5)] []],
  .ret (.var 3)]⟩
/-- ring_with -/
def mp_67 : Fn := ⟨3, 3, [.expr (.call .fz 65 [.var 0, .var 1, .var 2] []),
  .iff (.call .fz 55 [.var 0, .var 1, .var 2] []) [.ret (.cst (.non))] [],
  .ret (.call .fz 2 [.call .fz 66 [.var 0, .var 1, .var 2] [], .fr (.disp [.var 2])] [])]⟩
/-- most_not_carrying -/
def mp_68 : Fn := ⟨6, 3, [.asg (.nm 3) (.var 1),
  .for_ (.nm 4) (.val (.call .fz 61 [.var 0, .call .fz 2 [.var 1, .fr (.disp [.var 2])] []] [])) [.asg (.nm 5) (.call .fz 2 [.var 3, .fr (.disp [.var 4])] []),
  .iff (.call .fz 55 [.var 0, .var 5, .var 2] []) [.asg (.nm 3) (.var 5)] []],
  .ret (.var 3)]⟩
/-- fence_with -/
def mp_69 : Fn := ⟨3, 3, [.expr (.call .fz 65 [.var 0, .var 1, .var 2] []),
  .iff (.not_ (.call .fz 55 [.var 0, .var 1, .var 2] [])) [.ret (.cst (.non))] [],
  .ret (.call .fz 61 [.var 0, .call .fz 68 [.var 0, .var 1, .var 2] []] [])]⟩
/-- is_least -/
def mp_70 : Fn := ⟨2, 2, [.expr (.call .fz 18 [.var 0, .var 1] []),
  .ret (.and_ (.cmp .eq (.bi .len [.var 1]) (.meth .fz 5 (.var 0) [] [])) (.cmp .eq (.meth .fz 4 (.var 0) [.var 1] []) (.meth .fz 5 (.var 0) [] [])))]⟩
/-- want_order -/
def mp_71 : Fn := ⟨2, 2, [.iff (.or_ (.not_ (.call .fz 1 [.var 1, .meth .fz 1 (.var 0) [] []] [])) (.cmp .ne (.bi .len [.var 1]) (.meth .fz 1 (.var 0) [] []))) [.rai 3] []]⟩
/-- first_least -/
def mp_72 : Fn := ⟨4, 2, [.expr (.call .fz 71 [.var 0, .var 1] []),
  .asg (.nm 2) (.fr (.disp [])),
  .for_ (.nm 3) (.val (.var 1)) [.iff (.call .fz 55 [.var 0, .var 2, .var 3] []) [.asg (.nm 2) (.call .fz 2 [.var 2, .fr (.disp [.var 3])] [])] []],
  .ret (.var 2)]⟩
/-- want_least -/
def mp_73 : Fn := ⟨2, 2, [.iff (.or_ (.not_ (.call .fz 1 [.var 1, .meth .fz 1 (.var 0) [] []] [])) (.not_ (.call .fz 70 [.var 0, .var 1] []))) [.rai 4] []]⟩
/-- exchanged -/
def mp_74 : Fn := ⟨3, 3, [.ret (.call .nw 2 [.call .fz 4 [.var 0, .fr (.disp [.var 1])] [], .fr (.disp [.var 2])] [])]⟩
/-- exchange -/
def mp_75 : Fn := ⟨5, 4, [.expr (.call .fz 73 [.var 0, .var 1] []),
  .expr (.call .fz 73 [.var 0, .var 2] []),
  .iff (.or_ (.not_ (.call .fz 0 [.var 3, .meth .fz 1 (.var 0) [] []] [])) (.cmp .nin (.var 3) (.call .fz 4 [.var 1, .var 2] []))) [.raise] [],
  .for_ (.nm 4) (.val (.call .fz 4 [.var 2, .var 1] [])) [.iff (.and_ (.call .fz 70 [.var 0, .call .fz 74 [.var 1, .var 3, .var 4] []] []) (.call .fz 70 [.var 0, .call .fz 74 [.var 2, .var 4, .var 3] []] [])) [.ret (.var 4)] []],
  .ret (.cst (.non))]⟩
/-- all_least -/
def mp_76 : Fn := ⟨3, 2, [.ret (.nw (.comp (.nm 2) (.val (.call .fz 5 [.meth .fz 1 (.var 0) [] [], .var 1] [])) [.call .fz 70 [.var 0, .var 2] []] (.var 2)))]⟩
/-- Asked.__init__ -/
def mp_77 : Fn := ⟨2, 2, [.expr (.call .fz 16 [.var 1] []),
  .fasg (.var 0) 8 (.var 1),
  .fasg (.var 0) 9 .dnw]⟩
/-- Asked.sort_word -/
def mp_78 : Fn := ⟨1, 1, [.ret (.cst (.str "Asked"))]⟩
/-- Asked.says -/
def mp_79 : Fn := ⟨2, 2, [.ret (.cst (.bl false))]⟩
/-- Asked.anew -/
def mp_80 : Fn := ⟨1, 1, [.ret (.mk .fz 5 [.fld (.var 0) 8] [])]⟩
/-- Asked.yard -/
def mp_81 : Fn := ⟨1, 1, [.ret (.fld (.var 0) 8)]⟩
/-- Asked.ask -/
def mp_82 : Fn := ⟨2, 2, [.expr (.call .fz 19 [.fld (.var 0) 8, .var 1] []),
  .iff (.cmp .nin (.var 1) (.fld (.var 0) 9)) [.asg (.ix (.fld (.var 0) 9) (.var 1)) (.meth .fz 17 (.var 0) [.var 1] [])] [],
  .ret (.idx (.fld (.var 0) 9) (.var 1))]⟩
/-- Asked.play -/
def mp_83 : Fn := ⟨4, 2, [.asg (.nm 2) (.fr (.listOf (.var 1))),
  .for_ (.nm 3) (.val (.var 2)) [.expr (.call .fz 19 [.fld (.var 0) 8, .var 3] [])],
  .ret (.nw (.comp (.nm 3) (.val (.var 2)) [] (.meth .fz 20 (.var 0) [.var 3] [])))]⟩
/-- Asked.told -/
def mp_84 : Fn := ⟨2, 2, [.expr (.call .fz 19 [.fld (.var 0) 8, .var 1] []),
  .raise]⟩
/-- Asked.yes -/
def mp_85 : Fn := ⟨3, 1, [.raise]⟩
/-- Asked.no -/
def mp_86 : Fn := ⟨3, 1, [.raise]⟩
/-- Asked.unasked -/
def mp_87 : Fn := ⟨2, 1, [.ret (.nw (.comp (.nm 1) (.val (.meth .fz 2 (.fld (.var 0) 8) [] [])) [.cmp .nin (.var 1) (.fld (.var 0) 9)] (.var 1)))]⟩
/-- Asked.asked -/
def mp_88 : Fn := ⟨1, 1, [.ret (.nw (.listOf (.fld (.var 0) 9)))]⟩
/-- Asked.answers -/
def mp_89 : Fn := ⟨1, 1, [.raise]⟩
/-- Asked.back -/
def mp_90 : Fn := ⟨2, 1, [.iff (.cmp .eq (.fld (.var 0) 9) .dnw) [.raise] [],
  .asg (.nm 1) (.idx (.fr (.listOf (.fld (.var 0) 9))) (.neg (.cst (.int 1)))),
  .raise,
  .ret (.var 1)]⟩
/-- Asked.copied -/
def mp_91 : Fn := ⟨2, 1, [.asg (.nm 1) (.meth .fz 18 (.var 0) [] []),
  .raise,
  .ret (.var 1)]⟩
/-- Asked.__eq__ -/
def mp_92 : Fn := ⟨2, 2, [.iff (.or_ (.not_ (.isi (.var 1) [.own 5])) (.cmp .ne (.meth .fz 6 (.var 0) [] []) (.meth .fz 6 (.var 1) [] []))) [.ret (.cst (.bl false))] [],
  .ret (.and_ (.cmp .eq (.fld (.var 0) 8) (.fld (.var 1) 8)) (.cmp .eq (.fr (.listOf (.fld (.var 0) 9))) (.fr (.listOf (.fld (.var 1) 9)))))]⟩
/-- Asked.__len__ -/
def mp_93 : Fn := ⟨1, 1, [.ret (.bi .len [.fld (.var 0) 9])]⟩
/-- Box.sort_word -/
def mp_94 : Fn := ⟨1, 1, [.ret (.cst (.str "Box"))]⟩
/-- Box.anew -/
def mp_95 : Fn := ⟨1, 1, [.ret (.mk .fz 6 [.fld (.var 0) 8] [])]⟩
/-- Box.says -/
def mp_96 : Fn := ⟨4, 2, [.asg (.nm 2) (.fr (.comp (.nm 3) (.val (.bin .add (.meth .fz 23 (.var 0) [] []) (.meth .fz 25 (.var 0) [] []))) [.cmp .ne (.var 3) (.var 1)] (.var 3))),
  .ret (.cmp .lt (.meth .fz 4 (.fld (.var 0) 8) [.var 2] []) (.meth .fz 5 (.fld (.var 0) 8) [] []))]⟩
/-- told_no -/
def mp_97 : Fn := ⟨3, 1, [.ret (.nw (.comp (.tp [(.nm 1), (.nm 2)]) (.val (.var 0)) [.not_ (.var 2)] (.var 1)))]⟩
/-- paper_of -/
def mp_98 : Fn := ⟨5, 2, [.asg (.tp [(.nm 3), (.nm 4)]) (.idx (.var 1) (.neg (.cst (.int 1)))),
  .asg (.nm 2) (.call .fz 4 [.meth .fz 2 (.var 0) [] [], .call .fz 2 [.call .fz 97 [.var 1] [], .fr (.disp [.var 3])] []] []),
  .iff (.var 4) [.ret (.tup [.cst (.str "fence"), .call .fz 69 [.var 0, .var 2, .var 3] []])] [],
  .ret (.tup [.cst (.str "ring"), .call .fz 67 [.var 0, .var 2, .var 3] []])]⟩
/-- papers -/
def mp_99 : Fn := ⟨3, 1, [.asg (.nm 1) (.meth .fz 27 (.var 0) [] []),
  .ret (.nw (.comp (.nm 2) (.rng [.bi .len [.var 1]]) [] (.call .fz 98 [.meth .fz 19 (.var 0) [] [], .fr (.slc (.var 1) none (some (.bin .add (.var 2) (.cst (.int 1)))))] [])))]⟩
/-- paper -/
def mp_100 : Fn := ⟨4, 2, [.expr (.call .fz 19 [.meth .fz 19 (.var 0) [] [], .var 1] []),
  .iff (.cmp .is_ (.meth .fz 22 (.var 0) [.var 1] []) (.cst (.non))) [.raise] [],
  .asg (.nm 2) (.meth .fz 27 (.var 0) [] []),
  .asg (.nm 3) (.bm .index (.meth .fz 26 (.var 0) [] []) [.var 1]),
  .ret (.call .fz 98 [.meth .fz 19 (.var 0) [] [], .fr (.slc (.var 2) none (some (.bin .add (.var 3) (.cst (.int 1)))))] [])]⟩
/-- is_answer -/
def mp_101 : Fn := ⟨1, 1, [.ret (.and_ (.isi (.var 0) [.ty "tuple"]) (.and_ (.cmp .eq (.bi .len [.var 0]) (.cst (.int 2))) (.isi (.idx (.var 0) (.cst (.int 1))) [.ty "bool"])))]⟩
/-- want_told -/
def mp_102 : Fn := ⟨5, 2, [.iff (.or_ (.not_ (.isi (.var 1) [.ty "list"])) (.not_ (.bi .all [.fr (.comp (.nm 2) (.val (.var 1)) [] (.call .fz 101 [.var 2] []))]))) [.rai 5] [],
  .iff (.not_ (.call .fz 1 [.fr (.comp (.tp [(.nm 3), (.nm 4)]) (.val (.var 1)) [] (.var 3)), .meth .fz 1 (.var 0) [] []] [])) [.rai 5] []]⟩
/-- is_paper -/
def mp_103 : Fn := ⟨2, 2, [.iff (.or_ (.not_ (.isi (.var 1) [.ty "tuple"])) (.cmp .ne (.bi .len [.var 1]) (.cst (.int 2)))) [.ret (.cst (.bl false))] [],
  .ret (.and_ (.cmp .in_ (.idx (.var 1) (.cst (.int 0))) (.tup [.cst (.str "fence"), .cst (.str "ring")])) (.call .fz 1 [.idx (.var 1) (.cst (.int 1)), .meth .fz 1 (.var 0) [] []] []))]⟩
/-- holds -/
def mp_104 : Fn := ⟨10, 3, [.asg (.tp [(.nm 3), (.nm 4)]) (.idx (.var 1) (.neg (.cst (.int 1)))),
  .iff (.or_ (.not_ (.call .fz 103 [.var 0, .var 2] [])) (.cmp .nin (.var 3) (.idx (.var 2) (.cst (.int 1))))) [.ret (.cst (.bl false))] [],
  .asg (.tp [(.nm 5), (.nm 6)]) (.var 2),
  .mas [(.nm 7), (.nm 8)] [.call .fz 4 [.var 6, .fr (.disp [.var 3])] [], .call .fz 97 [.var 1] []],
  .iff (.cmp .eq (.var 5) (.cst (.str "fence"))) [.ret (.and_ (.var 4) (.and_ (.bi .all [.fr (.comp (.nm 9) (.val (.var 7)) [] (.cmp .in_ (.var 9) (.var 8)))]) (.call .fz 63 [.var 0, .var 6] [])))] [],
  .ret (.and_ (.not_ (.var 4)) (.and_ (.not_ (.bi .any [.fr (.comp (.nm 9) (.val (.var 7)) [] (.cmp .in_ (.var 9) (.var 8)))])) (.not_ (.call .fz 55 [.var 0, .var 7, .var 3] []))))]⟩
/-- is_right -/
def mp_105 : Fn := ⟨3, 3, [.expr (.call .fz 102 [.var 0, .var 1] []),
  .iff (.cmp .eq (.var 1) (.fr (.disp []))) [.rai 5] [],
  .ret (.call .fz 104 [.var 0, .var 1, .var 2] [])]⟩
/-- are_right -/
def mp_106 : Fn := ⟨5, 3, [.expr (.call .fz 102 [.var 0, .var 1] []),
  .iff (.or_ (.not_ (.isi (.var 2) [.ty "list"])) (.cmp .ne (.bi .len [.var 2]) (.bi .len [.var 1]))) [.ret (.cst (.bl false))] [],
  .ret (.bi .all [.fr (.comp (.tp [(.nm 3), (.nm 4)]) (.enu (.var 2)) [] (.call .fz 104 [.var 0, .fr (.slc (.var 1) none (some (.bin .add (.var 3) (.cst (.int 1))))), .var 4] []))])]⟩
/-- is_world -/
def mp_107 : Fn := ⟨2, 2, [.expr (.call .fz 18 [.meth .fz 19 (.var 0) [] [], .var 1] []),
  .ret (.and_ (.cmp .eq (.call .fz 4 [.meth .fz 23 (.var 0) [] [], .var 1] []) (.fr (.disp []))) (.cmp .eq (.call .fz 3 [.meth .fz 24 (.var 0) [] [], .var 1] []) (.fr (.disp []))))]⟩
/-- counting -/
def mp_108 : Fn := ⟨2, 1, [.ret (.nw (.comp (.nm 1) (.val (.meth .fz 25 (.var 0) [] [])) [.not_ (.call .fz 58 [.meth .fz 19 (.var 0) [] [], .var 1] [])] (.var 1)))]⟩
/-- is_open -/
def mp_109 : Fn := ⟨1, 1, [.ret (.cmp .ne (.call .fz 108 [.var 0] []) (.fr (.disp [])))]⟩
/-- two_worlds -/
def mp_110 : Fn := ⟨1, 1, [.iff (.not_ (.call .fz 109 [.var 0] [])) [.ret (.cst (.non))] [],
  .ret (.tup [.call .fz 2 [.meth .fz 23 (.var 0) [] [], .meth .fz 25 (.var 0) [] []] [], .meth .fz 23 (.var 0) [] []])]⟩
/-- many_worlds -/
def mp_111 : Fn := ⟨1, 1, [.ret (.bin .shl (.cst (.int 1)) (.bi .len [.meth .fz 25 (.var 0) [] []]))]⟩
/-- want_some_order -/
def mp_112 : Fn := ⟨1, 1, [.iff (.or_ (.not_ (.isi (.var 0) [.ty "list"])) (.or_ (.cmp .gt (.bi .len [.var 0]) (.cst (.int 24))) (.not_ (.call .fz 1 [.var 0, .bi .len [.var 0]] [])))) [.rai 3] []]⟩
/-- is_later -/
def mp_113 : Fn := ⟨4, 3, [.expr (.call .fz 112 [.var 0] []),
  .iff (.or_ (.not_ (.call .fz 1 [.var 1, .bi .len [.var 0]] [])) (.not_ (.call .fz 1 [.var 2, .bi .len [.var 0]] []))) [.rai 2] [],
  .raise,
  .ret (.cst (.bl false))]⟩
/-- last_least -/
def mp_114 : Fn := ⟨2, 2, [.expr (.call .fz 71 [.var 0, .var 1] []),
  .ret (.call .nw 72 [.var 0, .fr (.rev (.var 1))] [])]⟩
/-- order_for -/
def mp_115 : Fn := ⟨2, 2, [.expr (.call .fz 73 [.var 0, .var 1] []),
  .ret (.nw (.cat (.call .fz 4 [.meth .fz 2 (.var 0) [] [], .var 1] []) (.fr (.sorted (.var 1)))))]⟩
/-- Mirror.__init__ -/
def mp_116 : Fn := ⟨2, 2, [.expr (.call .fz 16 [.var 1] []),
  .expr (.call .fz 17 [.bin .add (.fld (.var 1) 1) (.cst (.int 1))] []),
  .expr (.call .fz 6 [.var 0, .meth .fz 1 (.var 1) [] [], .bin .add (.fld (.var 1) 1) (.cst (.int 1))] []),
  .fasg (.var 0) 10 (.var 1)]⟩
/-- Mirror.of -/
def mp_117 : Fn := ⟨1, 1, [.ret (.fld (.var 0) 10)]⟩
/-- Mirror.worth_of -/
def mp_118 : Fn := ⟨4, 2, [.asg (.nm 2) (.fr (.comp (.nm 3) (.val (.meth .fz 2 (.var 0) [] [])) [.cmp .nin (.var 3) (.var 1)] (.var 3))),
  .ret (.bin .sub (.bin .add (.bi .len [.var 1]) (.meth .fz 4 (.fld (.var 0) 10) [.var 2] [])) (.meth .fz 5 (.fld (.var 0) 10) [] []))]⟩
/-- Mirror.sort_word -/
def mp_119 : Fn := ⟨1, 1, [.ret (.cst (.str "Mirror"))]⟩
/-- Mirror.made_of -/
def mp_120 : Fn := ⟨1, 1, [.ret (.nw (.disp [.fld (.var 0) 10]))]⟩
/-- Mirror.__repr__ -/
def mp_121 : Fn := ⟨1, 1, [.raise]⟩
/-- Eager.sort_word -/
def mp_122 : Fn := ⟨1, 1, [.ret (.cst (.str "Eager"))]⟩
/-- Eager.anew -/
def mp_123 : Fn := ⟨1, 1, [.ret (.mk .fz 8 [.fld (.var 0) 8] [])]⟩
/-- Eager.says -/
def mp_124 : Fn := ⟨3, 2, [.asg (.nm 2) (.meth .fz 23 (.var 0) [] []),
  .ret (.cmp .gt (.meth .fz 4 (.fld (.var 0) 8) [.fr (.cat (.var 2) (.fr (.disp [.var 1])))] []) (.meth .fz 4 (.fld (.var 0) 8) [.var 2] []))]⟩
/-- heap_told -/
def mp_125 : Fn := ⟨3, 3, [.iff (.and_ (.cmp .ne (.var 0) (.tup [])) (.not_ (.call .fz 1 [.var 0, .var 1] []))) [.raise] [],
  .ret (.nw (.sorted (.var 0)))]⟩
/-- Part.__init__ -/
def mp_126 : Fn := ⟨4, 4, [.expr (.call .fz 16 [.var 1] []),
  .fasg (.var 0) 10 (.var 1),
  .fasg (.var 0) 11 (.call .fz 125 [.var 2, .bi .len [.var 1], .cst (.str "away")] []),
  .fasg (.var 0) 12 (.call .fz 125 [.var 3, .bi .len [.var 1], .cst (.str "granted")] []),
  .iff (.cmp .ne (.call .fz 3 [.fld (.var 0) 11, .fld (.var 0) 12] []) (.fr (.disp []))) [.raise] [],
  .expr (.call .fz 17 [.bin .add (.fld (.var 1) 1) (.cst (.int 1))] []),
  .fasg (.var 0) 13 (.call .fz 4 [.call .fz 4 [.meth .fz 2 (.var 1) [] [], .fld (.var 0) 11] [], .fld (.var 0) 12] []),
  .expr (.call .fz 6 [.var 0, .bi .len [.fld (.var 0) 13], .bin .add (.fld (.var 1) 1) (.cst (.int 1))] [])]⟩
/-- Part.sort_word -/
def mp_127 : Fn := ⟨1, 1, [.ret (.cst (.str "Part"))]⟩
/-- Part.made_of -/
def mp_128 : Fn := ⟨1, 1, [.ret (.nw (.disp [.fld (.var 0) 10, .fld (.var 0) 11, .fld (.var 0) 12]))]⟩
/-- Part.worth_of -/
def mp_129 : Fn := ⟨4, 2, [.asg (.nm 2) (.fr (.comp (.nm 3) (.val (.var 1)) [] (.idx (.fld (.var 0) 13) (.var 3)))),
  .ret (.bin .sub (.meth .fz 4 (.fld (.var 0) 10) [.bin .add (.var 2) (.fld (.var 0) 12)] []) (.meth .fz 4 (.fld (.var 0) 10) [.fld (.var 0) 12] []))]⟩
/-- Part.of -/
def mp_130 : Fn := ⟨1, 1, [.ret (.fld (.var 0) 10)]⟩
/-- Part.away -/
def mp_131 : Fn := ⟨1, 1, [.ret (.nw (.listOf (.fld (.var 0) 11)))]⟩
/-- Part.granted -/
def mp_132 : Fn := ⟨1, 1, [.ret (.nw (.listOf (.fld (.var 0) 12)))]⟩
/-- Part.old -/
def mp_133 : Fn := ⟨2, 2, [.expr (.call .fz 19 [.var 0, .var 1] []),
  .ret (.idx (.fld (.var 0) 13) (.var 1))]⟩
/-- Part.new -/
def mp_134 : Fn := ⟨2, 2, [.expr (.call .fz 19 [.fld (.var 0) 10, .var 1] []),
  .iff (.cmp .nin (.var 1) (.fld (.var 0) 13)) [.ret (.cst (.non))] [],
  .ret (.bm .index (.fld (.var 0) 13) [.var 1])]⟩
/-- Part.__repr__ -/
def mp_135 : Fn := ⟨1, 1, [.raise]⟩
/-- want_side -/
def mp_136 : Fn := ⟨2, 2, [.iff (.not_ (.isi (.var 0) [.own 0])) [.raise] []]⟩
/-- Beside.__init__ -/
def mp_137 : Fn := ⟨4, 3, [.expr (.call .fz 136 [.var 1, .cst (.str "one")] []),
  .expr (.call .fz 136 [.var 2, .cst (.str "other")] []),
  .iff (.cmp .gt (.bin .add (.bi .len [.var 1]) (.bi .len [.var 2])) (.cst (.int 24))) [.raise] [],
  .asg (.nm 3) (.bin .add (.cst (.int 1)) (.bi .max2 [.fld (.var 1) 1, .fld (.var 2) 1])),
  .expr (.call .fz 17 [.var 3] []),
  .fasg (.var 0) 14 (.var 1),
  .fasg (.var 0) 15 (.var 2),
  .expr (.call .fz 6 [.var 0, .bin .add (.bi .len [.var 1]) (.bi .len [.var 2]), .var 3] [])]⟩
/-- Beside.sort_word -/
def mp_138 : Fn := ⟨1, 1, [.ret (.cst (.str "Beside"))]⟩
/-- Beside.made_of -/
def mp_139 : Fn := ⟨1, 1, [.ret (.nw (.disp [.fld (.var 0) 14, .fld (.var 0) 15]))]⟩
/-- Beside.worth_of -/
def mp_140 : Fn := ⟨6, 2, [.asg (.nm 2) (.bi .len [.fld (.var 0) 14]),
  .asg (.nm 3) (.fr (.comp (.nm 5) (.val (.var 1)) [.cmp .lt (.var 5) (.var 2)] (.var 5))),
  .asg (.nm 4) (.fr (.comp (.nm 5) (.val (.var 1)) [.cmp .ge (.var 5) (.var 2)] (.bin .sub (.var 5) (.var 2)))),
  .ret (.bin .add (.meth .fz 4 (.fld (.var 0) 14) [.var 3] []) (.meth .fz 4 (.fld (.var 0) 15) [.var 4] []))]⟩
/-- Beside.one -/
def mp_141 : Fn := ⟨1, 1, [.ret (.fld (.var 0) 14)]⟩
/-- Beside.other -/
def mp_142 : Fn := ⟨1, 1, [.ret (.fld (.var 0) 15)]⟩
/-- Beside.__repr__ -/
def mp_143 : Fn := ⟨1, 1, [.raise]⟩
/-- rest_of -/
def mp_144 : Fn := ⟨1, 1, [.raise]⟩
/-- is_name -/
def mp_145 : Fn := ⟨2, 1, [.iff (.or_ (.not_ (.isi (.var 0) [.ty "str"])) (.not_ (.cmp2 .le .le (.cst (.int 1)) (.bi .len [.var 0]) (.cst (.int 8))))) [.ret (.cst (.bl false))] [],
  .ret (.bi .all [.fr (.comp (.nm 1) (.val (.var 0)) [] (.cmp .in_ (.var 1) (.cst (.str "abcdefghijklmnopqrstuvwxyz"))))])]⟩
/-- Hall.__init__ -/
def mp_146 : Fn := ⟨2, 2, [.fasg (.var 0) 16 (.mk .fz 6 [.var 1] []),
  .fasg (.var 0) 17 (.fr (.disp []))]⟩
/-- Hall.yard -/
def mp_147 : Fn := ⟨1, 1, [.ret (.meth .fz 19 (.fld (.var 0) 16) [] [])]⟩
/-- Hall.hear -/
def mp_148 : Fn := ⟨4, 3, [.iff (.not_ (.call .fz 145 [.var 1] [])) [.raise] [],
  .expr (.call .fz 19 [.meth .fz 19 (.var 0) [] [], .var 2] []),
  .asg (.nm 3) (.cmp .is_ (.meth .fz 22 (.fld (.var 0) 16) [.var 2] []) (.cst (.non))),
  .expr (.bm .append (.fld (.var 0) 17) [.tup [.var 1, .var 2, .var 3]]),
  .ret (.meth .fz 20 (.fld (.var 0) 16) [.var 2] [])]⟩
/-- Hall.askers -/
def mp_149 : Fn := ⟨4, 1, [.raise]⟩
/-- Hall.heard -/
def mp_150 : Fn := ⟨6, 2, [.iff (.cmp .nin (.var 1) (.meth .fz 38 (.var 0) [] [])) [.raise] [],
  .raise,
  .ret (.nw (.comp (.nm 3) (.val (.var 2)) [] (.tup [.var 3, .meth .fz 22 (.fld (.var 0) 16) [.var 3] []])))]⟩
/-- Hall.is_open_to -/
def mp_151 : Fn := ⟨4, 2, [.ret (.not_ (.call .fz 57 [.meth .fz 19 (.var 0) [] [], .fr (.comp (.tp [(.nm 2), (.nm 3)]) (.val (.meth .fz 39 (.var 0) [.var 1] [])) [.var 3] (.var 2))] []))]⟩
/-- Hall.back -/
def mp_152 : Fn := ⟨4, 1, [.iff (.cmp .eq (.fld (.var 0) 17) (.fr (.disp []))) [.raise] [],
  .asg (.tp [(.nm 1), (.nm 2), (.nm 3)]) (.bm .pop (.fld (.var 0) 17) []),
  .iff (.var 3) [.expr (.meth .fz 28 (.fld (.var 0) 16) [] [])] [],
  .ret (.tup [.var 1, .var 2])]⟩
/-- Hall.box -/
def mp_153 : Fn := ⟨1, 1, [.ret (.meth .fz 29 (.fld (.var 0) 16) [] [])]⟩
/-- Hall.__len__ -/
def mp_154 : Fn := ⟨1, 1, [.ret (.bi .len [.fld (.var 0) 17])]⟩
/-- numbers_text -/
def mp_155 : Fn := ⟨2, 1, [.raise]⟩
/-- yard_rows -/
def mp_156 : Fn := ⟨5, 1, [.iff (.isi (.var 0) [.own 1]) [.ret (.fr (.cat (.fr (.disp [.js [.cst (.str "ties "), .fm (.meth .fz 10 (.var 0) [] [])]])) (.fr (.comp (.nm 1) (.val (.meth .fz 11 (.var 0) [] [])) [] (.call .fz 155 [.var 1] [])))))] [],
  .iff (.isi (.var 0) [.own 2]) [.raise] [],
  .iff (.isi (.var 0) [.own 3]) [.raise] [],
  .iff (.isi (.var 0) [.own 4]) [.ret (.fr (.cat (.fr (.disp [.js [.cst (.str "seats "), .fm (.meth .fz 16 (.var 0) [] [])]])) (.fr (.comp (.nm 2) (.val (.meth .fz 13 (.var 0) [] [])) [] (.ife (.cmp .ne (.var 2) (.fr (.disp []))) (.call .fz 155 [.var 2] []) (.cst (.str "-")))))))] [],
  .raise]⟩
/-- yard_text -/
def mp_157 : Fn := ⟨2, 1, [.raise]⟩
/-- number_in -/
def mp_158 : Fn := ⟨3, 2, [.iff (.or_ (.cmp .eq (.var 0) (.cst (.str ""))) (.or_ (.cmp .gt (.bi .len [.var 0]) (.cst (.int 4))) (.not_ (.bi .all [.fr (.comp (.nm 2) (.val (.var 0)) [] (.cmp .in_ (.var 2) (.cst (.str "0123456789"))))])))) [.ret (.cst (.non))] [],
  .iff (.or_ (.and_ (.cmp .eq (.idx (.var 0) (.cst (.int 0))) (.cst (.str "0"))) (.cmp .ne (.var 0) (.cst (.str "0")))) (.cmp .ge (.bi .int [.var 0]) (.var 1))) [.ret (.cst (.non))] [],
  .ret (.bi .int [.var 0])]⟩
/-- head_in -/
def mp_159 : Fn := ⟨6, 1, [.raise,
  .iff (.and_ (.cmp .eq (.var 3) (.cst (.str "rows"))) (.cmp .eq (.var 4) (.fr (.disp [])))) [.ret (.tup [.var 3, .cst (.int 4096)])] [],
  .raise,
  .asg (.nm 2) (.fr (.comp (.nm 5) (.val (.var 4)) [] (.call .fz 158 [.var 5, .bin .add (.var 1) (.cst (.int 1))] []))),
  .iff (.or_ (.cmp .eq (.var 1) (.cst (.int 0))) (.cmp .in_ (.cst (.non)) (.var 2))) [.ret (.cst (.non))] [],
  .iff (.cmp .eq (.var 3) (.cst (.str "lots"))) [.ret (.ife (.cmp .le (.bi .len [.var 2]) (.cst (.int 8))) (.tup [.var 3, .var 2]) (.cst (.non)))] [],
  .iff (.or_ (.cmp .ne (.bi .len [.var 2]) (.cst (.int 1))) (.and_ (.cmp .eq (.var 3) (.cst (.str "ties"))) (.cmp .eq (.var 2) (.fr (.disp [.cst (.int 0)]))))) [.ret (.cst (.non))] [],
  .ret (.tup [.var 3, .idx (.var 2) (.cst (.int 0))])]⟩
/-- thing_in -/
def mp_160 : Fn := ⟨5, 3, [.iff (.and_ (.cmp .eq (.var 0) (.cst (.str "seats"))) (.cmp .eq (.var 2) (.cst (.str "-")))) [.ret (.fr (.disp []))] [],
  .raise,
  .iff (.cmp .in_ (.cst (.non)) (.var 3)) [.ret (.cst (.non))] [],
  .iff (.cmp .eq (.var 0) (.cst (.str "seats"))) [.ret (.ife (.cmp .eq (.bi .lenset [.var 3]) (.bi .len [.var 3])) (.var 3) (.cst (.non)))] [],
  .iff (.cmp .eq (.var 0) (.cst (.str "ties"))) [.raise] [],
  .ret (.ife (.cmp .eq (.bi .len [.var 3]) (.cst (.int 1))) (.idx (.var 3) (.cst (.int 0))) (.cst (.non)))]⟩
/-- yard_made -/
def mp_161 : Fn := ⟨3, 3, [.iff (.cmp .eq (.var 0) (.cst (.str "ties"))) [.ret (.mk .fz 1 [.var 1, .var 2] [])] [],
  .iff (.cmp .eq (.var 0) (.cst (.str "rows"))) [.ret (.mk .fz 2 [.var 2] [])] [],
  .iff (.cmp .eq (.var 0) (.cst (.str "lots"))) [.ret (.mk .fz 3 [.var 1, .var 2] [])] [],
  .ret (.mk .fz 4 [.var 1, .var 2] [])]⟩
/-- want_last -/
def mp_162 : Fn := ⟨2, 2, [.iff (.cmp .ne (.var 1) (.cst (.str ""))) [.raise] []]⟩
/-- read_yard -/
def mp_163 : Fn := ⟨10, 1, [.iff (.or_ (.not_ (.isi (.var 0) [.ty "str"])) (.cmp .eq (.var 0) (.cst (.str "")))) [.raise] [],
  .raise,
  .asg (.nm 1) (.ife (.cmp .ne (.var 9) (.fr (.disp []))) (.call .fz 159 [.idx (.var 9) (.cst (.int 0))] []) (.cst (.non))),
  .iff (.cmp .is_ (.var 1) (.cst (.non))) [.raise] [],
  .asg (.tp [(.nm 4), (.nm 5)]) (.var 1),
  .asg (.nm 2) (.nw (.disp [])),
  .raise,
  .expr (.call .fz 162 [.var 9, .var 3] []),
  .ret (.call .fz 161 [.var 4, .var 5, .var 2] [])]⟩
/-- history -/
def mp_164 : Fn := ⟨3, 1, [.raise]⟩
/-- is_answer_of -/
def mp_165 : Fn := ⟨4, 2, [.raise,
  .raise,
  .asg (.nm 3) (.call .fz 158 [.idx (.var 2) (.cst (.int 0)), .bi .len [.meth .fz 19 (.var 0) [] []]] []),
  .iff (.or_ (.cmp .is_ (.var 3) (.cst (.non))) (.cmp .isn (.meth .fz 22 (.var 0) [.var 3] []) (.cst (.non)))) [.ret (.cst (.bl false))] [],
  .raise]⟩
/-- read_history -/
def mp_166 : Fn := ⟨8, 3, [.iff (.not_ (.isi (.var 1) [.ty "str"])) [.raise] [],
  .raise,
  .asg (.nm 3) (.ife (.var 2) (.mk .fz 8 [.var 0] []) (.mk .fz 6 [.var 0] [])),
  .raise,
  .expr (.call .fz 162 [.var 7, .var 4] []),
  .ret (.var 3)]⟩
/-- want_row -/
def mp_167 : Fn := ⟨1, 1, [.iff (.not_ (.var 0)) [.rai 7] []]⟩
/-- is_name_desk -/
def mp_168 : Fn := ⟨2, 1, [.ret (.and_ (.cmp2 .le .le (.cst (.int 1)) (.bi .len [.var 0]) (.cst (.int 8))) (.bi .all [.fr (.comp (.nm 1) (.val (.var 0)) [] (.cmp .in_ (.var 1) (.cst (.str "abcdefghijklmnopqrstuvwxyz"))))]))]⟩
/-- is_figures -/
def mp_169 : Fn := ⟨2, 1, [.iff (.or_ (.cmp .eq (.var 0) (.cst (.str ""))) (.not_ (.bi .all [.fr (.comp (.nm 1) (.val (.var 0)) [] (.cmp .in_ (.var 1) (.cst (.str "0123456789"))))]))) [.ret (.cst (.bl false))] [],
  .ret (.or_ (.cmp .eq (.var 0) (.cst (.str "0"))) (.cmp .ne (.idx (.var 0) (.cst (.int 0))) (.cst (.str "0"))))]⟩
/-- numbers_of -/
def mp_170 : Fn := ⟨2, 1, [.expr (.call .fz 167 [.bi .all [.fr (.comp (.nm 1) (.val (.var 0)) [] (.call .fz 169 [.var 1] []))]] []),
  .ret (.fr (.comp (.nm 1) (.val (.var 0)) [] (.bi .int [.var 1])))]⟩
/-- is_so_many -/
def mp_171 : Fn := ⟨2, 2, [.raise,
  .raise,
  .raise]⟩
/-- told_words -/
def mp_172 : Fn := ⟨2, 1, [.raise]⟩
/-- answer_word -/
def mp_173 : Fn := ⟨1, 1, [.ret (.ife (.var 0) (.cst (.str "yes")) (.cst (.str "no")))]⟩
/-- Desk.__init__ -/
def mp_174 : Fn := ⟨1, 1, [.fasg (.var 0) 18 .dnw,
  .fasg (.var 0) 19 .dnw,
  .fasg (.var 0) 20 (.cst (.int 0)),
  .fasg (.var 0) 21 (.fr (.disp []))]⟩
/-- Desk.say -/
def mp_175 : Fn := ⟨7, 2, [.expr (.call .fz 167 [.isi (.var 1) [.ty "str"]] []),
  .raise,
  .raise,
  .iff (.cmp .eq (.idx (.var 2) (.cst (.int 0))) (.cst (.str "yard"))) [.asg (.nm 6) (.meth .fz 45 (.var 0) [.var 2, .var 4, .var 5] [])] [.iff (.cmp .eq (.idx (.var 2) (.cst (.int 0))) (.cst (.str "part"))) [.expr (.call .fz 167 [.cmp .eq (.var 4) (.cst (.str ""))] []),
  .asg (.nm 6) (.meth .fz 46 (.var 0) [.var 2] [])] [.raise,
  .asg (.nm 6) (.meth .fz 47 (.var 0) [.var 2] [])]],
  .raise,
  .ret (.var 6)]⟩
/-- Desk.play -/
def mp_176 : Fn := ⟨4, 2, [.expr (.bm .append (.fld (.var 0) 21) [.tup [.cst (.str "begin"), .fld (.var 0) 20]]),
  .raise,
  .ret (.var 2)]⟩
/-- Desk.log -/
def mp_177 : Fn := ⟨1, 1, [.ret (.fr (.listOf (.fld (.var 0) 21)))]⟩
/-- Desk.want_kept -/
def mp_178 : Fn := ⟨3, 3, [.iff (.and_ (.cmp .eq (.var 1) (.cst (.str "Y"))) (.cmp .nin (.var 2) (.fld (.var 0) 18))) [.raise] [],
  .iff (.and_ (.cmp .in_ (.var 1) (.cst (.str "BC"))) (.cmp .nin (.var 2) (.fld (.var 0) 19))) [.raise] [],
  .iff (.and_ (.cmp .eq (.var 1) (.cst (.str "C"))) (.not_ (.isi (.idx (.fld (.var 0) 19) (.var 2)) [.own 6]))) [.raise] []]⟩
/-- Desk.new_yard -/
def mp_179 : Fn := ⟨4, 4, [.expr (.call .fz 167 [.and_ (.cmp .eq (.bi .len [.var 1]) (.cst (.int 2))) (.and_ (.call .fz 145 [.idx (.var 1) (.cst (.int 1))] []) (.cmp .ne (.var 2) (.cst (.str ""))))] []),
  .asg (.ix (.fld (.var 0) 18) (.idx (.var 1) (.cst (.int 1)))) (.call .fz 163 [.var 3] []),
  .ret (.cst (.str "ok"))]⟩
/-- Desk.new_part -/
def mp_180 : Fn := ⟨5, 2, [.expr (.call .fz 167 [.and_ (.cmp .gt (.bi .len [.var 1]) (.cst (.int 4))) (.and_ (.call .fz 145 [.idx (.var 1) (.cst (.int 1))] []) (.and_ (.call .fz 145 [.idx (.var 1) (.cst (.int 2))] []) (.cmp .eq (.idx (.var 1) (.cst (.int 3))) (.cst (.str "away")))))] []),
  .expr (.call .fz 167 [.cmp .in_ (.cst (.str "granted")) (.fr (.slc (.var 1) (some (.cst (.int 4))) none))] []),
  .asg (.nm 2) (.bm .index (.var 1) [.cst (.str "granted"), .cst (.int 4)]),
  .mas [(.nm 3), (.nm 4)] [.call .fz 170 [.fr (.slc (.var 1) (some (.cst (.int 4))) (some (.var 2)))] [], .call .fz 170 [.fr (.slc (.var 1) (some (.bin .add (.var 2) (.cst (.int 1)))) none)] []],
  .expr (.meth .fz 44 (.var 0) [.cst (.str "Y"), .idx (.var 1) (.cst (.int 2))] []),
  .raise,
  .ret (.cst (.str "ok"))]⟩
/-- Desk.told_row -/
def mp_181 : Fn := ⟨9, 2, [.raise,
  .asg (.nm 3) (.bi .len [.fr (.comp (.nm 7) (.val (.var 2)) [.cmp .in_ (.var 7) (.cst (.str "NYBC"))] (.var 7))]),
  .asg (.nm 4) (.fr (.slc (.var 1) (some (.cst (.int 1))) (some (.bin .add (.cst (.int 1)) (.var 3))))),
  .expr (.call .fz 167 [.and_ (.cmp .eq (.bi .len [.var 4]) (.var 3)) (.bi .all [.fr (.comp (.nm 8) (.val (.var 4)) [] (.call .fz 145 [.var 8] []))])] []),
  .asg (.nm 5) (.call .fz 170 [.fr (.slc (.var 1) (some (.bin .add (.cst (.int 1)) (.var 3))) none)] []),
  .expr (.call .fz 167 [.call .fz 171 [.var 2, .bi .len [.var 5]] []] []),
  .for_ (.tp [(.nm 7), (.nm 8)]) (.zip (.var 2) (.var 4)) [.expr (.meth .fz 44 (.var 0) [.var 7, .var 8] [])],
  .raise,
  .raise]⟩
/-- mirror_row -/
def mp_182 : Fn := ⟨3, 3, [.asg (.ix (.fld (.var 0) 18) (.idx (.var 1) (.cst (.int 0)))) (.mk .fz 7 [.idx (.fld (.var 0) 18) (.idx (.var 1) (.cst (.int 1)))] []),
  .ret (.cst (.str "ok"))]⟩
/-- beside_row -/
def mp_183 : Fn := ⟨3, 3, [.asg (.ix (.fld (.var 0) 18) (.idx (.var 1) (.cst (.int 0)))) (.mk .fz 10 [.idx (.fld (.var 0) 18) (.idx (.var 1) (.cst (.int 1))), .idx (.fld (.var 0) 18) (.idx (.var 1) (.cst (.int 2)))] []),
  .ret (.cst (.str "ok"))]⟩
/-- show_row -/
def mp_184 : Fn := ⟨3, 3, [.ret (.call .fz 157 [.idx (.fld (.var 0) 18) (.idx (.var 1) (.cst (.int 0)))] [])]⟩
/-- worth_row -/
def mp_185 : Fn := ⟨3, 3, [.raise]⟩
/-- box_row -/
def mp_186 : Fn := ⟨3, 3, [.asg (.ix (.fld (.var 0) 19) (.idx (.var 1) (.cst (.int 0)))) (.mk .fz 6 [.idx (.fld (.var 0) 18) (.idx (.var 1) (.cst (.int 1)))] []),
  .ret (.cst (.str "ok"))]⟩
/-- eager_row -/
def mp_187 : Fn := ⟨3, 3, [.asg (.ix (.fld (.var 0) 19) (.idx (.var 1) (.cst (.int 0)))) (.mk .fz 8 [.idx (.fld (.var 0) 18) (.idx (.var 1) (.cst (.int 1)))] []),
  .ret (.cst (.str "ok"))]⟩
/-- copy_row -/
def mp_188 : Fn := ⟨3, 3, [.asg (.ix (.fld (.var 0) 19) (.idx (.var 1) (.cst (.int 0)))) (.meth .fz 29 (.idx (.fld (.var 0) 19) (.idx (.var 1) (.cst (.int 1)))) [] []),
  .ret (.cst (.str "ok"))]⟩
/-- left_row -/
def mp_189 : Fn := ⟨3, 3, [.asg (.ix (.fld (.var 0) 18) (.idx (.var 1) (.cst (.int 0)))) (.call .fz 144 [.idx (.fld (.var 0) 19) (.idx (.var 1) (.cst (.int 1)))] []),
  .ret (.cst (.str "ok"))]⟩
/-- ask_row -/
def mp_190 : Fn := ⟨4, 3, [.ret (.call .fz 172 [.fr (.comp (.nm 3) (.val (.meth .fz 21 (.idx (.fld (.var 0) 19) (.idx (.var 1) (.cst (.int 0)))) [.var 2] [])) [] (.call .fz 173 [.var 3] []))] [])]⟩
/-- back_row -/
def mp_191 : Fn := ⟨3, 3, [.raise]⟩
/-- yes_row -/
def mp_192 : Fn := ⟨3, 3, [.ret (.call .fz 172 [.meth .fz 23 (.idx (.fld (.var 0) 19) (.idx (.var 1) (.cst (.int 0)))) [] []] [])]⟩
/-- no_row -/
def mp_193 : Fn := ⟨3, 3, [.ret (.call .fz 172 [.meth .fz 24 (.idx (.fld (.var 0) 19) (.idx (.var 1) (.cst (.int 0)))) [] []] [])]⟩
/-- unasked_row -/
def mp_194 : Fn := ⟨3, 3, [.ret (.call .fz 172 [.meth .fz 25 (.idx (.fld (.var 0) 19) (.idx (.var 1) (.cst (.int 0)))) [] []] [])]⟩
/-- paper_row -/
def mp_195 : Fn := ⟨5, 3, [.asg (.tp [(.nm 3), (.nm 4)]) (.call .fz 100 [.idx (.fld (.var 0) 19) (.idx (.var 1) (.cst (.int 0))), .idx (.var 2) (.cst (.int 0))] []),
  .ret (.call .fz 172 [.fr (.cat (.fr (.disp [.var 3])) (.var 4))] [])]⟩
/-- open_row -/
def mp_196 : Fn := ⟨3, 3, [.ret (.ife (.call .fz 109 [.idx (.fld (.var 0) 19) (.idx (.var 1) (.cst (.int 0)))] []) (.cst (.str "open")) (.cst (.str "settled")))]⟩
/-- history_row -/
def mp_197 : Fn := ⟨3, 3, [.ret (.call .fz 164 [.idx (.fld (.var 0) 19) (.idx (.var 1) (.cst (.int 0)))] [])]⟩
/-- _law_pot -/
def ml_200 : Fn := ⟨3, 2, [.asg (.nm 2) (.cst (.int 0)),
  .iff (.cmp .lt (.var 1) (.bi .len [.var 0])) [.asg (.nm 2) (.bi .abs [.idx (.var 0) (.var 1)])] [],
  .ret (.nw (.disp [.bi .max2 [.cst (.int 0), .bin .sub (.var 2) (.bin .pow (.cst (.int 10)) (.cst (.int 18)))], .bin .add (.bin .mod (.bin .pow (.bin .add (.bin .add (.bin .mod (.var 2) (.cst (.int 2147483549))) (.bin .mul (.cst (.int 97)) (.var 1))) (.cst (.int 1))) (.cst (.int 2))) (.cst (.int 2147483543))) (.cst (.int 1))]))]⟩
/-- _law_take -/
def ml_201 : Fn := ⟨3, 2, [.iff (.cmp .gt (.idx (.var 0) (.cst (.int 0))) (.cst (.int 0))) [.asg (.tp [(.ix (.var 0) (.cst (.int 0))), (.nm 2)]) (.bi .divmod [.idx (.var 0) (.cst (.int 0)), .var 1]),
  .ret (.var 2)] [],
  .asg (.ix (.var 0) (.cst (.int 1))) (.bin .mod (.bin .add (.bin .mul (.idx (.var 0) (.cst (.int 1))) (.cst (.int 48271))) (.cst (.int 10007))) (.cst (.int 2147483587))),
  .ret (.bin .mod (.bin .fdiv (.bin .mod (.bin .mul (.idx (.var 0) (.cst (.int 1))) (.idx (.var 0) (.cst (.int 1)))) (.cst (.int 2147483563))) (.cst (.int 3))) (.var 1))]⟩
/-- _law_among -/
def ml_202 : Fn := ⟨2, 2, [.ret (.idx (.var 1) (.call .fz 201 [.var 0, .bi .len [.var 1]] []))]⟩
/-- _law_shuffled -/
def ml_203 : Fn := ⟨5, 2, [.asg (.nm 2) (.nw (.listOf (.var 1))),
  .asg (.nm 3) (.nw (.disp [])),
  .for_ (.nm 4) (.rng [.bi .len [.var 1]]) [.expr (.bm .append (.var 3) [.bm .popAt (.var 2) [.call .fz 201 [.var 0, .bi .len [.var 2]] []]])],
  .ret (.var 3)]⟩
/-- _law_heap -/
def ml_204 : Fn := ⟨2, 2, [.ret (.fr (.slc (.call .fz 203 [.var 0, .fr (.rng [.var 1])] []) none (some (.call .fz 201 [.var 0, .bin .add (.var 1) (.cst (.int 1))] []))))]⟩
/-- _law_is -/
def ml_205 : Fn := ⟨2, 2, [.ret (.and_ (.isi (.var 0) [.ty "int"]) (.and_ (.not_ (.isi (.var 0) [.ty "bool"])) (.cmp .eq (.var 0) (.var 1))))]⟩
/-- _law_finds -/
def ml_206 : Fn := ⟨5, 4, [.for_ (.nm 4) (.val (.idx (.var 1) (.var 0))) [.iff (.cmp .nin (.var 4) (.var 3)) [.expr (.bm .append (.var 3) [.var 4]),
  .iff (.or_ (.cmp .nin (.var 4) (.var 2)) (.call .fz 206 [.idx (.var 2) (.var 4), .var 1, .var 2, .var 3] [])) [.asg (.ix (.var 2) (.var 4)) (.var 0),
  .ret (.cst (.bl true))] []] []],
  .ret (.cst (.bl false))]⟩
/-- _law_joined_places -/
def ml_207 : Fn := ⟨8, 2, [.asg (.nm 2) (.fr (.rng [.var 0])),
  .for_ (.tp [(.nm 3), (.nm 4)]) (.val (.var 1)) [.mas [(.nm 5), (.nm 6)] [.idx (.var 2) (.var 3), .idx (.var 2) (.var 4)],
  .asg (.nm 2) (.fr (.comp (.nm 7) (.val (.var 2)) [] (.ife (.cmp .in_ (.var 7) (.tup [.var 5, .var 6])) (.bi .min2 [.var 5, .var 6]) (.var 7))))],
  .ret (.bin .sub (.var 0) (.bi .lenset [.var 2]))]⟩
/-- _law_free_rows -/
def ml_208 : Fn := ⟨4, 1, [.asg (.nm 1) (.nw (.disp [])),
  .for_ (.nm 2) (.val (.var 0)) [.for_ (.nm 3) (.val (.var 1)) [.asg (.nm 2) (.bi .min2 [.var 2, .bin .bxor (.var 2) (.var 3)])],
  .iff (.cmp .gt (.var 2) (.cst (.int 0))) [.expr (.bm .append (.var 1) [.var 2])] []],
  .ret (.bi .len [.var 1])]⟩
/-- _law_in_lots -/
def ml_209 : Fn := ⟨4, 2, [.ret (.bi .sum [.fr (.comp (.tp [(.nm 2), (.nm 3)]) (.enu (.var 0)) [] (.bi .min2 [.var 3, .bm .count (.var 1) [.var 2]]))])]⟩
/-- _law_sitting -/
def ml_210 : Fn := ⟨3, 1, [.asg (.nm 1) .dnw,
  .ret (.bi .sum [.fr (.comp (.nm 2) (.rng [.bi .len [.var 0]]) [] (.bi .int [.call .fz 206 [.var 2, .var 0, .var 1, .nw (.disp [])] []]))])]⟩
/-- _law_worth -/
def ml_211 : Fn := ⟨7, 2, [.asg (.tp [(.nm 3), (.nm 4), (.nm 5)]) (.var 0),
  .asg (.nm 2) (.fr (.comp (.nm 6) (.val (.var 1)) [] (.idx (.var 5) (.var 6)))),
  .iff (.cmp .eq (.var 3) (.cst (.str "ties"))) [.ret (.call .fz 207 [.var 4, .var 2] [])] [],
  .iff (.cmp .eq (.var 3) (.cst (.str "rows"))) [.ret (.call .fz 208 [.var 2] [])] [],
  .iff (.cmp .eq (.var 3) (.cst (.str "lots"))) [.ret (.call .fz 209 [.var 4, .var 2] [])] [],
  .ret (.call .fz 210 [.var 2] [])]⟩
/-- _law_heaps -/
def ml_212 : Fn := ⟨4, 1, [.asg (.nm 1) (.fr (.disp [.fr (.disp [])])),
  .for_ (.nm 2) (.rng [.var 0]) [.asg (.nm 1) (.fr (.cat (.var 1) (.fr (.comp (.nm 3) (.val (.var 1)) [] (.fr (.cat (.var 3) (.fr (.disp [.var 2]))))))))],
  .ret (.var 1)]⟩
/-- _law_spec -/
def ml_213 : Fn := ⟨9, 2, [.asg (.nm 2) (.idx (.fr (.disp [.cst (.str "ties"), .cst (.str "rows"), .cst (.str "lots"), .cst (.str "seats")])) (.call .fz 201 [.var 0, .cst (.int 4)] [])),
  .asg (.nm 3) (.idx (.fr (.disp [.var 1, .call .fz 201 [.var 0, .bin .add (.var 1) (.cst (.int 1))] []])) (.call .fz 201 [.var 0, .cst (.int 2)] [])),
  .iff (.cmp .eq (.var 2) (.cst (.str "ties"))) [.asg (.nm 5) (.bin .add (.cst (.int 1)) (.call .fz 201 [.var 0, .idx (.fr (.disp [.cst (.int 12), .cst (.int 4)])) (.call .fz 201 [.var 0, .cst (.int 2)] [])] [])),
  .ret (.tup [.var 2, .var 5, .call .fz 217 [.var 0, .call .fz 215 [.var 0, .var 5, .var 3] []] []])] [],
  .iff (.cmp .eq (.var 2) (.cst (.str "rows"))) [.asg (.nm 6) (.idx (.fr (.disp [.cst (.int 4096), .cst (.int 16), .cst (.int 4)])) (.call .fz 201 [.var 0, .cst (.int 3)] [])),
  .ret (.tup [.var 2, .cst (.int 0), .call .fz 217 [.var 0, .fr (.comp (.nm 8) (.rng [.var 3]) [] (.call .fz 201 [.var 0, .var 6] []))] []])] [],
  .iff (.cmp .eq (.var 2) (.cst (.str "lots"))) [.asg (.nm 7) (.fr (.comp (.nm 8) (.rng [.bin .add (.cst (.int 1)) (.call .fz 201 [.var 0, .cst (.int 8)] [])]) [] (.idx (.fr (.disp [.cst (.int 0), .cst (.int 1), .cst (.int 2), .call .fz 201 [.var 0, .cst (.int 25)] []])) (.call .fz 201 [.var 0, .cst (.int 4)] [])))),
  .ret (.tup [.var 2, .var 7, .call .fz 217 [.var 0, .fr (.comp (.nm 8) (.rng [.var 3]) [] (.call .fz 201 [.var 0, .bi .len [.var 7]] []))] []])] [],
  .asg (.nm 4) (.call .fz 201 [.var 0, .idx (.fr (.disp [.cst (.int 13), .cst (.int 5)])) (.call .fz 201 [.var 0, .cst (.int 2)] [])] []),
  .ret (.tup [.var 2, .var 4, .call .fz 217 [.var 0, .call .fz 216 [.var 0, .var 4, .var 3] []] []])]⟩
/-- _law_made -/
def ml_214 : Fn := ⟨5, 1, [.asg (.tp [(.nm 1), (.nm 2), (.nm 3)]) (.var 0),
  .iff (.cmp .eq (.var 1) (.cst (.str "ties"))) [.ret (.mk .fz 1 [.var 2, .fr (.listOf (.var 3))] [])] [],
  .iff (.cmp .eq (.var 1) (.cst (.str "rows"))) [.ret (.mk .fz 2 [.fr (.listOf (.var 3))] [])] [],
  .iff (.cmp .eq (.var 1) (.cst (.str "lots"))) [.ret (.mk .fz 3 [.fr (.listOf (.var 2)), .fr (.listOf (.var 3))] [])] [],
  .ret (.mk .fz 4 [.var 2, .fr (.comp (.nm 4) (.val (.var 3)) [] (.fr (.listOf (.var 4))))] [])]⟩
/-- _law_pairs -/
def ml_215 : Fn := ⟨4, 3, [.ret (.fr (.comp (.nm 3) (.rng [.var 2]) [] (.tup [.call .fz 201 [.var 0, .var 1] [], .call .fz 201 [.var 0, .var 1] []])))]⟩
/-- _law_seat_rows -/
def ml_216 : Fn := ⟨7, 3, [.asg (.nm 3) (.nw (.disp [])),
  .for_ (.nm 4) (.rng [.var 2]) [.asg (.nm 5) (.fr (.comp (.nm 6) (.rng [.var 1]) [.cmp .eq (.call .fz 201 [.var 0, .cst (.int 3)] []) (.cst (.int 0))] (.var 6))),
  .expr (.bm .append (.var 3) [.ife (.cmp .eq (.call .fz 201 [.var 0, .cst (.int 4)] []) (.cst (.int 0))) (.fr (.rev (.var 5))) (.var 5)])],
  .ret (.var 3)]⟩
/-- _law_with_alike -/
def ml_217 : Fn := ⟨4, 2, [.asg (.nm 2) (.nw (.listOf (.var 1))),
  .iff (.cmp .eq (.call .fz 201 [.var 0, .cst (.int 3)] []) (.cst (.int 0))) [.for_ (.nm 3) (.rng [.cst (.int 1), .bi .len [.var 2]]) [.iff (.cmp .eq (.call .fz 201 [.var 0, .cst (.int 3)] []) (.cst (.int 0))) [.asg (.ix (.var 2) (.var 3)) (.idx (.var 2) (.call .fz 201 [.var 0, .var 3] []))] []]] [],
  .ret (.var 2)]⟩
/-- _law_with -/
def ml_218 : Fn := ⟨3, 2, [.ret (.fr (.cat (.fr (.comp (.nm 2) (.val (.var 0)) [.cmp .ne (.var 2) (.var 1)] (.var 2))) (.fr (.disp [.var 1]))))]⟩
end Ev
end

section
set_option Elab.async false
set_option linter.all false
namespace Ev
open PySem PyProof.Rows L2
/-! ### what holds behind -/
def wp {α : Type} (r : R α) (Q : α → Store → Prop) (E : Exn → Store → Prop) : Prop := match r with
  | .ok a S => Q a S
  | .exc e S => E e S
  | .bad => False
section
variable {α β : Type} {r : R α} {f : α → Store → R β} {Q : β → Store → Prop} {Q' : α → Store → Prop} {E : Exn → Store → Prop}
theorem wp_ok {a : α} {S : Store} (h : Q' a S) : wp (.ok a S) Q' E := h
theorem wp_bind (h : wp r (fun a S => wp (f a S) Q E) E) : wp (r.bind f) Q E := by
  cases r <;> exact h
theorem wp_bind_iff : wp (r.bind f) Q E ↔ wp r (fun a S => wp (f a S) Q E) E := by
  cases r <;> exact Iff.rfl
theorem wp_mono {Q1 Q2 : α → Store → Prop} {E1 E2 : Exn → Store → Prop} (h : wp r Q1 E1) (hq : ∀ a S, Q1 a S → Q2 a S) (he : ∀ e S, E1 e S → E2 e S) : wp r Q2 E2 := by
  cases r with
  | ok a S => exact hq a S h
  | exc e S => exact he e S h
  | bad => exact h
theorem wp_seq {Q1 : α → Store → Prop} (h : wp r Q1 E) (hq : ∀ a S, Q1 a S → wp (f a S) Q E) : wp (r.bind f) Q E := wp_bind (wp_mono h hq fun _ _ h => h)
theorem wp_ex {a : Prop} {S : Store} (h : wp r Q' (fun _ _ => False)) : ∃ a S, r = .ok a S ∧ Q' a S := by
  cases r with
  | ok a S => exact ⟨a, S, rfl, h⟩
  | exc e S => exact h.elim
  | bad => exact h.elim
theorem wp_ite {c : Prop} [Decidable c] {r1 r2 : R α} (h1 : c → wp r1 Q' E) (h2 : ¬ c → wp r2 Q' E) : wp (if c then r1 else r2) Q' E := by
  split
  · exact h1 ‹_›
  · exact h2 ‹_›
theorem wp_eq {r' : R α} (e : r = r') (h : wp r' Q' E) : wp r Q' E := by rw [e]; exact h
theorem wp_noX (h : wp r Q' (fun _ _ => False)) : wp r.noX Q' E := by
  cases r with
  | ok a S => exact h
  | exc e S => exact h.elim
  | bad => exact h
theorem wp_ofOpt {o : Option α} {S : Store} {a : α} (e : o = some a) (h : Q' a S) : wp (ofOpt o S) Q' E := by subst e; exact h
end
/-! ### loops -/
section
variable {f : D → Env → Store → R (Fl × Env)} {E : Exn → Store → Prop}
theorem wp_forL_from {Q : Fl × Env → Store → Prop} (I : Nat → Env → Store → Prop) : ∀ (ds : List D) (k : Nat) (τ : Env) (S : Store),
    (∀ i d τ S, ds[i]? = some d → I (k + i) τ S → wp (f d τ S) (fun q S' => match q.1 with
      | .nx => I (k + i + 1) q.2 S'
      | .ct => I (k + i + 1) q.2 S'
      | .bk => Q (.nx, q.2) S'
      | .rt v => Q (.rt v, q.2) S') E) → (∀ τ S, I (k + ds.length) τ S → Q (.nx, τ) S) → I k τ S → wp (forL f ds τ S) Q E
  | [], k, τ, S, _, hq, h => hq τ S h
  | d :: r, k, τ, S, hs, hq, h => by
    unfold forL
    refine wp_seq (hs 0 d τ S rfl h) fun q S' hI => ?_
    have next : I (k + 1) q.2 S' → wp (forL f r q.2 S') Q E := fun hI => wp_forL_from I r (k + 1) q.2 S' (fun i d τ S hd hi => by
      have := hs (i + 1) d τ S (by simpa using hd) (by rw [show k + (i + 1) = k + 1 + i by omega]; exact hi)
      rwa [show k + (i + 1) + 1 = k + 1 + i + 1 by omega] at this) (fun τ S hi => hq τ S (by rw [List.length_cons, show k + (r.length + 1) = k + 1 + r.length by omega]; exact hi)) hI
    obtain ⟨fl, τ'⟩ := q
    cases fl with
    | nx => exact next hI
    | ct => exact next hI
    | bk => exact hI
    | rt v => exact hI
/-- a loop by what holds ahead of the turn i -/
theorem wp_forL {Q : Fl × Env → Store → Prop} {ds : List D} {τ : Env} {S : Store} (I : Nat → Env → Store → Prop) (h0 : I 0 τ S)
    (hs : ∀ i d τ S, ds[i]? = some d → I i τ S → wp (f d τ S) (fun q S' => match q.1 with
      | .nx => I (i + 1) q.2 S'
      | .ct => I (i + 1) q.2 S'
      | .bk => Q (.nx, q.2) S'
      | .rt v => Q (.rt v, q.2) S') E) (hq : ∀ τ S, I ds.length τ S → Q (.nx, τ) S) : wp (forL f ds τ S) Q E :=
  wp_forL_from I ds 0 τ S (fun i d τ S hd hi => by have := hs i d τ S hd (by simpa using hi); simpa using this) (fun τ S h => hq τ S (by simpa using h)) h0
theorem wp_whiL {c : Env → Store → R Bool} {g : Env → Store → R (Fl × Env)} {Q : Fl × Env → Store → Prop} (I : Nat → Env → Store → Prop)
    (hs : ∀ m τ S, I m τ S → wp (c τ S) (fun b S1 => match b with
      | false => Q (.nx, τ) S1
      | true => wp (g τ S1) (fun q S' => match q.1 with
        | .nx => ∃ m', m' < m ∧ I m' q.2 S'
        | .ct => ∃ m', m' < m ∧ I m' q.2 S'
        | .bk => Q (.nx, q.2) S'
        | .rt v => Q (.rt v, q.2) S') E) E) : ∀ (k m : Nat) (τ : Env) (S : Store), m < k → I m τ S → wp (whiL c g k τ S) Q E
  | 0, m, τ, S, hk, _ => absurd hk (Nat.not_lt_zero _)
  | k + 1, m, τ, S, hk, h => by
    unfold whiL
    refine wp_seq (hs m τ S h) fun b S1 hb => ?_
    cases b with
    | false => exact hb
    | true =>
      refine wp_seq hb fun q S' hq => ?_
      obtain ⟨fl, τ'⟩ := q
      cases fl with
      | nx => obtain ⟨m', a, b⟩ := hq; exact wp_whiL I hs k m' _ _ (by omega) b
      | ct => obtain ⟨m', a, b⟩ := hq; exact wp_whiL I hs k m' _ _ (by omega) b
      | bk => exact hq
      | rt v => exact hq
end
section
variable {f : D → Store → R (Option D)} {E : Exn → Store → Prop}
theorem wp_cmpL_from {Q : List D → Store → Prop} (I : Nat → List D → Store → Prop) : ∀ (ds : List D) (k : Nat) (acc : List D) (S : Store),
    (∀ i d acc S, ds[i]? = some d → I (k + i) acc S → wp (f d S) (fun q S' => match q with
      | some y => acc.length < sizeLine ∧ I (k + i + 1) (acc ++ [y]) S'
      | none => I (k + i + 1) acc S') E) → (∀ acc S, I (k + ds.length) acc S → Q acc S) → I k acc S → wp (cmpL f ds acc S) Q E
  | [], k, acc, S, _, hq, h => hq acc S h
  | d :: r, k, acc, S, hs, hq, h => by
    unfold cmpL
    refine wp_seq (hs 0 d acc S rfl h) fun q S' hI => ?_
    have next : ∀ acc', I (k + 1) acc' S' → wp (cmpL f r acc' S') Q E := fun acc' hI => wp_cmpL_from I r (k + 1) acc' S' (fun i d acc S hd hi => by
      have := hs (i + 1) d acc S (by simpa using hd) (by rw [show k + (i + 1) = k + 1 + i by omega]; exact hi)
      rwa [show k + (i + 1) + 1 = k + 1 + i + 1 by omega] at this) (fun acc S hi => hq acc S (by rw [List.length_cons, show k + (r.length + 1) = k + 1 + r.length by omega]; exact hi)) hI
    cases q with
    | none => exact next acc hI
    | some y =>
      show wp (if acc.length < sizeLine then _ else _) Q E
      rw [if_pos hI.1]
      exact next _ hI.2
theorem wp_cmpL {Q : List D → Store → Prop} {ds : List D} {S : Store} (I : Nat → List D → Store → Prop) (h0 : I 0 [] S)
    (hs : ∀ i d acc S, ds[i]? = some d → I i acc S → wp (f d S) (fun q S' => match q with
      | some y => acc.length < sizeLine ∧ I (i + 1) (acc ++ [y]) S'
      | none => I (i + 1) acc S') E) (hq : ∀ acc S, I ds.length acc S → Q acc S) : wp (cmpL f ds [] S) Q E :=
  wp_cmpL_from I ds 0 [] S (fun i d acc S hd hi => by have := hs i d acc S hd (by simpa using hi); simpa using this) (fun acc S h => hq acc S (by simpa using h)) h0
/-- a comprehension that changes nothing -/
theorem cmpL_pure (g : D → Option D) : ∀ (ds : List D) (acc : List D) (S : Store), (∀ d ∈ ds, f d S = .ok (g d) S) → acc.length + ds.length ≤ sizeLine → cmpL f ds acc S = .ok (acc ++ ds.filterMap g) S
  | [], acc, S, _, _ => by simp [cmpL]
  | d :: r, acc, S, h, hl => by
    unfold cmpL
    rw [h d List.mem_cons_self]
    rw [List.length_cons] at hl
    simp only [R.bind_ok]
    cases e : g d with
    | none =>
      simp only [List.filterMap_cons, e]
      exact cmpL_pure g r acc S (fun x hx => h x (List.mem_cons_of_mem _ hx)) (by omega)
    | some y =>
      simp only [List.filterMap_cons, e]
      rw [if_pos (show acc.length < sizeLine by omega), cmpL_pure g r (acc ++ [y]) S (fun x hx => h x (List.mem_cons_of_mem _ hx)) (by simp; omega), List.append_assoc]
      rfl
theorem cmpL_map (g : D → D) (ds : List D) (S : Store) (h : ∀ d ∈ ds, f d S = .ok (some (g d)) S) (hl : ds.length ≤ sizeLine) : cmpL f ds [] S = .ok (ds.map g) S := by
  rw [cmpL_pure (fun d => some (g d)) ds [] S h (by simpa using hl)]
  simp
end
end Ev
end

section
set_option Elab.async false
set_option linter.all false
namespace Ev
open PySem PyProof.Rows L2
/-- behind it goes on with k -/
def wpk {α β : Type} (k : α → Store → R β) (Q : β → Store → Prop) (E : Exn → Store → Prop) (a : α) (S : Store) : Prop := wp (k a S) Q E
section
variable {α β : Type} {r : R α} {k : α → Store → R β} {Q : β → Store → Prop} {Q' : α → Store → Prop} {E : Exn → Store → Prop}
theorem y_bind : wp (r.bind k) Q E = wp r (wpk k Q E) E := by cases r <;> rfl
theorem y_k {a : α} {S : Store} : wpk k Q E a S = wp (k a S) Q E := (rfl)
theorem y_ok {a : α} {S : Store} : wp (.ok a S) Q' E = Q' a S := (rfl)
theorem y_exc {e : Exn} {S : Store} : wp (.exc e S : R α) Q' E = E e S := (rfl)
theorem y_noX : wp r.noX Q' E = wp r Q' (fun _ _ => False) := by cases r <;> rfl
end
section
variable {P : Prg} {C : Calls} {τ : Env} {S : Store}
/-! ### the language's steps; what is carried on is named -/
noncomputable def sq (P : Prg) (C : Calls) (r : List Sm) : Fl × Env → Store → R (Fl × Env)
  | (.nx, τ), S => evSs P C r τ S
  | (.rt d, τ), S => .ok (.rt d, τ) S
  | (.bk, τ), S => .ok (.bk, τ) S
  | (.ct, τ), S => .ok (.ct, τ) S
def rq : Fl × Env → Store → R D
  | (.rt d, _), S => .ok d S
  | (.nx, _), S => .ok (.t .non) S
  | _, _ => .bad
noncomputable def bodyF (P : Prg) (C : Calls) (t : Tg) (body : List Sm) (d : D) (τ : Env) (S : Store) : R (Fl × Env) := (asgT P C t d τ S).bind fun τ1 S2 => evSs P C body τ1 S2
noncomputable def bodyW (P : Prg) (C : Calls) (body : List Sm) (τ : Env) (S : Store) : R (Fl × Env) := evSs P C body τ S
noncomputable def condW (P : Prg) (C : Calls) (c : E) (τ : Env) (S : Store) : R Bool := evT P C c τ S
noncomputable def cq2 (P : Prg) (C : Calls) (e : E) (τ : Env) (b : Bool) (S : Store) : R (Option D) := if b = true then (evE P C e τ S).bind fun y S3 => .ok (some y) S3 else .ok none S
noncomputable def cq (P : Prg) (C : Calls) (ifs : List E) (e : E) (τ : Env) (S : Store) : R (Option D) := (evTs P C ifs τ S).bind (cq2 P C e τ)
noncomputable def bodyC (P : Prg) (C : Calls) (tg : Tg) (ifs : List E) (e : E) (τ : Env) (d : D) (S : Store) : R (Option D) := ((asgT P C tg d (wipeE τ (tgVars tg)) S).bind (cq P C ifs e)).noX
noncomputable def forS (P : Prg) (C : Calls) (t : Tg) (b : List Sm) (τ : Env) : Src → Store → R (Fl × Env)
  | .ds ds, S => forL (bodyF P C t b) ds τ S
  | .cell n k, S => forC n (bodyF P C t b) k 0 τ S
noncomputable def cmpS (P : Prg) (C : Calls) (tg : Tg) (ifs : List E) (e : E) (τ : Env) : Src → Store → R (List D)
  | .ds ds, S => cmpL (bodyC P C tg ifs e τ) ds [] S
  | .cell n k, S => cmpC n (bodyC P C tg ifs e τ) k 0 [] S
/-- an env from its values -/
def mkE : List D → Nat → Env
  | [], 0 => []
  | [], n + 1 => none :: mkE [] n
  | d :: ds, n => some d :: mkE ds (n - 1)
theorem mkE_eq : ∀ (ds : List D) (n : Nat), mkE ds n = ds.map some ++ List.replicate (n - ds.length) none
  | [], 0 => by simp [mkE]
  | [], n + 1 => by
    rw [mkE, mkE_eq [] n]; simp [List.replicate_succ]
  | d :: ds, n => by
    rw [mkE, mkE_eq ds (n - 1), List.length_cons, Nat.add_comm, ← Nat.sub_sub]; rfl
theorem run_eq {f : Fn} {ds : List D} (h : ds.length = f.pars) : runFn P C f ds S = (evSs P C f.body (mkE ds f.slots) S).bind rq := by
  unfold runFn
  rw [if_pos h, mkE_eq]
  congr 1
  funext q S
  obtain ⟨fl, τ⟩ := q
  cases fl <;> rfl
theorem x_sq_nx {r : List Sm} : sq P C r (.nx, τ) S = evSs P C r τ S := (rfl)
theorem x_sq_rt {r : List Sm} {d : D} : sq P C r (.rt d, τ) S = .ok (.rt d, τ) S := (rfl)
theorem x_sq_bk {r : List Sm} : sq P C r (.bk, τ) S = .ok (.bk, τ) S := (rfl)
theorem x_sq_ct {r : List Sm} : sq P C r (.ct, τ) S = .ok (.ct, τ) S := (rfl)
theorem x_rq_rt {d : D} : rq (.rt d, τ) S = .ok d S := (rfl)
theorem x_rq_nx : rq (.nx, τ) S = .ok (.t .non) S := (rfl)
theorem x_cons {s : Sm} {r : List Sm} : evSs P C (s :: r) τ S = (evS P C s τ S).bind (sq P C r) := by
  simp only [evSs]
  congr 1
  funext q S1
  obtain ⟨fl, τ⟩ := q
  cases fl <;> rfl
theorem x_nil : evSs P C [] τ S = .ok (.nx, τ) S := by simp only [evSs] <;> rfl

noncomputable def k_nx (τ : Env) (d : D) (S : Store) : R (Fl × Env) := .ok (.nx, τ) S
theorem yk_nx  {d : D} : k_nx τ d S = .ok (.nx, τ) S := (rfl)
noncomputable def k_rt (τ : Env) (d : D) (S : Store) : R (Fl × Env) := .ok (.rt d, τ) S
theorem yk_rt  {d : D} : k_rt τ d S = .ok (.rt d, τ) S := (rfl)
def k_nE (τ : Env) (S : Store) : R (Fl × Env) := .ok (.nx, τ) S
theorem yk_nE : k_nE τ S = .ok (.nx, τ) S := (rfl)
noncomputable def k_asg (P : Prg) (C : Calls) (t : Tg) (τ : Env) (d : D) (S : Store) : R (Fl × Env) := (asgT P C t d τ S).bind k_nE
theorem yk_asg   {t : Tg}  {d : D} : k_asg P C t τ d S = (asgT P C t d τ S).bind k_nE := (rfl)
theorem x_expr {e : E} : evS P C (.expr e) τ S = (evE P C e τ S).bind (k_nx τ) := by simp only [evS] <;> rfl
theorem x_ret {e : E} : evS P C (.ret e) τ S = (evE P C e τ S).bind (k_rt τ) := by simp only [evS] <;> rfl
theorem x_retN  : evS P C .retN τ S = .ok (.rt (.t .non), τ) S := by simp only [evS] <;> rfl
theorem x_asg {t : Tg} {e : E} : evS P C (.asg t e) τ S = (evE P C e τ S).bind (k_asg P C t τ) := by simp only [evS] <;> rfl
noncomputable def k_mas (P : Prg) (C : Calls) (ts : List Tg) (τ : Env) (ds : List D) (S : Store) : R (Fl × Env) := if ds.length = ts.length ∧ ds.length ≤ 16777216 then (asgTs P C ts ds τ S).bind k_nE else .bad
theorem yk_mas   {ts : List Tg}  {ds : List D} : k_mas P C ts τ ds S = if ds.length = ts.length ∧ ds.length ≤ 16777216 then (asgTs P C ts ds τ S).bind k_nE else .bad := (rfl)
theorem x_mas {ts : List Tg} {es : List E} : evS P C (.mas ts es) τ S = (evEs P C es τ S).bind (k_mas P C ts τ) := by simp only [evS] <;> rfl
noncomputable def k_if (P : Prg) (C : Calls) (a b : List Sm) (τ : Env) (q : Bool) (S : Store) : R (Fl × Env) := if q = true then evSs P C a τ S else evSs P C b τ S
theorem yk_if1 {a b : List Sm} : k_if P C a b τ true S = evSs P C a τ S := (rfl)
theorem yk_if0 {a b : List Sm} : k_if P C a b τ false S = evSs P C b τ S := (rfl)
theorem x_iff {c : E} {a b : List Sm} : evS P C (.iff c a b) τ S = (evT P C c τ S).bind (k_if P C a b τ) := by
  simp only [evS]
  congr 1
  funext q S1
  cases q <;> rfl
theorem x_for {t : Tg} {it : Ev.It} {b : List Sm} : evS P C (.for_ t it b) τ S = (evIt P C it τ S).bind (forS P C t b τ) := by
  simp only [evS]
  congr 1
  funext src S1
  cases src <;> rfl
theorem x_forS_ds {t : Tg} {b : List Sm} {ds : List D} : forS P C t b τ (.ds ds) S = forL (bodyF P C t b) ds τ S := (rfl)
theorem x_forS_cell {t : Tg} {b : List Sm} {n k : Nat} : forS P C t b τ (.cell n k) S = forC n (bodyF P C t b) k 0 τ S := (rfl)
theorem x_cmpS_ds {t : Tg} {b : List E} {e : E} {ds : List D} : cmpS P C t b e τ (.ds ds) S = cmpL (bodyC P C t b e τ) ds [] S := (rfl)
theorem x_cmpS_cell {t : Tg} {b : List E} {e : E} {n k : Nat} : cmpS P C t b e τ (.cell n k) S = cmpC n (bodyC P C t b e τ) k 0 [] S := (rfl)
theorem x_whil {k : Nat} {c : E} {b : List Sm} : evS P C (.whil k c b) τ S = whiL (condW P C c) (bodyW P C b) k τ S := by simp only [evS] <;> rfl
theorem x_rai {c : Nat} : evS P C (.rai c) τ S = .exc ⟨c, []⟩ S := by simp only [evS] <;> rfl
theorem x_pass : evS P C .pass τ S = .ok (.nx, τ) S := by simp only [evS] <;> rfl
theorem x_brk : evS P C .brk τ S = .ok (.bk, τ) S := by simp only [evS] <;> rfl
theorem x_cont : evS P C .cont τ S = .ok (.ct, τ) S := by simp only [evS] <;> rfl
noncomputable def k_set (i : Nat) (τ : Env) (z : D) (S : Store) : R (Fl × Env) := .ok (.nx, τ.set i (some z)) S
theorem yk_set {i : Nat}  {z : D} : k_set i τ z S = .ok (.nx, τ.set i (some z)) S := (rfl)
noncomputable def k_aug (i : Nat) (o : BOp) (τ : Env) (x : D) (y : D) (S : Store) : R (Fl × Env) := (evBin o x y S).bind (k_set i τ)
theorem yk_aug {i : Nat} {o : BOp}  {x : D} {y : D} : k_aug i o τ x y S = (evBin o x y S).bind (k_set i τ) := (rfl)
theorem x_aug {i : Nat} {o : BOp} {e : E} : evS P C (.aug i o e) τ S = match τ[i]? with
    | some (some x) => (evE P C e τ S).bind (k_aug i o τ x)
    | _ => .bad := by simp only [evS] <;> rfl
def k_nu (τ : Env) (u : Unit) (S : Store) : R (Fl × Env) := .ok (.nx, τ) S
theorem yk_nu {u : Unit} : k_nu τ u S = .ok (.nx, τ) S := (rfl)
noncomputable def k_ax5 (τ : Env) (x k : D) (z : D) (S : Store) : R (Fl × Env) := (evPut x k z S).bind (k_nu τ)
theorem yk_ax5  {x k : D} {z : D} : k_ax5 τ x k z S = (evPut x k z S).bind (k_nu τ) := (rfl)
noncomputable def k_ax4 (o : BOp) (τ : Env) (x k v : D) (y : D) (S : Store) : R (Fl × Env) := (evBin o v y S).bind (k_ax5 τ x k)
theorem yk_ax4 {o : BOp}  {x k v : D} {y : D} : k_ax4 o τ x k v y S = (evBin o v y S).bind (k_ax5 τ x k) := (rfl)
noncomputable def k_ax3 (P : Prg) (C : Calls) (o : BOp) (e : E) (τ : Env) (x k : D) (v : D) (S : Store) : R (Fl × Env) := (evE P C e τ S).bind (k_ax4 o τ x k v)
theorem yk_ax3   {o : BOp} {e : E}  {x k : D} {v : D} : k_ax3 P C o e τ x k v S = (evE P C e τ S).bind (k_ax4 o τ x k v) := (rfl)
noncomputable def k_ax2 (P : Prg) (C : Calls) (o : BOp) (e : E) (τ : Env) (x : D) (k : D) (S : Store) : R (Fl × Env) := (evIdx x k S).bind (k_ax3 P C o e τ x k)
theorem yk_ax2   {o : BOp} {e : E}  {x : D} {k : D} : k_ax2 P C o e τ x k S = (evIdx x k S).bind (k_ax3 P C o e τ x k) := (rfl)
noncomputable def k_ax1 (P : Prg) (C : Calls) (i : E) (o : BOp) (e : E) (τ : Env) (x : D) (S : Store) : R (Fl × Env) := if isLoc x = true then (evE P C i τ S).bind (k_ax2 P C o e τ x) else .bad
theorem yk_ax1 {i : E} {o : BOp} {e : E} {n : Nat} : k_ax1 P C i o e τ (.loc n) S = (evE P C i τ S).bind (k_ax2 P C o e τ (.loc n)) := (rfl)
theorem x_augIx {a i e : E} {o : BOp} : evS P C (.augIx a i o e) τ S = (evE P C a τ S).bind (k_ax1 P C i o e τ) := by simp only [evS] <;> rfl
def putF (f : Nat) (y : D) (τ : Env) (x : D) (S2 : Store) : R (Fl × Env) := match x with
    | .loc n => match S2[n]? with
      | some (.ins c fs) => if fs.length < 1000 then .ok (.nx, τ) (S2.set n (.ins c (fPut f y fs))) else .bad
      | _ => .bad
    | _ => .bad
noncomputable def k_fa (P : Prg) (C : Calls) (o : E) (f : Nat) (τ : Env) (y : D) (S : Store) : R (Fl × Env) := (evE P C o τ S).bind (putF f y τ)
theorem yk_fa   {o : E} {f : Nat}  {y : D} : k_fa P C o f τ y S = (evE P C o τ S).bind (putF f y τ) := (rfl)
theorem x_fasg {o e : E} {f : Nat} : evS P C (.fasg o f e) τ S = (evE P C e τ S).bind (k_fa P C o f τ) := by simp only [evS] <;> rfl
theorem x_putF {f : Nat} {y : D} {n c : Nat} {fs : List (Nat × D)} (h : S[n]? = some (.ins c fs)) (hl : fs.length < 1000) : putF f y τ (.loc n) S = .ok (.nx, τ) (S.set n (.ins c (fPut f y fs))) := by
  simp only [putF, h]
  exact if_pos hl
/-! ### expressions -/
theorem x_var {i : Nat} : evE P C (.var i) τ S = match τ[i]? with
    | some (some d) => .ok d S
    | _ => .bad := by simp only [evE] <;> rfl
theorem x_cst {t : T} : evE P C (.cst t) τ S = .ok (.t t) S := by simp only [evE] <;> rfl
def k_tup (ds : List D) (S : Store) : R D := if ds.length ≤ sizeLine then ofOpt ((allT ds).map fun ts => .t (.tup ts)) S else .bad
theorem yk_tup {ds : List D} (h : ds.length ≤ 16777216) : k_tup ds S = ofOpt ((allT ds).map fun ts => .t (.tup ts)) S := if_pos (by rw [sizeLine_eq]; exact h)
theorem x_tup {es : List E} : evE P C (.tup es) τ S = (evEs P C es τ S).bind k_tup := by simp only [evE] <;> rfl
noncomputable def k_fr  (ds : List D) (S : Store) : R D := ofOpt ((allT ds).map fun ts => .t (.lst ts)) S
theorem yk_fr  {ds : List D} : k_fr  ds S = ofOpt ((allT ds).map fun ts => .t (.lst ts)) S := (rfl)
theorem x_fr {f : F} : evE P C (.fr f) τ S = (evF P C f τ S).bind k_fr := by simp only [evE] <;> rfl
noncomputable def k_nw  (ds : List D) (S : Store) : R D := .ok (.loc S.length) (S ++ [.lst ds])
theorem yk_nw  {ds : List D} : k_nw  ds S = .ok (.loc S.length) (S ++ [.lst ds]) := (rfl)
theorem x_nw {f : F} : evE P C (.nw f) τ S = (evF P C f τ S).bind k_nw := by simp only [evE] <;> rfl
theorem x_dnw  : evE P C .dnw τ S = .ok (.loc S.length) (S ++ [.dic []]) := by simp only [evE] <;> rfl
def k_ddi (ks : List Key) (ds : List D) (S1 : Store) : R D := if ks.length = ds.length ∧ ks.length ≤ 15 ∧ ks.Nodup then .ok (.loc S1.length) (S1 ++ [.dic (ks.zip ds)]) else .bad
theorem yk_ddi {ks : List Key} {ds : List D} (h : ks.length = ds.length ∧ ks.length ≤ 15 ∧ ks.Nodup) : k_ddi ks ds S = .ok (.loc S.length) (S ++ [.dic (ks.zip ds)]) := if_pos h
theorem x_ddi {ks : List Key} {es : List E} : evE P C (.ddi ks es) τ S = (evEs P C es τ S).bind (k_ddi ks) := by simp only [evE] <;> rfl
def k_fz (d : D) (S1 : Store) : R D := match d with
    | .t x => .ok (.t x) S1
    | .loc n => match S1[n]? with
      | some (.lst ds) => ofOpt ((allT ds).map fun ts => .t (.lst ts)) (S1.set n .dead)
      | some (.dic ds) => ofOpt ((allTK ds).map fun ts => .t (.dic ts)) (S1.set n .dead)
      | some (.ins c ds) => ofOpt ((allTF ds).map fun ts => .t (.ins c ts)) (S1.set n .dead)
      | _ => .bad
theorem yk_fz {x : T} : k_fz (.t x) S = .ok (.t x) S := (rfl)
theorem yk_fzK {n : Nat} {ds : List (Key × D)} {ts : List (Key × T)} (h : S[n]? = some (.dic ds)) (ht : allTK ds = some ts) : k_fz (.loc n) S = .ok (.t (.dic ts)) (S.set n .dead) := by
  simp only [k_fz, h, ht]; rfl
theorem x_fz {e : E} : evE P C (.fz e) τ S = (evE P C e τ S).bind k_fz := by simp only [evE] <;> rfl
theorem x_fm {e : E} : evE P C (.fm e) τ S = (evE P C e τ S).bind evFm := by simp only [evE] <;> rfl
def k_js (y : Str) (S : Store) : R D := .ok (.t (.str y)) S
theorem yk_js {y : Str} : k_js y S = .ok (.t (.str y)) S := (rfl)
noncomputable def k_j (P : Prg) (C : Calls) (r : List E) (acc : Str) (τ : Env) (x : D) (S : Store) : R Str := match x with
    | .t (.str y) => if (acc ++ y).length ≤ sizeLine then evJ P C r (acc ++ y) τ S else .bad
    | _ => .bad
theorem yk_j {r : List E} {acc y : Str} (h : (acc ++ y).length ≤ sizeLine) : k_j P C r acc τ (.t (.str y)) S = evJ P C r (acc ++ y) τ S := if_pos h
theorem x_j0 {acc : Str} : evJ P C [] acc τ S = .ok acc S := by simp only [evJ] <;> rfl
theorem x_j1 {e : E} {r : List E} {acc : Str} : evJ P C (e :: r) acc τ S = (evE P C e τ S).bind (k_j P C r acc τ) := by simp only [evJ] <;> rfl
theorem x_js {es : List E} : evE P C (.js es) τ S = (evJ P C es Str.empty τ S).bind k_js := by simp only [evE] <;> rfl
noncomputable def k_b1 (P : Prg) (C : Calls) (o : BOp) (b : E) (τ : Env) (x : D) (S : Store) : R D := (evE P C b τ S).bind (evBin o x)
theorem yk_b1   {o : BOp} {b : E}  {x : D} : k_b1 P C o b τ x S = (evE P C b τ S).bind (evBin o x) := (rfl)
theorem x_bin {o : BOp} {a b : E} : evE P C (.bin o a b) τ S = (evE P C a τ S).bind (k_b1 P C o b τ) := by simp only [evE] <;> rfl
def negD (x : D) (S : Store) : R D := match x with
    | .t (.int i) => .ok (.t (.int (-i))) S
    | _ => .bad
theorem x_neg {a : E} : evE P C (.neg a) τ S = (evE P C a τ S).bind negD := by simp only [evE] <;> rfl
theorem x_negD {i : Int} : negD (.t (.int i)) S = .ok (.t (.int (-i))) S := (rfl)
noncomputable def k_c1 (P : Prg) (C : Calls) (o : COp) (b : E) (τ : Env) (x : D) (S : Store) : R D := (evE P C b τ S).bind (evCmp o x)
theorem yk_c1   {o : COp} {b : E}  {x : D} : k_c1 P C o b τ x S = (evE P C b τ S).bind (evCmp o x) := (rfl)
theorem x_cmp {o : COp} {a b : E} : evE P C (.cmp o a b) τ S = (evE P C a τ S).bind (k_c1 P C o b τ) := by simp only [evE] <;> rfl
noncomputable def k_and (P : Prg) (C : Calls) (b : E) (τ : Env) (x : D) (S : Store) : R D := match x with
    | .t (.bl true) => evE P C b τ S
    | .t (.bl false) => .ok (.t (.bl false)) S
    | _ => .bad
theorem yk_and1 {b : E} : k_and P C b τ (.t (.bl true)) S = evE P C b τ S := (rfl)
theorem yk_and0 {b : E} : k_and P C b τ (.t (.bl false)) S = .ok (.t (.bl false)) S := (rfl)
noncomputable def k_or (P : Prg) (C : Calls) (b : E) (τ : Env) (x : D) (S : Store) : R D := match x with
    | .t (.bl false) => evE P C b τ S
    | .t (.bl true) => .ok (.t (.bl true)) S
    | _ => .bad
theorem yk_or1 {b : E} : k_or P C b τ (.t (.bl true)) S = .ok (.t (.bl true)) S := (rfl)
theorem yk_or0 {b : E} : k_or P C b τ (.t (.bl false)) S = evE P C b τ S := (rfl)
theorem x_and {a b : E} : evE P C (.and_ a b) τ S = (evE P C a τ S).bind (k_and P C b τ) := by simp only [evE] <;> rfl
theorem x_or {a b : E} : evE P C (.or_ a b) τ S = (evE P C a τ S).bind (k_or P C b τ) := by simp only [evE] <;> rfl
noncomputable def k_d2 (P : Prg) (C : Calls) (p : COp) (c : E) (τ : Env) (y : D) (q : D) (S : Store) : R D := match q with
    | .t (.bl true) => (evE P C c τ S).bind (evCmp p y)
    | .t (.bl false) => .ok (.t (.bl false)) S
    | _ => .bad
theorem yk_d2   {p : COp} {c : E}  {y : D} {q : D} : k_d2 P C p c τ y q S = match q with
    | .t (.bl true) => (evE P C c τ S).bind (evCmp p y)
    | .t (.bl false) => .ok (.t (.bl false)) S
    | _ => .bad := (rfl)
theorem yk_d21 {p : COp} {c : E} {y : D} : k_d2 P C p c τ y (.t (.bl true)) S = (evE P C c τ S).bind (evCmp p y) := (rfl)
theorem yk_d20 {p : COp} {c : E} {y : D} : k_d2 P C p c τ y (.t (.bl false)) S = .ok (.t (.bl false)) S := (rfl)
noncomputable def k_d1b (P : Prg) (C : Calls) (o p : COp) (c : E) (τ : Env) (x : D) (y : D) (S : Store) : R D := (evCmp o x y S).bind (k_d2 P C p c τ y)
theorem yk_d1b   {o p : COp} {c : E}  {x : D} {y : D} : k_d1b P C o p c τ x y S = (evCmp o x y S).bind (k_d2 P C p c τ y) := (rfl)
noncomputable def k_d1 (P : Prg) (C : Calls) (o p : COp) (b c : E) (τ : Env) (x : D) (S : Store) : R D := (evE P C b τ S).bind (k_d1b P C o p c τ x)
theorem yk_d1   {o p : COp} {b c : E}  {x : D} : k_d1 P C o p b c τ x S = (evE P C b τ S).bind (k_d1b P C o p c τ x) := (rfl)
theorem x_cmp2 {o p : COp} {a b c : E} : evE P C (.cmp2 o p a b c) τ S = (evE P C a τ S).bind (k_d1 P C o p b c τ) := by simp only [evE] <;> rfl
noncomputable def k_not  (x : D) (S : Store) : R D := ofOpt ((truD S x).map fun b => .t (.bl (!b))) S
theorem yk_not  {x : D} : k_not  x S = ofOpt ((truD S x).map fun b => .t (.bl (!b))) S := (rfl)
theorem x_not {a : E} : evE P C (.not_ a) τ S = (evE P C a τ S).bind k_not := by simp only [evE] <;> rfl
noncomputable def k_ife (P : Prg) (C : Calls) (a b : E) (τ : Env) (q : Bool) (S : Store) : R D := if q = true then evE P C a τ S else evE P C b τ S
theorem yk_ife1 {a b : E} : k_ife P C a b τ true S = evE P C a τ S := (rfl)
theorem yk_ife0 {a b : E} : k_ife P C a b τ false S = evE P C b τ S := (rfl)
theorem x_ife {c a b : E} : evE P C (.ife c a b) τ S = (evT P C c τ S).bind (k_ife P C a b τ) := by
  simp only [evE]
  congr 1
  funext q S1
  cases q <;> rfl
noncomputable def k_fld (f : Nat) (x : D) (S : Store) : R D := evFld x f S
theorem yk_fld {f : Nat} {x : D} : k_fld f x S = evFld x f S := (rfl)
theorem x_fld {e : E} {f : Nat} : evE P C (.fld e f) τ S = (evE P C e τ S).bind (k_fld f) := by simp only [evE] <;> rfl
noncomputable def k_i1 (P : Prg) (C : Calls) (i : E) (τ : Env) (x : D) (S : Store) : R D := (evE P C i τ S).bind (evIdx x)
theorem yk_i1   {i : E}  {x : D} : k_i1 P C i τ x S = (evE P C i τ S).bind (evIdx x) := (rfl)
theorem x_idx {a i : E} : evE P C (.idx a i) τ S = (evE P C a τ S).bind (k_i1 P C i τ) := by simp only [evE] <;> rfl
theorem x_bi {b : Bi} {es : List E} : evE P C (.bi b es) τ S = (evEs P C es τ S).bind (evBi b) := by simp only [evE] <;> rfl
noncomputable def k_bm (P : Prg) (C : Calls) (b : Bm) (es : List E) (τ : Env) (x : D) (S : Store) : R D := if tyD S x = some (.inl b.ty) then (evEs P C es τ S).bind (evBm b x) else .bad
theorem yk_bm {b : Bm} {es : List E} {x : D} (h : tyD S x = some (.inl b.ty)) : k_bm P C b es τ x S = (evEs P C es τ S).bind (evBm b x) := if_pos h
theorem x_bm {b : Bm} {o : E} {es : List E} : evE P C (.bm b o es) τ S = (evE P C o τ S).bind (k_bm P C b es τ) := by simp only [evE] <;> rfl
noncomputable def k_isi (P : Prg) (cs : List Cl) (x : D) (S : Store) : R D := ofOpt ((tyD S x).bind fun q => (isAny P.isa q cs).map fun b => .t (.bl b)) S
theorem yk_isi  {cs : List Cl} {x : D} : k_isi P cs x S = ofOpt ((tyD S x).bind fun q => (isAny P.isa q cs).map fun b => .t (.bl b)) S := (rfl)
theorem x_isi {e : E} {cs : List Cl} : evE P C (.isi e cs) τ S = (evE P C e τ S).bind (k_isi P cs) := by simp only [evE] <;> rfl
noncomputable def k_call (C : Calls) (m : Md) (f : Nat) (df : List T) (ds : List D) (S : Store) : R D := fin m S (C f (ds ++ df.map .t) S)
theorem yk_call  {m : Md} {f : Nat} {df : List T} {ds : List D} : k_call C m f df ds S = fin m S (C f (ds ++ df.map .t) S) := (rfl)
theorem x_call {m : Md} {f : Nat} {es : List E} {df : List T} : evE P C (.call m f es df) τ S = (evEs P C es τ S).bind (k_call C m f df) := by simp only [evE] <;> rfl
noncomputable def k_cm (C : Calls) (m : Md) (f : Nat) (df : List T) (y : D) (ds : List D) (S : Store) : R D := fin m S (C f (y :: (ds ++ df.map .t)) S)
theorem yk_cm  {m : Md} {f : Nat} {df : List T} {y : D} {ds : List D} : k_cm C m f df y ds S = fin m S (C f (y :: (ds ++ df.map .t)) S) := (rfl)
noncomputable def mq (P : Prg) (C : Calls) (m : Md) (x : Nat) (es : List E) (df : List T) (τ : Env) (y : D) (S1 : Store) : R D := match (clsD S1 y).bind fun c => P.meth c x with
    | some f => (evEs P C es τ S1).bind (k_cm C m f df y)
    | none => .bad
theorem x_meth {m : Md} {x : Nat} {o : E} {es : List E} {df : List T} : evE P C (.meth m x o es df) τ S = (evE P C o τ S).bind (mq P C m x es df τ) := by simp only [evE] <;> rfl
theorem x_mq {m : Md} {x : Nat} {es : List E} {df : List T} {y : D} {c f : Nat} (hc : clsD S y = some c) (hm : P.meth c x = some f) : mq P C m x es df τ y S = (evEs P C es τ S).bind (k_cm C m f df y) := by
  simp only [mq, hc, Option.bind_some, hm]
noncomputable def kq (P : Prg) (C : Calls) (m : Md) (c : Nat) (df : List T) (ds : List D) (S1 : Store) : R D := match P.init c with
    | some f => fin m S1 ((C f (.loc S1.length :: (ds ++ df.map .t)) (S1 ++ [.ins c []])).bind fun q S2 => match q with
      | .t .non => .ok (.loc S1.length) S2
      | _ => .bad)
    | none => .bad
theorem x_mk {m : Md} {c : Nat} {es : List E} {df : List T} : evE P C (.mk m c es df) τ S = (evEs P C es τ S).bind (kq P C m c df) := by simp only [evE] <;> rfl
def nq (n : Nat) : D → Store → R D
  | .t .non, S => .ok (.loc n) S
  | _, _ => .bad
theorem x_nq {n : Nat} : nq n (.t .non) S = .ok (.loc n) S := (rfl)
theorem x_kq {m : Md} {c f : Nat} {df : List T} {ds : List D} (h : P.init c = some f) : kq P C m c df ds S = fin m S ((C f (.loc S.length :: (ds ++ df.map .t)) (S ++ [.ins c []])).bind (nq S.length)) := by
  simp only [kq, h]
  congr 2
  funext q S2
  cases q with
  | loc n => rfl
  | t x => cases x <;> rfl
/-! ### tests -/
noncomputable def k_ta (P : Prg) (C : Calls) (b : E) (τ : Env) (x : Bool) (S : Store) : R Bool := if x = true then evT P C b τ S else .ok false S
theorem yk_ta1 {b : E} : k_ta P C b τ true S = evT P C b τ S := (rfl)
theorem yk_ta0 {b : E} : k_ta P C b τ false S = .ok false S := (rfl)
noncomputable def k_to (P : Prg) (C : Calls) (b : E) (τ : Env) (x : Bool) (S : Store) : R Bool := if x = true then .ok true S else evT P C b τ S
theorem yk_to1 {b : E} : k_to P C b τ true S = .ok true S := (rfl)
theorem yk_to0 {b : E} : k_to P C b τ false S = evT P C b τ S := (rfl)
theorem x_tand {a b : E} : evT P C (.and_ a b) τ S = (evT P C a τ S).bind (k_ta P C b τ) := by
  simp only [evT]
  congr 1
  funext q S1
  cases q <;> rfl
theorem x_tor {a b : E} : evT P C (.or_ a b) τ S = (evT P C a τ S).bind (k_to P C b τ) := by
  simp only [evT]
  congr 1
  funext q S1
  cases q <;> rfl
def k_tn (x : Bool) (S : Store) : R Bool := .ok (!x) S
theorem yk_tn {x : Bool} : k_tn x S = .ok (!x) S := (rfl)
theorem x_tnot {a : E} : evT P C (.not_ a) τ S = (evT P C a τ S).bind k_tn := by simp only [evT] <;> rfl
/-- a test that is none of and, or, not -/
def tq (x : D) (S : Store) : R Bool := ofOpt (truD S x) S
theorem x_tq {b : Bool} : tq (.t (.bl b)) S = .ok b S := (rfl)
theorem x_tqi {i : Int} : tq (.t (.int i)) S = .ok (i != 0) S := (rfl)
theorem x_tqn : tq (.t .non) S = .ok false S := (rfl)
theorem x_tcmp {o : COp} {a b : E} : evT P C (.cmp o a b) τ S = (evE P C (.cmp o a b) τ S).bind tq := by simp only [evT] <;> rfl
theorem x_tcmp2 {o p : COp} {a b c : E} : evT P C (.cmp2 o p a b c) τ S = (evE P C (.cmp2 o p a b c) τ S).bind tq := by simp only [evT] <;> rfl
theorem x_tisi {e : E} {cs : List Cl} : evT P C (.isi e cs) τ S = (evE P C (.isi e cs) τ S).bind tq := by simp only [evT] <;> rfl
theorem x_tcall {m : Md} {f : Nat} {es : List E} {df : List T} : evT P C (.call m f es df) τ S = (evE P C (.call m f es df) τ S).bind tq := by simp only [evT] <;> rfl
theorem x_tmeth {m : Md} {x : Nat} {o : E} {es : List E} {df : List T} : evT P C (.meth m x o es df) τ S = (evE P C (.meth m x o es df) τ S).bind tq := by simp only [evT] <;> rfl
theorem x_tbi {b : Bi} {es : List E} : evT P C (.bi b es) τ S = (evE P C (.bi b es) τ S).bind tq := by simp only [evT] <;> rfl
theorem x_tvar {i : Nat} : evT P C (.var i) τ S = (evE P C (.var i) τ S).bind tq := by simp only [evT] <;> rfl
theorem x_tidx {a i : E} : evT P C (.idx a i) τ S = (evE P C (.idx a i) τ S).bind tq := by simp only [evT] <;> rfl
theorem x_tife {c a b : E} : evT P C (.ife c a b) τ S = (evE P C (.ife c a b) τ S).bind tq := by simp only [evT] <;> rfl
theorem x_tfld {e : E} {f : Nat} : evT P C (.fld e f) τ S = (evE P C (.fld e f) τ S).bind tq := by simp only [evT] <;> rfl
theorem x_tbm {b : Bm} {o : E} {es : List E} : evT P C (.bm b o es) τ S = (evE P C (.bm b o es) τ S).bind tq := by simp only [evT] <;> rfl
noncomputable def k_ts (P : Prg) (C : Calls) (r : List E) (τ : Env) (x : Bool) (S : Store) : R Bool := if x = true then evTs P C r τ S else .ok false S
theorem yk_ts1 {r : List E} : k_ts P C r τ true S = evTs P C r τ S := (rfl)
theorem yk_ts0 {r : List E} : k_ts P C r τ false S = .ok false S := (rfl)
theorem x_ts_nil : evTs P C [] τ S = .ok true S := by simp only [evTs] <;> rfl
theorem x_ts_cons {e : E} {r : List E} : evTs P C (e :: r) τ S = (evT P C e τ S).bind (k_ts P C r τ) := by
  simp only [evTs]
  congr 1
  funext q S1
  cases q <;> rfl
theorem x_es_nil : evEs P C [] τ S = .ok [] S := by simp only [evEs] <;> rfl
def k_cons (d : D) (ds : List D) (S : Store) : R (List D) := .ok (d :: ds) S
theorem yk_cons {d : D} {ds : List D} : k_cons d ds S = .ok (d :: ds) S := (rfl)
noncomputable def k_es (P : Prg) (C : Calls) (r : List E) (τ : Env) (d : D) (S : Store) : R (List D) := (evEs P C r τ S).bind (k_cons d)
theorem yk_es   {r : List E}  {d : D} : k_es P C r τ d S = (evEs P C r τ S).bind (k_cons d) := (rfl)
theorem x_es_cons {e : E} {r : List E} : evEs P C (e :: r) τ S = (evE P C e τ S).bind (k_es P C r τ) := by simp only [evEs] <;> rfl
/-! ### fresh lists -/
def k_disp (ds : List D) (S : Store) : R (List D) := if ds.length ≤ sizeLine then .ok ds S else .bad
theorem yk_disp {ds : List D} (h : ds.length ≤ 16777216) : k_disp ds S = .ok ds S := if_pos (by rw [sizeLine_eq]; exact h)
theorem x_disp {es : List E} : evF P C (.disp es) τ S = (evEs P C es τ S).bind k_disp := by simp only [evF] <;> rfl
def k_cat2 (x y : D) (S : Store) : R (List D) := ofOpt ((itsD S x).bind fun xs => (itsD S y).bind fun ys => if xs.length + ys.length ≤ sizeLine then some (xs ++ ys) else none) S
theorem yk_cat2 {x y : D} {xs ys : List D} (hx : itsD S x = some xs) (hy : itsD S y = some ys) (h : xs.length + ys.length ≤ 16777216) : k_cat2 x y S = .ok (xs ++ ys) S := by
  simp only [k_cat2, hx, hy, Option.bind_some]
  rw [if_pos (by rw [sizeLine_eq]; exact h)]; rfl
noncomputable def k_cat1 (P : Prg) (C : Calls) (b : E) (τ : Env) (x : D) (S : Store) : R (List D) := (evE P C b τ S).bind (k_cat2 x)
theorem yk_cat1   {b : E}  {x : D} : k_cat1 P C b τ x S = (evE P C b τ S).bind (k_cat2 x) := (rfl)
theorem x_cat {a b : E} : evF P C (.cat a b) τ S = (evE P C a τ S).bind (k_cat1 P C b τ) := by simp only [evF] <;> rfl
noncomputable def k_rep2 (x y : D) (S : Store) : R (List D) := match y with
    | .t (.int k) => ofOpt ((itsD S x).bind fun xs => @ite _ (-(2 ^ 63) ≤ k ∧ k < 2 ^ 63 ∧ xs.length * k.toNat ≤ sizeLine) (Classical.propDecidable _) (some ((List.replicate k.toNat xs).flatten)) none) S
    | _ => .bad
theorem yk_rep2 {x : D} {xs : List D} {k : Int} (hx : itsD S x = some xs) (h1 : -1000000 ≤ k ∧ k ≤ 1000000) (h : xs.length * k.toNat ≤ 16777216) : k_rep2 x (.t (.int k)) S = .ok ((List.replicate k.toNat xs).flatten) S := by
  simp only [k_rep2, hx, Option.bind_some]
  rw [if_pos ⟨by omega, by omega, by rw [sizeLine_eq]; exact h⟩]; rfl
noncomputable def k_rep1 (P : Prg) (C : Calls) (n : E) (τ : Env) (x : D) (S : Store) : R (List D) := (evE P C n τ S).bind (k_rep2 x)
theorem yk_rep1   {n : E}  {x : D} : k_rep1 P C n τ x S = (evE P C n τ S).bind (k_rep2 x) := (rfl)
theorem x_rep {a n : E} : evF P C (.rep a n) τ S = (evE P C a τ S).bind (k_rep1 P C n τ) := by simp only [evF] <;> rfl
noncomputable def k_slc3 (x : D) (l : Option Int) (h : Option Int) (S : Store) : R (List D) := ofOpt ((itsD S x).map fun xs => cutD xs l h) S
theorem yk_slc3 {x : D} {l : Option Int} {h : Option Int} : k_slc3 x l h S = ofOpt ((itsD S x).map fun xs => cutD xs l h) S := (rfl)
noncomputable def k_slc2 (P : Prg) (C : Calls) (hi : Option E) (τ : Env) (x : D) (l : Option Int) (S : Store) : R (List D) := (evO P C hi τ S).bind (k_slc3 x l)
theorem yk_slc2   {hi : Option E}  {x : D} {l : Option Int} : k_slc2 P C hi τ x l S = (evO P C hi τ S).bind (k_slc3 x l) := (rfl)
noncomputable def k_slc1 (P : Prg) (C : Calls) (lo hi : Option E) (τ : Env) (x : D) (S : Store) : R (List D) := (evO P C lo τ S).bind (k_slc2 P C hi τ x)
theorem yk_slc1   {lo hi : Option E}  {x : D} : k_slc1 P C lo hi τ x S = (evO P C lo τ S).bind (k_slc2 P C hi τ x) := (rfl)
theorem x_slc {a : E} {lo hi : Option E} : evF P C (.slc a lo hi) τ S = (evE P C a τ S).bind (k_slc1 P C lo hi τ) := by simp only [evF] <;> rfl
noncomputable def k_rev  (x : D) (S : Store) : R (List D) := ofOpt ((itsD S x).map List.reverse) S
theorem yk_rev  {x : D} : k_rev  x S = ofOpt ((itsD S x).map List.reverse) S := (rfl)
theorem x_rev {a : E} : evF P C (.rev a) τ S = (evE P C a τ S).bind k_rev := by simp only [evF] <;> rfl
noncomputable def k_lof  (x : D) (S : Store) : R (List D) := ofOpt (itsD S x) S
theorem yk_lof  {x : D} : k_lof  x S = ofOpt (itsD S x) S := (rfl)
theorem x_listOf {e : E} : evF P C (.listOf e) τ S = (evE P C e τ S).bind k_lof := by simp only [evF] <;> rfl
noncomputable def k_kof  (x : D) (S : Store) : R (List D) := ofOpt ((keysD S x).map fun ks => ks.map fun k => .t (keyT k)) S
theorem yk_kof  {x : D} : k_kof  x S = ofOpt ((keysD S x).map fun ks => ks.map fun k => .t (keyT k)) S := (rfl)
theorem x_keysOf {e : E} : evF P C (.keysOf e) τ S = (evE P C e τ S).bind k_kof := by simp only [evF] <;> rfl
noncomputable def k_rng  (ds : List D) (S : Store) : R (List D) := ofOpt ((rngI ds).bind fun ns => if ns.length ≤ 16777216 then some (ns.map fun n => .t (.int n)) else none) S
theorem yk_rng  {ds : List D} : k_rng  ds S = ofOpt ((rngI ds).bind fun ns => if ns.length ≤ 16777216 then some (ns.map fun n => .t (.int n)) else none) S := (rfl)
theorem x_frng {es : List E} : evF P C (.rng es) τ S = (evEs P C es τ S).bind k_rng := by simp only [evF] <;> rfl
noncomputable def k_srt  (x : D) (S : Store) : R (List D) := ofOpt ((lstT S x).bind fun ts => (intsT ts).map fun ns => (ns.mergeSort (fun a b => decide (a ≤ b))).map fun n => .t (.int n)) S
theorem yk_srt  {x : D} : k_srt  x S = ofOpt ((lstT S x).bind fun ts => (intsT ts).map fun ns => (ns.mergeSort (fun a b => decide (a ≤ b))).map fun n => .t (.int n)) S := (rfl)
theorem x_sorted {e : E} : evF P C (.sorted e) τ S = (evE P C e τ S).bind k_srt := by simp only [evF] <;> rfl
theorem x_comp {tg : Tg} {it : Ev.It} {ifs : List E} {e : E} : evF P C (.comp tg it ifs e) τ S = (evIt P C it τ S).bind (cmpS P C tg ifs e τ) := by
  have hc : ∀ d, (fun S => ((asgT P C tg d (wipeE τ (tgVars tg)) S).bind fun τ' S' => (evTs P C ifs τ' S').bind fun b S2 => bif b then (evE P C e τ' S2).bind fun y S3 => .ok (some y) S3 else .ok none S2).noX) = bodyC P C tg ifs e τ d := by
    intro d
    funext S
    unfold bodyC
    congr 2
    funext τ' S'
    unfold cq
    congr 1
    funext b S2
    cases b <;> rfl
  have hc2 : (fun (d : D) (S : Store) => ((asgT P C tg d (wipeE τ (tgVars tg)) S).bind fun τ' S' => (evTs P C ifs τ' S').bind fun b S2 => bif b then (evE P C e τ' S2).bind fun y S3 => .ok (some y) S3 else .ok none S2).noX) = bodyC P C tg ifs e τ := funext hc
  simp only [evF]
  congr 1
  funext src S1
  cases src with
  | ds ds => show cmpL _ ds [] S1 = cmpL _ ds [] S1; rw [hc2]
  | cell n k => show cmpC n _ k 0 [] S1 = cmpC n _ k 0 [] S1; rw [hc2]
noncomputable def k_src  (x : D) (S : Store) : R Src := ofOpt (srcOf S x) S
theorem yk_src  {x : D} : k_src  x S = ofOpt (srcOf S x) S := (rfl)
theorem x_ival {e : E} : evIt P C (.val e) τ S = (evE P C e τ S).bind k_src := by simp only [evIt] <;> rfl
noncomputable def k_irng  (ds : List D) (S : Store) : R Src := ofOpt ((rngI ds).map fun ns => .ds (ns.map fun n => .t (.int n))) S
theorem yk_irng  {ds : List D} : k_irng  ds S = ofOpt ((rngI ds).map fun ns => .ds (ns.map fun n => .t (.int n))) S := (rfl)
theorem x_irng {es : List E} : evIt P C (.rng es) τ S = (evEs P C es τ S).bind k_irng := by simp only [evIt] <;> rfl
noncomputable def k_ienu  (x : D) (S : Store) : R Src := ofOpt ((lstTr x).map fun ts => .ds ((List.range ts.length).zip ts |>.map fun (p : Nat × T) => .t (.tup [.int ((p.1 : Nat) : Int), p.2]))) S
theorem yk_ienu  {x : D} : k_ienu  x S = ofOpt ((lstTr x).map fun ts => .ds ((List.range ts.length).zip ts |>.map fun (p : Nat × T) => .t (.tup [.int ((p.1 : Nat) : Int), p.2]))) S := (rfl)
theorem x_ienu {e : E} : evIt P C (.enu e) τ S = (evE P C e τ S).bind k_ienu := by simp only [evIt] <;> rfl
noncomputable def k_iz2 (x : D) (y : D) (S : Store) : R Src := ofOpt ((lstTr x).bind fun xs => (lstTr y).map fun ys => .ds ((xs.zip ys).map fun p => .t (.tup [p.1, p.2]))) S
theorem yk_iz2 {x : D} {y : D} : k_iz2 x y S = ofOpt ((lstTr x).bind fun xs => (lstTr y).map fun ys => .ds ((xs.zip ys).map fun p => .t (.tup [p.1, p.2]))) S := (rfl)
noncomputable def k_iz1 (P : Prg) (C : Calls) (b : E) (τ : Env) (x : D) (S : Store) : R Src := (evE P C b τ S).bind (k_iz2 x)
theorem yk_iz1   {b : E}  {x : D} : k_iz1 P C b τ x S = (evE P C b τ S).bind (k_iz2 x) := (rfl)
theorem x_izip {a b : E} : evIt P C (.zip a b) τ S = (evE P C a τ S).bind (k_iz1 P C b τ) := by simp only [evIt] <;> rfl
theorem x_o_none  : evO P C none τ S = .ok none S := by simp only [evO] <;> rfl
def oq (x : D) (S : Store) : R (Option Int) := match x with
    | .t (.int i) => .ok (some i) S
    | _ => .bad
theorem x_oq {i : Int} : oq (.t (.int i)) S = .ok (some i) S := (rfl)
theorem x_o_some {e : E} : evO P C (some e) τ S = (evE P C e τ S).bind oq := by simp only [evO] <;> rfl
/-! ### targets -/
theorem x_nm {i : Nat} {d : D} : asgT P C (.nm i) d τ S = .ok (τ.set i (some d)) S := by simp only [asgT] <;> rfl
theorem x_tp {ts : List Tg} {xs : List T} (h : xs.length = ts.length) : asgT P C (.tp ts) (.t (.tup xs)) τ S = asgTs P C ts (xs.map .t) τ S := by simp only [asgT, tupD]; exact if_pos h
def k_eu (τ : Env) (u : Unit) (S : Store) : R Env := .ok τ S
theorem yk_eu {u : Unit} : k_eu τ u S = .ok τ S := (rfl)
noncomputable def k_ix2 (τ : Env) (d x : D) (y : D) (S : Store) : R Env := (evPut x y d S).bind (k_eu τ)
theorem yk_ix2  {d x : D} {y : D} : k_ix2 τ d x y S = (evPut x y d S).bind (k_eu τ) := (rfl)
noncomputable def k_ix1 (P : Prg) (C : Calls) (i : E) (τ : Env) (d : D) (x : D) (S : Store) : R Env := (evE P C i τ S).bind (k_ix2 τ d x)
theorem yk_ix1   {i : E}  {d : D} {x : D} : k_ix1 P C i τ d x S = (evE P C i τ S).bind (k_ix2 τ d x) := (rfl)
theorem x_tl {ts : List Tg} {xs : List T} (h : xs.length = ts.length) : asgT P C (.tp ts) (.t (.lst xs)) τ S = asgTs P C ts (xs.map .t) τ S := by simp only [asgT, tupD]; exact if_pos h
theorem x_ix {a i : E} {d : D} : asgT P C (.ix a i) d τ S = ((evE P C a τ S).bind (k_ix1 P C i τ d)).noX := by simp only [asgT] <;> rfl
theorem x_ts0  : asgTs P C [] [] τ S = .ok τ S := by simp only [asgTs] <;> rfl
noncomputable def k_at (P : Prg) (C : Calls) (r : List Tg) (ds : List D) (τ : Env) (S : Store) : R Env := asgTs P C r ds τ S
theorem yk_at {r : List Tg} {ds : List D} : k_at P C r ds τ S = asgTs P C r ds τ S := (rfl)
theorem x_ts1 {t : Tg} {r : List Tg} {d : D} {ds : List D} : asgTs P C (t :: r) (d :: ds) τ S = (asgT P C t d τ S).bind (k_at P C r ds) := by simp only [asgTs] <;> rfl
end
end Ev
end

section
set_option Elab.async false
set_option linter.all false
namespace Ev
open PySem PyProof.Rows L2
section
variable {P : Prg} {C : Calls} {τ : Env} {S : Store} {i j : Int} {xs : List T} {n : Nat}
theorem x_bodyF {t : Tg} {b : List Sm} {d : D} : bodyF P C t b d τ S = (asgT P C t d τ S).bind (evSs P C b) := (rfl)
theorem x_bodyW {b : List Sm} : bodyW P C b τ S = evSs P C b τ S := (rfl)
theorem x_condW {c : E} : condW P C c τ S = evT P C c τ S := (rfl)
theorem x_bodyC {tg : Tg} {ifs : List E} {e : E} {d : D} : bodyC P C tg ifs e τ d S = ((asgT P C tg d (wipeE τ (tgVars tg)) S).bind (cq P C ifs e)).noX := (rfl)
theorem x_cq {ifs : List E} {e : E} : cq P C ifs e τ S = (evTs P C ifs τ S).bind (cq2 P C e τ) := (rfl)
def k_some (y : D) (S : Store) : R (Option D) := .ok (some y) S
theorem yk_some {y : D} : k_some y S = .ok (some y) S := (rfl)
theorem x_cq21 {e : E} : cq2 P C e τ true S = (evE P C e τ S).bind k_some := (rfl)
theorem x_cq20 {e : E} : cq2 P C e τ false S = .ok none S := (rfl)
theorem x_frv {i : Nat} : evS P C (.frv i) τ S = match τ[i]? with
    | some (some (.loc n)) => (match S[n]? with
      | some (.lst ds) => ofOpt ((allT ds).map fun ts => (.nx, τ.set i (some (.t (.lst ts))))) (S.set n .dead)
      | some (.dic ds) => ofOpt ((allTK ds).map fun ts => (.nx, τ.set i (some (.t (.dic ts))))) (S.set n .dead)
      | some (.ins c ds) => ofOpt ((allTF ds).map fun ts => (.nx, τ.set i (some (.t (.ins c ts))))) (S.set n .dead)
      | _ => .bad)
    | some (some (.t _)) => .ok (.nx, τ) S
    | _ => .bad := by simp only [evS] <;> rfl
/-! ### a truth that isn't known -/
section
variable {Q : Fl × Env → Store → Prop} {Qd : D → Store → Prop} {Qb : Bool → Store → Prop} {Qo : Option D → Store → Prop} {E : Exn → Store → Prop} {q : Bool}
theorem w_if {a b : List Sm} (h1 : q = true → wp (evSs P C a τ S) Q E) (h0 : q = false → wp (evSs P C b τ S) Q E) : wp (k_if P C a b τ q S) Q E := by
  cases q
  · exact h0 rfl
  · exact h1 rfl
theorem w_ifd {a b : List Sm} {p : Prop} [Decidable p] (h1 : p → wp (evSs P C a τ S) Q E) (h0 : ¬ p → wp (evSs P C b τ S) Q E) : wp (k_if P C a b τ (decide p) S) Q E := w_if (fun h => h1 (of_decide_eq_true h)) fun h => h0 (of_decide_eq_false h)
theorem w_ifn {a b : List Sm} {p : Prop} [Decidable p] (h1 : ¬ p → wp (evSs P C a τ S) Q E) (h0 : p → wp (evSs P C b τ S) Q E) : wp (k_if P C a b τ (!decide p) S) Q E := w_if (fun h => h1 (by simpa using h)) fun h => h0 (by simpa using h)
/-- a try: what is caught -/
def caught (P : Prg) (c i j : Nat) (h : Hx) (τ : Env) (Q : Fl × Env → Store → Prop) (E : Exn → Store → Prop) (e : Exn) (S : Store) : Prop := match P.xmat e.cls c with
  | some true => e.fs = [] ∧ ∃ r, evH P.xisa h e.cls = some r ∧ Q (.nx, (τ.set j (some (.t (.bl r)))).set i none) S
  | some false => E e S
  | none => False
theorem w_tr {c i j : Nat} {b : Sm} {h : Hx} : wp (evS P C (.tr c i b j h) τ S) Q E = wp (evS P C b τ S) Q (caught P c i j h τ Q E) := by
  simp only [evS]
  cases evS P C b τ S with
  | ok a S1 => rfl
  | bad => rfl
  | exc e S1 =>
    simp only [wp, caught]
    cases P.xmat e.cls c with
    | none => rfl
    | some k =>
      cases k with
      | false => rfl
      | true =>
        simp only
        cases e.fs with
        | cons x r => simp
        | nil =>
          cases evH P.xisa h e.cls with
          | none => simp
          | some r => simp
theorem caught_yes {c i j k : Nat} {h : Hx} {r : Bool} (hm : P.xmat k c = some true) (hr : evH P.xisa h k = some r) (hq : Q (.nx, (τ.set j (some (.t (.bl r)))).set i none) S) : caught P c i j h τ Q E ⟨k, []⟩ S := by
  simp only [caught, hm]
  exact ⟨trivial, r, hr, hq⟩
theorem w_and {b : Ev.E} (h1 : q = true → wp (evE P C b τ S) Qd E) (h0 : q = false → Qd (.t (.bl false)) S) : wp (k_and P C b τ (.t (.bl q)) S) Qd E := by
  cases q
  · exact h0 rfl
  · exact h1 rfl
theorem w_or {b : Ev.E} (h1 : q = true → Qd (.t (.bl true)) S) (h0 : q = false → wp (evE P C b τ S) Qd E) : wp (k_or P C b τ (.t (.bl q)) S) Qd E := by
  cases q
  · exact h0 rfl
  · exact h1 rfl
theorem w_d2 {p : COp} {c : Ev.E} {y : D} (h1 : q = true → wp ((evE P C c τ S).bind (evCmp p y)) Qd E) (h0 : q = false → Qd (.t (.bl false)) S) : wp (k_d2 P C p c τ y (.t (.bl q)) S) Qd E := by
  cases q
  · exact h0 rfl
  · exact h1 rfl
theorem w_ta {b : Ev.E} (h1 : q = true → wp (evT P C b τ S) Qb E) (h0 : q = false → Qb false S) : wp (k_ta P C b τ q S) Qb E := by
  cases q
  · exact h0 rfl
  · exact h1 rfl
theorem w_to {b : Ev.E} (h1 : q = true → Qb true S) (h0 : q = false → wp (evT P C b τ S) Qb E) : wp (k_to P C b τ q S) Qb E := by
  cases q
  · exact h0 rfl
  · exact h1 rfl
theorem w_ts {r : List Ev.E} (h1 : q = true → wp (evTs P C r τ S) Qb E) (h0 : q = false → Qb false S) : wp (k_ts P C r τ q S) Qb E := by
  cases q
  · exact h0 rfl
  · exact h1 rfl
theorem w_ife {a b : Ev.E} (h1 : q = true → wp (evE P C a τ S) Qd E) (h0 : q = false → wp (evE P C b τ S) Qd E) : wp (k_ife P C a b τ q S) Qd E := by
  cases q
  · exact h0 rfl
  · exact h1 rfl
theorem w_cq2 {e : Ev.E} (h1 : q = true → wp (evE P C e τ S) (fun y S => Qo (some y) S) E) (h0 : q = false → Qo none S) : wp (cq2 P C e τ q S) Qo E := by
  cases q
  · exact h0 rfl
  · rw [x_cq21, y_bind]; exact h1 rfl
end
/-! ### values -/
theorem v_lt : evCmp .lt (.t (.int i)) (.t (.int j)) S = .ok (.t (.bl (decide (i < j)))) S := (rfl)
theorem v_le : evCmp .le (.t (.int i)) (.t (.int j)) S = .ok (.t (.bl (decide (i ≤ j)))) S := (rfl)
theorem v_gt : evCmp .gt (.t (.int i)) (.t (.int j)) S = .ok (.t (.bl (decide (j < i)))) S := (rfl)
theorem v_ge : evCmp .ge (.t (.int i)) (.t (.int j)) S = .ok (.t (.bl (decide (j ≤ i)))) S := (rfl)
theorem v_is {x : D} : evCmp .is_ x (.t .non) S = .ok (.t (.bl (isNone x))) S := (rfl)
theorem v_isn {x : D} : evCmp .isn x (.t .non) S = .ok (.t (.bl (!isNone x))) S := (rfl)
theorem v_in {x y : D} : evCmp .in_ x y S = ofOpt ((inD S x y).map fun b => .t (.bl b)) S := (rfl)
theorem v_nin {x y : D} : evCmp .nin x y S = ofOpt ((inD S x y).map fun b => .t (.bl (!b))) S := (rfl)
theorem datOf_int : datOf S (.t (.int i)) = some (.int i) := by
  simp only [datOf, rdT, Option.bind_some, T.dat]
  rfl
theorem v_eqi : evCmp .eq (.t (.int i)) (.t (.int j)) S = .ok (.t (.bl (decide (i = j)))) S := by
  simp only [evCmp, datOf_int, Option.bind_some, Option.map_some, PyData.eqv, ofOpt_some]
  congr 3
theorem v_nei : evCmp .ne (.t (.int i)) (.t (.int j)) S = .ok (.t (.bl (!decide (i = j)))) S := by
  simp only [evCmp, datOf_int, Option.bind_some, Option.map_some, PyData.eqv, ofOpt_some]
  congr 4
theorem v_add : evBin .add (.t (.int i)) (.t (.int j)) S = .ok (.t (.int (i + j))) S := (rfl)
theorem v_sub : evBin .sub (.t (.int i)) (.t (.int j)) S = .ok (.t (.int (i - j))) S := (rfl)
theorem v_bxor : evBin .bxor (.t (.int i)) (.t (.int j)) S = .ok (.t (.int (Builtin.bitXor i j))) S := (rfl)
theorem v_band : evBin .band (.t (.int i)) (.t (.int j)) S = .ok (.t (.int (Builtin.bitAnd i j))) S := (rfl)
theorem v_bor : evBin .bor (.t (.int i)) (.t (.int j)) S = .ok (.t (.int (Builtin.bitOr i j))) S := (rfl)
theorem v_mul (h : (-(2 ^ 64) < i ∧ i < 2 ^ 64) ∨ (-(2 ^ 64) < j ∧ j < 2 ^ 64)) : evBin .mul (.t (.int i)) (.t (.int j)) S = .ok (.t (.int (i * j))) S := by
  simp only [evBin, tBin, numOp, if_pos h]; rfl
theorem v_fdiv (h : 0 < j ∧ j < 1073741824) : evBin .fdiv (.t (.int i)) (.t (.int j)) S = .ok (.t (.int (i / j))) S := by
  simp only [evBin, tBin, numOp, if_pos h]; rfl
theorem v_mod (h : 0 < j) : evBin .mod (.t (.int i)) (.t (.int j)) S = .ok (.t (.int (i % j))) S := by
  simp only [evBin, tBin, numOp, if_pos h]; rfl
theorem v_pow (h : 0 ≤ j ∧ j ≤ 1000000 ∧ i.natAbs < 2 ^ 64) : evBin .pow (.t (.int i)) (.t (.int j)) S = .ok (.t (.int (i ^ j.toNat))) S := by
  simp only [evBin, tBin, numOp, if_pos h]; rfl
theorem v_shl (h : 0 ≤ j ∧ j ≤ 1000000 ∧ i.natAbs < 2 ^ 64) : evBin .shl (.t (.int i)) (.t (.int j)) S = .ok (.t (.int (i * 2 ^ j.toNat))) S := by
  simp only [evBin, tBin, numOp, if_pos h]; rfl
theorem v_shr (h : 0 ≤ j) : evBin .shr (.t (.int i)) (.t (.int j)) S = .ok (.t (.int (i / 2 ^ j.toNat))) S := by
  simp only [evBin, tBin, numOp, if_pos h]; rfl
theorem v_tru {b : Bool} : truD S (.t (.bl b)) = some b := (rfl)
theorem v_len {x : D} : evBi .len [x] S = ofOpt ((lenD S x).map fun (n : Nat) => .t (.int (n : Nat))) S := (rfl)
theorem v_lenT : lenD S (.t (.lst xs)) = some xs.length := (rfl)
theorem v_lenU : lenD S (.t (.tup xs)) = some xs.length := (rfl)
theorem v_lenA {ns : List Int} : lenD S (.t (.arg ns)) = some ns.length := (rfl)
theorem v_lenL {ds : List D} (h : S[n]? = some (.lst ds)) : lenD S (.loc n) = some ds.length := by simp only [lenD, h]
theorem v_lenK {ds : List (Key × D)} (h : S[n]? = some (.dic ds)) : lenD S (.loc n) = some ds.length := by simp only [lenD, h]
theorem v_abs : evBi .abs [.t (.int i)] S = .ok (.t (.int (if i < 0 then -i else i))) S := (rfl)
theorem v_max2 : evBi .max2 [.t (.int i), .t (.int j)] S = .ok (.t (.int (if j > i then j else i))) S := (rfl)
theorem v_min2 : evBi .min2 [.t (.int i), .t (.int j)] S = .ok (.t (.int (if j < i then j else i))) S := (rfl)
theorem v_intI : evBi .int [.t (.int i)] S = .ok (.t (.int i)) S := (rfl)
theorem v_intB {b : Bool} : evBi .int [.t (.bl b)] S = .ok (.t (.int (if b then 1 else 0))) S := (rfl)
theorem v_divmod (h : 0 < j ∧ j < 1073741824) : evBi .divmod [.t (.int i), .t (.int j)] S = .ok (.t (.tup [.int (i / j), .int (i % j)])) S := if_pos h
theorem v_bitlen : evBi .bitlen [.t (.int i)] S = .ok (.t (.int (Builtin.Int.intBits i : Nat))) S := (rfl)
theorem v_all {x : D} : evBi .all [x] S = ofOpt ((lstT S x).bind fun ts => (blsT ts).map fun ns => .t (.bl (ns.all id))) S := (rfl)
theorem v_any {x : D} : evBi .any [x] S = ofOpt ((lstT S x).bind fun ts => (blsT ts).map fun ns => .t (.bl (ns.any id))) S := (rfl)
theorem v_sum {x : D} : evBi .sum [x] S = ofOpt ((lstT S x).bind fun ts => (intsT ts).map fun ns => .t (.int ns.sum)) S := (rfl)
theorem v_lenset {x : D} : evBi .lenset [x] S = ofOpt ((lstT S x).bind fun ts => (intsT ts).bind fun ns => if ns.length < 4000 then some (.t (.int (ns.foldl PyProof.Rows.step_dedup []).length)) else none) S := (rfl)
theorem v_asRep {y : Str} : evBi .asRep [.t (.str y)] S = .ok (.t (.str y)) S := (rfl)
theorem v_asLen (h : 0 ≤ i ∧ i < 4611686018427387904) : evBi .asLen [.t (.int i)] S = .ok (.t (.int i)) S := if_pos h
theorem v_idxT : evIdx (.t (.lst xs)) (.t (.int i)) S = ofOpt ((atI xs i).map .t) S := (rfl)
theorem v_idxU : evIdx (.t (.tup xs)) (.t (.int i)) S = ofOpt ((atI xs i).map .t) S := (rfl)
theorem v_idxA {ns : List Int} : evIdx (.t (.arg ns)) (.t (.int i)) S = ofOpt ((atI ns i).map fun n => .t (.int n)) S := (rfl)
theorem v_idxL {ds : List D} (h : S[n]? = some (.lst ds)) : evIdx (.loc n) (.t (.int i)) S = ofOpt (atI ds i) S := by simp only [evIdx, h]
theorem v_idxK {ds : List (Key × D)} {k : T} (h : S[n]? = some (.dic ds)) : evIdx (.loc n) (.t k) S = ofOpt ((toKey k).bind fun k => kGet ds k) S := by simp only [evIdx, h]
theorem v_keyI : toKey (.int i) = some (.inl i) := (rfl)
theorem v_keyS {x : Str} : toKey (.str x) = some (.inr x) := (rfl)
theorem v_fldT {c f : Nat} {fs : List (Nat × T)} : evFld (.t (.ins c fs)) f S = ofOpt ((fs.lookup f).map .t) S := (rfl)
theorem v_fldL {c f : Nat} {fs : List (Nat × D)} (h : S[n]? = some (.ins c fs)) : evFld (.loc n) f S = ofOpt (fs.lookup f) S := by simp only [evFld, h]
theorem v_clsT {c : Nat} {fs : List (Nat × T)} : clsD S (.t (.ins c fs)) = some c := (rfl)
theorem v_clsL {c : Nat} {fs : List (Nat × D)} (h : S[n]? = some (.ins c fs)) : clsD S (.loc n) = some c := by simp only [clsD, h]
theorem v_tyI : tyD S (.t (.int i)) = some (.inl "int") := (rfl)
theorem v_tyB {b : Bool} : tyD S (.t (.bl b)) = some (.inl "bool") := (rfl)
theorem v_tyN : tyD S (.t .non) = some (.inl "NoneType") := (rfl)
theorem v_tyS {x : Str} : tyD S (.t (.str x)) = some (.inl "str") := (rfl)
theorem v_tyT : tyD S (.t (.lst xs)) = some (.inl "list") := (rfl)
theorem v_tyU : tyD S (.t (.tup xs)) = some (.inl "tuple") := (rfl)
theorem v_tyD {kv : List (Key × T)} : tyD S (.t (.dic kv)) = some (.inl "dict") := (rfl)
theorem v_tyO {c : Nat} {fs : List (Nat × T)} : tyD S (.t (.ins c fs)) = some (.inr c) := (rfl)
theorem v_tyL {ds : List D} (h : S[n]? = some (.lst ds)) : tyD S (.loc n) = some (.inl "list") := by simp only [tyD, h]
theorem v_tyK {ds : List (Key × D)} (h : S[n]? = some (.dic ds)) : tyD S (.loc n) = some (.inl "dict") := by simp only [tyD, h]
theorem v_tyO' {c : Nat} {fs : List (Nat × D)} (h : S[n]? = some (.ins c fs)) : tyD S (.loc n) = some (.inr c) := by simp only [tyD, h]
theorem v_putL {ds : List D} {v : D} {j : Nat} (h : S[n]? = some (.lst ds)) (hj : ixN ds.length i = some j) : evPut (.loc n) (.t (.int i)) v S = .ok () (S.set n (.lst (ds.set j v))) := by simp only [evPut, h, hj]
theorem v_putK {ds : List (Key × D)} {v : D} {k : T} {q : Key} (h : S[n]? = some (.dic ds)) (hk : toKey k = some q) (hl : ds.length < sizeLine) : evPut (.loc n) (.t k) v S = .ok () (S.set n (.dic (kPut ds q v))) := by simp only [evPut, h, hk, if_pos hl]
theorem v_app {ds : List D} {v : D} (h : S[n]? = some (.lst ds)) (hl : ds.length < sizeLine) : evBm .append (.loc n) [v] S = .ok (.t .non) (S.set n (.lst (ds ++ [v]))) := by simp only [evBm, bmAppend, lstAt, h, if_pos hl]
theorem v_clear {ds : List D} (h : S[n]? = some (.lst ds)) : evBm .clear (.loc n) [] S = .ok (.t .non) (S.set n (.lst [])) := by simp only [evBm, bmClear, lstAt, h]
theorem v_reverse {ds : List D} (h : S[n]? = some (.lst ds)) : evBm .reverse (.loc n) [] S = .ok (.t .non) (S.set n (.lst ds.reverse)) := by simp only [evBm, bmReverse, lstAt, h]
theorem v_itsT : itsD S (.t (.lst xs)) = some (xs.map .t) := (rfl)
theorem v_itsL {ds : List D} (h : S[n]? = some (.lst ds)) : itsD S (.loc n) = some ds := by simp only [itsD, h]
theorem v_srcT : srcOf S (.t (.lst xs)) = some (.ds (xs.map .t)) := (rfl)
theorem v_srcU : srcOf S (.t (.tup xs)) = some (.ds (xs.map .t)) := (rfl)
theorem v_srcL {ds : List D} (h : S[n]? = some (.lst ds)) : srcOf S (.loc n) = some (.cell n (ds.length + 1)) := by simp only [srcOf, h]
theorem v_inL {x : T} {ds : List (Key × D)} (h : S[n]? = some (.dic ds)) : inD S (.t x) (.loc n) = (toKey x).map fun k => (kGet ds k).isSome := by simp only [inD, dicD, h]
theorem v_allT {t : T} {ds : List D} : allT (.t t :: ds) = (allT ds).map (t :: ·) := (rfl)
theorem v_allT0 : allT [] = some [] := (rfl)
theorem alT_map (ts : List T) : allT (ts.map .t) = some ts := by
  induction ts with
  | nil => rfl
  | cons x r ih => simp only [List.map_cons, allT, ih, Option.map_some]
theorem v_lstT : lstT S (.t (.lst xs)) = some xs := by simp only [lstT, itsD, Option.bind_some, alT_map]
theorem v_lstL {ts : List T} (h : S[n]? = some (.lst (ts.map .t))) : lstT S (.loc n) = some ts := by simp only [lstT, itsD, h, Option.bind_some, alT_map]
theorem v_seqT : seqT S (.t (.lst xs)) = some xs := (rfl)
theorem v_seqU : seqT S (.t (.tup xs)) = some xs := (rfl)
theorem intsT_map (ns : List Int) : intsT (ns.map .int) = some ns := by
  induction ns with
  | nil => rfl
  | cons x r ih => simp only [List.map_cons, intsT, ih, Option.map_some]
theorem blsT_map (ns : List Bool) : blsT (ns.map .bl) = some ns := by
  induction ns with
  | nil => rfl
  | cons x r ih => simp only [List.map_cons, blsT, ih, Option.map_some]
theorem le_line {n : Nat} (h : n ≤ 16777216) : n ≤ sizeLine := by rw [sizeLine_eq]; exact h
theorem lt_line {n : Nat} (h : n < 16777216) : n < sizeLine := by rw [sizeLine_eq]; exact h
theorem v_rng1 {n : Int} (h : 0 ≤ n ∧ n < 1073741824) : rngI [.t (.int n)] = some ((List.range n.toNat).map fun (i : Nat) => (i : Int)) := by
  simp only [rngI]
  rw [if_pos ⟨by omega, by omega⟩]
theorem v_rng1n {n : Nat} (h : n < 1073741824) : rngI [.t (.int (n : Nat))] = some ((List.range n).map fun (i : Nat) => (i : Int)) := by
  rw [v_rng1 (by omega)]
  simp
theorem v_rng2 {a b : Int} (h : -1073741824 ≤ a ∧ a < 1073741824 ∧ -1073741824 ≤ b ∧ b < 1073741824) : rngI [.t (.int a), .t (.int b)] = some ((List.range (b - a).toNat).map fun (i : Nat) => a + (i : Int)) := by
  simp only [rngI]
  rw [if_pos ⟨by omega, by omega, by omega, by omega⟩]
/-! ### cells -/
theorem l_len : lenD S (.loc n) = match S[n]? with
    | some (.lst ds) => some ds.length
    | some (.dic ds) => some ds.length
    | _ => none := (rfl)
theorem l_tru : truD S (.loc n) = match S[n]? with
    | some (.lst ds) => some (!ds.isEmpty)
    | some (.dic ds) => some (!ds.isEmpty)
    | _ => none := (rfl)
theorem l_its : itsD S (.loc n) = match S[n]? with
    | some (.lst ds) => some ds
    | _ => none := (rfl)
theorem l_lst : lstT S (.loc n) = match S[n]? with
    | some (.lst ds) => allT ds
    | _ => none := by
  simp only [lstT, itsD]
  cases S[n]? with
  | none => rfl
  | some c => cases c <;> rfl
theorem l_seq : seqT S (.loc n) = match S[n]? with
    | some (.lst ds) => allT ds
    | _ => none := (rfl)
theorem l_src : srcOf S (.loc n) = match S[n]? with
    | some (.lst ds) => some (.cell n (ds.length + 1))
    | _ => none := (rfl)
theorem l_cls : clsD S (.loc n) = match S[n]? with
    | some (.ins c _) => some c
    | _ => none := (rfl)
theorem l_ty : tyD S (.loc n) = match S[n]? with
    | some (.lst _) => some (.inl "list")
    | some (.dic _) => some (.inl "dict")
    | some (.ins c _) => some (.inr c)
    | _ => none := (rfl)
theorem l_fld {f : Nat} : evFld (.loc n) f S = match S[n]? with
    | some (.ins c fs) => ofOpt (fs.lookup f) S
    | _ => .bad := (rfl)
theorem l_idx {k : T} : evIdx (.loc n) (.t k) S = match S[n]? with
    | some (.lst ds) => (match k with
      | .int i => ofOpt (atI ds i) S
      | _ => .bad)
    | some (.dic kvs) => ofOpt ((toKey k).bind fun k => kGet kvs k) S
    | _ => .bad := by cases k <;> rfl
theorem l_put {k : T} {v : D} : evPut (.loc n) (.t k) v S = match S[n]? with
    | some (.lst ds) => (match k with
      | .int i => match ixN ds.length i with
        | some j => .ok () (S.set n (.lst (ds.set j v)))
        | none => .bad
      | _ => .bad)
    | some (.dic kvs) => (match toKey k with
      | some k => if kvs.length < 16777216 then .ok () (S.set n (.dic (kPut kvs k v))) else .bad
      | none => .bad)
    | _ => .bad := by rw [← sizeLine_eq]; rfl
theorem l_putF {f : Nat} {y : D} : putF f y τ (.loc n) S = match S[n]? with
    | some (.ins c fs) => if fs.length < 1000 then .ok (.nx, τ) (S.set n (.ins c (fPut f y fs))) else .bad
    | _ => .bad := (rfl)
theorem l_in {x : T} : inD S (.t x) (.loc n) = match S[n]? with
    | some (.dic kvs) => (toKey x).map fun k => (kGet kvs k).isSome
    | some (.lst ds) => (flatT x).bind fun v => (allT ds).bind fun ts => (ts.mapM flatT).map fun vs => inV v vs
    | _ => (flatT x).bind fun v => none := by
  simp only [inD, dicD, seqT]
  cases S[n]? with
  | none => rfl
  | some c => cases c <;> rfl
theorem l_keys : keysD S (.loc n) = match S[n]? with
    | some (.dic kvs) => some (kvs.map (·.1))
    | _ => none := (rfl)
theorem l_app {v : D} : evBm .append (.loc n) [v] S = match S[n]? with
    | some (.lst ds) => if ds.length < 16777216 then .ok (.t .non) (S.set n (.lst (ds ++ [v]))) else .bad
    | _ => .bad := by
  rw [← sizeLine_eq]
  simp only [evBm, bmAppend, lstAt]
  cases S[n]? with
  | none => rfl
  | some c => cases c <;> rfl
theorem l_clear : evBm .clear (.loc n) [] S = match S[n]? with
    | some (.lst ds) => .ok (.t .non) (S.set n (.lst []))
    | _ => .bad := by
  simp only [evBm, bmClear, lstAt]
  cases S[n]? with
  | none => rfl
  | some c => cases c <;> rfl
theorem l_reverse : evBm .reverse (.loc n) [] S = match S[n]? with
    | some (.lst ds) => .ok (.t .non) (S.set n (.lst ds.reverse))
    | _ => .bad := by
  simp only [evBm, bmReverse, lstAt]
  cases S[n]? with
  | none => rfl
  | some c => cases c <;> rfl
theorem l_popAt {i : Int} : evBm .popAt (.loc n) [.t (.int i)] S = match S[n]? with
    | some (.lst xs) => @ite _ (0 ≤ i ∧ i < 9223372036854775808) (Classical.propDecidable _) (match xs[i.toNat]? with
      | some y => .ok y (S.set n (.lst (xs.eraseIdx i.toNat)))
      | none => .bad) .bad
    | _ => .bad := by
  simp only [evBm, bmPopAt, lstAt]
  cases S[n]? with
  | none => rfl
  | some c => cases c <;> rfl
theorem l_pop : evBm .pop (.loc n) [] S = match S[n]? with
    | some (.lst xs) => (match xs[xs.length - 1]? with
      | some y => .ok y (S.set n (.lst xs.dropLast))
      | none => .bad)
    | _ => .bad := by
  simp only [evBm, bmPop, lstAt]
  cases S[n]? with
  | none => rfl
  | some c => cases c <;> rfl
theorem l_cat2 {x y : D} : k_cat2 x y S = ofOpt ((itsD S x).bind fun xs => (itsD S y).bind fun ys => if xs.length + ys.length ≤ 16777216 then some (xs ++ ys) else none) S := by rw [← sizeLine_eq]; rfl
theorem l_bm {b : Bm} {es : List Ev.E} {x : D} : k_bm P C b es τ x S = if tyD S x = some (.inl b.ty) then (evEs P C es τ S).bind (evBm b x) else .bad := (rfl)
theorem l_ty1 : Bm.ty .append = "list" := (rfl)
theorem l_ty2 : Bm.ty .pop = "list" := (rfl)
theorem l_ty3 : Bm.ty .popAt = "list" := (rfl)
theorem l_ty4 : Bm.ty .clear = "list" := (rfl)
theorem l_ty5 : Bm.ty .reverse = "list" := (rfl)
theorem l_ty6 : Bm.ty .index = "list" := (rfl)
theorem l_ty7 : Bm.ty .get = "dict" := (rfl)
theorem l_ty8 : Bm.ty .getOr = "dict" := (rfl)
theorem l_mq {m : Md} {x : Nat} {es : List Ev.E} {df : List T} {y : D} : mq P C m x es df τ y S = match (clsD S y).bind fun c => P.meth c x with
    | some f => (evEs P C es τ S).bind (k_cm C m f df y)
    | none => .bad := (rfl)
theorem l_kq {m : Md} {c : Nat} {df : List T} {ds : List D} : kq P C m c df ds S = match P.init c with
    | some f => fin m S ((C f (.loc S.length :: (ds ++ df.map .t)) (S ++ [.ins c []])).bind (nq S.length))
    | none => .bad := by
  cases h : P.init c with
  | none => simp only [kq, h]
  | some f => rw [x_kq h]
/-! ### places -/
theorem ixN_nat {n : Nat} {i : Int} (h0 : 0 ≤ i) (h : i < n) : ixN n i = some i.toNat := by
  have e : ¬ i < 0 := by omega
  simp [ixN, e, h0, h]
theorem ixN_of {n k : Nat} (h : k < n) : ixN n (k : Int) = some k := by rw [ixN_nat (by omega) (by omega)]; simp
theorem atI_ofNat {α : Type} {xs : List α} {k : Nat} : atI xs (k : Int) = xs[k]? := by
  unfold atI
  by_cases h : k < xs.length
  · rw [ixN_of h]; rfl
  · have e : ixN xs.length (k : Int) = none := by
      have : ¬ ((k : Int) < 0) := by omega
      simp [ixN, this, h]
    rw [e, List.getElem?_eq_none (by omega)]; rfl
theorem atI_nat {α : Type} {xs : List α} {i : Int} (h0 : 0 ≤ i) : atI xs i = xs[i.toNat]? := by
  rw [← atI_ofNat, Int.toNat_of_nonneg h0]
theorem atI_0 {α : Type} {xs : List α} : atI xs 0 = xs[0]? := atI_ofNat (k := 0)
theorem atI_1 {α : Type} {xs : List α} : atI xs 1 = xs[1]? := atI_ofNat (k := 1)
theorem atI_2 {α : Type} {xs : List α} : atI xs 2 = xs[2]? := atI_ofNat (k := 2)
theorem atI_last {α : Type} {xs : List α} : atI xs (-1) = xs.getLast? := by
  by_cases h : xs = []
  · subst h; simp [atI, ixN]
  · have hl := List.length_pos_iff.mpr h
    have e : ixN xs.length (-1) = some (xs.length - 1) := by
      have h1 : (0 : Int) ≤ -1 + (xs.length : Int) := by omega
      have h2 : (-1 + (xs.length : Int)).toNat = xs.length - 1 := by omega
      simp [ixN, h1, h2] <;> omega
    unfold atI
    rw [e, List.getLast?_eq_getElem?]; rfl
end
/-! ### the store -/
section
variable {α : Type} {A X : List α} {c p : α} {n k : Nat}
theorem g_app0 : (A ++ X)[A.length]? = X[0]? := by rw [List.getElem?_append_right (Nat.le_refl _), Nat.sub_self]
theorem g_app {k : Nat} : (A ++ X)[A.length + k]? = X[k]? := by rw [List.getElem?_append_right (by omega), Nat.add_sub_cancel_left]
theorem g_set0 : (A.set n p ++ X)[A.length]? = X[0]? := by
  rw [List.getElem?_append_right (by simp), List.length_set, Nat.sub_self]
theorem g_set {k : Nat} : (A.set n p ++ X)[A.length + k]? = X[k]? := by
  rw [List.getElem?_append_right (by simp), List.length_set, Nat.add_sub_cancel_left]
theorem g_fr (h : n < A.length) : (A ++ X)[n]? = A[n]? := List.getElem?_append_left h
theorem s_app0 : (A ++ X).set A.length c = A ++ X.set 0 c := by
  rw [List.set_append_right _ _ (Nat.le_refl _)]; simp
theorem s_app {k : Nat} : (A ++ X).set (A.length + k) c = A ++ X.set k c := by
  rw [List.set_append_right _ _ (by omega)]; simp
theorem s_set0 : (A.set n p ++ X).set A.length c = A.set n p ++ X.set 0 c := by
  rw [List.set_append_right _ _ (by simp), List.length_set, Nat.sub_self]
theorem s_set {k : Nat} : (A.set n p ++ X).set (A.length + k) c = A.set n p ++ X.set k c := by
  rw [List.set_append_right _ _ (by simp), List.length_set, Nat.add_sub_cancel_left]
theorem s_fr (h : n < A.length) : (A ++ X).set n c = A.set n c ++ X := List.set_append_left _ _ h
end
end Ev
end

section
set_option Elab.async false
set_option linter.all false
namespace Ev.Lin
/-! ### bits -/
def nb (n : Nat) : Nat := if n = 0 then 0 else n.log2 + 1
theorem nb_le {n k : Nat} : nb n ≤ k ↔ n < 2 ^ k := by
  unfold nb
  split
  · subst_vars
    exact ⟨fun _ => Nat.two_pow_pos k, fun _ => Nat.zero_le _⟩
  · rename_i h
    exact Nat.log2_lt h
theorem nb_zero : nb 0 = 0 := rfl
theorem nb_pos {n : Nat} (h : n ≠ 0) : 0 < nb n := by
  unfold nb; rw [if_neg h]; exact Nat.succ_pos _
theorem nb_top {n : Nat} (h : n ≠ 0) : n.testBit (nb n - 1) = true := by
  have e : nb n - 1 = n.log2 := by unfold nb; rw [if_neg h]; rfl
  rw [e]
  exact Nat.testBit_log2 h
theorem nb_bit {n i : Nat} (h : nb n ≤ i) : n.testBit i = false := Nat.testBit_lt_two_pow (nb_le.mp h)
theorem nb_of {n k : Nat} (h : ∀ i, k ≤ i → n.testBit i = false) : nb n ≤ k := nb_le.mpr (Nat.lt_pow_two_of_testBit n h)
theorem nb_xor_lt {a b : Nat} (e : nb a = nb b) (h : a ≠ 0) : nb (a ^^^ b) < nb a := by
  have hp := nb_pos h
  have hb : b ≠ 0 := fun z => by subst z; rw [nb_zero] at e; omega
  have : nb (a ^^^ b) ≤ nb a - 1 := nb_of fun i hi => by
    rw [Nat.testBit_xor]
    by_cases q : nb a ≤ i
    · rw [nb_bit q, nb_bit (e ▸ q)]; rfl
    · have : i = nb a - 1 := by omega
      subst this
      rw [nb_top h, e, nb_top hb]; rfl
  omega
theorem nb_xor_of_lt {a b : Nat} (h : nb b < nb a) : nb (a ^^^ b) = nb a := by
  have ha : a ≠ 0 := fun z => by subst z; rw [nb_zero] at h; omega
  apply Nat.le_antisymm
  · exact nb_of fun i hi => by rw [Nat.testBit_xor, nb_bit hi, nb_bit (by omega)]; rfl
  · apply Nat.le_of_not_lt
    intro l
    have q : (a ^^^ b).testBit (nb a - 1) = false := nb_bit (by omega)
    rw [Nat.testBit_xor, nb_top ha, nb_bit (by omega)] at q
    cases q
theorem xor_lt_4096 {a b : Nat} (h : a < 4096) (k : b < 4096) : a ^^^ b < 4096 := Nat.xor_lt_two_pow (n := 12) h k
/-! ### sums -/
structure Sp (V : List Nat) : Prop where
  z : 0 ∈ V
  x : ∀ a ∈ V, ∀ b ∈ V, a ^^^ b ∈ V
def stV (V : List Nat) (r : Nat) : List Nat := if r ∈ V then V else V ++ V.map (· ^^^ r)
def rkV : List Nat → List Nat → Nat
  | _, [] => 0
  | V, r :: rs => (if r ∈ V then 0 else 1) + rkV (stV V r) rs
def spV : List Nat → List Nat → List Nat
  | V, [] => V
  | V, r :: rs => spV (stV V r) rs
/-- the rank of some rows, one after another -/
def rk (rs : List Nat) : Nat := rkV [0] rs
def sp (rs : List Nat) : List Nat := spV [0] rs
theorem sp0 : Sp [0] := ⟨by simp, by simp⟩
theorem xor_xor_self {a b : Nat} : a ^^^ b ^^^ b = a := by rw [Nat.xor_assoc, Nat.xor_self, Nat.xor_zero]
theorem mem_stV {V : List Nat} (h : Sp V) {r v : Nat} : v ∈ stV V r ↔ v ∈ V ∨ v ^^^ r ∈ V := by
  unfold stV
  split
  · rename_i q
    exact ⟨.inl, fun o => o.elim id fun o => by have := h.x _ o _ q; rwa [xor_xor_self] at this⟩
  · rw [List.mem_append, List.mem_map]
    constructor
    · rintro (o | ⟨u, hu, rfl⟩)
      · exact .inl o
      · exact .inr (by rwa [xor_xor_self])
    · rintro (o | o)
      · exact .inl o
      · exact .inr ⟨_, o, by rw [xor_xor_self]⟩
theorem Sp.st {V : List Nat} (h : Sp V) (r : Nat) : Sp (stV V r) := by
  refine ⟨(mem_stV h).mpr (.inl h.z), fun a ha b hb => ?_⟩
  rw [mem_stV h] at ha hb ⊢
  have ac : ∀ x y z : Nat, x ^^^ y ^^^ z = x ^^^ z ^^^ y := fun x y z => by rw [Nat.xor_assoc, Nat.xor_comm y z, ← Nat.xor_assoc]
  rcases ha with ha | ha <;> rcases hb with hb | hb
  · exact .inl (h.x _ ha _ hb)
  · exact .inr (by have := h.x _ ha _ hb; rwa [← Nat.xor_assoc] at this)
  · exact .inr (by have := h.x _ ha _ hb; rwa [ac] at this)
  · refine .inl ?_
    have := h.x _ ha _ hb
    rwa [ac, ← Nat.xor_assoc, xor_xor_self] at this
theorem rkV_app : ∀ (V a b : List Nat), rkV V (a ++ b) = rkV V a + rkV (spV V a) b
  | V, [], b => by simp [rkV, spV]
  | V, r :: a, b => by simp only [List.cons_append, rkV, spV]; rw [rkV_app]; omega
theorem spV_app : ∀ (V a b : List Nat), spV V (a ++ b) = spV (spV V a) b
  | V, [], b => rfl
  | V, r :: a, b => by simp only [List.cons_append, spV]; exact spV_app _ a b
theorem spV_sp : ∀ (a : List Nat) {V : List Nat}, Sp V → Sp (spV V a)
  | [], V, h => h
  | r :: a, V, h => spV_sp a (h.st r)
theorem sp_sp (a : List Nat) : Sp (sp a) := spV_sp a sp0
theorem spV_mono : ∀ (a : List Nat) {V : List Nat}, Sp V → ∀ v ∈ V, v ∈ spV V a
  | [], V, _, v, h => h
  | r :: a, V, hV, v, h => spV_mono a (hV.st r) v ((mem_stV hV).mpr (.inl h))
theorem mem_spV : ∀ (a : List Nat) {V : List Nat}, Sp V → ∀ r ∈ a, r ∈ spV V a
  | x :: a, V, hV, r, h => by
    rcases List.mem_cons.mp h with rfl | h
    · exact spV_mono a (hV.st r) _ ((mem_stV hV).mpr (.inr (by rw [Nat.xor_self]; exact hV.z)))
    · exact mem_spV a (hV.st x) r h
theorem mem_sp {a : List Nat} {r : Nat} (h : r ∈ a) : r ∈ sp a := mem_spV a sp0 r h
theorem rk_snoc {a : List Nat} {r : Nat} : rk (a ++ [r]) = rk a + if r ∈ sp a then 0 else 1 := by
  unfold rk sp
  rw [rkV_app]; simp [rkV]
theorem sp_snoc {a : List Nat} {r : Nat} : sp (a ++ [r]) = stV (sp a) r := by
  unfold sp
  rw [spV_app]; rfl
theorem xor_inj {a b r : Nat} (h : a ^^^ r = b ^^^ r) : a = b := by
  have : a ^^^ r ^^^ r = b ^^^ r ^^^ r := by rw [h]
  rwa [xor_xor_self, xor_xor_self] at this
theorem stV_nodup {V : List Nat} (h : Sp V) (hn : V.Nodup) (r : Nat) : (stV V r).Nodup := by
  unfold stV
  split
  · exact hn
  · rename_i hr
    refine List.nodup_append.mpr ⟨hn, ?_, fun a ha b hb e => ?_⟩
    · rw [List.Nodup, List.pairwise_map]
      exact hn.imp fun {a b} hab e => hab (xor_inj e)
    · obtain ⟨v, hv, rfl⟩ := List.mem_map.mp hb
      subst e
      have := h.x _ hv _ ha
      rw [← Nat.xor_assoc, Nat.xor_self, Nat.zero_xor] at this
      exact hr this
theorem spV_nodup : ∀ (a : List Nat) {V : List Nat}, Sp V → V.Nodup → (spV V a).Nodup
  | [], V, _, h => h
  | r :: a, V, h, hn => spV_nodup a (h.st r) (stV_nodup h hn r)
theorem spV_lt : ∀ (a : List Nat) {V : List Nat}, (∀ r ∈ a, r < 4096) → (∀ v ∈ V, v < 4096) → ∀ v ∈ spV V a, v < 4096
  | [], V, _, h => h
  | r :: a, V, ha, h => spV_lt a (fun x hx => ha x (List.mem_cons_of_mem _ hx)) fun v hv => by
    unfold stV at hv
    split at hv
    · exact h v hv
    · rcases List.mem_append.mp hv with hv | hv
      · exact h v hv
      · obtain ⟨u, hu, rfl⟩ := List.mem_map.mp hv
        exact xor_lt_4096 (h u hu) (ha r List.mem_cons_self)
theorem sp_nodup (a : List Nat) : (sp a).Nodup := spV_nodup a sp0 (by simp)
theorem sp_lt {a : List Nat} (h : ∀ r ∈ a, r < 4096) : ∀ v ∈ sp a, v < 4096 := spV_lt a h (by simp)
/-! ### a base by bits -/
structure Bas (V : List Nat) (fr : List (Nat × Nat)) : Prop where
  sp : Sp V
  i : ∀ p ∈ fr, p.2 ∈ V ∧ p.2 ≠ 0 ∧ nb p.2 = p.1
  o : ∀ v ∈ V, v ≠ 0 → ∃ w, (nb v, w) ∈ fr
theorem bas0 : Bas [0] [] := ⟨sp0, by simp, by simp⟩
theorem Bas.mem_iff {V : List Nat} {fr : List (Nat × Nat)} (h : Bas V fr) {x y : Nat} (e : x ^^^ y ∈ V) : x ∈ V ↔ y ∈ V := by
  constructor
  · intro k
    have := h.sp.x _ k _ e
    rwa [← Nat.xor_assoc, Nat.xor_self, Nat.zero_xor] at this
  · intro k
    have := h.sp.x _ e _ k
    rwa [xor_xor_self] at this
/-- a row that was brought down: it is not among the sums, but 0 -/
theorem Bas.down {V : List Nat} {fr : List (Nat × Nat)} (h : Bas V fr) {y : Nat} (k : ∀ w, (nb y, w) ∉ fr) (hy : y ∈ V) : y = 0 := by
  apply Classical.byContradiction
  intro q
  obtain ⟨w, hw⟩ := h.o y hy q
  exact k w hw
theorem Bas.more {V : List Nat} {fr : List (Nat × Nat)} (h : Bas V fr) {x y : Nat} (e : x ^^^ y ∈ V) (k : ∀ w, (nb y, w) ∉ fr) (hy : y ≠ 0) : x ∉ V ∧ Bas (stV V x) (fr ++ [(nb y, y)]) := by
  have nv : y ∉ V := fun q => hy (h.down k q)
  have nx : x ∉ V := fun q => nv ((h.mem_iff e).mp q)
  refine ⟨nx, h.sp.st x, fun p hp => ?_, fun v hv hv0 => ?_⟩
  · rcases List.mem_append.mp hp with hp | hp
    · obtain ⟨a, b, c⟩ := h.i p hp
      exact ⟨(mem_stV h.sp).mpr (.inl a), b, c⟩
    · obtain rfl := List.mem_singleton.mp hp
      exact ⟨(mem_stV h.sp).mpr (.inr (by rwa [Nat.xor_comm])), hy, rfl⟩
  · rcases (mem_stV h.sp).mp hv with hv | hv
    · obtain ⟨w, hw⟩ := h.o v hv hv0
      exact ⟨w, List.mem_append_left _ hw⟩
    · have hu : v ^^^ y ∈ V := by
        have := h.sp.x _ hv _ e
        rwa [← Nat.xor_assoc, xor_xor_self] at this
      by_cases c : nb (v ^^^ y) = nb v
      · by_cases z : v ^^^ y = 0
        · rw [z] at c
          exact absurd c.symm (Nat.ne_of_gt (nb_pos hv0))
        · obtain ⟨w, hw⟩ := h.o _ hu z
          rw [c] at hw
          exact ⟨w, List.mem_append_left _ hw⟩
      · refine ⟨y, List.mem_append_right _ (List.mem_singleton.mpr ?_)⟩
        have e1 : nb v = nb y := by
          rcases Nat.lt_trichotomy (nb v) (nb y) with l | l | l
          · exfalso
            have e2 : nb (v ^^^ y) = nb y := by rw [Nat.xor_comm]; exact nb_xor_of_lt l
            have z : v ^^^ y ≠ 0 := fun z => by rw [z, nb_zero] at e2; omega
            obtain ⟨w, hw⟩ := h.o _ hu z
            rw [e2] at hw
            exact k w hw
          · exact l
          · exact absurd (nb_xor_of_lt l) c
        rw [e1]
theorem Bas.same {V : List Nat} {fr : List (Nat × Nat)} (h : Bas V fr) {x : Nat} (e : x ∈ V) : stV V x = V := if_pos e
end Ev.Lin
end

section
set_option Elab.async false
set_option linter.all false
set_option maxRecDepth 20000
namespace Ev
open PySem PyProof.Rows L2
local macro_rules | `(tactic| walk_at "ev") => `(tactic| simp only [y_bind, y_k, y_ok, y_exc, y_noX, x_sq_nx, x_sq_rt, x_sq_bk, x_sq_ct, x_rq_rt, x_rq_nx, x_cons, x_nil, yk_nx, yk_rt, yk_nE, yk_asg, x_expr, x_ret, x_retN, x_asg, yk_mas, x_mas, yk_if1, yk_if0, x_iff, x_for, x_forS_ds, x_forS_cell, x_cmpS_ds, x_cmpS_cell, x_whil, x_rai, w_tr, x_pass, x_brk, x_cont, yk_set, yk_aug, x_aug, x_frv, yk_nu, yk_ax5, yk_ax4, yk_ax3, yk_ax2, yk_ax1, x_augIx, yk_fa, x_fasg, x_var, x_cst, yk_tup, x_tup, yk_fr, x_fr, yk_nw, x_nw, x_dnw, x_ddi, x_fz, yk_fz, x_fm, x_js, yk_js, x_j0, x_j1, v_asRep, yk_b1, x_bin, x_neg, x_negD, yk_c1, x_cmp, yk_and1, yk_and0, yk_or1, yk_or0, x_and, x_or, yk_d21, yk_d20, yk_d1b, yk_d1, x_cmp2, yk_not, x_not, yk_ife1, yk_ife0, x_ife, yk_fld, x_fld, yk_i1, x_idx, x_bi, x_bm, yk_isi, x_isi, yk_call, x_call, yk_cm, x_meth, x_mk, x_nq, yk_ta1, yk_ta0, yk_to1, yk_to0, x_tand, x_tor, yk_tn, x_tnot, x_tq, x_tqi, x_tqn, x_tcmp, x_tcmp2, x_tisi, x_tcall, x_tmeth, x_tbi, x_tvar, x_tidx, x_tife, x_tfld, x_tbm, yk_ts1, yk_ts0, x_ts_nil, x_ts_cons, x_es_nil, yk_cons, yk_es, x_es_cons, yk_disp, x_disp, yk_cat1, x_cat, yk_rep1, x_rep, yk_slc3, yk_slc2, yk_slc1, x_slc, yk_rev, x_rev, yk_lof, x_listOf, yk_kof, x_keysOf, yk_rng, x_frng, yk_srt, x_sorted, x_comp, yk_src, x_ival, yk_irng, x_irng, yk_ienu, x_ienu, yk_iz2, yk_iz1, x_izip, x_o_none, x_oq, x_o_some, x_nm, x_tp, yk_eu, yk_ix2, yk_ix1, x_ix, x_ts0, yk_at, x_ts1, x_bodyF, x_bodyW, x_condW, x_bodyC, x_cq, yk_some, x_cq21, x_cq20,
  v_lt, v_le, v_gt, v_ge, v_is, v_isn, v_in, v_nin, v_add, v_sub, v_bxor, v_band, v_bor, v_tru, v_len, v_lenT, v_lenU, v_lenA, v_abs, v_max2, v_min2, v_intI, v_intB, v_bitlen, v_all, v_any, v_sum, v_lenset, v_idxT, v_idxU, v_idxA, v_keyI, v_keyS, v_fldT, v_clsT, v_tyI, v_tyB, v_tyN, v_tyS, v_tyT, v_tyU, v_tyD, v_tyO, v_itsT, v_srcT, v_srcU, v_allT, v_allT0, v_lstT, v_seqT, v_seqU, alT_map, intsT_map, blsT_map,
  R.bind_ok, R.bind_exc, R.bind_bad, R.noX_ok, R.noX_bad, ofOpt_some, ofOpt_none, Option.map_some, Option.map_none, Option.bind_some, Option.bind_none, mkE,
  List.getElem?_cons_zero, List.getElem?_cons_succ, List.set_cons_zero, List.set_cons_succ, List.map_cons, List.map_nil, List.append_nil, List.nil_append, List.cons_append, List.length_cons, List.length_nil, List.length_append, List.length_set, List.length_map, List.append_assoc, List.set_set, Nat.zero_add, Nat.reduceAdd, Nat.reduceSub, Nat.reduceLeDiff, Nat.reduceLT, ↓reduceIte, decide_eq_true_eq, Bool.not_eq_true', decide_eq_false_iff_not, Bool.not_true, Bool.not_false, Bool.false_eq_true, g_app0, g_app, g_set0, g_set, s_app0, s_app, s_set0, s_set, tgVars, tgsVars, wipeE,
  v_mod, v_fdiv, v_divmod, v_mul, v_pow, Int.reduceLT, Int.reduceLE, Int.reduceNeg, Int.reducePow, or_true, true_or, yk_ddi, x_tp, x_tl, v_rng1n, v_eqi, v_nei, Nat.le_refl, l_len, l_tru, l_its, l_lst, l_seq, l_src, l_cls, l_ty, l_fld, l_idx, l_put, l_putF, l_in, l_keys, l_app, l_clear, l_reverse, l_popAt, l_pop, l_bm, l_ty1, l_ty2, l_ty3, l_ty4, l_ty5, l_ty6, l_ty7, l_ty8, l_mq, l_kq, atI_0, atI_1, atI_2, atI_last, List.length_append, eq_self, and_self, and_true, true_and, fPut, Nat.reduceEqDiff, List.lookup_cons, List.lookup_nil, Nat.reduceBEq])
local macro_rules | `(tactic| wp_walk using $ts,*) => `(tactic| simp only [y_bind, y_k, y_ok, y_exc, y_noX, x_sq_nx, x_sq_rt, x_sq_bk, x_sq_ct, x_rq_rt, x_rq_nx, x_cons, x_nil, yk_nx, yk_rt, yk_nE, yk_asg, x_expr, x_ret, x_retN, x_asg, yk_mas, x_mas, yk_if1, yk_if0, x_iff, x_for, x_forS_ds, x_forS_cell, x_cmpS_ds, x_cmpS_cell, x_whil, x_rai, w_tr, x_pass, x_brk, x_cont, yk_set, yk_aug, x_aug, x_frv, yk_nu, yk_ax5, yk_ax4, yk_ax3, yk_ax2, yk_ax1, x_augIx, yk_fa, x_fasg, x_var, x_cst, yk_tup, x_tup, yk_fr, x_fr, yk_nw, x_nw, x_dnw, x_ddi, x_fz, yk_fz, x_fm, x_js, yk_js, x_j0, x_j1, v_asRep, yk_b1, x_bin, x_neg, x_negD, yk_c1, x_cmp, yk_and1, yk_and0, yk_or1, yk_or0, x_and, x_or, yk_d21, yk_d20, yk_d1b, yk_d1, x_cmp2, yk_not, x_not, yk_ife1, yk_ife0, x_ife, yk_fld, x_fld, yk_i1, x_idx, x_bi, x_bm, yk_isi, x_isi, yk_call, x_call, yk_cm, x_meth, x_mk, x_nq, yk_ta1, yk_ta0, yk_to1, yk_to0, x_tand, x_tor, yk_tn, x_tnot, x_tq, x_tqi, x_tqn, x_tcmp, x_tcmp2, x_tisi, x_tcall, x_tmeth, x_tbi, x_tvar, x_tidx, x_tife, x_tfld, x_tbm, yk_ts1, yk_ts0, x_ts_nil, x_ts_cons, x_es_nil, yk_cons, yk_es, x_es_cons, yk_disp, x_disp, yk_cat1, x_cat, yk_rep1, x_rep, yk_slc3, yk_slc2, yk_slc1, x_slc, yk_rev, x_rev, yk_lof, x_listOf, yk_kof, x_keysOf, yk_rng, x_frng, yk_srt, x_sorted, x_comp, yk_src, x_ival, yk_irng, x_irng, yk_ienu, x_ienu, yk_iz2, yk_iz1, x_izip, x_o_none, x_oq, x_o_some, x_nm, x_tp, yk_eu, yk_ix2, yk_ix1, x_ix, x_ts0, yk_at, x_ts1, x_bodyF, x_bodyW, x_condW, x_bodyC, x_cq, yk_some, x_cq21, x_cq20,
  v_lt, v_le, v_gt, v_ge, v_is, v_isn, v_in, v_nin, v_add, v_sub, v_bxor, v_band, v_bor, v_tru, v_len, v_lenT, v_lenU, v_lenA, v_abs, v_max2, v_min2, v_intI, v_intB, v_bitlen, v_all, v_any, v_sum, v_lenset, v_idxT, v_idxU, v_idxA, v_keyI, v_keyS, v_fldT, v_clsT, v_tyI, v_tyB, v_tyN, v_tyS, v_tyT, v_tyU, v_tyD, v_tyO, v_itsT, v_srcT, v_srcU, v_allT, v_allT0, v_lstT, v_seqT, v_seqU, alT_map, intsT_map, blsT_map,
  R.bind_ok, R.bind_exc, R.bind_bad, R.noX_ok, R.noX_bad, ofOpt_some, ofOpt_none, Option.map_some, Option.map_none, Option.bind_some, Option.bind_none, mkE,
  List.getElem?_cons_zero, List.getElem?_cons_succ, List.set_cons_zero, List.set_cons_succ, List.map_cons, List.map_nil, List.append_nil, List.nil_append, List.cons_append, List.length_cons, List.length_nil, List.length_append, List.length_set, List.length_map, List.append_assoc, List.set_set, Nat.zero_add, Nat.reduceAdd, Nat.reduceSub, Nat.reduceLeDiff, Nat.reduceLT, ↓reduceIte, decide_eq_true_eq, Bool.not_eq_true', decide_eq_false_iff_not, Bool.not_true, Bool.not_false, Bool.false_eq_true, g_app0, g_app, g_set0, g_set, s_app0, s_app, s_set0, s_set, tgVars, tgsVars, wipeE,
  v_mod, v_fdiv, v_divmod, v_mul, v_pow, Int.reduceLT, Int.reduceLE, Int.reduceNeg, Int.reducePow, or_true, true_or, yk_ddi, x_tp, x_tl, v_rng1n, v_eqi, v_nei, Nat.le_refl, l_len, l_tru, l_its, l_lst, l_seq, l_src, l_cls, l_ty, l_fld, l_idx, l_put, l_putF, l_in, l_keys, l_app, l_clear, l_reverse, l_popAt, l_pop, l_bm, l_ty1, l_ty2, l_ty3, l_ty4, l_ty5, l_ty6, l_ty7, l_ty8, l_mq, l_kq, atI_0, atI_1, atI_2, atI_last, List.length_append, eq_self, and_self, and_true, true_and, fPut, Nat.reduceEqDiff, List.lookup_cons, List.lookup_nil, Nat.reduceBEq, $[$ts:term],*])
/-! ### the pot -/
def potC (a b : Int) : Cell := .lst [.t (.int a), .t (.int b)]
def Pot (c : Cell) : Prop := ∃ a b, c = potC a b ∧ 0 ≤ a ∧ 0 ≤ b ∧ b < 2147483648
def PotAt (S : Store) (n : Nat) : Prop := ∃ c, S[n]? = some c ∧ Pot c
theorem PotAt.lt {S : Store} {n : Nat} (h : PotAt S n) : n < S.length := by
  obtain ⟨c, h1, _⟩ := h
  exact (List.getElem?_eq_some_iff.mp h1).1
theorem PotAt.app {S X : Store} {n : Nat} (h : PotAt S n) : PotAt (S ++ X) n := by
  obtain ⟨c, h1, h2⟩ := h
  exact ⟨c, by rw [List.getElem?_append_left (List.getElem?_eq_some_iff.mp h1).1]; exact h1, h2⟩
theorem PotAt.set {S : Store} {n : Nat} {p : Cell} (h : n < S.length) (hp : Pot p) : PotAt (S.set n p) n := ⟨p, by rw [List.getElem?_set_self h], hp⟩
theorem PotAt.same {S : Store} {n : Nat} (h : PotAt S n) : ∃ p, Pot p ∧ S.set n p = S := by
  obtain ⟨c, h1, h2⟩ := h
  obtain ⟨l, rfl⟩ := List.getElem?_eq_some_iff.mp h1
  exact ⟨_, h2, List.set_getElem_self l⟩
theorem Pot.below {c : Cell} (h : Pot c) (L : Nat) : c.below L := by
  obtain ⟨a, b, rfl, _⟩ := h
  intro n m
  simp at m
/-! ### a call's end -/
theorem keeps_set {S X : Store} {n : Nat} {p : Cell} (hp : Pot p) : Keeps S (S.set n p ++ X) := by
  refine ⟨by simp, fun m c hm h => ?_⟩
  rw [List.getElem?_append_left (by simpa using hm)] at h
  by_cases e : m = n
  · subst e
    rw [List.getElem?_set_self hm] at h
    cases h
    exact .inr (hp.below _)
  · rw [List.getElem?_set_ne (Ne.symm e)] at h
    exact .inl h
theorem keeps_app {S X : Store} : Keeps S (S ++ X) := by
  refine ⟨by simp, fun m c hm h => ?_⟩
  rw [List.getElem?_append_left hm] at h
  exact .inl h
theorem take_set {S X : Store} {n : Nat} {p : Cell} : (S.set n p ++ X).take S.length = S.set n p := by
  rw [List.take_append_of_le_length (by simp), List.take_of_length_le (by simp)]
theorem take_app {S X : Store} : (S ++ X).take S.length = S := by simp
/-- what is told, read as a tree -/
def Fz (S S1 : Store) (d : D) (x : T) : Prop := (d = .t x ∨ ∃ m, ∃ kvs : List (Key × T), d = .loc m ∧ x = .dic kvs ∧ S.length ≤ m ∧ S1[m]? = some (.dic (kvs.map fun p => (p.1, .t p.2)))) ∨ ∃ m xs, d = .loc m ∧ x = .lst xs ∧ S.length ≤ m ∧ S1[m]? = some (.lst (xs.map .t))
theorem fz_t {S S1 : Store} {x : T} : Fz S S1 (.t x) x := .inl (.inl rfl)
theorem fz_dic {S S1 : Store} {m : Nat} {kvs : List (Key × T)} (h : S.length ≤ m) (e : S1[m]? = some (.dic (kvs.map fun p => (p.1, .t p.2)))) : Fz S S1 (.loc m) (.dic kvs) := .inl (.inr ⟨m, kvs, rfl, rfl, h, e⟩)
theorem mapM_kt {L : Nat} {S : Store} {k : Nat} : ∀ kvs : List (Key × T), (kvs.map fun p => (p.1, D.t p.2)).mapM (fun p => (rdF L S k p.2).map fun t => (p.1, t)) = some kvs
  | [] => rfl
  | (f, x) :: r => by
    have e : rdF L S k (D.t x) = some x := by cases k <;> rfl
    rw [List.map_cons, List.mapM_cons, mapM_kt r]
    simp only [e]
    rfl
theorem mapM_t {L : Nat} {S : Store} {k : Nat} : ∀ xs : List T, (xs.map D.t).mapM (rdF L S k) = some xs
  | [] => rfl
  | x :: r => by
    rw [List.map_cons, List.mapM_cons, mapM_t r]
    cases k <;> rfl
theorem fin_fz {S S1 : Store} {d : D} {x : T} (k : Keeps S S1) (h : Fz S S1 d x) : fin .fz S (.ok d S1) = .ok (.t x) (S1.take S.length) := by
  rcases h with (rfl | ⟨m, kvs, rfl, rfl, hm, h⟩) | ⟨m, xs, rfl, rfl, hm, h⟩
  · simp only [fin, if_pos k]
  · have l : ¬ m < S.length := by omega
    simp only [fin, if_pos k, if_neg l, rdF, h, mapM_kt, Option.map_some, ofOpt_some]
  · have l : ¬ m < S.length := by omega
    simp only [fin, if_pos k, if_neg l, rdF, h, mapM_t, Option.map_some, ofOpt_some]
section
variable {r : R D} {S : Store} {Q : D → Store → Prop} {E : Exn → Store → Prop}
/-- .. the callee changed the pot alone -/
theorem w_pot {n : Nat} (h : wp r (fun d S1 => ∃ p X x, Pot p ∧ S1 = S.set n p ++ X ∧ Fz S S1 d x ∧ Q (.t x) (S.set n p)) (fun _ _ => False)) : wp (fin .fz S r) Q E := by
  cases r with
  | ok d S1 =>
    obtain ⟨p, X, x, hp, rfl, hf, hq⟩ := h
    rw [fin_fz (keeps_set hp) hf, take_set]
    exact hq
  | exc e S1 => exact h.elim
  | bad => exact h
/-- .. nothing -/
theorem w_pure (h : wp r (fun d S1 => ∃ X x, S1 = S ++ X ∧ Fz S S1 d x ∧ Q (.t x) S) (fun _ _ => False)) : wp (fin .fz S r) Q E := by
  cases r with
  | ok d S1 =>
    obtain ⟨X, x, rfl, hf, hq⟩ := h
    rw [fin_fz keeps_app hf, take_app]
    exact hq
  | exc e S1 => exact h.elim
  | bad => exact h
/-- .. a list more -/
theorem w_new (h : wp r (fun d S1 => ∃ X m, ∃ xs : List T, S1 = S ++ X ∧ d = .loc (S.length + m) ∧ X[m]? = some (.lst (xs.map .t)) ∧ Q (.loc S.length) (S ++ [.lst (xs.map .t)])) (fun _ _ => False)) : wp (fin .nw S r) Q E := by
  cases r with
  | ok d S1 =>
    obtain ⟨X, m, xs, rfl, rfl, hf, hq⟩ := h
    have l : ¬ S.length + m < S.length := by omega
    simp only [fin, if_pos (keeps_app (S := S) (X := X)), if_neg l, g_app, hf, alT_map, take_app]
    exact hq
  | exc e S1 => exact h.elim
  | bad => exact h
end
section
variable {P : Prg} {fns : Nat → Option Fn} {S : Store} {n k : Nat} {Q : D → Store → Prop} {E : Exn → Store → Prop}
theorem call_eq {f : Nat} {m : Fn} {ds : List D} (h : fns f = some m) (hl : ds.length = m.pars) : callF P fns (k + 1) f ds S = (evSs P (callF P fns k) m.body (mkE ds m.slots) S).bind rq := by
  show (match fns f with
    | some fn => runFn P (callF P fns k) fn ds S
    | none => .bad) = _
  rw [h]
  exact run_eq hl
theorem ix2_0 : ixN 2 0 = some 0 := rfl
theorem ix2_1 : ixN 2 1 = some 1 := rfl
theorem take_ok {m : Int} (ht : fns 201 = some ml_201) (hp : PotAt S n) (h0 : 0 < m) (h1 : m < 1073741824) (H : ∀ r p, Pot p → 0 ≤ r → r < m → Q (.t (.int r)) (S.set n p)) :
    wp (fin .fz S (callF P fns (k + 1) 201 [.loc n, .t (.int m)] S)) Q E := by
  have hn := hp.lt
  obtain ⟨c, hc, a, b, rfl, ha, hb, hb2⟩ := hp
  unfold potC at hc
  refine w_pot (n := n) ?_
  rw [call_eq ht rfl]
  unfold ml_201
  have hs : ∀ c : Cell, (S.set n c)[n]? = some c := fun c => List.getElem?_set_self hn
  wp_walk using hc
  refine w_ifd (fun h => ?_) fun h => ?_
  · wp_walk using hc, h0, h1, ix2_0
    exact ⟨potC (a / m) b, [], .int (a % m), ⟨_, _, rfl, Int.ediv_nonneg ha (by omega), hb, hb2⟩, by simp [potC], fz_t, H _ _ ⟨_, _, rfl, Int.ediv_nonneg ha (by omega), hb, hb2⟩ (Int.emod_nonneg _ (by omega)) (Int.emod_lt_of_pos _ h0)⟩
  · wp_walk using hc, hs, ix2_1
    have l1 : 0 ≤ (b * 48271 + 10007) % 2147483587 := Int.emod_nonneg _ (by decide)
    have l2 : (b * 48271 + 10007) % 2147483587 < 2147483587 := Int.emod_lt_of_pos _ (by decide)
    generalize (b * 48271 + 10007) % 2147483587 = b' at *
    have g1 : -18446744073709551616 < b' := by omega
    have g2 : b' < 18446744073709551616 := by omega
    wp_walk using g1, g2, h0
    exact ⟨potC a b', [], .int (b' * b' % 2147483563 / 3 % m), ⟨_, _, rfl, ha, l1, by omega⟩, by simp [potC], fz_t, H _ _ ⟨_, _, rfl, ha, l1, by omega⟩ (Int.emod_nonneg _ (by omega)) (Int.emod_lt_of_pos _ h0)⟩
theorem among_ok {xs : List T} (hg : fns 202 = some ml_202) (ht : fns 201 = some ml_201) (hp : PotAt S n) (h0 : xs ≠ []) (h1 : xs.length < 1073741824) (H : ∀ x p, Pot p → x ∈ xs → Q (.t x) (S.set n p)) :
    wp (fin .fz S (callF P fns (k + 2) 202 [.loc n, .t (.lst xs)] S)) Q E := by
  have l0 : 0 < xs.length := List.length_pos_iff.mpr h0
  refine w_pot (n := n) ?_
  rw [call_eq hg rfl]
  unfold ml_202
  walk_at "ev"
  refine take_ok ht hp (by omega) (by omega) fun r p q r0 r1 => ?_
  have hr : r.toNat < xs.length := by omega
  wp_walk using atI_nat r0, List.getElem?_eq_getElem hr
  exact ⟨p, [], _, q, (List.append_nil _).symm, fz_t, H _ _ q (List.getElem_mem hr)⟩
theorem among_loc {m : Nat} {xs : List T} (hg : fns 202 = some ml_202) (ht : fns 201 = some ml_201) (hp : PotAt S n) (hm : S[m]? = some (.lst (xs.map .t))) (hne : m ≠ n) (h0 : xs ≠ []) (h1 : xs.length < 1073741824) (H : ∀ x p, Pot p → x ∈ xs → Q (.t x) (S.set n p)) :
    wp (fin .fz S (callF P fns (k + 2) 202 [.loc n, .loc m] S)) Q E := by
  have l0 : 0 < xs.length := List.length_pos_iff.mpr h0
  refine w_pot (n := n) ?_
  rw [call_eq hg rfl]
  unfold ml_202
  wp_walk using hm
  refine take_ok ht hp (by omega) (by omega) fun r p q r0 r1 => ?_
  have hr : r.toNat < xs.length := by omega
  have hm2 : (S.set n p)[m]? = some (.lst (xs.map .t)) := by rw [List.getElem?_set_ne (Ne.symm hne)]; exact hm
  wp_walk using hm2, atI_nat r0, List.getElem?_map, List.getElem?_eq_getElem hr
  exact ⟨p, [], _, q, (List.append_nil _).symm, fz_t, H _ _ q (List.getElem_mem hr)⟩
end
end Ev
end

section
set_option Elab.async false
set_option linter.all false
set_option maxRecDepth 20000
namespace Ev
open PySem PyProof.Rows L2
local macro_rules | `(tactic| walk_at "ev") => `(tactic| simp only [y_bind, y_k, y_ok, y_exc, y_noX, x_sq_nx, x_sq_rt, x_sq_bk, x_sq_ct, x_rq_rt, x_rq_nx, x_cons, x_nil, yk_nx, yk_rt, yk_nE, yk_asg, x_expr, x_ret, x_retN, x_asg, yk_mas, x_mas, yk_if1, yk_if0, x_iff, x_for, x_forS_ds, x_forS_cell, x_cmpS_ds, x_cmpS_cell, x_whil, x_rai, w_tr, x_pass, x_brk, x_cont, yk_set, yk_aug, x_aug, x_frv, yk_nu, yk_ax5, yk_ax4, yk_ax3, yk_ax2, yk_ax1, x_augIx, yk_fa, x_fasg, x_var, x_cst, yk_tup, x_tup, yk_fr, x_fr, yk_nw, x_nw, x_dnw, x_ddi, x_fz, yk_fz, x_fm, x_js, yk_js, x_j0, x_j1, v_asRep, yk_b1, x_bin, x_neg, x_negD, yk_c1, x_cmp, yk_and1, yk_and0, yk_or1, yk_or0, x_and, x_or, yk_d21, yk_d20, yk_d1b, yk_d1, x_cmp2, yk_not, x_not, yk_ife1, yk_ife0, x_ife, yk_fld, x_fld, yk_i1, x_idx, x_bi, x_bm, yk_isi, x_isi, yk_call, x_call, yk_cm, x_meth, x_mk, x_nq, yk_ta1, yk_ta0, yk_to1, yk_to0, x_tand, x_tor, yk_tn, x_tnot, x_tq, x_tqi, x_tqn, x_tcmp, x_tcmp2, x_tisi, x_tcall, x_tmeth, x_tbi, x_tvar, x_tidx, x_tife, x_tfld, x_tbm, yk_ts1, yk_ts0, x_ts_nil, x_ts_cons, x_es_nil, yk_cons, yk_es, x_es_cons, yk_disp, x_disp, yk_cat1, x_cat, yk_rep1, x_rep, yk_slc3, yk_slc2, yk_slc1, x_slc, yk_rev, x_rev, yk_lof, x_listOf, yk_kof, x_keysOf, yk_rng, x_frng, yk_srt, x_sorted, x_comp, yk_src, x_ival, yk_irng, x_irng, yk_ienu, x_ienu, yk_iz2, yk_iz1, x_izip, x_o_none, x_oq, x_o_some, x_nm, x_tp, yk_eu, yk_ix2, yk_ix1, x_ix, x_ts0, yk_at, x_ts1, x_bodyF, x_bodyW, x_condW, x_bodyC, x_cq, yk_some, x_cq21, x_cq20,
  v_lt, v_le, v_gt, v_ge, v_is, v_isn, v_in, v_nin, v_add, v_sub, v_bxor, v_band, v_bor, v_tru, v_len, v_lenT, v_lenU, v_lenA, v_abs, v_max2, v_min2, v_intI, v_intB, v_bitlen, v_all, v_any, v_sum, v_lenset, v_idxT, v_idxU, v_idxA, v_keyI, v_keyS, v_fldT, v_clsT, v_tyI, v_tyB, v_tyN, v_tyS, v_tyT, v_tyU, v_tyD, v_tyO, v_itsT, v_srcT, v_srcU, v_allT, v_allT0, v_lstT, v_seqT, v_seqU, alT_map, intsT_map, blsT_map,
  R.bind_ok, R.bind_exc, R.bind_bad, R.noX_ok, R.noX_bad, ofOpt_some, ofOpt_none, Option.map_some, Option.map_none, Option.bind_some, Option.bind_none, mkE,
  List.getElem?_cons_zero, List.getElem?_cons_succ, List.set_cons_zero, List.set_cons_succ, List.map_cons, List.map_nil, List.append_nil, List.nil_append, List.cons_append, List.length_cons, List.length_nil, List.length_append, List.length_set, List.length_map, List.append_assoc, List.set_set, Nat.zero_add, Nat.reduceAdd, Nat.reduceSub, Nat.reduceLeDiff, Nat.reduceLT, ↓reduceIte, decide_eq_true_eq, Bool.not_eq_true', decide_eq_false_iff_not, Bool.not_true, Bool.not_false, Bool.false_eq_true, g_app0, g_app, g_set0, g_set, s_app0, s_app, s_set0, s_set, tgVars, tgsVars, wipeE,
  v_mod, v_fdiv, v_divmod, v_mul, v_pow, Int.reduceLT, Int.reduceLE, Int.reduceNeg, Int.reducePow, or_true, true_or, yk_ddi, x_tp, x_tl, v_rng1n, v_eqi, v_nei, Nat.le_refl, l_len, l_tru, l_its, l_lst, l_seq, l_src, l_cls, l_ty, l_fld, l_idx, l_put, l_putF, l_in, l_keys, l_app, l_clear, l_reverse, l_popAt, l_pop, l_bm, l_ty1, l_ty2, l_ty3, l_ty4, l_ty5, l_ty6, l_ty7, l_ty8, l_mq, l_kq, atI_0, atI_1, atI_2, atI_last, List.length_append, eq_self, and_self, and_true, true_and, fPut, Nat.reduceEqDiff, List.lookup_cons, List.lookup_nil, Nat.reduceBEq])
local macro_rules | `(tactic| wp_walk using $ts,*) => `(tactic| simp only [y_bind, y_k, y_ok, y_exc, y_noX, x_sq_nx, x_sq_rt, x_sq_bk, x_sq_ct, x_rq_rt, x_rq_nx, x_cons, x_nil, yk_nx, yk_rt, yk_nE, yk_asg, x_expr, x_ret, x_retN, x_asg, yk_mas, x_mas, yk_if1, yk_if0, x_iff, x_for, x_forS_ds, x_forS_cell, x_cmpS_ds, x_cmpS_cell, x_whil, x_rai, w_tr, x_pass, x_brk, x_cont, yk_set, yk_aug, x_aug, x_frv, yk_nu, yk_ax5, yk_ax4, yk_ax3, yk_ax2, yk_ax1, x_augIx, yk_fa, x_fasg, x_var, x_cst, yk_tup, x_tup, yk_fr, x_fr, yk_nw, x_nw, x_dnw, x_ddi, x_fz, yk_fz, x_fm, x_js, yk_js, x_j0, x_j1, v_asRep, yk_b1, x_bin, x_neg, x_negD, yk_c1, x_cmp, yk_and1, yk_and0, yk_or1, yk_or0, x_and, x_or, yk_d21, yk_d20, yk_d1b, yk_d1, x_cmp2, yk_not, x_not, yk_ife1, yk_ife0, x_ife, yk_fld, x_fld, yk_i1, x_idx, x_bi, x_bm, yk_isi, x_isi, yk_call, x_call, yk_cm, x_meth, x_mk, x_nq, yk_ta1, yk_ta0, yk_to1, yk_to0, x_tand, x_tor, yk_tn, x_tnot, x_tq, x_tqi, x_tqn, x_tcmp, x_tcmp2, x_tisi, x_tcall, x_tmeth, x_tbi, x_tvar, x_tidx, x_tife, x_tfld, x_tbm, yk_ts1, yk_ts0, x_ts_nil, x_ts_cons, x_es_nil, yk_cons, yk_es, x_es_cons, yk_disp, x_disp, yk_cat1, x_cat, yk_rep1, x_rep, yk_slc3, yk_slc2, yk_slc1, x_slc, yk_rev, x_rev, yk_lof, x_listOf, yk_kof, x_keysOf, yk_rng, x_frng, yk_srt, x_sorted, x_comp, yk_src, x_ival, yk_irng, x_irng, yk_ienu, x_ienu, yk_iz2, yk_iz1, x_izip, x_o_none, x_oq, x_o_some, x_nm, x_tp, yk_eu, yk_ix2, yk_ix1, x_ix, x_ts0, yk_at, x_ts1, x_bodyF, x_bodyW, x_condW, x_bodyC, x_cq, yk_some, x_cq21, x_cq20,
  v_lt, v_le, v_gt, v_ge, v_is, v_isn, v_in, v_nin, v_add, v_sub, v_bxor, v_band, v_bor, v_tru, v_len, v_lenT, v_lenU, v_lenA, v_abs, v_max2, v_min2, v_intI, v_intB, v_bitlen, v_all, v_any, v_sum, v_lenset, v_idxT, v_idxU, v_idxA, v_keyI, v_keyS, v_fldT, v_clsT, v_tyI, v_tyB, v_tyN, v_tyS, v_tyT, v_tyU, v_tyD, v_tyO, v_itsT, v_srcT, v_srcU, v_allT, v_allT0, v_lstT, v_seqT, v_seqU, alT_map, intsT_map, blsT_map,
  R.bind_ok, R.bind_exc, R.bind_bad, R.noX_ok, R.noX_bad, ofOpt_some, ofOpt_none, Option.map_some, Option.map_none, Option.bind_some, Option.bind_none, mkE,
  List.getElem?_cons_zero, List.getElem?_cons_succ, List.set_cons_zero, List.set_cons_succ, List.map_cons, List.map_nil, List.append_nil, List.nil_append, List.cons_append, List.length_cons, List.length_nil, List.length_append, List.length_set, List.length_map, List.append_assoc, List.set_set, Nat.zero_add, Nat.reduceAdd, Nat.reduceSub, Nat.reduceLeDiff, Nat.reduceLT, ↓reduceIte, decide_eq_true_eq, Bool.not_eq_true', decide_eq_false_iff_not, Bool.not_true, Bool.not_false, Bool.false_eq_true, g_app0, g_app, g_set0, g_set, s_app0, s_app, s_set0, s_set, tgVars, tgsVars, wipeE,
  v_mod, v_fdiv, v_divmod, v_mul, v_pow, Int.reduceLT, Int.reduceLE, Int.reduceNeg, Int.reducePow, or_true, true_or, yk_ddi, x_tp, x_tl, v_rng1n, v_eqi, v_nei, Nat.le_refl, l_len, l_tru, l_its, l_lst, l_seq, l_src, l_cls, l_ty, l_fld, l_idx, l_put, l_putF, l_in, l_keys, l_app, l_clear, l_reverse, l_popAt, l_pop, l_bm, l_ty1, l_ty2, l_ty3, l_ty4, l_ty5, l_ty6, l_ty7, l_ty8, l_mq, l_kq, atI_0, atI_1, atI_2, atI_last, List.length_append, eq_self, and_self, and_true, true_and, fPut, Nat.reduceEqDiff, List.lookup_cons, List.lookup_nil, Nat.reduceBEq, $[$ts:term],*])
section
variable {P : Prg} {fns : Nat → Option Fn} {S : Store} {n k : Nat} {Q : D → Store → Prop} {E : Exn → Store → Prop}
/-! ### shuffled -/
theorem pop_perm : ∀ {l : List T} {i : Nat} {y : T}, l[i]? = some y → (y :: l.eraseIdx i).Perm l
  | [], i, y, h => by simp at h
  | x :: r, 0, y, h => by simp at h; subst h; exact List.Perm.refl _
  | x :: r, i + 1, y, h => by
    simp only [List.getElem?_cons_succ] at h
    exact (List.Perm.swap x y _).trans ((pop_perm h).cons x)
theorem perm_pop {xs left found : List T} {i : Nat} {y : T} (h : (found ++ left).Perm xs) (hy : left[i]? = some y) : ((found ++ [y]) ++ left.eraseIdx i).Perm xs := by
  refine List.Perm.trans ?_ h
  rw [List.append_assoc]
  exact List.Perm.append_left _ (pop_perm hy)
theorem erase_map {l : List T} {i : Nat} : (l.map D.t).eraseIdx i = (l.eraseIdx i).map D.t := by
  induction l generalizing i with
  | nil => simp
  | cons x r ih => cases i <;> simp [ih]
theorem map_snoc {xs : List T} {y : T} : xs.map D.t ++ [D.t y] = (xs ++ [y]).map D.t := by simp
theorem shuf_ok {xs : List T} (hg : fns 203 = some ml_203) (ht : fns 201 = some ml_201) (hp : PotAt S n) (h1 : xs.length < 1000000) (H : ∀ ys p, Pot p → ys.Perm xs → Q (.t (.lst ys)) (S.set n p)) :
    wp (fin .fz S (callF P fns (k + 2) 203 [.loc n, .t (.lst xs)] S)) Q E := by
  have hn := hp.lt
  obtain ⟨p0, hp0, e0⟩ := hp.same
  refine w_pot (n := n) ?_
  rw [call_eq hg rfl]
  unfold ml_203
  wp_walk using v_rng1n (show xs.length < 1073741824 by omega)
  refine wp_forL (fun i τ S' => ∃ p left found, Pot p ∧ left.length + i = xs.length ∧ (found ++ left).Perm xs ∧ S' = S.set n p ++ [.lst (left.map .t), .lst (found.map .t)] ∧ ∃ kk, τ = [some (.loc n), some (.t (.lst xs)), some (.loc S.length), some (.loc (S.length + 1)), kk])
    ⟨p0, xs, [], hp0, by simp, by simp, by rw [e0]; rfl, none, rfl⟩ (fun i d τ S' hd => ?_) fun τ S' => ?_
  · rintro ⟨p, left, found, a1, a2, a3, rfl, kk, rfl⟩
    have hi : i < xs.length := by simpa using (List.getElem?_eq_some_iff.mp hd).1
    have hl := a3.length_eq
    simp only [List.length_append] at hl
    wp_walk using x_bodyF
    refine take_ok ht (PotAt.set hn a1).app (by omega) (by omega) fun r p' b1 r0 r1 => ?_
    have hr : r.toNat < left.length := by omega
    have g1 : r < 9223372036854775808 := by omega
    wp_walk using s_fr (c := p') (show n < (S.set n p).length by simpa using hn), r0, g1, List.getElem?_map, List.getElem?_eq_getElem hr, show found.length < 16777216 by omega
    refine ⟨p', left.eraseIdx r.toNat, found ++ [left[r.toNat]], b1, ?_, perm_pop a3 (List.getElem?_eq_getElem hr), ?_, _, rfl⟩
    · rw [List.length_eraseIdx_of_lt hr]; omega
    · rw [erase_map, map_snoc]
  · rintro ⟨p, left, found, a1, a2, a3, rfl, kk, rfl⟩
    simp only [List.length_map, List.length_range] at a2
    obtain rfl : left = [] := List.length_eq_zero_iff.mp (by omega)
    rw [List.append_nil] at a3
    walk_at "ev"
    exact ⟨p, _, _, a1, rfl, .inr ⟨_, _, rfl, rfl, by omega, g_set⟩, H _ _ a1 a3⟩
/-! ### the cell's pot -/
theorem int_mul_ok {i j : Int} (h : -(2 ^ 64) < i ∧ i < 2 ^ 64) : (-(2 ^ 64) < i ∧ i < 2 ^ 64) ∨ (-(2 ^ 64) < j ∧ j < 2 ^ 64) := .inl h
theorem pot_ok {ns : List Int} {i : Int} (hg : fns 200 = some ml_200) (k0 : 0 ≤ i) (k1 : i < 1000) (H : ∀ p, Pot p → Q (.loc S.length) (S ++ [p])) :
    wp (fin .nw S (callF P fns (k + 1) 200 [.t (.arg ns), .t (.int i)] S)) Q E := by
  refine w_new ?_
  rw [call_eq hg rfl]
  unfold ml_200
  walk_at "ev"
  have m0 : ∀ x : Int, 0 ≤ x % 2147483543 := fun x => Int.emod_nonneg _ (by decide)
  have m1 : ∀ x : Int, x % 2147483543 < 2147483543 := fun x => Int.emod_lt_of_pos _ (by decide)
  refine w_ifd (fun h => ?_) fun h => ?_
  · have hi : i.toNat < ns.length := by omega
    wp_walk using atI_nat k0, List.getElem?_eq_getElem hi
    generalize (if ns[i.toNat] < 0 then -ns[i.toNat] else ns[i.toNat]) = c
    have d0 : 0 ≤ c % 2147483549 := Int.emod_nonneg _ (by decide)
    have d1 : c % 2147483549 < 2147483549 := Int.emod_lt_of_pos _ (by decide)
    refine wp_eq (v_pow ⟨by decide, by decide, by decide⟩) ?_
    walk_at "ev"
    refine wp_eq (v_pow ⟨by decide, by decide, by omega⟩) ?_
    walk_at "ev"
    refine ⟨_, 0, [.int _, .int _], rfl, rfl, rfl, H (potC _ _) ⟨_, _, rfl, ?_, ?_, ?_⟩⟩
    · split <;> omega
    · have := m0 ((c % 2147483549 + 97 * i + 1) ^ Int.toNat 2); omega
    · have := m1 ((c % 2147483549 + 97 * i + 1) ^ Int.toNat 2); omega
  · walk_at "ev"
    refine wp_eq (v_pow ⟨by decide, by decide, by decide⟩) ?_
    walk_at "ev"
    refine wp_eq (v_pow ⟨by decide, by decide, by omega⟩) ?_
    walk_at "ev"
    refine ⟨_, 0, [.int _, .int _], rfl, rfl, rfl, H (potC _ _) ⟨_, _, rfl, ?_, ?_, ?_⟩⟩
    · split <;> omega
    · have := m0 ((0 % 2147483549 + 97 * i + 1) ^ Int.toNat 2); omega
    · have := m1 ((0 % 2147483549 + 97 * i + 1) ^ Int.toNat 2); omega
/-! ### .. a whole number, just this one -/
structure IsaI (P : Prg) : Prop where
  ii : P.isa (.inl "int") (.ty "int") = some true
  ib : P.isa (.inl "int") (.ty "bool") = some false
theorem is_ok {i : Int} (hg : fns 205 = some ml_205) (hi : IsaI P) (H : Q (.t (.bl true)) S) :
    wp (fin .fz S (callF P fns (k + 1) 205 [.t (.int i), .t (.int i)] S)) Q E := by
  refine w_pure ?_
  rw [call_eq hg rfl]
  unfold ml_205
  wp_walk using isAny, hi.ii, hi.ib, Bool.or_false
  exact ⟨[], _, (List.append_nil _).symm, fz_t, by simpa using H⟩
/-! ### a heap, drawn -/
/-- the numbers below n, as a tree's items -/
def rngT (n : Nat) : List T := (List.range n).map fun (i : Nat) => .int (i : Int)
theorem rngT_map (n : Nat) : (List.range n).map (fun (i : Nat) => D.t (.int (i : Int))) = (rngT n).map .t := by simp [rngT, Function.comp_def]
theorem rngT_len (n : Nat) : (rngT n).length = n := by simp [rngT]
theorem cut_to {xs : List D} {r : Int} (h : 0 ≤ r) : cutD xs none (some r) = xs.take r.toNat := by
  obtain ⟨m, rfl⟩ : ∃ m : Nat, r = m := ⟨r.toNat, by omega⟩
  simp only [cutD, HT.sIx_none, HT.sIx_nat, List.drop_zero, Nat.sub_zero]
  rw [Int.toNat_natCast]
  rcases Nat.le_total m xs.length with h | h
  · rw [Nat.min_eq_left h]
  · rw [Nat.min_eq_right h, List.take_of_length_le (Nat.le_refl _), List.take_of_length_le h]
/-- a heap of things below m: each at most once -/
def HeapT (m : Nat) (xs : List T) : Prop := ∃ hs : List Nat, xs = hs.map (fun (i : Nat) => .int (i : Int)) ∧ hs.Nodup ∧ ∀ i ∈ hs, i < m
theorem perm_heap {m : Nat} {ys : List T} (h : ys.Perm (rngT m)) : HeapT m ys := by
  refine ⟨ys.map fun x => match x with | .int i => i.toNat | _ => 0, ?_, ?_, ?_⟩
  · rw [List.map_map]
    conv => lhs; rw [← List.map_id ys]
    refine List.map_congr_left fun x hx => ?_
    have := h.mem_iff.mp hx
    simp only [rngT, List.mem_map] at this
    obtain ⟨i, _, rfl⟩ := this
    simp
  · have := (h.map fun x => match x with | .int i => i.toNat | _ => 0).nodup_iff
    rw [this]
    simp only [rngT, List.map_map, Function.comp_def, Int.toNat_natCast]
    simpa using List.nodup_range
  · intro i hi
    simp only [List.mem_map] at hi
    obtain ⟨x, hx, rfl⟩ := hi
    have := h.mem_iff.mp hx
    simp only [rngT, List.mem_map, List.mem_range] at this
    obtain ⟨j, hj, rfl⟩ := this
    simpa using hj
theorem HeapT.take {m : Nat} {ys : List T} (h : HeapT m ys) (j : Nat) : HeapT m (ys.take j) := by
  obtain ⟨hs, rfl, h1, h2⟩ := h
  exact ⟨hs.take j, by simp, h1.sublist (List.take_sublist _ _), fun i hi => h2 i (List.mem_of_mem_take hi)⟩
theorem heap_ok {m : Nat} (hg : fns 204 = some ml_204) (hs : fns 203 = some ml_203) (ht : fns 201 = some ml_201) (hp : PotAt S n) (h1 : m < 1000000) (H : ∀ ys p, Pot p → HeapT m ys → Q (.t (.lst ys)) (S.set n p)) :
    wp (fin .fz S (callF P fns (k + 3) 204 [.loc n, .t (.int (m : Nat))] S)) Q E := by
  have hn := hp.lt
  refine w_pot (n := n) ?_
  rw [call_eq hg rfl]
  unfold ml_204
  wp_walk using v_rng1n (show m < 1073741824 by omega), List.length_range, show m ≤ 16777216 by omega, List.map_map, Function.comp_def, rngT_map
  refine shuf_ok hs ht hp (by rw [rngT_len]; omega) fun ys p b1 b2 => ?_
  walk_at "ev"
  refine take_ok ht (PotAt.set hn b1) (by omega) (by omega) fun r p' c1 r0 r1 => ?_
  have e : (ys.map D.t).take r.toNat = (ys.take r.toNat).map D.t := List.map_take.symm
  wp_walk using cut_to r0, e
  exact ⟨p', [], _, c1, (List.append_nil _).symm, fz_t, H _ _ c1 ((perm_heap b2).take _)⟩
end
end Ev
end

section
set_option Elab.async false
set_option linter.all false
set_option maxRecDepth 20000
namespace Ev
open PySem PyProof.Rows L2
local macro_rules | `(tactic| walk_at "ev") => `(tactic| simp only [y_bind, y_k, y_ok, y_exc, y_noX, x_sq_nx, x_sq_rt, x_sq_bk, x_sq_ct, x_rq_rt, x_rq_nx, x_cons, x_nil, yk_nx, yk_rt, yk_nE, yk_asg, x_expr, x_ret, x_retN, x_asg, yk_mas, x_mas, yk_if1, yk_if0, x_iff, x_for, x_forS_ds, x_forS_cell, x_cmpS_ds, x_cmpS_cell, x_whil, x_rai, w_tr, x_pass, x_brk, x_cont, yk_set, yk_aug, x_aug, x_frv, yk_nu, yk_ax5, yk_ax4, yk_ax3, yk_ax2, yk_ax1, x_augIx, yk_fa, x_fasg, x_var, x_cst, yk_tup, x_tup, yk_fr, x_fr, yk_nw, x_nw, x_dnw, x_ddi, x_fz, yk_fz, x_fm, x_js, yk_js, x_j0, x_j1, v_asRep, yk_b1, x_bin, x_neg, x_negD, yk_c1, x_cmp, yk_and1, yk_and0, yk_or1, yk_or0, x_and, x_or, yk_d21, yk_d20, yk_d1b, yk_d1, x_cmp2, yk_not, x_not, yk_ife1, yk_ife0, x_ife, yk_fld, x_fld, yk_i1, x_idx, x_bi, x_bm, yk_isi, x_isi, yk_call, x_call, yk_cm, x_meth, x_mk, x_nq, yk_ta1, yk_ta0, yk_to1, yk_to0, x_tand, x_tor, yk_tn, x_tnot, x_tq, x_tqi, x_tqn, x_tcmp, x_tcmp2, x_tisi, x_tcall, x_tmeth, x_tbi, x_tvar, x_tidx, x_tife, x_tfld, x_tbm, yk_ts1, yk_ts0, x_ts_nil, x_ts_cons, x_es_nil, yk_cons, yk_es, x_es_cons, yk_disp, x_disp, yk_cat1, x_cat, yk_rep1, x_rep, yk_slc3, yk_slc2, yk_slc1, x_slc, yk_rev, x_rev, yk_lof, x_listOf, yk_kof, x_keysOf, yk_rng, x_frng, yk_srt, x_sorted, x_comp, yk_src, x_ival, yk_irng, x_irng, yk_ienu, x_ienu, yk_iz2, yk_iz1, x_izip, x_o_none, x_oq, x_o_some, x_nm, x_tp, yk_eu, yk_ix2, yk_ix1, x_ix, x_ts0, yk_at, x_ts1, x_bodyF, x_bodyW, x_condW, x_bodyC, x_cq, yk_some, x_cq21, x_cq20,
  v_lt, v_le, v_gt, v_ge, v_is, v_isn, v_in, v_nin, v_add, v_sub, v_bxor, v_band, v_bor, v_tru, v_len, v_lenT, v_lenU, v_lenA, v_abs, v_max2, v_min2, v_intI, v_intB, v_bitlen, v_all, v_any, v_sum, v_lenset, v_idxT, v_idxU, v_idxA, v_keyI, v_keyS, v_fldT, v_clsT, v_tyI, v_tyB, v_tyN, v_tyS, v_tyT, v_tyU, v_tyD, v_tyO, v_itsT, v_srcT, v_srcU, v_allT, v_allT0, v_lstT, v_seqT, v_seqU, alT_map, intsT_map, blsT_map,
  R.bind_ok, R.bind_exc, R.bind_bad, R.noX_ok, R.noX_bad, ofOpt_some, ofOpt_none, Option.map_some, Option.map_none, Option.bind_some, Option.bind_none, mkE,
  List.getElem?_cons_zero, List.getElem?_cons_succ, List.set_cons_zero, List.set_cons_succ, List.map_cons, List.map_nil, List.append_nil, List.nil_append, List.cons_append, List.length_cons, List.length_nil, List.length_append, List.length_set, List.length_map, List.append_assoc, List.set_set, Nat.zero_add, Nat.reduceAdd, Nat.reduceSub, Nat.reduceLeDiff, Nat.reduceLT, ↓reduceIte, decide_eq_true_eq, Bool.not_eq_true', decide_eq_false_iff_not, Bool.not_true, Bool.not_false, Bool.false_eq_true, g_app0, g_app, g_set0, g_set, s_app0, s_app, s_set0, s_set, tgVars, tgsVars, wipeE,
  v_mod, v_fdiv, v_divmod, v_mul, v_pow, Int.reduceLT, Int.reduceLE, Int.reduceNeg, Int.reducePow, or_true, true_or, yk_ddi, x_tp, x_tl, v_rng1n, v_eqi, v_nei, Nat.le_refl, l_len, l_tru, l_its, l_lst, l_seq, l_src, l_cls, l_ty, l_fld, l_idx, l_put, l_putF, l_in, l_keys, l_app, l_clear, l_reverse, l_popAt, l_pop, l_bm, l_ty1, l_ty2, l_ty3, l_ty4, l_ty5, l_ty6, l_ty7, l_ty8, l_mq, l_kq, atI_0, atI_1, atI_2, atI_last, List.length_append, eq_self, and_self, and_true, true_and, fPut, Nat.reduceEqDiff, List.lookup_cons, List.lookup_nil, Nat.reduceBEq])
local macro_rules | `(tactic| wp_walk using $ts,*) => `(tactic| simp only [y_bind, y_k, y_ok, y_exc, y_noX, x_sq_nx, x_sq_rt, x_sq_bk, x_sq_ct, x_rq_rt, x_rq_nx, x_cons, x_nil, yk_nx, yk_rt, yk_nE, yk_asg, x_expr, x_ret, x_retN, x_asg, yk_mas, x_mas, yk_if1, yk_if0, x_iff, x_for, x_forS_ds, x_forS_cell, x_cmpS_ds, x_cmpS_cell, x_whil, x_rai, w_tr, x_pass, x_brk, x_cont, yk_set, yk_aug, x_aug, x_frv, yk_nu, yk_ax5, yk_ax4, yk_ax3, yk_ax2, yk_ax1, x_augIx, yk_fa, x_fasg, x_var, x_cst, yk_tup, x_tup, yk_fr, x_fr, yk_nw, x_nw, x_dnw, x_ddi, x_fz, yk_fz, x_fm, x_js, yk_js, x_j0, x_j1, v_asRep, yk_b1, x_bin, x_neg, x_negD, yk_c1, x_cmp, yk_and1, yk_and0, yk_or1, yk_or0, x_and, x_or, yk_d21, yk_d20, yk_d1b, yk_d1, x_cmp2, yk_not, x_not, yk_ife1, yk_ife0, x_ife, yk_fld, x_fld, yk_i1, x_idx, x_bi, x_bm, yk_isi, x_isi, yk_call, x_call, yk_cm, x_meth, x_mk, x_nq, yk_ta1, yk_ta0, yk_to1, yk_to0, x_tand, x_tor, yk_tn, x_tnot, x_tq, x_tqi, x_tqn, x_tcmp, x_tcmp2, x_tisi, x_tcall, x_tmeth, x_tbi, x_tvar, x_tidx, x_tife, x_tfld, x_tbm, yk_ts1, yk_ts0, x_ts_nil, x_ts_cons, x_es_nil, yk_cons, yk_es, x_es_cons, yk_disp, x_disp, yk_cat1, x_cat, yk_rep1, x_rep, yk_slc3, yk_slc2, yk_slc1, x_slc, yk_rev, x_rev, yk_lof, x_listOf, yk_kof, x_keysOf, yk_rng, x_frng, yk_srt, x_sorted, x_comp, yk_src, x_ival, yk_irng, x_irng, yk_ienu, x_ienu, yk_iz2, yk_iz1, x_izip, x_o_none, x_oq, x_o_some, x_nm, x_tp, yk_eu, yk_ix2, yk_ix1, x_ix, x_ts0, yk_at, x_ts1, x_bodyF, x_bodyW, x_condW, x_bodyC, x_cq, yk_some, x_cq21, x_cq20,
  v_lt, v_le, v_gt, v_ge, v_is, v_isn, v_in, v_nin, v_add, v_sub, v_bxor, v_band, v_bor, v_tru, v_len, v_lenT, v_lenU, v_lenA, v_abs, v_max2, v_min2, v_intI, v_intB, v_bitlen, v_all, v_any, v_sum, v_lenset, v_idxT, v_idxU, v_idxA, v_keyI, v_keyS, v_fldT, v_clsT, v_tyI, v_tyB, v_tyN, v_tyS, v_tyT, v_tyU, v_tyD, v_tyO, v_itsT, v_srcT, v_srcU, v_allT, v_allT0, v_lstT, v_seqT, v_seqU, alT_map, intsT_map, blsT_map,
  R.bind_ok, R.bind_exc, R.bind_bad, R.noX_ok, R.noX_bad, ofOpt_some, ofOpt_none, Option.map_some, Option.map_none, Option.bind_some, Option.bind_none, mkE,
  List.getElem?_cons_zero, List.getElem?_cons_succ, List.set_cons_zero, List.set_cons_succ, List.map_cons, List.map_nil, List.append_nil, List.nil_append, List.cons_append, List.length_cons, List.length_nil, List.length_append, List.length_set, List.length_map, List.append_assoc, List.set_set, Nat.zero_add, Nat.reduceAdd, Nat.reduceSub, Nat.reduceLeDiff, Nat.reduceLT, ↓reduceIte, decide_eq_true_eq, Bool.not_eq_true', decide_eq_false_iff_not, Bool.not_true, Bool.not_false, Bool.false_eq_true, g_app0, g_app, g_set0, g_set, s_app0, s_app, s_set0, s_set, tgVars, tgsVars, wipeE,
  v_mod, v_fdiv, v_divmod, v_mul, v_pow, Int.reduceLT, Int.reduceLE, Int.reduceNeg, Int.reducePow, or_true, true_or, yk_ddi, x_tp, x_tl, v_rng1n, v_eqi, v_nei, Nat.le_refl, l_len, l_tru, l_its, l_lst, l_seq, l_src, l_cls, l_ty, l_fld, l_idx, l_put, l_putF, l_in, l_keys, l_app, l_clear, l_reverse, l_popAt, l_pop, l_bm, l_ty1, l_ty2, l_ty3, l_ty4, l_ty5, l_ty6, l_ty7, l_ty8, l_mq, l_kq, atI_0, atI_1, atI_2, atI_last, List.length_append, eq_self, and_self, and_true, true_and, fPut, Nat.reduceEqDiff, List.lookup_cons, List.lookup_nil, Nat.reduceBEq, $[$ts:term],*])
/-! ### yards, all sorts -/
def natT (hs : List Nat) : List T := hs.map fun (i : Nat) => .int (i : Int)
theorem natT_len (hs : List Nat) : (natT hs).length = hs.length := by simp [natT]
theorem rngT_natT (n : Nat) : rngT n = natT (List.range n) := rfl
structure IsaL (P : Prg) : Prop extends IsaI P where
  ll : P.isa (.inl "list") (.ty "list") = some true
structure Yds (P : Prg) (fns : Nat → Option Fn) : Prop extends IsaL P where
  f0 : fns 0 = some mp_0
  f1 : fns 1 = some mp_1
  f6 : fns 6 = some mp_6
  f7 : fns 7 = some mp_7
  f8 : fns 8 = some mp_8
  f9 : fns 9 = some mp_9
  f11 : fns 11 = some mp_11
  f18 : fns 18 = some mp_18
  f20 : fns 20 = some mp_20
  f21 : fns 21 = some mp_21
/-- a class of yards: its methods -/
structure YCls (P : Prg) (c w : Nat) : Prop where
  many : P.meth c 1 = some 7
  things : P.meth c 2 = some 8
  worth : P.meth c 3 = some 9
  worthOf : P.meth c 4 = some w
  whole : P.meth c 5 = some 11
theorem dedup_nodup : ∀ (l s : List Int), (s ++ l).Nodup → l.foldl PyProof.Rows.step_dedup s = s ++ l
  | [], s, _ => by simp
  | x :: r, s, h => by
    have hx : x ∉ s := fun hx => by
      have := (List.nodup_append.mp h).2.2 x hx x (by simp)
      exact this rfl
    have e : PyProof.Rows.step_dedup s x = s ++ [x] := by
      unfold PyProof.Rows.step_dedup
      rw [if_neg]
      simp only [List.any_eq_true, beq_iff_eq, exists_eq_right]
      exact hx
    rw [List.foldl_cons, e, dedup_nodup r (s ++ [x]) (by rw [List.append_assoc]; exact h), List.append_assoc]
    rfl
theorem nodup_int {hs : List Nat} (h : hs.Nodup) : (hs.map fun (i : Nat) => (i : Int)).Nodup := by
  rw [List.Nodup, List.pairwise_map]
  exact h.imp fun {a b} hab e => hab (by omega)
theorem natT_ints (hs : List Nat) : intsT (natT hs) = some (hs.map fun (i : Nat) => (i : Int)) := by
  have : natT hs = (hs.map fun (i : Nat) => (i : Int)).map .int := by simp [natT, Function.comp_def]
  rw [this, intsT_map]
/-- a heap of a yard of so many things -/
def Hp (n : Nat) (hs : List Nat) : Prop := hs.Nodup ∧ ∀ i ∈ hs, i < n
theorem nodup_bound : ∀ (n : Nat) (hs : List Nat), hs.Nodup → (∀ i ∈ hs, i < n) → hs.length ≤ n
  | 0, [], _, _ => Nat.le_refl _
  | 0, x :: r, _, h => absurd (h x (by simp)) (Nat.not_lt_zero _)
  | n + 1, hs, h1, h2 => by
    have h := nodup_bound n (hs.erase n) (h1.erase n) fun i hi => by
      have a := h2 i (List.mem_of_mem_erase hi)
      have b : i ≠ n := fun e => by
        subst e
        exact (List.Nodup.not_mem_erase h1) hi
      omega
    have l := List.length_erase (a := n) (l := hs)
    split at l <;> omega
theorem Hp.len {n : Nat} {hs : List Nat} (h : Hp n hs) : hs.length ≤ n := nodup_bound n hs h.1 h.2
section
variable {P : Prg} {fns : Nat → Option Fn} {S : Store} {n k : Nat} {Q : D → Store → Prop} {E : Exn → Store → Prop}
theorem isnum_ok {i n : Int} (f : fns 0 = some mp_0) (hi : IsaI P) (H : Q (.t (.bl (decide (0 ≤ i ∧ i < n)))) S) :
    wp (fin .fz S (callF P fns (k + 1) 0 [.t (.int i), .t (.int n)] S)) Q E := by
  refine w_pure ?_
  rw [call_eq f rfl]
  unfold mp_0
  wp_walk using isAny, hi.ii, hi.ib, Bool.or_false
  refine w_d2 (fun h => ?_) fun h => ?_
  · wp_walk using isAny
    refine ⟨[], _, (List.append_nil _).symm, fz_t, ?_⟩
    have : decide (0 ≤ i ∧ i < n) = decide (i < n) := by simp only [of_decide_eq_true h, true_and]
    rw [this] at H
    exact H
  · wp_walk using isAny
    refine ⟨[], _, (List.append_nil _).symm, fz_t, ?_⟩
    have : decide (0 ≤ i ∧ i < n) = false := by simp only [of_decide_eq_false h, false_and, decide_false]
    rw [this] at H
    exact H
def liftD (g : T → T) : D → D
  | .t x => .t (g x)
  | d => d
/-- a comprehension that changes nothing, item by item -/
theorem w_map {C : Calls} {P : Prg} {tg : Tg} {ifs : List Ev.E} {e : Ev.E} {τ : Env} {xs : List T} {Q : List D → Store → Prop} (g : T → T) (hl : xs.length ≤ 16777216) (h : ∀ x ∈ xs, wp (bodyC P C tg ifs e τ (.t x) S) (fun q S' => q = some (.t (g x)) ∧ S' = S) (fun _ _ => False)) (H : Q ((xs.map g).map .t) S) :
    wp (cmpL (bodyC P C tg ifs e τ) (xs.map .t) [] S) Q E := by
  have key := cmpL_map (f := bodyC P C tg ifs e τ) (liftD g) (xs.map .t) S (fun d hd => by
    obtain ⟨x, hx, rfl⟩ := List.mem_map.mp hd
    have := h x hx
    revert this
    cases bodyC P C tg ifs e τ (.t x) S with
    | ok a S1 => rintro ⟨rfl, rfl⟩; rfl
    | exc _ _ => exact False.elim
    | bad => exact False.elim) (by rw [List.length_map]; exact le_line hl)
  rw [key]
  have : (xs.map D.t).map (liftD g) = (xs.map g).map D.t := by simp [Function.comp_def, liftD]
  rw [this]
  exact H
/-- a list handed in: a tree, or in a cell -/
def Arg (S : Store) (d : D) (xs : List T) : Prop := d = .t (.lst xs) ∨ ∃ m, d = .loc m ∧ S[m]? = some (.lst (xs.map .t))
theorem Arg.t {xs : List T} : Arg S (.t (.lst xs)) xs := .inl rfl
theorem Arg.app {d : D} {xs : List T} {X : Store} (h : Arg S d xs) : Arg (S ++ X) d xs := by
  rcases h with rfl | ⟨m, rfl, h⟩
  · exact .inl rfl
  · exact .inr ⟨m, rfl, by rw [List.getElem?_append_left (List.getElem?_eq_some_iff.mp h).1]; exact h⟩
theorem Arg.ty {d : D} {xs : List T} (h : Arg S d xs) : tyD S d = some (.inl "list") := by
  rcases h with rfl | ⟨m, rfl, h⟩
  · rfl
  · simp only [tyD, h]
theorem Arg.len {d : D} {xs : List T} (h : Arg S d xs) : lenD S d = some xs.length := by
  rcases h with rfl | ⟨m, rfl, h⟩
  · rfl
  · simp only [lenD, h, List.length_map]
theorem Arg.its {d : D} {xs : List T} (h : Arg S d xs) : itsD S d = some (xs.map .t) := by
  rcases h with rfl | ⟨m, rfl, h⟩
  · rfl
  · simp only [itsD, h]
theorem Arg.lst {d : D} {xs : List T} (h : Arg S d xs) : lstT S d = some xs := by
  rcases h with rfl | ⟨m, rfl, h⟩
  · exact v_lstT
  · simp only [lstT, itsD, h, Option.bind_some, alT_map]
theorem cmpC_eq {f : D → Store → R (Option D)} {n : Nat} {ds : List D} (hS : S[n]? = some (.lst ds)) (hf : ∀ d ∈ ds, ∃ q, f d S = .ok q S) : ∀ (k i : Nat) (acc : List D), ds.length < k + i → cmpC n f k i acc S = cmpL f (ds.drop i) acc S
  | 0, i, acc, h => by
    have : ds[i]? = none := List.getElem?_eq_none (by omega)
    rw [List.drop_eq_nil_of_le (show ds.length ≤ i by omega)]
    unfold cmpC cmpL
    simp only [hS, this]
  | k + 1, i, acc, h => by
    cases e : ds[i]? with
    | none =>
      have : ds.length ≤ i := List.getElem?_eq_none_iff.mp e
      rw [List.drop_eq_nil_of_le this]
      unfold cmpC cmpL
      simp only [hS, e]
    | some d =>
      obtain ⟨hl, rfl⟩ := List.getElem?_eq_some_iff.mp e
      obtain ⟨q, hq⟩ := hf ds[i] (List.getElem_mem hl)
      rw [List.drop_eq_getElem_cons hl]
      unfold cmpC cmpL
      simp only [hS, e, hq, Ev.R.bind_ok]
      cases q with
      | none => exact cmpC_eq hS hf k (i + 1) acc (by omega)
      | some y =>
        simp only
        split
        · exact cmpC_eq hS hf k (i + 1) _ (by omega)
        · rfl
/-- a comprehension over a list handed in that changes nothing -/
theorem w_maps {C : Calls} {tg : Tg} {ifs : List Ev.E} {e : Ev.E} {τ : Env} {d : D} {xs : List T} {Q : List D → Store → Prop} (g : T → T) (hd : Arg S d xs) (hl : xs.length ≤ 16777216) (h : ∀ x ∈ xs, wp (bodyC P C tg ifs e τ (.t x) S) (fun q S' => q = some (.t (g x)) ∧ S' = S) (fun _ _ => False)) (H : Q ((xs.map g).map .t) S) :
    wp (ofOpt (srcOf S d) S) (wpk (cmpS P C tg ifs e τ) Q E) E := by
  rcases hd with rfl | ⟨m, rfl, hm⟩
  · exact w_map g hl h H
  · simp only [srcOf, hm, ofOpt_some, y_ok, y_k, x_cmpS_cell]
    rw [cmpC_eq hm (fun d hd => by
      obtain ⟨x, hx, rfl⟩ := List.mem_map.mp hd
      have := h x hx
      revert this
      cases bodyC P C tg ifs e τ (.t x) S with
      | ok a S1 => rintro ⟨rfl, rfl⟩; exact ⟨_, rfl⟩
      | exc _ _ => exact False.elim
      | bad => exact False.elim) _ 0 [] (by omega), List.drop_zero]
    exact w_map g hl h H
theorem isheap_arg {d : D} {hs : List Nat} (y : Yds P fns) (hd : Arg S d (natT hs)) (h : Hp n hs) (hl : hs.length < 4000) (H : Q (.t (.bl true)) S) :
    wp (fin .fz S (callF P fns (k + 2) 1 [d, .t (.int (n : Nat))] S)) Q E := by
  refine w_pure ?_
  rw [call_eq y.f1 rfl]
  unfold mp_1
  wp_walk using hd.ty, isAny, y.ll, Bool.or_false, yk_to0
  refine w_maps (fun _ => .bl true) hd (by rw [natT_len]; omega) (fun x hx => ?_) ?_
  · obtain ⟨i, hi, rfl⟩ := List.mem_map.mp hx
    walk_at "ev"
    refine isnum_ok y.f0 y.toIsaI ?_
    have : decide ((0 : Int) ≤ (i : Int) ∧ (i : Int) < (n : Int)) = true := by
      have := h.2 i hi
      simp; omega
    rw [this]
    walk_at "ev"
  · have e : (natT hs).map (fun _ => T.bl true) = (hs.map fun _ => true).map T.bl := by simp [natT, Function.comp_def]
    have e2 : (hs.map fun _ => true).all id = true := by simp
    wp_walk using e, e2
    wp_walk using hd.lst, hd.len, natT_ints, natT_len, dedup_nodup _ [] (by simpa using nodup_int h.1), hl
    exact ⟨[], _, (List.append_nil _).symm, fz_t, by simpa using H⟩
theorem isheap_ok {hs : List Nat} (y : Yds P fns) (h : Hp n hs) (hl : hs.length < 4000) (H : Q (.t (.bl true)) S) :
    wp (fin .fz S (callF P fns (k + 2) 1 [.t (.lst (natT hs)), .t (.int (n : Nat))] S)) Q E := isheap_arg y .t h hl H
/-! ### a yard, made: its common part -/
/-- the fields that all yards have -/
def YT (c : Nat) (n : Nat) (fs : List (Nat × T)) : T := .ins c ((0, .lst (rngT n)) :: (1, .int 0) :: fs)
theorem many_ok {c : Nat} {fs : List (Nat × T)} (y : Yds P fns) (H : Q (.t (.int (n : Nat))) S) :
    wp (fin .fz S (callF P fns (k + 1) 7 [.t (YT c n fs)] S)) Q E := by
  refine w_pure ?_
  rw [call_eq y.f7 rfl]
  unfold mp_7 YT
  wp_walk using rngT_len
  exact ⟨[], _, (List.append_nil _).symm, fz_t, H⟩
theorem things_ok {c : Nat} {fs : List (Nat × T)} (y : Yds P fns) (H : Q (.t (.lst (rngT n))) S) :
    wp (fin .fz S (callF P fns (k + 1) 8 [.t (YT c n fs)] S)) Q E := by
  refine w_pure ?_
  rw [call_eq y.f8 rfl]
  unfold mp_8 YT
  walk_at "ev"
  exact ⟨_, _, rfl, .inr ⟨_, _, rfl, rfl, Nat.le_refl _, by simp⟩, H⟩
theorem things_nw {c : Nat} {fs : List (Nat × T)} (y : Yds P fns) (H : Q (.loc S.length) (S ++ [.lst ((rngT n).map .t)])) :
    wp (fin .nw S (callF P fns (k + 1) 8 [.t (YT c n fs)] S)) Q E := by
  refine w_new ?_
  rw [call_eq y.f8 rfl]
  unfold mp_8 YT
  walk_at "ev"
  exact ⟨_, 0, _, rfl, by simp, rfl, H⟩
/-- a heap's worth, by its sort's own -/
theorem worth_arg {c w : Nat} {fs : List (Nat × T)} {hs : List Nat} {v : Int} {d : D} (y : Yds P fns) (yc : YCls P c w) (hd : Arg S d (natT hs)) (h : Hp n hs) (hl : n < 4000)
    (hw : ∀ (S : Store) (Q : D → Store → Prop) (E : Exn → Store → Prop), Q (.t (.int v)) S → wp (fin .fz S (callF P fns (k + 3) w [.t (YT c n fs), .t (.lst (natT hs))] S)) Q E) (H : Q (.t (.int v)) S) :
    wp (fin .fz S (callF P fns (k + 4) 9 [.t (YT c n fs), d] S)) Q E := by
  refine w_pure ?_
  rw [call_eq y.f9 rfl]
  unfold mp_9
  walk_at "ev"
  have hc : clsD S (.t (YT c n fs)) = some c := rfl
  refine w_pure ?_
  rw [call_eq y.f18 rfl]
  unfold mp_18
  wp_walk using hc, yc.many
  refine many_ok y ?_
  walk_at "ev"
  refine isheap_arg y hd h (by have := h.len; omega) ?_
  wp_walk using yk_if0
  refine ⟨[], _, (List.append_nil _).symm, fz_t, ?_⟩
  wp_walk using hc, yc.worthOf, hd.its
  refine hw _ _ _ ?_
  walk_at "ev"
  exact ⟨[], _, (List.append_nil _).symm, fz_t, H⟩
theorem worth_ok {c w : Nat} {fs : List (Nat × T)} {hs : List Nat} {v : Int} (y : Yds P fns) (yc : YCls P c w) (h : Hp n hs) (hl : n < 4000)
    (hw : ∀ (S : Store) (Q : D → Store → Prop) (E : Exn → Store → Prop), Q (.t (.int v)) S → wp (fin .fz S (callF P fns (k + 3) w [.t (YT c n fs), .t (.lst (natT hs))] S)) Q E) (H : Q (.t (.int v)) S) :
    wp (fin .fz S (callF P fns (k + 4) 9 [.t (YT c n fs), .t (.lst (natT hs))] S)) Q E := worth_arg y yc .t h hl hw H
theorem whole_ok {c w : Nat} {fs : List (Nat × T)} {v : Int} (y : Yds P fns) (yc : YCls P c w)
    (hw : ∀ (S : Store) (Q : D → Store → Prop) (E : Exn → Store → Prop), Q (.t (.int v)) S → wp (fin .fz S (callF P fns (k + 1) w [.t (YT c n fs), .t (.lst (rngT n))] S)) Q E) (H : Q (.t (.int v)) S) :
    wp (fin .fz S (callF P fns (k + 2) 11 [.t (YT c n fs)] S)) Q E := by
  refine w_pure ?_
  rw [call_eq y.f11 rfl]
  unfold mp_11
  have hc : clsD S (.t (YT c n fs)) = some c := rfl
  wp_walk using hc, yc.worthOf, yc.things
  refine things_ok y ?_
  walk_at "ev"
  refine hw _ _ _ ?_
  walk_at "ev"
  exact ⟨[], _, (List.append_nil _).symm, fz_t, H⟩
end
end Ev
end

section
set_option Elab.async false
set_option linter.all false
set_option maxRecDepth 20000
namespace Ev
open PySem PyProof.Rows L2
local macro_rules | `(tactic| walk_at "ev") => `(tactic| simp only [y_bind, y_k, y_ok, y_exc, y_noX, x_sq_nx, x_sq_rt, x_sq_bk, x_sq_ct, x_rq_rt, x_rq_nx, x_cons, x_nil, yk_nx, yk_rt, yk_nE, yk_asg, x_expr, x_ret, x_retN, x_asg, yk_mas, x_mas, yk_if1, yk_if0, x_iff, x_for, x_forS_ds, x_forS_cell, x_cmpS_ds, x_cmpS_cell, x_whil, x_rai, w_tr, x_pass, x_brk, x_cont, yk_set, yk_aug, x_aug, x_frv, yk_nu, yk_ax5, yk_ax4, yk_ax3, yk_ax2, yk_ax1, x_augIx, yk_fa, x_fasg, x_var, x_cst, yk_tup, x_tup, yk_fr, x_fr, yk_nw, x_nw, x_dnw, x_ddi, x_fz, yk_fz, x_fm, x_js, yk_js, x_j0, x_j1, v_asRep, yk_b1, x_bin, x_neg, x_negD, yk_c1, x_cmp, yk_and1, yk_and0, yk_or1, yk_or0, x_and, x_or, yk_d21, yk_d20, yk_d1b, yk_d1, x_cmp2, yk_not, x_not, yk_ife1, yk_ife0, x_ife, yk_fld, x_fld, yk_i1, x_idx, x_bi, x_bm, yk_isi, x_isi, yk_call, x_call, yk_cm, x_meth, x_mk, x_nq, yk_ta1, yk_ta0, yk_to1, yk_to0, x_tand, x_tor, yk_tn, x_tnot, x_tq, x_tqi, x_tqn, x_tcmp, x_tcmp2, x_tisi, x_tcall, x_tmeth, x_tbi, x_tvar, x_tidx, x_tife, x_tfld, x_tbm, yk_ts1, yk_ts0, x_ts_nil, x_ts_cons, x_es_nil, yk_cons, yk_es, x_es_cons, yk_disp, x_disp, yk_cat1, x_cat, yk_rep1, x_rep, yk_slc3, yk_slc2, yk_slc1, x_slc, yk_rev, x_rev, yk_lof, x_listOf, yk_kof, x_keysOf, yk_rng, x_frng, yk_srt, x_sorted, x_comp, yk_src, x_ival, yk_irng, x_irng, yk_ienu, x_ienu, yk_iz2, yk_iz1, x_izip, x_o_none, x_oq, x_o_some, x_nm, x_tp, yk_eu, yk_ix2, yk_ix1, x_ix, x_ts0, yk_at, x_ts1, x_bodyF, x_bodyW, x_condW, x_bodyC, x_cq, yk_some, x_cq21, x_cq20,
  v_lt, v_le, v_gt, v_ge, v_is, v_isn, v_in, v_nin, v_add, v_sub, v_bxor, v_band, v_bor, v_tru, v_len, v_lenT, v_lenU, v_lenA, v_abs, v_max2, v_min2, v_intI, v_intB, v_bitlen, v_all, v_any, v_sum, v_lenset, v_idxT, v_idxU, v_idxA, v_keyI, v_keyS, v_fldT, v_clsT, v_tyI, v_tyB, v_tyN, v_tyS, v_tyT, v_tyU, v_tyD, v_tyO, v_itsT, v_srcT, v_srcU, v_allT, v_allT0, v_lstT, v_seqT, v_seqU, alT_map, intsT_map, blsT_map,
  R.bind_ok, R.bind_exc, R.bind_bad, R.noX_ok, R.noX_bad, ofOpt_some, ofOpt_none, Option.map_some, Option.map_none, Option.bind_some, Option.bind_none, mkE,
  List.getElem?_cons_zero, List.getElem?_cons_succ, List.set_cons_zero, List.set_cons_succ, List.map_cons, List.map_nil, List.append_nil, List.nil_append, List.cons_append, List.length_cons, List.length_nil, List.length_append, List.length_set, List.length_map, List.append_assoc, List.set_set, Nat.zero_add, Nat.reduceAdd, Nat.reduceSub, Nat.reduceLeDiff, Nat.reduceLT, ↓reduceIte, decide_eq_true_eq, Bool.not_eq_true', decide_eq_false_iff_not, Bool.not_true, Bool.not_false, Bool.false_eq_true, g_app0, g_app, g_set0, g_set, s_app0, s_app, s_set0, s_set, tgVars, tgsVars, wipeE,
  v_mod, v_fdiv, v_divmod, v_mul, v_pow, Int.reduceLT, Int.reduceLE, Int.reduceNeg, Int.reducePow, or_true, true_or, yk_ddi, x_tp, x_tl, v_rng1n, v_eqi, v_nei, Nat.le_refl, l_len, l_tru, l_its, l_lst, l_seq, l_src, l_cls, l_ty, l_fld, l_idx, l_put, l_putF, l_in, l_keys, l_app, l_clear, l_reverse, l_popAt, l_pop, l_bm, l_ty1, l_ty2, l_ty3, l_ty4, l_ty5, l_ty6, l_ty7, l_ty8, l_mq, l_kq, atI_0, atI_1, atI_2, atI_last, List.length_append, eq_self, and_self, and_true, true_and, fPut, Nat.reduceEqDiff, List.lookup_cons, List.lookup_nil, Nat.reduceBEq])
local macro_rules | `(tactic| wp_walk using $ts,*) => `(tactic| simp only [y_bind, y_k, y_ok, y_exc, y_noX, x_sq_nx, x_sq_rt, x_sq_bk, x_sq_ct, x_rq_rt, x_rq_nx, x_cons, x_nil, yk_nx, yk_rt, yk_nE, yk_asg, x_expr, x_ret, x_retN, x_asg, yk_mas, x_mas, yk_if1, yk_if0, x_iff, x_for, x_forS_ds, x_forS_cell, x_cmpS_ds, x_cmpS_cell, x_whil, x_rai, w_tr, x_pass, x_brk, x_cont, yk_set, yk_aug, x_aug, x_frv, yk_nu, yk_ax5, yk_ax4, yk_ax3, yk_ax2, yk_ax1, x_augIx, yk_fa, x_fasg, x_var, x_cst, yk_tup, x_tup, yk_fr, x_fr, yk_nw, x_nw, x_dnw, x_ddi, x_fz, yk_fz, x_fm, x_js, yk_js, x_j0, x_j1, v_asRep, yk_b1, x_bin, x_neg, x_negD, yk_c1, x_cmp, yk_and1, yk_and0, yk_or1, yk_or0, x_and, x_or, yk_d21, yk_d20, yk_d1b, yk_d1, x_cmp2, yk_not, x_not, yk_ife1, yk_ife0, x_ife, yk_fld, x_fld, yk_i1, x_idx, x_bi, x_bm, yk_isi, x_isi, yk_call, x_call, yk_cm, x_meth, x_mk, x_nq, yk_ta1, yk_ta0, yk_to1, yk_to0, x_tand, x_tor, yk_tn, x_tnot, x_tq, x_tqi, x_tqn, x_tcmp, x_tcmp2, x_tisi, x_tcall, x_tmeth, x_tbi, x_tvar, x_tidx, x_tife, x_tfld, x_tbm, yk_ts1, yk_ts0, x_ts_nil, x_ts_cons, x_es_nil, yk_cons, yk_es, x_es_cons, yk_disp, x_disp, yk_cat1, x_cat, yk_rep1, x_rep, yk_slc3, yk_slc2, yk_slc1, x_slc, yk_rev, x_rev, yk_lof, x_listOf, yk_kof, x_keysOf, yk_rng, x_frng, yk_srt, x_sorted, x_comp, yk_src, x_ival, yk_irng, x_irng, yk_ienu, x_ienu, yk_iz2, yk_iz1, x_izip, x_o_none, x_oq, x_o_some, x_nm, x_tp, yk_eu, yk_ix2, yk_ix1, x_ix, x_ts0, yk_at, x_ts1, x_bodyF, x_bodyW, x_condW, x_bodyC, x_cq, yk_some, x_cq21, x_cq20,
  v_lt, v_le, v_gt, v_ge, v_is, v_isn, v_in, v_nin, v_add, v_sub, v_bxor, v_band, v_bor, v_tru, v_len, v_lenT, v_lenU, v_lenA, v_abs, v_max2, v_min2, v_intI, v_intB, v_bitlen, v_all, v_any, v_sum, v_lenset, v_idxT, v_idxU, v_idxA, v_keyI, v_keyS, v_fldT, v_clsT, v_tyI, v_tyB, v_tyN, v_tyS, v_tyT, v_tyU, v_tyD, v_tyO, v_itsT, v_srcT, v_srcU, v_allT, v_allT0, v_lstT, v_seqT, v_seqU, alT_map, intsT_map, blsT_map,
  R.bind_ok, R.bind_exc, R.bind_bad, R.noX_ok, R.noX_bad, ofOpt_some, ofOpt_none, Option.map_some, Option.map_none, Option.bind_some, Option.bind_none, mkE,
  List.getElem?_cons_zero, List.getElem?_cons_succ, List.set_cons_zero, List.set_cons_succ, List.map_cons, List.map_nil, List.append_nil, List.nil_append, List.cons_append, List.length_cons, List.length_nil, List.length_append, List.length_set, List.length_map, List.append_assoc, List.set_set, Nat.zero_add, Nat.reduceAdd, Nat.reduceSub, Nat.reduceLeDiff, Nat.reduceLT, ↓reduceIte, decide_eq_true_eq, Bool.not_eq_true', decide_eq_false_iff_not, Bool.not_true, Bool.not_false, Bool.false_eq_true, g_app0, g_app, g_set0, g_set, s_app0, s_app, s_set0, s_set, tgVars, tgsVars, wipeE,
  v_mod, v_fdiv, v_divmod, v_mul, v_pow, Int.reduceLT, Int.reduceLE, Int.reduceNeg, Int.reducePow, or_true, true_or, yk_ddi, x_tp, x_tl, v_rng1n, v_eqi, v_nei, Nat.le_refl, l_len, l_tru, l_its, l_lst, l_seq, l_src, l_cls, l_ty, l_fld, l_idx, l_put, l_putF, l_in, l_keys, l_app, l_clear, l_reverse, l_popAt, l_pop, l_bm, l_ty1, l_ty2, l_ty3, l_ty4, l_ty5, l_ty6, l_ty7, l_ty8, l_mq, l_kq, atI_0, atI_1, atI_2, atI_last, List.length_append, eq_self, and_self, and_true, true_and, fPut, Nat.reduceEqDiff, List.lookup_cons, List.lookup_nil, Nat.reduceBEq, $[$ts:term],*])
/-! ### objects made -/
theorem mapM_ft {L : Nat} {S : Store} {k : Nat} : ∀ fs : List (Nat × T), (fs.map fun p => (p.1, D.t p.2)).mapM (fun p => (rdF L S k p.2).map fun t => (p.1, t)) = some fs
  | [] => rfl
  | (f, x) :: r => by
    have e : rdF L S k (D.t x) = some x := by cases k <;> rfl
    rw [List.map_cons, List.mapM_cons, mapM_ft r]
    simp only [e]
    rfl
section
variable {P : Prg} {fns : Nat → Option Fn} {S : Store} {n k : Nat} {Q : D → Store → Prop} {E : Exn → Store → Prop}
theorem keeps_cell {S X : Store} {n : Nat} {p : Cell} (hp : p.below S.length) : Keeps S (S.set n p ++ X) := by
  refine ⟨by simp, fun m c hm h => ?_⟩
  rw [List.getElem?_append_left (by simpa using hm)] at h
  by_cases e : m = n
  · subst e
    rw [List.getElem?_set_self hm] at h
    cases h
    exact .inr hp
  · rw [List.getElem?_set_ne (Ne.symm e)] at h
    exact .inl h
/-- a callee that changed one cell -/
theorem w_cell {r : R D} {n : Nat} (h : wp r (fun d S1 => ∃ p X x, p.below S.length ∧ S1 = S.set n p ++ X ∧ Fz S S1 d x ∧ Q (.t x) (S.set n p)) (fun _ _ => False)) : wp (fin .fz S r) Q E := by
  cases r with
  | ok d S1 =>
    obtain ⟨p, X, x, hp, rfl, hf, hq⟩ := h
    rw [fin_fz (keeps_cell hp) hf, take_set]
    exact hq
  | exc e S1 => exact h.elim
  | bad => exact h
/-- an object, made and read as a tree -/
theorem w_made (c : Nat) {r : R D} (h : wp r (fun d S1 => d = .t .non ∧ ∃ fs : List (Nat × T), ∃ X, S1 = S ++ .ins c (fs.map fun p => (p.1, .t p.2)) :: X ∧ Q (.t (.ins c fs)) S) (fun _ _ => False)) : wp (fin .fz S (r.bind (nq S.length))) Q E := by
  cases r with
  | ok d S1 =>
    obtain ⟨rfl, fs, X, rfl, hq⟩ := h
    have l : ¬ S.length < S.length := by omega
    simp only [Ev.R.bind_ok, x_nq, fin, if_pos keeps_app, if_neg l, rdF, g_app0, List.getElem?_cons_zero, mapM_ft, Option.map_some, ofOpt_some, take_app]
    exact hq
  | exc e S1 => exact h.elim
  | bad => exact h
theorem wantlist_ok {d : D} {xs : List T} (y : Yds P fns) (hd : Arg S d xs) (hl : xs.length ≤ 24) (H : Q (.t .non) S) :
    wp (fin .fz S (callF P fns (k + 1) 20 [d] S)) Q E := by
  refine w_pure ?_
  rw [call_eq y.f20 rfl]
  unfold mp_20
  wp_walk using hd.ty, isAny, y.ll, Bool.or_false, yk_if0, hd.len
  refine w_ifd (fun h => by omega) fun h => ?_
  walk_at "ev"
  exact ⟨[], _, (List.append_nil _).symm, fz_t, H⟩
theorem wanteach_ok {bs : List Bool} (y : Yds P fns) (hb : ∀ b ∈ bs, b = true) (H : Q (.t .non) S) :
    wp (fin .fz S (callF P fns (k + 1) 21 [.t (.lst (bs.map .bl))] S)) Q E := by
  refine w_pure ?_
  rw [call_eq y.f21 rfl]
  unfold mp_21
  have e : bs.all id = true := List.all_eq_true.mpr fun b h => hb b h
  wp_walk using e
  exact ⟨[], _, (List.append_nil _).symm, fz_t, H⟩
theorem yinit_ok {c m : Nat} {A : Store} (y : Yds P fns) (hm : m < 1000000) (H : Q (.t .non) (A ++ [.ins c [(0, .t (.lst (rngT m))), (1, .t (.int 0))]])) :
    wp (fin .fz (A ++ [.ins c []]) (callF P fns (k + 1) 6 [.loc A.length, .t (.int (m : Nat)), .t (.int 0)] (A ++ [.ins c []]))) Q E := by
  refine w_cell (n := A.length) ?_
  rw [call_eq y.f6 rfl]
  unfold mp_6
  have e : (List.range m).length = m := List.length_range
  wp_walk using v_rng1n (show m < 1073741824 by omega), e, show m ≤ 16777216 by omega, List.map_map, Function.comp_def, rngT_map
  refine ⟨.ins c [(0, .t (.lst (rngT m))), (1, .t (.int 0))], [], _, ?_, by simp, fz_t, by simpa using H⟩
  intro f n h
  simp at h
end
/-! ### rows -/
structure Rws (P : Prg) (fns : Nat → Option Fn) : Prop extends Yds P fns where
  f31 : fns 31 = some mp_31
  f32 : fns 32 = some mp_32
  f33 : fns 33 = some mp_33
  ini : P.init 2 = some 31
  cl : YCls P 2 33
def RowsT (rs : List Nat) : T := YT 2 rs.length [(4, .lst (natT rs))]
section
variable {P : Prg} {fns : Nat → Option Fn} {S : Store} {n k : Nat} {Q : D → Store → Prop} {E : Exn → Store → Prop}
theorem rows_mk {d : D} {rs : List Nat} (y : Rws P fns) (hd : Arg S d (natT rs)) (hl : rs.length ≤ 24) (hr : ∀ r ∈ rs, r < 4096) (H : Q (.t (RowsT rs)) S) :
    wp (fin .fz S ((callF P fns (k + 2) 31 [.loc S.length, d] (S ++ [.ins 2 []])).bind (nq S.length))) Q E := by
  refine w_made 2 ?_
  rw [call_eq y.f31 rfl]
  unfold mp_31
  have hd1 : Arg (S ++ [.ins 2 []]) d (natT rs) := hd.app
  walk_at "ev"
  refine wantlist_ok y.toYds hd1 (by rw [natT_len]; exact hl) ?_
  walk_at "ev"
  refine w_maps (fun _ => .bl true) hd1 (by rw [natT_len]; omega) (fun x hx => ?_) ?_
  · obtain ⟨i, hi, rfl⟩ := List.mem_map.mp hx
    walk_at "ev"
    refine isnum_ok y.f0 y.toIsaI ?_
    have : decide ((0 : Int) ≤ (i : Int) ∧ (i : Int) < 4096) = true := by
      have := hr i hi
      simp; omega
    rw [this]
    walk_at "ev"
  · have e : (natT rs).map (fun _ => T.bl true) = (rs.map fun _ => true).map T.bl := by simp [natT, Function.comp_def]
    wp_walk using e
    refine wanteach_ok y.toYds (fun b hb => by obtain ⟨_, _, rfl⟩ := List.mem_map.mp hb; rfl) ?_
    wp_walk using hd1.len, natT_len
    refine yinit_ok y.toYds (by omega) ?_
    have hd2 : itsD (S ++ [.ins 2 [(0, .t (.lst (rngT rs.length))), (1, .t (.int 0))]]) d = some ((natT rs).map .t) := hd.app.its
    wp_walk using hd2
    exact ⟨[(0, .lst (rngT rs.length)), (1, .int 0), (4, .lst (natT rs))], [], rfl, H⟩
/-- .. where the store isn't written so -/
theorem rows_mk' {S' : Store} {L : Nat} {d : D} {rs : List Nat} (y : Rws P fns) (hS : S' = S ++ [.ins 2 []]) (hL : L = S.length) (hd : Arg S d (natT rs)) (hl : rs.length ≤ 24) (hr : ∀ r ∈ rs, r < 4096) (H : Q (.t (RowsT rs)) S) :
    wp (fin .fz S ((callF P fns (k + 2) 31 [.loc L, d] S').bind (nq L))) Q E := by
  subst hS hL
  exact rows_mk y hd hl hr H
theorem rows_rows {rs : List Nat} (y : Rws P fns) (H : Q (.t (.lst (natT rs))) S) :
    wp (fin .fz S (callF P fns (k + 1) 32 [.t (RowsT rs)] S)) Q E := by
  refine w_pure ?_
  rw [call_eq y.f32 rfl]
  unfold mp_32 RowsT YT
  walk_at "ev"
  exact ⟨_, _, rfl, .inr ⟨_, _, rfl, rfl, Nat.le_refl _, by simp⟩, H⟩
theorem rows_nw {rs : List Nat} (y : Rws P fns) (H : Q (.loc S.length) (S ++ [.lst ((natT rs).map .t)])) :
    wp (fin .nw S (callF P fns (k + 1) 32 [.t (RowsT rs)] S)) Q E := by
  refine w_new ?_
  rw [call_eq y.f32 rfl]
  unfold mp_32 RowsT YT
  walk_at "ev"
  exact ⟨_, 0, _, rfl, by simp, rfl, H⟩
/-! the worth -/
def frD (fr : List (Nat × Nat)) : List (Key × D) := fr.map fun p => (.inl (p.1 : Int), .t (.int (p.2 : Int)))
theorem frD_get (fr : List (Nat × Nat)) (b : Nat) : kGet (frD fr) (.inl (b : Int)) = (fr.find? fun p => p.1 == b).map fun p => .t (.int (p.2 : Int)) := by
  unfold kGet frD
  induction fr with
  | nil => rfl
  | cons p r ih =>
    rw [List.map_cons, List.find?_cons, List.find?_cons]
    by_cases e : p.1 = b
    · have h1 : decide ((Sum.inl (p.1 : Int) : Key) = .inl (b : Int)) = true := by rw [e]; simp
      have h2 : (p.1 == b) = true := by simpa using e
      simp only [h1, h2, Option.map_some]
    · have h1 : decide ((Sum.inl (p.1 : Int) : Key) = .inl (b : Int)) = false := by
        rw [decide_eq_false_iff_not]
        intro h
        exact e (by have := Sum.inl.inj h; omega)
      have h2 : (p.1 == b) = false := by simpa using e
      simp only [h1, h2]
      exact ih
theorem frD_put {fr : List (Nat × Nat)} {b v : Nat} (h : ∀ w, (b, w) ∉ fr) : kPut (frD fr) (.inl (b : Int)) (.t (.int (v : Int))) = frD (fr ++ [(b, v)]) := by
  unfold kPut
  rw [if_neg]
  · simp [frD]
  · intro q
    obtain ⟨_, hp, e⟩ := List.any_eq_true.mp q
    obtain ⟨p, hp', rfl⟩ := List.mem_map.mp hp
    have e := Sum.inl.inj (of_decide_eq_true e)
    have : p.1 = b := by
      have e : (p.1 : Int) = (b : Int) := e
      omega
    exact h p.2 (by rw [← this]; exact hp')
theorem bits_nb (y : Nat) : Builtin.Int.intBits (y : Int) = Lin.nb y := by
  unfold Builtin.Int.intBits Lin.nb
  by_cases h : y = 0
  · subst h; rfl
  · have : ((y : Int) == 0) = false := by simpa using h
    rw [this, if_neg h]; simp
theorem xor_nat (a b : Nat) : Builtin.bitXor (a : Int) (b : Int) = ((a ^^^ b : Nat) : Int) := by
  have := Bits.bitXor_pp (x := (a : Int)) (y := (b : Int)) (by omega) (by omega)
  simpa using this
def sel (rs : List Nat) (hs : List Nat) : List Nat := hs.map fun i => rs.getD i 0
theorem sel_snoc (rs l : List Nat) (h : Nat) : sel rs (l ++ [h]) = sel rs l ++ [rs.getD h 0] := by simp [sel]
theorem rows_worth {rs hs : List Nat} (y : Rws P fns) (hr : ∀ r ∈ rs, r < 4096) (hh : ∀ i ∈ hs, i < rs.length) (hl : hs.length < 1000000) (H : Q (.t (.int (Lin.rk (sel rs hs) : Nat))) S) :
    wp (fin .fz S (callF P fns (k + 1) 33 [.t (RowsT rs), .t (.lst (natT hs))] S)) Q E := by
  refine w_pure ?_
  rw [call_eq y.f33 rfl]
  unfold mp_33
  walk_at "ev"
  refine wp_forL (fun i τ S' => ∃ fr a b, S' = S ++ [.dic (frD fr)] ∧ Lin.Bas (Lin.sp (sel rs (hs.take i))) fr ∧ fr.length = Lin.rk (sel rs (hs.take i)) ∧ fr.length ≤ i ∧ τ = [some (.t (RowsT rs)), some (.t (.lst (natT hs))), some (.loc S.length), a, b])
    ⟨[], none, none, rfl, Lin.bas0, rfl, Nat.le_refl _, rfl⟩ (fun i d τ S' hd => ?_) fun τ S' => ?_
  · rintro ⟨fr, a, b, rfl, hB, hk, hi, rfl⟩
    have hi2 : i < hs.length := by
      have := (List.getElem?_eq_some_iff.mp hd).1
      simpa [natT_len] using this
    obtain ⟨h, hh1⟩ : ∃ h, hs[i]? = some h := ⟨_, List.getElem?_eq_getElem hi2⟩
    have hd : d = .t (.int (h : Nat)) := by
      simp only [natT, List.getElem?_map, hh1, Option.map_some] at hd
      exact (Option.some.inj hd).symm
    subst hd
    have hh2 : h < rs.length := hh h (List.mem_of_getElem? hh1)
    have tk : hs.take (i + 1) = hs.take i ++ [h] := by
      rw [List.take_succ, hh1]; rfl
    have rd : rs.getD h 0 = rs[h] := by rw [List.getD_eq_getElem?_getD, List.getElem?_eq_getElem hh2]; rfl
    have rlt : rs[h] < 4096 := hr _ (List.getElem_mem hh2)
    have e1 : evFld (.t (RowsT rs)) 4 (S ++ [.dic (frD fr)]) = .ok (.t (.lst (natT rs))) (S ++ [.dic (frD fr)]) := rfl
    have e2 : (natT rs)[h]? = some (.int (rs[h] : Nat)) := by simp [natT, List.getElem?_eq_getElem hh2]
    wp_walk using e1, atI_ofNat, e2
    refine wp_whiL (fun m τ S' => ∃ x : Nat, m = Lin.nb x ∧ rs[h] ^^^ x ∈ Lin.sp (sel rs (hs.take i)) ∧ S' = S ++ [.dic (frD fr)] ∧ τ = [some (.t (RowsT rs)), some (.t (.lst (natT hs))), some (.loc S.length), some (.t (.int (h : Nat))), some (.t (.int (x : Nat)))]) (fun m τ S' => ?_) 1000000 (Lin.nb rs[h]) _ _ ?_ ⟨rs[h], rfl, by rw [Nat.xor_self]; exact hB.sp.z, rfl, rfl⟩
    · rintro ⟨x, rfl, hx, rfl, rfl⟩
      wp_walk using bits_nb, frD_get
      cases e : fr.find? fun p => p.1 == Lin.nb x with
      | some p =>
        have hp := List.mem_of_find?_eq_some e
        have e3 : p.1 = Lin.nb x := by have := List.find?_some e; simpa using this
        obtain ⟨i1, i2, i3⟩ := hB.i p hp
        wp_walk using Option.isSome_some, bits_nb, frD_get, e, xor_nat
        refine ⟨Lin.nb (x ^^^ p.2), ?_, x ^^^ p.2, rfl, ?_, rfl⟩
        · refine Lin.nb_xor_lt (by rw [i3, e3]) fun z => ?_
          subst z
          rw [Lin.nb_zero, ← i3] at e3
          exact absurd e3 (Nat.ne_of_gt (Lin.nb_pos i2))
        · rw [← Nat.xor_assoc]
          exact hB.sp.x _ hx _ i1
      | none =>
        have no : ∀ w, (Lin.nb x, w) ∉ fr := fun w hw => by
          have := List.find?_eq_none.mp e _ hw
          simp at this
        wp_walk using Option.isSome_none
        refine w_ifd (fun hpos => ?_) fun hpos => ?_
        · have x0 : x ≠ 0 := by omega
          obtain ⟨m1, m2⟩ := hB.more hx no x0
          wp_walk using bits_nb, frD_put no, show (frD fr).length < 16777216 by simp [frD]; omega
          refine ⟨_, _, _, rfl, ?_, ?_, by simp; omega, rfl⟩
          · rw [tk]
            rw [sel_snoc, rd]
            rw [Lin.sp_snoc]; exact m2
          · rw [tk]
            rw [sel_snoc, rd]
            rw [Lin.rk_snoc, if_neg m1, List.length_append, hk]; rfl
        · have x0 : x = 0 := by omega
          subst x0
          rw [Nat.xor_zero] at hx
          walk_at "ev"
          refine ⟨fr, _, _, rfl, ?_, ?_, by omega, rfl⟩
          · rw [tk]
            rw [sel_snoc, rd]
            rw [Lin.sp_snoc, hB.same hx]; exact hB
          · rw [tk]
            rw [sel_snoc, rd]
            rw [Lin.rk_snoc, if_pos hx]; exact hk
    · have := Lin.nb_le.mpr (show rs[h] < 2 ^ 12 from rlt)
      omega
  · rintro ⟨fr, a, b, rfl, hB, hk, hi, rfl⟩
    wp_walk using List.length_map
    refine ⟨_, _, rfl, fz_t, ?_⟩
    have e : hs.take ((natT hs).map D.t).length = hs := by rw [List.length_map, natT_len, List.take_length]
    rw [e] at hk
    simp only [frD, List.length_map, hk]
    exact H
end
end Ev
end

section
set_option Elab.async false
set_option linter.all false
set_option maxRecDepth 20000
namespace Ev
open PySem PyProof.Rows L2
local macro_rules | `(tactic| walk_at "ev") => `(tactic| simp only [y_bind, y_k, y_ok, y_exc, y_noX, x_sq_nx, x_sq_rt, x_sq_bk, x_sq_ct, x_rq_rt, x_rq_nx, x_cons, x_nil, yk_nx, yk_rt, yk_nE, yk_asg, x_expr, x_ret, x_retN, x_asg, yk_mas, x_mas, yk_if1, yk_if0, x_iff, x_for, x_forS_ds, x_forS_cell, x_cmpS_ds, x_cmpS_cell, x_whil, x_rai, w_tr, x_pass, x_brk, x_cont, yk_set, yk_aug, x_aug, x_frv, yk_nu, yk_ax5, yk_ax4, yk_ax3, yk_ax2, yk_ax1, x_augIx, yk_fa, x_fasg, x_var, x_cst, yk_tup, x_tup, yk_fr, x_fr, yk_nw, x_nw, x_dnw, x_ddi, x_fz, yk_fz, x_fm, x_js, yk_js, x_j0, x_j1, v_asRep, yk_b1, x_bin, x_neg, x_negD, yk_c1, x_cmp, yk_and1, yk_and0, yk_or1, yk_or0, x_and, x_or, yk_d21, yk_d20, yk_d1b, yk_d1, x_cmp2, yk_not, x_not, yk_ife1, yk_ife0, x_ife, yk_fld, x_fld, yk_i1, x_idx, x_bi, x_bm, yk_isi, x_isi, yk_call, x_call, yk_cm, x_meth, x_mk, x_nq, yk_ta1, yk_ta0, yk_to1, yk_to0, x_tand, x_tor, yk_tn, x_tnot, x_tq, x_tqi, x_tqn, x_tcmp, x_tcmp2, x_tisi, x_tcall, x_tmeth, x_tbi, x_tvar, x_tidx, x_tife, x_tfld, x_tbm, yk_ts1, yk_ts0, x_ts_nil, x_ts_cons, x_es_nil, yk_cons, yk_es, x_es_cons, yk_disp, x_disp, yk_cat1, x_cat, yk_rep1, x_rep, yk_slc3, yk_slc2, yk_slc1, x_slc, yk_rev, x_rev, yk_lof, x_listOf, yk_kof, x_keysOf, yk_rng, x_frng, yk_srt, x_sorted, x_comp, yk_src, x_ival, yk_irng, x_irng, yk_ienu, x_ienu, yk_iz2, yk_iz1, x_izip, x_o_none, x_oq, x_o_some, x_nm, x_tp, yk_eu, yk_ix2, yk_ix1, x_ix, x_ts0, yk_at, x_ts1, x_bodyF, x_bodyW, x_condW, x_bodyC, x_cq, yk_some, x_cq21, x_cq20,
  v_lt, v_le, v_gt, v_ge, v_is, v_isn, v_in, v_nin, v_add, v_sub, v_bxor, v_band, v_bor, v_tru, v_len, v_lenT, v_lenU, v_lenA, v_abs, v_max2, v_min2, v_intI, v_intB, v_bitlen, v_all, v_any, v_sum, v_lenset, v_idxT, v_idxU, v_idxA, v_keyI, v_keyS, v_fldT, v_clsT, v_tyI, v_tyB, v_tyN, v_tyS, v_tyT, v_tyU, v_tyD, v_tyO, v_itsT, v_srcT, v_srcU, v_allT, v_allT0, v_lstT, v_seqT, v_seqU, alT_map, intsT_map, blsT_map,
  R.bind_ok, R.bind_exc, R.bind_bad, R.noX_ok, R.noX_bad, ofOpt_some, ofOpt_none, Option.map_some, Option.map_none, Option.bind_some, Option.bind_none, mkE,
  List.getElem?_cons_zero, List.getElem?_cons_succ, List.set_cons_zero, List.set_cons_succ, List.map_cons, List.map_nil, List.append_nil, List.nil_append, List.cons_append, List.length_cons, List.length_nil, List.length_append, List.length_set, List.length_map, List.append_assoc, List.set_set, Nat.zero_add, Nat.reduceAdd, Nat.reduceSub, Nat.reduceLeDiff, Nat.reduceLT, ↓reduceIte, decide_eq_true_eq, Bool.not_eq_true', decide_eq_false_iff_not, Bool.not_true, Bool.not_false, Bool.false_eq_true, g_app0, g_app, g_set0, g_set, s_app0, s_app, s_set0, s_set, tgVars, tgsVars, wipeE,
  v_mod, v_fdiv, v_divmod, v_mul, v_pow, Int.reduceLT, Int.reduceLE, Int.reduceNeg, Int.reducePow, or_true, true_or, yk_ddi, x_tp, x_tl, v_rng1n, v_eqi, v_nei, Nat.le_refl, l_len, l_tru, l_its, l_lst, l_seq, l_src, l_cls, l_ty, l_fld, l_idx, l_put, l_putF, l_in, l_keys, l_app, l_clear, l_reverse, l_popAt, l_pop, l_bm, l_ty1, l_ty2, l_ty3, l_ty4, l_ty5, l_ty6, l_ty7, l_ty8, l_mq, l_kq, atI_0, atI_1, atI_2, atI_last, List.length_append, eq_self, and_self, and_true, true_and, fPut, Nat.reduceEqDiff, List.lookup_cons, List.lookup_nil, Nat.reduceBEq])
local macro_rules | `(tactic| wp_walk using $ts,*) => `(tactic| simp only [y_bind, y_k, y_ok, y_exc, y_noX, x_sq_nx, x_sq_rt, x_sq_bk, x_sq_ct, x_rq_rt, x_rq_nx, x_cons, x_nil, yk_nx, yk_rt, yk_nE, yk_asg, x_expr, x_ret, x_retN, x_asg, yk_mas, x_mas, yk_if1, yk_if0, x_iff, x_for, x_forS_ds, x_forS_cell, x_cmpS_ds, x_cmpS_cell, x_whil, x_rai, w_tr, x_pass, x_brk, x_cont, yk_set, yk_aug, x_aug, x_frv, yk_nu, yk_ax5, yk_ax4, yk_ax3, yk_ax2, yk_ax1, x_augIx, yk_fa, x_fasg, x_var, x_cst, yk_tup, x_tup, yk_fr, x_fr, yk_nw, x_nw, x_dnw, x_ddi, x_fz, yk_fz, x_fm, x_js, yk_js, x_j0, x_j1, v_asRep, yk_b1, x_bin, x_neg, x_negD, yk_c1, x_cmp, yk_and1, yk_and0, yk_or1, yk_or0, x_and, x_or, yk_d21, yk_d20, yk_d1b, yk_d1, x_cmp2, yk_not, x_not, yk_ife1, yk_ife0, x_ife, yk_fld, x_fld, yk_i1, x_idx, x_bi, x_bm, yk_isi, x_isi, yk_call, x_call, yk_cm, x_meth, x_mk, x_nq, yk_ta1, yk_ta0, yk_to1, yk_to0, x_tand, x_tor, yk_tn, x_tnot, x_tq, x_tqi, x_tqn, x_tcmp, x_tcmp2, x_tisi, x_tcall, x_tmeth, x_tbi, x_tvar, x_tidx, x_tife, x_tfld, x_tbm, yk_ts1, yk_ts0, x_ts_nil, x_ts_cons, x_es_nil, yk_cons, yk_es, x_es_cons, yk_disp, x_disp, yk_cat1, x_cat, yk_rep1, x_rep, yk_slc3, yk_slc2, yk_slc1, x_slc, yk_rev, x_rev, yk_lof, x_listOf, yk_kof, x_keysOf, yk_rng, x_frng, yk_srt, x_sorted, x_comp, yk_src, x_ival, yk_irng, x_irng, yk_ienu, x_ienu, yk_iz2, yk_iz1, x_izip, x_o_none, x_oq, x_o_some, x_nm, x_tp, yk_eu, yk_ix2, yk_ix1, x_ix, x_ts0, yk_at, x_ts1, x_bodyF, x_bodyW, x_condW, x_bodyC, x_cq, yk_some, x_cq21, x_cq20,
  v_lt, v_le, v_gt, v_ge, v_is, v_isn, v_in, v_nin, v_add, v_sub, v_bxor, v_band, v_bor, v_tru, v_len, v_lenT, v_lenU, v_lenA, v_abs, v_max2, v_min2, v_intI, v_intB, v_bitlen, v_all, v_any, v_sum, v_lenset, v_idxT, v_idxU, v_idxA, v_keyI, v_keyS, v_fldT, v_clsT, v_tyI, v_tyB, v_tyN, v_tyS, v_tyT, v_tyU, v_tyD, v_tyO, v_itsT, v_srcT, v_srcU, v_allT, v_allT0, v_lstT, v_seqT, v_seqU, alT_map, intsT_map, blsT_map,
  R.bind_ok, R.bind_exc, R.bind_bad, R.noX_ok, R.noX_bad, ofOpt_some, ofOpt_none, Option.map_some, Option.map_none, Option.bind_some, Option.bind_none, mkE,
  List.getElem?_cons_zero, List.getElem?_cons_succ, List.set_cons_zero, List.set_cons_succ, List.map_cons, List.map_nil, List.append_nil, List.nil_append, List.cons_append, List.length_cons, List.length_nil, List.length_append, List.length_set, List.length_map, List.append_assoc, List.set_set, Nat.zero_add, Nat.reduceAdd, Nat.reduceSub, Nat.reduceLeDiff, Nat.reduceLT, ↓reduceIte, decide_eq_true_eq, Bool.not_eq_true', decide_eq_false_iff_not, Bool.not_true, Bool.not_false, Bool.false_eq_true, g_app0, g_app, g_set0, g_set, s_app0, s_app, s_set0, s_set, tgVars, tgsVars, wipeE,
  v_mod, v_fdiv, v_divmod, v_mul, v_pow, Int.reduceLT, Int.reduceLE, Int.reduceNeg, Int.reducePow, or_true, true_or, yk_ddi, x_tp, x_tl, v_rng1n, v_eqi, v_nei, Nat.le_refl, l_len, l_tru, l_its, l_lst, l_seq, l_src, l_cls, l_ty, l_fld, l_idx, l_put, l_putF, l_in, l_keys, l_app, l_clear, l_reverse, l_popAt, l_pop, l_bm, l_ty1, l_ty2, l_ty3, l_ty4, l_ty5, l_ty6, l_ty7, l_ty8, l_mq, l_kq, atI_0, atI_1, atI_2, atI_last, List.length_append, eq_self, and_self, and_true, true_and, fPut, Nat.reduceEqDiff, List.lookup_cons, List.lookup_nil, Nat.reduceBEq, $[$ts:term],*])
/-! ### plain data -/
theorem sok_app {a b : Str} (h1 : PyData.strOk a = true) (h2 : PyData.strOk b = true) : PyData.strOk (a ++ b) = true := by
  have e : (a ++ b).cps = a.cps ++ b.cps := rfl
  unfold PyData.strOk at *
  rw [e, Array.all_append, h1, h2]; rfl
theorem sok_of (s : String) : PyData.strOk (Str.ofString s) = true := by
  rw [Str.ofString_eq_toList]
  unfold PyData.strOk
  simp only [List.all_toArray, List.all_eq_true, List.mem_map]
  rintro x ⟨c, _, rfl⟩
  have : c.toNat < 0x110000 := by
    have := c.valid
    rcases this with h | ⟨_, h⟩
    · exact Nat.lt_trans h (by decide)
    · exact h
  exact decide_eq_true this
theorem sok_from : ∀ (ts : List Str) (k : Nat) (acc : Str), PyData.strOk acc = true → (∀ t ∈ ts, PyData.strOk t = true) → PyData.strOk (textFrom k acc ts) = true
  | [], k, acc, h, _ => h
  | t :: r, k, acc, h, ht => sok_from r (k + 1) _ (sok_app (sok_app h (sok_of _)) (ht t List.mem_cons_self)) fun u hu => ht u (List.mem_cons_of_mem _ hu)
theorem sok_list {ts : List Str} (h : ∀ t ∈ ts, PyData.strOk t = true) : PyData.strOk (listText ts) = true := sok_app (sok_from ts 0 _ (sok_of _) h) (sok_of _)
theorem sok_join : ∀ {ts : List Str}, (∀ t ∈ ts, PyData.strOk t = true) → PyData.strOk (Str.join ", " ts) = true
  | [], _ => by decide +kernel
  | [x], h => h x List.mem_cons_self
  | x :: y :: r, h => sok_app (sok_app (h x List.mem_cons_self) (sok_of _)) (sok_join fun t ht => h t (List.mem_cons_of_mem _ ht))
theorem sok_tuple {ts : List Str} (h : ∀ t ∈ ts, PyData.strOk t = true) : PyData.strOk (tupleText ts) = true := sok_app (sok_app (sok_of _) (sok_join h)) (sok_of _)
def Sx (k b : Nat) (x : T) : Prop := ∃ d, x.dat = some d ∧ d.canLay0 = true ∧ d.depth ≤ k ∧ d.showable = true ∧ d.shown.length ≤ b ∧ PyData.strOk d.shown = true
def Sxs (k b : Nat) (xs : List T) : Prop := ∃ ds, datL xs = some ds ∧ PyData.canLayAll0 ds = true ∧ PyData.depthAll ds ≤ k ∧ PyData.showableAll ds = true ∧ (∀ t ∈ PyData.shownAll ds, t.length ≤ b ∧ PyData.strOk t = true) ∧ (PyData.shownAll ds).length = xs.length
theorem sxs_of {k b : Nat} : ∀ {xs : List T}, (∀ x ∈ xs, Sx k b x) → Sxs k b xs
  | [], _ => ⟨[], rfl, rfl, Nat.zero_le _, rfl, fun t h => by simp [PyData.shownAll] at h, rfl⟩
  | x :: r, h => by
    obtain ⟨d, a1, a2, a3, a4, a5, a6⟩ := h x List.mem_cons_self
    obtain ⟨ds, b1, b2, b3, b4, b5, b6⟩ := sxs_of (fun y hy => h y (List.mem_cons_of_mem _ hy) : ∀ y ∈ r, Sx k b y)
    refine ⟨d :: ds, by simp only [datL, a1, b1], by simp only [PyData.canLayAll0, a2, b2, Bool.and_self], by simp only [PyData.depthAll]; omega, by simp only [PyData.showableAll, a4, b4, Bool.and_self], fun t ht => ?_, by simp only [PyData.shownAll, List.length_cons, b6]⟩
    simp only [PyData.shownAll, List.mem_cons] at ht
    rcases ht with rfl | ht
    · exact ⟨a5, a6⟩
    · exact b5 t ht
theorem sum_le {b : Nat} : ∀ {ts : List Str}, (∀ t ∈ ts, t.length ≤ b) → (ts.map (·.length)).sum ≤ ts.length * b
  | [], _ => by simp
  | t :: r, h => by
    have h1 := h t List.mem_cons_self
    have h2 := sum_le (fun u hu => h u (List.mem_cons_of_mem _ hu) : ∀ u ∈ r, u.length ≤ b)
    simp only [List.map_cons, List.sum_cons, List.length_cons, Nat.add_mul, Nat.one_mul]
    omega
theorem sx_lst {k b n : Nat} {xs : List T} (h : ∀ x ∈ xs, Sx k b x) (hn : xs.length ≤ n) : Sx (k + 1) (n * (b + 2) + 3) (.lst xs) := by
  obtain ⟨ds, b1, b2, b3, b4, b5, b6⟩ := sxs_of h
  refine ⟨.list ds, by simp only [T.dat, b1, Option.map_some], by simpa only [PyData.canLay0] using b2, by simp only [PyData.depth]; omega, by simpa only [PyData.showable] using b4, ?_, ?_⟩
  · simp only [PyData.shown]
    have l1 := listText_len_le (PyData.shownAll ds)
    have l2 := sum_le fun t ht => (b5 t ht).1
    rw [b6] at l1 l2
    have l3 : xs.length * (b + 2) ≤ n * (b + 2) := Nat.mul_le_mul_right _ hn
    rw [Nat.mul_add] at l3
    omega
  · simp only [PyData.shown]
    exact sok_list fun t ht => (b5 t ht).2
theorem sx_tup {k b n : Nat} {xs : List T} (h : ∀ x ∈ xs, Sx k b x) (hn : xs.length ≤ n) : Sx (k + 1) (n * (b + 2) + 3) (.tup xs) := by
  obtain ⟨ds, b1, b2, b3, b4, b5, b6⟩ := sxs_of h
  refine ⟨.tuple ds, by simp only [T.dat, b1, Option.map_some], by simpa only [PyData.canLay0] using b2, by simp only [PyData.depth]; omega, by simpa only [PyData.showable] using b4, ?_, ?_⟩
  · simp only [PyData.shown]
    have l1 := tupleText_len_le (PyData.shownAll ds)
    have l2 := sum_le fun t ht => (b5 t ht).1
    rw [b6] at l1 l2
    have l3 : xs.length * (b + 2) ≤ n * (b + 2) := Nat.mul_le_mul_right _ hn
    rw [Nat.mul_add] at l3
    omega
  · simp only [PyData.shown]
    exact sok_tuple fun t ht => (b5 t ht).2
theorem sx_int {k : Nat} {i : Int} (h : i.natAbs < 10 ^ 31) : Sx k 32 (.int i) := by
  refine ⟨.int i, rfl, rfl, Nat.zero_le _, ?_, ?_, ?_⟩
  · simp only [PyData.showable, decide_eq_true_eq]
    by_cases h0 : i.natAbs = 0
    · rw [h0]; decide
    · exact (Nat.log2_lt h0).mpr (Nat.lt_trans h (Nat.lt_of_lt_of_le (show 10 ^ 31 < 2 ^ 110 by decide) (Nat.pow_le_pow_right (by decide) (by decide))))
  · show (Str.ofString (toString i)).length ≤ 32
    rw [PySem.ofString_length]
    exact int_text_length_le10 (by decide) h
  · exact sok_of _
theorem sx_non {k : Nat} : Sx k 32 .non := ⟨.none, rfl, rfl, Nat.zero_le _, rfl, by decide +kernel, by decide +kernel⟩
theorem sx_bl {k : Nat} {b : Bool} : Sx k 32 (.bl b) := by cases b <;> exact ⟨.bool _, rfl, rfl, Nat.zero_le _, rfl, by decide +kernel, by decide +kernel⟩
theorem Sx.up {k b k' b' : Nat} {x : T} (h : Sx k b x) (h1 : k ≤ k') (h2 : b ≤ b') : Sx k' b' x := by
  obtain ⟨d, a1, a2, a3, a4, a5, a6⟩ := h
  exact ⟨d, a1, a2, by omega, a4, by omega, a6⟩
theorem sx_natT {k n : Nat} {hs : List Nat} (hn : hs.length ≤ n) (h : ∀ i ∈ hs, i < 1000000) : Sx (k + 1) (n * 34 + 3) (.lst (natT hs)) :=
  sx_lst (b := 32) (fun x hx => by
    obtain ⟨i, hi, rfl⟩ := List.mem_map.mp hx
    have := h i hi
    exact sx_int (by simp; omega)) (by rw [natT_len]; exact hn)
/-! what is compared -/
section
variable {S : Store} {k b : Nat} {x : T} {d e : D} {xs : List T}
theorem Sx.of (h : Sx k b x) (hk : k ≤ 60) : ∃ q, x.dat = some q ∧ datOf S (.t x) = some q ∧ PyData.eqv q q = true ∧ q.showable = true ∧ q.depth ≤ k ∧ q.shown.length ≤ b ∧ PyData.strOk q.shown = true := by
  obtain ⟨q, a1, a2, a3, a4, a5, a6⟩ := h
  have sh : SeqAt.shaped q = true := by
    unfold SeqAt.shaped
    rw [a2, Bool.true_and]
    exact decide_eq_true (by omega)
  refine ⟨q, a1, ?_, SeqAt.eqv_refl q a2, a4, a3, a5, a6⟩
  have : rdT S 6 (.t x) = some x := rfl
  simp only [datOf, this, Option.bind_some, a1, sh, if_true]
theorem mapM_rd {m : Nat} : ∀ xs : List T, (xs.map D.t).mapM (rdT S m) = some xs
  | [] => rfl
  | x :: r => by
    rw [List.map_cons, List.mapM_cons, mapM_rd r]
    cases m <;> rfl
theorem Arg.dat (h : Arg S d xs) : datOf S d = datOf S (.t (.lst xs)) := by
  rcases h with rfl | ⟨m, rfl, h⟩
  · rfl
  · have : rdT S 6 (.loc m) = some (.lst xs) := by simp only [rdT, h, mapM_rd, Option.map_some]
    have e : rdT S 6 (.t (.lst xs)) = some (.lst xs) := rfl
    simp only [datOf, this, e]
theorem eq_same (h : Sx k b x) (hk : k ≤ 60) : evCmp .eq (.t x) (.t x) S = .ok (.t (.bl true)) S := by
  obtain ⟨q, _, a, b, _⟩ := h.of (S := S) hk
  simp only [evCmp, a, Option.bind_some, Option.map_some, b, ofOpt_some]
theorem ne_same (h : Sx k b x) (hk : k ≤ 60) : evCmp .ne (.t x) (.t x) S = .ok (.t (.bl false)) S := by
  obtain ⟨q, _, a, b, _⟩ := h.of (S := S) hk
  simp only [evCmp, a, Option.bind_some, Option.map_some, b, ofOpt_some, Bool.not_true]
theorem eq_args (hd : Arg S d xs) (he : Arg S e xs) (h : Sx k b (.lst xs)) (hk : k ≤ 60) : evCmp .eq d e S = .ok (.t (.bl true)) S := by
  have := eq_same (S := S) h hk
  simp only [evCmp] at this ⊢
  rw [hd.dat, he.dat]; exact this
theorem ne_args (hd : Arg S d xs) (he : Arg S e xs) (h : Sx k b (.lst xs)) (hk : k ≤ 60) : evCmp .ne d e S = .ok (.t (.bl false)) S := by
  have := ne_same (S := S) h hk
  simp only [evCmp] at this ⊢
  rw [hd.dat, he.dat]; exact this
theorem ne_empty (hd : Arg S d xs) (h : Sx k b (.lst xs)) (hk : k ≤ 60) : evCmp .ne d (.t (.lst [])) S = .ok (.t (.bl (decide (xs ≠ [])))) S := by
  obtain ⟨q, a0, a, _⟩ := h.of (S := S) hk
  obtain ⟨q2, b0, b, _⟩ := (sx_lst (k := 0) (b := 0) (n := 0) (xs := []) (fun _ h => nomatch h) (Nat.le_refl _)).of (S := S) (by decide)
  simp only [evCmp, hd.dat, a, b, Option.bind_some, Option.map_some, ofOpt_some]
  simp only [T.dat, datL, Option.map_some, Option.some.injEq] at b0
  subst b0
  cases xs with
  | nil =>
    simp only [T.dat, datL, Option.map_some, Option.some.injEq] at a0
    subst a0
    rfl
  | cons x r =>
    simp only [T.dat, datL] at a0
    split at a0
    · simp only [Option.map_some, Option.some.injEq] at a0
      subst a0
      simp [PyData.eqv, PyData.eqvAll]
    · cases a0
theorem repr_t (h : Sx k b x) (hk : k ≤ 60) (hb : b ≤ 1000000) : ∃ s : Str, PyData.strOk s = true ∧ ∀ (S : Store) (d : D), datOf S d = datOf S (.t x) → evBi .repr [d] S = .ok (.t (.str s)) S := by
  obtain ⟨q, a0, _, _, a2, a3, a4, a5⟩ := h.of (S := []) hk
  refine ⟨q.shown, a5, fun S d hd => ?_⟩
  obtain ⟨q', a0', a1, _⟩ := h.of (S := S) hk
  rw [a0] at a0'
  cases a0'
  simp only [evBi, hd, a1, Option.bind_some]
  rw [if_pos ⟨a2, by omega, by rw [sizeLine_eq]; omega⟩]; rfl
theorem datOf_str {s : Str} (h : PyData.strOk s = true) : datOf S (.t (.str s)) = some (.str s) := by
  have e : rdT S 6 (.t (.str s)) = some (.str s) := rfl
  have sh : SeqAt.shaped (.str s) = true := by
    unfold SeqAt.shaped
    simp only [PyData.canLay0, h, Bool.true_and, PyData.depth]; rfl
  simp only [datOf, e, Option.bind_some, T.dat, sh, if_true]
theorem ne_str {s : Str} (h : PyData.strOk s = true) : evCmp .ne (.t (.str s)) (.t (.str s)) S = .ok (.t (.bl false)) S := by
  simp only [evCmp, datOf_str h, Option.bind_some, Option.map_some, ofOpt_some, PyData.eqv]
  simp
theorem eq_str {s : Str} (h : PyData.strOk s = true) : evCmp .eq (.t (.str s)) (.t (.str s)) S = .ok (.t (.bl true)) S := by
  simp only [evCmp, datOf_str h, Option.bind_some, Option.map_some, ofOpt_some, PyData.eqv]
  simp
end
end Ev
end

section
set_option Elab.async false
set_option linter.all false
set_option maxRecDepth 20000
namespace Ev
open PySem PyProof.Rows L2
local macro_rules | `(tactic| walk_at "ev") => `(tactic| simp only [y_bind, y_k, y_ok, y_exc, y_noX, x_sq_nx, x_sq_rt, x_sq_bk, x_sq_ct, x_rq_rt, x_rq_nx, x_cons, x_nil, yk_nx, yk_rt, yk_nE, yk_asg, x_expr, x_ret, x_retN, x_asg, yk_mas, x_mas, yk_if1, yk_if0, x_iff, x_for, x_forS_ds, x_forS_cell, x_cmpS_ds, x_cmpS_cell, x_whil, x_rai, w_tr, x_pass, x_brk, x_cont, yk_set, yk_aug, x_aug, x_frv, yk_nu, yk_ax5, yk_ax4, yk_ax3, yk_ax2, yk_ax1, x_augIx, yk_fa, x_fasg, x_var, x_cst, yk_tup, x_tup, yk_fr, x_fr, yk_nw, x_nw, x_dnw, x_ddi, x_fz, yk_fz, x_fm, x_js, yk_js, x_j0, x_j1, v_asRep, yk_b1, x_bin, x_neg, x_negD, yk_c1, x_cmp, yk_and1, yk_and0, yk_or1, yk_or0, x_and, x_or, yk_d21, yk_d20, yk_d1b, yk_d1, x_cmp2, yk_not, x_not, yk_ife1, yk_ife0, x_ife, yk_fld, x_fld, yk_i1, x_idx, x_bi, x_bm, yk_isi, x_isi, yk_call, x_call, yk_cm, x_meth, x_mk, x_nq, yk_ta1, yk_ta0, yk_to1, yk_to0, x_tand, x_tor, yk_tn, x_tnot, x_tq, x_tqi, x_tqn, x_tcmp, x_tcmp2, x_tisi, x_tcall, x_tmeth, x_tbi, x_tvar, x_tidx, x_tife, x_tfld, x_tbm, yk_ts1, yk_ts0, x_ts_nil, x_ts_cons, x_es_nil, yk_cons, yk_es, x_es_cons, yk_disp, x_disp, yk_cat1, x_cat, yk_rep1, x_rep, yk_slc3, yk_slc2, yk_slc1, x_slc, yk_rev, x_rev, yk_lof, x_listOf, yk_kof, x_keysOf, yk_rng, x_frng, yk_srt, x_sorted, x_comp, yk_src, x_ival, yk_irng, x_irng, yk_ienu, x_ienu, yk_iz2, yk_iz1, x_izip, x_o_none, x_oq, x_o_some, x_nm, x_tp, yk_eu, yk_ix2, yk_ix1, x_ix, x_ts0, yk_at, x_ts1, x_bodyF, x_bodyW, x_condW, x_bodyC, x_cq, yk_some, x_cq21, x_cq20,
  v_lt, v_le, v_gt, v_ge, v_is, v_isn, v_in, v_nin, v_add, v_sub, v_bxor, v_band, v_bor, v_tru, v_len, v_lenT, v_lenU, v_lenA, v_abs, v_max2, v_min2, v_intI, v_intB, v_bitlen, v_all, v_any, v_sum, v_lenset, v_idxT, v_idxU, v_idxA, v_keyI, v_keyS, v_fldT, v_clsT, v_tyI, v_tyB, v_tyN, v_tyS, v_tyT, v_tyU, v_tyD, v_tyO, v_itsT, v_srcT, v_srcU, v_allT, v_allT0, v_lstT, v_seqT, v_seqU, alT_map, intsT_map, blsT_map,
  R.bind_ok, R.bind_exc, R.bind_bad, R.noX_ok, R.noX_bad, ofOpt_some, ofOpt_none, Option.map_some, Option.map_none, Option.bind_some, Option.bind_none, mkE,
  List.getElem?_cons_zero, List.getElem?_cons_succ, List.set_cons_zero, List.set_cons_succ, List.map_cons, List.map_nil, List.append_nil, List.nil_append, List.cons_append, List.length_cons, List.length_nil, List.length_append, List.length_set, List.length_map, List.append_assoc, List.set_set, Nat.zero_add, Nat.reduceAdd, Nat.reduceSub, Nat.reduceLeDiff, Nat.reduceLT, ↓reduceIte, decide_eq_true_eq, Bool.not_eq_true', decide_eq_false_iff_not, Bool.not_true, Bool.not_false, Bool.false_eq_true, g_app0, g_app, g_set0, g_set, s_app0, s_app, s_set0, s_set, tgVars, tgsVars, wipeE,
  v_mod, v_fdiv, v_divmod, v_mul, v_pow, Int.reduceLT, Int.reduceLE, Int.reduceNeg, Int.reducePow, or_true, true_or, yk_ddi, x_tp, x_tl, v_rng1n, v_eqi, v_nei, Nat.le_refl, l_len, l_tru, l_its, l_lst, l_seq, l_src, l_cls, l_ty, l_fld, l_idx, l_put, l_putF, l_in, l_keys, l_app, l_clear, l_reverse, l_popAt, l_pop, l_bm, l_ty1, l_ty2, l_ty3, l_ty4, l_ty5, l_ty6, l_ty7, l_ty8, l_mq, l_kq, atI_0, atI_1, atI_2, atI_last, List.length_append, eq_self, and_self, and_true, true_and, fPut, Nat.reduceEqDiff, List.lookup_cons, List.lookup_nil, Nat.reduceBEq])
local macro_rules | `(tactic| wp_walk using $ts,*) => `(tactic| simp only [y_bind, y_k, y_ok, y_exc, y_noX, x_sq_nx, x_sq_rt, x_sq_bk, x_sq_ct, x_rq_rt, x_rq_nx, x_cons, x_nil, yk_nx, yk_rt, yk_nE, yk_asg, x_expr, x_ret, x_retN, x_asg, yk_mas, x_mas, yk_if1, yk_if0, x_iff, x_for, x_forS_ds, x_forS_cell, x_cmpS_ds, x_cmpS_cell, x_whil, x_rai, w_tr, x_pass, x_brk, x_cont, yk_set, yk_aug, x_aug, x_frv, yk_nu, yk_ax5, yk_ax4, yk_ax3, yk_ax2, yk_ax1, x_augIx, yk_fa, x_fasg, x_var, x_cst, yk_tup, x_tup, yk_fr, x_fr, yk_nw, x_nw, x_dnw, x_ddi, x_fz, yk_fz, x_fm, x_js, yk_js, x_j0, x_j1, v_asRep, yk_b1, x_bin, x_neg, x_negD, yk_c1, x_cmp, yk_and1, yk_and0, yk_or1, yk_or0, x_and, x_or, yk_d21, yk_d20, yk_d1b, yk_d1, x_cmp2, yk_not, x_not, yk_ife1, yk_ife0, x_ife, yk_fld, x_fld, yk_i1, x_idx, x_bi, x_bm, yk_isi, x_isi, yk_call, x_call, yk_cm, x_meth, x_mk, x_nq, yk_ta1, yk_ta0, yk_to1, yk_to0, x_tand, x_tor, yk_tn, x_tnot, x_tq, x_tqi, x_tqn, x_tcmp, x_tcmp2, x_tisi, x_tcall, x_tmeth, x_tbi, x_tvar, x_tidx, x_tife, x_tfld, x_tbm, yk_ts1, yk_ts0, x_ts_nil, x_ts_cons, x_es_nil, yk_cons, yk_es, x_es_cons, yk_disp, x_disp, yk_cat1, x_cat, yk_rep1, x_rep, yk_slc3, yk_slc2, yk_slc1, x_slc, yk_rev, x_rev, yk_lof, x_listOf, yk_kof, x_keysOf, yk_rng, x_frng, yk_srt, x_sorted, x_comp, yk_src, x_ival, yk_irng, x_irng, yk_ienu, x_ienu, yk_iz2, yk_iz1, x_izip, x_o_none, x_oq, x_o_some, x_nm, x_tp, yk_eu, yk_ix2, yk_ix1, x_ix, x_ts0, yk_at, x_ts1, x_bodyF, x_bodyW, x_condW, x_bodyC, x_cq, yk_some, x_cq21, x_cq20,
  v_lt, v_le, v_gt, v_ge, v_is, v_isn, v_in, v_nin, v_add, v_sub, v_bxor, v_band, v_bor, v_tru, v_len, v_lenT, v_lenU, v_lenA, v_abs, v_max2, v_min2, v_intI, v_intB, v_bitlen, v_all, v_any, v_sum, v_lenset, v_idxT, v_idxU, v_idxA, v_keyI, v_keyS, v_fldT, v_clsT, v_tyI, v_tyB, v_tyN, v_tyS, v_tyT, v_tyU, v_tyD, v_tyO, v_itsT, v_srcT, v_srcU, v_allT, v_allT0, v_lstT, v_seqT, v_seqU, alT_map, intsT_map, blsT_map,
  R.bind_ok, R.bind_exc, R.bind_bad, R.noX_ok, R.noX_bad, ofOpt_some, ofOpt_none, Option.map_some, Option.map_none, Option.bind_some, Option.bind_none, mkE,
  List.getElem?_cons_zero, List.getElem?_cons_succ, List.set_cons_zero, List.set_cons_succ, List.map_cons, List.map_nil, List.append_nil, List.nil_append, List.cons_append, List.length_cons, List.length_nil, List.length_append, List.length_set, List.length_map, List.append_assoc, List.set_set, Nat.zero_add, Nat.reduceAdd, Nat.reduceSub, Nat.reduceLeDiff, Nat.reduceLT, ↓reduceIte, decide_eq_true_eq, Bool.not_eq_true', decide_eq_false_iff_not, Bool.not_true, Bool.not_false, Bool.false_eq_true, g_app0, g_app, g_set0, g_set, s_app0, s_app, s_set0, s_set, tgVars, tgsVars, wipeE,
  v_mod, v_fdiv, v_divmod, v_mul, v_pow, Int.reduceLT, Int.reduceLE, Int.reduceNeg, Int.reducePow, or_true, true_or, yk_ddi, x_tp, x_tl, v_rng1n, v_eqi, v_nei, Nat.le_refl, l_len, l_tru, l_its, l_lst, l_seq, l_src, l_cls, l_ty, l_fld, l_idx, l_put, l_putF, l_in, l_keys, l_app, l_clear, l_reverse, l_popAt, l_pop, l_bm, l_ty1, l_ty2, l_ty3, l_ty4, l_ty5, l_ty6, l_ty7, l_ty8, l_mq, l_kq, atI_0, atI_1, atI_2, atI_last, List.length_append, eq_self, and_self, and_true, true_and, fPut, Nat.reduceEqDiff, List.lookup_cons, List.lookup_nil, Nat.reduceBEq, $[$ts:term],*])
/-! ### what several laws use -/
section
variable {P : Prg} {fns : Nat → Option Fn} {S : Store} {n k : Nat} {Q : D → Store → Prop} {E : Exn → Store → Prop}
theorem at_mem {xs : List T} {r : Int} (h0 : 0 ≤ r) (h : r < xs.length) : ∃ x, atI xs r = some x ∧ x ∈ xs := by
  have hr : r.toNat < xs.length := by omega
  exact ⟨xs[r.toNat], by rw [atI_nat h0, List.getElem?_eq_getElem hr], List.getElem_mem hr⟩
theorem v_flatI {i : Int} : flatT (.int i) = some (.int i) := rfl
theorem natT_flat : ∀ l : List Nat, (natT l).mapM flatT = some (l.map fun (i : Nat) => V.int (i : Int))
  | [] => rfl
  | x :: r => by
    have e : natT (x :: r) = .int (x : Int) :: natT r := rfl
    rw [e, List.mapM_cons, natT_flat r]
    rfl
theorem inV_nat (i : Nat) (l : List Nat) : inV (.int (i : Int)) (l.map fun (i : Nat) => V.int (i : Int)) = decide (i ∈ l) := by
  unfold inV
  rw [Bool.eq_iff_iff, List.any_map, List.any_eq_true, decide_eq_true_eq]
  constructor
  · rintro ⟨x, hx, e⟩
    have e : ((x : Int) == (i : Int)) = true := e
    have : x = i := by have := eq_of_beq e; omega
    rwa [← this]
  · intro h
    exact ⟨i, h, by show ((i : Int) == (i : Int)) = true; simp⟩
theorem natT_app (a b : List Nat) : natT (a ++ b) = natT a ++ natT b := by simp [natT]
theorem in_cell {S : Store} {L : Nat} {l : List Nat} {i : Nat} (h : S[L]? = some (.lst ((natT l).map .t))) : inD S (.t (.int (i : Nat))) (.loc L) = some (decide (i ∈ l)) := by
  simp only [l_in, h, v_flatI, Option.bind_some, alT_map, natT_flat, Option.map_some, inV_nat]
theorem len_ok {c : Nat} {fs : List (Nat × T)} (f : fns 15 = some mp_15) (H : Q (.t (.int (n : Nat))) S) :
    wp (fin .fz S (callF P fns (k + 1) 15 [.t (YT c n fs)] S)) Q E := by
  refine w_pure ?_
  rw [call_eq f rfl]
  unfold mp_15 YT
  wp_walk using rngT_len
  exact ⟨[], _, (List.append_nil _).symm, fz_t, H⟩
theorem dat_two {A : Store} {xs ys : List T} {m : Nat} (h0 : A[m]? = some (.lst (xs.map .t))) (h1 : A[m + 1]? = some (.lst (ys.map .t))) (h2 : A[m + 2]? = some (.lst [.loc m, .loc (m + 1)])) : datOf A (.loc (m + 2)) = datOf A (.t (.lst [.lst xs, .lst ys])) := by
  have e : rdT A 6 (.loc (m + 2)) = some (.lst [.lst xs, .lst ys]) := by
    simp only [rdT, h2, List.mapM_cons, List.mapM_nil, h0, h1, mapM_rd, Option.map_some]
    rfl
  have e2 : rdT A 6 (.t (.lst [.lst xs, .lst ys])) = some (.lst [.lst xs, .lst ys]) := rfl
  simp only [datOf, e, e2]
theorem rng_item {m i : Nat} {d : D} (h : (List.map (fun n => D.t (.int n)) (List.map (fun (i : Nat) => (i : Int)) (List.range m)))[i]? = some d) : i < m ∧ d = .t (.int (i : Nat)) := by
  simp only [List.getElem?_map] at h
  by_cases hi : i < m
  · rw [List.getElem?_range hi] at h
    exact ⟨hi, (Option.some.inj h).symm⟩
  · rw [List.getElem?_eq_none (by simpa using hi)] at h
    cases h
theorem map_rev {xs : List T} : (xs.map D.t).reverse = xs.reverse.map D.t := by simp
theorem natT_rev (l : List Nat) : (natT l).reverse = natT l.reverse := by simp [natT]
def trD (V : List Nat) : List (Key × D) := V.map fun (v : Nat) => (.inl (v : Int), .t (.bl true))
theorem trD_len (V : List Nat) : (trD V).length = V.length := by simp [trD]
theorem trD_get (V : List Nat) (r : Nat) : (kGet (trD V) (.inl (r : Int))).isSome = decide (r ∈ V) := by
  unfold kGet trD
  rw [Option.isSome_map, Bool.eq_iff_iff, List.find?_isSome, decide_eq_true_eq]
  constructor
  · rintro ⟨_, hp, e⟩
    obtain ⟨v, hv, rfl⟩ := List.mem_map.mp hp
    have e : (v : Int) = r := Sum.inl.inj (of_decide_eq_true e)
    have : v = r := by omega
    rwa [← this]
  · intro h
    exact ⟨_, List.mem_map.mpr ⟨r, h, rfl⟩, decide_eq_true rfl⟩
theorem trD_put {V : List Nat} {r : Nat} (h : r ∉ V) : kPut (trD V) (.inl (r : Int)) (.t (.bl true)) = trD (V ++ [r]) := by
  unfold kPut
  rw [if_neg]
  · simp [trD]
  · intro q
    obtain ⟨_, hp, e⟩ := List.any_eq_true.mp q
    obtain ⟨v, hv, rfl⟩ := List.mem_map.mp hp
    have e : (v : Int) = r := Sum.inl.inj (of_decide_eq_true e)
    have : v = r := by omega
    exact h (by rwa [← this])
theorem trD_keys (V : List Nat) : ((trD V).map (·.1)).map (fun k => D.t (keyT k)) = (natT V).map .t := by
  simp [trD, natT, keyT, Function.comp_def]
end
end Ev
end

section
set_option Elab.async false
set_option linter.all false
set_option maxRecDepth 20000
namespace Ev
open PySem PyProof.Rows L2
local macro_rules | `(tactic| walk_at "ev") => `(tactic| simp only [y_bind, y_k, y_ok, y_exc, y_noX, x_sq_nx, x_sq_rt, x_sq_bk, x_sq_ct, x_rq_rt, x_rq_nx, x_cons, x_nil, yk_nx, yk_rt, yk_nE, yk_asg, x_expr, x_ret, x_retN, x_asg, yk_mas, x_mas, yk_if1, yk_if0, x_iff, x_for, x_forS_ds, x_forS_cell, x_cmpS_ds, x_cmpS_cell, x_whil, x_rai, w_tr, x_pass, x_brk, x_cont, yk_set, yk_aug, x_aug, x_frv, yk_nu, yk_ax5, yk_ax4, yk_ax3, yk_ax2, yk_ax1, x_augIx, yk_fa, x_fasg, x_var, x_cst, yk_tup, x_tup, yk_fr, x_fr, yk_nw, x_nw, x_dnw, x_ddi, x_fz, yk_fz, x_fm, x_js, yk_js, x_j0, x_j1, v_asRep, yk_b1, x_bin, x_neg, x_negD, yk_c1, x_cmp, yk_and1, yk_and0, yk_or1, yk_or0, x_and, x_or, yk_d21, yk_d20, yk_d1b, yk_d1, x_cmp2, yk_not, x_not, yk_ife1, yk_ife0, x_ife, yk_fld, x_fld, yk_i1, x_idx, x_bi, x_bm, yk_isi, x_isi, yk_call, x_call, yk_cm, x_meth, x_mk, x_nq, yk_ta1, yk_ta0, yk_to1, yk_to0, x_tand, x_tor, yk_tn, x_tnot, x_tq, x_tqi, x_tqn, x_tcmp, x_tcmp2, x_tisi, x_tcall, x_tmeth, x_tbi, x_tvar, x_tidx, x_tife, x_tfld, x_tbm, yk_ts1, yk_ts0, x_ts_nil, x_ts_cons, x_es_nil, yk_cons, yk_es, x_es_cons, yk_disp, x_disp, yk_cat1, x_cat, yk_rep1, x_rep, yk_slc3, yk_slc2, yk_slc1, x_slc, yk_rev, x_rev, yk_lof, x_listOf, yk_kof, x_keysOf, yk_rng, x_frng, yk_srt, x_sorted, x_comp, yk_src, x_ival, yk_irng, x_irng, yk_ienu, x_ienu, yk_iz2, yk_iz1, x_izip, x_o_none, x_oq, x_o_some, x_nm, x_tp, yk_eu, yk_ix2, yk_ix1, x_ix, x_ts0, yk_at, x_ts1, x_bodyF, x_bodyW, x_condW, x_bodyC, x_cq, yk_some, x_cq21, x_cq20,
  v_lt, v_le, v_gt, v_ge, v_is, v_isn, v_in, v_nin, v_add, v_sub, v_bxor, v_band, v_bor, v_tru, v_len, v_lenT, v_lenU, v_lenA, v_abs, v_max2, v_min2, v_intI, v_intB, v_bitlen, v_all, v_any, v_sum, v_lenset, v_idxT, v_idxU, v_idxA, v_keyI, v_keyS, v_fldT, v_clsT, v_tyI, v_tyB, v_tyN, v_tyS, v_tyT, v_tyU, v_tyD, v_tyO, v_itsT, v_srcT, v_srcU, v_allT, v_allT0, v_lstT, v_seqT, v_seqU, alT_map, intsT_map, blsT_map,
  R.bind_ok, R.bind_exc, R.bind_bad, R.noX_ok, R.noX_bad, ofOpt_some, ofOpt_none, Option.map_some, Option.map_none, Option.bind_some, Option.bind_none, mkE,
  List.getElem?_cons_zero, List.getElem?_cons_succ, List.set_cons_zero, List.set_cons_succ, List.map_cons, List.map_nil, List.append_nil, List.nil_append, List.cons_append, List.length_cons, List.length_nil, List.length_append, List.length_set, List.length_map, List.append_assoc, List.set_set, Nat.zero_add, Nat.reduceAdd, Nat.reduceSub, Nat.reduceLeDiff, Nat.reduceLT, ↓reduceIte, decide_eq_true_eq, Bool.not_eq_true', decide_eq_false_iff_not, Bool.not_true, Bool.not_false, Bool.false_eq_true, g_app0, g_app, g_set0, g_set, s_app0, s_app, s_set0, s_set, tgVars, tgsVars, wipeE,
  v_mod, v_fdiv, v_divmod, v_mul, v_pow, Int.reduceLT, Int.reduceLE, Int.reduceNeg, Int.reducePow, or_true, true_or, yk_ddi, x_tp, x_tl, v_rng1n, v_eqi, v_nei, Nat.le_refl, l_len, l_tru, l_its, l_lst, l_seq, l_src, l_cls, l_ty, l_fld, l_idx, l_put, l_putF, l_in, l_keys, l_app, l_clear, l_reverse, l_popAt, l_pop, l_bm, l_ty1, l_ty2, l_ty3, l_ty4, l_ty5, l_ty6, l_ty7, l_ty8, l_mq, l_kq, atI_0, atI_1, atI_2, atI_last, List.length_append, eq_self, and_self, and_true, true_and, fPut, Nat.reduceEqDiff, List.lookup_cons, List.lookup_nil, Nat.reduceBEq])
local macro_rules | `(tactic| wp_walk using $ts,*) => `(tactic| simp only [y_bind, y_k, y_ok, y_exc, y_noX, x_sq_nx, x_sq_rt, x_sq_bk, x_sq_ct, x_rq_rt, x_rq_nx, x_cons, x_nil, yk_nx, yk_rt, yk_nE, yk_asg, x_expr, x_ret, x_retN, x_asg, yk_mas, x_mas, yk_if1, yk_if0, x_iff, x_for, x_forS_ds, x_forS_cell, x_cmpS_ds, x_cmpS_cell, x_whil, x_rai, w_tr, x_pass, x_brk, x_cont, yk_set, yk_aug, x_aug, x_frv, yk_nu, yk_ax5, yk_ax4, yk_ax3, yk_ax2, yk_ax1, x_augIx, yk_fa, x_fasg, x_var, x_cst, yk_tup, x_tup, yk_fr, x_fr, yk_nw, x_nw, x_dnw, x_ddi, x_fz, yk_fz, x_fm, x_js, yk_js, x_j0, x_j1, v_asRep, yk_b1, x_bin, x_neg, x_negD, yk_c1, x_cmp, yk_and1, yk_and0, yk_or1, yk_or0, x_and, x_or, yk_d21, yk_d20, yk_d1b, yk_d1, x_cmp2, yk_not, x_not, yk_ife1, yk_ife0, x_ife, yk_fld, x_fld, yk_i1, x_idx, x_bi, x_bm, yk_isi, x_isi, yk_call, x_call, yk_cm, x_meth, x_mk, x_nq, yk_ta1, yk_ta0, yk_to1, yk_to0, x_tand, x_tor, yk_tn, x_tnot, x_tq, x_tqi, x_tqn, x_tcmp, x_tcmp2, x_tisi, x_tcall, x_tmeth, x_tbi, x_tvar, x_tidx, x_tife, x_tfld, x_tbm, yk_ts1, yk_ts0, x_ts_nil, x_ts_cons, x_es_nil, yk_cons, yk_es, x_es_cons, yk_disp, x_disp, yk_cat1, x_cat, yk_rep1, x_rep, yk_slc3, yk_slc2, yk_slc1, x_slc, yk_rev, x_rev, yk_lof, x_listOf, yk_kof, x_keysOf, yk_rng, x_frng, yk_srt, x_sorted, x_comp, yk_src, x_ival, yk_irng, x_irng, yk_ienu, x_ienu, yk_iz2, yk_iz1, x_izip, x_o_none, x_oq, x_o_some, x_nm, x_tp, yk_eu, yk_ix2, yk_ix1, x_ix, x_ts0, yk_at, x_ts1, x_bodyF, x_bodyW, x_condW, x_bodyC, x_cq, yk_some, x_cq21, x_cq20,
  v_lt, v_le, v_gt, v_ge, v_is, v_isn, v_in, v_nin, v_add, v_sub, v_bxor, v_band, v_bor, v_tru, v_len, v_lenT, v_lenU, v_lenA, v_abs, v_max2, v_min2, v_intI, v_intB, v_bitlen, v_all, v_any, v_sum, v_lenset, v_idxT, v_idxU, v_idxA, v_keyI, v_keyS, v_fldT, v_clsT, v_tyI, v_tyB, v_tyN, v_tyS, v_tyT, v_tyU, v_tyD, v_tyO, v_itsT, v_srcT, v_srcU, v_allT, v_allT0, v_lstT, v_seqT, v_seqU, alT_map, intsT_map, blsT_map,
  R.bind_ok, R.bind_exc, R.bind_bad, R.noX_ok, R.noX_bad, ofOpt_some, ofOpt_none, Option.map_some, Option.map_none, Option.bind_some, Option.bind_none, mkE,
  List.getElem?_cons_zero, List.getElem?_cons_succ, List.set_cons_zero, List.set_cons_succ, List.map_cons, List.map_nil, List.append_nil, List.nil_append, List.cons_append, List.length_cons, List.length_nil, List.length_append, List.length_set, List.length_map, List.append_assoc, List.set_set, Nat.zero_add, Nat.reduceAdd, Nat.reduceSub, Nat.reduceLeDiff, Nat.reduceLT, ↓reduceIte, decide_eq_true_eq, Bool.not_eq_true', decide_eq_false_iff_not, Bool.not_true, Bool.not_false, Bool.false_eq_true, g_app0, g_app, g_set0, g_set, s_app0, s_app, s_set0, s_set, tgVars, tgsVars, wipeE,
  v_mod, v_fdiv, v_divmod, v_mul, v_pow, Int.reduceLT, Int.reduceLE, Int.reduceNeg, Int.reducePow, or_true, true_or, yk_ddi, x_tp, x_tl, v_rng1n, v_eqi, v_nei, Nat.le_refl, l_len, l_tru, l_its, l_lst, l_seq, l_src, l_cls, l_ty, l_fld, l_idx, l_put, l_putF, l_in, l_keys, l_app, l_clear, l_reverse, l_popAt, l_pop, l_bm, l_ty1, l_ty2, l_ty3, l_ty4, l_ty5, l_ty6, l_ty7, l_ty8, l_mq, l_kq, atI_0, atI_1, atI_2, atI_last, List.length_append, eq_self, and_self, and_true, true_and, fPut, Nat.reduceEqDiff, List.lookup_cons, List.lookup_nil, Nat.reduceBEq, $[$ts:term],*])
/-! ### no heaps, refused -/
section
variable {P : Prg} {fns : Nat → Option Fn} {S : Store} {n k : Nat} {Q : D → Store → Prop} {E : Exn → Store → Prop}
/-- .. a callee that may raise -/
theorem w_pureX {r : R D} (h : wp r (fun d S1 => ∃ X x, S1 = S ++ X ∧ Fz S S1 d x ∧ Q (.t x) S) (fun e S1 => ∃ X, S1 = S ++ X ∧ E e S)) : wp (fin .fz S r) Q E := by
  cases r with
  | ok d S1 => exact w_pure (E := E) (r := .ok d S1) h
  | exc e S1 =>
    obtain ⟨X, rfl, h⟩ := h
    simp only [fin, if_pos keeps_app, take_app]
    exact h
  | bad => exact h
/-- the built-in types, asked -/
structure IsaX (P : Prg) : Prop extends IsaL P where
  ni : P.isa (.inl "NoneType") (.ty "int") = some false
  bi : P.isa (.inl "bool") (.ty "int") = some true
  bb : P.isa (.inl "bool") (.ty "bool") = some true
  si : P.isa (.inl "str") (.ty "int") = some false
  li : P.isa (.inl "list") (.ty "int") = some false
  nl : P.isa (.inl "NoneType") (.ty "list") = some false
  bl : P.isa (.inl "bool") (.ty "list") = some false
  il : P.isa (.inl "int") (.ty "list") = some false
  sl : P.isa (.inl "str") (.ty "list") = some false
  tl : P.isa (.inl "tuple") (.ty "list") = some false
  dl : P.isa (.inl "dict") (.ty "list") = some false
/-- no number below m -/
inductive NoNum (m : Nat) : T → Prop where
  | non : NoNum m .non
  | bl (b : Bool) : NoNum m (.bl b)
  | str (x : Str) : NoNum m (.str x)
  | lst (xs : List T) : NoNum m (.lst xs)
  | int (i : Int) : ¬ (0 ≤ i ∧ i < (m : Int)) → NoNum m (.int i)
/-- no heap of a yard of m things -/
inductive NoHp (m : Nat) : T → Prop where
  | non : NoHp m .non
  | bl (b : Bool) : NoHp m (.bl b)
  | int (i : Int) : NoHp m (.int i)
  | str (x : Str) : NoHp m (.str x)
  | tup (xs : List T) : NoHp m (.tup xs)
  | dic (xs : List (Key × T)) : NoHp m (.dic xs)
  | one (x : T) : NoNum m x → NoHp m (.lst [x])
  | two (hs : List Nat) : ¬ hs.Nodup → (∀ i ∈ hs, i < m) → hs.length < 4000 → NoHp m (.lst (natT hs))
theorem isnum_no {m : Nat} {x : T} (f : fns 0 = some mp_0) (y : IsaX P) (h : NoNum m x) (H : Q (.t (.bl false)) S) :
    wp (fin .fz S (callF P fns (k + 1) 0 [.t x, .t (.int (m : Nat))] S)) Q E := by
  cases h with
  | int i h =>
    refine isnum_ok f y.toIsaI ?_
    rw [decide_eq_false h]
    exact H
  | _ =>
    refine w_pure ?_
    rw [call_eq f rfl]
    unfold mp_0
    wp_walk using isAny, y.ii, y.ib, y.ni, y.bi, y.bb, y.si, y.li, Bool.or_false
    exact ⟨[], _, (List.append_nil _).symm, fz_t, by simpa using H⟩
theorem dedup_len : ∀ (l s : List Int), s.Nodup → (l.foldl PyProof.Rows.step_dedup s).length ≤ s.length + l.length ∧ ((l.foldl PyProof.Rows.step_dedup s).length = s.length + l.length → (s ++ l).Nodup)
  | [], s, h => ⟨by simp, fun _ => by simpa using h⟩
  | x :: r, s, h => by
    by_cases hx : x ∈ s
    · have e : PyProof.Rows.step_dedup s x = s := by
        unfold PyProof.Rows.step_dedup
        rw [if_pos]
        simp only [List.any_eq_true, beq_iff_eq, exists_eq_right]
        exact hx
      obtain ⟨i1, i2⟩ := dedup_len r s h
      rw [List.foldl_cons, e, List.length_cons]
      exact ⟨by omega, fun z => by omega⟩
    · have e : PyProof.Rows.step_dedup s x = s ++ [x] := by
        unfold PyProof.Rows.step_dedup
        rw [if_neg]
        simp only [List.any_eq_true, beq_iff_eq, exists_eq_right]
        exact hx
      have h2 : (s ++ [x]).Nodup := by
        rw [List.nodup_append]
        exact ⟨h, by simp, fun a ha b hb e' => by simp at hb; subst hb; subst e'; exact hx ha⟩
      obtain ⟨i1, i2⟩ := dedup_len r (s ++ [x]) h2
      rw [List.length_append] at i1 i2
      simp only [List.length_cons, List.length_nil] at i1 i2
      rw [List.foldl_cons, e, List.length_cons]
      refine ⟨by omega, fun z => ?_⟩
      have := i2 (by omega)
      rwa [List.append_assoc] at this
theorem isheap_no {m : Nat} {x : T} (y : Yds P fns) (z : IsaX P) (h : NoHp m x) (H : Q (.t (.bl false)) S) :
    wp (fin .fz S (callF P fns (k + 2) 1 [.t x, .t (.int (m : Nat))] S)) Q E := by
  refine w_pure ?_
  rw [call_eq y.f1 rfl]
  unfold mp_1
  cases h with
  | one x hx =>
    wp_walk using isAny, y.ll, Bool.or_false, yk_to0
    refine w_map (xs := [x]) (fun _ => .bl false) (by simp) (fun x' hx' => ?_) ?_
    · obtain rfl := List.mem_singleton.mp hx'
      walk_at "ev"
      refine isnum_no y.f0 z hx ?_
      walk_at "ev"
    · have e : ([x].map fun _ => T.bl false) = [false].map T.bl := rfl
      walk_at "ev"
      refine w_if (fun _ => ?_) (fun q => absurd q (by decide))
      walk_at "ev"
      exact ⟨[], _, (List.append_nil _).symm, fz_t, H⟩
  | two hs nd lt hl =>
    wp_walk using isAny, y.ll, Bool.or_false, yk_to0
    refine w_map (fun _ => .bl true) (by rw [natT_len]; omega) (fun x hx => ?_) ?_
    · obtain ⟨i, hi, rfl⟩ := List.mem_map.mp hx
      walk_at "ev"
      refine isnum_ok y.f0 y.toIsaI ?_
      have : decide ((0 : Int) ≤ (i : Int) ∧ (i : Int) < (m : Int)) = true := by
        have := lt i hi
        simp; omega
      rw [this]
      walk_at "ev"
    · have e : (natT hs).map (fun _ => T.bl true) = (hs.map fun _ => true).map T.bl := by simp [natT, Function.comp_def]
      have e2 : (hs.map fun _ => true).all id = true := by simp
      have e3 : ¬ ((hs.map fun (i : Nat) => (i : Int)).foldl PyProof.Rows.step_dedup []).length = hs.length := fun q => by
        have := (dedup_len (hs.map fun (i : Nat) => (i : Int)) [] List.nodup_nil).2 (by simpa using q)
        rw [List.nil_append] at this
        refine nd ?_
        rw [List.Nodup, List.pairwise_map] at this
        exact this.imp fun {a b} hab e => hab (by rw [e])
      wp_walk using e, e2
      wp_walk using natT_ints, natT_len, hl
      refine ⟨[], _, (List.append_nil _).symm, fz_t, ?_⟩
      rw [decide_eq_false (by omega)]
      exact H
  | _ =>
    wp_walk using isAny, z.nl, z.bl, z.il, z.sl, z.tl, z.dl, Bool.or_false, yk_if1
    exact ⟨[], _, (List.append_nil _).symm, fz_t, H⟩
/-- what is no heap is refused -/
theorem worth_no {c w m : Nat} {fs : List (Nat × T)} {x : T} (y : Yds P fns) (z : IsaX P) (yc : YCls P c w) (h : NoHp m x) (H : E ⟨2, []⟩ S) :
    wp (fin .fz S (callF P fns (k + 4) 9 [.t (YT c m fs), .t x] S)) Q E := by
  refine w_pureX ?_
  rw [call_eq y.f9 rfl]
  unfold mp_9
  walk_at "ev"
  have hc : clsD S (.t (YT c m fs)) = some c := rfl
  refine w_pureX ?_
  rw [call_eq y.f18 rfl]
  unfold mp_18
  wp_walk using hc, yc.many
  refine many_ok y ?_
  walk_at "ev"
  refine isheap_no y z h ?_
  wp_walk using yk_if1
  exact ⟨[], (List.append_nil _).symm, [], (List.append_nil _).symm, H⟩
end
end Ev
end

section
set_option Elab.async false
set_option linter.all false
set_option maxRecDepth 20000
namespace Ev
open PySem PyProof.Rows L2
local macro_rules | `(tactic| walk_at "ev") => `(tactic| simp only [y_bind, y_k, y_ok, y_exc, y_noX, x_sq_nx, x_sq_rt, x_sq_bk, x_sq_ct, x_rq_rt, x_rq_nx, x_cons, x_nil, yk_nx, yk_rt, yk_nE, yk_asg, x_expr, x_ret, x_retN, x_asg, yk_mas, x_mas, yk_if1, yk_if0, x_iff, x_for, x_forS_ds, x_forS_cell, x_cmpS_ds, x_cmpS_cell, x_whil, x_rai, w_tr, x_pass, x_brk, x_cont, yk_set, yk_aug, x_aug, x_frv, yk_nu, yk_ax5, yk_ax4, yk_ax3, yk_ax2, yk_ax1, x_augIx, yk_fa, x_fasg, x_var, x_cst, yk_tup, x_tup, yk_fr, x_fr, yk_nw, x_nw, x_dnw, x_ddi, x_fz, yk_fz, x_fm, x_js, yk_js, x_j0, x_j1, v_asRep, yk_b1, x_bin, x_neg, x_negD, yk_c1, x_cmp, yk_and1, yk_and0, yk_or1, yk_or0, x_and, x_or, yk_d21, yk_d20, yk_d1b, yk_d1, x_cmp2, yk_not, x_not, yk_ife1, yk_ife0, x_ife, yk_fld, x_fld, yk_i1, x_idx, x_bi, x_bm, yk_isi, x_isi, yk_call, x_call, yk_cm, x_meth, x_mk, x_nq, yk_ta1, yk_ta0, yk_to1, yk_to0, x_tand, x_tor, yk_tn, x_tnot, x_tq, x_tqi, x_tqn, x_tcmp, x_tcmp2, x_tisi, x_tcall, x_tmeth, x_tbi, x_tvar, x_tidx, x_tife, x_tfld, x_tbm, yk_ts1, yk_ts0, x_ts_nil, x_ts_cons, x_es_nil, yk_cons, yk_es, x_es_cons, yk_disp, x_disp, yk_cat1, x_cat, yk_rep1, x_rep, yk_slc3, yk_slc2, yk_slc1, x_slc, yk_rev, x_rev, yk_lof, x_listOf, yk_kof, x_keysOf, yk_rng, x_frng, yk_srt, x_sorted, x_comp, yk_src, x_ival, yk_irng, x_irng, yk_ienu, x_ienu, yk_iz2, yk_iz1, x_izip, x_o_none, x_oq, x_o_some, x_nm, x_tp, yk_eu, yk_ix2, yk_ix1, x_ix, x_ts0, yk_at, x_ts1, x_bodyF, x_bodyW, x_condW, x_bodyC, x_cq, yk_some, x_cq21, x_cq20,
  v_lt, v_le, v_gt, v_ge, v_is, v_isn, v_in, v_nin, v_add, v_sub, v_bxor, v_band, v_bor, v_tru, v_len, v_lenT, v_lenU, v_lenA, v_abs, v_max2, v_min2, v_intI, v_intB, v_bitlen, v_all, v_any, v_sum, v_lenset, v_idxT, v_idxU, v_idxA, v_keyI, v_keyS, v_fldT, v_clsT, v_tyI, v_tyB, v_tyN, v_tyS, v_tyT, v_tyU, v_tyD, v_tyO, v_itsT, v_srcT, v_srcU, v_allT, v_allT0, v_lstT, v_seqT, v_seqU, alT_map, intsT_map, blsT_map,
  R.bind_ok, R.bind_exc, R.bind_bad, R.noX_ok, R.noX_bad, ofOpt_some, ofOpt_none, Option.map_some, Option.map_none, Option.bind_some, Option.bind_none, mkE,
  List.getElem?_cons_zero, List.getElem?_cons_succ, List.set_cons_zero, List.set_cons_succ, List.map_cons, List.map_nil, List.append_nil, List.nil_append, List.cons_append, List.length_cons, List.length_nil, List.length_append, List.length_set, List.length_map, List.append_assoc, List.set_set, Nat.zero_add, Nat.reduceAdd, Nat.reduceSub, Nat.reduceLeDiff, Nat.reduceLT, ↓reduceIte, decide_eq_true_eq, Bool.not_eq_true', decide_eq_false_iff_not, Bool.not_true, Bool.not_false, Bool.false_eq_true, g_app0, g_app, g_set0, g_set, s_app0, s_app, s_set0, s_set, tgVars, tgsVars, wipeE,
  v_mod, v_fdiv, v_divmod, v_mul, v_pow, Int.reduceLT, Int.reduceLE, Int.reduceNeg, Int.reducePow, or_true, true_or, yk_ddi, x_tp, x_tl, v_rng1n, v_eqi, v_nei, Nat.le_refl, l_len, l_tru, l_its, l_lst, l_seq, l_src, l_cls, l_ty, l_fld, l_idx, l_put, l_putF, l_in, l_keys, l_app, l_clear, l_reverse, l_popAt, l_pop, l_bm, l_ty1, l_ty2, l_ty3, l_ty4, l_ty5, l_ty6, l_ty7, l_ty8, l_mq, l_kq, atI_0, atI_1, atI_2, atI_last, List.length_append, eq_self, and_self, and_true, true_and, fPut, Nat.reduceEqDiff, List.lookup_cons, List.lookup_nil, Nat.reduceBEq])
local macro_rules | `(tactic| wp_walk using $ts,*) => `(tactic| simp only [y_bind, y_k, y_ok, y_exc, y_noX, x_sq_nx, x_sq_rt, x_sq_bk, x_sq_ct, x_rq_rt, x_rq_nx, x_cons, x_nil, yk_nx, yk_rt, yk_nE, yk_asg, x_expr, x_ret, x_retN, x_asg, yk_mas, x_mas, yk_if1, yk_if0, x_iff, x_for, x_forS_ds, x_forS_cell, x_cmpS_ds, x_cmpS_cell, x_whil, x_rai, w_tr, x_pass, x_brk, x_cont, yk_set, yk_aug, x_aug, x_frv, yk_nu, yk_ax5, yk_ax4, yk_ax3, yk_ax2, yk_ax1, x_augIx, yk_fa, x_fasg, x_var, x_cst, yk_tup, x_tup, yk_fr, x_fr, yk_nw, x_nw, x_dnw, x_ddi, x_fz, yk_fz, x_fm, x_js, yk_js, x_j0, x_j1, v_asRep, yk_b1, x_bin, x_neg, x_negD, yk_c1, x_cmp, yk_and1, yk_and0, yk_or1, yk_or0, x_and, x_or, yk_d21, yk_d20, yk_d1b, yk_d1, x_cmp2, yk_not, x_not, yk_ife1, yk_ife0, x_ife, yk_fld, x_fld, yk_i1, x_idx, x_bi, x_bm, yk_isi, x_isi, yk_call, x_call, yk_cm, x_meth, x_mk, x_nq, yk_ta1, yk_ta0, yk_to1, yk_to0, x_tand, x_tor, yk_tn, x_tnot, x_tq, x_tqi, x_tqn, x_tcmp, x_tcmp2, x_tisi, x_tcall, x_tmeth, x_tbi, x_tvar, x_tidx, x_tife, x_tfld, x_tbm, yk_ts1, yk_ts0, x_ts_nil, x_ts_cons, x_es_nil, yk_cons, yk_es, x_es_cons, yk_disp, x_disp, yk_cat1, x_cat, yk_rep1, x_rep, yk_slc3, yk_slc2, yk_slc1, x_slc, yk_rev, x_rev, yk_lof, x_listOf, yk_kof, x_keysOf, yk_rng, x_frng, yk_srt, x_sorted, x_comp, yk_src, x_ival, yk_irng, x_irng, yk_ienu, x_ienu, yk_iz2, yk_iz1, x_izip, x_o_none, x_oq, x_o_some, x_nm, x_tp, yk_eu, yk_ix2, yk_ix1, x_ix, x_ts0, yk_at, x_ts1, x_bodyF, x_bodyW, x_condW, x_bodyC, x_cq, yk_some, x_cq21, x_cq20,
  v_lt, v_le, v_gt, v_ge, v_is, v_isn, v_in, v_nin, v_add, v_sub, v_bxor, v_band, v_bor, v_tru, v_len, v_lenT, v_lenU, v_lenA, v_abs, v_max2, v_min2, v_intI, v_intB, v_bitlen, v_all, v_any, v_sum, v_lenset, v_idxT, v_idxU, v_idxA, v_keyI, v_keyS, v_fldT, v_clsT, v_tyI, v_tyB, v_tyN, v_tyS, v_tyT, v_tyU, v_tyD, v_tyO, v_itsT, v_srcT, v_srcU, v_allT, v_allT0, v_lstT, v_seqT, v_seqU, alT_map, intsT_map, blsT_map,
  R.bind_ok, R.bind_exc, R.bind_bad, R.noX_ok, R.noX_bad, ofOpt_some, ofOpt_none, Option.map_some, Option.map_none, Option.bind_some, Option.bind_none, mkE,
  List.getElem?_cons_zero, List.getElem?_cons_succ, List.set_cons_zero, List.set_cons_succ, List.map_cons, List.map_nil, List.append_nil, List.nil_append, List.cons_append, List.length_cons, List.length_nil, List.length_append, List.length_set, List.length_map, List.append_assoc, List.set_set, Nat.zero_add, Nat.reduceAdd, Nat.reduceSub, Nat.reduceLeDiff, Nat.reduceLT, ↓reduceIte, decide_eq_true_eq, Bool.not_eq_true', decide_eq_false_iff_not, Bool.not_true, Bool.not_false, Bool.false_eq_true, g_app0, g_app, g_set0, g_set, s_app0, s_app, s_set0, s_set, tgVars, tgsVars, wipeE,
  v_mod, v_fdiv, v_divmod, v_mul, v_pow, Int.reduceLT, Int.reduceLE, Int.reduceNeg, Int.reducePow, or_true, true_or, yk_ddi, x_tp, x_tl, v_rng1n, v_eqi, v_nei, Nat.le_refl, l_len, l_tru, l_its, l_lst, l_seq, l_src, l_cls, l_ty, l_fld, l_idx, l_put, l_putF, l_in, l_keys, l_app, l_clear, l_reverse, l_popAt, l_pop, l_bm, l_ty1, l_ty2, l_ty3, l_ty4, l_ty5, l_ty6, l_ty7, l_ty8, l_mq, l_kq, atI_0, atI_1, atI_2, atI_last, List.length_append, eq_self, and_self, and_true, true_and, fPut, Nat.reduceEqDiff, List.lookup_cons, List.lookup_nil, Nat.reduceBEq, $[$ts:term],*])
/-! ### lots: the counting -/
def cn (lots hs : List Nat) (j : Nat) : Nat := (hs.filter fun i => lots.getD i 0 == j).length
theorem cn_snoc {lots hs : List Nat} {h j : Nat} : cn lots (hs ++ [h]) j = cn lots hs j + if lots.getD h 0 = j then 1 else 0 := by
  unfold cn
  rw [List.filter_append, List.length_append]
  simp only [List.filter_cons, List.filter_nil, beq_iff_eq]
  split <;> rfl
theorem cn_perm {lots hs gs : List Nat} {j : Nat} (h : hs.Perm gs) : cn lots hs j = cn lots gs j := (h.filter _).length_eq
def lw (tops lots hs : List Nat) : Nat := ((List.range tops.length).map fun j => min (cn lots hs j) (tops.getD j 0)).sum
theorem lw_perm {tops lots hs gs : List Nat} (h : hs.Perm gs) : lw tops lots hs = lw tops lots gs := by
  unfold lw
  congr 1
  exact List.map_congr_left fun j _ => by rw [cn_perm h]
theorem sum_upd {f g : Nat → Nat} {j d : Nat} : ∀ n, j < n → (∀ i, i ≠ j → f i = g i) → f j = g j + d → ((List.range n).map f).sum = ((List.range n).map g).sum + d
  | 0, h, _, _ => absurd h (Nat.not_lt_zero _)
  | n + 1, hj, he, hd => by
    rw [List.range_succ, List.map_append, List.map_append, List.sum_append, List.sum_append]
    simp only [List.map_cons, List.map_nil, List.sum_cons, List.sum_nil, Nat.add_zero]
    by_cases e : j = n
    · subst e
      have : (List.range j).map f = (List.range j).map g := List.map_congr_left fun i hi => he i (by have := List.mem_range.mp hi; omega)
      rw [this, hd]; omega
    · have := sum_upd n (by omega) he hd
      have := he n (Ne.symm e)
      omega
theorem lw_snoc {tops lots hs : List Nat} {h : Nat} (hl : lots.getD h 0 < tops.length) : lw tops lots (hs ++ [h]) = lw tops lots hs + if cn lots hs (lots.getD h 0) < tops.getD (lots.getD h 0) 0 then 1 else 0 := by
  unfold lw
  refine sum_upd (j := lots.getD h 0) _ hl (fun i hi => ?_) ?_
  · rw [cn_snoc, if_neg (Ne.symm hi), Nat.add_zero]
  · rw [cn_snoc, if_pos rfl]
    split <;> omega
theorem lw_nil {tops lots : List Nat} : lw tops lots [] = 0 := by
  unfold lw
  have : (List.range tops.length).map (fun j => min (cn lots [] j) (tops.getD j 0)) = (List.range tops.length).map fun _ => 0 := List.map_congr_left fun j _ => by simp [cn]
  rw [this]
  induction tops.length with
  | zero => rfl
  | succ n ih => rw [List.range_succ, List.map_append, List.sum_append, ih]; rfl
theorem sum_cast {α : Type} {f : α → Nat} : ∀ l : List α, (l.map fun j => ((f j : Nat) : Int)).sum = (((l.map f).sum : Nat) : Int)
  | [] => rfl
  | x :: r => by rw [List.map_cons, List.sum_cons, sum_cast r, List.map_cons, List.sum_cons]; simp
structure Lts (P : Prg) (fns : Nat → Option Fn) : Prop extends Yds P fns where
  f37 : fns 37 = some mp_37
  f38 : fns 38 = some mp_38
  f39 : fns 39 = some mp_39
  f40 : fns 40 = some mp_40
  f41 : fns 41 = some mp_41
  ini : P.init 3 = some 38
  cl : YCls P 3 41
def LotsT (tops lots : List Nat) : T := YT 3 lots.length [(5, .lst (natT tops)), (6, .lst (natT lots))]
section
variable {P : Prg} {fns : Nat → Option Fn} {S : Store} {n k : Nat} {Q : D → Store → Prop} {E : Exn → Store → Prop}
theorem aretops_ok {d : D} {tops : List Nat} (y : Lts P fns) (hd : Arg S d (natT tops)) (hl : tops.length ≤ 8) (hr : ∀ r ∈ tops, r < 25) (H : Q (.t (.bl true)) S) :
    wp (fin .fz S (callF P fns (k + 2) 37 [d] S)) Q E := by
  refine w_pure ?_
  rw [call_eq y.f37 rfl]
  unfold mp_37
  have hl' : ¬ (8 : Int) < ((natT tops).length : Nat) := by rw [natT_len]; omega
  wp_walk using hd.ty, isAny, y.ll, Bool.or_false, yk_to0, hd.len, hl', decide_false, yk_if0
  refine w_maps (fun _ => .bl true) hd (by rw [natT_len]; omega) (fun x hx => ?_) ?_
  · obtain ⟨i, hi, rfl⟩ := List.mem_map.mp hx
    walk_at "ev"
    refine isnum_ok y.f0 y.toIsaI ?_
    have : decide ((0 : Int) ≤ (i : Int) ∧ (i : Int) < 24 + 1) = true := by
      have := hr i hi
      simp; omega
    rw [this]
    walk_at "ev"
  · have e : (natT tops).map (fun _ => T.bl true) = (tops.map fun _ => true).map T.bl := by simp [natT, Function.comp_def]
    have e2 : (tops.map fun _ => true).all id = true := by simp
    wp_walk using e, e2
    exact ⟨[], _, (List.append_nil _).symm, fz_t, H⟩
theorem lots_mk {d1 d2 : D} {tops lots : List Nat} (y : Lts P fns) (h1 : Arg S d1 (natT tops)) (h2 : Arg S d2 (natT lots)) (l1 : tops.length ≤ 8) (r1 : ∀ r ∈ tops, r < 25) (l2 : lots.length ≤ 24) (r2 : ∀ r ∈ lots, r < tops.length) (H : Q (.t (LotsT tops lots)) S) :
    wp (fin .fz S ((callF P fns (k + 3) 38 [.loc S.length, d1, d2] (S ++ [.ins 3 []])).bind (nq S.length))) Q E := by
  refine w_made 3 ?_
  rw [call_eq y.f38 rfl]
  unfold mp_38
  have a1 : Arg (S ++ [.ins 3 []]) d1 (natT tops) := h1.app
  have a2 : Arg (S ++ [.ins 3 []]) d2 (natT lots) := h2.app
  walk_at "ev"
  refine aretops_ok y a1 l1 r1 ?_
  wp_walk using yk_if0
  refine wantlist_ok y.toYds a2 (by rw [natT_len]; exact l2) ?_
  walk_at "ev"
  refine w_maps (fun _ => .bl true) a2 (by rw [natT_len]; omega) (fun x hx => ?_) ?_
  · obtain ⟨i, hi, rfl⟩ := List.mem_map.mp hx
    wp_walk using a1.len, natT_len
    refine isnum_ok y.f0 y.toIsaI ?_
    have : decide ((0 : Int) ≤ (i : Int) ∧ (i : Int) < (tops.length : Nat)) = true := by
      have := r2 i hi
      simp; omega
    rw [this]
    walk_at "ev"
  · have e : (natT lots).map (fun _ => T.bl true) = (lots.map fun _ => true).map T.bl := by simp [natT, Function.comp_def]
    wp_walk using e
    refine wanteach_ok y.toYds (fun b hb => by obtain ⟨_, _, rfl⟩ := List.mem_map.mp hb; rfl) ?_
    wp_walk using a2.len, natT_len
    refine yinit_ok y.toYds (by omega) ?_
    have hd2 : itsD (S ++ [.ins 3 [(0, .t (.lst (rngT lots.length))), (1, .t (.int 0))]]) d1 = some ((natT tops).map .t) := h1.app.its
    have hd3 : itsD (S ++ [.ins 3 [(0, .t (.lst (rngT lots.length))), (1, .t (.int 0)), (5, .t (.lst (natT tops)))]]) d2 = some ((natT lots).map .t) := h2.app.its
    wp_walk using hd2, hd3
    exact ⟨[(0, .lst (rngT lots.length)), (1, .int 0), (5, .lst (natT tops)), (6, .lst (natT lots))], [], rfl, H⟩

/-- a list of numbers by a rule -/
def numD (m : Nat) (f : Nat → Nat) : List D := (List.range m).map fun j => .t (.int ((f j : Nat) : Int))
theorem numD_len {m : Nat} {f : Nat → Nat} : (numD m f).length = m := by simp [numD]
theorem numD_get {m : Nat} {f : Nat → Nat} {j : Nat} (h : j < m) : (numD m f)[j]? = some (.t (.int ((f j : Nat) : Int))) := by
  simp [numD, List.getElem?_map, List.getElem?_range h]
theorem numD_set {m : Nat} {f g : Nat → Nat} {j : Nat} {v : Int} (hv : v = ((g j : Nat) : Int)) (h : ∀ i, i ≠ j → f i = g i) : (numD m f).set j (.t (.int v)) = numD m g := by
  subst hv
  apply List.ext_getElem?
  intro i
  rw [List.getElem?_set]
  split
  · rename_i e
    subst e
    by_cases hi : j < m
    · rw [if_pos (by rw [numD_len]; exact hi), numD_get hi]
    · rw [if_neg (by rw [numD_len]; exact hi), List.getElem?_eq_none (by rw [numD_len]; omega)]
  · rename_i e
    by_cases hi : i < m
    · rw [numD_get hi, numD_get hi, h i (Ne.symm e)]
    · rw [List.getElem?_eq_none (by rw [numD_len]; omega), List.getElem?_eq_none (by rw [numD_len]; omega)]
theorem numD_t {m : Nat} {f : Nat → Nat} : numD m f = (natT ((List.range m).map f)).map .t := by simp [numD, natT, Function.comp_def]
theorem natD_num {xs : List Nat} : (natT xs).map D.t = numD xs.length fun j => xs.getD j 0 := by
  apply List.ext_getElem?
  intro i
  by_cases hi : i < xs.length
  · rw [numD_get hi]
    simp [natT, List.getD_eq_getElem?_getD, List.getElem?_eq_getElem hi]
  · rw [List.getElem?_eq_none (by simp [natT]; omega), List.getElem?_eq_none (by rw [numD_len]; omega)]
theorem natT_at {xs : List Nat} {i : Nat} (h : i < xs.length) : (natT xs)[i]? = some (.int ((xs.getD i 0 : Nat) : Int)) := by
  simp [natT, List.getD_eq_getElem?_getD, List.getElem?_eq_getElem h]
theorem natD_item {hs : List Nat} {i : Nat} {d : D} (h : ((natT hs).map D.t)[i]? = some d) : ∃ v, hs[i]? = some v ∧ d = .t (.int ((v : Nat) : Int)) ∧ hs.take (i + 1) = hs.take i ++ [v] := by
  simp only [natT, List.map_map, List.getElem?_map, Option.map_eq_some_iff] at h
  obtain ⟨v, h1, rfl⟩ := h
  exact ⟨v, h1, rfl, by rw [List.take_succ, h1]; rfl⟩
theorem getD_lt {xs : List Nat} {i b : Nat} (h : ∀ x ∈ xs, x < b) (hi : i < xs.length) : xs.getD i 0 < b := by
  rw [List.getD_eq_getElem?_getD, List.getElem?_eq_getElem hi]
  exact h _ (List.getElem_mem hi)
theorem lots_worth {tops lots hs : List Nat} (y : Lts P fns) (l1 : tops.length ≤ 8) (r2 : ∀ r ∈ lots, r < tops.length) (hh : ∀ i ∈ hs, i < lots.length) (hl : hs.length < 1000000) (H : Q (.t (.int (lw tops lots hs : Nat))) S) :
    wp (fin .fz S (callF P fns (k + 1) 41 [.t (LotsT tops lots), .t (.lst (natT hs))] S)) Q E := by
  refine w_pure ?_
  rw [call_eq y.f41 rfl]
  unfold mp_41
  have e5 : ∀ S : Store, evFld (.t (LotsT tops lots)) 5 S = .ok (.t (.lst (natT tops))) S := fun _ => rfl
  have e6 : ∀ S : Store, evFld (.t (LotsT tops lots)) 6 S = .ok (.t (.lst (natT lots))) S := fun _ => rfl
  wp_walk using e5, e6, natT_len
  refine wp_eq (yk_rep2 (xs := [.t (.int 0)]) rfl ⟨by omega, by omega⟩ (by simp; omega)) ?_
  have e0 : (List.replicate ((tops.length : Nat) : Int).toNat [D.t (.int 0)]).flatten = numD tops.length fun j => cn lots ([] : List Nat) j := by
    rw [Int.toNat_natCast]
    apply List.ext_getElem?
    intro i
    have : (List.replicate tops.length [D.t (.int 0)]).flatten = List.replicate tops.length (D.t (.int 0)) := by
      induction tops.length with
      | zero => rfl
      | succ n ih => rw [List.replicate_succ, List.flatten_cons, ih]; rfl
    rw [this, List.getElem?_replicate]
    by_cases hi : i < tops.length
    · rw [if_pos hi, numD_get hi]; rfl
    · rw [if_neg hi, List.getElem?_eq_none (by rw [numD_len]; omega)]
  wp_walk using e0
  refine wp_forL (fun i τ S' => ∃ a, S' = S ++ [.lst (numD tops.length fun j => cn lots (hs.take i) j)] ∧ τ = [some (.t (LotsT tops lots)), some (.t (.lst (natT hs))), some (.loc S.length), a, none, none])
    ⟨none, rfl, rfl⟩ (fun i d τ S' hd => ?_) fun τ S' => ?_
  · rintro ⟨a, rfl, rfl⟩
    obtain ⟨h, hh1, rfl, tk⟩ := natD_item hd
    have hh2 : h < lots.length := hh h (List.mem_of_getElem? hh1)
    have jl := getD_lt r2 hh2
    rw [tk]
    have hat := natT_at hh2
    have hcn : ∀ i', cn lots (hs.take i ++ [h]) i' = cn lots (hs.take i) i' + if lots.getD h 0 = i' then 1 else 0 := fun i' => cn_snoc
    generalize lots.getD h 0 = j at *
    wp_walk using e6, atI_ofNat, hat, numD_get jl, numD_len, ixN_of jl
    refine ⟨_, ?_, rfl⟩
    rw [numD_set (g := fun j => cn lots (hs.take i ++ [h]) j)]
    · rw [hcn, if_pos rfl]; omega
    · intro i' hi'
      rw [hcn, if_neg (Ne.symm hi')]; rfl
  · rintro ⟨a, rfl, rfl⟩
    have e : hs.take ((natT hs).map D.t).length = hs := by rw [List.length_map, natT_len, List.take_length]
    rw [e, numD_t]
    wp_walk using e5, lstTr
    have ez : ((natT ((List.range tops.length).map fun j => cn lots hs j)).zip (natT tops)).map (fun p => D.t (.tup [p.1, p.2])) = (((natT ((List.range tops.length).map fun j => cn lots hs j)).zip (natT tops)).map fun p => T.tup [p.1, p.2]).map D.t := by simp [Function.comp_def]
    wp_walk using ez
    refine w_map (fun x => match x with | .tup [.int a, .int b] => .int (if b < a then b else a) | x => x) (by simp [natT]; omega) (fun x hx => ?_) ?_
    · obtain ⟨p, hp, rfl⟩ := List.mem_map.mp hx
      obtain ⟨p1, p2⟩ := p
      obtain ⟨m1, m2⟩ := List.of_mem_zip hp
      obtain ⟨v1, _, rfl⟩ := List.mem_map.mp m1
      obtain ⟨v2, _, rfl⟩ := List.mem_map.mp m2
      walk_at "ev"
    · have es : (((natT ((List.range tops.length).map fun j => cn lots hs j)).zip (natT tops)).map fun p => T.tup [p.1, p.2]).map (fun x => match x with | .tup [.int a, .int b] => T.int (if b < a then b else a) | x => x) = ((List.range tops.length).map fun j => (((min (cn lots hs j) (tops.getD j 0)) : Nat) : Int)).map .int := by
        have et : natT tops = (List.range tops.length).map fun j => T.int ((tops.getD j 0 : Nat) : Int) := by
          apply List.ext_getElem?
          intro i
          by_cases hi : i < tops.length
          · rw [natT_at hi]; simp [List.getElem?_range hi]
          · rw [List.getElem?_eq_none (by rw [natT_len]; omega), List.getElem?_eq_none (by simp; omega)]
        have ec : natT ((List.range tops.length).map fun j => cn lots hs j) = (List.range tops.length).map fun j => T.int ((cn lots hs j : Nat) : Int) := by simp [natT, Function.comp_def]
        rw [et, ec, List.zip_map', List.map_map, List.map_map, List.map_map]
        refine List.map_congr_left fun j _ => ?_
        simp only [Function.comp_apply]
        congr 1
        split <;> omega
      wp_walk using es, intsT_map
      refine ⟨[.dead], _, rfl, fz_t, ?_⟩
      rw [sum_cast]
      exact H
end

end Ev
end

section
set_option Elab.async false
set_option linter.all false
set_option maxRecDepth 100000
set_option maxHeartbeats 0
namespace Ev.K21
open PySem PySem.Spec PyProof.Rows L2
def top (i : Nat) : Stmt := PySem.Challenge.pw_noaslong_k21_lots_counted.main.body.getD i (.Pass ⟨0, 0, 0, 0⟩)
def dd (a : Str × Option Str) (n q : Str) (s : Stmt) (dfl : List He.Dv) (kwd : List (Str × He.Dv)) : He.DefD := ⟨a, n, q, defArgs s, defBody s, defScope s, dfl, kwd⟩
/-- is_number -/
def d0 : Df := ⟨dd ("is_number", none) "is_number" "is_number" (top 6) [] [], ["thing", "many"], ["thing", "many"], some mp_0⟩
/-- is_heap -/
def d1 : Df := ⟨dd ("is_heap", none) "is_heap" "is_heap" (top 7) [] [], ["things", "many", "thing"], ["things", "many"], some mp_1⟩
/-- Yard.__init__ -/
def d6 : Df := ⟨dd ("Yard", some "__init__") "__init__" "Yard.__init__" (inClass (top 9) 0) [] [("nested", .int 0)], ["self", "many", "nested"], ["self", "many", "nested"], some mp_6⟩
/-- Yard.many -/
def d7 : Df := ⟨dd ("Yard", some "many") "many" "Yard.many" (inClass (top 9) 1) [] [], ["self"], ["self"], some mp_7⟩
/-- Yard.things -/
def d8 : Df := ⟨dd ("Yard", some "things") "things" "Yard.things" (inClass (top 9) 2) [] [], ["self"], ["self"], some mp_8⟩
/-- Yard.worth -/
def d9 : Df := ⟨dd ("Yard", some "worth") "worth" "Yard.worth" (inClass (top 9) 3) [] [], ["self", "heap"], ["self", "heap"], some mp_9⟩
/-- Yard.worth_of -/
def d10 : Df := ⟨dd ("Yard", some "worth_of") "worth_of" "Yard.worth_of" (inClass (top 9) 4) [] [], ["self", "heap"], ["self", "heap"], some mp_10⟩
/-- Yard.whole -/
def d11 : Df := ⟨dd ("Yard", some "whole") "whole" "Yard.whole" (inClass (top 9) 5) [] [], ["self"], ["self"], some mp_11⟩
/-- want_heap -/
def d18 : Df := ⟨dd ("want_heap", none) "want_heap" "want_heap" (top 10) [] [], ["yard", "heap"], ["yard", "heap"], some mp_18⟩
/-- want_list -/
def d20 : Df := ⟨dd ("want_list", none) "want_list" "want_list" (top 11) [] [], ["things"], ["things"], some mp_20⟩
/-- want_each -/
def d21 : Df := ⟨dd ("want_each", none) "want_each" "want_each" (top 12) [] [], ["rights"], ["rights"], some mp_21⟩
/-- are_tops -/
def d37 : Df := ⟨dd ("are_tops", none) "are_tops" "are_tops" (top 15) [] [], ["tops", "top"], ["tops"], some mp_37⟩
/-- Lots.__init__ -/
def d38 : Df := ⟨dd ("Lots", some "__init__") "__init__" "Lots.__init__" (inClass (top 16) 0) [] [], ["self", "tops", "lots", "lot"], ["self", "tops", "lots"], some mp_38⟩
/-- Lots.tops -/
def d39 : Df := ⟨dd ("Lots", some "tops") "tops" "Lots.tops" (inClass (top 16) 1) [] [], ["self"], ["self"], some mp_39⟩
/-- Lots.lots -/
def d40 : Df := ⟨dd ("Lots", some "lots") "lots" "Lots.lots" (inClass (top 16) 2) [] [], ["self"], ["self"], some mp_40⟩
/-- Lots.worth_of -/
def d41 : Df := ⟨dd ("Lots", some "worth_of") "worth_of" "Lots.worth_of" (inClass (top 16) 3) [] [], ["self", "heap", "counts", "thing", "count", "top"], ["self", "heap"], some mp_41⟩
/-- Lots.__repr__ -/
def d44 : Df := ⟨dd ("Lots", some "__repr__") "__repr__" "Lots.__repr__" (inClass (top 16) 6) [] [], ["self"], ["self"], some mp_44⟩
/-- _law_pot -/
def d200 : Df := ⟨dd ("_law_pot", none) "_law_pot" "_law_pot" (top 18) [] [], ["script", "k", "cell"], ["script", "k"], some ml_200⟩
/-- _law_take -/
def d201 : Df := ⟨dd ("_law_take", none) "_law_take" "_law_take" (top 19) [] [], ["pot", "many", "digit"], ["pot", "many"], some ml_201⟩
/-- _law_shuffled -/
def d203 : Df := ⟨dd ("_law_shuffled", none) "_law_shuffled" "_law_shuffled" (top 20) [] [], ["pot", "some", "pool", "found", "k"], ["pot", "some"], some ml_203⟩
/-- _law_heaps -/
def m212 : Fn := ⟨8, 2, [.iff (.cmp .lt (.var 1) (.cst (.int 7))) [.asg (.nm 2) (.fr (.disp [.fr (.disp [])])),
  .for_ (.nm 4) (.rng [.var 1]) [.asg (.nm 2) (.fr (.cat (.var 2) (.fr (.comp (.nm 7) (.val (.var 2)) [] (.fr (.cat (.var 7) (.fr (.disp [.var 4]))))))))],
  .ret (.var 2)] [],
  .asg (.nm 2) (.nw (.disp [.fr (.rng [.var 1])])),
  .for_ (.nm 3) (.rng [.call .fz 201 [.var 0, .cst (.int 12)] []]) [.asg (.nm 5) (.bin .add (.cst (.int 1)) (.call .fz 201 [.var 0, .cst (.int 4)] [])),
  .expr (.bm .append (.var 2) [.fr (.comp (.nm 6) (.rng [.var 1]) [.cmp .lt (.call .fz 201 [.var 0, .var 5] []) (.cst (.int 1))] (.var 6))])],
  .ret (.var 2)]⟩
def d212 : Df := ⟨dd ("_law_heaps", none) "_law_heaps" "_law_heaps" (top 21) [] [], ["pot", "many", "found", "turn", "k", "sparse", "thing", "heap"], ["pot", "many"], some m212⟩
/-- _law_args -/
def m301 : Fn := ⟨4, 1, [.asg (.nm 1) (.fr (.comp (.nm 3) (.rng [.call .fz 201 [.var 0, .cst (.int 9)] []]) [] (.idx (.fr (.disp [.cst (.int 0), .cst (.int 1), .cst (.int 2), .call .fz 201 [.var 0, .cst (.int 25)] []])) (.call .fz 201 [.var 0, .cst (.int 4)] [])))),
  .asg (.nm 2) (.bin .mul (.idx (.fr (.disp [.cst (.int 24), .call .fz 201 [.var 0, .cst (.int 25)] [], .call .fz 201 [.var 0, .cst (.int 7)] []])) (.call .fz 201 [.var 0, .cst (.int 3)] [])) (.bi .int [.cmp .ne (.var 1) (.fr (.disp []))])),
  .ret (.tup [.var 1, .fr (.comp (.nm 3) (.rng [.var 2]) [] (.call .fz 201 [.var 0, .bi .len [.var 1]] []))])]⟩
def d301 : Df := ⟨dd ("_law_args", none) "_law_args" "_law_args" (top 22) [] [], ["pot", "tops", "many", "k"], ["pot"], some m301⟩
/-- _law_counted -/
def m302 : Fn := ⟨6, 3, [.asg (.nm 3) (.nw (.listOf (.var 0))),
  .asg (.nm 4) (.cst (.int 0)),
  .for_ (.nm 5) (.val (.var 2)) [.iff (.cmp .gt (.idx (.var 3) (.idx (.var 1) (.var 5))) (.cst (.int 0))) [.asg (.ix (.var 3) (.idx (.var 1) (.var 5))) (.bin .sub (.idx (.var 3) (.idx (.var 1) (.var 5))) (.cst (.int 1))),
  .asg (.nm 4) (.bin .add (.var 4) (.cst (.int 1)))] []],
  .ret (.var 4)]⟩
def d302 : Df := ⟨dd ("_law_counted", none) "_law_counted" "_law_counted" (top 23) [] [], ["tops", "lots", "heap", "room", "found", "thing"], ["tops", "lots", "heap"], some m302⟩
/-- _law_is -/
def d205 : Df := ⟨dd ("_law_is", none) "_law_is" "_law_is" (top 24) [] [], ["told", "due"], ["told", "due"], some ml_205⟩
/-- _law_no_heaps -/
def m303 : Fn := ⟨3, 1, [.asg (.nm 1) (.fr (.disp [.cst (.non), .cst (.int 0), .cst (.str ""), .tup [], .tup [.cst (.int 0)], .fz (.dnw), .fz (.ddi [.inl 0] [.cst (.int 0)]), .cst (.bl true), .fr (.disp [.var 0]), .fr (.disp [.neg (.cst (.int 1))]), .fr (.disp [.cst (.bl true)]), .fr (.disp [.cst (.bl false)]), .fr (.disp [.cst (.str "0")]), .fr (.disp [.fr (.disp [.cst (.int 0)])]), .fr (.disp [.cst (.non)]), .fr (.disp [.bin .pow (.cst (.int 10)) (.cst (.int 29))])])),
  .asg (.nm 1) (.fr (.cat (.fr (.cat (.var 1) (.fr (.disp [.cst (.bl false)])))) (.fr (.slc (.fr (.comp (.nm 2) (.rng [.var 0]) [] (.fr (.disp [.var 2, .var 2])))) none (some (.cst (.int 1))))))),
  .ret (.fr (.cat (.var 1) (.fr (.rep (.fr (.disp [.fr (.cat (.fr (.rng [.var 0])) (.fr (.disp [.bin .sub (.var 0) (.cst (.int 1))])))])) (.bi .int [.cmp .gt (.var 0) (.cst (.int 0))])))))]⟩
def d303 : Df := ⟨dd ("_law_no_heaps", none) "_law_no_heaps" "_law_no_heaps" (top 25) [] [], ["many", "some", "thing"], ["many"], some m303⟩
/-- _law_refused -/
def m304 : Fn := ⟨4, 2, [.asg (.nm 2) (.cst (.bl false)),
  .tr 0 3 (.expr (.meth .fz 3 (.var 0) [.var 1] [])) 2 (.and_ (.isi (xo 2)) (.and_ (.isi (xt "ValueError")) (.not_ (.isi (xo 1))))),
  .ret (.var 2)]⟩
def d304 : Df := ⟨dd ("_law_refused", none) "_law_refused" "_law_refused" (top 26) [] [], ["yard", "thing", "told", "e"], ["yard", "thing"], some m304⟩
/-- _law_right -/
def m305 : Fn := ⟨10, 3, [.asg (.tp [(.nm 5), (.nm 6)]) (.var 2),
  .asg (.nm 3) (.bi .len [.var 6]),
  .iff (.or_ (.not_ (.call .fz 205 [.meth .fz 1 (.var 1) [] [], .var 3] [])) (.or_ (.cmp .ne (.meth .fz 2 (.var 1) [] []) (.fr (.rng [.var 3]))) (.cmp .ne (.meth .fz 3 (.var 1) [.fr (.disp [])] []) (.cst (.int 0))))) [.ret (.cst (.bl false))] [],
  .iff (.or_ (.cmp .ne (.meth .fz 14 (.var 1) [] []) (.var 5)) (.or_ (.cmp .ne (.meth .fz 15 (.var 1) [] []) (.var 6)) (.not_ (.call .fz 205 [.meth .fz 5 (.var 1) [] [], .call .fz 302 [.var 5, .var 6, .meth .fz 2 (.var 1) [] []] []] [])))) [.ret (.cst (.bl false))] [],
  .for_ (.nm 4) (.val (.call .fz 212 [.var 0, .var 3] [])) [.asg (.nm 7) (.call .fz 203 [.var 0, .var 4] []),
  .asg (.nm 8) (.fr (.listOf (.var 7))),
  .iff (.or_ (.not_ (.call .fz 205 [.meth .fz 3 (.var 1) [.var 7] [], .call .fz 302 [.var 5, .var 6, .var 4] []] [])) (.cmp .ne (.var 7) (.var 8))) [.ret (.cst (.bl false))] []],
  .ret (.bi .all [.fr (.comp (.nm 9) (.val (.call .fz 303 [.var 3] [])) [] (.call .fz 304 [.var 1, .var 9] []))])]⟩
def d305 : Df := ⟨dd ("_law_right", none) "_law_right" "_law_right" (top 27) [] [], ["pot", "yard", "args", "many", "heap", "tops", "lots", "asked", "kept", "thing"], ["pot", "yard", "args"], some m305⟩
/-- law -/
def m250 : Fn := ⟨6, 1, [.asg (.nm 1) (.tup [.mk .fz 3 [.fr (.disp []), .fr (.disp [])] [], .tup [.fr (.disp []), .fr (.disp [])]]),
  .for_ (.nm 2) (.rng [.bi .max2 [.cst (.int 2), .bi .min2 [.bi .len [.var 0], .cst (.int 6)]]]) [.asg (.nm 3) (.call .nw 200 [.var 0, .var 2] []),
  .asg (.nm 4) (.call .fz 301 [.var 3] []),
  .asg (.nm 5) (.mk .fz 3 [.fr (.listOf (.idx (.var 4) (.cst (.int 0)))), .fr (.listOf (.idx (.var 4) (.cst (.int 1))))] []),
  .iff (.or_ (.not_ (.call .fz 305 [.var 3, .var 5, .var 4] [])) (.not_ (.call .fz 305 [.var 3, .idx (.var 1) (.cst (.int 0)), .idx (.var 1) (.cst (.int 1))] []))) [.ret (.cst (.bl false))] [],
  .asg (.nm 1) (.tup [.var 5, .var 4])],
  .ret (.cmp .eq (.bi .asRep [.meth .fz 12 (.mk .fz 3 [.fr (.disp []), .fr (.disp [])] []) [] []]) (.cst (.str "Lots([], [])")))]⟩
def d250 : Df := ⟨dd ("law", none) "law" "law" (top 28) [] [], ["script", "elder", "k", "pot", "args", "yard"], ["script"], some m250⟩
def ds : List (Nat × Df) := [(0, d0), (1, d1), (6, d6), (7, d7), (8, d8), (9, d9), (10, d10), (11, d11), (18, d18), (20, d20), (21, d21), (37, d37), (38, d38), (39, d39), (40, d40), (41, d41), (44, d44), (200, d200), (201, d201), (203, d203), (205, d205), (212, d212), (250, d250), (301, d301), (302, d302), (303, d303), (304, d304), (305, d305)]
def T : Tab := ⟨[("is_number", .fn 0), ("is_heap", .fn 1), ("want_heap", .fn 18), ("want_list", .fn 20), ("want_each", .fn 21), ("are_tops", .fn 37), ("_law_pot", .fn 200), ("_law_take", .fn 201), ("_law_shuffled", .fn 203), ("_law_heaps", .fn 212), ("_law_args", .fn 301), ("_law_counted", .fn 302), ("_law_is", .fn 205), ("_law_no_heaps", .fn 303), ("_law_refused", .fn 304), ("_law_right", .fn 305), ("law", .fn 250), ("Yard", .cls 0), ("Lots", .cls 3), ("MOST_THINGS", .int 24), ("MOST_LOTS", .int 8)], ["ValueError", "abs", "all", "bool", "divmod", "int", "isinstance", "len", "list", "max", "min", "range", "repr", "set", "sum", "zip"], [⟨0, 2, [], []⟩, ⟨18, 2, [], []⟩, ⟨10, 2, [], []⟩, ⟨41, 2, [], []⟩, ⟨8, 1, [], []⟩, ⟨7, 1, [], []⟩, ⟨1, 2, [], []⟩, ⟨37, 1, [], []⟩, ⟨20, 1, [], []⟩, ⟨21, 1, [], []⟩, ⟨6, 2, [], [.int 0]⟩, ⟨201, 2, [], []⟩, ⟨9, 2, [], []⟩, ⟨205, 2, [], []⟩, ⟨39, 1, [], []⟩, ⟨40, 1, [], []⟩, ⟨11, 1, [], []⟩, ⟨302, 3, [], []⟩, ⟨212, 2, [], []⟩, ⟨203, 2, [], []⟩, ⟨303, 1, [], []⟩, ⟨304, 2, [], []⟩, ⟨38, 3, [], []⟩, ⟨200, 2, [], []⟩, ⟨301, 1, [], []⟩, ⟨305, 3, [], []⟩, ⟨44, 1, [], []⟩], [((0, 0), 6), ((3, 0), 38), ((0, 1), 7), ((3, 1), 7), ((0, 2), 8), ((3, 2), 8), ((0, 3), 9), ((3, 3), 9), ((0, 4), 10), ((3, 4), 41), ((0, 5), 11), ((3, 5), 11), ((3, 12), 44), ((3, 14), 39), ((3, 15), 40)], ((["__init__", "many", "things", "worth", "worth_of", "whole", "sort_word", "made_of", "__eq__", "__len__", "places", "pairs", "__repr__", "rows", "tops", "lots", "seats", "says", "anew", "yard"] : List Str) ++ (["ask", "play", "told", "yes", "no", "unasked", "asked", "answers", "back", "copied", "of", "away", "granted", "old", "new", "one", "other", "hear", "askers", "heard"] : List Str) ++ (["is_open_to", "box", "say", "log", "want_kept", "new_yard", "new_part", "told_row"] : List Str)), [(3, 38)], [((0, "__init__"), 6)], ["numbers", "nested", "own_places", "own_pairs", "own_rows", "own_tops", "own_lots", "own_seats", "own_yard", "truths", "own_of", "own_away", "own_granted", "olds", "first", "second", "own_box", "own_asks", "yards", "boxes", "answered", "own_log"], [("NoHeap", 2), ("NoYard", 1), ("YardError", 0)], [2]⟩
def fa : List (Str × Option Str) := ([("is_number", none), ("is_heap", none)] : List (Str × Option Str)) ++ (List.replicate 4 ("", none) : List (Str × Option Str)) ++ ([("Yard", some "__init__"), ("Yard", some "many"), ("Yard", some "things"), ("Yard", some "worth"), ("Yard", some "worth_of"), ("Yard", some "whole")] : List (Str × Option Str)) ++ (List.replicate 6 ("", none) : List (Str × Option Str)) ++ ([("want_heap", none)] : List (Str × Option Str)) ++ (List.replicate 1 ("", none) : List (Str × Option Str)) ++ ([("want_list", none), ("want_each", none)] : List (Str × Option Str)) ++ (List.replicate 15 ("", none) : List (Str × Option Str)) ++ ([("are_tops", none), ("Lots", some "__init__"), ("Lots", some "tops"), ("Lots", some "lots"), ("Lots", some "worth_of")] : List (Str × Option Str)) ++ (List.replicate 2 ("", none) : List (Str × Option Str)) ++ ([("Lots", some "__repr__")] : List (Str × Option Str)) ++ (List.replicate 155 ("", none) : List (Str × Option Str)) ++ ([("_law_pot", none), ("_law_take", none)] : List (Str × Option Str)) ++ (List.replicate 1 ("", none) : List (Str × Option Str)) ++ ([("_law_shuffled", none)] : List (Str × Option Str)) ++ (List.replicate 1 ("", none) : List (Str × Option Str)) ++ ([("_law_is", none)] : List (Str × Option Str)) ++ (List.replicate 6 ("", none) : List (Str × Option Str)) ++ ([("_law_heaps", none)] : List (Str × Option Str)) ++ (List.replicate 37 ("", none) : List (Str × Option Str)) ++ ([("law", none)] : List (Str × Option Str)) ++ (List.replicate 50 ("", none) : List (Str × Option Str)) ++ ([("_law_args", none), ("_law_counted", none), ("_law_no_heaps", none), ("_law_refused", none), ("_law_right", none)] : List (Str × Option Str))
def L : Lay := ⟨["Yard", "Yard", "Yard", "Lots"], fa, ["numbers", "nested", "own_places", "own_pairs", "own_rows", "own_tops", "own_lots", "own_seats", "own_yard", "truths", "own_of", "own_away", "own_granted", "olds", "first", "second", "own_box", "own_asks", "yards", "boxes", "answered", "own_log"], [(.inl "NoneType", .ty "bool", false), (.inl "bool", .ty "bool", true), (.inl "int", .ty "bool", false), (.inl "str", .ty "bool", false), (.inl "list", .ty "bool", false), (.inl "tuple", .ty "bool", false), (.inl "dict", .ty "bool", false), (.inr 0, .ty "bool", false), (.inr 3, .ty "bool", false), (.inl "NoneType", .ty "int", false), (.inl "bool", .ty "int", true), (.inl "int", .ty "int", true), (.inl "str", .ty "int", false), (.inl "list", .ty "int", false), (.inl "tuple", .ty "int", false), (.inl "dict", .ty "int", false), (.inr 0, .ty "int", false), (.inr 3, .ty "int", false), (.inl "NoneType", .ty "list", false), (.inl "bool", .ty "list", false), (.inl "int", .ty "list", false), (.inl "str", .ty "list", false), (.inl "list", .ty "list", true), (.inl "tuple", .ty "list", false), (.inl "dict", .ty "list", false), (.inr 0, .ty "list", false), (.inr 3, .ty "list", false)], ["YardError", "NoYard", "NoHeap", "Yard", "Yard", "Yard", "Yard", "Yard", "Yard", "Yard", "Yard", "Yard"], [(2, .own 2, true), (2, .own 1, false), (2, .ty "ValueError", true)], [(2, 0, true)], T⟩
theorem hs : layS L = true := by kernel_rfl
theorem hd : dfB L ds = true := by kernel_rfl
theorem sh (K : PySem.W.Frag) (c : SaysM L ds K) : ∀ s ∈ L.T.sigs, ShOk K (L.G K) (psL ds) s := by
  intro s m
  change s ∈ T.sigs at m
  simp only [T, List.mem_cons, List.not_mem_nil, or_false] at m
  rcases m with rfl | rfl | rfl | rfl | rfl | rfl | rfl | rfl | rfl | rfl | rfl | rfl | rfl | rfl | rfl | rfl | rfl | rfl | rfl | rfl | rfl | rfl | rfl | rfl | rfl | rfl | rfl
  · obtain ⟨fd, F⟩ := c.at_ hd 0 (e := d0) rfl
    exact sh_all F rfl 2 rfl (fun _ _ _ _ _ _ us hl => match us, hl with | [_, _], _ => rfl)
  · obtain ⟨fd, F⟩ := c.at_ hd 18 (e := d18) rfl
    exact sh_all F rfl 2 rfl (fun _ _ _ _ _ _ us hl => match us, hl with | [_, _], _ => rfl)
  · obtain ⟨fd, F⟩ := c.at_ hd 10 (e := d10) rfl
    exact sh_all F rfl 2 rfl (fun _ _ _ _ _ _ us hl => match us, hl with | [_, _], _ => rfl)
  · obtain ⟨fd, F⟩ := c.at_ hd 41 (e := d41) rfl
    exact sh_all F rfl 2 rfl (fun _ _ _ _ _ _ us hl => match us, hl with | [_, _], _ => rfl)
  · obtain ⟨fd, F⟩ := c.at_ hd 8 (e := d8) rfl
    exact sh_all F rfl 1 rfl (fun _ _ _ _ _ _ us hl => match us, hl with | [_], _ => rfl)
  · obtain ⟨fd, F⟩ := c.at_ hd 7 (e := d7) rfl
    exact sh_all F rfl 1 rfl (fun _ _ _ _ _ _ us hl => match us, hl with | [_], _ => rfl)
  · obtain ⟨fd, F⟩ := c.at_ hd 1 (e := d1) rfl
    exact sh_all F rfl 2 rfl (fun _ _ _ _ _ _ us hl => match us, hl with | [_, _], _ => rfl)
  · obtain ⟨fd, F⟩ := c.at_ hd 37 (e := d37) rfl
    exact sh_all F rfl 1 rfl (fun _ _ _ _ _ _ us hl => match us, hl with | [_], _ => rfl)
  · obtain ⟨fd, F⟩ := c.at_ hd 20 (e := d20) rfl
    exact sh_all F rfl 1 rfl (fun _ _ _ _ _ _ us hl => match us, hl with | [_], _ => rfl)
  · obtain ⟨fd, F⟩ := c.at_ hd 21 (e := d21) rfl
    exact sh_all F rfl 1 rfl (fun _ _ _ _ _ _ us hl => match us, hl with | [_], _ => rfl)
  · obtain ⟨fd, F⟩ := c.at_ hd 6 (e := d6) rfl
    exact sh_kw0 F rfl 2 [.int 0] (fun h => nomatch h) rfl (fun U => by simp [He.DefD.kws, d6, dd, He.Dv.v, RepTs, RepT]) (fun _ _ _ _ _ _ us ks hl hk => match us, hl, ks, hk with | [_, _], _, [_], _ => ⟨_, _, _, _, _, _, rfl, rfl, rfl⟩)
  · obtain ⟨fd, F⟩ := c.at_ hd 201 (e := d201) rfl
    exact sh_all F rfl 2 rfl (fun _ _ _ _ _ _ us hl => match us, hl with | [_, _], _ => rfl)
  · obtain ⟨fd, F⟩ := c.at_ hd 9 (e := d9) rfl
    exact sh_all F rfl 2 rfl (fun _ _ _ _ _ _ us hl => match us, hl with | [_, _], _ => rfl)
  · obtain ⟨fd, F⟩ := c.at_ hd 205 (e := d205) rfl
    exact sh_all F rfl 2 rfl (fun _ _ _ _ _ _ us hl => match us, hl with | [_, _], _ => rfl)
  · obtain ⟨fd, F⟩ := c.at_ hd 39 (e := d39) rfl
    exact sh_all F rfl 1 rfl (fun _ _ _ _ _ _ us hl => match us, hl with | [_], _ => rfl)
  · obtain ⟨fd, F⟩ := c.at_ hd 40 (e := d40) rfl
    exact sh_all F rfl 1 rfl (fun _ _ _ _ _ _ us hl => match us, hl with | [_], _ => rfl)
  · obtain ⟨fd, F⟩ := c.at_ hd 11 (e := d11) rfl
    exact sh_all F rfl 1 rfl (fun _ _ _ _ _ _ us hl => match us, hl with | [_], _ => rfl)
  · obtain ⟨fd, F⟩ := c.at_ hd 302 (e := d302) rfl
    exact sh_all F rfl 3 rfl (fun _ _ _ _ _ _ us hl => match us, hl with | [_, _, _], _ => rfl)
  · obtain ⟨fd, F⟩ := c.at_ hd 212 (e := d212) rfl
    exact sh_all F rfl 2 rfl (fun _ _ _ _ _ _ us hl => match us, hl with | [_, _], _ => rfl)
  · obtain ⟨fd, F⟩ := c.at_ hd 203 (e := d203) rfl
    exact sh_all F rfl 2 rfl (fun _ _ _ _ _ _ us hl => match us, hl with | [_, _], _ => rfl)
  · obtain ⟨fd, F⟩ := c.at_ hd 303 (e := d303) rfl
    exact sh_all F rfl 1 rfl (fun _ _ _ _ _ _ us hl => match us, hl with | [_], _ => rfl)
  · obtain ⟨fd, F⟩ := c.at_ hd 304 (e := d304) rfl
    exact sh_all F rfl 2 rfl (fun _ _ _ _ _ _ us hl => match us, hl with | [_, _], _ => rfl)
  · obtain ⟨fd, F⟩ := c.at_ hd 38 (e := d38) rfl
    exact sh_all F rfl 3 rfl (fun _ _ _ _ _ _ us hl => match us, hl with | [_, _, _], _ => rfl)
  · obtain ⟨fd, F⟩ := c.at_ hd 200 (e := d200) rfl
    exact sh_all F rfl 2 rfl (fun _ _ _ _ _ _ us hl => match us, hl with | [_, _], _ => rfl)
  · obtain ⟨fd, F⟩ := c.at_ hd 301 (e := d301) rfl
    exact sh_all F rfl 1 rfl (fun _ _ _ _ _ _ us hl => match us, hl with | [_], _ => rfl)
  · obtain ⟨fd, F⟩ := c.at_ hd 305 (e := d305) rfl
    exact sh_all F rfl 3 rfl (fun _ _ _ _ _ _ us hl => match us, hl with | [_, _, _], _ => rfl)
  · obtain ⟨fd, F⟩ := c.at_ hd 44 (e := d44) rfl
    exact sh_all F rfl 1 rfl (fun _ _ _ _ _ _ us hl => match us, hl with | [_], _ => rfl)
def loose : List PySem.Str := (["YardError", "NoYard", "NoHeap", "MOST_THINGS", "is_number", "is_heap", "Yard", "want_heap", "want_list", "want_each", "MOST_LOTS", "are_tops", "Lots", "_law_pot", "_law_take", "_law_shuffled", "_law_heaps", "_law_args", "_law_counted", "_law_is", "_law_no_heaps", "_law_refused", "_law_right"] : List PySem.Str)
abbrev R : PySem.W.OpenRow := PySem.W.OpenLaw.row PySem.Challenge.rw_noaslong_k21_lots_counted
abbrev hk : PySem.W.Hook := hookM 4 L ds
def ob (s : PySem.W.SharedT) : He.AlD := obsMG 4 L ds (HandSHeadRun.getT s)
theorem ob_eq (s : PySem.W.SharedT) : ob s = hk.obs s.abs := obsMG_eq (HandSHeadRun.getT_eq s)
theorem run (w : World) : HandSHeadRun.RunEq R (PySem.W.view R.prog [28]) hk ob 30000 loose w := by
  intro os
  kernel_rfl
end Ev.K21
end

section
set_option Elab.async false
set_option linter.all false
set_option maxRecDepth 20000
namespace Ev
open PySem PyProof.Rows L2
local macro_rules | `(tactic| walk_at "ev") => `(tactic| simp only [y_bind, y_k, y_ok, y_exc, y_noX, x_sq_nx, x_sq_rt, x_sq_bk, x_sq_ct, x_rq_rt, x_rq_nx, x_cons, x_nil, yk_nx, yk_rt, yk_nE, yk_asg, x_expr, x_ret, x_retN, x_asg, yk_mas, x_mas, yk_if1, yk_if0, x_iff, x_for, x_forS_ds, x_forS_cell, x_cmpS_ds, x_cmpS_cell, x_whil, x_rai, w_tr, x_pass, x_brk, x_cont, yk_set, yk_aug, x_aug, x_frv, yk_nu, yk_ax5, yk_ax4, yk_ax3, yk_ax2, yk_ax1, x_augIx, yk_fa, x_fasg, x_var, x_cst, yk_tup, x_tup, yk_fr, x_fr, yk_nw, x_nw, x_dnw, x_ddi, x_fz, yk_fz, x_fm, x_js, yk_js, x_j0, x_j1, v_asRep, yk_b1, x_bin, x_neg, x_negD, yk_c1, x_cmp, yk_and1, yk_and0, yk_or1, yk_or0, x_and, x_or, yk_d21, yk_d20, yk_d1b, yk_d1, x_cmp2, yk_not, x_not, yk_ife1, yk_ife0, x_ife, yk_fld, x_fld, yk_i1, x_idx, x_bi, x_bm, yk_isi, x_isi, yk_call, x_call, yk_cm, x_meth, x_mk, x_nq, yk_ta1, yk_ta0, yk_to1, yk_to0, x_tand, x_tor, yk_tn, x_tnot, x_tq, x_tqi, x_tqn, x_tcmp, x_tcmp2, x_tisi, x_tcall, x_tmeth, x_tbi, x_tvar, x_tidx, x_tife, x_tfld, x_tbm, yk_ts1, yk_ts0, x_ts_nil, x_ts_cons, x_es_nil, yk_cons, yk_es, x_es_cons, yk_disp, x_disp, yk_cat1, x_cat, yk_rep1, x_rep, yk_slc3, yk_slc2, yk_slc1, x_slc, yk_rev, x_rev, yk_lof, x_listOf, yk_kof, x_keysOf, yk_rng, x_frng, yk_srt, x_sorted, x_comp, yk_src, x_ival, yk_irng, x_irng, yk_ienu, x_ienu, yk_iz2, yk_iz1, x_izip, x_o_none, x_oq, x_o_some, x_nm, x_tp, yk_eu, yk_ix2, yk_ix1, x_ix, x_ts0, yk_at, x_ts1, x_bodyF, x_bodyW, x_condW, x_bodyC, x_cq, yk_some, x_cq21, x_cq20,
  v_lt, v_le, v_gt, v_ge, v_is, v_isn, v_in, v_nin, v_add, v_sub, v_bxor, v_band, v_bor, v_tru, v_len, v_lenT, v_lenU, v_lenA, v_abs, v_max2, v_min2, v_intI, v_intB, v_bitlen, v_all, v_any, v_sum, v_lenset, v_idxT, v_idxU, v_idxA, v_keyI, v_keyS, v_fldT, v_clsT, v_tyI, v_tyB, v_tyN, v_tyS, v_tyT, v_tyU, v_tyD, v_tyO, v_itsT, v_srcT, v_srcU, v_allT, v_allT0, v_lstT, v_seqT, v_seqU, alT_map, intsT_map, blsT_map,
  R.bind_ok, R.bind_exc, R.bind_bad, R.noX_ok, R.noX_bad, ofOpt_some, ofOpt_none, Option.map_some, Option.map_none, Option.bind_some, Option.bind_none, mkE,
  List.getElem?_cons_zero, List.getElem?_cons_succ, List.set_cons_zero, List.set_cons_succ, List.map_cons, List.map_nil, List.append_nil, List.nil_append, List.cons_append, List.length_cons, List.length_nil, List.length_append, List.length_set, List.length_map, List.append_assoc, List.set_set, Nat.zero_add, Nat.reduceAdd, Nat.reduceSub, Nat.reduceLeDiff, Nat.reduceLT, ↓reduceIte, decide_eq_true_eq, Bool.not_eq_true', decide_eq_false_iff_not, Bool.not_true, Bool.not_false, Bool.false_eq_true, g_app0, g_app, g_set0, g_set, s_app0, s_app, s_set0, s_set, tgVars, tgsVars, wipeE,
  v_mod, v_fdiv, v_divmod, v_mul, v_pow, Int.reduceLT, Int.reduceLE, Int.reduceNeg, Int.reducePow, or_true, true_or, yk_ddi, x_tp, x_tl, v_rng1n, v_eqi, v_nei, Nat.le_refl, l_len, l_tru, l_its, l_lst, l_seq, l_src, l_cls, l_ty, l_fld, l_idx, l_put, l_putF, l_in, l_keys, l_app, l_clear, l_reverse, l_popAt, l_pop, l_bm, l_ty1, l_ty2, l_ty3, l_ty4, l_ty5, l_ty6, l_ty7, l_ty8, l_mq, l_kq, atI_0, atI_1, atI_2, atI_last, List.length_append, eq_self, and_self, and_true, true_and, fPut, Nat.reduceEqDiff, List.lookup_cons, List.lookup_nil, Nat.reduceBEq])
local macro_rules | `(tactic| wp_walk using $ts,*) => `(tactic| simp only [y_bind, y_k, y_ok, y_exc, y_noX, x_sq_nx, x_sq_rt, x_sq_bk, x_sq_ct, x_rq_rt, x_rq_nx, x_cons, x_nil, yk_nx, yk_rt, yk_nE, yk_asg, x_expr, x_ret, x_retN, x_asg, yk_mas, x_mas, yk_if1, yk_if0, x_iff, x_for, x_forS_ds, x_forS_cell, x_cmpS_ds, x_cmpS_cell, x_whil, x_rai, w_tr, x_pass, x_brk, x_cont, yk_set, yk_aug, x_aug, x_frv, yk_nu, yk_ax5, yk_ax4, yk_ax3, yk_ax2, yk_ax1, x_augIx, yk_fa, x_fasg, x_var, x_cst, yk_tup, x_tup, yk_fr, x_fr, yk_nw, x_nw, x_dnw, x_ddi, x_fz, yk_fz, x_fm, x_js, yk_js, x_j0, x_j1, v_asRep, yk_b1, x_bin, x_neg, x_negD, yk_c1, x_cmp, yk_and1, yk_and0, yk_or1, yk_or0, x_and, x_or, yk_d21, yk_d20, yk_d1b, yk_d1, x_cmp2, yk_not, x_not, yk_ife1, yk_ife0, x_ife, yk_fld, x_fld, yk_i1, x_idx, x_bi, x_bm, yk_isi, x_isi, yk_call, x_call, yk_cm, x_meth, x_mk, x_nq, yk_ta1, yk_ta0, yk_to1, yk_to0, x_tand, x_tor, yk_tn, x_tnot, x_tq, x_tqi, x_tqn, x_tcmp, x_tcmp2, x_tisi, x_tcall, x_tmeth, x_tbi, x_tvar, x_tidx, x_tife, x_tfld, x_tbm, yk_ts1, yk_ts0, x_ts_nil, x_ts_cons, x_es_nil, yk_cons, yk_es, x_es_cons, yk_disp, x_disp, yk_cat1, x_cat, yk_rep1, x_rep, yk_slc3, yk_slc2, yk_slc1, x_slc, yk_rev, x_rev, yk_lof, x_listOf, yk_kof, x_keysOf, yk_rng, x_frng, yk_srt, x_sorted, x_comp, yk_src, x_ival, yk_irng, x_irng, yk_ienu, x_ienu, yk_iz2, yk_iz1, x_izip, x_o_none, x_oq, x_o_some, x_nm, x_tp, yk_eu, yk_ix2, yk_ix1, x_ix, x_ts0, yk_at, x_ts1, x_bodyF, x_bodyW, x_condW, x_bodyC, x_cq, yk_some, x_cq21, x_cq20,
  v_lt, v_le, v_gt, v_ge, v_is, v_isn, v_in, v_nin, v_add, v_sub, v_bxor, v_band, v_bor, v_tru, v_len, v_lenT, v_lenU, v_lenA, v_abs, v_max2, v_min2, v_intI, v_intB, v_bitlen, v_all, v_any, v_sum, v_lenset, v_idxT, v_idxU, v_idxA, v_keyI, v_keyS, v_fldT, v_clsT, v_tyI, v_tyB, v_tyN, v_tyS, v_tyT, v_tyU, v_tyD, v_tyO, v_itsT, v_srcT, v_srcU, v_allT, v_allT0, v_lstT, v_seqT, v_seqU, alT_map, intsT_map, blsT_map,
  R.bind_ok, R.bind_exc, R.bind_bad, R.noX_ok, R.noX_bad, ofOpt_some, ofOpt_none, Option.map_some, Option.map_none, Option.bind_some, Option.bind_none, mkE,
  List.getElem?_cons_zero, List.getElem?_cons_succ, List.set_cons_zero, List.set_cons_succ, List.map_cons, List.map_nil, List.append_nil, List.nil_append, List.cons_append, List.length_cons, List.length_nil, List.length_append, List.length_set, List.length_map, List.append_assoc, List.set_set, Nat.zero_add, Nat.reduceAdd, Nat.reduceSub, Nat.reduceLeDiff, Nat.reduceLT, ↓reduceIte, decide_eq_true_eq, Bool.not_eq_true', decide_eq_false_iff_not, Bool.not_true, Bool.not_false, Bool.false_eq_true, g_app0, g_app, g_set0, g_set, s_app0, s_app, s_set0, s_set, tgVars, tgsVars, wipeE,
  v_mod, v_fdiv, v_divmod, v_mul, v_pow, Int.reduceLT, Int.reduceLE, Int.reduceNeg, Int.reducePow, or_true, true_or, yk_ddi, x_tp, x_tl, v_rng1n, v_eqi, v_nei, Nat.le_refl, l_len, l_tru, l_its, l_lst, l_seq, l_src, l_cls, l_ty, l_fld, l_idx, l_put, l_putF, l_in, l_keys, l_app, l_clear, l_reverse, l_popAt, l_pop, l_bm, l_ty1, l_ty2, l_ty3, l_ty4, l_ty5, l_ty6, l_ty7, l_ty8, l_mq, l_kq, atI_0, atI_1, atI_2, atI_last, List.length_append, eq_self, and_self, and_true, true_and, fPut, Nat.reduceEqDiff, List.lookup_cons, List.lookup_nil, Nat.reduceBEq, $[$ts:term],*])
section
variable {P : Prg} {fns : Nat → Option Fn} {S : Store} {n k : Nat} {Q : D → Store → Prop} {E : Exn → Store → Prop}
/-- what the law needs -/
structure L21 (P : Prg) (fns : Nat → Option Fn) : Prop extends Lts P fns where
  g200 : fns 200 = some ml_200
  g201 : fns 201 = some ml_201
  g203 : fns 203 = some ml_203
  g205 : fns 205 = some ml_205
  g212 : fns 212 = some K21.m212
  f44 : fns 44 = some mp_44
  g301 : fns 301 = some K21.m301
  g302 : fns 302 = some K21.m302
  g303 : fns 303 = some K21.m303
  g304 : fns 304 = some K21.m304
  g305 : fns 305 = some K21.m305
  g250 : fns 250 = some K21.m250
  m12 : P.meth 3 12 = some 44
  m14 : P.meth 3 14 = some 39
  m15 : P.meth 3 15 = some 40
  x20 : P.xmat 2 0 = some true
  i22 : P.xisa 2 (xo 2) = some true
  i2v : P.xisa 2 (xt "ValueError") = some true
  i21 : P.xisa 2 (xo 1) = some false
theorem lcounted_ok {tops lots hs : List Nat} (y : L21 P fns) (r2 : ∀ r ∈ lots, r < tops.length) (hh : ∀ i ∈ hs, i < lots.length) (hl : hs.length < 1000000) (H : Q (.t (.int (lw tops lots hs : Nat))) S) :
    wp (fin .fz S (callF P fns (k + 1) 302 [.t (.lst (natT tops)), .t (.lst (natT lots)), .t (.lst (natT hs))] S)) Q E := by
  refine w_pure ?_
  rw [call_eq y.g302 rfl]
  unfold K21.m302
  walk_at "ev"
  refine wp_forL (fun i τ S' => ∃ a, S' = S ++ [.lst (numD tops.length fun j => tops.getD j 0 - cn lots (hs.take i) j)] ∧ τ = [some (.t (.lst (natT tops))), some (.t (.lst (natT lots))), some (.t (.lst (natT hs))), some (.loc S.length), some (.t (.int (lw tops lots (hs.take i) : Nat))), a])
    ⟨none, by rw [natD_num]; simp [cn], by rw [List.take_zero, lw_nil]; rfl⟩ (fun i d τ S' hd => ?_) fun τ S' => ?_
  · rintro ⟨a, rfl, rfl⟩
    obtain ⟨h, hh1, rfl, tk⟩ := natD_item hd
    have hh2 : h < lots.length := hh h (List.mem_of_getElem? hh1)
    have jl := getD_lt r2 hh2
    rw [tk, lw_snoc jl]
    have hat := natT_at hh2
    have hcn : ∀ i', cn lots (hs.take i ++ [h]) i' = cn lots (hs.take i) i' + if lots.getD h 0 = i' then 1 else 0 := fun i' => cn_snoc
    generalize lots.getD h 0 = j at *
    wp_walk using atI_ofNat, hat, numD_get jl
    refine w_ifd (fun c1 => ?_) fun c1 => ?_
    · wp_walk using atI_ofNat, hat, numD_get jl, numD_len, ixN_of jl
      rw [if_pos (show cn lots (hs.take i) j < tops.getD j 0 by omega)]
      refine ⟨some (.t (.int (h : Nat))), ?_, by simp⟩
      rw [numD_set (g := fun j => tops.getD j 0 - cn lots (hs.take i ++ [h]) j)]
      · rw [hcn, if_pos rfl]; omega
      · intro i' hi'
        rw [hcn, if_neg (Ne.symm hi')]; rfl
    · walk_at "ev"
      rw [if_neg (show ¬ cn lots (hs.take i) j < tops.getD j 0 by omega)]
      refine ⟨some (.t (.int (h : Nat))), ?_, by simp⟩
      congr 3
      refine congrArg (numD tops.length) (funext fun i' => ?_)
      rw [hcn]
      by_cases e : j = i'
      · subst e; rw [if_pos rfl]; omega
      · rw [if_neg e]; rfl
  · rintro ⟨a, rfl, rfl⟩
    walk_at "ev"
    have e : hs.take ((natT hs).map D.t).length = hs := by rw [List.length_map, natT_len, List.take_length]
    rw [List.length_map] at e
    exact ⟨_, _, rfl, fz_t, by rw [e]; exact H⟩
theorem lrefused_ok {tops lots : List Nat} {x : T} (y : L21 P fns) (z : IsaX P) (h : NoHp lots.length x) (H : Q (.t (.bl true)) S) :
    wp (fin .fz S (callF P fns (k + 5) 304 [.t (LotsT tops lots), .t x] S)) Q E := by
  refine w_pure ?_
  rw [call_eq y.g304 rfl]
  unfold K21.m304
  have hc : ∀ S : Store, clsD S (.t (LotsT tops lots)) = some 3 := fun _ => rfl
  wp_walk using hc, y.cl.worth
  refine worth_no y.toYds z y.cl h ?_
  refine caught_yes y.x20 (r := true) ?_ ?_
  · simp [evH, y.i22, y.i2v, y.i21]
  · walk_at "ev"
    exact ⟨[], _, (List.append_nil _).symm, fz_t, H⟩
theorem l_fz {n : Nat} : k_fz (.loc n) S = match S[n]? with
      | some (.lst ds) => ofOpt ((allT ds).map fun ts => .t (.lst ts)) (S.set n .dead)
      | some (.dic ds) => ofOpt ((allTK ds).map fun ts => .t (.dic ts)) (S.set n .dead)
      | some (.ins c ds) => ofOpt ((allTF ds).map fun ts => .t (.ins c ts)) (S.set n .dead)
      | _ => .bad := (rfl)
theorem lno_ok {m : Nat} (y : L21 P fns) (hm : m ≤ 24) (H : ∀ xs : List T, (∀ x ∈ xs, NoHp m x) → xs.length ≤ 100 → Q (.t (.lst xs)) S) :
    wp (fin .fz S (callF P fns (k + 1) 303 [.t (.int (m : Nat))] S)) Q E := by
  refine w_pure ?_
  rw [call_eq y.g303 rfl]
  unfold K21.m303
  wp_walk using l_fz, allTK, v_pow (S := S) (i := 10) (j := 29) ⟨by decide, by decide, by decide⟩
  refine wp_eq (yk_ddi ⟨rfl, by decide, by simp⟩) ?_
  wp_walk using l_fz, allTK, List.zip_cons_cons, List.zip_nil_right, v_rng1n (show m < 1073741824 by omega)
  refine wp_eq (v_pow (S := S ++ [.dead, .dead]) (i := 10) (j := 29) ⟨by decide, by decide, by decide⟩) ?_
  walk_at "ev"
  obtain ⟨L0, hL0⟩ : ∃ L0 : List T, L0 = [T.non, T.int 0, T.str (Str.ofString ""), T.tup [], T.tup [T.int 0], T.dic [], T.dic [(Sum.inl 0, T.int 0)], T.bl true, T.lst [T.int (m : Nat)], T.lst [T.int (-1)], T.lst [T.bl true], T.lst [T.bl false], T.lst [T.str (Str.ofString "0")], T.lst [T.lst [T.int 0]], T.lst [T.non], T.lst [T.int (10 ^ Int.toNat 29)]] := ⟨_, rfl⟩
  have l0 : L0.length = 16 := by rw [hL0]; rfl
  rw [← hL0]
  have ha : ∀ xs ys : List T, allT (xs.map D.t ++ ys.map D.t) = some (xs ++ ys) := fun xs ys => by rw [← List.map_append]; exact alT_map _
  have hb : ∀ (xs : List T) (y : T), allT (xs.map D.t ++ [D.t y]) = some (xs ++ [y]) := fun xs y => ha xs [y]
  wp_walk using l_cat2, l0, hb, v_rng1n (show m < 1073741824 by omega), List.length_range, show m ≤ 16777216 by omega, List.map_map, Function.comp_def, rngT_map
  refine w_map (xs := rngT m) (fun x => .lst [x, x]) (by rw [rngT_len]; omega) (fun x hx => ?_) ?_
  · walk_at "ev"
  have hc : ∀ xs : List T, cutD (xs.map D.t) none (some 1) = (xs.take 1).map D.t := fun xs => by rw [cut_to (by decide), List.map_take]; rfl
  have ht : ∀ xs : List T, (xs.take 1).length ≤ 1 := fun xs => by rw [List.length_take]; omega
  obtain ⟨Z, hZ⟩ : ∃ Z : List T, Z = (rngT m).map fun x => T.lst [x, x] := ⟨_, rfl⟩
  rw [← hZ]
  have hZ2 : ∀ x ∈ Z.take 1, NoHp m x := fun x hx => by
    have hx := List.mem_of_mem_take hx
    rw [hZ] at hx
    obtain ⟨z, hz, rfl⟩ := List.mem_map.mp hx
    rw [rngT_natT] at hz
    obtain ⟨i, hi, rfl⟩ := List.mem_map.mp hz
    have := List.mem_range.mp hi
    exact .two [i, i] (by simp) (fun j hj => by simp at hj; omega) (by simp)
  wp_walk using hc
  have ht1 := ht Z
  generalize Z.take 1 = Z1 at *
  wp_walk using ha, l_cat2, l0, show 16 + 1 + Z1.length ≤ 16777216 by omega, show 17 + Z1.length ≤ 16777216 by omega, v_rng1n (show m < 1073741824 by omega), List.length_range, show m ≤ 16777216 by omega, List.map_map, Function.comp_def, rngT_map
  wp_walk using hb, l_cat2, rngT_len, show m + 1 ≤ 16777216 by omega, show m ≤ 16777215 by omega
  refine wp_eq (yk_rep2 (xs := [.t (.lst (rngT m ++ [.int ((m : Int) - 1)]))]) rfl ?_ ?_) ?_
  · split <;> omega
  · split <;> simp
  obtain ⟨Y, hY, hYl, hYn⟩ : ∃ Y : List T, (List.replicate (if 0 < (m : Int) then (1 : Int) else 0).toNat [D.t (T.lst (rngT m ++ [T.int ((m : Int) - 1)]))]).flatten = Y.map D.t ∧ Y.length ≤ 1 ∧ ∀ x ∈ Y, NoHp m x := by
    by_cases h : 0 < (m : Int)
    · refine ⟨[.lst (natT (List.range m ++ [m - 1]))], ?_, by simp, fun x hx => ?_⟩
      · rw [if_pos h]
        have : T.int ((m : Int) - 1) = .int ((m - 1 : Nat) : Int) := by congr 1; omega
        rw [this]
        simp [natT, rngT]
      · obtain rfl := List.mem_singleton.mp hx
        refine .two _ (fun nd => ?_) (fun i hi => ?_) (by simp; omega)
        · have := (List.nodup_append.mp nd).2.2 (m - 1) (List.mem_range.mpr (by omega)) (m - 1) (by simp)
          exact this rfl
        · rcases List.mem_append.mp hi with q | q
          · exact List.mem_range.mp q
          · obtain rfl := List.mem_singleton.mp q
            omega
    · refine ⟨[], ?_, by simp, fun x hx => nomatch hx⟩
      rw [if_neg h]; rfl
  rw [hY]
  wp_walk using ha, l_cat2, l0, show 16 + (Z1.length + 1 + Y.length) ≤ 16777216 by omega, show 16 + (Z1.length + 1) + Y.length ≤ 16777216 by omega, show Z1.length + 1 + Y.length ≤ 16777200 by omega
  refine ⟨_, _, rfl, fz_t, H _ (fun x hx => ?_) (by simp [l0]; omega)⟩
  rcases List.mem_append.mp hx with q | q
  · rw [hL0] at q
    simp only [List.mem_cons, List.not_mem_nil, or_false] at q
    rcases q with rfl | rfl | rfl | rfl | rfl | rfl | rfl | rfl | rfl | rfl | rfl | rfl | rfl | rfl | rfl | rfl
    · exact .non
    · exact .int _
    · exact .str _
    · exact .tup _
    · exact .tup _
    · exact .dic _
    · exact .dic _
    · exact .bl _
    · exact .one _ (.int _ (by omega))
    · exact .one _ (.int _ (by omega))
    · exact .one _ (.bl _)
    · exact .one _ (.bl _)
    · exact .one _ (.str _)
    · exact .one _ (.lst _)
    · exact .one _ .non
    · refine .one _ (.int _ ?_)
      have : (10 : Int) ^ Int.toNat 29 = 100000000000000000000000000000 := by decide
      rw [this]; omega
  · rcases List.mem_cons.mp q with rfl | q
    · exact .bl _
    · rcases List.mem_append.mp q with q | q
      · exact hZ2 x q
      · exact hYn x q
theorem largs_ok (y : L21 P fns) (hp : PotAt S n) (H : ∀ (tops lots : List Nat) p, Pot p → tops.length ≤ 8 → (∀ r ∈ tops, r < 25) → lots.length ≤ 24 → (∀ r ∈ lots, r < tops.length) → Q (.t (.tup [.lst (natT tops), .lst (natT lots)])) (S.set n p)) :
    wp (fin .fz S (callF P fns (k + 3) 301 [.loc n] S)) Q E := by
  have hn := hp.lt
  have hnS : ∀ p : Cell, n < (S.set n p).length := fun p => by simpa using hn
  refine w_pot (n := n) ?_
  rw [call_eq y.g301 rfl]
  unfold K21.m301
  walk_at "ev"
  refine take_ok y.g201 hp (by decide) (by decide) fun m p1 q1 m0 m1 => ?_
  wp_walk using v_rng1 (n := m) ⟨m0, by omega⟩
  refine wp_cmpL (fun i acc S' => ∃ p, ∃ ts : List Nat, Pot p ∧ S' = S.set n p ∧ acc = (natT ts).map .t ∧ ts.length = i ∧ ∀ r ∈ ts, r < 25)
    ⟨p1, [], q1, rfl, rfl, rfl, fun _ h => nomatch h⟩ (fun i d acc S' hd => ?_) fun acc S' => ?_
  · rintro ⟨p, ts, hp, rfl, rfl, hl, ht⟩
    have hi := (List.getElem?_eq_some_iff.mp hd).1
    simp only [List.length_map, List.length_range] at hi
    walk_at "ev"
    refine take_ok y.g201 (PotAt.set hn hp) (by decide) (by decide) fun a p2 q2 a0 a1 => ?_
    walk_at "ev"
    refine take_ok y.g201 (PotAt.set hn q2) (by decide) (by decide) fun r p3 q3 r0 r1 => ?_
    obtain ⟨x, e1, hx⟩ := at_mem (xs := [.int 0, .int 1, .int 2, .int a]) r0 (by simpa using r1)
    obtain ⟨w, rfl, hw⟩ : ∃ w : Nat, x = .int (w : Nat) ∧ w < 25 := by
      simp only [List.mem_cons, List.not_mem_nil, or_false] at hx
      rcases hx with rfl | rfl | rfl | rfl
      · exact ⟨0, rfl, by decide⟩
      · exact ⟨1, rfl, by decide⟩
      · exact ⟨2, rfl, by decide⟩
      · exact ⟨a.toNat, by rw [Int.toNat_of_nonneg a0], by omega⟩
    wp_walk using e1
    refine ⟨by rw [natT_len, sizeLine_eq]; omega, p3, ts ++ [w], q3, rfl, by simp [natT], by simp [hl], fun r hr => ?_⟩
    rcases List.mem_append.mp hr with h | h
    · exact ht r h
    · obtain rfl := List.mem_singleton.mp h; exact hw
  · rintro ⟨p, ts, hp, rfl, rfl, hl, ht⟩
    simp only [List.length_map, List.length_range] at hl
    walk_at "ev"
    refine take_ok y.g201 (PotAt.set hn hp) (by decide) (by decide) fun a p2 q2 a0 a1 => ?_
    walk_at "ev"
    refine take_ok y.g201 (PotAt.set hn q2) (by decide) (by decide) fun b p3 q3 b0 b1 => ?_
    walk_at "ev"
    refine take_ok y.g201 (PotAt.set hn q3) (by decide) (by decide) fun r p4 q4 r0 r1 => ?_
    obtain ⟨x, e1, hx⟩ := at_mem (xs := [.int 24, .int a, .int b]) r0 (by simpa using r1)
    obtain ⟨w, rfl, hw⟩ : ∃ w : Nat, x = .int (w : Nat) ∧ w ≤ 24 := by
      simp only [List.mem_cons, List.not_mem_nil, or_false] at hx
      rcases hx with rfl | rfl | rfl
      · exact ⟨24, rfl, by decide⟩
      · exact ⟨a.toNat, by rw [Int.toNat_of_nonneg a0], by omega⟩
      · exact ⟨b.toNat, by rw [Int.toNat_of_nonneg b0], by omega⟩
    have hsx : Sx 1 (24 * 34 + 3) (.lst (natT ts)) := sx_natT (by omega) fun i hi => by have := ht i hi; omega
    wp_walk using e1, ne_empty .t hsx (by decide)
    refine wp_eq (v_mul (.inl ⟨by omega, by omega⟩)) ?_
    obtain ⟨M, hM, hM1, hM2⟩ : ∃ M : Nat, (w : Int) * (if natT ts ≠ [] then 1 else 0) = (M : Int) ∧ M ≤ 24 ∧ (0 < M → 0 < ts.length) := by
      by_cases h : natT ts ≠ []
      · refine ⟨w, by rw [if_pos h]; omega, hw, fun _ => ?_⟩
        cases ts with
        | nil => exact absurd rfl h
        | cons _ _ => simp
      · exact ⟨0, by rw [if_neg h]; omega, by omega, fun h => absurd h (Nat.lt_irrefl _)⟩
    rw [hM]
    wp_walk using v_rng1n (show M < 1073741824 by omega)
    refine wp_cmpL (fun i acc S' => ∃ p, ∃ ls : List Nat, Pot p ∧ S' = S.set n p ∧ acc = (natT ls).map .t ∧ ls.length = i ∧ ∀ r ∈ ls, r < ts.length)
      ⟨p4, [], q4, rfl, rfl, rfl, fun _ h => nomatch h⟩ (fun i d acc S' hd => ?_) fun acc S' => ?_
    · rintro ⟨p, ls, hp, rfl, rfl, hl2, ht2⟩
      have hi := (List.getElem?_eq_some_iff.mp hd).1
      simp only [List.length_map, List.length_range] at hi
      have hpos := hM2 (by omega)
      wp_walk using natT_len
      refine take_ok y.g201 (PotAt.set hn hp) (by omega) (by omega) fun a p2 q2 a0 a1 => ?_
      walk_at "ev"
      refine ⟨by rw [sizeLine_eq]; omega, p2, ls ++ [a.toNat], q2, rfl, by simp [natT, Int.toNat_of_nonneg a0], by simp [hl2], fun r hr => ?_⟩
      rcases List.mem_append.mp hr with h | h
      · exact ht2 r h
      · obtain rfl := List.mem_singleton.mp h
        omega
    · rintro ⟨p, ls, hp, rfl, rfl, hl2, ht2⟩
      simp only [List.length_map, List.length_range] at hl2
      wp_walk using show 2 ≤ 16777216 by decide
      exact ⟨p, [], _, hp, (List.append_nil _).symm, fz_t, H ts ls p hp (by omega) ht (by omega) ht2⟩
theorem hp_snoc {j m : Nat} {hs : List Nat} (h : hs.Nodup ∧ ∀ i ∈ hs, i < j) (hj : j < m) : (hs ++ [j]).Nodup ∧ ∀ i ∈ hs ++ [j], i < j + 1 := by
  refine ⟨?_, fun i hi => ?_⟩
  · rw [List.nodup_append]
    exact ⟨h.1, by simp, fun a ha b hb e => by simp at hb; subst hb; subst e; exact absurd (h.2 _ ha) (Nat.lt_irrefl _)⟩
  · rcases List.mem_append.mp hi with q | q
    · have := h.2 i q; omega
    · obtain rfl := List.mem_singleton.mp q; omega
theorem lheaps_ok {m : Nat} (y : L21 P fns) (hp : PotAt S n) (hm : m ≤ 24) (H : ∀ xs p, Pot p → (∀ x ∈ xs, ∃ hs, x = .lst (natT hs) ∧ Hp m hs) → Q (.t (.lst xs)) (S.set n p)) :
    wp (fin .fz S (callF P fns (k + 3) 212 [.loc n, .t (.int (m : Nat))] S)) Q E := by
  have hn := hp.lt
  have hnS : ∀ p : Cell, n < (S.set n p).length := fun p => by simpa using hn
  obtain ⟨p0, q0, e0⟩ := hp.same
  have hrng : Hp m (List.range m) := ⟨List.nodup_range, fun i hi => List.mem_range.mp hi⟩
  refine w_pot (n := n) ?_
  rw [call_eq y.g212 rfl]
  unfold K21.m212
  walk_at "ev"
  refine w_ifd (fun h => ?_) fun h => ?_
  · wp_walk using v_rng1n (show m < 1073741824 by omega)
    refine wp_forL (fun i τ S' => S' = S ∧ ∃ xs a, (∀ x ∈ xs, ∃ hs, x = T.lst (natT hs) ∧ hs.Nodup ∧ ∀ j ∈ hs, j < i) ∧ List.length xs = 2 ^ i ∧ τ = [some (.loc n), some (.t (.int (m : Nat))), some (.t (.lst xs)), none, a, none, none, none])
      ⟨rfl, [.lst []], none, fun x hx => by obtain rfl := List.mem_singleton.mp hx; exact ⟨[], rfl, List.nodup_nil, fun _ h => nomatch h⟩, rfl, rfl⟩ (fun i d τ S' hd => ?_) fun τ S' => ?_
    · rintro ⟨rfl, xs, a, hx, hl, rfl⟩
      obtain ⟨hi, rfl⟩ := rng_item hd
      have l64 : xs.length ≤ 64 := by
        rw [hl]
        have : 2 ^ i ≤ 2 ^ 6 := Nat.pow_le_pow_right (by decide) (by omega)
        simpa using this
      walk_at "ev"
      refine w_map (xs := xs) (fun x => match x with | .lst ys => .lst (ys ++ [.int (i : Nat)]) | x => x) (by omega) (fun x hx' => ?_) ?_
      · obtain ⟨hs, rfl, h1, h2⟩ := hx x hx'
        have hlen := nodup_bound i hs h1 h2
        wp_walk using l_cat2, natT_len, show hs.length + 1 ≤ 16777216 by omega, show hs.length ≤ 16777215 by omega, map_snoc, alT_map
      · obtain ⟨Z, hZ⟩ : ∃ Z : List T, Z = xs.map (fun x => match x with | .lst ys => .lst (ys ++ [.int (i : Nat)]) | x => x) := ⟨_, rfl⟩
        rw [← hZ]
        have hZl : Z.length = xs.length := by rw [hZ, List.length_map]
        have ha : ∀ xs ys : List T, allT (xs.map D.t ++ ys.map D.t) = some (xs ++ ys) := fun xs ys => by rw [← List.map_append]; exact alT_map _
        wp_walk using ha, l_cat2, hZl, show xs.length + xs.length ≤ 16777216 by omega
        refine ⟨_, _, fun x hx' => ?_, ?_, rfl⟩
        · rcases List.mem_append.mp hx' with q | q
          · obtain ⟨hs, rfl, h1, h2⟩ := hx x q
            exact ⟨hs, rfl, h1, fun j hj => by have := h2 j hj; omega⟩
          · rw [hZ] at q
            obtain ⟨x2, hx2, rfl⟩ := List.mem_map.mp q
            obtain ⟨hs, rfl, h1, h2⟩ := hx x2 hx2
            obtain ⟨b1, b2⟩ := hp_snoc (m := m) ⟨h1, h2⟩ hi
            exact ⟨hs ++ [i], by simp [natT], b1, b2⟩
        · rw [List.length_append, hZl, hl, Nat.pow_succ]; omega
    · rintro ⟨rfl, xs, a, hx, hl, rfl⟩
      walk_at "ev"
      have e : ((List.range m).map fun (i : Nat) => (i : Int)).length = m := by simp
      refine ⟨p0, [], _, q0, by rw [e0, List.append_nil], fz_t, H _ p0 q0 fun x hx' => ?_⟩
      obtain ⟨hs, e1, h1, h2⟩ := hx x hx'
      exact ⟨hs, e1, h1, fun j hj => by have := h2 j hj; simp at this; omega⟩
  · wp_walk using v_rng1n (show m < 1073741824 by omega), List.length_range, show m ≤ 16777216 by omega, List.map_map, Function.comp_def, rngT_map
    refine take_ok y.g201 hp.app (by decide) (by decide) fun r p1 q1 r0 r1 => ?_
    rw [s_fr hn]
    wp_walk using v_rng1 (n := r) ⟨r0, by omega⟩
    refine wp_forL (fun i τ S' => ∃ p xs a b c d, Pot p ∧ (∀ x ∈ xs, ∃ hs, x = T.lst (natT hs) ∧ Hp m hs) ∧ List.length xs ≤ i + 1 ∧ S' = S.set n p ++ [.lst (xs.map .t)] ∧ τ = [some (.loc n), some (.t (.int (m : Nat))), some (.loc S.length), a, b, c, d, none])
      ⟨p1, [.lst (rngT m)], none, none, none, none, q1, fun x hx => by obtain rfl := List.mem_singleton.mp hx; exact ⟨_, rfl, hrng⟩, Nat.le_refl _, rfl, rfl⟩ (fun i d τ S' hd => ?_) fun τ S' => ?_
    · rintro ⟨p, xs, a, b, c, d', hp, hx, hl, rfl, rfl⟩
      have hi := (List.getElem?_eq_some_iff.mp hd).1
      simp only [List.length_map, List.length_range] at hi
      walk_at "ev"
      refine take_ok y.g201 (PotAt.set hn hp).app (by decide) (by decide) fun sp p2 q2 s0 s1 => ?_
      wp_walk using s_fr (c := p2) (hnS p), v_rng1n (show m < 1073741824 by omega)
      refine wp_cmpL (fun j acc S' => ∃ p, ∃ hs : List Nat, Pot p ∧ S' = S.set n p ++ [.lst (xs.map .t)] ∧ acc = (natT hs).map .t ∧ hs.Nodup ∧ ∀ a ∈ hs, a < j)
        ⟨p2, [], q2, rfl, rfl, List.nodup_nil, fun _ h => nomatch h⟩ (fun j d2 acc S' hd2 => ?_) fun acc S' => ?_
      · rintro ⟨p, hs, hp, rfl, rfl, h1, h2⟩
        obtain ⟨hj, rfl⟩ := rng_item hd2
        have hlen := nodup_bound j hs h1 h2
        walk_at "ev"
        refine take_ok y.g201 (PotAt.set hn hp).app (by omega) (by omega) fun t p3 q3 t0 t1 => ?_
        wp_walk using s_fr (c := p3) (hnS p)
        refine w_ts (fun h => ?_) fun h => ?_
        · walk_at "ev"
          obtain ⟨b1, b2⟩ := hp_snoc (m := m) ⟨h1, h2⟩ hj
          exact ⟨by rw [natT_len, sizeLine_eq]; omega, p3, hs ++ [j], q3, rfl, by simp [natT], b1, b2⟩
        · walk_at "ev"
          exact ⟨p3, hs, q3, rfl, rfl, h1, fun a ha => by have := h2 a ha; omega⟩
      · rintro ⟨p, hs, hp, rfl, rfl, h1, h2⟩
        simp only [List.length_map, List.length_range] at h2
        wp_walk using map_snoc, show xs.length < 16777216 by omega
        refine ⟨p, _, _, _, _, _, hp, fun x hx' => ?_, by simp; omega, rfl, rfl⟩
        rcases List.mem_append.mp hx' with q | q
        · exact hx x q
        · obtain rfl := List.mem_singleton.mp q
          exact ⟨hs, rfl, h1, h2⟩
    · rintro ⟨p, xs, a, b, c, d', hp, hx, hl, rfl, rfl⟩
      walk_at "ev"
      exact ⟨p, _, _, hp, rfl, .inr ⟨_, _, rfl, rfl, Nat.le_refl _, by rw [g_set0]; rfl⟩, H _ p hp hx⟩
theorem perm_natT {hs : List Nat} {ys : List T} (h : ys.Perm (natT hs)) : ∃ hs', ys = natT hs' ∧ hs'.Perm hs := by
  refine ⟨ys.map fun x => match x with | .int i => i.toNat | _ => 0, ?_, ?_⟩
  · unfold natT
    rw [List.map_map]
    conv => lhs; rw [← List.map_id ys]
    refine List.map_congr_left fun x hx => ?_
    have := h.mem_iff.mp hx
    simp only [natT, List.mem_map] at this
    obtain ⟨i, _, rfl⟩ := this
    simp
  · have := h.map fun x => match x with | .int i => i.toNat | _ => 0
    refine this.trans ?_
    simp [natT, Function.comp_def]
theorem Hp.perm {m : Nat} {hs hs' : List Nat} (h : Hp m hs) (p : hs'.Perm hs) : Hp m hs' := ⟨p.nodup_iff.mpr h.1, fun i hi => h.2 i (p.mem_iff.mp hi)⟩
theorem lots_w {tops lots hs : List Nat} (y : Lts P fns) (l1 : tops.length ≤ 8) (r2 : ∀ r ∈ lots, r < tops.length) (l2 : lots.length ≤ 24) (h : Hp lots.length hs) (H : Q (.t (.int (lw tops lots hs : Nat))) S) :
    wp (fin .fz S (callF P fns (k + 4) 9 [.t (LotsT tops lots), .t (.lst (natT hs))] S)) Q E :=
  worth_ok (c := 3) (w := 41) (fs := [(5, .lst (natT tops)), (6, .lst (natT lots))]) y.toYds y.cl h (by omega) (fun S Q E H => lots_worth y l1 r2 h.2 (by have := h.len; omega) H) H
theorem lots_tops {tops lots : List Nat} (y : Lts P fns) (H : Q (.t (.lst (natT tops))) S) : wp (fin .fz S (callF P fns (k + 1) 39 [.t (LotsT tops lots)] S)) Q E := by
  refine w_pure ?_
  rw [call_eq y.f39 rfl]
  unfold mp_39 LotsT YT
  walk_at "ev"
  exact ⟨_, _, rfl, .inr ⟨_, _, rfl, rfl, Nat.le_refl _, by simp⟩, H⟩
theorem lots_lots {tops lots : List Nat} (y : Lts P fns) (H : Q (.t (.lst (natT lots))) S) : wp (fin .fz S (callF P fns (k + 1) 40 [.t (LotsT tops lots)] S)) Q E := by
  refine w_pure ?_
  rw [call_eq y.f40 rfl]
  unfold mp_40 LotsT YT
  walk_at "ev"
  exact ⟨_, _, rfl, .inr ⟨_, _, rfl, rfl, Nat.le_refl _, by simp⟩, H⟩
theorem lright_ok {tops lots : List Nat} (y : L21 P fns) (z : IsaX P) (hp : PotAt S n) (l1 : tops.length ≤ 8) (r1 : ∀ r ∈ tops, r < 25) (r2 : ∀ r ∈ lots, r < tops.length) (l2 : lots.length ≤ 24) (H : ∀ p, Pot p → Q (.t (.bl true)) (S.set n p)) :
    wp (fin .fz S (callF P fns (k + 8) 305 [.loc n, .t (LotsT tops lots), .t (.tup [.lst (natT tops), .lst (natT lots)])] S)) Q E := by
  have hn := hp.lt
  obtain ⟨p0, q0, e0⟩ := hp.same
  refine w_pot (n := n) ?_
  rw [call_eq y.g305 rfl]
  unfold K21.m305
  have hc : ∀ (S : Store), clsD S (.t (LotsT tops lots)) = some 3 := fun _ => rfl
  have hrng : Hp lots.length (List.range lots.length) := ⟨List.nodup_range, fun i hi => List.mem_range.mp hi⟩
  have sxr : Sx 1 (24 * 34 + 3) (.lst (natT (List.range lots.length))) := sx_natT (by simp; omega) fun i hi => by have := List.mem_range.mp hi; omega
  have sxt : Sx 1 (24 * 34 + 3) (.lst (natT tops)) := sx_natT (by omega) fun i hi => by have := r1 i hi; omega
  have sxl : Sx 1 (24 * 34 + 3) (.lst (natT lots)) := sx_natT (by omega) fun i hi => by have := r2 i hi; omega
  wp_walk using natT_len, hc, y.cl.many
  refine many_ok y.toYds ?_
  walk_at "ev"
  refine is_ok y.g205 y.toIsaI ?_
  wp_walk using yk_to0, hc, y.cl.things
  refine things_ok y.toYds ?_
  wp_walk using v_rng1n (show lots.length < 1073741824 by omega), List.length_range, show lots.length ≤ 16777216 by omega, List.map_map, Function.comp_def, rngT_map
  rw [rngT_natT]
  wp_walk using ne_same sxr (by decide), yk_to0, hc, y.cl.worth
  refine lots_w (hs := []) y.toLts l1 r2 l2 ⟨List.nodup_nil, fun _ h => nomatch h⟩ ?_
  rw [lw_nil]
  wp_walk using show ((0 : Nat) : Int) = 0 from rfl, decide_true, yk_if0, hc, y.m14
  refine lots_tops y.toLts ?_
  wp_walk using ne_same sxt (by decide), yk_to0, hc, y.m15
  refine lots_lots y.toLts ?_
  wp_walk using ne_same sxl (by decide), yk_to0, hc, y.cl.whole
  refine whole_ok (c := 3) (w := 41) (fs := [(5, .lst (natT tops)), (6, .lst (natT lots))]) (v := (lw tops lots (List.range lots.length) : Nat)) y.toYds y.cl (fun S Q E H => by rw [rngT_natT]; exact lots_worth y.toLts l1 r2 hrng.2 (by simp; omega) H) ?_
  wp_walk using hc, y.cl.things
  refine things_ok y.toYds ?_
  rw [rngT_natT]
  walk_at "ev"
  refine lcounted_ok y r2 hrng.2 (by simp; omega) ?_
  walk_at "ev"
  refine is_ok y.g205 y.toIsaI ?_
  wp_walk using yk_if0
  refine lheaps_ok y hp l2 fun xs p1 q1 hh => ?_
  walk_at "ev"
  refine wp_forL (fun i τ S' => ∃ p a b c d, Pot p ∧ S' = S.set n p ∧ τ = [some (.loc n), some (.t (LotsT tops lots)), some (.t (.tup [.lst (natT tops), .lst (natT lots)])), some (.t (.int (lots.length : Nat))), a, some (.t (.lst (natT tops))), some (.t (.lst (natT lots))), b, c, d])
    ⟨p1, none, none, none, none, q1, rfl, rfl⟩ (fun i d τ S' hd => ?_) fun τ S' => ?_
  · rintro ⟨p, a, b, c, d', hp, rfl, rfl⟩
    obtain ⟨x, hx, rfl⟩ := List.mem_map.mp (List.mem_of_getElem? hd)
    obtain ⟨hs, rfl, hH⟩ := hh x hx
    have hHl := hH.len
    walk_at "ev"
    refine shuf_ok y.g203 y.g201 (PotAt.set hn hp) (by rw [natT_len]; omega) fun ys p2 q2 hy => ?_
    obtain ⟨hs2, rfl, hp2⟩ := perm_natT hy
    have hH2 := hH.perm hp2
    have hHl2 := hH2.len
    have sxh : Sx 1 (24 * 34 + 3) (.lst (natT hs2)) := sx_natT (by omega) fun i hi => by have := hH2.2 i hi; omega
    rw [List.set_set]
    wp_walk using hc, y.cl.worth
    refine lots_w y.toLts l1 r2 l2 hH2 ?_
    rw [lw_perm hp2]
    walk_at "ev"
    refine lcounted_ok y r2 hH.2 (by omega) ?_
    walk_at "ev"
    refine is_ok y.g205 y.toIsaI ?_
    wp_walk using yk_to0, ne_same sxh (by decide), yk_if0
    exact ⟨p2, _, _, _, _, q2, rfl, rfl⟩
  · rintro ⟨p, a, b, c, d', hp, rfl, rfl⟩
    walk_at "ev"
    refine lno_ok y l2 fun xs hx hl => ?_
    walk_at "ev"
    refine w_map (fun _ => .bl true) (by omega) (fun x hx' => ?_) ?_
    · walk_at "ev"
      refine lrefused_ok y z (hx x hx') ?_
      walk_at "ev"
    · have e : xs.map (fun _ => T.bl true) = (xs.map fun _ => true).map T.bl := by simp [Function.comp_def]
      have e2 : (xs.map fun _ => true).all id = true := by simp
      wp_walk using e, e2
      exact ⟨p, [], _, hp, (List.append_nil _).symm, fz_t, H p hp⟩
theorem fm0 : evFm (.t (.lst [])) S = .ok (.t (.str (Str.ofString "[]"))) S := by
  have e : datOf S (.t (.lst [])) = some (.list []) := by rfl
  have e2 : (PyData.list []).shown = Str.ofString "[]" := by first | rfl | decide +kernel
  have e3 : fmB (.list []) = true ∧ (PyData.list []).showable = true ∧ (PyData.list []).depth ≤ 100 ∧ (PyData.list []).shown.length ≤ sizeLine := ⟨rfl, by first | rfl | decide +kernel, by first | decide | decide +kernel, by rw [e2, sizeLine_eq]; decide +kernel⟩
  show ofOpt ((datOf S (.t (.lst []))).bind fun d => if fmB d = true ∧ d.showable = true ∧ d.depth ≤ 100 ∧ d.shown.length ≤ sizeLine then some (D.t (T.str d.shown)) else none) S = _
  rw [e, Option.bind_some, if_pos e3, e2]
  rfl
theorem lots_shown0 (y : L21 P fns) (H : Q (.t (.str (Str.ofString "Lots([], [])"))) S) : wp (fin .fz S (callF P fns (k + 1) 44 [.t (LotsT [] [])] S)) Q E := by
  refine w_pure ?_
  rw [call_eq y.f44 rfl]
  unfold mp_44
  have e5 : ∀ S : Store, evFld (.t (LotsT [] [])) 5 S = .ok (.t (.lst [])) S := fun _ => rfl
  have e6 : ∀ S : Store, evFld (.t (LotsT [] [])) 6 S = .ok (.t (.lst [])) S := fun _ => rfl
  walk_at "ev"
  refine wp_eq (yk_j (by rw [sizeLine_eq]; decide +kernel)) ?_
  wp_walk using e5, fm0
  refine wp_eq (yk_j (by rw [sizeLine_eq]; decide +kernel)) ?_
  walk_at "ev"
  refine wp_eq (yk_j (by rw [sizeLine_eq]; decide +kernel)) ?_
  wp_walk using e6, fm0
  refine wp_eq (yk_j (by rw [sizeLine_eq]; decide +kernel)) ?_
  walk_at "ev"
  refine wp_eq (yk_j (by rw [sizeLine_eq]; decide +kernel)) ?_
  walk_at "ev"
  refine ⟨[], _, (List.append_nil _).symm, fz_t, ?_⟩
  have e : Str.empty ++ Str.ofString "Lots(" ++ Str.ofString "[]" ++ Str.ofString ", " ++ Str.ofString "[]" ++ Str.ofString ")" = Str.ofString "Lots([], [])" := by decide +kernel
  rw [e]
  exact H
theorem law_ok {ns : List Int} (y : L21 P fns) (z : IsaX P) (hl : ns.length ≤ 63) (H : ∀ S', Q (.t (.bl true)) S') :
    wp (callF P fns (k + 12) 250 [.t (.arg ns)] S) Q E := by
  rw [call_eq y.g250 rfl]
  unfold K21.m250
  have mk0 : ∀ {S : Store} {Q : D → Store → Prop} {E : Exn → Store → Prop} {k : Nat}, Q (.t (LotsT [] [])) S → wp (fin .fz S ((callF P fns (k + 3) 38 [.loc S.length, .t (.lst []), .t (.lst [])] (S ++ [.ins 3 []])).bind (nq S.length))) Q E := fun {S Q E k} h =>
    lots_mk (tops := []) (lots := []) y.toLts .t .t (by decide) (fun _ h => nomatch h) (by decide) (fun _ h => nomatch h) h
  wp_walk using y.ini
  refine mk0 ?_
  wp_walk using show 2 ≤ 16777216 by decide
  rw [v_rng1 (by split <;> (try split) <;> omega)]
  walk_at "ev"
  generalize hm : (if (if (6 : Int) < (ns.length : Int) then (6 : Int) else (ns.length : Int)) > 2 then (if (6 : Int) < (ns.length : Int) then (6 : Int) else (ns.length : Int)) else 2).toNat = mx
  have hmx : mx ≤ 6 := by
    rw [← hm]
    split <;> (try split) <;> omega
  refine wp_forL (fun i τ S' => ∃ (et el : List Nat) (a2 a3 a4 a5 : Option D), et.length ≤ 8 ∧ (∀ r ∈ et, r < 25) ∧ el.length ≤ 24 ∧ (∀ r ∈ el, r < et.length) ∧ τ = [some (.t (.arg ns)), some (.t (.tup [LotsT et el, .tup [.lst (natT et), .lst (natT el)]])), a2, a3, a4, a5])
    ⟨[], [], _, _, _, _, by decide, (fun _ h => nomatch h), by decide, (fun _ h => nomatch h), rfl⟩ (fun i0 d τ S hd => ?_) fun τ S => ?_
  · rintro ⟨et, el, a2, a3, a4, a5, h1, h2, h3, h4, rfl⟩
    obtain ⟨hi, rfl⟩ := rng_item hd
    walk_at "ev"
    refine pot_ok y.g200 (by omega) (by omega) fun p0 hp0 => ?_
    have hP : PotAt (S ++ [p0]) S.length := ⟨p0, by rw [g_app0]; rfl, hp0⟩
    generalize hS1 : S ++ [p0] = S1 at *
    generalize hn : S.length = n at *
    have hnl := hP.lt
    walk_at "ev"
    refine largs_ok y hP fun tops lots p1 q1 l1 r1 l2 r2 => ?_
    have hP2 := PotAt.set hnl q1
    generalize S1.set n p1 = S2 at *
    have hnl2 := hP2.lt
    wp_walk using y.ini
    refine lots_mk y.toLts .t .t l1 r1 l2 r2 ?_
    walk_at "ev"
    refine lright_ok y z hP2 l1 r1 r2 l2 fun p2 q2 => ?_
    walk_at "ev"
    refine lright_ok y z (PotAt.set hnl2 q2) h1 h2 h4 h3 fun p3 q3 => ?_
    wp_walk using yk_if0, show 2 ≤ 16777216 by decide
    exact ⟨tops, lots, _, _, _, _, l1, r1, l2, r2, rfl⟩
  · rintro ⟨et, el, a2, a3, a4, a5, h1, h2, h3, h4, rfl⟩
    wp_walk using y.ini
    refine mk0 ?_
    have hc : ∀ (S : Store), clsD S (.t (LotsT [] [])) = some 3 := fun _ => rfl
    wp_walk using hc, y.m12
    refine lots_shown0 y ?_
    walk_at "ev"
    refine wp_eq (eq_str (by decide +kernel)) ?_
    walk_at "ev"
    exact H _
end
namespace K21
theorem zx : IsaX L.P where
  ii := by rfl
  ib := by rfl
  ll := by rfl
  ni := by rfl
  bi := by rfl
  bb := by rfl
  si := by rfl
  li := by rfl
  nl := by rfl
  bl := by rfl
  il := by rfl
  sl := by rfl
  tl := by rfl
  dl := by rfl
theorem l21 : L21 L.P (fnsL ds) where
  ii := by rfl
  ib := by rfl
  ll := by rfl
  f0 := by rfl
  f1 := by rfl
  f6 := by rfl
  f7 := by rfl
  f8 := by rfl
  f9 := by rfl
  f11 := by rfl
  f18 := by rfl
  f20 := by rfl
  f21 := by rfl
  f37 := by rfl
  f38 := by rfl
  f39 := by rfl
  f40 := by rfl
  f41 := by rfl
  ini := by rfl
  cl := ⟨by rfl, by rfl, by rfl, by rfl, by rfl⟩
  g200 := by rfl
  g201 := by rfl
  g203 := by rfl
  g205 := by rfl
  g212 := by rfl
  f44 := by rfl
  g301 := by rfl
  g302 := by rfl
  g303 := by rfl
  g304 := by rfl
  g305 := by rfl
  g250 := by rfl
  m12 := by rfl
  m14 := by rfl
  m15 := by rfl
  x20 := by rfl
  i22 := by rfl
  i2v := by rfl
  i21 := by rfl
theorem plain (ns : List Int) (h : ns.length ≤ 63) : ∃ S', callF L.P (fnsL ds) 30 250 [.t (.arg ns)] [] = .ok (.t (.bl true)) S' := by
  have := law_ok (k := 18) (S := []) (Q := fun d _ => d = .t (.bl true)) (E := fun _ _ => False) l21 zx h fun _ => rfl
  revert this
  show wp (callF L.P (fnsL ds) 30 250 [.t (.arg ns)] []) _ _ → _
  cases callF L.P (fnsL ds) 30 250 [.t (.arg ns)] [] with
  | ok d S1 => rintro rfl; exact ⟨_, rfl⟩
  | exc _ _ => exact False.elim
  | bad => exact False.elim
end K21
end Ev
end

set_option Elab.async false
set_option maxRecDepth 100000
set_option maxHeartbeats 0
open PySem PySem.W PySem.Calls PyProof.Rows in
theorem PySem.Challenge.cw_noaslong_k21_lots_counted_holds : PySem.Challenge.rw_noaslong_k21_lots_counted.Holds := by
  w_on; o_law
  refine HandSHeadRun.head_any (r := OpenLaw.row PySem.Challenge.rw_noaslong_k21_lots_counted) (q := view (OpenLaw.row PySem.Challenge.rw_noaslong_k21_lots_counted).prog [28]) (H := Ev.K21.hk) (ob := Ev.K21.ob) (M := 30000) (loose := Ev.K21.loose) (d := HandSHeadRun.topDef (OpenLaw.row PySem.Challenge.rw_noaslong_k21_lots_counted).prog 28) (kwd := []) Ev.K21.ob_eq
    (by kernel_rfl) (fun s => by kernel_rfl) Ev.K21.run (by kernel_rfl) (by kernel_rfl) (by kernel_rfl) (by rfl) (by first | assumption | decide +kernel) (by decide +kernel) ⟨rfl, rfl, rfl, rfl, rfl, by decide +kernel⟩ ?hw ?hc
  case hw => w_witness2
  case hc =>
    exact Ev.walkM (l := PySem.Challenge.rw_noaslong_k21_lots_counted) (n := 63) (depth := 30) (x := "script") (i := 250) (e := Ev.K21.d250) rfl (by decide) (by kernel_rfl) ⟨rfl, by decide, by decide⟩ Ev.K21.hs Ev.K21.hd rfl rfl (by kernel_rfl) Ev.K21.sh
      (fun K fd F => fun s u => L2.FunD.bindsA (ps := ["script"]) F (fun _ _ _ _ _ _ us hl => match us, hl with | [_], _ => rfl) s [u] rfl) Ev.K21.plain
