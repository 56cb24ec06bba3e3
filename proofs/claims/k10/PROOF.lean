import PyProof.Rows.All
import Wide.All
import OpenK.AllK
import Wide.FinOn
import HandS.ForExc
import HandS.Nested
import HandS.IsInst
import HandS.Deep
import HandS.Style
import HandS.TupAny
import HandS.CallSlots
import HandS.Wide
import HandS.Walk
import HandS.Comp
import HandS.HotCalls
import HandS.ExcIs
import HandS.Dict
import HandS.ExcOwn
import HandS.SetFor
import HandS.Strs
import KE.DataFind
import HandS.Lambda
import HandS.Conv
import HandS.Defaults
import HandS.More
import HandS.Head0
import HandS.Head1
import HandS.Head2
import HandS.HeadEnd
import HandS.HeadHook1
import HandS.HeadHook2
import HandS.HeadHook3
import HandS.HeadHook4
import HandS.EndBits
import HandS.HeadWalk
import HandS.EndTab
import KE.KStateDown
import Lean
import PySem.Challenge.RW_beamroll_k10_refused
set_option Elab.async false
set_option linter.all false
set_option maxRecDepth 100000
/-! Mini Python: data, stores, an evaluator. -/
namespace Mi
open PySem

/-- how a list is held: fz: it stays as it is; vw: it stays while this def runs; gv: handed in from outside -/
inductive LK where
  | fz | vw | gv
  deriving DecidableEq
inductive W where
  | non | bl (b : Bool) | int (i : Int) | str (s : Str)
  | tup (xs : List W) | lst (k : LK) (xs : List W)
  | loc (n : Nat)
  /-- the caught exception; a function of this frame; a function with what it captured -/
  | exn (c : Nat) | clo (i : Nat) | fn (i : Nat) (cs : List W)
instance : Inhabited W := ⟨.non⟩
/-- what may change -/
inductive O where
  | lst (xs : List W)
  | ins (c : Nat) (fs : List (Str × W))
  | dct (kvs : List (Int × W))
  /-- a def's table of code objects -/
  | tbl (q : Str)
abbrev Store := List (Option O)
abbrev Env := List (Option W)
inductive R (α : Type) where
  | ok (a : α) (st : Store) | exc (c : Nat) (st : Store) | err
def R.bind {α β : Type} : R α → (α → Store → R β) → R β
  | .ok a st, f => f a st
  | .exc c st, _ => .exc c st
  | .err, _ => .err
/-- no exception may leave -/
def R.calm {α β : Type} : R α → (α → Store → R β) → R β
  | .ok a st, f => f a st
  | .exc _ _, _ => .err
  | .err, _ => .err
inductive Out where
  | nx (Γ : Env) (st : Store) | rt (w : W) (st : Store) | xc (c : Nat) (Γ : Env) (st : Store) | er

inductive Bop where
  | add | sub | mul | fdiv | mod | pow | band | shr
  deriving DecidableEq
inductive Cop where
  | lt | le | gt | ge | eq | ne | isin | notin | is | isnot
  deriving DecidableEq
inductive B1 where
  | len | abs | sum | all | any | max | min | list | tuple | sset
  deriving DecidableEq
inductive B2 where
  | max | min
  deriving DecidableEq
inductive Ty where
  | ty (n : String) | cls (c : Nat) (ds : List Nat)
  deriving DecidableEq
inductive Bm where
  | append | index | count | pop | remove | clear
  deriving DecidableEq
inductive Tg where
  | nm (i : Nat) | tp (ts : List Tg)

mutual
inductive ME where
  | var (i : Nat) | cst (c : W) | glb (x : Str) (i : Int)
  | tup (es : List ME) | lst (mu : Bool) (es : List ME) | dct0
  | bin (o : Bop) (a b : ME) | neg (a : ME) | not (a : ME)
  | cmp (o : Cop) (a b : ME) | cmp2 (o1 o2 : Cop) (a b c : ME)
  | and (es : List ME) | or (es : List ME)
  | ite (c a b : ME)
  | idx (a i : ME) | sli (a : ME) (lo hi : Option ME) | rev (a : ME)
  | b1 (f : B1) (a : ME) | b2 (f : B2) (a b : ME)
  | isi (a : ME) (t : Ty)
  | call (pure : Bool) (f : Nat) (es : List ME)
  | lc (mu : Bool) (vs : List (Str × Nat)) (t : Tg) (it : It) (ifs : List ME) (elt : ME)
  | fld (a : ME) (f : Str) (cs : List Nat)
  | mk (c f : Nat) (es : List ME)
  | meth (o : ME) (m : Str) (tb : List (Nat × Nat)) (es : List ME)
  | dget (d k : ME) | din (neg : Bool) (k d : ME)
  | listM (a : ME) | addM (a b : ME) | indx (a x : ME)
  | lcP (mu : Bool) (vs : List (Str × Nat)) (t : Tg) (it : It) (ifs : List ME) (elt : ME)
  | mk0 (c : Nat) | callM (f : Nat) (es : List ME)
  | isx (i : Nat) (t : Ty) | lam (i t : Nat) (q : Str) | lam0 (i t : Nat) (q : Str)
  | callF (f : Nat) (tb : List (Nat × List Nat)) (es : List ME) | calv (v : Nat) (es : List ME)
  | cnt (a x : ME) | lrg (es : List ME) | lzp (a b : ME)
inductive It where
  | sq (e : ME) | rg (es : List ME) | zp (a b : ME) | en (e : ME) | zp4 (a b c d : ME)
end
inductive MS where
  | ex (e : ME)
  | as (t : Tg) (e : ME)
  | par (ids : List Nat) (es : List ME)
  | iff (c : ME) (a b : List MS)
  | fo (t : Tg) (it : It) (body : List MS)
  | wh (n : Nat) (c : ME) (body : List MS)
  | rt (e : ME) | rtN
  | rs (c : Nat)
  | app (o e : ME)
  | si (o i e : ME)
  | si2 (o1 i1 o2 i2 e : ME)
  | fz (i : Nat)
  | ps
  | sfld (o : ME) (f : Str) (cs : List Nat) (e : ME)
  | dput (d k e : ME)
  | rem (o e : ME)
  | pop (o : ME) | clr (o : ME)
  | tri (i c : Nat) (body h : List MS)

/-! ### operations -/
def lim : Nat := 16777216
def mulOk (i j : Int) : Bool := decide (i.natAbs.log2 + j.natAbs.log2 < 100000000)
def divOk (j : Int) : Bool := decide (0 < j) && decide (j.natAbs.log2 < 9000)
def bopW (o : Bop) (x y : W) : Option W :=
  match o, x, y with
  | .add, .int i, .int j => some (.int (i + j))
  | .sub, .int i, .int j => some (.int (i - j))
  | .mul, .int i, .int j => if mulOk i j then some (.int (i * j)) else none
  | .fdiv, .int i, .int j => if divOk j then some (.int (i / j)) else none
  | .mod, .int i, .int j => if 0 < j then some (.int (i % j)) else none
  | .pow, .int i, .int j => if 0 ≤ j ∧ j ≤ 1000 ∧ i.natAbs < 2 ^ 64 then some (.int (i ^ j.toNat)) else none
  | .band, .int i, .int j => some (.int (Builtin.bitAnd i j))
  | .shr, .int i, .int j => if 0 ≤ j then some (.int (i / 2 ^ j.toNat)) else none
  | _, _, _ => none
/-- the list that a value is -/
def seqL (st : Store) : W → Option (LK × List W)
  | .lst k xs => some (k, xs)
  | .loc n => match st[n]? with
    | some (some (.lst xs)) => some (.fz, xs)
    | _ => none
  | _ => none
/-- + -/
def addW (st : Store) (x y : W) : Option W :=
  match x, y with
  | .int i, .int j => some (.int (i + j))
  | .tup xs, .tup ys => if xs.length + ys.length ≤ lim ∧ xs ≠ [] ∧ ys ≠ [] then some (.tup (xs ++ ys)) else none
  | _, _ => match seqL st x, seqL st y with
    | some (k, xs), some (l, ys) => if xs.length + ys.length ≤ lim ∧ k ≠ .gv ∧ l ≠ .gv then some (.lst .fz (xs ++ ys)) else none
    | _, _ => none
/-- * of a list -/
def repW (x y : W) : Option W :=
  match x, y with
  | .lst k xs, .int n => if k ≠ .gv ∧ 0 ≤ n ∧ n < 2 ^ 62 ∧ xs.length * n.toNat ≤ lim then some (.lst .fz (List.replicate n.toNat xs).flatten) else none
  | _, _ => none
mutual
def eqW : W → W → Bool
  | .non, .non => true
  | .bl a, .bl b => a == b
  | .bl a, .int j => (if a then 1 else 0) == j
  | .int i, .bl b => i == (if b then 1 else 0)
  | .int i, .int j => i == j
  | .str x, .str y => x == y
  | .lst _ xs, .lst _ ys => eqWs xs ys
  | .tup xs, .tup ys => eqWs xs ys
  | _, _ => false
def eqWs : List W → List W → Bool
  | [], [] => true
  | x :: xs, y :: ys => eqW x y && eqWs xs ys
  | _, _ => false
end
/-- data without places, of such a depth -/
def dOk : Nat → W → Bool
  | _, .non => true
  | _, .bl _ => true
  | _, .int _ => true
  | _, .str s => PyData.canLay0 (.str s)
  | n + 1, .tup xs => xs.all (dOk n)
  | n + 1, .lst _ xs => xs.all (dOk n)
  | _, _ => false
/-- places looked up -/
def deep (st : Store) : Nat → W → W
  | n + 1, .tup xs => .tup (xs.map (deep st n))
  | n + 1, .lst k xs => .lst k (xs.map (deep st n))
  | n + 1, .loc l => match st[l]? with
    | some (some (.lst xs)) => .lst .vw (xs.map (deep st n))
    | _ => .loc l
  | _, w => w
def eqG (st : Store) (x y : W) : Option Bool :=
  if dOk 8 (deep st 8 x) && dOk 8 (deep st 8 y) then some (eqW (deep st 8 x) (deep st 8 y)) else none
def isStrW : W → Bool
  | .str _ => true
  | _ => false
def isIntW : W → Bool
  | .int _ => true
  | _ => false
def inG (st : Store) (x y : W) : Option Bool :=
  match y with
  | .tup ys => match x with
    | .str s => if ys.all isStrW then some (ys.any fun z => eqW z (.str s)) else none
    | .int s => if ys.all isIntW then some (ys.any fun z => eqW z (.int s)) else none
    | _ => none
  | y => match deep st 8 y with
    | .lst k ys => if dOk 8 (deep st 8 x) && dOk 8 (.lst k ys) then some (ys.any fun z => eqW z (deep st 8 x)) else none
    | _ => none
def isN : W → Bool
  | .non => true
  | _ => false
def ordW (f : Int → Int → Bool) (x y : W) : Option W := match x, y with
  | .int i, .int j => some (.bl (f i j))
  | _, _ => none
def copW (st : Store) (o : Cop) (x y : W) : Option W :=
  match o with
  | .lt => ordW (fun i j => decide (i < j)) x y
  | .le => ordW (fun i j => decide (i ≤ j)) x y
  | .gt => ordW (fun i j => decide (j < i)) x y
  | .ge => ordW (fun i j => decide (j ≤ i)) x y
  | .eq => (eqG st x y).map .bl
  | .ne => (eqG st x y).map fun b => .bl (!b)
  | .isin => (inG st x y).map .bl
  | .notin => (inG st x y).map fun b => .bl (!b)
  | .is => match y with
    | .non => some (.bl (isN x))
    | .bl b => match x with | .bl a => some (.bl (decide (a = b))) | _ => none
    | _ => none
  | .isnot => match y with
    | .non => some (.bl (!isN x))
    | .bl b => match x with | .bl a => some (.bl (!decide (a = b))) | _ => none
    | _ => none
def atW (xs : List W) (i : Int) : Option W := L2.atI xs i
def idxW (st : Store) (x y : W) : Option W :=
  match x, y with
  | .tup xs, .int i => L2.atI xs i
  | x, .int i => match seqL st x with
    | some (_, xs) => L2.atI xs i
    | none => none
  | _, _ => none
def ixI : Option W → Option (Option Int)
  | none => some none
  | some (.int i) => some (some i)
  | _ => none
/-- xs[lo:hi] -/
def cutW (xs : List W) (lo hi : Option Int) : List W := (xs.drop (HT.sIx xs.length 0 lo)).take (HT.sIx xs.length xs.length hi - HT.sIx xs.length 0 lo)
def slW (st : Store) (x : W) (lo hi : Option Int) : Option W :=
  match seqL st x with
  | some (_, xs) => some (.lst .fz (cutW xs lo hi))
  | none => none
def revW (st : Store) (x : W) : Option W :=
  match x with
  | .tup xs => some (.tup xs.reverse)
  | x => match seqL st x with
    | some (_, xs) => some (.lst .fz xs.reverse)
    | none => none
def intsW : List W → Option (List Int)
  | [] => some []
  | .int i :: r => (intsW r).map (i :: ·)
  | _ => none
def blsW : List W → Option (List Bool)
  | [] => some []
  | .bl i :: r => (blsW r).map (i :: ·)
  | _ => none
def maxI : List Int → Option Int
  | [] => none
  | x :: xs => some (xs.foldl (fun m y => if m < y then y else m) x)
def minI : List Int → Option Int
  | [] => none
  | x :: xs => some (xs.foldl (fun m y => if y < m then y else m) x)
/-- a sorted list without doubles: put in -/
def insI (x : Int) : List Int → List Int
  | [] => [x]
  | y :: ys => if x < y then x :: y :: ys else if x = y then y :: ys else y :: insI x ys
def sortI (xs : List Int) : List Int := xs.foldr insI []
def b1W (st : Store) (f : B1) (x : W) : Option W :=
  match f with
  | .len => match x with
    | .tup xs => some (.int xs.length)
    | x => (seqL st x).map fun p => .int p.2.length
  | .abs => match x with | .int i => some (.int (if i < 0 then -i else i)) | _ => none
  | .sum => (seqL st x).bind fun p => (intsW p.2).map fun ns => .int ns.sum
  | .all => (seqL st x).bind fun p => (blsW p.2).map fun bs => .bl (bs.all id)
  | .any => (seqL st x).bind fun p => (blsW p.2).map fun bs => .bl (bs.any id)
  | .max => (seqL st x).bind fun p => (intsW p.2).bind fun ns => (maxI ns).map .int
  | .min => (seqL st x).bind fun p => (intsW p.2).bind fun ns => (minI ns).map .int
  | .list => match x with
    | .tup xs => if xs.length ≤ lim then some (.lst .fz xs) else none
    | x => (seqL st x).map fun p => .lst .fz p.2
  | .tuple => match x with
    | .tup xs => some (.tup xs)
    | x => (seqL st x).map fun p => .tup p.2
  | .sset => (seqL st x).bind fun p => (intsW p.2).bind fun ns => if ns.length < 63 then some (.lst .fz ((sortI ns).map .int)) else none
def b2W (f : B2) (x y : W) : Option W :=
  match f, x, y with
  | .max, .int i, .int j => some (.int (if j > i then j else i))
  | .min, .int i, .int j => some (.int (if j < i then j else i))
  | _, _, _ => none
/-- isinstance; sub: whether a class stands under another -/
def isiW (sub : Nat → Nat → Bool) (st : Store) (x : W) (t : Ty) : Option W :=
  match t with
  | .ty n => match x with
    | .non => some (.bl (n == "NoneType"))
    | .bl _ => some (.bl (n == "bool" || n == "int"))
    | .int _ => some (.bl (n == "int"))
    | .str _ => some (.bl (n == "str"))
    | .tup _ => some (.bl (n == "tuple"))
    | .lst k _ => if k = .gv then none else some (.bl (n == "list"))
    | .loc l => match st[l]? with
      | some (some (.lst _)) => some (.bl (n == "list"))
      | some (some (.dct _)) => some (.bl (n == "dict"))
      | _ => none
    | _ => none
  | .cls c ds => match x with
    | .loc l => match st[l]? with
      | some (some (.ins d _)) => if d ∈ ds then some (.bl (sub d c)) else none
      | _ => none
    | _ => none
def liftO {α : Type} (o : Option α) (st : Store) : R α := match o with
  | some a => .ok a st
  | none => .err
/-- a list freshly made: frozen, or a place -/
def mkL (mu : Bool) (xs : List W) (st : Store) : R W :=
  match mu with
  | true => .ok (.loc st.length) (st ++ [some (.lst xs)])
  | false => .ok (.lst .fz xs) st
def rgV (a b : Int) : List W := (List.range (b - a).toNat).map fun i => W.int (a + (i : Nat))
def rgW : List W → Option (List W)
  | [.int b] => if -(2 ^ 62) ≤ b ∧ b ≤ 16777216 then some (rgV 0 b) else none
  | [.int a, .int b] => if -(2 ^ 62) ≤ a ∧ a < 2 ^ 62 ∧ -(2 ^ 62) ≤ b ∧ b < 2 ^ 62 ∧ b - a ≤ 16777216 then some (rgV a b) else none
  | _ => none
def zipW : List W → List W → List W
  | x :: xs, y :: ys => .tup [x, y] :: zipW xs ys
  | _, _ => []
def zip4W : List W → List W → List W → List W → List W
  | x :: xs, y :: ys, z :: zs, u :: us => .tup [x, y, z, u] :: zip4W xs ys zs us
  | _, _, _, _ => []
def enumW (n : Nat) : List W → List W
  | [] => []
  | x :: xs => .tup [.int n, x] :: enumW (n + 1) xs
mutual
def asgT : Tg → W → Env → Option Env
  | .nm i, w, Γ => some (Γ.set i (some w))
  | .tp ts, w, Γ => match w with
    | .tup ws => asgTs ts ws Γ
    | _ => none
def asgTs : List Tg → List W → Env → Option Env
  | [], [], Γ => some Γ
  | t :: ts, w :: ws, Γ => (asgT t w Γ).bind fun Γ' => asgTs ts ws Γ'
  | _, _, _ => none
end
def wipeE (Γ : Env) : List Nat → Env
  | [] => Γ
  | v :: vs => (wipeE Γ vs).set v none
def snap (st : Store) (w : W) : W := match w with
  | .loc l => match st[l]? with
    | some (some (.lst xs)) => .lst .vw xs
    | _ => .loc l
  | w => w
/-- no list that is only seen, no place from n on -/
def resB (n : Nat) : Nat → W → Bool
  | _, .non => true
  | _, .bl _ => true
  | _, .int _ => true
  | _, .str _ => true
  | _, .loc l => decide (l < n)
  | d + 1, .tup xs => xs.all (resB n d)
  | d + 1, .lst k xs => decide (k = .fz) && xs.all (resB n d)
  | _, _ => false
def dead (st : Store) : Store := List.replicate st.length none
/-- a def that changes nothing that stood -/
def pureCall (f : List W → Store → R W) (ws : List W) (st : Store) : R W :=
  match f (ws.map (snap st)) (dead st) with
  | .ok w _ => if resB st.length 8 w then .ok w st else .err
  | .exc c _ => .exc c st
  | .err => .err
/-- a def that changes nothing that stood, and answers a new list that may change -/
def pureCallM (f : List W → Store → R W) (ws : List W) (st : Store) : R W :=
  match f (ws.map (snap st)) (dead st) with
  | .ok (.loc n) st' => match st'[n]? with
    | some (some (.lst xs)) => if st.length ≤ n ∧ xs.all (resB st.length 8) = true then .ok (.loc st.length) (st ++ [some (.lst xs)]) else .err
    | _ => .err
  | .ok _ _ => .err
  | .exc c _ => .exc c st
  | .err => .err
/-- the turns of a comprehension -/
def lcGo (asg : W → Env → Option Env) (ifs : Env → Store → R Bool) (elt : Env → Store → R W) (Γ : Env) : List W → Store → R (List W)
  | [], st => .ok [] st
  | x :: xs, st => match asg x Γ with
    | none => .err
    | some Γ' => (ifs Γ' st).calm fun b st1 => match b with
      | true => (elt Γ' st1).calm fun y st2 => (lcGo asg ifs elt Γ xs st2).calm fun ys st3 => .ok (y :: ys) st3
      | false => lcGo asg ifs elt Γ xs st1
def asB (w : W) (st : Store) : R Bool := match w with
  | .bl b => .ok b st
  | _ => .err
/-- o.f of an instance -/
def fldW (st : Store) (x : W) (f : Str) (cs : List Nat) : Option W := match x with
  | .loc l => match st[l]? with
    | some (some (.ins c fs)) => if c ∈ cs then fs.lookup f else none
    | _ => none
  | _ => none
/-- a field put in its place, or at the end -/
def putFW (f : Str) (v : W) : List (Str × W) → List (Str × W)
  | [] => [(f, v)]
  | (g, w) :: r => if g = f then (f, v) :: r else (g, w) :: putFW f v r
def sfldW (st : Store) (x : W) (f : Str) (cs : List Nat) (v : W) : Option Store := match x with
  | .loc l => match st[l]? with
    | some (some (.ins c fs)) => if c ∈ cs ∧ fs.length < 900 then some (st.set l (some (.ins c (putFW f v fs)))) else none
    | _ => none
  | _ => none
/-- an instance's class, where m is none of its fields -/
def insC (st : Store) (x : W) (m : Str) : Option Nat := match x with
  | .loc l => match st[l]? with
    | some (some (.ins c fs)) => match fs.lookup m with
      | none => some c
      | some _ => none
    | _ => none
  | _ => none
def dlk (kvs : List (Int × W)) (k : Int) : Option W := (kvs.find? fun p => decide (p.1 = k)).map (·.2)
def dptW (k : Int) (v : W) (kvs : List (Int × W)) : List (Int × W) := if (kvs.any fun p => decide (p.1 = k)) = true then kvs.map (fun p => if p.1 = k then (p.1, v) else p) else kvs ++ [(k, v)]
def dctL (st : Store) (x : W) : Option (List (Int × W)) := match x with
  | .loc l => match st[l]? with
    | some (some (.dct kvs)) => some kvs
    | _ => none
  | _ => none
def dgetW (st : Store) (x y : W) : Option W := match y with
  | .int k => (dctL st x).bind fun kvs => dlk kvs k
  | _ => none
def dinW (st : Store) (neg : Bool) (y x : W) : Option W := match y with
  | .int k => (dctL st x).map fun kvs => .bl (bif neg then !(dlk kvs k).isSome else (dlk kvs k).isSome)
  | _ => none
def dputW (st : Store) (x y v : W) : Option Store := match x, y with
  | .loc l, .int k => match st[l]? with
    | some (some (.dct kvs)) => if kvs.length < 900 then some (st.set l (some (.dct (dptW k v kvs)))) else none
    | _ => none
  | _, _ => none
def isFl : W → Bool
  | .non => true
  | .bl _ => true
  | .int _ => true
  | .str _ => true
  | _ => false
/-- xs.index(x), found, of flat data -/
def indW (st : Store) (x y : W) : Option W := match seqL st x with
  | some (_, xs) => match isFl y && xs.all isFl with
    | true => (xs.findIdx? fun z => eqW z y).map fun i => .int (i : Nat)
    | false => none
  | none => none
/-- how many are equal -/
def cntW (st : Store) (x y : W) : Option W := match seqL st x with
  | some (_, xs) => match isFl y && xs.all isFl with
    | true => some (.int (xs.countP fun z => eqW z y : Nat))
    | false => none
  | none => none
def mkO (o : Option W) (st : Store) : R W := match o with
  | some (.lst .fz xs) => .ok (.loc st.length) (st ++ [some (.lst xs)])
  | _ => .err
/-- behind __init__ -/
def madeI (n : Nat) (r : R W) : R W := match r with
  | .ok .non st => .ok (.loc n) st
  | .ok _ _ => .err
  | .exc c st => .exc c st
  | .err => .err

/-- no list that may change has changed -/
def keepL (st0 st : Store) : Prop := ∀ (n : Nat) (xs : List W), st0[n]? = some (some (.lst xs)) → st[n]? = some (some (.lst xs))
mutual
def sameW : W → W → Bool
  | .non, .non => true
  | .bl a, .bl b => decide (a = b)
  | .int a, .int b => decide (a = b)
  | .str a, .str b => decide (a = b)
  | .tup xs, .tup ys => sameWs xs ys
  | .lst k xs, .lst l ys => decide (k = l) && sameWs xs ys
  | .loc a, .loc b => decide (a = b)
  | .exn a, .exn b => decide (a = b)
  | .clo a, .clo b => decide (a = b)
  | .fn a xs, .fn b ys => decide (a = b) && sameWs xs ys
  | _, _ => false
def sameWs : List W → List W → Bool
  | [], [] => true
  | x :: xs, y :: ys => sameW x y && sameWs xs ys
  | _, _ => false
end
mutual
theorem sameW_ok : ∀ (a b : W), sameW a b = true → a = b
  | .non, b, h => by cases b <;> simp_all [sameW]
  | .bl a, b, h => by cases b <;> simp_all [sameW]
  | .int a, b, h => by cases b <;> simp_all [sameW]
  | .str a, b, h => by cases b <;> simp_all [sameW]
  | .loc a, b, h => by cases b <;> simp_all [sameW]
  | .exn a, b, h => by cases b <;> simp_all [sameW]
  | .clo a, b, h => by cases b <;> simp_all [sameW]
  | .fn i xs, b, h => by
    cases b with
    | fn j ys =>
      unfold sameW at h
      rw [Bool.and_eq_true, decide_eq_true_eq] at h
      rw [h.1, sameWs_ok xs ys h.2]
    | _ => simp [sameW] at h
  | .tup xs, b, h => by
    cases b with
    | tup ys =>
      unfold sameW at h
      rw [sameWs_ok xs ys h]
    | _ => simp [sameW] at h
  | .lst k xs, b, h => by
    cases b with
    | lst l ys =>
      unfold sameW at h
      rw [Bool.and_eq_true, decide_eq_true_eq] at h
      rw [h.1, sameWs_ok xs ys h.2]
    | _ => simp [sameW] at h
theorem sameWs_ok : ∀ (xs ys : List W), sameWs xs ys = true → xs = ys
  | [], ys, h => by cases ys <;> simp_all [sameWs]
  | x :: xs, ys, h => by
    cases ys with
    | nil => simp [sameWs] at h
    | cons y ys =>
      unfold sameWs at h
      rw [Bool.and_eq_true] at h
      rw [sameW_ok x y h.1, sameWs_ok xs ys h.2]
end
mutual
theorem sameW_refl : ∀ (a : W), sameW a a = true
  | .non => by simp [sameW]
  | .bl a => by simp [sameW]
  | .int a => by simp [sameW]
  | .str a => by simp [sameW]
  | .loc a => by simp [sameW]
  | .exn a => by simp [sameW]
  | .clo a => by simp [sameW]
  | .fn i xs => by
    unfold sameW
    rw [sameWs_refl xs]
    simp
  | .tup xs => by
    unfold sameW
    exact sameWs_refl xs
  | .lst k xs => by
    unfold sameW
    rw [sameWs_refl xs]
    simp
theorem sameWs_refl : ∀ (xs : List W), sameWs xs xs = true
  | [] => by simp [sameWs]
  | x :: xs => by
    unfold sameWs
    rw [sameW_refl x, sameWs_refl xs]
    rfl
end
def keepH : Option O → Option (Option O) → Bool
  | some (.lst xs), o => match o with
    | some (some (.lst ys)) => sameWs xs ys
    | _ => false
  | _, _ => true
def keepB : Store → Store → Bool
  | [], _ => true
  | o :: r, st => keepH o st.head? && keepB r st.tail
theorem keepH_iff {o : Option O} {p : Option (Option O)} : keepH o p = true ↔ ∀ xs, o = some (.lst xs) → p = some (some (.lst xs)) := by
  cases o with
  | none => exact ⟨fun _ xs e => (by cases e), fun _ => rfl⟩
  | some ob => cases ob with
    | lst xs =>
      constructor
      · intro h ys e
        cases e
        cases p with
        | none => cases h
        | some q => cases q with
          | none => cases h
          | some q => cases q with
            | lst zs => rw [sameWs_ok xs zs h]
            | ins c fs => cases h
            | dct kvs => cases h
            | tbl q => cases h
      · intro h
        rw [h xs rfl]
        exact sameWs_refl xs
    | ins c fs => exact ⟨fun _ xs e => (by cases e), fun _ => rfl⟩
    | dct kvs => exact ⟨fun _ xs e => (by cases e), fun _ => rfl⟩
    | tbl q => exact ⟨fun _ xs e => (by cases e), fun _ => rfl⟩
theorem keep_iff : ∀ (st0 st : Store), keepB st0 st = true ↔ keepL st0 st
  | [], st => ⟨fun _ n xs e => (by simp at e), fun _ => rfl⟩
  | o :: r, st => by
    show (keepH o st.head? && keepB r st.tail) = true ↔ _
    rw [Bool.and_eq_true, keepH_iff, keep_iff r st.tail]
    constructor
    · rintro ⟨h1, h2⟩ n xs e
      cases n with
      | zero =>
        have := h1 xs (by simpa using e)
        rw [List.head?_eq_getElem?] at this
        exact this
      | succ n =>
        have := h2 n xs (by simpa using e)
        rw [List.getElem?_tail] at this
        exact this
    · intro h
      refine ⟨fun xs e => ?_, fun n xs e => ?_⟩
      · rw [List.head?_eq_getElem?]
        exact h 0 xs (by simp [e])
      · rw [List.getElem?_tail]
        exact h (n + 1) xs (by simpa using e)
instance (st0 st : Store) : Decidable (keepL st0 st) := decidable_of_iff _ (keep_iff st0 st)
/-! ### functions as values -/
mutual
/-- data without exceptions, functions -/
def plW : W → Bool
  | .exn _ => false
  | .clo _ => false
  | .fn _ _ => false
  | .tup xs => plWs xs
  | .lst _ xs => plWs xs
  | _ => true
def plWs : List W → Bool
  | [] => true
  | x :: xs => plW x && plWs xs
end
def plO : Option O → Bool
  | some (.lst xs) => plWs xs
  | some (.ins _ fs) => fs.all fun p => plW p.2
  | some (.dct kvs) => kvs.all fun p => plW p.2
  | _ => true
def plS (st : Store) : Bool := st.all plO
mutual
/-- no caught exception in it -/
def neW : W → Bool
  | .exn _ => false
  | .fn _ xs => neWs xs
  | .tup xs => neWs xs
  | .lst _ xs => neWs xs
  | _ => true
def neWs : List W → Bool
  | [] => true
  | x :: xs => neW x && neWs xs
end
def neE (Γ : Env) : Bool := Γ.all fun o => match o with
  | some w => neW w
  | none => true
mutual
/-- own functions opened: what they captured is read -/
def opW (cap : Nat → Option (List W)) : W → Option W
  | .clo i => (cap i).map (.fn i ·)
  | .tup xs => (opWs cap xs).map .tup
  | .lst k xs => (opWs cap xs).map (.lst k ·)
  | .fn _ _ => none
  | .exn _ => none
  | w => some w
def opWs (cap : Nat → Option (List W)) : List W → Option (List W)
  | [] => some []
  | x :: xs => match opW cap x, opWs cap xs with
    | some y, some ys => some (y :: ys)
    | _, _ => none
end
def slW1 (Γ : Env) (j : Nat) : Option W := match Γ[j]? with
  | some (some w) => if plW w then some w else none
  | _ => none
def slots (Γ : Env) : List Nat → Option (List W)
  | [] => some []
  | j :: js => match slW1 Γ j, slots Γ js with
    | some w, some ws => some (w :: ws)
    | _, _ => none
def capOf (Γ : Env) (tb : List (Nat × List Nat)) (i : Nat) : Option (List W) := (tb.lookup i).bind fun js => slots Γ js
/-- what leaves is plain -/
def outP (r : R W) : R W := match r with
  | .ok w st => if plW w && plS st then .ok w st else .err
  | .exc c st => if plS st then .exc c st else .err
  | .err => .err
def isxW (sub : Nat → Nat → Bool) (c : Nat) : Ty → Option W
  | .cls d _ => some (.bl (sub c d))
  | .ty n => if n = "ValueError" then some (.bl true) else none
def isTbl (st : Store) (t : Nat) (q : Str) : Bool := match st[t]? with
  | some (some (.tbl p)) => decide (p = q)
  | _ => false
def kpI (st0 : Store) (f : Env → Store → R Bool) : Env → Store → R Bool := fun Γ st => if keepL st0 st then f Γ st else .err
def kpR (st0 st : Store) (r : R W) : R W := if keepL st0 st then r else .err
noncomputable section
variable (Φ : Nat → List W → Store → R W) (sub : Nat → Nat → Bool)
mutual
def evE : ME → Env → Store → R W
  | .var i, Γ, st => match Γ[i]? with
    | some (some w) => .ok w st
    | _ => .err
  | .cst c, _, st => .ok c st
  | .glb _ i, _, st => .ok (.int i) st
  | .tup es, Γ, st => (evEs es Γ st).bind fun ws st => if ws.length ≤ lim then .ok (.tup ws) st else .err
  | .lst mu es, Γ, st => (evEs es Γ st).bind fun ws st => if ws.length ≤ lim then mkL mu ws st else .err
  | .dct0, _, st => .ok (.loc st.length) (st ++ [some (.dct [])])
  | .bin o a b, Γ, st => (evE a Γ st).bind fun x st => (evE b Γ st).bind fun y st => match o with
    | .add => liftO (addW st x y) st
    | .mul => match x with
      | .lst _ _ => liftO (repW x y) st
      | _ => liftO (bopW o x y) st
    | _ => liftO (bopW o x y) st
  | .neg a, Γ, st => (evE a Γ st).bind fun x st => match x with
    | .int i => .ok (.int (-i)) st
    | _ => .err
  | .not a, Γ, st => (evE a Γ st).bind fun x st => match x with
    | .bl b => .ok (.bl (!b)) st
    | _ => .err
  | .cmp o a b, Γ, st => (evE a Γ st).bind fun x st => (evE b Γ st).bind fun y st => liftO (copW st o x y) st
  | .cmp2 o p a b c, Γ, st => (evE a Γ st).bind fun x st => (evE b Γ st).bind fun y st => (liftO (copW st o x y) st).bind fun r st => match r with
    | .bl true => (evE c Γ st).bind fun z st => liftO (copW st p y z) st
    | .bl false => .ok (.bl false) st
    | _ => .err
  | .and es, Γ, st => evAnd es Γ st
  | .or es, Γ, st => evOr es Γ st
  | .ite c a b, Γ, st => (evE c Γ st).bind fun x st => match x with
    | .bl true => evE a Γ st
    | .bl false => evE b Γ st
    | _ => .err
  | .idx a i, Γ, st => (evE a Γ st).bind fun x st => (evE i Γ st).bind fun y st => liftO (idxW st x y) st
  | .sli a lo hi, Γ, st => (evE a Γ st).bind fun x st => (evO lo Γ st).bind fun l st => (evO hi Γ st).bind fun h st => liftO (slW st x l h) st
  | .rev a, Γ, st => (evE a Γ st).bind fun x st => liftO (revW st x) st
  | .b1 f a, Γ, st => (evE a Γ st).bind fun x st => liftO (b1W st f x) st
  | .b2 f a b, Γ, st => (evE a Γ st).bind fun x st => (evE b Γ st).bind fun y st => liftO (b2W f x y) st
  | .isi a t, Γ, st => (evE a Γ st).bind fun x st => liftO (isiW sub st x t) st
  | .call p f es, Γ, st => (evEs es Γ st).bind fun ws st => match p with
    | true => pureCall (Φ f) ws st
    | false => Φ f ws st
  | .lc mu vs t it ifs elt, Γ, st => (evI it Γ st).bind fun xs st =>
      (lcGo (asgT t) (evIfs ifs) (evE elt) (wipeE Γ (vs.map (·.2))) xs st).calm fun ys st => mkL mu ys st
  | .fld a f cs, Γ, st => (evE a Γ st).bind fun x st => liftO (fldW st x f cs) st
  | .mk c f es, Γ, st => (evEs es Γ st).bind fun ws st => madeI st.length (Φ f (.loc st.length :: ws) (st ++ [some (.ins c [])]))
  | .meth o m tb es, Γ, st => (evE o Γ st).bind fun x st => match (insC st x m).bind fun c => tb.lookup c with
    | some f => (evEs es Γ st).bind fun ws st => Φ f (x :: ws) st
    | none => .err
  | .dget d k, Γ, st => (evE d Γ st).bind fun x st => (evE k Γ st).bind fun y st => liftO (dgetW st x y) st
  | .din neg k d, Γ, st => (evE k Γ st).bind fun y st => (evE d Γ st).bind fun x st => liftO (dinW st neg y x) st
  | .listM a, Γ, st => (evE a Γ st).bind fun x st => mkO (b1W st .list x) st
  | .addM a b, Γ, st => (evE a Γ st).bind fun x st => (evE b Γ st).bind fun y st => mkO (addW st x y) st
  | .indx a e, Γ, st => (evE a Γ st).bind fun x st => match seqL st x with
    | some _ => (evE e Γ st).bind fun y st => liftO (indW st x y) st
    | none => .err
  | .callM f es, Γ, st => (evEs es Γ st).bind fun ws st => pureCallM (Φ f) ws st
  | .mk0 c, _, st => .ok (.loc st.length) (st ++ [some (.ins c [])])
  | .lcP mu vs t it ifs elt, Γ, st => (evIP it Γ st).bind fun xs st0 =>
      (lcGo (asgT t) (kpI st0 (evIfs ifs)) (evE elt) (wipeE Γ (vs.map (·.2))) xs st0).calm fun ys st => kpR st0 st (mkL mu ys st)
  | .isx i t, Γ, st => match Γ[i]? with
    | some (some (.exn c)) => liftO (isxW sub c t) st
    | _ => .err
  | .lam i t q, _, st => if isTbl st t q then .ok (.clo i) st else .err
  | .lam0 i t q, _, st => if isTbl st t q then .ok (.fn i []) st else .err
  | .callF f tb es, Γ, st => (evEs es Γ st).bind fun ws st => match opWs (capOf Γ tb) ws with
    | some ws' => outP (Φ f ws' st)
    | none => .err
  | .calv v es, Γ, st => match Γ[v]? with
    | some (some (.fn i cs)) => (evEs es Γ st).bind fun ws st => if plWs ws && plWs cs && plS st then Φ i (ws ++ cs) st else .err
    | _ => .err
  | .cnt a e, Γ, st => (evE a Γ st).bind fun x st => match seqL st x with
    | some _ => (evE e Γ st).bind fun y st => liftO (cntW st x y) st
    | none => .err
  | .lrg es, Γ, st => (evEs es Γ st).bind fun ws st => liftO ((rgW ws).map fun xs => .lst .fz xs) st
  | .lzp a b, Γ, st => (evE a Γ st).bind fun x st => (evE b Γ st).bind fun y st => match x, y with
    | .lst _ xs, .lst _ ys => .ok (.lst .fz (zipW xs ys)) st
    | _, _ => .err
def evEs : List ME → Env → Store → R (List W)
  | [], _, st => .ok [] st
  | e :: es, Γ, st => (evE e Γ st).bind fun w st => (evEs es Γ st).bind fun ws st => .ok (w :: ws) st
def evO : Option ME → Env → Store → R (Option Int)
  | none, _, st => .ok none st
  | some e, Γ, st => (evE e Γ st).bind fun w st => match w with
    | .int i => .ok (some i) st
    | _ => .err
def evAnd : List ME → Env → Store → R W
  | [], _, _ => .err
  | [e], Γ, st => evE e Γ st
  | e :: e2 :: es, Γ, st => (evE e Γ st).bind fun w st => match w with
    | .bl true => evAnd (e2 :: es) Γ st
    | .bl false => .ok (.bl false) st
    | _ => .err
def evOr : List ME → Env → Store → R W
  | [], _, _ => .err
  | [e], Γ, st => evE e Γ st
  | e :: e2 :: es, Γ, st => (evE e Γ st).bind fun w st => match w with
    | .bl false => evOr (e2 :: es) Γ st
    | .bl true => .ok (.bl true) st
    | _ => .err
def evIfs : List ME → Env → Store → R Bool
  | [], _, st => .ok true st
  | e :: es, Γ, st => (evE e Γ st).bind fun w st => match w with
    | .bl true => evIfs es Γ st
    | .bl false => .ok false st
    | _ => .err
def evI : It → Env → Store → R (List W)
  | .sq e, Γ, st => (evE e Γ st).bind fun w st => match w with
    | .tup xs => if xs.length ≤ lim then .ok xs st else .err
    | .lst _ xs => .ok xs st
    | _ => .err
  | .rg es, Γ, st => (evEs es Γ st).bind fun ws st => liftO (rgW ws) st
  | .zp a b, Γ, st => (evE a Γ st).bind fun x st => (evE b Γ st).bind fun y st => match x, y with
    | .lst _ xs, .lst _ ys => .ok (zipW xs ys) st
    | _, _ => .err
  | .en e, Γ, st => (evE e Γ st).bind fun w st => match w with
    | .lst _ xs => .ok (enumW 0 xs) st
    | _ => .err
  | .zp4 a b c d, Γ, st => (evE a Γ st).bind fun x st => (evE b Γ st).bind fun y st => (evE c Γ st).bind fun z st => (evE d Γ st).bind fun u st => match x, y, z, u with
    | .lst _ xs, .lst _ ys, .lst _ zs, .lst _ us => .ok (zip4W xs ys zs us) st
    | _, _, _, _ => .err
/-- lists that may change are walked, too -/
def evIP : It → Env → Store → R (List W)
  | .sq e, Γ, st => (evE e Γ st).bind fun w st => match seqL st w with
    | some (_, xs) => .ok xs st
    | none => match w with
      | .tup xs => if xs.length ≤ lim then .ok xs st else .err
      | _ => .err
  | .zp a b, Γ, st => (evE a Γ st).bind fun x st => (evE b Γ st).bind fun y st => match seqL st x, seqL st y with
    | some (_, xs), some (_, ys) => .ok (zipW xs ys) st
    | _, _ => .err
  | _, _, _ => .err
end

/-- behind an expression in a statement: what is raised leaves with the slots as they are -/
def thenS {α : Type} (r : R α) (Γ : Env) (f : α → Store → Out) : Out := match r with
  | .ok a st => f a st
  | .exc c st => .xc c Γ st
  | .err => .er
def forGo (asg : W → Env → Option Env) (body : Env → Store → Out) : List W → Env → Store → Out
  | [], Γ, st => .nx Γ st
  | x :: xs, Γ, st => match asg x Γ with
    | none => .er
    | some Γ' => match body Γ' st with
      | .nx Γ'' st' => forGo asg body xs Γ'' st'
      | o => o
def whGo (c : Env → Store → R W) (body : Env → Store → Out) : Nat → Env → Store → Out
  | 0, _, _ => .er
  | n + 1, Γ, st => match c Γ st with
    | .ok (.bl true) st => match body Γ st with
      | .nx Γ'' st' => whGo c body n Γ'' st'
      | o => o
    | .ok (.bl false) st => .nx Γ st
    | _ => .er
def isLoc (st : Store) (x : W) : Option Nat := match x with
  | .loc l => match st[l]? with
    | some (some (.lst _)) => some l
    | _ => none
  | _ => none
def setL (st : Store) (o i v : W) : Option Store := match o, i with
  | .loc l, .int k => match st[l]? with
    | some (some (.lst xs)) => match L2.ixN xs.length k with
      | some j => some (st.set l (some (.lst (xs.set j v))))
      | none => none
    | _ => none
  | _, _ => none
/-- xs.remove(x): the first that is equal goes; one must -/
def remW (st : Store) (x y : W) : Option Store := match x with
  | .loc l => match st[l]? with
    | some (some (.lst xs)) => match dOk 8 (.lst .vw (xs.map (deep st 7))) && dOk 8 (deep st 8 y) with
      | true => match (xs.map (deep st 7)).findIdx? (fun z => eqW z (deep st 8 y)) with
        | some j => some (st.set l (some (.lst (xs.eraseIdx j))))
        | none => none
      | false => none
    | _ => none
  | _ => none
/-- xs.pop(): the last one goes -/
def triO (i : Nat) (o : Out) : Out := match o with
  | .nx Γ st => if neE (Γ.set i none) && plS st then .nx (Γ.set i none) st else .er
  | .rt w st => if neW w && plS st then .rt w st else .er
  | _ => .er
def popW (st : Store) (l : Nat) : Option Store := match st[l]? with
  | some (some (.lst xs)) => if xs.length = 0 then none else some (st.set l (some (.lst (xs.eraseIdx (xs.length - 1)))))
  | _ => none
mutual
def evS : MS → Env → Store → Out
  | .ex e, Γ, st => thenS (evE Φ sub e Γ st) Γ fun _ st => .nx Γ st
  | .as t e, Γ, st => thenS (evE Φ sub e Γ st) Γ fun w st => match asgT t w Γ with
    | some Γ' => .nx Γ' st
    | none => .er
  | .par ids es, Γ, st => thenS (evEs Φ sub es Γ st) Γ fun ws st => match asgTs (ids.map .nm) ws Γ with
    | some Γ' => .nx Γ' st
    | none => .er
  | .iff c a b, Γ, st => thenS (evE Φ sub c Γ st) Γ fun w st => match w with
    | .bl true => evSs a Γ st
    | .bl false => evSs b Γ st
    | _ => .er
  | .fo t it body, Γ, st => thenS (evI Φ sub it Γ st) Γ fun xs st => forGo (asgT t) (evSs body) xs Γ st
  | .wh n c body, Γ, st => whGo (evE Φ sub c) (evSs body) n Γ st
  | .rt e, Γ, st => thenS (evE Φ sub e Γ st) Γ fun w st => .rt w st
  | .rtN, _, st => .rt .non st
  | .rs c, Γ, st => .xc c Γ st
  | .app o e, Γ, st => thenS (evE Φ sub o Γ st) Γ fun x st => match isLoc st x with
    | some l => thenS (evE Φ sub e Γ st) Γ fun y st => match st[l]? with
      | some (some (.lst xs)) => if xs.length < lim then .nx Γ (st.set l (some (.lst (xs ++ [y])))) else .er
      | _ => .er
    | none => .er
  | .si o i e, Γ, st => thenS (evE Φ sub e Γ st) Γ fun v st => thenS (evE Φ sub o Γ st) Γ fun x st => thenS (evE Φ sub i Γ st) Γ fun y st => match setL st x y v with
    | some st' => .nx Γ st'
    | none => .er
  | .si2 o1 i1 o2 i2 e, Γ, st => thenS (evE Φ sub e Γ st) Γ fun v st => match v with
    | .tup [v1, v2] => thenS (evE Φ sub o1 Γ st) Γ fun x st => thenS (evE Φ sub i1 Γ st) Γ fun y st => match setL st x y v1 with
      | some st => thenS (evE Φ sub o2 Γ st) Γ fun x st => thenS (evE Φ sub i2 Γ st) Γ fun y st => match setL st x y v2 with
        | some st => .nx Γ st
        | none => .er
      | none => .er
    | _ => .er
  | .fz i, Γ, st => match Γ[i]? with
    | some (some (.loc l)) => match st[l]? with
      | some (some (.lst xs)) => .nx (Γ.set i (some (.lst .fz xs))) (st.set l none)
      | _ => .er
    | _ => .er
  | .ps, Γ, st => .nx Γ st
  | .sfld o f cs e, Γ, st => thenS (evE Φ sub e Γ st) Γ fun v st => thenS (evE Φ sub o Γ st) Γ fun x st => match sfldW st x f cs v with
    | some st' => .nx Γ st'
    | none => .er
  | .rem o e, Γ, st => thenS (evE Φ sub o Γ st) Γ fun x st => match isLoc st x with
    | some l => thenS (evE Φ sub e Γ st) Γ fun y st => match remW st (.loc l) y with
      | some st' => .nx Γ st'
      | none => .er
    | none => .er
  | .pop o, Γ, st => thenS (evE Φ sub o Γ st) Γ fun x st => match isLoc st x with
    | some l => match popW st l with
      | some st' => .nx Γ st'
      | none => .er
    | none => .er
  | .clr o, Γ, st => thenS (evE Φ sub o Γ st) Γ fun x st => match isLoc st x with
    | some l => .nx Γ (st.set l (some (.lst [])))
    | none => .er
  | .tri i cc body h, Γ, st => match evSs body Γ st with
    | .xc c Γ1 st1 => if sub c cc then triO i (evSs h (Γ1.set i (some (.exn c))) st1) else .er
    | o => o
  | .dput d k e, Γ, st => thenS (evE Φ sub e Γ st) Γ fun v st => thenS (evE Φ sub d Γ st) Γ fun x st => thenS (evE Φ sub k Γ st) Γ fun y st => match dputW st x y v with
    | some st' => .nx Γ st'
    | none => .er
def evSs : List MS → Env → Store → Out
  | [], Γ, st => .nx Γ st
  | s :: ss, Γ, st => match evS s Γ st with
    | .nx Γ' st' => evSs ss Γ' st'
    | o => o
end
end
/-- one def: its name, where it stands (by its alias), its slots, how many are parameters, its body -/
structure Df where
  name : Str
  qual : Str
  at_ : Str × Option Str
  N : List Str
  np : Nat
  body : List MS
  /-- it makes functions that capture; it is a lambda: so many are captured -/
  mkr : Bool := false
  cap : Option Nat := none
/-- a def's end -/
def endD : Out → R W
  | .nx _ st => .ok .non st
  | .rt w st => .ok w st
  | .xc c _ st => .exc c st
  | .er => .err
def startE (d : Df) (ws : List W) : Env := ws.map some ++ List.replicate (d.N.length - ws.length) none
/-- a def that makes functions that capture: only what is plain comes in and leaves -/
def grdD (mk : Bool) (ws : List W) (st : Store) (r : R W) : R W := match mk with
  | false => r
  | true => if plWs ws && plS st then outP r else .err
/-- native defs: by their own functions -/
abbrev Nat_ := Nat → Option (List W → Option W)
/-- the program's defs, so many calls deep -/
noncomputable def phi (T : List Df) (nat : Nat → Option (List W → Option W)) (sub : Nat → Nat → Bool) : Nat → Nat → List W → Store → R W
  | 0, _, _, _ => .err
  | k + 1, f, ws, st => match nat f with
    | some g => liftO (g ws) st
    | none => match T[f]? with
      | some d => if ws.length = d.np then grdD d.mkr ws st (endD (evSs (phi T nat sub k) sub d.body (startE d ws) st)) else .err
      | none => .err
end Mi

set_option Elab.async false
set_option linter.all false
set_option maxRecDepth 100000
/-! Mini Python: the text that a mini def stands for, and what stands behind the data. -/
namespace Mi
open PySem PySem.Spec PyProof.Rows L2

/-- a lambda's names: its parameters, what it captures; what its text must be -/
structure LamI where
  ps : List Str
  fr : List Str
  P : Arguments → Expr → Scope → Prop
/-- what stays fixed while a def runs: the caught exception, the cells of the frame, where the tables stand, the lambdas -/
structure Ux where
  xa : Option (Addr × Nat)
  cells : Option (List (Str × Addr))
  tabs : List Addr
  lam : Nat → LamI
structure UU where
  p : Addr → Prop
  x : Ux
structure Cg where
  fn : Nat → Addr
  x : Ux
instance : CoeFun Cg fun _ => Nat → Addr := ⟨Cg.fn⟩
/-- the object at a is a function that a lambda made -/
def LamO (a : Addr) (q : Str) (params : Arguments) (body : Expr) (scope : Scope) (cl : List (Str × Addr)) (c : Addr) : HO :=
  .ext fun h => ∃ pm ctv, h.get? a = some (PySem.W.kla_obj "<lambda>" q params body scope cl pm c ctv)
/-- the object at c is a cell that holds v -/
def CelO (c : Addr) (v : V) : HO := .ext fun h => ∃ u, RelV v u ∧ h.IsCell c (some u)
/-- the cells of a function hold what is told -/
structure CapF (F : Hp) (cl : List (Str × Addr)) (fr : List Str) (vs : List V) : Prop where
  len : vs.length = fr.length
  own : ∀ y c, cl.lookup y = some c → y ∈ fr
  inj : ∀ x y c, cl.lookup x = some c → cl.lookup y = some c → x = y
  has : ∀ (k : Nat) (y : Str), fr[k]? = some y → ∃ c v o, cl.lookup y = some c ∧ vs[k]? = some v ∧ F c = some (.frz o (CelO c v))
theorem CapF.mono {F F' : Hp} {cl : List (Str × Addr)} {fr : List Str} {vs : List V} (c : CapF F cl fr vs) (e : ∀ b o, F b = some o → F' b = some o) : CapF F' cl fr vs :=
  ⟨c.len, c.own, c.inj, fun k y h => by
    obtain ⟨a, v, o, h1, h2, h3⟩ := c.has k y h
    exact ⟨a, v, o, h1, h2, e _ _ h3⟩⟩
/-- a function with its text, in what stays -/
def FnAt (F : Hp) (L : LamI) (a : Addr) (q : Str) (params : Arguments) (body : Expr) (scope : Scope) (cl : List (Str × Addr)) (c : Addr) : Prop :=
  F a = some (LamO a q params body scope cl c) ∧ F c = some (LamX.CodeO c q) ∧ L.P params body scope
/-- the state of the data: what is only seen, the places, what stays, the store, the tracked heap -/
structure S4 where
  U : UU
  ρ : List Addr
  F : Hp
  st : Store
  H : Hp
def Live (S : S4) (a : Addr) : Prop := ∃ (n : Nat) (o : O), S.st[n]? = some (some o) ∧ S.ρ[n]? = some a
section
variable (K : PySem.W.Frag) (ca : Cg)
def Lk (U : UU) (F : Hp) (k : LK) (a : Addr) (vs : List V) : Prop := match k with
  | .gv => SqL K F a vs
  | .vw => F a = some (.lst vs)
  | .fz => F a = some (.lst vs) ∧ ¬ U.p a
mutual
def Rw (U : UU) (ρ : List Addr) (F : Hp) : V → W → Prop
  | v, .non => v = .non
  | v, .bl b => v = .bl b
  | v, .int i => v = .int i
  | v, .str s => v = .str s
  | v, .tup ws => ∃ a vs, v = .ref a ∧ SqT K F a vs ∧ Rws U ρ F vs ws
  | v, .lst k ws => ∃ a vs, v = .ref a ∧ Lk K U F k a vs ∧ vs.length ≤ lim ∧ Rws U ρ F vs ws
  | v, .loc n => ∃ a, v = .ref a ∧ ρ[n]? = some a
  | v, .exn c => ∃ a, v = .ref a ∧ U.x.xa = some (a, c)
  | v, .clo i => ∃ a q params body scope c cells, v = .ref a ∧ U.x.cells = some cells ∧ FnAt F (U.x.lam i) a q params body scope (cloFrom cells scope.names []) c
  | v, .fn i ws => ∃ a q params body scope cl c vs, v = .ref a ∧ FnAt F (U.x.lam i) a q params body scope cl c ∧ CapF F cl (U.x.lam i).fr vs ∧ Rws U ρ F vs ws
def Rws (U : UU) (ρ : List Addr) (F : Hp) : List V → List W → Prop
  | vs, [] => vs = []
  | vs, w :: ws => ∃ v r, vs = v :: r ∧ Rw U ρ F v w ∧ Rws U ρ F r ws
end
abbrev RwS (S : S4) (v : V) (w : W) : Prop := Rw K S.U S.ρ S.F v w
abbrev RwsS (S : S4) (vs : List V) (ws : List W) : Prop := Rws K S.U S.ρ S.F vs ws
def Rfs (S : S4) : List (Str × V) → List (Str × W) → Prop
  | fv, [] => fv = []
  | fv, (f, w) :: r => ∃ v rv, fv = (f, v) :: rv ∧ RwS K S v w ∧ Rfs S rv r
def Rks (S : S4) : List (Key × V) → List (Int × W) → Prop
  | fv, [] => fv = []
  | fv, (f, w) :: r => ∃ v rv, fv = (Sum.inl f, v) :: rv ∧ RwS K S v w ∧ Rks S rv r
def Ro (S : S4) (a : Addr) : O → Prop
  | .lst ws => ∃ vs, S.H a = some (.lst vs) ∧ vs.length ≤ lim ∧ RwsS K S vs ws
  | .ins c fs => ∃ dx fv, S.H a = some (.ins (ca c) dx fv) ∧ Rfs K S fv fs
  | .dct kvs => ∃ kv, S.H a = some (.dK kv) ∧ kv.length ≤ 1000 ∧ Rks K S kv kvs
  | .tbl q => ∃ ps, S.H a = some (.tbl ps) ∧ TriplesOk ps.toList ∧ ∀ (pos : Pos) (cv : Value), codeAmong pos ps.toList = some cv → ∃ c, cv = .ref c ∧ S.F c = some (LamX.CodeO c q)
structure Ok (S : S4) : Prop where
  len : S.ρ.length = S.st.length
  sub : Same S.F S.H
  vw : ∀ a, S.U.p a → ∃ o, S.F a = some o
  liv : ∀ (n : Nat) (o : O) (a : Addr), S.st[n]? = some (some o) → S.ρ[n]? = some a → S.F a = none ∧ Ro K ca S a o
  inj : ∀ (n n' : Nat) (o o' : O) (a : Addr), S.st[n]? = some (some o) → S.st[n']? = some (some o') → S.ρ[n]? = some a → S.ρ[n']? = some a → n = n'
  tx : S.U.x = ca.x
  tt : ∀ (t : Nat) (P : Addr), ca.x.tabs[t]? = some P → S.ρ[t]? = some P
structure Tr (S S' : S4) : Prop where
  eU : S'.U = S.U
  ext : ∀ (n : Nat) (a : Addr), S.ρ[n]? = some a → S'.ρ[n]? = some a
  fs : Same S.F S'.F
  keep : ∀ b o, S.H b = some o → ¬ Live S b → S'.H b = some o
  new : ∀ b, Live S' b → Live S b ∨ S.H b = none
  thr : ∀ b o, S.H b = some o → ∃ o', S'.H b = some o'
  fnew : ∀ b o, S'.F b = some o → S.F b = some o ∨ S.H b = none ∨ Live S b
  lenle : S.st.length ≤ S'.st.length
  ok : Ok K ca S'
end
section
variable {K : PySem.W.Frag} {ca : Cg}
theorem Same.seqT {H H' : Hp} {a : Addr} {xs : List V} (e : Same H H') (h : SqT K H a xs) : SqT K H' a xs := by
  rcases h with (h | ⟨o, h⟩) | h
  · exact .inl (.inl (e _ _ h))
  · exact .inl (.inr ⟨o, e _ _ h⟩)
  · exact .inr h
theorem Lk.mono {U : UU} {F F' : Hp} {k : LK} {a : Addr} {vs : List V} (e : Same F F') (h : Lk K U F k a vs) : Lk K U F' k a vs := by
  cases k with
  | gv => exact Same.seq e h
  | vw => exact e _ _ h
  | fz => exact ⟨e _ _ h.1, h.2⟩
theorem FnAt.mono {F F' : Hp} {L : LamI} {a : Addr} {q : Str} {params : Arguments} {body : Expr} {scope : Scope} {cl : List (Str × Addr)} {c : Addr} (h : FnAt F L a q params body scope cl c) (e : Same F F') : FnAt F' L a q params body scope cl c := ⟨e _ _ h.1, e _ _ h.2.1, h.2.2⟩
theorem Lk.seq {U : UU} {F : Hp} {k : LK} {a : Addr} {vs : List V} (h : Lk K U F k a vs) : SqL K F a vs := by
  cases k with
  | gv => exact h
  | vw => exact SqL.of h
  | fz => exact SqL.of h.1
mutual
theorem Rw.mono {U : UU} {ρ ρ' : List Addr} {F F' : Hp} (h1 : ∀ (n : Nat) (a : Addr), ρ[n]? = some a → ρ'[n]? = some a) (h2 : Same F F') : ∀ (v : V) (w : W), Rw K U ρ F v w → Rw K U ρ' F' v w
  | v, .non, h => h
  | v, .bl b, h => h
  | v, .int i, h => h
  | v, .str s, h => h
  | v, .tup ws, h => by
    obtain ⟨a, vs, e, q, r⟩ := h
    exact ⟨a, vs, e, Same.seqT h2 q, Rws.mono h1 h2 vs ws r⟩
  | v, .lst k ws, h => by
    obtain ⟨a, vs, e, q, l, r⟩ := h
    exact ⟨a, vs, e, q.mono h2, l, Rws.mono h1 h2 vs ws r⟩
  | v, .loc n, h => by
    obtain ⟨a, e, q⟩ := h
    exact ⟨a, e, h1 _ _ q⟩
  | v, .exn c, h => h
  | v, .clo i, h => by
    obtain ⟨a, q, params, body, scope, c, cells, e, u, f⟩ := h
    exact ⟨a, q, params, body, scope, c, cells, e, u, f.mono h2⟩
  | v, .fn i ws, h => by
    obtain ⟨a, q, params, body, scope, cl, c, vs, e, f, g, r⟩ := h
    exact ⟨a, q, params, body, scope, cl, c, vs, e, f.mono h2, g.mono h2, Rws.mono h1 h2 vs ws r⟩
theorem Rws.mono {U : UU} {ρ ρ' : List Addr} {F F' : Hp} (h1 : ∀ (n : Nat) (a : Addr), ρ[n]? = some a → ρ'[n]? = some a) (h2 : Same F F') : ∀ (vs : List V) (ws : List W), Rws K U ρ F vs ws → Rws K U ρ' F' vs ws
  | vs, [], h => h
  | vs, w :: ws, h => by
    obtain ⟨v, r, e, q, t⟩ := h
    exact ⟨v, r, e, Rw.mono h1 h2 v w q, Rws.mono h1 h2 r ws t⟩
end
theorem Tr.rw {S S' : S4} (t : Tr K ca S S') {v : V} {w : W} (h : RwS K S v w) : RwS K S' v w := by
  have z := Rw.mono t.ext t.fs v w h
  show Rw K S'.U _ _ _ _
  rw [t.eU]
  exact z
theorem Tr.rws {S S' : S4} (t : Tr K ca S S') {v : List V} {w : List W} (h : RwsS K S v w) : RwsS K S' v w := by
  have z := Rws.mono t.ext t.fs v w h
  show Rws K S'.U _ _ _ _
  rw [t.eU]
  exact z
theorem Tr.refl {S : S4} (o : Ok K ca S) : Tr K ca S S := ⟨rfl, fun _ _ h => h, Same.refl _, fun _ _ h _ => h, fun _ h => .inl h, fun _ o h => ⟨o, h⟩, fun _ _ h => .inl h, Nat.le_refl _, o⟩
theorem Tr.trans {S S1 S2 : S4} (a : Tr K ca S S1) (b : Tr K ca S1 S2) : Tr K ca S S2 where
  eU := b.eU.trans a.eU
  ext := fun n x h => b.ext n x (a.ext n x h)
  fs := a.fs.trans b.fs
  keep := fun c o h n => b.keep c o (a.keep c o h n) fun l => by
    rcases a.new c l with l | e
    · exact n l
    · rw [h] at e; cases e
  new := fun c l => by
    rcases b.new c l with l | e
    · exact a.new c l
    · refine .inr ?_
      cases q : S.H c with
      | none => rfl
      | some o =>
        obtain ⟨o', h'⟩ := a.thr c o q
        rw [h'] at e; cases e
  thr := fun c o h => by
    obtain ⟨o', h'⟩ := a.thr c o h
    exact b.thr c o' h'
  fnew := fun c o h => by
    have back : S1.H c = none → S.H c = none := fun e => by
      cases q : S.H c with
      | none => rfl
      | some o =>
        obtain ⟨o', h'⟩ := a.thr c o q
        rw [h'] at e; cases e
    rcases b.fnew c o h with h | h | h
    · exact a.fnew c o h
    · exact .inr (.inl (back h))
    · rcases a.new c h with h | h
      · exact .inr (.inr h)
      · exact .inr (.inl h)
  lenle := Nat.le_trans a.lenle b.lenle
  ok := b.ok
/-- a live place is tracked, apart from what stays -/
theorem Ok.tracked {S : S4} (o : Ok K ca S) {a : Addr} (l : Live S a) : ∃ x, S.H a = some x := by
  obtain ⟨n, ob, h1, h2⟩ := l
  obtain ⟨_, r⟩ := o.liv n ob a h1 h2
  cases ob with
  | lst ws => obtain ⟨vs, h, _⟩ := r; exact ⟨_, h⟩
  | ins c fs => obtain ⟨dx, fv, h, _⟩ := r; exact ⟨_, h⟩
  | dct kvs => obtain ⟨kv, h, _⟩ := r; exact ⟨_, h⟩
  | tbl q => obtain ⟨ps, h, _⟩ := r; exact ⟨_, h⟩
theorem Ok.apart {S : S4} (o : Ok K ca S) {a : Addr} (l : Live S a) : S.F a = none := by
  obtain ⟨n, ob, h1, h2⟩ := l
  exact (o.liv n ob a h1 h2).1
theorem Rfs.mono {S S' : S4} (h : ∀ v w, RwS K S v w → RwS K S' v w) : ∀ {fv : List (Str × V)} {fs : List (Str × W)}, Rfs K S fv fs → Rfs K S' fv fs
  | fv, [], z => z
  | fv, (f, w) :: r, z => by
    obtain ⟨v, rv, e, q, t⟩ := z
    exact ⟨v, rv, e, h v w q, Rfs.mono h t⟩
theorem Rks.mono {S S' : S4} (h : ∀ v w, RwS K S v w → RwS K S' v w) : ∀ {fv : List (Key × V)} {fs : List (Int × W)}, Rks K S fv fs → Rks K S' fv fs
  | fv, [], z => z
  | fv, (f, w) :: r, z => by
    obtain ⟨v, rv, e, q, t⟩ := z
    exact ⟨v, rv, e, h v w q, Rks.mono h t⟩
theorem Ro.mono {S S' : S4} {a : Addr} {o : O} (h : ∀ v w, RwS K S v w → RwS K S' v w) (h2 : ∀ vs ws, RwsS K S vs ws → RwsS K S' vs ws) (hH : S'.H a = S.H a) (hF : Same S.F S'.F) (r : Ro K ca S a o) : Ro K ca S' a o := by
  cases o with
  | lst ws => obtain ⟨vs, e, l, q⟩ := r; exact ⟨vs, by rw [hH]; exact e, l, h2 _ _ q⟩
  | ins c fs => obtain ⟨dx, fv, e, q⟩ := r; exact ⟨dx, fv, by rw [hH]; exact e, q.mono h⟩
  | dct kvs => obtain ⟨kv, e, l, q⟩ := r; exact ⟨kv, by rw [hH]; exact e, l, q.mono h⟩
  | tbl q =>
    obtain ⟨ps, e, t, q⟩ := r
    refine ⟨ps, by rw [hH]; exact e, t, fun pos cv z => ?_⟩
    obtain ⟨c, e1, e2⟩ := q pos cv z
    exact ⟨c, e1, hF _ _ e2⟩
theorem same_upd {H : Hp} {p : Addr} {o : HO} (h : H p = none) : Same H (upd H p o) := fun b x e => by
  rw [upd_ne (ne_of_none e h)]; exact e
/-- a new thing that stays is laid -/
def S4.put (S : S4) (p : Addr) (o : HO) : S4 := ⟨S.U, S.ρ, upd S.F p o, S.st, upd S.H p o⟩
theorem Ok.put {S : S4} (k : Ok K ca S) {p : Addr} {o : HO} (hp : S.H p = none) : Tr K ca S (S.put p o) := by
  have hF : S.F p = none := k.sub.free hp
  have nl : ∀ b, Live S b → b ≠ p := fun b l e => by
    obtain ⟨x, h⟩ := k.tracked l
    rw [e, hp] at h; cases h
  have sF : Same S.F (upd S.F p o) := same_upd hF
  refine ⟨rfl, fun _ _ h => h, sF, fun b x h _ => same_upd hp b x h, fun b l => .inl l, fun b x h => ⟨x, same_upd hp b x h⟩, fun b x h => ?_, Nat.le_refl _, ⟨k.len, fun b x h => ?_, fun a h => ?_, fun n ob a h1 h2 => ?_, k.inj, k.tx, k.tt⟩⟩
  · by_cases e : b = p
    · subst e; exact .inr (.inl hp)
    · rw [show (S.put p o).F b = S.F b from upd_ne e] at h; exact .inl h
  · by_cases e : b = p
    · subst e
      rw [show (S.put b o).F b = some o from upd_same] at h
      rw [show (S.put b o).H b = some o from upd_same]
      exact h
    · rw [show (S.put p o).F b = S.F b from upd_ne e] at h
      rw [show (S.put p o).H b = S.H b from upd_ne e]
      exact k.sub b x h
  · obtain ⟨x, h⟩ := k.vw a h
    exact ⟨x, sF _ _ h⟩
  · obtain ⟨z1, z2⟩ := k.liv n ob a h1 h2
    have ne := nl a ⟨n, ob, h1, h2⟩
    refine ⟨by rw [show (S.put p o).F a = S.F a from upd_ne ne]; exact z1, z2.mono (fun v w h => Rw.mono (fun _ _ q => q) sF v w h) (fun v w h => Rws.mono (fun _ _ q => q) sF v w h) (upd_ne ne) sF⟩
/-- a new place is laid -/
def S4.alloc (S : S4) (p : Addr) (o : HO) (ob : O) : S4 := ⟨S.U, S.ρ ++ [p], S.F, S.st ++ [some ob], upd S.H p o⟩
theorem get_app {α : Type} {l : List α} {x a : α} {n : Nat} (h : (l ++ [x])[n]? = some a) : l[n]? = some a ∨ (n = l.length ∧ a = x) := by
  by_cases hn : n < l.length
  · rw [List.getElem?_append_left hn] at h; exact .inl h
  · rw [List.getElem?_append_right (Nat.le_of_not_lt hn)] at h
    have : n - l.length = 0 := by
      cases q : n - l.length with
      | zero => rfl
      | succ m => rw [q] at h; simp at h
    rw [this] at h
    simp at h
    exact .inr ⟨by omega, h.symm⟩
theorem get_old {α : Type} {l : List α} {x a : α} {n : Nat} (h : l[n]? = some a) : (l ++ [x])[n]? = some a := by
  obtain ⟨q, _⟩ := List.getElem?_eq_some_iff.mp h
  rw [List.getElem?_append_left q]; exact h
theorem Ok.alloc {S : S4} (k : Ok K ca S) {p : Addr} {o : HO} {ob : O} (hp : S.H p = none)
    (new : ∀ S' : S4, S'.U = S.U → S'.H p = some o → (∀ v w, RwS K S v w → RwS K S' v w) → (∀ v w, RwsS K S v w → RwsS K S' v w) → Ro K ca S' p ob) : Tr K ca S (S.alloc p o ob) := by
  have hF : S.F p = none := k.sub.free hp
  have nl : ∀ b, Live S b → b ≠ p := fun b l e => by
    obtain ⟨x, h⟩ := k.tracked l
    rw [e, hp] at h; cases h
  have mw : ∀ v w, RwS K S v w → RwS K (S.alloc p o ob) v w := fun v w h => Rw.mono (fun _ _ q => get_old q) (Same.refl _) v w h
  have mws : ∀ v w, RwsS K S v w → RwsS K (S.alloc p o ob) v w := fun v w h => Rws.mono (fun _ _ q => get_old q) (Same.refl _) v w h
  have old : ∀ (n : Nat) (x : O) (a : Addr), (S.st ++ [some ob])[n]? = some (some x) → (S.ρ ++ [p])[n]? = some a → (S.st[n]? = some (some x) ∧ S.ρ[n]? = some a) ∨ (n = S.st.length ∧ x = ob ∧ a = p) := fun n x a h1 h2 => by
    have hl := k.len
    rcases get_app h1 with h1 | ⟨e1, e2⟩
    · rcases get_app h2 with h2 | ⟨e1, e2⟩
      · exact .inl ⟨h1, h2⟩
      · obtain ⟨q, _⟩ := List.getElem?_eq_some_iff.mp h1
        omega
    · rcases get_app h2 with h2 | ⟨e3, e4⟩
      · obtain ⟨q, _⟩ := List.getElem?_eq_some_iff.mp h2
        omega
      · exact .inr ⟨e1, by injection e2, e4⟩
  refine ⟨rfl, fun _ _ h => get_old h, Same.refl _, fun b x h _ => same_upd hp b x h, fun b ⟨n, x, h1, h2⟩ => ?_, fun b x h => ⟨x, same_upd hp b x h⟩, fun b x h => .inl h, by show S.st.length ≤ (S.st ++ [some ob]).length; simp, ⟨by show (S.ρ ++ [p]).length = (S.st ++ [some ob]).length; simp [k.len], fun b x h => same_upd hp b x (k.sub b x h), k.vw, fun n x a h1 h2 => ?_, fun n n' x x' a h1 h2 h3 h4 => ?_, k.tx, fun t P e => get_old (k.tt t P e)⟩⟩
  · rcases old n x b h1 h2 with ⟨h1, h2⟩ | ⟨_, _, e⟩
    · exact .inl ⟨n, x, h1, h2⟩
    · exact .inr (e ▸ hp)
  · rcases old n x a h1 h2 with ⟨h1, h2⟩ | ⟨_, e1, e2⟩
    · obtain ⟨z1, z2⟩ := k.liv n x a h1 h2
      exact ⟨z1, z2.mono mw mws (upd_ne (nl a ⟨n, x, h1, h2⟩)) (Same.refl _)⟩
    · subst e1 e2
      exact ⟨hF, new _ rfl upd_same mw mws⟩
  · rcases old n x a h1 h3 with ⟨h1, h3⟩ | ⟨e1, _, e2⟩
    · rcases old n' x' a h2 h4 with ⟨h2, h4⟩ | ⟨e3, _, e4⟩
      · exact k.inj n n' x x' a h1 h2 h3 h4
      · exact absurd e4 (nl a ⟨n, x, h1, h3⟩)
    · rcases old n' x' a h2 h4 with ⟨h2, h4⟩ | ⟨e3, _, e4⟩
      · exact absurd e2 (nl a ⟨n', x', h2, h4⟩)
      · exact e1.trans e3.symm
end
end Mi

set_option Elab.async false
set_option linter.all false
set_option maxRecDepth 100000
set_option maxHeartbeats 1000000
/-! Mini Python: expressions. -/
namespace Mi
open PySem PySem.Spec PyProof.Rows L2

/-- the slots -/
structure Re (K : PySem.W.Frag) (S : S4) (σ : L2.St) (Γ : Env) : Prop where
  len : σ.length = Γ.length
  at_ : ∀ (i : Nat) (w : W), Γ[i]? = some (some w) → ∃ v, σ[i]? = some (some v) ∧ RwS K S v w
/-- where the classes stand, what the defs do, which class stands under which -/
structure Gd where
  ca : Cg
  Φ : Nat → List W → Store → R W
  sub : Nat → Nat → Bool
section
variable (K : PySem.W.Frag) (G : Gd) (Wx : WX)
def Pst {α β : Type} (Rl : S4 → β → α → Prop) (σ : L2.St) (S : S4) (r : R α) (Q : β → Hp → Prop) : Prop := match r with
  | .ok w st' => ∀ v S', S'.st = st' → Tr K G.ca S S' → Rl S' v w → Q v S'.H
  | .exc c st' => ∀ S', S'.st = st' → Tr K G.ca S S' → Wx (.ref (G.ca c)) none σ S'.H
  | .err => False
abbrev RB : S4 → Bool → W → Prop := fun _ b w => w = .bl b
abbrev RO : S4 → Option Int → Option Int → Prop := fun _ v w => v = w
/-- an expression's reading by the evaluator -/
def tE (m : ME) : TE := fun σ H Q => ∃ (Γ : Env) (S : S4), S.H = H ∧ Ok K G.ca S ∧ Re K S σ Γ ∧ Pst K G Wx (RwS K) σ S (evE G.Φ G.sub m Γ S.st) Q
def tT (m : ME) : TT := fun σ H Q => ∃ (Γ : Env) (S : S4), S.H = H ∧ Ok K G.ca S ∧ Re K S σ Γ ∧ Pst K G Wx RB σ S (evE G.Φ G.sub m Γ S.st) Q
def tA (ms : List ME) : TA := fun σ H Q => ∃ (Γ : Env) (S : S4), S.H = H ∧ Ok K G.ca S ∧ Re K S σ Γ ∧ Pst K G Wx (RwsS K) σ S (evEs G.Φ G.sub ms Γ S.st) Q
end
section
variable {K : PySem.W.Frag} {G : Gd} {Wx : WX} {σ : L2.St}
theorem Re.mono {S S' : S4} {Γ : Env} (r : Re K S σ Γ) (t : Tr K G.ca S S') : Re K S' σ Γ := ⟨r.len, fun i w h => by
  obtain ⟨v, e, q⟩ := r.at_ i w h
  exact ⟨v, e, t.rw q⟩⟩
theorem Pst.mono {α β : Type} {Rl : S4 → β → α → Prop} {S : S4} {r : R α} {Q Q' : β → Hp → Prop} (h : Pst K G Wx Rl σ S r Q) (i : ∀ v H', Q v H' → Q' v H') : Pst K G Wx Rl σ S r Q' := by
  cases r with
  | ok w st' => exact fun v S' e t q => i _ _ (h v S' e t q)
  | exc c st' => exact h
  | err => exact h
theorem Pst.later {α β : Type} {Rl : S4 → β → α → Prop} {S S1 : S4} {r : R α} {Q : β → Hp → Prop} (h : Pst K G Wx Rl σ S r Q) (t : Tr K G.ca S S1) : Pst K G Wx Rl σ S1 r Q := by
  cases r with
  | ok w st' => exact fun v S' e t' q => h v S' e (t.trans t') q
  | exc c st' => exact fun S' e t' => h S' e (t.trans t')
  | err => exact h
/-- two in a row -/
theorem Pst.bind {α α' β β' : Type} {Rl : S4 → β → α → Prop} {Rl' : S4 → β' → α' → Prop} {S : S4} {r : R α} {f : α → Store → R α'} {Q : β' → Hp → Prop} (h : Pst K G Wx Rl' σ S (r.bind f) Q) :
    Pst K G Wx Rl σ S r (fun v H' => ∃ S' w, S'.H = H' ∧ Tr K G.ca S S' ∧ Rl S' v w ∧ r = .ok w S'.st ∧ Pst K G Wx Rl' σ S' (f w S'.st) Q) := by
  cases r with
  | ok w st' =>
    intro v S' e t q
    subst e
    exact ⟨S', w, rfl, t, q, rfl, Pst.later h t⟩
  | exc c st' => exact h
  | err => exact h
theorem Pst.done {α β : Type} {Rl : S4 → β → α → Prop} {S : S4} {w : α} {v : β} {Q : β → Hp → Prop} (h : Pst K G Wx Rl σ S (.ok w S.st) Q) (o : Ok K G.ca S) (q : Rl S v w) : Q v S.H := h v S rfl (Tr.refl o) q
theorem Pst.lift {β : Type} {Rl : S4 → β → W → Prop} {S : S4} {o : Option W} {Q : β → Hp → Prop} (h : Pst K G Wx Rl σ S (liftO o S.st) Q) : ∃ w, o = some w ∧ Pst K G Wx Rl σ S (.ok w S.st) Q := by
  cases o with
  | none => exact False.elim h
  | some w => exact ⟨w, rfl, h⟩
end
theorem _root_.L2.PE.imp {X : Cx} {e : Expr} {t t' : TE} (h : PE X e t) (i : ∀ σ H Q, t' σ H Q → t σ H Q) : PE X e t' := ⟨fun pins s σ H Q I hw => h.run pins s σ H Q I (i _ _ _ hw)⟩
theorem _root_.L2.PT.imp {X : Cx} {e : Expr} {t t' : TT} (h : PT X e t) (i : ∀ σ H Q, t' σ H Q → t σ H Q) : PT X e t' := ⟨fun pins s σ H Q I hw => h.run pins s σ H Q I (i _ _ _ hw)⟩
theorem _root_.L2.PW.imp {X : Cx} {e : Expr} {t t' : TT} (h : PW X e t) (i : ∀ σ H Q, t' σ H Q → t σ H Q) : PW X e t' := ⟨fun wh pins s σ H Q I hw => h.run wh pins s σ H Q I (i _ _ _ hw)⟩
theorem _root_.L2.PA.imp {X : Cx} {e : List Expr} {t t' : TA} (h : PA X e t) (i : ∀ σ H Q, t' σ H Q → t σ H Q) : PA X e t' := ⟨fun p pins s σ H Q I hw => h.run p pins s σ H Q I (i _ _ _ hw)⟩
theorem lim_eq : lim = sizeLine := by rw [sizeLine_eq]; rfl

section
variable {K : PySem.W.Frag} {ca : Cg} {S : S4} {v : V} {w : W}
theorem rw_int {i : Int} (h : RwS K S v (.int i)) : v = .int i := h
theorem rw_bl {i : Bool} (h : RwS K S v (.bl i)) : v = .bl i := h
theorem rws_cons {vs : List V} {ws : List W} (h : RwsS K S vs (w :: ws)) : ∃ v r, vs = v :: r ∧ RwS K S v w ∧ RwsS K S r ws := h
theorem rws_nil {vs : List V} (h : RwsS K S vs []) : vs = [] := h
theorem Rws.length {U : UU} {ρ : List Addr} {F : Hp} : ∀ {vs : List V} {ws : List W}, Rws K U ρ F vs ws → vs.length = ws.length
  | vs, [], h => by rw [show vs = [] from h]; rfl
  | vs, w :: ws, h => by
    obtain ⟨v, r, e, _, t⟩ := h
    rw [e, List.length_cons, List.length_cons, Rws.length t]
theorem Rws.get {U : UU} {ρ : List Addr} {F : Hp} : ∀ {vs : List V} {ws : List W} {i : Nat} {w : W}, Rws K U ρ F vs ws → ws[i]? = some w → ∃ v, vs[i]? = some v ∧ Rw K U ρ F v w
  | vs, [], i, w, h, e => by simp at e
  | vs, x :: ws, 0, w, h, e => by
    obtain ⟨v, r, e1, q, t⟩ := h
    simp at e; subst e
    exact ⟨v, by rw [e1]; rfl, q⟩
  | vs, x :: ws, i + 1, w, h, e => by
    obtain ⟨v, r, e1, q, t⟩ := h
    obtain ⟨v', h1, h2⟩ := Rws.get (i := i) t (by simpa using e)
    exact ⟨v', by rw [e1]; simpa using h1, h2⟩
theorem Rws.append {U : UU} {ρ : List Addr} {F : Hp} : ∀ {vs : List V} {ws : List W} {vs' : List V} {ws' : List W}, Rws K U ρ F vs ws → Rws K U ρ F vs' ws' → Rws K U ρ F (vs ++ vs') (ws ++ ws')
  | vs, [], vs', ws', h, h' => by rw [show vs = [] from h]; exact h'
  | vs, w :: ws, vs', ws', h, h' => by
    obtain ⟨v, r, e, q, t⟩ := h
    exact ⟨v, r ++ vs', by rw [e]; rfl, q, Rws.append t h'⟩
theorem Rws.drop {U : UU} {ρ : List Addr} {F : Hp} : ∀ {vs : List V} {ws : List W} (n : Nat), Rws K U ρ F vs ws → Rws K U ρ F (vs.drop n) (ws.drop n)
  | vs, ws, 0, h => h
  | vs, [], n + 1, h => by rw [show vs = [] from h]; exact rfl
  | vs, w :: ws, n + 1, h => by
    obtain ⟨v, r, e, q, t⟩ := h
    rw [e]
    exact Rws.drop n t
theorem Rws.take {U : UU} {ρ : List Addr} {F : Hp} : ∀ {vs : List V} {ws : List W} (n : Nat), Rws K U ρ F vs ws → Rws K U ρ F (vs.take n) (ws.take n)
  | vs, ws, 0, h => rfl
  | vs, [], n + 1, h => by rw [show vs = [] from h]; exact rfl
  | vs, w :: ws, n + 1, h => by
    obtain ⟨v, r, e, q, t⟩ := h
    rw [e]
    exact ⟨v, r.take n, rfl, q, Rws.take n t⟩
theorem Rws.reverse {U : UU} {ρ : List Addr} {F : Hp} : ∀ {vs : List V} {ws : List W}, Rws K U ρ F vs ws → Rws K U ρ F vs.reverse ws.reverse
  | vs, [], h => by rw [show vs = [] from h]; exact rfl
  | vs, w :: ws, h => by
    obtain ⟨v, r, e, q, t⟩ := h
    rw [e, List.reverse_cons, List.reverse_cons]
    exact Rws.append (Rws.reverse t) ⟨v, [], rfl, q, rfl⟩
theorem Rws.set {U : UU} {ρ : List Addr} {F : Hp} {v : V} {w : W} (h0 : Rw K U ρ F v w) : ∀ {vs : List V} {ws : List W} (i : Nat), Rws K U ρ F vs ws → Rws K U ρ F (vs.set i v) (ws.set i w)
  | vs, [], i, h => by rw [show vs = [] from h]; exact rfl
  | vs, x :: ws, 0, h => by
    obtain ⟨v', r, e, q, t⟩ := h
    rw [e]
    exact ⟨v, r, rfl, h0, t⟩
  | vs, x :: ws, i + 1, h => by
    obtain ⟨v', r, e, q, t⟩ := h
    rw [e]
    exact ⟨v', r.set i v, rfl, q, Rws.set h0 i t⟩
theorem Rws.rep {U : UU} {ρ : List Addr} {F : Hp} {vs : List V} {ws : List W} (h : Rws K U ρ F vs ws) : ∀ n : Nat, Rws K U ρ F (List.replicate n vs).flatten (List.replicate n ws).flatten
  | 0 => rfl
  | n + 1 => by
    rw [List.replicate_succ, List.replicate_succ, List.flatten_cons, List.flatten_cons]
    exact Rws.append h (Rws.rep h n)
theorem Rws.at_ {U : UU} {ρ : List Addr} {F : Hp} {vs : List V} {ws : List W} {i : Int} {w : W} (h : Rws K U ρ F vs ws) (e : L2.atI ws i = some w) : ∃ v, L2.atI vs i = some v ∧ Rw K U ρ F v w := by
  unfold L2.atI at e ⊢
  rw [h.length]
  cases q : ixN ws.length i with
  | none => rw [q] at e; cases e
  | some j =>
    rw [q] at e
    obtain ⟨v, h1, h2⟩ := Rws.get h (show ws[j]? = some w from e)
    exact ⟨v, h1, h2⟩
theorem Rws.cut {U : UU} {ρ : List Addr} {F : Hp} {vs : List V} {ws : List W} (h : Rws K U ρ F vs ws) (lo hi : Option Int) : Rws K U ρ F (cutV vs lo hi) (cutW ws lo hi) := by
  unfold cutV cutW
  rw [h.length]
  exact Rws.take _ (Rws.drop _ h)
theorem Rws.intsE {U : UU} {ρ : List Addr} {F : Hp} : ∀ {vs : List V} {ws : List W} {ns : List Int}, Rws K U ρ F vs ws → intsW ws = some ns → vs = ns.map V.int
  | vs, [], ns, h, e => by
    rw [show vs = [] from h]
    cases e; rfl
  | vs, w :: ws, ns, h, e => by
    obtain ⟨v, r, e1, q, t⟩ := h
    obtain ⟨i, rfl⟩ : ∃ i, w = .int i := by
      cases w with
      | int i => exact ⟨i, rfl⟩
      | _ => exact absurd e (by intro z; cases z)
    have e2 : (intsW ws).map (i :: ·) = some ns := e
    cases q2 : intsW ws with
    | none => rw [q2] at e2; cases e2
    | some ms =>
      rw [q2] at e2
      cases e2
      rw [e1, show v = V.int i from q, Rws.intsE t q2]; rfl
theorem Rws.blsE {U : UU} {ρ : List Addr} {F : Hp} : ∀ {vs : List V} {ws : List W} {ns : List Bool}, Rws K U ρ F vs ws → blsW ws = some ns → vs = ns.map V.bl
  | vs, [], ns, h, e => by
    rw [show vs = [] from h]
    cases e; rfl
  | vs, w :: ws, ns, h, e => by
    obtain ⟨v, r, e1, q, t⟩ := h
    obtain ⟨i, rfl⟩ : ∃ i, w = .bl i := by
      cases w with
      | bl i => exact ⟨i, rfl⟩
      | _ => exact absurd e (by intro z; cases z)
    have e2 : (blsW ws).map (i :: ·) = some ns := e
    cases q2 : blsW ws with
    | none => rw [q2] at e2; cases e2
    | some ms =>
      rw [q2] at e2
      cases e2
      rw [e1, show v = V.bl i from q, Rws.blsE t q2]; rfl
/-- the list that a value is, in the tracked heap -/
theorem seqL_rw {k : LK} {xs : List W} (o : Ok K ca S) (h : RwS K S v w) (e : seqL S.st w = some (k, xs)) :
    ∃ a vs, v = .ref a ∧ SqL K S.H a vs ∧ (k ≠ .gv → S.H a = some (.lst vs)) ∧ vs.length ≤ lim ∧ RwsS K S vs xs := by
  cases w with
  | lst l ws =>
    cases e
    obtain ⟨a, vs, e1, q, l, r⟩ := h
    refine ⟨a, vs, e1, Same.seq o.sub q.seq, fun hk => ?_, l, r⟩
    cases k with
    | gv => exact absurd rfl hk
    | vw => exact o.sub _ _ q
    | fz => exact o.sub _ _ q.1
  | loc n =>
    obtain ⟨a, e1, q⟩ := h
    unfold seqL at e
    cases h1 : S.st[n]? with
    | none => simp only [h1] at e; cases e
    | some ob =>
      cases ob with
      | none => simp only [h1] at e; cases e
      | some ob =>
        cases ob with
        | lst ws =>
          simp only [h1] at e
          cases e
          obtain ⟨_, vs, h2, l, r⟩ := o.liv n _ a h1 q
          exact ⟨a, vs, e1, SqL.of h2, fun _ => h2, l, r⟩
        | ins c fs => simp only [h1] at e; cases e
        | dct kvs => simp only [h1] at e; cases e
        | tbl q => simp only [h1] at e; cases e
  | _ => cases e
theorem tup_rw {xs : List W} (o : Ok K ca S) (h : RwS K S v (.tup xs)) : ∃ a vs, v = .ref a ∧ SqT K S.H a vs ∧ RwsS K S vs xs := by
  obtain ⟨a, vs, e, q, r⟩ := h
  exact ⟨a, vs, e, Same.seqT o.sub q, r⟩
/-- a new list that stays -/
theorem rw_newL {S' : S4} {vs : List V} {ws : List W} {p : Addr} (o : Ok K ca S) (hp : S.H p = none) (r : RwsS K S vs ws) (l : vs.length ≤ lim) : RwS K (S.put p (.lst vs)) (.ref p) (.lst .fz ws) := by
  have t := o.put (o := HO.lst vs) hp
  refine ⟨p, vs, rfl, ⟨upd_same, fun u => ?_⟩, l, t.rws r⟩
  obtain ⟨x, h⟩ := o.vw p u
  rw [o.sub _ _ h] at hp; cases hp
theorem rw_newT {vs : List V} {ws : List W} {p : Addr} (o : Ok K ca S) (hp : S.H p = none) (r : RwsS K S vs ws) : RwS K (S.put p (.tup vs)) (.ref p) (.tup ws) := by
  have t := o.put (o := HO.tup vs) hp
  exact ⟨p, vs, rfl, SqT.of upd_same, t.rws r⟩
end

section
variable {X : Cx} {G : Gd} {Wx : WX} {pos : Pos}
theorem te_var {i : Nat} {x : Str} (hN : X.N[i]? = some x) (hv : Vis X.env.scope x) (hd : (x == ("__debug__" : Str)) = false) (hcd : (x == ("__classdict__" : Str)) = false) : PE X (.Name x pos) (tE X.K G Wx (.var i)) :=
  (pe_var hN hv hd hcd).imp fun σ H Q ⟨Γ, S, eH, o, re, h⟩ => by
    subst eH
    unfold evE at h
    cases q : Γ[i]? with
    | none => simp only [q] at h; exact False.elim h
    | some w =>
      cases w with
      | none => simp only [q] at h; exact False.elim h
      | some w =>
        simp only [q] at h
        obtain ⟨v, e, r⟩ := re.at_ i w q
        exact ⟨v, e, Pst.done h o r⟩
theorem te_cst {c : Const} {w : W} {v : V} {j : Nat} (hp : PE X (.Constant c j pos) (tC v)) (hw : ∀ S, RwS X.K S v w) : PE X (.Constant c j pos) (tE X.K G Wx (.cst w)) :=
  hp.imp fun σ H Q ⟨Γ, S, eH, o, re, h⟩ => by
    subst eH
    exact Pst.done (v := v) h o (hw S)
theorem te_glb {x : Str} {i : Int} (hp : PE X (.Name x pos) (tC (.int i))) : PE X (.Name x pos) (tE X.K G Wx (.glb x i)) :=
  hp.imp fun σ H Q ⟨Γ, S, eH, o, re, h⟩ => by
    subst eH
    exact Pst.done (v := V.int i) h o rfl
/-- one operand, then -/
theorem tE_bind {m : ME} {β : Type} {α : Type} {Rl : S4 → β → α → Prop} {σ : L2.St} {Γ : Env} {S : S4} {f : W → Store → R α} {Q : β → Hp → Prop} (o : Ok X.K G.ca S) (re : Re X.K S σ Γ)
    (h : Pst X.K G Wx Rl σ S ((evE G.Φ G.sub m Γ S.st).bind f) Q) {Q' : V → Hp → Prop}
    (k : ∀ v S' w, Tr X.K G.ca S S' → RwS X.K S' v w → Re X.K S' σ Γ → Pst X.K G Wx Rl σ S' (f w S'.st) Q → Q' v S'.H) : tE X.K G Wx m σ S.H Q' :=
  ⟨Γ, S, rfl, o, re, (Pst.bind (Rl := RwS X.K) h).mono fun v H' ⟨S', w, e, t, r, _, q⟩ => by subst e; exact k v S' w t r (re.mono t) q⟩
theorem tA_bind {ms : List ME} {β : Type} {α : Type} {Rl : S4 → β → α → Prop} {σ : L2.St} {Γ : Env} {S : S4} {f : List W → Store → R α} {Q : β → Hp → Prop} (o : Ok X.K G.ca S) (re : Re X.K S σ Γ)
    (h : Pst X.K G Wx Rl σ S ((evEs G.Φ G.sub ms Γ S.st).bind f) Q) {Q' : List V → Hp → Prop}
    (k : ∀ v S' w, Tr X.K G.ca S S' → RwsS X.K S' v w → Re X.K S' σ Γ → Pst X.K G Wx Rl σ S' (f w S'.st) Q → Q' v S'.H) : tA X.K G Wx ms σ S.H Q' :=
  ⟨Γ, S, rfl, o, re, (Pst.bind (Rl := RwsS X.K) h).mono fun v H' ⟨S', w, e, t, r, _, q⟩ => by subst e; exact k v S' w t r (re.mono t) q⟩
theorem ta_nil : PA X [] (tA X.K G Wx []) := pa_nil.imp fun σ H Q ⟨Γ, S, eH, o, re, h⟩ => by
  subst eH
  exact Pst.done (Rl := RwsS X.K) (v := []) h o rfl
theorem ta_cons {e : Expr} {es : List Expr} {m : ME} {ms : List ME} (h1 : PE X e (tE X.K G Wx m)) (h2 : PA X es (tA X.K G Wx ms)) (hs : starEach (e :: es) X.env = (false, eval e X.env) :: starEach es X.env) : PA X (e :: es) (tA X.K G Wx (m :: ms)) :=
  (pa_cons h1 h2 hs).imp fun σ H Q ⟨Γ, S, eH, o, re, h⟩ => by
    subst eH
    unfold evEs at h
    refine tE_bind o re h fun v S1 w t1 r1 re1 h1 => ?_
    refine tA_bind t1.ok re1 h1 fun vs S2 ws t2 r2 re2 h2 => ?_
    exact Pst.done (Rl := RwsS X.K) (v := v :: vs) h2 t2.ok ⟨v, vs, rfl, t2.rw r1, r2⟩
theorem te_tup {es : List Expr} {ms : List ME} {k : Nat} (h1 : PA X es (tA X.K G Wx ms)) : PE X (.Tuple es k pos) (tE X.K G Wx (.tup ms)) :=
  (pe_tup h1).imp fun σ H Q ⟨Γ, S, eH, o, re, h⟩ => by
    subst eH
    unfold evE at h
    refine tA_bind o re h fun vs S1 ws t1 r1 re1 h1 => ?_
    by_cases hl : ws.length ≤ lim
    · rw [if_pos hl] at h1
      refine ⟨by rw [r1.length, ← lim_eq]; exact hl, fun p hp => ?_⟩
      have t2 := t1.ok.put (o := HO.tup vs) hp
      exact Pst.done (S := S1.put p (.tup vs)) (Pst.later h1 t2) t2.ok (rw_newT t1.ok hp r1)
    · rw [if_neg hl] at h1; exact False.elim h1
/-- a new list, frozen or a place -/
theorem mkL_ok {mu : Bool} {vs : List V} {ws : List W} {S : S4} {σ : L2.St} {p : Addr} {Q : VK} {K : PySem.W.Frag} (o : Ok K G.ca S) (hp : S.H p = none) (r : RwsS K S vs ws) (l : vs.length ≤ lim) (h : Pst K G Wx (RwS K) σ S (mkL mu ws S.st) Q) : Q (.ref p) (upd S.H p (.lst vs)) := by
  cases mu with
  | false =>
    have t2 := o.put (o := HO.lst vs) hp
    exact Pst.done (S := S.put p (.lst vs)) (Pst.later (show Pst K G Wx (RwS K) σ S (.ok (.lst .fz ws) S.st) Q from h) t2) t2.ok (rw_newL (S' := S) o hp r l)
  | true =>
    have t2 := o.alloc (p := p) (o := HO.lst vs) (ob := .lst ws) hp fun S' e1 e2 _ m => ⟨vs, e2, l, m _ _ r⟩
    have h2 : Pst K G Wx (RwS K) σ S (.ok (.loc S.st.length) (S.st ++ [some (.lst ws)])) Q := h
    refine h2 (.ref p) (S.alloc p (.lst vs) (.lst ws)) rfl t2 ⟨p, rfl, ?_⟩
    show (S.ρ ++ [p])[S.st.length]? = some p
    rw [← o.len]
    simp
theorem te_lst {es : List Expr} {ms : List ME} {mu : Bool} (h1 : PA X es (tA X.K G Wx ms)) : PE X (.List es pos) (tE X.K G Wx (.lst mu ms)) :=
  (pe_lst h1).imp fun σ H Q ⟨Γ, S, eH, o, re, h⟩ => by
    subst eH
    unfold evE at h
    refine tA_bind o re h fun vs S1 ws t1 r1 re1 h1 => ?_
    by_cases hl : ws.length ≤ lim
    · rw [if_pos hl] at h1
      have l : vs.length ≤ lim := by rw [r1.length]; exact hl
      exact ⟨by rw [← lim_eq]; exact l, fun p hp => mkL_ok t1.ok hp r1 l h1⟩
    · rw [if_neg hl] at h1; exact False.elim h1
end
end Mi

set_option Elab.async false
set_option linter.all false
set_option maxRecDepth 100000
set_option maxHeartbeats 1000000
/-! Mini Python: operators. -/
namespace Mi
open PySem PySem.Spec PyProof.Rows L2
/-! ### data -/
mutual
def toD : W → PyData
  | .non => .none
  | .bl b => .bool b
  | .int i => .int i
  | .str s => .str s
  | .tup xs => .tuple (toDs xs)
  | .lst _ xs => .list (toDs xs)
  | .loc _ => .dict []
  | .exn _ => .dict []
  | .clo _ => .dict []
  | .fn _ _ => .dict []
def toDs : List W → List PyData
  | [] => []
  | x :: xs => toD x :: toDs xs
end
mutual
theorem eqv_toD : ∀ (x y : W), PyData.eqv (toD x) (toD y) = eqW x y
  | .non, y => by cases y <;> simp [toD, eqW, PyData.eqv]
  | .bl a, y => by cases y <;> simp [toD, eqW, PyData.eqv]
  | .int i, y => by cases y <;> simp [toD, eqW, PyData.eqv]
  | .str s, y => by cases y <;> simp [toD, eqW, PyData.eqv]
  | .tup xs, .tup ys => by simp only [toD, eqW, PyData.eqv]; exact eqv_toDs xs ys
  | .tup xs, .non => by simp [toD, eqW, PyData.eqv]
  | .tup xs, .bl _ => by simp [toD, eqW, PyData.eqv]
  | .tup xs, .int _ => by simp [toD, eqW, PyData.eqv]
  | .tup xs, .str _ => by simp [toD, eqW, PyData.eqv]
  | .tup xs, .lst _ _ => by simp [toD, eqW, PyData.eqv]
  | .tup xs, .loc _ => by simp [toD, eqW, PyData.eqv]
  | .tup xs, .exn _ => by simp [toD, eqW, PyData.eqv]
  | .tup xs, .clo _ => by simp [toD, eqW, PyData.eqv]
  | .tup xs, .fn _ _ => by simp [toD, eqW, PyData.eqv]
  | .lst _ xs, .lst _ ys => by simp only [toD, eqW, PyData.eqv]; exact eqv_toDs xs ys
  | .lst _ xs, .non => by simp [toD, eqW, PyData.eqv]
  | .lst _ xs, .bl _ => by simp [toD, eqW, PyData.eqv]
  | .lst _ xs, .int _ => by simp [toD, eqW, PyData.eqv]
  | .lst _ xs, .str _ => by simp [toD, eqW, PyData.eqv]
  | .lst _ xs, .tup _ => by simp [toD, eqW, PyData.eqv]
  | .lst _ xs, .loc _ => by simp [toD, eqW, PyData.eqv]
  | .lst _ xs, .exn _ => by simp [toD, eqW, PyData.eqv]
  | .lst _ xs, .clo _ => by simp [toD, eqW, PyData.eqv]
  | .lst _ xs, .fn _ _ => by simp [toD, eqW, PyData.eqv]
  | .loc n, y => by cases y <;> simp [toD, eqW, PyData.eqv]
  | .exn n, y => by cases y <;> simp [toD, eqW, PyData.eqv]
  | .clo n, y => by cases y <;> simp [toD, eqW, PyData.eqv]
  | .fn n _, y => by cases y <;> simp [toD, eqW, PyData.eqv]
theorem eqv_toDs : ∀ (xs ys : List W), PyData.eqvAll (toDs xs) (toDs ys) = eqWs xs ys
  | [], [] => by simp [toDs, eqWs, PyData.eqvAll]
  | [], y :: ys => by simp [toDs, eqWs, PyData.eqvAll]
  | x :: xs, [] => by simp [toDs, eqWs, PyData.eqvAll]
  | x :: xs, y :: ys => by
    simp only [toDs, eqWs, PyData.eqvAll]
    rw [eqv_toD x y, eqv_toDs xs ys]
end
theorem toDs_any (xs : List W) (y : W) : ((toDs xs).any fun z => PyData.eqv z (toD y)) = xs.any fun z => eqW z y := by
  induction xs with
  | nil => rfl
  | cons x xs ih => simp only [toDs, List.any_cons, ih, eqv_toD]
theorem dOk_lay : ∀ (n : Nat) (w : W), dOk n w = true → (toD w).canLay0 = true ∧ (toD w).depth ≤ n
  | n, .non, _ => ⟨by simp [toD, PyData.canLay0], by simp [toD, PyData.depth]⟩
  | n, .bl _, _ => ⟨by simp [toD, PyData.canLay0], by simp [toD, PyData.depth]⟩
  | n, .int _, _ => ⟨by simp [toD, PyData.canLay0], by simp [toD, PyData.depth]⟩
  | n, .str s, h => ⟨by
      have h' : PyData.canLay0 (.str s) = true := by
        cases n <;> exact h
      exact h', by simp [toD, PyData.depth]⟩
  | 0, .tup xs, h => by simp [dOk] at h
  | 0, .lst _ xs, h => by simp [dOk] at h
  | n, .loc _, h => by cases n <;> simp [dOk] at h
  | n, .exn _, h => by cases n <;> simp [dOk] at h
  | n, .clo _, h => by cases n <;> simp [dOk] at h
  | n, .fn _ _, h => by cases n <;> simp [dOk] at h
  | n + 1, .tup xs, h => by
    have h' : xs.all (dOk n) = true := h
    have q : ∀ ys : List W, ys.all (dOk n) = true → PyData.canLayAll0 (toDs ys) = true ∧ PyData.depthAll (toDs ys) ≤ n := by
      intro ys
      induction ys with
      | nil => intro _; exact ⟨by simp [toDs, PyData.canLayAll0], by simp [toDs, PyData.depthAll]⟩
      | cons y ys ih =>
        intro hh
        rw [List.all_cons, Bool.and_eq_true] at hh
        obtain ⟨a1, a2⟩ := dOk_lay n y hh.1
        obtain ⟨b1, b2⟩ := ih hh.2
        exact ⟨by simp [toDs, PyData.canLayAll0, a1, b1], by simp only [toDs, PyData.depthAll]; omega⟩
    obtain ⟨a, b⟩ := q xs h'
    exact ⟨by simpa [toD, PyData.canLay0] using a, by simp only [toD, PyData.depth]; omega⟩
  | n + 1, .lst _ xs, h => by
    have h' : xs.all (dOk n) = true := h
    have q : ∀ ys : List W, ys.all (dOk n) = true → PyData.canLayAll0 (toDs ys) = true ∧ PyData.depthAll (toDs ys) ≤ n := by
      intro ys
      induction ys with
      | nil => intro _; exact ⟨by simp [toDs, PyData.canLayAll0], by simp [toDs, PyData.depthAll]⟩
      | cons y ys ih =>
        intro hh
        rw [List.all_cons, Bool.and_eq_true] at hh
        obtain ⟨a1, a2⟩ := dOk_lay n y hh.1
        obtain ⟨b1, b2⟩ := ih hh.2
        exact ⟨by simp [toDs, PyData.canLayAll0, a1, b1], by simp only [toDs, PyData.depthAll]; omega⟩
    obtain ⟨a, b⟩ := q xs h'
    exact ⟨by simpa [toD, PyData.canLay0] using a, by simp only [toD, PyData.depth]; omega⟩
theorem dOk_shaped {w : W} (h : dOk 8 w = true) : SeqAt.shaped (toD w) = true := by
  obtain ⟨a, b⟩ := dOk_lay 8 w h
  unfold SeqAt.shaped
  rw [a, Bool.true_and]
  exact decide_eq_true (Nat.le_trans b (by decide))
section
variable {K : PySem.W.Frag} {ca : Cg} {S : S4}
theorem dp_of (o : Ok K ca S) : ∀ (n : Nat) (v : V) (w : W), RwS K S v w → dOk n (deep S.st n w) = true → Dp K S.H v (toD (deep S.st n w)) := by
  have all : ∀ (n : Nat), (∀ (v : V) (w : W), RwS K S v w → dOk n (deep S.st n w) = true → Dp K S.H v (toD (deep S.st n w))) →
      ∀ (ws : List W) (vs : List V), RwsS K S vs ws → (ws.map (deep S.st n)).all (dOk n) = true → DpAll K S.H vs (toDs (ws.map (deep S.st n))) := by
    intro n ih ws
    induction ws with
    | nil => intro vs r _; rw [show vs = [] from r]; exact DpAll.nil
    | cons w ws ihw =>
      intro vs r h
      obtain ⟨v, r', e, q, t⟩ := r
      rw [e]
      rw [List.map_cons, List.all_cons, Bool.and_eq_true] at h
      exact DpAll.cons (ih v w q h.1) (ihw r' t h.2)
  intro n
  induction n with
  | zero =>
    intro v w r h
    cases w with
    | non => rw [show v = .non from r]; exact Dp.non
    | bl b => rw [show v = .bl b from r]; exact Dp.bl b
    | int b => rw [show v = .int b from r]; exact Dp.int b
    | str b => rw [show v = .str b from r]; exact Dp.str b
    | tup xs => simp [deep, dOk] at h
    | lst k xs => simp [deep, dOk] at h
    | loc l => simp [deep, dOk] at h
    | exn l => simp [deep, dOk] at h
    | clo l => simp [deep, dOk] at h
    | fn l _ => simp [deep, dOk] at h
  | succ n ih =>
    intro v w r h
    cases w with
    | non => rw [show v = .non from r]; exact Dp.non
    | bl b => rw [show v = .bl b from r]; exact Dp.bl b
    | int b => rw [show v = .int b from r]; exact Dp.int b
    | str b => rw [show v = .str b from r]; exact Dp.str b
    | tup xs =>
      obtain ⟨a, vs, e, q, t⟩ := tup_rw o r
      rw [e]
      exact Dp.tup q (all n ih xs vs t h)
    | lst k xs =>
      obtain ⟨a, vs, e, q, _, _, t⟩ := seqL_rw o r rfl
      rw [e]
      exact Dp.lst q (all n ih xs vs t h)
    | exn l => simp [deep, dOk] at h
    | clo l => simp [deep, dOk] at h
    | fn l _ => simp [deep, dOk] at h
    | loc l =>
      cases h1 : S.st[l]? with
      | none => simp [deep, h1, dOk] at h
      | some ob =>
        cases ob with
        | none => simp [deep, h1, dOk] at h
        | some ob =>
          cases ob with
          | ins c fs => simp [deep, h1, dOk] at h
          | dct kvs => simp [deep, h1, dOk] at h
          | tbl q => simp [deep, h1, dOk] at h
          | lst xs =>
            have e0 : deep S.st (n + 1) (.loc l) = .lst .vw (xs.map (deep S.st n)) := by simp [deep, h1]
            rw [e0] at h ⊢
            obtain ⟨a, vs, e, q, _, _, t⟩ := seqL_rw (k := .fz) (xs := xs) o r (by simp [seqL, h1])
            rw [e]
            exact Dp.lst q (all n ih xs vs t h)
theorem isN_rw {v : V} {w : W} (h : RwS K S v w) : decide (v = V.non) = isN w := by
  cases w with
  | non => rw [show v = .non from h]; simp [isN]
  | bl b => rw [show v = .bl b from h]; simp [isN]
  | int b => rw [show v = .int b from h]; simp [isN]
  | str b => rw [show v = .str b from h]; simp [isN]
  | tup xs => obtain ⟨a, vs, e, _⟩ := h; rw [e]; simp [isN]
  | lst k xs => obtain ⟨a, vs, e, _⟩ := h; rw [e]; simp [isN]
  | loc l => obtain ⟨a, e, _⟩ := h; rw [e]; simp [isN]
  | exn l => obtain ⟨a, e, _⟩ := h; rw [e]; simp [isN]
  | clo l => obtain ⟨a, q, params, body, scope, c, cells, e, _⟩ := h; rw [e]; simp [isN]
  | fn l ws => obtain ⟨a, q, params, body, scope, c, cells, vs, e, _⟩ := h; rw [e]; simp [isN]
end
/-! ### operators of two -/
section
variable {X : Cx} {G : Gd} {Wx : WX} {pos : Pos}
theorem mulOk_ok {i j : Int} (h : mulOk i j = true) : IntMulOk i j := by
  have h' : i.natAbs.log2 + j.natAbs.log2 < 100000000 := of_decide_eq_true h
  have b : ∀ x : Int, Builtin.Int.intBits x ≤ x.natAbs.log2 + 1 := fun x => by
    unfold Builtin.Int.intBits
    split <;> omega
  have h1 := b i
  have h2 := b j
  have e : bitsLine = 134217728 := by decide
  unfold IntMulOk
  intro z
  rw [Bool.and_eq_true] at z
  have z2 := z.2
  unfold Builtin.Int.intTooBig at z2
  have z3 := of_decide_eq_true z2
  rw [e] at z3
  omega
theorem op_mulX : OpR X (binaryOp .Mult) (rI (fun i j => mulOk i j = true) fun i j => .int (i * j)) := opI fun _ _ _ _ _ _ _ hc q => mul_int q (mulOk_ok hc)
theorem op_divX : OpR X (binaryOp .FloorDiv) (rI (fun _ j => divOk j = true) fun i j => .int (i / j)) := opI fun i j _ _ _ _ _ hc q => by
  obtain ⟨h1, h2⟩ := Bool.and_eq_true_iff.mp hc
  have h1 : (0 : Int) < j := of_decide_eq_true h1
  exact floordiv_int (by omega) (by rw [Int.fdiv_eq_ediv_of_nonneg i (by omega)]; exact q) (.inl (PyProof.noPylong_of_log2 (of_decide_eq_true h2)))
/-- what an operator asks -/
def bopR (K : PySem.W.Frag) : Bop → R2
  | .add => fun x y H Q => rI0 (fun i j => .int (i + j)) x y H Q ∨ (rCatT K x y H Q ∨ rCat x y H Q)
  | .sub => rI0 fun i j => .int (i - j)
  | .mul => fun x y H Q => rI (fun i j => mulOk i j = true) (fun i j => .int (i * j)) x y H Q ∨ rRep x y H Q
  | .fdiv => rI (fun _ j => divOk j = true) fun i j => .int (i / j)
  | .mod => rI (fun _ j => 0 < j) fun i j => .int (i % j)
  | .pow => rI CPow fun i j => .int (i ^ j.toNat)
  | .band => rI0 fun i j => .int (Builtin.bitAnd i j)
  | .shr => rI (fun _ j => 0 ≤ j) fun i j => .int (i / 2 ^ j.toNat)
def bopO : Bop → Operator
  | .add => .Add | .sub => .Sub | .mul => .Mult | .fdiv => .FloorDiv | .mod => .Mod | .pow => .Pow | .band => .BitAnd | .shr => .RShift
theorem bop_ok (o : Bop) : OpR X (binaryOp (bopO o)) (bopR X.K o) := by
  cases o with
  | add => exact op_add.or (op_catT.or op_cat)
  | sub => exact op_sub
  | mul => exact op_mulX.or op_rep
  | fdiv => exact op_divX
  | mod => exact op_mod
  | pow => exact op_pow
  | band => exact op_and
  | shr => exact op_shr
/-- what the evaluator does at an operator -/
def bopE (o : Bop) (x y : W) (st : Store) : R W := match o with
  | .add => liftO (addW st x y) st
  | .mul => match x with
    | .lst _ _ => liftO (repW x y) st
    | _ => liftO (bopW o x y) st
  | _ => liftO (bopW o x y) st
theorem intint {S : S4} {x y : V} {i j : Int} {K : PySem.W.Frag} (h1 : RwS K S x (.int i)) (h2 : RwS K S y (.int j)) : x = .int i ∧ y = .int j := ⟨h1, h2⟩
theorem bop_int {o : Bop} {w1 w2 w : W} (e : bopW o w1 w2 = some w) : ∃ i j, w1 = .int i ∧ w2 = .int j := by
  cases w1 with
  | int i => cases w2 with
    | int j => exact ⟨i, j, rfl, rfl⟩
    | _ => cases o <;> simp [bopW] at e
  | _ => cases o <;> simp [bopW] at e
theorem bop_rd {o : Bop} {S : S4} {σ : L2.St} {x y : V} {w1 w2 : W} {Q : VK} {K : PySem.W.Frag} (k : Ok K G.ca S) (r1 : RwS K S x w1) (r2 : RwS K S y w2) (h : Pst K G Wx (RwS K) σ S (bopE o w1 w2 S.st) Q) : bopR K o x y S.H Q := by
  cases o with
  | add =>
    obtain ⟨w, e, h⟩ := Pst.lift (show Pst K G Wx (RwS K) σ S (liftO (addW S.st w1 w2) S.st) Q from h)
    unfold addW at e
    split at e
    · cases e
      exact .inl ⟨_, _, r1, r2, Pst.done (v := V.int _) h k rfl⟩
    · rename_i xs ys
      split at e
      · rename_i hc
        obtain ⟨c1, c2, c3⟩ := hc
        cases e
        obtain ⟨a, vs, e1, q1, t1⟩ := tup_rw k r1
        obtain ⟨b, us, e2, q2, t2⟩ := tup_rw k r2
        have l1 := t1.length
        have l2 := t2.length
        have nv : vs ≠ [] := fun z => c2 (by rw [z] at l1; exact List.eq_nil_of_length_eq_zero l1.symm)
        have nu : us ≠ [] := fun z => c3 (by rw [z] at l2; exact List.eq_nil_of_length_eq_zero l2.symm)
        refine .inr (.inl ⟨a, b, vs, us, e1, e2, q1, q2, nv, by rw [l1, l2, ← lim_eq]; exact c1, fun z => absurd z nu, fun _ p hp => ?_⟩)
        have t := k.put (o := HO.tup (vs ++ us)) hp
        exact Pst.done (S := S.put p (.tup (vs ++ us))) (Pst.later h t) t.ok (rw_newT k hp (Rws.append t1 t2))
      · cases e
    · split at e
      · rename_i k1 xs k2 ys s1 s2
        split at e
        · rename_i hc
          obtain ⟨c1, c2, c3⟩ := hc
          cases e
          obtain ⟨a, vs, e1, _, q1, l1, t1⟩ := seqL_rw k r1 s1
          obtain ⟨b, us, e2, _, q2, l2, t2⟩ := seqL_rw k r2 s2
          have m1 := t1.length
          have m2 := t2.length
          have hl : (vs ++ us).length ≤ lim := by rw [List.length_append, m1, m2]; exact c1
          refine .inr (.inr ⟨a, b, vs, us, e1, e2, q1 c2, q2 c3, by rw [m1, m2, ← lim_eq]; exact c1, fun p hp => ?_⟩)
          have t := k.put (o := HO.lst (vs ++ us)) hp
          exact Pst.done (S := S.put p (.lst (vs ++ us))) (Pst.later h t) t.ok (rw_newL (S' := S) k hp (Rws.append t1 t2) hl)
        · cases e
      · cases e
  | sub =>
    obtain ⟨w, e, h⟩ := Pst.lift (show Pst K G Wx (RwS K) σ S (liftO (bopW .sub w1 w2) S.st) Q from h)
    obtain ⟨i, j, e1, e2⟩ := bop_int e
    subst e1 e2
    cases e
    exact ⟨i, j, r1, r2, Pst.done (v := V.int _) h k rfl⟩
  | mul =>
    cases w1 with
    | lst k1 xs =>
      obtain ⟨w, e, h⟩ := Pst.lift (show Pst K G Wx (RwS K) σ S (liftO (repW (.lst k1 xs) w2) S.st) Q from h)
      unfold repW at e
      split at e
      · rename_i k2 ys n e1
        cases e1
        split at e
        · rename_i hc
          obtain ⟨c1, c2, c3, c4⟩ := hc
          cases e
          obtain ⟨a, vs, e1, _, q1, l1, t1⟩ := seqL_rw k r1 rfl
          have m1 := t1.length
          have t2 := Rws.rep t1 n.toNat
          have hl : ((List.replicate n.toNat vs).flatten).length ≤ lim := by
            rw [t2.length]; simp; rw [Nat.mul_comm]; exact c4
          refine .inr ⟨a, n, vs, e1, r2, q1 c1, by omega, by omega, by rw [m1, ← lim_eq]; exact c4, fun p hp => ?_⟩
          have t := k.put (o := HO.lst (List.replicate n.toNat vs).flatten) hp
          exact Pst.done (S := S.put p (.lst (List.replicate n.toNat vs).flatten)) (Pst.later h t) t.ok (rw_newL (S' := S) k hp t2 hl)
        · cases e
      · cases e
    | int i =>
      obtain ⟨w, e, h⟩ := Pst.lift (show Pst K G Wx (RwS K) σ S (liftO (bopW .mul (.int i) w2) S.st) Q from h)
      obtain ⟨i', j, e1, e2⟩ := bop_int e
      cases e1
      subst e2
      have e : (if mulOk i j then some (W.int (i * j)) else none) = some w := e
      split at e
      · rename_i c
        cases e
        exact .inl ⟨i, j, r1, r2, c, Pst.done (v := V.int _) h k rfl⟩
      · cases e
    | _ => exact False.elim (by simp [bopE, bopW, liftO, Pst] at h)
  | fdiv =>
    obtain ⟨w, e, h⟩ := Pst.lift (show Pst K G Wx (RwS K) σ S (liftO (bopW .fdiv w1 w2) S.st) Q from h)
    obtain ⟨i, j, e1, e2⟩ := bop_int e
    subst e1 e2
    have e : (if divOk j then some (W.int (i / j)) else none) = some w := e
    split at e
    · rename_i c
      cases e
      exact ⟨i, j, r1, r2, c, Pst.done (v := V.int _) h k rfl⟩
    · cases e
  | mod =>
    obtain ⟨w, e, h⟩ := Pst.lift (show Pst K G Wx (RwS K) σ S (liftO (bopW .mod w1 w2) S.st) Q from h)
    obtain ⟨i, j, e1, e2⟩ := bop_int e
    subst e1 e2
    have e : (if 0 < j then some (W.int (i % j)) else none) = some w := e
    split at e
    · rename_i c
      cases e
      exact ⟨i, j, r1, r2, c, Pst.done (v := V.int _) h k rfl⟩
    · cases e
  | pow =>
    obtain ⟨w, e, h⟩ := Pst.lift (show Pst K G Wx (RwS K) σ S (liftO (bopW .pow w1 w2) S.st) Q from h)
    obtain ⟨i, j, e1, e2⟩ := bop_int e
    subst e1 e2
    have e : (if 0 ≤ j ∧ j ≤ 1000 ∧ i.natAbs < 2 ^ 64 then some (W.int (i ^ j.toNat)) else none) = some w := e
    split at e
    · rename_i c
      cases e
      exact ⟨i, j, r1, r2, ⟨c.1, by omega, c.2.2⟩, Pst.done (v := V.int _) h k rfl⟩
    · cases e
  | band =>
    obtain ⟨w, e, h⟩ := Pst.lift (show Pst K G Wx (RwS K) σ S (liftO (bopW .band w1 w2) S.st) Q from h)
    obtain ⟨i, j, e1, e2⟩ := bop_int e
    subst e1 e2
    cases e
    exact ⟨i, j, r1, r2, Pst.done (v := V.int _) h k rfl⟩
  | shr =>
    obtain ⟨w, e, h⟩ := Pst.lift (show Pst K G Wx (RwS K) σ S (liftO (bopW .shr w1 w2) S.st) Q from h)
    obtain ⟨i, j, e1, e2⟩ := bop_int e
    subst e1 e2
    have e : (if 0 ≤ j then some (W.int (i / 2 ^ j.toNat)) else none) = some w := e
    split at e
    · rename_i c
      cases e
      exact ⟨i, j, r1, r2, c, Pst.done (v := V.int _) h k rfl⟩
    · cases e
theorem te_bin {o : Bop} {a b : Expr} {m1 m2 : ME} (h1 : PE X a (tE X.K G Wx m1)) (h2 : PE X b (tE X.K G Wx m2)) : PE X (.BinOp a (bopO o) b pos) (tE X.K G Wx (.bin o m1 m2)) :=
  (pe_op (bop_ok o) h1 h2).imp fun σ H Q ⟨Γ, S, eH, k, re, h⟩ => by
    subst eH
    unfold evE at h
    refine tE_bind k re h fun v1 S1 w1 t1 r1 re1 h1 => ?_
    refine tE_bind t1.ok re1 h1 fun v2 S2 w2 t2 r2 re2 h2 => ?_
    refine bop_rd (Wx := Wx) (σ := σ) (o := o) t2.ok (t2.rw r1) r2 ?_
    cases o <;> exact h2
end
end Mi

set_option Elab.async false
set_option linter.all false
set_option maxRecDepth 100000
set_option maxHeartbeats 1000000
/-! Mini Python: comparisons, tests, subscripts. -/
namespace Mi
open PySem PySem.Spec PyProof.Rows L2
section
variable {X : Cx} {G : Gd} {Wx : WX} {pos : Pos}
def copR (K : PySem.W.Frag) : Cop → R2
  | .lt => rI0 fun i j => .bl (decide (i < j))
  | .le => rI0 fun i j => .bl (decide (i ≤ j))
  | .gt => rI0 fun i j => .bl (decide (j < i))
  | .ge => rI0 fun i j => .bl (decide (j ≤ i))
  | .eq => rEqD K
  | .ne => rNeD K
  | .isin => fun x y H Q => rInD K x y H Q ∨ rIn K false x y H Q
  | .notin => fun x y H Q => rNotInD K x y H Q ∨ rIn K true x y H Q
  | .is => fun x y H Q => (y = .non ∧ Q (.bl (decide (x = .non))) H) ∨ rIsB x y H Q
  | .isnot => fun x y H Q => (y = .non ∧ Q (.bl (!decide (x = .non))) H) ∨ rNotB x y H Q
def copO : Cop → CmpOp
  | .lt => .Lt | .le => .LtE | .gt => .Gt | .ge => .GtE | .eq => .Eq | .ne => .NotEq | .isin => .In | .notin => .NotIn | .is => .Is | .isnot => .IsNot
theorem cop_ok (hu : X.A.units + 65 < cLine) (o : Cop) : OpR X (compareOp (copO o)) (copR X.K o) := by
  cases o with
  | lt => exact op_lt
  | le => exact op_le
  | gt => exact op_gt
  | ge => exact op_ge
  | eq => exact op_eqD (by omega)
  | ne => exact op_neD (by omega)
  | isin => exact (op_inD hu).or op_in_seq
  | notin => exact (op_notInD hu).or op_notIn_seq
  | is => exact op_isN.or op_isBl
  | isnot => exact op_notN.or op_notBl
theorem eqG_rd {S : S4} {x y : V} {w1 w2 : W} {b : Bool} {K : PySem.W.Frag} {ca : Cg} (k : Ok K ca S) (r1 : RwS K S x w1) (r2 : RwS K S y w2) (e : eqG S.st w1 w2 = some b) :
    ∃ d f, Dp K S.H x d ∧ Dp K S.H y f ∧ SeqAt.shaped d = true ∧ SeqAt.shaped f = true ∧ PyData.eqv d f = b := by
  unfold eqG at e
  split at e
  · rename_i h
    rw [Bool.and_eq_true] at h
    cases e
    exact ⟨_, _, dp_of k 8 x w1 r1 h.1, dp_of k 8 y w2 r2 h.2, dOk_shaped h.1, dOk_shaped h.2, eqv_toD _ _⟩
  · cases e
theorem strs_flat {ys : List W} {vs : List V} {K : PySem.W.Frag} {S : S4} (r : RwsS K S vs ys) (h : ys.all isStrW = true) : vs.all flatV = true ∧ ∀ s, (vs.any fun z => eqV z (.str s)) = ys.any fun z => eqW z (.str s) := by
  induction ys generalizing vs with
  | nil => rw [show vs = [] from r]; exact ⟨rfl, fun _ => rfl⟩
  | cons y ys ih =>
    obtain ⟨v, r', e, q, t⟩ := r
    rw [List.all_cons, Bool.and_eq_true] at h
    obtain ⟨a, b⟩ := ih t h.2
    cases y with
    | str z =>
      rw [e, show v = V.str z from q]
      refine ⟨by rw [List.all_cons, a]; rfl, fun s => ?_⟩
      rw [List.any_cons, List.any_cons, b s]
      have : eqV (.str z) (.str s) = eqW (.str z) (.str s) := by simp [eqV, eqW]
      rw [this]
    | _ => exact absurd h.1 (by simp [isStrW, isIntW])
theorem ints_flat {ys : List W} {vs : List V} {K : PySem.W.Frag} {S : S4} (r : RwsS K S vs ys) (h : ys.all isIntW = true) : vs.all flatV = true ∧ ∀ s, (vs.any fun z => eqV z (.int s)) = ys.any fun z => eqW z (.int s) := by
  induction ys generalizing vs with
  | nil => rw [show vs = [] from r]; exact ⟨rfl, fun _ => rfl⟩
  | cons y ys ih =>
    obtain ⟨v, r', e, q, t⟩ := r
    rw [List.all_cons, Bool.and_eq_true] at h
    obtain ⟨a, b⟩ := ih t h.2
    cases y with
    | int z =>
      rw [e, show v = V.int z from q]
      refine ⟨by rw [List.all_cons, a]; rfl, fun s => ?_⟩
      rw [List.any_cons, List.any_cons, b s]
      have : eqV (.int z) (.int s) = eqW (.int z) (.int s) := by simp [eqV, eqW]
      rw [this]
    | _ => exact absurd h.1 (by simp [isStrW, isIntW])
theorem inG_rd {S : S4} {x y : V} {w1 w2 : W} {b : Bool} {K : PySem.W.Frag} {ca : Cg} (k : Ok K ca S) (r1 : RwS K S x w1) (r2 : RwS K S y w2) (e : inG S.st w1 w2 = some b) :
    (∃ d ds, Dp K S.H x d ∧ Dp K S.H y (.list ds) ∧ SeqAt.shaped d = true ∧ SeqAt.shaped (.list ds) = true ∧ (ds.any fun z => PyData.eqv z d) = b) ∨
    (∃ p xs, y = .ref p ∧ (SqL K S.H p xs ∨ SqT K S.H p xs) ∧ flatV x = true ∧ xs.all flatV = true ∧ inV x xs = b) := by
  have main : ∀ o, deep S.st 8 w2 = o → (match o with
    | .lst k ys => if dOk 8 (deep S.st 8 w1) && dOk 8 (.lst k ys) then some (ys.any fun z => eqW z (deep S.st 8 w1)) else none
    | _ => none) = some b → ∃ d ds, Dp K S.H x d ∧ Dp K S.H y (.list ds) ∧ SeqAt.shaped d = true ∧ SeqAt.shaped (.list ds) = true ∧ (ds.any fun z => PyData.eqv z d) = b := by
    intro o hd e
    cases o with
    | lst kk ys =>
      have e : (if dOk 8 (deep S.st 8 w1) && dOk 8 (.lst kk ys) then some (ys.any fun z => eqW z (deep S.st 8 w1)) else none) = some b := e
      split at e
      · rename_i h
        rw [Bool.and_eq_true] at h
        cases e
        have hy := dp_of k 8 y w2 r2 (by rw [hd]; exact h.2)
        have sy := dOk_shaped h.2
        rw [hd] at hy
        exact ⟨_, toDs ys, dp_of k 8 x w1 r1 h.1, hy, dOk_shaped h.1, sy, toDs_any _ _⟩
      · cases e
    | _ => cases e
  cases w2 with
  | tup ys =>
    obtain ⟨a, vs, ey, qy, ty⟩ := tup_rw k r2
    cases w1 with
    | str s =>
      have e : (if ys.all isStrW then some (ys.any fun z => eqW z (.str s)) else none) = some b := e
      split at e
      · rename_i h
        cases e
        obtain ⟨f1, f2⟩ := strs_flat ty h
        refine .inr ⟨a, vs, ey, .inr qy, ?_, f1, ?_⟩
        · rw [show x = V.str s from r1]; rfl
        · rw [show x = V.str s from r1]; exact f2 s
      · cases e
    | int s =>
      have e : (if ys.all isIntW then some (ys.any fun z => eqW z (.int s)) else none) = some b := e
      split at e
      · rename_i h
        cases e
        obtain ⟨f1, f2⟩ := ints_flat ty h
        refine .inr ⟨a, vs, ey, .inr qy, ?_, f1, ?_⟩
        · rw [show x = V.int s from r1]; rfl
        · rw [show x = V.int s from r1]; exact f2 s
      · cases e
    | _ => cases e
  | non => exact .inl (main _ rfl e)
  | bl _ => exact .inl (main _ rfl e)
  | int _ => exact .inl (main _ rfl e)
  | str _ => exact .inl (main _ rfl e)
  | lst kk ys => exact .inl (main _ rfl e)
  | loc l => exact .inl (main _ rfl e)
  | exn l => exact .inl (main _ rfl e)
  | clo l => exact .inl (main _ rfl e)
  | fn l _ => exact .inl (main _ rfl e)
theorem cop_rd {o : Cop} {S : S4} {x y : V} {w1 w2 w : W} {K : PySem.W.Frag} {ca : Cg} (k : Ok K ca S) (r1 : RwS K S x w1) (r2 : RwS K S y w2) (e : copW S.st o w1 w2 = some w) :
    ∃ b, w = .bl b ∧ ∀ Q : VK, Q (.bl b) S.H → copR K o x y S.H Q := by
  have ord : ∀ (f : Int → Int → Bool), ordW f w1 w2 = some w → ∃ b, w = .bl b ∧ ∀ Q : VK, Q (.bl b) S.H → rI0 (fun i j => .bl (f i j)) x y S.H Q := by
    intro f e
    cases w1 with
    | int i => cases w2 with
      | int j =>
        cases e
        exact ⟨_, rfl, fun Q q => ⟨i, j, r1, r2, q⟩⟩
      | _ => cases e
    | _ => cases e
  cases o with
  | lt => exact ord (fun i j => decide (i < j)) e
  | le => exact ord (fun i j => decide (i ≤ j)) e
  | gt => exact ord (fun i j => decide (j < i)) e
  | ge => exact ord (fun i j => decide (j ≤ i)) e
  | eq =>
    have e : (eqG S.st w1 w2).map W.bl = some w := e
    cases q : eqG S.st w1 w2 with
    | none => rw [q] at e; cases e
    | some b =>
      rw [q] at e; cases e
      obtain ⟨d, f, h1, h2, h3, h4, h5⟩ := eqG_rd k r1 r2 q
      exact ⟨b, rfl, fun Q z => ⟨d, f, h1, h2, h3, h4, by rw [h5]; exact z⟩⟩
  | ne =>
    have e : ((eqG S.st w1 w2).map fun b => W.bl (!b)) = some w := e
    cases q : eqG S.st w1 w2 with
    | none => rw [q] at e; cases e
    | some b =>
      rw [q] at e; cases e
      obtain ⟨d, f, h1, h2, h3, h4, h5⟩ := eqG_rd k r1 r2 q
      exact ⟨!b, rfl, fun Q z => ⟨d, f, h1, h2, h3, h4, by rw [h5]; exact z⟩⟩
  | isin =>
    have e : (inG S.st w1 w2).map W.bl = some w := e
    cases q : inG S.st w1 w2 with
    | none => rw [q] at e; cases e
    | some b =>
      rw [q] at e; cases e
      refine ⟨b, rfl, fun Q z => ?_⟩
      rcases inG_rd k r1 r2 q with ⟨d, ds, h1, h2, h3, h4, h5⟩ | ⟨p, xs, h1, h2, h3, h4, h5⟩
      · exact .inl ⟨d, ds, h1, h2, h3, h4, by rw [h5]; exact z⟩
      · exact .inr ⟨p, xs, h1, h2, h3, h4, by rw [h5]; exact z⟩
  | notin =>
    have e : ((inG S.st w1 w2).map fun b => W.bl (!b)) = some w := e
    cases q : inG S.st w1 w2 with
    | none => rw [q] at e; cases e
    | some b =>
      rw [q] at e; cases e
      refine ⟨!b, rfl, fun Q z => ?_⟩
      rcases inG_rd k r1 r2 q with ⟨d, ds, h1, h2, h3, h4, h5⟩ | ⟨p, xs, h1, h2, h3, h4, h5⟩
      · exact .inl ⟨d, ds, h1, h2, h3, h4, by rw [h5]; exact z⟩
      · exact .inr ⟨p, xs, h1, h2, h3, h4, by rw [h5]; exact z⟩
  | is =>
    cases w2 with
    | non =>
      cases e
      exact ⟨_, rfl, fun Q z => .inl ⟨r2, by rw [isN_rw r1]; exact z⟩⟩
    | bl b => cases w1 with
      | bl a =>
        cases e
        exact ⟨_, rfl, fun Q z => .inr ⟨a, b, r1, r2, z⟩⟩
      | _ => cases e
    | _ => cases e
  | isnot =>
    cases w2 with
    | non =>
      cases e
      exact ⟨_, rfl, fun Q z => .inl ⟨r2, by rw [isN_rw r1]; exact z⟩⟩
    | bl b => cases w1 with
      | bl a =>
        cases e
        exact ⟨_, rfl, fun Q z => .inr ⟨a, b, r1, r2, z⟩⟩
      | _ => cases e
    | _ => cases e
/-! ### values and tests -/
theorem bl_rw {S : S4} {v : V} {b : Bool} {K : PySem.W.Frag} (e : v = .bl b) : RwS K S v (.bl b) := e
theorem te_cmp (hu : X.A.units + 65 < cLine) {o : Cop} {a b : Expr} {m1 m2 : ME} (h1 : PE X a (tE X.K G Wx m1)) (h2 : PE X b (tE X.K G Wx m2)) (hm : behindInMarks (copO o) b = false) : PE X (.Compare a [copO o] [b] pos) (tE X.K G Wx (.cmp o m1 m2)) :=
  (pe_cmpR (cop_ok hu o) h1 h2 hm).imp fun σ H Q ⟨Γ, S, eH, k, re, h⟩ => by
    subst eH
    unfold evE at h
    refine tE_bind k re h fun v1 S1 w1 t1 r1 re1 h1 => ?_
    refine tE_bind t1.ok re1 h1 fun v2 S2 w2 t2 r2 re2 h2 => ?_
    obtain ⟨w, e, h2⟩ := Pst.lift h2
    obtain ⟨b, rfl, q⟩ := cop_rd t2.ok (t2.rw r1) r2 e
    exact q _ (Pst.done (v := V.bl b) h2 t2.ok rfl)
/-- a test's reading: a bool -/
def tB' (K : PySem.W.Frag) (G : Gd) (Wx : WX) (m : ME) : TT := fun σ H Q => ∃ (Γ : Env) (S : S4), S.H = H ∧ Ok K G.ca S ∧ Re K S σ Γ ∧ Pst K G Wx (fun _ (b c : Bool) => b = c) σ S ((evE G.Φ G.sub m Γ S.st).bind asB) Q
theorem tB_val {S : S4} {σ : L2.St} {w : W} {v : V} {Q : Bool → Hp → Prop} {K : PySem.W.Frag} (k : Ok K G.ca S) (r : RwS K S v w) (h : Pst K G Wx (fun _ (b c : Bool) => b = c) σ S (asB w S.st) Q) : ∃ b, w = .bl b ∧ v = .bl b ∧ Q b S.H := by
  cases w with
  | bl b => exact ⟨b, rfl, r, Pst.done (Rl := fun _ (b c : Bool) => b = c) (v := b) h k rfl⟩
  | _ => exact False.elim h
theorem tt_val {e : Expr} {m : ME} (h1 : PE X e (tE X.K G Wx m)) (he : ∀ whole, isTrue e X.env whole = (do let v ← whole; standAt e.pos; holding [v] (truthy v))) : PT X e (tB' X.K G Wx m) :=
  (pt_val h1 he).imp fun σ H Q ⟨Γ, S, eH, k, re, h⟩ => by
    subst eH
    refine tE_bind k re h fun v S1 w t1 r re1 h1 => ?_
    obtain ⟨b, _, e, q⟩ := tB_val t1.ok r h1
    exact ⟨b, e, q⟩
theorem tB_bind {m : ME} {σ : L2.St} {Γ : Env} {S : S4} {β : Type} {α : Type} {Rl : S4 → β → α → Prop} {f : W → Store → R α} {Q : β → Hp → Prop} {Q' : Bool → Hp → Prop} (k : Ok X.K G.ca S) (re : Re X.K S σ Γ)
    (h : Pst X.K G Wx Rl σ S ((evE G.Φ G.sub m Γ S.st).bind f) Q) (hb : ∀ w st, (∀ b, w ≠ .bl b) → f w st = .err)
    (g : ∀ (b : Bool) S', Tr X.K G.ca S S' → Re X.K S' σ Γ → Pst X.K G Wx Rl σ S' (f (.bl b) S'.st) Q → Q' b S'.H) : tB' X.K G Wx m σ S.H Q' := by
  refine ⟨Γ, S, rfl, k, re, ?_⟩
  cases q : evE G.Φ G.sub m Γ S.st with
  | err => rw [q] at h; exact h
  | exc c st => rw [q] at h; exact h
  | ok w st =>
    rw [q] at h
    have h : Pst X.K G Wx Rl σ S (f w st) Q := h
    cases w with
    | bl b =>
      show Pst X.K G Wx (fun _ (b c : Bool) => b = c) σ S (.ok b st) Q'
      intro b' S' e t eb
      subst e eb
      exact g b' S' t (re.mono t) (Pst.later h t)
    | _ => rw [hb _ st (fun b z => by cases z)] at h; exact False.elim h
theorem tt_cmp (hu : X.A.units + 65 < cLine) {o : Cop} {a b : Expr} {m1 m2 : ME} (h1 : PE X a (tE X.K G Wx m1)) (h2 : PE X b (tE X.K G Wx m2)) (hm : behindInMarks (copO o) b = false) : PT X (.Compare a [copO o] [b] pos) (tB' X.K G Wx (.cmp o m1 m2)) :=
  (pt_cmpR (cop_ok hu o) h1 h2 hm).imp fun σ H Q ⟨Γ, S, eH, k, re, h⟩ => by
    subst eH
    unfold evE at h
    have as : ∀ {α β γ δ : Type} (r : R α) (f : α → Store → R β) (g : β → Store → R γ), (r.bind f).bind g = r.bind fun a st => (f a st).bind g := by
      intro α β γ δ r f g
      cases r <;> rfl
    rw [as (δ := Unit)] at h
    refine tE_bind k re h fun v1 S1 w1 t1 r1 re1 h1 => ?_
    rw [as (δ := Unit)] at h1
    refine tE_bind t1.ok re1 h1 fun v2 S2 w2 t2 r2 re2 h2 => ?_
    cases e : copW S2.st o w1 w2 with
    | none => rw [e] at h2; exact False.elim h2
    | some w =>
      rw [e] at h2
      obtain ⟨b, rfl, q⟩ := cop_rd t2.ok (t2.rw r1) r2 e
      exact q _ ⟨b, rfl, Pst.done (Rl := fun _ (b c : Bool) => b = c) (v := b) h2 t2.ok rfl⟩
end
end Mi

set_option Elab.async false
set_option linter.all false
set_option maxRecDepth 100000
set_option maxHeartbeats 1000000
/-! a tuple turned round: t[::-1] -/
namespace HT
open PySem PyProof.Rows
section
variable {prog : Program} {w : World} {A : Around} {E : Value → Shared → Prop} {s : Shared}
theorem revPlaces (n : Nat) : Builtin.Slice.slicePlaces ((n : Int) - 1) (-1) (-1) = n := by
  unfold Builtin.Slice.slicePlaces
  have h1 : ¬ ((-1 : Int) > 0) := by omega
  have h2 : (- (-1 : Int)) = 1 := by omega
  simp only [h1, if_false, h2, Int.ediv_one]
  split <;> omega
theorem revApplied {sl : Addr} {vs : Value} {n : Nat} {Q : Int × Int × Nat → Shared → Prop} (hs : s.heap.IsSliceOf sl .none .none vs) (ps : IsPart vs (some (-1)))
    (h : Q ((n : Int) - 1, -1, n) s) : wpAny (model prog w) A (Builtin.Slice.sliceApplied (.ref sl) (pure (n : Int))) Q E s := by
  obtain ⟨os, hos, hcs, hds⟩ := id hs
  unfold Builtin.Slice.sliceApplied Builtin.Slice.sliceFields
  refine wpAny_bind (wpAny_bind (wpAny_field hos hds (x := .none) rfl (wpAny_bind (wpAny_field hos hds (x := .none) rfl (wpAny_bind (wpAny_field hos hds (x := vs) rfl (wpAny_pure ?_)))))))
  refine wpAny_bind (slicePart_ ps ?_)
  show wpAny _ _ (if ((-1 : Int) == 0) = true then _ else _) _ _ s
  rw [if_neg (by decide)]
  refine wpAny_bind (slicePart_none (wpAny_bind (slicePart_none (wpAny_bind (wpAny_pure ?_)))))
  show wpAny _ _ (pure ((n : Int) - 1, (-1 : Int), Builtin.Slice.slicePlaces ((n : Int) - 1) (-1) (-1))) _ _ s
  rw [revPlaces]
  exact wpAny_pure h
theorem pick_rev (xs : Array Value) : ((List.range xs.size).filterMap fun (m : Nat) => xs[(((xs.size : Nat) : Int) - 1 + (m : Int) * (-1)).toNat]?).toArray = xs.toList.reverse.toArray := by
  have e : ((List.range xs.size).filterMap fun (m : Nat) => xs[(((xs.size : Nat) : Int) - 1 + (m : Int) * (-1)).toNat]?) = ((List.range xs.size).map fun k => xs.size - 1 - k).filterMap (xs[·]?) := by
    rw [List.filterMap_map]
    have cong : ∀ (ks : List Nat) (f g : Nat → Option Value), (∀ m ∈ ks, f m = g m) → ks.filterMap f = ks.filterMap g := by
      intro ks f g h
      induction ks with
      | nil => rfl
      | cons k ks ih =>
        rw [List.filterMap_cons, List.filterMap_cons, h k (by simp), ih fun m hm => h m (by simp [hm])]
    refine cong _ _ _ fun m hm => ?_
    have := List.mem_range.mp hm
    have e2 : (((xs.size : Nat) : Int) - 1 + (m : Int) * (-1)).toNat = xs.size - 1 - m := by omega
    rw [e2]
    rfl
  rw [e, PySem.W.krv_range, List.filterMap_reverse, PySem.W.krv_all]
theorem getItem_tuple_rev {t sl : Addr} {items : Array Value} {vs : Value} {Q : Value → Shared → Prop} (ht : IsTup s.heap t items) (hs : s.heap.IsSliceOf sl .none .none vs) (ps : IsPart vs (some (-1)))
    (h : Q (.ref s.heap.objs.size) { s with heap := s.heap.push { cls := .type "tuple", data := .seq items.toList.reverse.toArray } })
    (hsz : items.size ≤ sizeLine) : wpAny (model prog w) A (getItem (.ref t) (.ref sl)) Q E s := by
  have htake : sizeOk (.seq items.toList.reverse.toArray) := by
    show items.toList.reverse.toArray.size ≤ sizeLine
    rw [List.size_toArray, List.length_reverse, Array.length_toList]
    omega
  obtain ⟨os, hos, hcs, hds⟩ := id hs
  have hTs : s.TypeIs (.ref sl) "slice" := ⟨os, hos, hcs⟩
  unfold getItem
  try with_reducible refine wpAny_holding ?_
  first | refine wpAny_bind (wpAny_pure ?_) | skip
  refine wpAny_bind (wpAny_sequenceKey ht.typeIs (by decide) ?_)
  refine wpAny_bind (wpAny_callSpecial?_slot (name := Str.ofString "__getitem__") ht.typeIs PyProof.Rows.slot_tuple_getitem
    (wpAny_call_entry PyProof.Rows.slot_tuple_getitem ht.typeIs entry_tuple_getitem ?_ (args_tuple_getitem _ _)))
  show wpAny _ _ (Builtin.Tuple.tupleItemsOf (.ref t) >>= _) _ _ s
  refine wpAny_bind (tupleItemsOf_ ht ?_)
  refine wpAny_bind (wpAny_typeOf hTs ?_)
  rw [if_pos (by decide)]
  refine wpAny_bind (revApplied hs ps ?_)
  have hno : ¬ (((((items.size : Nat) : Int) - 1) == 0 && (-1 : Int) == 1 && items.size == items.size) = true) := by
    intro q
    rw [Bool.and_eq_true, Bool.and_eq_true] at q
    exact absurd q.1.2 (by decide)
  show wpAny _ _ (if ((((items.size : Nat) : Int) - 1) == 0 && (-1 : Int) == 1 && items.size == items.size) = true then _ else _) _ _ s
  rw [if_neg hno, pick_rev]
  first
    | exact wpAny_bind (m := Builtin.Tuple.tupleExact _) (wpAny_newObj_type (wpAny_pure ⟨_, rfl, wpAny_pure h⟩) htake)
    | exact wpAny_bind (m := Builtin.Tuple.tupleExact _) (wpAny_newObj_type (wpAny_bind (wpAny_pure (wpAny_pure ⟨_, rfl, wpAny_pure h⟩))) htake)
    | exact wpAny_bind (wpAny_bind (m := Builtin.Tuple.tupleExact _) (wpAny_newObj_type (wpAny_pure (wpAny_pure ⟨_, rfl, wpAny_pure h⟩)) htake))
    | exact wpAny_bind (wpAny_bind (m := Builtin.Tuple.tupleExact _) (wpAny_newObj_type (wpAny_pure ⟨_, rfl, wpAny_pure h⟩) htake))
end
end HT
namespace L2
open PySem PySem.Spec PyProof.Rows
section
variable {X : Cx}
def tRevA (K : PySem.W.Frag) (te : TE) : TE := fun σ H Q => te σ H fun x H1 => ∃ a xs, x = .ref a ∧ ((SqL K H1 a xs ∧ ∀ p, H1 p = none → Q (.ref p) (upd H1 p (.lst xs.reverse))) ∨ (SqT K H1 a xs ∧ ∀ p, H1 p = none → Q (.ref p) (upd H1 p (.tup xs.reverse))))
theorem pe_revA {e : Expr} {te : TE} {k : Nat} {p1 p2 p3 pos : Pos} (he : PE X e te) : PE X (.Subscript e (.Slice none none (some (.UnaryOp .USub (.Constant (.int 1) k p1) p2)) p3) pos) (tRevA X.K te) := by
  refine ⟨fun pins s σ H Q I h => ?_⟩
  refine Subscript_ (thn (he.run pins s σ H _ I h) fun v s1 ⟨x, H1, I1, r1, q1⟩ => ?_)
  obtain ⟨a, xs, ex, hx⟩ := q1
  subst ex
  cases r1
  have hst : PO X (some (.UnaryOp .USub (.Constant (.int 1) k p1) p2)) (tPart (tUn (rU fun i => .int (-i)) (tC (.int 1)))) := po_some (pe_un un_neg pe_int)
  refine wpAny_Slice (thn (po_none.run pins s1 σ H1 (fun o H2 => o = none ∧ H2 = H1) I1 ⟨rfl, rfl⟩) fun vl s2 ⟨l, H2, I2, pl, el, e2⟩ => ?_)
  subst el e2
  refine thn (po_none.run pins s2 σ H2 (fun o H3 => o = none ∧ H3 = H2) I2 ⟨rfl, rfl⟩) fun vu s3 ⟨u, H3, I3, pu, eu, e3⟩ => ?_
  subst eu e3
  refine thn (hst.run pins s3 σ H3 (fun o H4 => o = some (-1) ∧ H4 = H3) I3 ⟨1, rfl, -1, rfl, rfl, rfl⟩) fun vs s4 ⟨o, H4, I4, ps, eo, e4⟩ => ?_
  subst eo e4
  have I5 : Inv X pins σ H4 { s4 with heap := s4.heap.push { cls := .type "slice", data := .fields #[vl, vu, vs] } } := I4.kept (t' := s4.toks) fun b ob q => Heap.get?_push_of_some _ q
  rcases hx with ⟨hx, q⟩ | ⟨hx, q⟩
  · obtain ⟨its, r, ht, hz⟩ := I5.list hx
    have hlen := r.length
    show wpAny (model X.prog X.w) X.A (subscriptTail e (.Slice none none (some (.UnaryOp .USub (.Constant (.int 1) k p1) p2)) p3) (.ref a) (.ref s4.heap.objs.size)) (EP X pins σ Q) X.xe { s4 with heap := s4.heap.push { cls := .type "slice", data := .fields #[vl, vu, vs] } }
    refine tail_any (ops := [.ref a, .ref s4.heap.objs.size]) ht.isList.typeIs (PySem.slot_list_getitem.lookup) ?_ (by with_unfolding_all rfl)
    refine wpAny_getItem_list_slice ht.isList (Heap.IsSliceOf.new _ vl vu vs) pl pu ps (by decide) ?_ (by rw [List.size_toArray]; omega)
    rw [PySem.W.krv_pick]
    refine ⟨.ref _, _, I5.laid (t' := s4.toks) (o := .lst xs.reverse) (fun b ob q => Heap.get?_push_of_some _ q) (Nat.le_refl _) ?_, rfl, q _ (I5.hok.fresh (Nat.le_refl _))⟩
    exact ⟨by rw [List.length_reverse]; exact hz, _, 0, r.reverse, Heap.get?_push_size _ rfl⟩
  · obtain ⟨its, r, ht, hz⟩ := I5.tuple hx
    have hlen : its.toArray.size = xs.length := by rw [List.size_toArray]; exact r.length.symm
    cases pl
    cases pu
    show wpAny (model X.prog X.w) X.A (subscriptTail e (.Slice none none (some (.UnaryOp .USub (.Constant (.int 1) k p1) p2)) p3) (.ref a) (.ref s4.heap.objs.size)) (EP X pins σ Q) X.xe { s4 with heap := s4.heap.push { cls := .type "slice", data := .fields #[.none, .none, vs] } }
    refine tail_any (ops := [.ref a, .ref s4.heap.objs.size]) ht.typeIs PyProof.Rows.slot_tuple_getitem.lookup ?_ (by with_unfolding_all rfl)
    refine HT.getItem_tuple_rev ht (Heap.IsSliceOf.new _ .none .none vs) ps ?_ (by rw [hlen]; exact hz)
    refine ⟨.ref _, _, I5.laid (t' := s4.toks) (o := .tup xs.reverse) (fun b ob q => Heap.get?_push_of_some _ q) (Nat.le_refl _) ?_, rfl, q _ (I5.hok.fresh (Nat.le_refl _))⟩
    exact ⟨by rw [List.length_reverse]; exact hz, _, r.reverse, IsTup.new _ _⟩
end
end L2

set_option Elab.async false
set_option linter.all false
set_option maxRecDepth 100000
set_option maxHeartbeats 1000000
/-! Mini Python: chains, and, or, not, if-expressions, subscripts. -/
namespace Mi
open PySem PySem.Spec PyProof.Rows L2
theorem R.bind_assoc {α β γ : Type} (r : R α) (f : α → Store → R β) (g : β → Store → R γ) : (r.bind f).bind g = r.bind fun a st => (f a st).bind g := by
  cases r <;> rfl
section
variable {X : Cx} {G : Gd} {Wx : WX} {pos : Pos}
theorem chain_rd {σ : L2.St} {m1 m2 m3 : ME} {o p : Cop} {Γ : Env} {S : S4} {α : Type} {β : Type} {Rl : S4 → β → α → Prop} {g : W → Store → R α} {Q : β → Hp → Prop} {Q' : VK} (k : Ok X.K G.ca S) (re : Re X.K S σ Γ)
    (h : Pst X.K G Wx Rl σ S ((evE G.Φ G.sub (.cmp2 o p m1 m2 m3) Γ S.st).bind g) Q)
    (fin : ∀ (b : Bool) S', Tr X.K G.ca S S' → Pst X.K G Wx Rl σ S' (g (.bl b) S'.st) Q → Q' (.bl b) S'.H) : tChain (copR X.K o) (copR X.K p) (tE X.K G Wx m1) (tE X.K G Wx m2) (tE X.K G Wx m3) σ S.H Q' := by
  unfold evE at h
  rw [R.bind_assoc] at h
  refine tE_bind k re h fun v1 S1 w1 t1 r1 re1 h1 => ?_
  rw [R.bind_assoc] at h1
  refine tE_bind t1.ok re1 h1 fun v2 S2 w2 t2 r2 re2 h2 => ?_
  rw [R.bind_assoc] at h2
  cases e : copW S2.st o w1 w2 with
  | none => rw [e] at h2; exact False.elim h2
  | some w =>
    rw [e] at h2
    obtain ⟨b, rfl, q⟩ := cop_rd t2.ok (t2.rw r1) r2 e
    refine q _ ⟨b, rfl, ?_⟩
    cases b with
    | false =>
      rw [if_neg Bool.false_ne_true]
      exact fin false S2 (t1.trans t2) h2
    | true =>
      rw [if_pos rfl]
      have h2 : Pst X.K G Wx Rl σ S2 (((evE G.Φ G.sub m3 Γ S2.st).bind fun z st => liftO (copW st p w2 z) st).bind g) Q := h2
      rw [R.bind_assoc] at h2
      refine tE_bind t2.ok re2 h2 fun v3 S3 w3 t3 r3 re3 h3 => ?_
      cases e3 : copW S3.st p w2 w3 with
      | none => rw [e3] at h3; exact False.elim h3
      | some w' =>
        rw [e3] at h3
        obtain ⟨b, rfl, q⟩ := cop_rd t3.ok (t3.rw r2) r3 e3
        exact q _ (fin b S3 ((t1.trans t2).trans t3) h3)
theorem R.bind_ok {α : Type} (r : R α) : r.bind (fun a st => .ok a st) = r := by cases r <;> rfl
theorem te_cmp2 (hu : X.A.units + 65 < cLine) {o p : Cop} {a b c : Expr} {m1 m2 m3 : ME} (h1 : PE X a (tE X.K G Wx m1)) (h2 : PE X b (tE X.K G Wx m2)) (h3 : PE X c (tE X.K G Wx m3)) (hm : lastMarks [copO o, copO p] [b, c] = false) :
    PE X (.Compare a [copO o, copO p] [b, c] pos) (tE X.K G Wx (.cmp2 o p m1 m2 m3)) :=
  (pe_chain (cop_ok hu o) (cop_ok hu p) h1 h2 h3 hm).imp fun σ H Q ⟨Γ, S, eH, k, re, h⟩ => by
    subst eH
    rw [← R.bind_ok (evE _ _ _ _ _)] at h
    exact chain_rd k re h fun b S' t q => Pst.done (v := V.bl b) q t.ok rfl
theorem tt_cmp2 (hu : X.A.units + 65 < cLine) {o p : Cop} {a b c : Expr} {m1 m2 m3 : ME} (h1 : PE X a (tE X.K G Wx m1)) (h2 : PE X b (tE X.K G Wx m2)) (h3 : PE X c (tE X.K G Wx m3)) (hm : lastMarks [copO o, copO p] [b, c] = false) :
    PT X (.Compare a [copO o, copO p] [b, c] pos) (tB' X.K G Wx (.cmp2 o p m1 m2 m3)) :=
  (pt_chain (cop_ok hu o) (cop_ok hu p) h1 h2 h3 hm).imp fun σ H Q ⟨Γ, S, eH, k, re, h⟩ => by
    subst eH
    exact chain_rd k re h fun b S' t q => ⟨b, rfl, Pst.done (Rl := fun _ (b c : Bool) => b = c) (v := b) q t.ok rfl⟩
/-! ### and, or, not -/
theorem te_and1 {a : Expr} {m : ME} (h1 : PE X a (tE X.K G Wx m)) : PE X (.BoolOp .And [a] pos) (tE X.K G Wx (.and [m])) :=
  (pe_one h1).imp fun σ H Q ⟨Γ, S, eH, k, re, h⟩ => ⟨Γ, S, eH, k, re, by unfold evE evAnd at h; exact h⟩
theorem te_or1 {a : Expr} {m : ME} (h1 : PE X a (tE X.K G Wx m)) : PE X (.BoolOp .Or [a] pos) (tE X.K G Wx (.or [m])) :=
  (pe_one h1).imp fun σ H Q ⟨Γ, S, eH, k, re, h⟩ => ⟨Γ, S, eH, k, re, by unfold evE evOr at h; exact h⟩
theorem te_and {a b : Expr} {rest : List Expr} {m m2 : ME} {ms : List ME} (h1 : PE X a (tE X.K G Wx m)) (h2 : PE X (.BoolOp .And (b :: rest) pos) (tE X.K G Wx (.and (m2 :: ms)))) : PE X (.BoolOp .And (a :: b :: rest) pos) (tE X.K G Wx (.and (m :: m2 :: ms))) :=
  (pe_and h1 h2).imp fun σ H Q ⟨Γ, S, eH, k, re, h⟩ => by
    subst eH
    unfold evE evAnd at h
    refine tE_bind k re h fun v S1 w t1 r re1 h1 => ?_
    cases w with
    | bl b =>
      refine ⟨b, r, ?_⟩
      cases b with
      | true =>
        rw [if_pos rfl]
        exact ⟨Γ, S1, rfl, t1.ok, re1, by unfold evE; exact h1⟩
      | false =>
        rw [if_neg Bool.false_ne_true]
        exact Pst.done (v := V.bl false) h1 t1.ok rfl
    | _ => exact False.elim h1
theorem te_or {a b : Expr} {rest : List Expr} {m m2 : ME} {ms : List ME} (h1 : PE X a (tE X.K G Wx m)) (h2 : PE X (.BoolOp .Or (b :: rest) pos) (tE X.K G Wx (.or (m2 :: ms)))) : PE X (.BoolOp .Or (a :: b :: rest) pos) (tE X.K G Wx (.or (m :: m2 :: ms))) :=
  (pe_or h1 h2).imp fun σ H Q ⟨Γ, S, eH, k, re, h⟩ => by
    subst eH
    unfold evE evOr at h
    refine tE_bind k re h fun v S1 w t1 r re1 h1 => ?_
    cases w with
    | bl b =>
      refine ⟨b, r, ?_⟩
      cases b with
      | false =>
        rw [if_neg Bool.false_ne_true]
        exact ⟨Γ, S1, rfl, t1.ok, re1, by unfold evE; exact h1⟩
      | true =>
        rw [if_pos rfl]
        exact Pst.done (v := V.bl true) h1 t1.ok rfl
    | _ => exact False.elim h1
theorem tw_and1 {a : Expr} {m : ME} (h1 : PT X a (tB' X.K G Wx m)) : PW X (.BoolOp .And [a] pos) (tB' X.K G Wx (.and [m])) :=
  (pw_and1 h1).imp fun σ H Q ⟨Γ, S, eH, k, re, h⟩ => ⟨Γ, S, eH, k, re, by unfold evE evAnd at h; exact h⟩
theorem tw_or1 {a : Expr} {m : ME} (h1 : PT X a (tB' X.K G Wx m)) : PW X (.BoolOp .Or [a] pos) (tB' X.K G Wx (.or [m])) :=
  (pw_or1 h1).imp fun σ H Q ⟨Γ, S, eH, k, re, h⟩ => ⟨Γ, S, eH, k, re, by unfold evE evOr at h; exact h⟩
theorem tw_and {a b : Expr} {rest : List Expr} {m m2 : ME} {ms : List ME} (h1 : PT X a (tB' X.K G Wx m)) (h2 : PW X (.BoolOp .And (b :: rest) pos) (tB' X.K G Wx (.and (m2 :: ms)))) : PW X (.BoolOp .And (a :: b :: rest) pos) (tB' X.K G Wx (.and (m :: m2 :: ms))) :=
  (pw_and h1 h2).imp fun σ H Q ⟨Γ, S, eH, k, re, h⟩ => by
    subst eH
    unfold evE evAnd at h
    rw [R.bind_assoc] at h
    refine tB_bind k re h (fun w st hw => by cases w <;> first | rfl | exact absurd rfl (hw _)) fun b S1 t1 re1 h1 => ?_
    cases b with
    | true =>
      rw [if_pos rfl]
      exact ⟨Γ, S1, rfl, t1.ok, re1, by unfold evE; exact h1⟩
    | false =>
      rw [if_neg Bool.false_ne_true]
      exact Pst.done (Rl := fun _ (b c : Bool) => b = c) (v := false) h1 t1.ok rfl
theorem tw_or {a b : Expr} {rest : List Expr} {m m2 : ME} {ms : List ME} (h1 : PT X a (tB' X.K G Wx m)) (h2 : PW X (.BoolOp .Or (b :: rest) pos) (tB' X.K G Wx (.or (m2 :: ms)))) : PW X (.BoolOp .Or (a :: b :: rest) pos) (tB' X.K G Wx (.or (m :: m2 :: ms))) :=
  (pw_or h1 h2).imp fun σ H Q ⟨Γ, S, eH, k, re, h⟩ => by
    subst eH
    unfold evE evOr at h
    rw [R.bind_assoc] at h
    refine tB_bind k re h (fun w st hw => by cases w <;> first | rfl | exact absurd rfl (hw _)) fun b S1 t1 re1 h1 => ?_
    cases b with
    | false =>
      rw [if_neg Bool.false_ne_true]
      exact ⟨Γ, S1, rfl, t1.ok, re1, by unfold evE; exact h1⟩
    | true =>
      rw [if_pos rfl]
      exact Pst.done (Rl := fun _ (b c : Bool) => b = c) (v := true) h1 t1.ok rfl
theorem te_not {a : Expr} {m : ME} (h1 : PE X a (tE X.K G Wx m)) : PE X (.UnaryOp .Not a pos) (tE X.K G Wx (.not m)) :=
  (pe_not h1).imp fun σ H Q ⟨Γ, S, eH, k, re, h⟩ => by
    subst eH
    unfold evE at h
    refine tE_bind k re h fun v S1 w t1 r re1 h1 => ?_
    cases w with
    | bl b => exact ⟨b, r, Pst.done (v := V.bl (!b)) h1 t1.ok rfl⟩
    | _ => exact False.elim h1
theorem tt_not {a : Expr} {m : ME} (h1 : PT X a (tB' X.K G Wx m)) : PT X (.UnaryOp .Not a pos) (tB' X.K G Wx (.not m)) :=
  (pt_not h1).imp fun σ H Q ⟨Γ, S, eH, k, re, h⟩ => by
    subst eH
    unfold evE at h
    rw [R.bind_assoc] at h
    refine tB_bind k re h (fun w st hw => by cases w <;> first | rfl | exact absurd rfl (hw _)) fun b S1 t1 re1 h1 => ?_
    exact Pst.done (Rl := fun _ (b c : Bool) => b = c) (v := !b) h1 t1.ok rfl
theorem te_ite {c a b : Expr} {m m1 m2 : ME} (h0 : PT X c (tB' X.K G Wx m)) (h1 : PE X a (tE X.K G Wx m1)) (h2 : PE X b (tE X.K G Wx m2)) : PE X (.IfExp c a b pos) (tE X.K G Wx (.ite m m1 m2)) :=
  (pe_ifExp h0 h1 h2).imp fun σ H Q ⟨Γ, S, eH, k, re, h⟩ => by
    subst eH
    unfold evE at h
    refine tB_bind k re h (fun w st hw => by cases w <;> first | rfl | exact absurd rfl (hw _)) fun b S1 t1 re1 h1 => ?_
    cases b with
    | true => rw [if_pos rfl]; exact ⟨Γ, S1, rfl, t1.ok, re1, h1⟩
    | false => rw [if_neg Bool.false_ne_true]; exact ⟨Γ, S1, rfl, t1.ok, re1, h1⟩
theorem te_neg {a : Expr} {m : ME} (h1 : PE X a (tE X.K G Wx m)) : PE X (.UnaryOp .USub a pos) (tE X.K G Wx (.neg m)) :=
  (pe_un un_neg h1).imp fun σ H Q ⟨Γ, S, eH, k, re, h⟩ => by
    subst eH
    unfold evE at h
    refine tE_bind k re h fun v S1 w t1 r re1 h1 => ?_
    cases w with
    | int i => exact ⟨i, r, Pst.done (v := V.int (-i)) h1 t1.ok rfl⟩
    | _ => exact False.elim h1
/-! ### subscripts -/
theorem te_idx {a b : Expr} {m1 m2 : ME} (h1 : PE X a (tE X.K G Wx m1)) (h2 : PE X b (tE X.K G Wx m2)) (hs : PlainIx b) : PE X (.Subscript a b pos) (tE X.K G Wx (.idx m1 m2)) :=
  (pe_ix (ix_list.or ix_tup) h1 h2 hs).imp fun σ H Q ⟨Γ, S, eH, k, re, h⟩ => by
    subst eH
    unfold evE at h
    refine tE_bind k re h fun v1 S1 w1 t1 r1 re1 h1 => ?_
    refine tE_bind t1.ok re1 h1 fun v2 S2 w2 t2 r2 re2 h2 => ?_
    obtain ⟨w, e, h3⟩ := Pst.lift h2
    clear h2
    have q1 := t2.rw r1
    have lst : ∀ w1, RwS X.K S2 v1 w1 → (match w2 with | .int i => (match seqL S2.st w1 with | some (_, xs) => L2.atI xs i | none => none) | _ => none) = some w →
        rIxL X.K v1 v2 S2.H Q ∨ rIxT X.K v1 v2 S2.H Q := fun w1 q1 e => by
      cases w2 with
      | int i =>
        have e : (match seqL S2.st w1 with | some (_, xs) => L2.atI xs i | none => none) = some w := e
        cases z : seqL S2.st w1 with
        | none => rw [z] at e; cases e
        | some p =>
          obtain ⟨kk, xs⟩ := p
          rw [z] at e
          obtain ⟨a, vs, e1, q, _, _, t⟩ := seqL_rw t2.ok q1 z
          obtain ⟨x, e2, rx⟩ := Rws.at_ t e
          exact .inl ⟨a, vs, i, x, e1, r2, q, e2, Pst.done (Rl := RwS X.K) (v := x) h3 t2.ok rx⟩
      | _ => cases e
    cases w1 with
    | tup xs =>
      cases w2 with
      | int i =>
        obtain ⟨a, vs, e1, q, t⟩ := tup_rw t2.ok q1
        obtain ⟨x, e2, rx⟩ := Rws.at_ t (show L2.atI xs i = some w from e)
        exact .inr ⟨a, vs, i, x, e1, r2, q, e2, Pst.done (Rl := RwS X.K) (v := x) h3 t2.ok rx⟩
      | _ => cases e
    | lst kk xs => cases w2 <;> first | exact lst _ q1 e | cases e
    | loc l => cases w2 <;> first | exact lst _ q1 e | cases e
    | _ => cases w2 <;> cases e
def tO' (K : PySem.W.Frag) (G : Gd) (Wx : WX) (m : Option ME) : TO := fun σ H Q => ∃ (Γ : Env) (S : S4), S.H = H ∧ Ok K G.ca S ∧ Re K S σ Γ ∧ Pst K G Wx (fun _ b c => b = c) σ S (evO G.Φ G.sub m Γ S.st) Q
theorem _root_.L2.PO.imp {X : Cx} {e : Option Expr} {t t' : TO} (h : PO X e t) (i : ∀ σ H Q, t' σ H Q → t σ H Q) : PO X e t' := ⟨fun pins s σ H Q I hw => h.run pins s σ H Q I (i _ _ _ hw)⟩
theorem to_none : PO X none (tO' X.K G Wx none) := po_none.imp fun σ H Q ⟨Γ, S, eH, k, re, h⟩ => by
  subst eH
  unfold evO at h
  exact Pst.done (Rl := fun _ b c => b = c) (v := none) h k rfl
theorem to_some {e : Expr} {m : ME} (h1 : PE X e (tE X.K G Wx m)) : PO X (some e) (tO' X.K G Wx (some m)) := (po_some h1).imp fun σ H Q ⟨Γ, S, eH, k, re, h⟩ => by
  subst eH
  unfold evO at h
  refine tE_bind k re h fun v S1 w t1 r re1 h1 => ?_
  cases w with
  | int i => exact ⟨i, r, Pst.done (Rl := fun _ b c => b = c) (v := some i) h1 t1.ok rfl⟩
  | _ => exact False.elim h1
theorem tO_bind {m : Option ME} {β : Type} {α : Type} {Rl : S4 → β → α → Prop} {σ : L2.St} {Γ : Env} {S : S4} {f : Option Int → Store → R α} {Q : β → Hp → Prop} (o : Ok X.K G.ca S) (re : Re X.K S σ Γ)
    (h : Pst X.K G Wx Rl σ S ((evO G.Φ G.sub m Γ S.st).bind f) Q) {Q' : Option Int → Hp → Prop}
    (k : ∀ v S', Tr X.K G.ca S S' → Re X.K S' σ Γ → Pst X.K G Wx Rl σ S' (f v S'.st) Q → Q' v S'.H) : tO' X.K G Wx m σ S.H Q' :=
  ⟨Γ, S, rfl, o, re, (Pst.bind (Rl := fun _ (b c : Option Int) => b = c) h).mono fun v H' ⟨S', w, e, t, r, _, q⟩ => by subst e r; exact k v S' t (re.mono t) q⟩
theorem cut_len (vs : List V) (lo hi : Option Int) : (cutV vs lo hi).length ≤ vs.length := cutV_length vs lo hi
theorem te_sli {a : Expr} {lo hi : Option Expr} {m : ME} {m1 m2 : Option ME} {p2 : Pos} (h0 : PE X a (tE X.K G Wx m)) (h1 : PO X lo (tO' X.K G Wx m1)) (h2 : PO X hi (tO' X.K G Wx m2)) : PE X (.Subscript a (.Slice lo hi none p2) pos) (tE X.K G Wx (.sli m m1 m2)) :=
  (pe_slice sl_list h0 h1 h2).imp fun σ H Q ⟨Γ, S, eH, k, re, h⟩ => by
    subst eH
    unfold evE at h
    refine tE_bind k re h fun v S1 w t1 r re1 h1 => ?_
    refine tO_bind t1.ok re1 h1 fun l S2 t2 re2 h2 => ?_
    refine tO_bind t2.ok re2 h2 fun u S3 t3 re3 h3 => ?_
    obtain ⟨w', e, h3⟩ := Pst.lift h3
    unfold slW at e
    have q1 := t3.rw (t2.rw r)
    cases z : seqL S3.st w with
    | none => rw [z] at e; cases e
    | some p =>
      obtain ⟨kk, xs⟩ := p
      rw [z] at e
      cases e
      obtain ⟨a, vs, e1, q, _, ll, t⟩ := seqL_rw t3.ok q1 z
      refine ⟨a, vs, e1, q, fun p hp => ?_⟩
      have t4 := t3.ok.put (o := HO.lst (cutV vs l u)) hp
      exact Pst.done (S := S3.put p (.lst (cutV vs l u))) (Pst.later h3 t4) t4.ok (rw_newL (S' := S3) t3.ok hp (Rws.cut t l u) (Nat.le_trans (cut_len vs l u) ll))
theorem te_rev {a : Expr} {m : ME} {k : Nat} {p1 p2 p3 : Pos} (h0 : PE X a (tE X.K G Wx m)) : PE X (.Subscript a (.Slice none none (some (.UnaryOp .USub (.Constant (.int 1) k p1) p2)) p3) pos) (tE X.K G Wx (.rev m)) :=
  (pe_revA h0).imp fun σ H Q ⟨Γ, S, eH, k, re, h⟩ => by
    subst eH
    unfold evE at h
    refine tE_bind k re h fun v S1 w t1 r re1 h1 => ?_
    obtain ⟨w', e, h1⟩ := Pst.lift h1
    have main : (match seqL S1.st w with | some (_, xs) => some (W.lst .fz xs.reverse) | none => none) = some w' → ∃ a xs, v = .ref a ∧ ((SqL X.K S1.H a xs ∧ ∀ p, S1.H p = none → Q (.ref p) (upd S1.H p (.lst xs.reverse))) ∨ (SqT X.K S1.H a xs ∧ ∀ p, S1.H p = none → Q (.ref p) (upd S1.H p (.tup xs.reverse)))) := fun e => by
      cases z : seqL S1.st w with
      | none => rw [z] at e; cases e
      | some p =>
        obtain ⟨kk, xs⟩ := p
        rw [z] at e
        cases e
        obtain ⟨a, vs, e1, q, _, ll, t⟩ := seqL_rw t1.ok r z
        refine ⟨a, vs, e1, .inl ⟨q, fun p hp => ?_⟩⟩
        have t4 := t1.ok.put (o := HO.lst vs.reverse) hp
        exact Pst.done (S := S1.put p (.lst vs.reverse)) (Pst.later h1 t4) t4.ok (rw_newL (S' := S1) t1.ok hp (Rws.reverse t) (by rw [List.length_reverse]; exact ll))
    cases w with
    | tup xs =>
      cases e
      obtain ⟨a, vs, e1, q, t⟩ := r
      refine ⟨a, vs, e1, .inr ⟨Same.seqT t1.ok.sub q, fun p hp => ?_⟩⟩
      have t4 := t1.ok.put (o := HO.tup vs.reverse) hp
      exact Pst.done (S := S1.put p (.tup vs.reverse)) (Pst.later h1 t4) t4.ok (rw_newT t1.ok hp (Rws.reverse t))
    | lst kk xs => exact main e
    | loc l => exact main e
    | _ => cases e
end
end Mi

set_option Elab.async false
set_option linter.all false
set_option maxRecDepth 100000
set_option maxHeartbeats 1000000
/-! Mini Python: built-ins, isinstance, calls of the defs. -/
namespace Mi
open PySem PySem.Spec PyProof.Rows L2
theorem fold_max : ∀ (xs : List Int) (x : Int), (xs.foldl (fun m y => if m < y then y else m) x) ∈ x :: xs ∧ ∀ y ∈ x :: xs, y ≤ xs.foldl (fun m y => if m < y then y else m) x
  | [], x => ⟨by simp, by simp⟩
  | z :: xs, x => by
    rw [List.foldl_cons]
    by_cases h : x < z
    · rw [if_pos h]
      obtain ⟨a, b⟩ := fold_max xs z
      refine ⟨List.mem_cons_of_mem _ a, fun y hy => ?_⟩
      rcases List.mem_cons.mp hy with e | e
      · have := b z List.mem_cons_self; omega
      · exact b y e
    · rw [if_neg h]
      obtain ⟨a, b⟩ := fold_max xs x
      refine ⟨?_, fun y hy => ?_⟩
      · rcases List.mem_cons.mp a with e | e
        · rw [e]; exact List.mem_cons_self
        · exact List.mem_cons_of_mem _ (List.mem_cons_of_mem _ e)
      · have h0 := b x List.mem_cons_self
        rcases List.mem_cons.mp hy with e | e
        · omega
        · rcases List.mem_cons.mp e with e | e
          · omega
          · exact b y (List.mem_cons_of_mem _ e)
theorem fold_min : ∀ (xs : List Int) (x : Int), (xs.foldl (fun m y => if y < m then y else m) x) ∈ x :: xs ∧ ∀ y ∈ x :: xs, xs.foldl (fun m y => if y < m then y else m) x ≤ y
  | [], x => ⟨by simp, by simp⟩
  | z :: xs, x => by
    rw [List.foldl_cons]
    by_cases h : z < x
    · rw [if_pos h]
      obtain ⟨a, b⟩ := fold_min xs z
      refine ⟨List.mem_cons_of_mem _ a, fun y hy => ?_⟩
      rcases List.mem_cons.mp hy with e | e
      · have := b z List.mem_cons_self; omega
      · exact b y e
    · rw [if_neg h]
      obtain ⟨a, b⟩ := fold_min xs x
      refine ⟨?_, fun y hy => ?_⟩
      · rcases List.mem_cons.mp a with e | e
        · rw [e]; exact List.mem_cons_self
        · exact List.mem_cons_of_mem _ (List.mem_cons_of_mem _ e)
      · have h0 := b x List.mem_cons_self
        rcases List.mem_cons.mp hy with e | e
        · omega
        · rcases List.mem_cons.mp e with e | e
          · omega
          · exact b y (List.mem_cons_of_mem _ e)
theorem max_is {ns : List Int} {m m' : Int} (e : maxI ns = some m) (h1 : m' ∈ ns) (h2 : ∀ y ∈ ns, y ≤ m') : m' = m := by
  cases ns with
  | nil => cases e
  | cons x xs =>
    obtain ⟨a, b⟩ := fold_max xs x
    have e : xs.foldl (fun m y => if m < y then y else m) x = m := Option.some.inj e
    rw [e] at a b
    have := h2 m a
    have := b m' h1
    omega
theorem min_is {ns : List Int} {m m' : Int} (e : minI ns = some m) (h1 : m' ∈ ns) (h2 : ∀ y ∈ ns, m' ≤ y) : m' = m := by
  cases ns with
  | nil => cases e
  | cons x xs =>
    obtain ⟨a, b⟩ := fold_min xs x
    have e : xs.foldl (fun m y => if y < m then y else m) x = m := Option.some.inj e
    rw [e] at a b
    have := h2 m a
    have := b m' h1
    omega
section
variable {X : Cx} {G : Gd} {Wx : WX} {pos : Pos}
def b1R (K : PySem.W.Frag) : B1 → List V → Hp → VK → Prop
  | .len => fun xs H Q => ∃ p ys, xs = [.ref p] ∧ (SqL K H p ys ∨ SqT K H p ys) ∧ Q (.int ys.length) H
  | .abs => fun xs H Q => ∃ i, xs = [.int i] ∧ Q (.int (if i < 0 then -i else i)) H
  | .sum => rSum K
  | .all => rAll K
  | .any => rAny K
  | .max => rMax K
  | .min => rMin K
  | .list => fun xs H Q => ∃ p ys, xs = [.ref p] ∧ (SqL K H p ys ∨ SqT K H p ys) ∧ ∀ l, H l = none → Q (.ref l) (upd H l (.lst ys))
  | .tuple => fun xs H Q => ∃ p ys, xs = [.ref p] ∧ ((SqL K H p ys ∧ ∀ l, H l = none → Q (.ref l) (upd H l (.tup ys))) ∨ (SqT K H p ys ∧ Q (.ref p) H))
  | .sset => fun _ _ _ => False
theorem b1_rd {f : B1} {S : S4} {σ : L2.St} {x : V} {w1 w : W} {Q : VK} {K : PySem.W.Frag} (hf : f ≠ .sset) (k : Ok K G.ca S) (r : RwS K S x w1) (e : b1W S.st f w1 = some w) (h : Pst K G Wx (RwS K) σ S (.ok w S.st) Q) : b1R K f [x] S.H Q := by
  have seq : ∀ {α : Type} (g : LK × List W → Option α) (z : α), (seqL S.st w1).bind g = some z → ∃ kk xs a vs, g (kk, xs) = some z ∧ x = .ref a ∧ SqL K S.H a vs ∧ vs.length ≤ lim ∧ RwsS K S vs xs := by
    intro α g z e
    cases q : seqL S.st w1 with
    | none => rw [q] at e; cases e
    | some p =>
      obtain ⟨kk, xs⟩ := p
      rw [q] at e
      obtain ⟨a, vs, e1, q1, _, l, t⟩ := seqL_rw k r q
      exact ⟨kk, xs, a, vs, e, e1, q1, l, t⟩
  have seqm : ∀ {α : Type} (g : LK × List W → α) (z : α), (seqL S.st w1).map g = some z → ∃ kk xs a vs, g (kk, xs) = z ∧ x = .ref a ∧ SqL K S.H a vs ∧ vs.length ≤ lim ∧ RwsS K S vs xs := by
    intro α g z e
    obtain ⟨kk, xs, a, vs, e1, r⟩ := seq (fun p => some (g p)) z (by rw [← e]; cases seqL S.st w1 <;> rfl)
    exact ⟨kk, xs, a, vs, Option.some.inj e1, r⟩
  have optm : ∀ {α β : Type} (o : Option α) (g : α → β) (z : β), o.map g = some z → ∃ a, o = some a ∧ g a = z := by
    intro α β o g z e
    cases o with
    | none => cases e
    | some a => exact ⟨a, rfl, Option.some.inj e⟩
  have optb : ∀ {α β : Type} (o : Option α) (g : α → Option β) (z : β), o.bind g = some z → ∃ a, o = some a ∧ g a = some z := by
    intro α β o g z e
    cases o with
    | none => cases e
    | some a => exact ⟨a, rfl, e⟩
  cases f with
  | len =>
    have lst : (seqL S.st w1).map (fun p => W.int p.2.length) = some w → b1R K .len [x] S.H Q := fun e => by
      obtain ⟨kk, xs, a, vs, e1, e2, q, _, t⟩ := seqm _ _ e
      refine ⟨a, vs, by rw [e2], .inl q, ?_⟩
      exact Pst.done (v := V.int (vs.length : Nat)) h k (by rw [← e1]; show V.int _ = V.int _; rw [t.length])
    cases w1 with
    | tup xs =>
      cases e
      obtain ⟨a, vs, e1, q, t⟩ := tup_rw k r
      refine ⟨a, vs, by rw [e1], .inr q, ?_⟩
      exact Pst.done (v := V.int (vs.length : Nat)) h k (by show V.int _ = V.int _; rw [t.length])
    | lst kk xs => exact lst e
    | loc l => exact lst e
    | _ => cases e
  | abs =>
    cases w1 with
    | int i => cases e; exact ⟨i, by rw [show x = V.int i from r], Pst.done (v := V.int _) h k rfl⟩
    | _ => cases e
  | sum =>
    obtain ⟨kk, xs, a, vs, e1, e2, q, _, t⟩ := seq _ _ e
    obtain ⟨ns, e3, e4⟩ := optm _ _ _ e1
    subst e4
    rw [Rws.intsE t e3] at q
    exact ⟨a, ns, by rw [e2], q, Pst.done (v := V.int _) h k rfl⟩
  | all =>
    obtain ⟨kk, xs, a, vs, e1, e2, q, _, t⟩ := seq _ _ e
    obtain ⟨ns, e3, e4⟩ := optm _ _ _ e1
    subst e4
    rw [Rws.blsE t e3] at q
    exact ⟨a, ns, by rw [e2], q, Pst.done (v := V.bl _) h k rfl⟩
  | any =>
    obtain ⟨kk, xs, a, vs, e1, e2, q, _, t⟩ := seq _ _ e
    obtain ⟨ns, e3, e4⟩ := optm _ _ _ e1
    subst e4
    rw [Rws.blsE t e3] at q
    exact ⟨a, ns, by rw [e2], q, Pst.done (v := V.bl _) h k rfl⟩
  | max =>
    obtain ⟨kk, xs, a, vs, e1, e2, q, _, t⟩ := seq _ _ e
    obtain ⟨ns, e3, e4⟩ := optb _ _ _ e1
    obtain ⟨m, e5, e6⟩ := optm _ _ _ e4
    subst e6
    rw [Rws.intsE t e3] at q
    refine ⟨a, ns, by rw [e2], q, ?_, fun m' h1 h2 => ?_⟩
    · cases ns with
      | nil => cases e5
      | cons _ _ => simp
    · rw [max_is e5 h1 h2]
      exact Pst.done (v := V.int _) h k rfl
  | min =>
    obtain ⟨kk, xs, a, vs, e1, e2, q, _, t⟩ := seq _ _ e
    obtain ⟨ns, e3, e4⟩ := optb _ _ _ e1
    obtain ⟨m, e5, e6⟩ := optm _ _ _ e4
    subst e6
    rw [Rws.intsE t e3] at q
    refine ⟨a, ns, by rw [e2], q, ?_, fun m' h1 h2 => ?_⟩
    · cases ns with
      | nil => cases e5
      | cons _ _ => simp
    · rw [min_is e5 h1 h2]
      exact Pst.done (v := V.int _) h k rfl
  | list =>
    have lst : (seqL S.st w1).map (fun p => W.lst .fz p.2) = some w → b1R K .list [x] S.H Q := fun e => by
      obtain ⟨kk, xs, a, vs, e1, e2, q, l, t⟩ := seqm _ _ e
      subst e1
      refine ⟨a, vs, by rw [e2], .inl q, fun p hp => ?_⟩
      have t4 := k.put (o := HO.lst vs) hp
      exact Pst.done (S := S.put p (.lst vs)) (Pst.later h t4) t4.ok (rw_newL (S' := S) k hp t l)
    cases w1 with
    | tup xs =>
      by_cases hl : xs.length ≤ lim
      · have e : (if xs.length ≤ lim then some (W.lst .fz xs) else none) = some w := e
        rw [if_pos hl] at e
        cases e
        obtain ⟨a, vs, e1, q, t⟩ := tup_rw k r
        refine ⟨a, vs, by rw [e1], .inr q, fun p hp => ?_⟩
        have t4 := k.put (o := HO.lst vs) hp
        exact Pst.done (S := S.put p (.lst vs)) (Pst.later h t4) t4.ok (rw_newL (S' := S) k hp t (by rw [t.length]; exact hl))
      · have e : (if xs.length ≤ lim then some (W.lst .fz xs) else none) = some w := e
        rw [if_neg hl] at e
        cases e
    | lst kk xs => exact lst e
    | loc l => exact lst e
    | _ => cases e
  | tuple =>
    have lst : (seqL S.st w1).map (fun p => W.tup p.2) = some w → b1R K .tuple [x] S.H Q := fun e => by
      obtain ⟨kk, xs, a, vs, e1, e2, q, l, t⟩ := seqm _ _ e
      subst e1
      refine ⟨a, vs, by rw [e2], .inl ⟨q, fun p hp => ?_⟩⟩
      have t4 := k.put (o := HO.tup vs) hp
      exact Pst.done (S := S.put p (.tup vs)) (Pst.later h t4) t4.ok (rw_newT k hp t)
    cases w1 with
    | tup xs =>
      cases e
      obtain ⟨a, vs, e1, q, t⟩ := tup_rw k r
      exact ⟨a, vs, by rw [e1], .inr ⟨q, by rw [← e1]; exact Pst.done h k r⟩⟩
    | lst kk xs => exact lst e
    | loc l => exact lst e
    | _ => cases e
  | sset => exact absurd rfl hf
end
end Mi

set_option Elab.async false
set_option linter.all false
set_option maxRecDepth 100000
set_option maxHeartbeats 1000000
/-! Mini Python: built-ins by name, isinstance, calls of the defs. -/
namespace Mi
open PySem PySem.Spec PyProof.Rows L2
def b1N : B1 → Str
  | .len => "len" | .abs => "abs" | .sum => "sum" | .all => "all" | .any => "any" | .max => "max" | .min => "min" | .list => "list" | .tuple => "tuple" | .sset => "sorted"
section
variable {X : Cx} {G : Gd} {Wx : WX} {p pos : Pos}
theorem te_b1 (f : B1) {a : Expr} {m : ME} (hf : f ≠ .sset) (hc : X.calm = true) (hg : Gl X (b1N f)) (hm : X.mg (b1N f) = none) (h1 : PE X a (tE X.K G Wx m)) (hs : starEach [a] X.env = [(false, eval a X.env)]) : PE X (.Call (.Name (b1N f) p) [a] [] pos) (tE X.K G Wx (.b1 f m)) := by
  have ha : PA X [a] (tCons (tE X.K G Wx m) tNil) := pa_cons h1 pa_nil hs
  have fin : ∀ {e : Expr}, PE X e (tCB (b1R X.K f) (tCons (tE X.K G Wx m) tNil)) → PE X e (tE X.K G Wx (.b1 f m)) := fun h => h.imp fun σ H Q ⟨Γ, S, eH, k, re, h⟩ => by
    subst eH
    unfold evE at h
    refine tE_bind k re h fun v S1 w t1 r re1 h1 => ?_
    obtain ⟨w', e, h1⟩ := Pst.lift h1
    exact b1_rd hf t1.ok r e h1
  cases f with
  | len => exact fin (pe_callB call_len_seq hg hm PySem.boot_len ha (by decide) (by decide) hs rfl)
  | abs => exact fin (pe_callB call_abs hg hm (by decide +kernel) ha (by decide) (by decide) hs rfl)
  | sum => exact fin (pe_callB (cr_sum hc) hg hm (by decide +kernel) ha (by decide) (by decide) hs rfl)
  | all => exact fin (pe_callB (cr_all hc) hg hm (by decide +kernel) ha (by decide) (by decide) hs rfl)
  | any => exact fin (pe_callB (cr_any hc) hg hm (by decide +kernel) ha (by decide) (by decide) hs rfl)
  | max => exact fin (pe_callB (cr_max hc) hg hm (by decide +kernel) ha (by decide) (by decide) hs rfl)
  | min => exact fin (pe_callB (cr_min hc) hg hm (by decide +kernel) ha (by decide) (by decide) hs rfl)
  | list => exact fin (pe_callTy call_list_of hg hm (by decide +kernel) ha (by decide) (by decide) hs rfl)
  | tuple => exact fin (pe_callTy call_tuple_of hg hm (by decide +kernel) ha (by decide) (by decide) hs rfl)
  | sset => exact absurd rfl hf
def b2N : B2 → Str
  | .max => "max" | .min => "min"
theorem te_b2 (f : B2) {a b : Expr} {m1 m2 : ME} (hc : X.calm = true) (hg : Gl X (b2N f)) (hm : X.mg (b2N f) = none) (h1 : PE X a (tE X.K G Wx m1)) (h2 : PE X b (tE X.K G Wx m2)) (hs : starEach [a, b] X.env = [(false, eval a X.env), (false, eval b X.env)]) (hs2 : starEach [b] X.env = [(false, eval b X.env)]) :
    PE X (.Call (.Name (b2N f) p) [a, b] [] pos) (tE X.K G Wx (.b2 f m1 m2)) := by
  have ha : PA X [a, b] (tCons (tE X.K G Wx m1) (tCons (tE X.K G Wx m2) tNil)) := pa_cons h1 (pa_cons h2 pa_nil hs2) (by rw [hs, hs2])
  have hpl : (backTo pos (starEach [b] X.env)).any (·.1) = false := by rw [hs2]; rfl
  have key : ∀ {e : Expr} {r : List V → Hp → VK → Prop}, PE X e (tCB r (tCons (tE X.K G Wx m1) (tCons (tE X.K G Wx m2) tNil))) → (∀ (S : S4) (i j : Int) (w : W) (Q : VK), b2W f (.int i) (.int j) = some w → (∀ z, w = .int z → Q (.int z) S.H) → r [.int i, .int j] S.H Q) → PE X e (tE X.K G Wx (.b2 f m1 m2)) := fun h hr => h.imp fun σ H Q ⟨Γ, S, eH, k, re, h⟩ => by
    subst eH
    unfold evE at h
    refine tE_bind k re h fun v S1 w1 t1 r1 re1 h1 => ?_
    refine tE_bind t1.ok re1 h1 fun u S2 w2 t2 r2 re2 h2 => ?_
    obtain ⟨w', e, h3⟩ := Pst.lift h2
    clear h2
    have r1 := t2.rw r1
    obtain ⟨i, j, rfl, rfl⟩ : ∃ i j, w1 = .int i ∧ w2 = .int j := by
      cases w1 with
      | int i => cases w2 with
        | int j => exact ⟨i, j, rfl, rfl⟩
        | _ => cases f <;> cases e
      | _ => cases f <;> cases e
    rw [show v = V.int i from r1, show u = V.int j from r2]
    exact hr S2 i j w' Q e fun z ez => by subst ez; exact Pst.done (Rl := RwS X.K) (v := V.int z) h3 t2.ok rfl
  cases f with
  | max =>
    exact key (pe_callB (call_max2 hc) hg hm (by decide +kernel) ha (by decide) (by decide) (by rw [hs, hs2]) hpl) fun S i j w Q e q => by
      cases e
      exact ⟨i, j, rfl, q _ rfl⟩
  | min =>
    exact key (pe_callB (call_min2 hc) hg hm (by decide +kernel) ha (by decide) (by decide) (by rw [hs, hs2]) hpl) fun S i j w Q e q => by
      cases e
      exact ⟨i, j, rfl, q _ rfl⟩
/-! ### isinstance of a built-in type -/
def tyN : W → Store → Option String
  | .non, _ => some "NoneType"
  | .bl _, _ => some "bool"
  | .int _, _ => some "int"
  | .str _, _ => some "str"
  | .tup _, _ => some "tuple"
  | .lst k _, _ => if k = .gv then none else some "list"
  | .loc l, st => match st[l]? with
    | some (some (.lst _)) => some "list"
    | some (some (.dct _)) => some "dict"
    | _ => none
  | _, _ => none
def okTy (n : String) : Bool := n == "int" || n == "bool" || n == "str" || n == "tuple" || n == "list"
theorem kit_tab : (["NoneType", "bool", "int", "str", "tuple", "list", "dict"].all fun a => ["int", "bool", "str", "tuple", "list"].all fun n => decide (kitB a n = some (n == a || (a == "bool" && n == "int")))) = true := by decide +kernel
theorem isi_rd {S : S4} {x : V} {w1 w : W} {n : String} {sub : Nat → Nat → Bool} {K : PySem.W.Frag} (k : Ok K G.ca S) (r : RwS K S x w1) (hn : okTy n = true) (e : isiW sub S.st w1 (.ty n) = some w) :
    ∃ (t : Value) (b : Bool), w = .bl b ∧ TyX K S.H x t ∧ PySem.W.kitOne K t (.type n) = some b := by
  have hn' : n ∈ ["int", "bool", "str", "tuple", "list"] := by
    unfold okTy at hn
    simp only [Bool.or_eq_true, beq_iff_eq] at hn
    rcases hn with (((h | h) | h) | h) | h <;> subst h <;> simp
  have tab : ∀ a ∈ ["NoneType", "bool", "int", "str", "tuple", "list", "dict"], kitB a n = some (n == a || (a == "bool" && n == "int")) := fun a ha => by
    have h := List.all_eq_true.mp kit_tab a ha
    exact of_decide_eq_true (List.all_eq_true.mp h n hn')
  have fin : ∀ (a : String) (b : Bool), a ∈ ["NoneType", "bool", "int", "str", "tuple", "list", "dict"] → TyX K S.H x (.type a) → w = .bl b → b = (n == a || (a == "bool" && n == "int")) → ∃ (t : Value) (b : Bool), w = .bl b ∧ TyX K S.H x t ∧ PySem.W.kitOne K t (.type n) = some b := fun a b ha ty e eb =>
    ⟨_, b, e, ty, kit_ty (by rw [tab a ha, eb])⟩
  cases w1 with
  | non =>
    cases e
    obtain rfl : x = V.non := r
    exact fin "NoneType" _ (by simp) (.base .non) rfl (by simp)
  | bl b =>
    cases e
    obtain rfl : x = V.bl b := r
    exact fin "bool" _ (by simp) (.base (.bl b)) rfl (by simp)
  | int b =>
    cases e
    obtain rfl : x = V.int b := r
    exact fin "int" _ (by simp) (.base (.int b)) rfl (by simp)
  | str b =>
    cases e
    obtain rfl : x = V.str b := r
    exact fin "str" _ (by simp) (.base (.str b)) rfl (by simp)
  | tup xs =>
    cases e
    obtain ⟨a, vs, e1, q, t⟩ := tup_rw k r
    subst e1
    have ty : TyX K S.H (.ref a) (.type "tuple") := by
      rcases q with (q | ⟨o, q⟩) | ⟨o, its, m, q, c, _⟩
      · exact .base (.tup q)
      · exact .fTuple q
      · exact .kTuple q c
    exact fin "tuple" _ (by simp) ty rfl (by simp)
  | lst kk xs =>
    have e : (if kk = .gv then none else some (W.bl (n == "list"))) = some w := e
    by_cases hk : kk = .gv
    · rw [if_pos hk] at e; cases e
    · rw [if_neg hk] at e
      cases e
      obtain ⟨a, vs, e1, _, q, _⟩ := seqL_rw k r rfl
      subst e1
      exact fin "list" _ (by simp) (.base (.lst (q hk))) rfl (by simp)
  | loc l =>
    obtain ⟨a, e1, q⟩ := r
    subst e1
    unfold isiW at e
    cases h : S.st[l]? with
    | none => simp only [h] at e; cases e
    | some ob => cases ob with
      | none => simp only [h] at e; cases e
      | some ob =>
        obtain ⟨_, ro⟩ := k.liv l ob a h q
        cases ob with
        | lst ws =>
          simp only [h] at e
          cases e
          obtain ⟨vs, h2, _⟩ := ro
          exact fin "list" _ (by simp) (.base (.lst h2)) rfl (by simp)
        | dct kvs =>
          simp only [h] at e
          cases e
          obtain ⟨vs, h2, _⟩ := ro
          exact fin "dict" _ (by simp) (.base (.dK h2)) rfl (by simp)
        | ins c fs => simp only [h] at e; cases e
        | tbl q => simp only [h] at e; cases e
  | exn l => cases e
  | clo l => cases e
  | fn l _ => cases e
theorem te_isi {a : Expr} {n : String} {x : Str} {m : ME} {p2 : Pos} (hn : okTy n = true) (hg : Gl X "isinstance") (hm : X.mg "isinstance" = none) (hx : PE X (.Name x p2) (tC (.ty n))) (h1 : PE X a (tE X.K G Wx m)) (hs : starEach (a :: [.Name x p2]) X.env = (false, eval a X.env) :: starEach [.Name x p2] X.env) :
    PE X (.Call (.Name "isinstance" p) [a, .Name x p2] [] pos) (tE X.K G Wx (.isi m (.ty n))) :=
  (pe_callB call_isi hg hm (by decide +kernel) (pa_cons h1 (pa_cons hx pa_nil rfl) hs) (by decide) (by decide) hs rfl).imp fun σ H Q ⟨Γ, S, eH, k, re, h⟩ => by
    subst eH
    unfold evE at h
    refine tE_bind k re h fun v S1 w t1 r re1 h1 => ?_
    obtain ⟨w', e, h1⟩ := Pst.lift h1
    obtain ⟨t, b, rfl, ty, kt⟩ := isi_rd t1.ok r hn e
    exact ⟨v, .ty n, t, .type n, b, rfl, .ty n, ty, kt, Pst.done (v := V.bl b) h1 t1.ok rfl⟩
/-! ### calls -/
theorem evEs_length {Φ : Nat → List W → Store → R W} {sub : Nat → Nat → Bool} : ∀ {ms : List ME} {Γ : Env} {st st' : Store} {ws : List W}, evEs Φ sub ms Γ st = .ok ws st' → ws.length = ms.length
  | [], Γ, st, st', ws, h => by unfold evEs at h; cases h; rfl
  | m :: ms, Γ, st, st', ws, h => by
    unfold evEs at h
    cases q : evE Φ sub m Γ st with
    | err => rw [q] at h; cases h
    | exc c s => rw [q] at h; cases h
    | ok w s =>
      rw [q] at h
      have h : (evEs Φ sub ms Γ s).bind (fun ws st => .ok (w :: ws) st) = .ok ws st' := h
      cases q2 : evEs Φ sub ms Γ s with
      | err => rw [q2] at h; cases h
      | exc c s => rw [q2] at h; cases h
      | ok ws2 s2 =>
        rw [q2] at h
        cases h
        rw [List.length_cons, List.length_cons, evEs_length q2]
/-- a def's promise by the evaluator -/
def spF (K : PySem.W.Frag) (G : Gd) (f : List W → Store → R W) (np : Nat) : Sp := fun vs H Q E => vs.length = np ∧ ∃ (S : S4) (ws : List W), S.H = H ∧ Ok K G.ca S ∧ RwsS K S vs ws ∧ Pst K G (fun c d _ H => E c d H) (RwS K) [] S (f ws S.st) Q
theorem stars {X : Cx} : ∀ {pos : Pos} {es : List Expr}, (∀ e ∈ es, ∀ r, starEach (e :: r) X.env = (false, eval e X.env) :: starEach r X.env) → (backTo pos (starEach es X.env)).any (·.1) = false
  | _, [], _ => rfl
  | pos, e :: es, h => by
    rw [h e List.mem_cons_self]
    show (backTo pos ((false, eval e X.env) :: starEach es X.env)).any (·.1) = false
    have ih := stars (X := X) (es := es) (pos := pos) fun e' he' => h e' (List.mem_cons_of_mem _ he')
    unfold backTo at ih ⊢
    rw [List.map_cons, List.any_cons, ih]
    rfl
/-- the wish of a call -/
theorem pst_E {σ : L2.St} {S : S4} {r : R W} {Q : VK} {K : PySem.W.Frag} (h : Pst K G Wx (RwS K) σ S r Q) : Pst K G (fun c d _ H => Wx c d σ H) (RwS K) [] S r Q := by
  cases r with
  | ok w st => exact h
  | exc c st => exact h
  | err => exact h
/-! a def that changes nothing that stood -/
open Classical in
noncomputable def S4.pure (S : S4) : S4 := ⟨⟨fun b => S.U.p b ∨ Live S b, S.U.x⟩, S.ρ, fun b => if Live S b then S.H b else S.F b, dead S.st, S.H⟩
theorem pure_FL {S : S4} {b : Addr} (h : Live S b) : S.pure.F b = S.H b := by
  unfold S4.pure
  exact if_pos h
theorem pure_F {S : S4} {b : Addr} (h : ¬ Live S b) : S.pure.F b = S.F b := by
  unfold S4.pure
  exact if_neg h
theorem dead_get {st : Store} {n : Nat} {o : O} : (dead st)[n]? ≠ some (some o) := by
  unfold dead
  rw [List.getElem?_replicate]
  split <;> simp
theorem pure_nolive {S : S4} {b : Addr} : ¬ Live S.pure b := fun ⟨n, o, h, _⟩ => dead_get h
theorem pure_same {S : S4} {K : PySem.W.Frag} {ca : Cg} (k : Ok K ca S) : Same S.F S.pure.F := fun b o h => by
  have nl : ¬ Live S b := fun z => by
    have := k.apart z
    rw [h] at this; cases this
  rw [pure_F nl]; exact h
theorem Ok.pure {S : S4} {K : PySem.W.Frag} {ca : Cg} (k : Ok K ca S) : Ok K ca S.pure := by
  refine ⟨by show S.ρ.length = (dead S.st).length; unfold dead; rw [List.length_replicate]; exact k.len, fun b o h => ?_, fun a h => ?_, fun n o a h => absurd h dead_get, fun n n' o o' a h => absurd h dead_get, k.tx, k.tt⟩
  · by_cases z : Live S b
    · rw [pure_FL z] at h; exact h
    · rw [pure_F z] at h; exact k.sub b o h
  · rcases h with h | h
    · obtain ⟨o, e⟩ := k.vw a h
      exact ⟨o, pure_same k _ _ e⟩
    · obtain ⟨o, e⟩ := k.tracked h
      exact ⟨o, by rw [pure_FL h]; exact e⟩
mutual
theorem Rw.pure {S : S4} {K : PySem.W.Frag} {ca : Cg} (k : Ok K ca S) : ∀ (v : V) (w : W), RwS K S v w → RwS K S.pure v w
  | v, .non, h => h
  | v, .bl b, h => h
  | v, .int i, h => h
  | v, .str s, h => h
  | v, .tup ws, h => by
    obtain ⟨a, vs, e, q, r⟩ := h
    exact ⟨a, vs, e, Same.seqT (pure_same k) q, Rws.pure k vs ws r⟩
  | v, .lst kk ws, h => by
    obtain ⟨a, vs, e, q, l, r⟩ := h
    refine ⟨a, vs, e, ?_, l, Rws.pure k vs ws r⟩
    cases kk with
    | gv => exact Same.seq (pure_same k) q
    | vw => exact pure_same k _ _ q
    | fz =>
      refine ⟨pure_same k _ _ q.1, fun z => ?_⟩
      rcases z with z | z
      · exact q.2 z
      · have := k.apart z
        rw [q.1] at this
        cases this
  | v, .loc n, h => h
  | v, .exn c, h => h
  | v, .clo i, h => by
    obtain ⟨a, q, params, body, scope, c, cells, e, u, f⟩ := h
    exact ⟨a, q, params, body, scope, c, cells, e, u, f.mono (pure_same k)⟩
  | v, .fn i ws, h => by
    obtain ⟨a, q, params, body, scope, cl, c, vs, e, f, g, r⟩ := h
    exact ⟨a, q, params, body, scope, cl, c, vs, e, f.mono (pure_same k), g.mono (pure_same k), Rws.pure k vs ws r⟩
theorem Rws.pure {S : S4} {K : PySem.W.Frag} {ca : Cg} (k : Ok K ca S) : ∀ (vs : List V) (ws : List W), RwsS K S vs ws → RwsS K S.pure vs ws
  | vs, [], h => h
  | vs, w :: ws, h => by
    obtain ⟨v, r, e, q, t⟩ := h
    exact ⟨v, r, e, Rw.pure k v w q, Rws.pure k r ws t⟩
end
theorem snap_rw {S : S4} {K : PySem.W.Frag} {ca : Cg} (k : Ok K ca S) {v : V} {w : W} (h : RwS K S v w) : RwS K S.pure v (snap S.st w) := by
  cases w with
  | loc l =>
    cases q : S.st[l]? with
    | none => simp only [snap, q]; exact h
    | some ob => cases ob with
      | none => simp only [snap, q]; exact h
      | some ob => cases ob with
        | lst xs =>
          simp only [snap, q]
          obtain ⟨a, e1, q1⟩ := h
          obtain ⟨_, vs, h2, l2, r⟩ := k.liv l _ a q q1
          exact ⟨a, vs, e1, (by show S.pure.F a = some (.lst vs); rw [pure_FL ⟨l, _, q, q1⟩]; exact h2), l2, Rws.pure k vs xs r⟩
        | _ => simp only [snap, q]; exact h
  | _ => exact Rw.pure k v _ h
theorem snaps_rw {S : S4} {K : PySem.W.Frag} {ca : Cg} (k : Ok K ca S) : ∀ {vs : List V} {ws : List W}, RwsS K S vs ws → RwsS K S.pure vs (ws.map (snap S.st))
  | vs, [], h => h
  | vs, w :: ws, h => by
    obtain ⟨v, r, e, q, t⟩ := h
    exact ⟨v, r, e, snap_rw k q, snaps_rw k t⟩
open Classical in
noncomputable def S4.back (S S' : S4) : S4 := ⟨S.U, S.ρ, fun b => if Live S b then none else S'.F b, S.st, S'.H⟩
theorem back_F {S S' : S4} {b : Addr} (h : ¬ Live S b) : (S.back S').F b = S'.F b := by
  unfold S4.back
  exact if_neg h
theorem back_L {S S' : S4} {b : Addr} (h : Live S b) : (S.back S').F b = none := by
  unfold S4.back
  exact if_pos h
theorem Tr.back {S S' : S4} {K : PySem.W.Frag} {ca : Cg} (k : Ok K ca S) (t : Tr K ca S.pure S') : Tr K ca S (S.back S') := by
  have kp : ∀ b o, S.H b = some o → S'.H b = some o := fun b o h => t.keep b o h pure_nolive
  have fs : Same S.F (S.back S').F := fun b o h => by
    have nl : ¬ Live S b := fun z => by
      have := k.apart z
      rw [h] at this; cases this
    rw [back_F nl]
    exact t.fs b o (pure_same k b o h)
  have mw : ∀ v w, RwS K S v w → RwS K (S.back S') v w := fun v w h => Rw.mono (fun _ _ q => q) fs v w h
  have mws : ∀ v w, RwsS K S v w → RwsS K (S.back S') v w := fun v w h => Rws.mono (fun _ _ q => q) fs v w h
  refine ⟨rfl, fun _ _ h => h, fs, fun b o h _ => kp b o h, fun b l => .inl l, fun b o h => ⟨o, kp b o h⟩, fun b o h => ?_, Nat.le_refl _, ⟨k.len, fun b o h => ?_, fun a h => ?_, fun n o a h1 h2 => ?_, k.inj, k.tx, k.tt⟩⟩
  · by_cases z : Live S b
    · rw [back_L z] at h; cases h
    · rw [back_F z] at h
      rcases t.fnew b o h with h | h | h
      · rw [pure_F z] at h; exact .inl h
      · exact .inr (.inl h)
      · exact absurd h pure_nolive
  · by_cases z : Live S b
    · rw [back_L z] at h; cases h
    · rw [back_F z] at h
      exact t.ok.sub b o h
  · obtain ⟨o, e⟩ := k.vw a h
    exact ⟨o, fs _ _ e⟩
  · have z : Live S a := ⟨n, o, h1, h2⟩
    obtain ⟨_, ro⟩ := k.liv n o a h1 h2
    refine ⟨back_L z, ro.mono mw mws ?_ fs⟩
    obtain ⟨x, hx⟩ := k.tracked z
    rw [hx]
    exact kp a x hx
theorem live_kind {S : S4} {K : PySem.W.Frag} {ca : Cg} (k : Ok K ca S) {a : Addr} (l : Live S a) : (∀ vs, S.H a ≠ some (.tup vs)) ∧ ∀ o u, S.H a ≠ some (.frz o u) := by
  obtain ⟨n, ob, h1, h2⟩ := l
  obtain ⟨_, r⟩ := k.liv n ob a h1 h2
  cases ob with
  | lst ws => obtain ⟨vs, h, _⟩ := r; rw [h]; exact ⟨fun _ z => (by cases z), fun _ _ z => (by cases z)⟩
  | ins c fs => obtain ⟨dx, fv, h, _⟩ := r; rw [h]; exact ⟨fun _ z => (by cases z), fun _ _ z => (by cases z)⟩
  | dct kvs => obtain ⟨kv, h, _⟩ := r; rw [h]; exact ⟨fun _ z => (by cases z), fun _ _ z => (by cases z)⟩
  | tbl q => obtain ⟨ps, h, _⟩ := r; rw [h]; exact ⟨fun _ z => (by cases z), fun _ _ z => (by cases z)⟩
theorem res_rw {S S' : S4} {K : PySem.W.Frag} {ca : Cg} (k : Ok K ca S) (t : Tr K ca S.pure S') : ∀ (d : Nat) (v : V) (w : W), resB S.st.length d w = true → RwS K S' v w → RwS K (S.back S') v w := by
  have eU : S'.U = ⟨fun b => S.U.p b ∨ Live S b, S.U.x⟩ := t.eU
  have kp : ∀ b o, S.H b = some o → S'.H b = some o := fun b o h => t.keep b o h pure_nolive
  have sq : ∀ {a : Addr} {vs : List V}, SqT K S'.F a vs → SqT K (S.back S').F a vs := fun {a vs} q => by
    rcases q with q | q
    · have nl : ¬ Live S a := fun z => by
        obtain ⟨x, hx⟩ := k.tracked z
        obtain ⟨z1, z2⟩ := live_kind k z
        have h1 := kp _ _ hx
        rcases q with q | ⟨o, q⟩
        · have h2 := t.ok.sub _ _ q
          rw [h1] at h2
          cases h2
          exact z1 _ hx
        · have h2 := t.ok.sub _ _ q
          rw [h1] at h2
          cases h2
          exact z2 _ _ hx
      rcases q with q | ⟨o, q⟩
      · exact .inl (.inl (by rw [back_F nl]; exact q))
      · exact .inl (.inr ⟨o, by rw [back_F nl]; exact q⟩)
    · exact .inr q
  have all : ∀ (d : Nat), (∀ (v : V) (w : W), resB S.st.length d w = true → RwS K S' v w → RwS K (S.back S') v w) → ∀ (ws : List W) (vs : List V), ws.all (resB S.st.length d) = true → RwsS K S' vs ws → RwsS K (S.back S') vs ws := by
    intro d ih ws
    induction ws with
    | nil => intro vs _ r; exact r
    | cons w ws ihw =>
      intro vs h r
      rw [List.all_cons, Bool.and_eq_true] at h
      obtain ⟨v, r', e, q, t⟩ := r
      exact ⟨v, r', e, ih v w h.1 q, ihw r' h.2 t⟩
  have loc : ∀ (v : V) (l : Nat), l < S.st.length → RwS K S' v (.loc l) → RwS K (S.back S') v (.loc l) := fun v l hl ⟨a, e, q⟩ => by
    have hl : l < S.ρ.length := by rw [k.len]; exact hl
    have e1 : S.ρ[l]? = some S.ρ[l] := List.getElem?_eq_getElem hl
    have e2 := t.ext l _ e1
    rw [q] at e2
    cases e2
    exact ⟨_, e, e1⟩
  intro d
  induction d with
  | zero =>
    intro v w h r
    cases w with
    | loc l => exact loc v l (of_decide_eq_true h) r
    | tup xs => simp [resB] at h
    | lst kk xs => simp [resB] at h
    | exn l => simp [resB] at h
    | clo l => simp [resB] at h
    | fn l _ => simp [resB] at h
    | _ => exact r
  | succ d ih =>
    intro v w h r
    cases w with
    | loc l => exact loc v l (of_decide_eq_true h) r
    | tup xs =>
      obtain ⟨a, vs, e, q, t2⟩ := r
      exact ⟨a, vs, e, sq q, all d ih xs vs h t2⟩
    | lst kk xs =>
      have h : (decide (kk = .fz) && xs.all (resB S.st.length d)) = true := h
      rw [Bool.and_eq_true] at h
      obtain ⟨a, vs, e, q, l, t2⟩ := r
      have ek : kk = .fz := of_decide_eq_true h.1
      subst ek
      have nU : ¬ S'.U.p a := q.2
      rw [eU] at nU
      have nl : ¬ Live S a := fun z => nU (.inr z)
      exact ⟨a, vs, e, ⟨by rw [back_F nl]; exact q.1, fun z => nU (.inl z)⟩, l, all d ih xs vs h.2 t2⟩
    | exn l => simp [resB] at h
    | clo l => simp [resB] at h
    | fn l _ => simp [resB] at h
    | _ => exact r
/-- the def's promise, asked on what is only seen -/
theorem pure_rd {f : List W → Store → R W} {ws : List W} {S : S4} {vs : List V} {σ : L2.St} {Q : VK} {K : PySem.W.Frag} (k : Ok K G.ca S) (r : RwsS K S vs ws) (h : Pst K G Wx (RwS K) σ S (pureCall f ws S.st) Q) :
    Pst K G (fun c d _ H => Wx c d σ H) (RwS K) [] S.pure (f (ws.map (snap S.st)) S.pure.st) Q := by
  unfold pureCall at h
  show Pst K G _ (RwS K) [] S.pure (f (ws.map (snap S.st)) (dead S.st)) Q
  cases q : f (ws.map (snap S.st)) (dead S.st) with
  | err => rw [q] at h; exact h
  | exc c st' =>
    rw [q] at h
    intro S' e t
    exact h (S.back S') rfl (Tr.back k t)
  | ok w st' =>
    rw [q] at h
    have h : Pst K G Wx (RwS K) σ S (if resB S.st.length 8 w = true then R.ok w S.st else .err) Q := h
    by_cases hr : resB S.st.length 8 w = true
    · rw [if_pos hr] at h
      intro v S' e t rv
      exact h v (S.back S') rfl (Tr.back k t) (res_rw k t 8 v w hr rv)
    · rw [if_neg hr] at h
      exact False.elim h
theorem te_call {pu : Bool} {i k np : Nat} {f : Addr} {fd : FuncData} {ps : List Str} {x : Str} {es : List Expr} {ms : List ME} (F : FnOk X.prog X.w X.K X.mg X.base (L2N.CX X.prog X.w) k f fd ps (spF X.K G (G.Φ i) np)) (hr : Room k X.A) (tk : L2N.Takes X Wx)
    (hg : Gl X x) (hm : X.mg x = some (.ref f)) (hk : PySem.W.keepIn X.K (.ref f) = true) (hb : Binds X.K fd ps []) (hdb : (x == ("__debug__" : Str)) = false) (hn : ms.length = np) (hes : es.length = ms.length)
    (ha : PA X es (tA X.K G Wx ms)) (hs : ∀ e ∈ es, ∀ r, starEach (e :: r) X.env = (false, eval e X.env) :: starEach r X.env) : PE X (.Call (.Name x p) es [] pos) (tE X.K G Wx (.call pu i ms)) := by
  have hx : ∀ σ, PassesAt (L2N.CX X.prog X.w) X σ (fun c d H => Wx c d σ H) := fun σ => L2N.passAt tk σ
  have rd : ∀ (σ : L2.St) (H : Hp) (Q : VK), tE X.K G Wx (.call pu i ms) σ H Q → tA X.K G Wx ms σ H fun vs H1 => spF X.K G (G.Φ i) np (vs ++ []) H1 Q (fun c d H => Wx c d σ H) := fun σ H Q ⟨Γ, S, eH, o, re, h⟩ => by
    subst eH
    unfold evE at h
    refine ⟨Γ, S, rfl, o, re, (Pst.bind (Rl := RwsS X.K) h).mono fun vs H' ⟨S1, ws, e, t1, r, q, h1⟩ => ?_⟩
    subst e
    have hl := evEs_length q
    rw [List.append_nil]
    refine ⟨by rw [r.length, hl, hn], ?_⟩
    cases pu with
    | false => exact ⟨S1, ws, rfl, t1.ok, r, pst_E h1⟩
    | true => exact ⟨S1.pure, ws.map (snap S1.st), rfl, t1.ok.pure, snaps_rw t1.ok r, pure_rd t1.ok r h1⟩
  cases es with
  | nil =>
    refine ⟨fun pins s σ H Q I h => ?_⟩
    refine wpAny_Call_Name_kw (ld_glob I hg hm ?_ hdb)
    have h2 := rd σ H Q h
    have ms0 : ms = [] := List.eq_nil_of_length_eq_zero hes.symm
    subst ms0
    obtain ⟨Γ, S, eH, o, re, h3⟩ := h2
    subst eH
    have h4 := Pst.done (Rl := RwsS X.K) (v := []) (show Pst X.K G Wx (RwsS X.K) σ S (.ok [] S.st) _ by unfold evEs at h3; exact h3) o rfl
    exact PySem.W.callWith_K0 I.kIn hk (run_fnSD (E := fun σ c d H => Wx c d σ H) (us := []) (vs := []) F hr hb .nil (hx σ) I .nil h4)
  | cons e es =>
    exact (pe_callSD F hr hg hm hk hb .nil hx ha hdb (hs e List.mem_cons_self es) (stars fun e' he' => hs e' (List.mem_cons_of_mem _ he'))).imp rd
end
end Mi

set_option Elab.async false
set_option linter.all false
set_option maxRecDepth 100000
set_option maxHeartbeats 1000000
/-! Mini Python: targets, what is walked, comprehensions. -/
namespace Mi
open PySem PySem.Spec PyProof.Rows L2
mutual
def tgS : Tg → List Nat
  | .nm i => [i]
  | .tp ts => tgSs ts
def tgSs : List Tg → List Nat
  | [] => []
  | t :: ts => tgS t ++ tgSs ts
end
/-- like but for these slots -/
def But (is : List Nat) (σ σ' : L2.St) : Prop := σ'.length = σ.length ∧ ∀ j, j ∉ is → σ'[j]? = σ[j]?
section
variable (K : PySem.W.Frag) (G : Gd)
def tG (t : Tg) : TG := fun v σ H Q => ∃ (Γ Γ' : Env) (S : S4) (w : W), S.H = H ∧ Ok K G.ca S ∧ Re K S σ Γ ∧ RwS K S v w ∧ asgT t w Γ = some Γ' ∧ ∀ σ', Re K S σ' Γ' → But (tgS t) σ σ' → Q σ' S.H
def tGs (ts : List Tg) : TGs := fun vs σ H Q => ∃ (Γ Γ' : Env) (S : S4) (ws : List W), S.H = H ∧ Ok K G.ca S ∧ Re K S σ Γ ∧ RwsS K S vs ws ∧ asgTs ts ws Γ = some Γ' ∧ ∀ σ', Re K S σ' Γ' → But (tgSs ts) σ σ' → Q σ' S.H
end
theorem _root_.L2.PG.imp {X : Cx} {e : Expr} {t t' : TG} (h : PG X e t) (i : ∀ v σ H Q, t' v σ H Q → t v σ H Q) : PG X e t' := ⟨fun pins s σ H v u Q I r hw => h.run pins s σ H v u Q I r (i _ _ _ _ hw)⟩
theorem _root_.L2.PGs.imp {X : Cx} {e : List Expr} {t t' : TGs} (h : PGs X e t) (i : ∀ v σ H Q, t' v σ H Q → t v σ H Q) : PGs X e t' := ⟨fun pins s σ H v u Q I r hw => h.run pins s σ H v u Q I r (i _ _ _ _ hw)⟩
theorem _root_.L2.PI.imp {X : Cx} {tg e : Expr} {t t' : TI} (h : PI X tg e t) (i : ∀ σ H R, t' σ H R → t σ H R) : PI X tg e t' := ⟨fun pins s σ H R I hw => h.run pins s σ H R I (i _ _ _ hw)⟩
theorem Re.set {K : PySem.W.Frag} {S : S4} {σ : L2.St} {Γ : Env} {i : Nat} {v : V} {w : W} (re : Re K S σ Γ) (r : RwS K S v w) : Re K S (σ.set i (some v)) (Γ.set i (some w)) := by
  refine ⟨by rw [List.length_set, List.length_set]; exact re.len, fun j x h => ?_⟩
  by_cases e : i = j
  · subst e
    by_cases hi : i < Γ.length
    · rw [List.getElem?_set_self hi] at h
      cases h
      exact ⟨v, List.getElem?_set_self (by rw [re.len]; exact hi), r⟩
    · rw [List.getElem?_eq_none (by rw [List.length_set]; omega)] at h; cases h
  · rw [List.getElem?_set_ne e] at h ⊢
    exact re.at_ j x h
section
variable {X : Cx} {G : Gd} {Wx : WX} {p pos : Pos}
theorem tg_nm {i : Nat} {x : Str} (hN : X.N.Nodup) (hi : X.N[i]? = some x) (hx : Loc X.env.scope x) (hf : X.fn x = true ∨ X.env.scope.names.lookup x = some .local) : PG X (.Name x pos) (tG X.K G (.nm i)) :=
  (pg_name hN hi hx hf).imp fun v σ H Q ⟨Γ, Γ', S, w, eH, k, re, r, e, q⟩ => by
    subst eH
    have e : some (Γ.set i (some w)) = some Γ' := by unfold asgT at e; exact e
    cases e
    refine q _ (re.set r) ⟨List.length_set .., fun j hj => List.getElem?_set_ne fun z => hj ?_⟩
    unfold tgS
    rw [z]; simp
theorem tgs_nil : PGs X [] (tGs X.K G []) :=
  pgs_nil.imp fun v σ H Q ⟨Γ, Γ', S, ws, eH, k, re, r, e, q⟩ => by
    subst eH
    unfold asgTs at e
    cases ws with
    | nil =>
      cases e
      exact ⟨r, q σ re ⟨rfl, fun _ _ => rfl⟩⟩
    | cons w ws => cases e
theorem tgs_cons {e : Expr} {es : List Expr} {t : Tg} {ts : List Tg} (h1 : PG X e (tG X.K G t)) (h2 : PGs X es (tGs X.K G ts)) (hs : (assignEach (e :: es) X.env).map (·.2) = assign e X.env :: (assignEach es X.env).map (·.2)) : PGs X (e :: es) (tGs X.K G (t :: ts)) :=
  (pgs_cons h1 h2 hs).imp fun v σ H Q ⟨Γ, Γ', S, ws, eH, k, re, r, e, q⟩ => by
    subst eH
    unfold asgTs at e
    cases ws with
    | nil => cases e
    | cons w ws =>
      have e : ((asgT t w Γ).bind fun Γ' => asgTs ts ws Γ') = some Γ' := e
      obtain ⟨v1, vs, ev, r1, r2⟩ := r
      cases z : asgT t w Γ with
      | none => rw [z] at e; cases e
      | some Γ1 =>
        rw [z] at e
        refine ⟨v1, vs, ev, Γ, Γ1, S, w, rfl, k, re, r1, z, fun σ1 re1 b1 => ?_⟩
        refine ⟨Γ1, Γ', S, ws, rfl, k, re1, r2, e, fun σ2 re2 b2 => q σ2 re2 ⟨b2.1.trans b1.1, fun j hj => ?_⟩⟩
        unfold tgSs at hj
        rw [List.mem_append, not_or] at hj
        exact (b2.2 j hj.2).trans (b1.2 j hj.1)
theorem tg_tp {es : List Expr} {k : Nat} {ts : List Tg} (hc : X.calm = true) (h : PGs X es (tGs X.K G ts)) (hn : (assignEach es X.env).length = ts.length) (hst : (assignEach es X.env).findIdx? (·.1) = none) : PG X (.Tuple es k pos) (tG X.K G (.tp ts)) :=
  (pg_tup hc h hn hst).imp fun v σ H Q ⟨Γ, Γ', S, w, eH, k, re, r, e, q⟩ => by
    subst eH
    cases w with
    | tup ws =>
      have e : asgTs ts ws Γ = some Γ' := by unfold asgT at e; exact e
      obtain ⟨a, vs, ev, sq, rs⟩ := tup_rw k r
      have len : ∀ {ts : List Tg} {ws : List W} {Γ Γ' : Env}, asgTs ts ws Γ = some Γ' → ws.length = ts.length := by
        intro ts
        induction ts with
        | nil => intro ws Γ Γ' e; cases ws with
          | nil => rfl
          | cons _ _ => unfold asgTs at e; cases e
        | cons t ts ih => intro ws Γ Γ' e; cases ws with
          | nil => unfold asgTs at e; cases e
          | cons w ws =>
            unfold asgTs at e
            cases z : asgT t w Γ with
            | none => rw [z] at e; cases e
            | some Γ1 => rw [z] at e; rw [List.length_cons, List.length_cons, ih e]
      refine ⟨a, vs, ev, sq, by rw [rs.length, len e], Γ, Γ', S, ws, rfl, k, re, rs, e, fun σ' re' b => q σ' re' ?_⟩
      unfold tgS
      exact b
    | _ => unfold asgT at e; cases e
/-! ### what is walked -/
def ItOk (K : PySem.W.Frag) (G : Gd) (S : S4) (J : L2.It) (ws : List W) : Prop :=
  (∀ i S1, i < ws.length → Tr K G.ca S S1 → J.go i S1.H) ∧ (∀ S1, Tr K G.ca S S1 → J.stop ws.length S1.H) ∧ ws.length ≤ lim ∧
  ∀ (i : Nat) (S1 : S4) (x : V) (H' : Hp) (w : W), Tr K G.ca S S1 → ws[i]? = some w → J.yld i S1.H x H' → ∃ S2, S2.H = H' ∧ S2.st = S1.st ∧ Tr K G.ca S1 S2 ∧ RwS K S2 x w
def tI (K : PySem.W.Frag) (G : Gd) (Wx : WX) (it : It) : TI := fun σ H R => ∃ (Γ : Env) (S : S4), S.H = H ∧ Ok K G.ca S ∧ Re K S σ Γ ∧ Pst K G Wx (ItOk K G) σ S (evI G.Φ G.sub it Γ S.st) R
theorem itOk_of {K : PySem.W.Frag} {S : S4} {J : L2.It} {ws : List W} {Gp : Hp → Prop} {Y : Nat → Hp → V → Hp → Prop} {n : Nat} (wk : Walk J n Gp Y) (hn : n = ws.length) (hl : ws.length ≤ lim) (hg : ∀ S1, Tr K G.ca S S1 → Gp S1.H)
    (hy : ∀ (i : Nat) (S1 : S4) (x : V) (H' : Hp) (w : W), Tr K G.ca S S1 → ws[i]? = some w → Y i S1.H x H' → ∃ S2, S2.H = H' ∧ S2.st = S1.st ∧ Tr K G.ca S1 S2 ∧ RwS K S2 x w) : ItOk K G S J ws := by
  subst hn
  refine ⟨fun i S1 hi t => wk.goes i S1.H hi (hg S1 t), fun S1 t => wk.stops S1.H (hg S1 t), hl, fun i S1 x H' w t e y => ?_⟩
  have hi : i < ws.length := (List.getElem?_eq_some_iff.mp e).1
  exact hy i S1 x H' w t e (wk.yields i S1.H x H' hi (hg S1 t) y)
def iSeq (K : PySem.W.Frag) (tl : TE) : TI := fun σ H R => tl σ H fun x H1 => ∃ a, x = .ref a ∧ ((∃ xs, SqL K H1 a xs) ∧ R (Itl K a) H1 ∨ (∃ xs, SqT K H1 a xs) ∧ R (Itt K a) H1)
theorem pi_seq {tg l : Expr} {tl : TE} (hl : PE X l tl) : PI X tg l (iSeq X.K tl) := by
  refine ⟨fun pins s σ H R I h => ?_⟩
  refine thn (hl.run pins s σ H _ I h) fun v s1 ⟨x, H1, I1, r1, q1⟩ => ?_
  obtain ⟨a, e, q⟩ := q1
  subst e
  cases r1
  rcases q with ⟨⟨xs, hq⟩, q⟩ | ⟨⟨xs, hq⟩, q⟩
  · obtain ⟨its, rv, p, hz⟩ := I1.list hq
    refine wpAny_pyIter_list p.isList ?_
    refine ⟨s1.heap.objs.size, [s1.heap.objs.size], _, _, H1, rfl, I1.kept (t' := s1.toks) fun b o e => Heap.get?_push_of_some _ e, turn_list a _, ⟨_, Heap.get?_push_size _ rfl, rfl, rfl⟩, fun b hb => ?_, q⟩
    have e : b = s1.heap.objs.size := by simpa using hb
    subst e
    exact I1.fpOk (Nat.le_refl _) (I1.hok.fresh (Nat.le_refl _))
  · obtain ⟨its, rv, p, hz⟩ := I1.tuple hq
    refine wpAny_pyIter_tuple (show s1.heap.IsTuple a its.toArray from p) ?_
    refine ⟨s1.heap.objs.size, [s1.heap.objs.size], _, _, H1, rfl, I1.kept (t' := s1.toks) fun b o e => Heap.get?_push_of_some _ e, turn_tuple a _, ⟨_, Heap.get?_push_size _ rfl, rfl, rfl⟩, fun b hb => ?_, q⟩
    have e : b = s1.heap.objs.size := by simpa using hb
    subst e
    exact I1.fpOk (Nat.le_refl _) (I1.hok.fresh (Nat.le_refl _))
theorem yAt_ok {K : PySem.W.Frag} {S : S4} {ws : List W} {vs : List V} (r : RwsS K S vs ws) : ∀ (i : Nat) (S1 : S4) (x : V) (H' : Hp) (w : W), Tr K G.ca S S1 → ws[i]? = some w → YAt vs i S1.H x H' → ∃ S2, S2.H = H' ∧ S2.st = S1.st ∧ Tr K G.ca S1 S2 ∧ RwS K S2 x w := by
  rintro i S1 x H' w t e ⟨eH, ex⟩
  obtain ⟨v, e2, rv⟩ := Rws.get r e
  rw [ex] at e2
  cases e2
  exact ⟨S1, eH.symm, rfl, Tr.refl t.ok, t.rw rv⟩
theorem ti_sq {tg l : Expr} {m : ME} (h1 : PE X l (tE X.K G Wx m)) : PI X tg l (tI X.K G Wx (.sq m)) :=
  (pi_seq h1).imp fun σ H R ⟨Γ, S, eH, k, re, h⟩ => by
    subst eH
    unfold evI at h
    refine tE_bind k re h fun v S1 w t1 r re1 h1 => ?_
    cases w with
    | tup xs =>
      have h1 : Pst X.K G Wx (ItOk X.K G) σ S1 (if xs.length ≤ lim then .ok xs S1.st else .err) R := h1
      by_cases hl : xs.length ≤ lim
      · rw [if_pos hl] at h1
        obtain ⟨a, vs, e, q, t⟩ := r
        refine ⟨a, e, .inr ⟨⟨vs, Same.seqT t1.ok.sub q⟩, ?_⟩⟩
        exact Pst.done (Rl := ItOk X.K G) h1 t1.ok (itOk_of walk_tup t.length hl (fun S2 t2 => Same.seqT t2.ok.sub (Same.seqT t2.fs q)) (yAt_ok t))
      · rw [if_neg hl] at h1; exact False.elim h1
    | lst kk xs =>
      have h1 : Pst X.K G Wx (ItOk X.K G) σ S1 (.ok xs S1.st) R := h1
      obtain ⟨a, vs, e, q, l, t⟩ := r
      refine ⟨a, e, .inl ⟨⟨vs, Same.seq t1.ok.sub q.seq⟩, ?_⟩⟩
      exact Pst.done (Rl := ItOk X.K G) h1 t1.ok (itOk_of walk_list t.length (by rw [← t.length]; exact l) (fun S2 t2 => Same.seq t2.ok.sub (Same.seq t2.fs q.seq)) (yAt_ok t))
    | _ => exact False.elim h1
theorem rgV_get {a b : Int} {i : Nat} {w : W} (e : (rgV a b)[i]? = some w) : w = .int (a + (i : Nat)) := by
  unfold rgV at e
  rw [List.getElem?_map] at e
  cases q : (List.range (b - a).toNat)[i]? with
  | none => rw [q] at e; cases e
  | some j =>
    rw [q] at e
    obtain ⟨h1, h2⟩ := List.getElem?_eq_some_iff.mp q
    rw [List.getElem_range] at h2
    subst h2
    cases e; rfl
theorem itOk_rg {K : PySem.W.Frag} {S : S4} {a b : Int} (hl : b - a ≤ 16777216) : ItOk K G S (Itr a (b - a).toNat) (rgV a b) := by
  have len : (rgV a b).length = (b - a).toNat := by unfold rgV; rw [List.length_map, List.length_range]
  refine itOk_of walk_range len.symm (by rw [len]; show _ ≤ 16777216; omega) (fun _ _ => trivial) fun i S1 x H' w t e y => ?_
  obtain ⟨y1, y2⟩ := y
  rw [rgV_get e, y2]
  exact ⟨S1, y1.symm, rfl, Tr.refl t.ok, rfl⟩
theorem tA_bindL {ms : List ME} {β : Type} {α : Type} {Rl : S4 → β → α → Prop} {σ : L2.St} {Γ : Env} {S : S4} {f : List W → Store → R α} {Q : β → Hp → Prop} (o : Ok X.K G.ca S) (re : Re X.K S σ Γ)
    (h : Pst X.K G Wx Rl σ S ((evEs G.Φ G.sub ms Γ S.st).bind f) Q) {Q' : List V → Hp → Prop}
    (k : ∀ v S' w, Tr X.K G.ca S S' → RwsS X.K S' v w → w.length = ms.length → Re X.K S' σ Γ → Pst X.K G Wx Rl σ S' (f w S'.st) Q → Q' v S'.H) : tA X.K G Wx ms σ S.H Q' :=
  ⟨Γ, S, rfl, o, re, (Pst.bind (Rl := RwsS X.K) h).mono fun v H' ⟨S', w, e, t, r, z, q⟩ => by subst e; exact k v S' w t r (evEs_length z) (re.mono t) q⟩
theorem rg1_rd {m : ME} {σ : L2.St} {H : Hp} {R : L2.It → Hp → Prop} : tI X.K G Wx (.rg [m]) σ H R → iRng1 (tA X.K G Wx [m]) σ H R := fun ⟨Γ, S, eH, k, re, h⟩ => by
    subst eH
    unfold evI at h
    refine tA_bindL k re h fun vs S1 ws t1 r hl re1 h1 => ?_
    cases q : rgW ws with
    | none => rw [q] at h1; exact False.elim h1
    | some zs =>
      rw [q] at h1
      unfold rgW at q
      split at q
      · rename_i b
        split at q
        · rename_i c
          cases q
          obtain ⟨v, r', e, rv, rn⟩ := r
          rw [show r' = [] from rn, show v = V.int b from rv] at e
          refine ⟨b, e, by omega, by omega, ?_⟩
          have e0 : b.toNat = (b - 0).toNat := by omega
          rw [e0]
          exact Pst.done (Rl := ItOk X.K G) h1 t1.ok (itOk_rg (by omega))
        · cases q
      · simp at hl
      · cases q
theorem ti_rg1 {tg a : Expr} {m : ME} (hg : Gl X "range") (hm : X.mg "range" = none) (h1 : PE X a (tE X.K G Wx m)) (hs : starEach [a] X.env = [(false, eval a X.env)]) : PI X tg (.Call (.Name "range" p) [a] [] pos) (tI X.K G Wx (.rg [m])) :=
  (pi_range1 hg hm (ta_cons h1 ta_nil hs) hs).imp fun σ H R h => rg1_rd (X := X) h
theorem ti_rg2 {tg a b : Expr} {m1 m2 : ME} (hg : Gl X "range") (hm : X.mg "range" = none) (h1 : PE X a (tE X.K G Wx m1)) (h2 : PE X b (tE X.K G Wx m2)) (hs : starEach [a, b] X.env = [(false, eval a X.env), (false, eval b X.env)]) (hs2 : starEach [b] X.env = [(false, eval b X.env)]) :
    PI X tg (.Call (.Name "range" p) [a, b] [] pos) (tI X.K G Wx (.rg [m1, m2])) :=
  (pi_range2 hg hm (ta_cons h1 (ta_cons h2 ta_nil hs2) (by rw [hs, hs2])) hs hs2).imp fun σ H R ⟨Γ, S, eH, k, re, h⟩ => by
    subst eH
    unfold evI at h
    refine tA_bindL k re h fun vs S1 ws t1 r hl re1 h1 => ?_
    cases q : rgW ws with
    | none => rw [q] at h1; exact False.elim h1
    | some zs =>
      rw [q] at h1
      unfold rgW at q
      split at q
      · simp at hl
      · rename_i a b
        split at q
        · rename_i c
          cases q
          obtain ⟨v, r', e, rv, v2, r2, e2, rv2, rn⟩ := r
          rw [show r2 = [] from rn, show v2 = V.int b from rv2] at e2
          rw [e2, show v = V.int a from rv] at e
          refine ⟨a, b, e, by omega, ?_⟩
          exact Pst.done (Rl := ItOk X.K G) h1 t1.ok (itOk_rg (by omega))
        · cases q
      · cases q
theorem zipW_get : ∀ {xs ys : List W} {i : Nat} {w : W}, (zipW xs ys)[i]? = some w → ∃ x y, w = .tup [x, y] ∧ xs[i]? = some x ∧ ys[i]? = some y
  | [], _, i, w, h => by simp [zipW] at h
  | _ :: _, [], i, w, h => by simp [zipW] at h
  | x :: xs, y :: ys, 0, w, h => by
    simp [zipW] at h
    exact ⟨x, y, h.symm, rfl, rfl⟩
  | x :: xs, y :: ys, i + 1, w, h => by
    simp only [zipW, List.getElem?_cons_succ] at h
    obtain ⟨a, b, e, h1, h2⟩ := zipW_get h
    exact ⟨a, b, e, by simpa using h1, by simpa using h2⟩
theorem zipW_len : ∀ {xs ys : List W}, (zipW xs ys).length = min xs.length ys.length
  | [], _ => by simp [zipW]
  | _ :: _, [] => by simp [zipW]
  | x :: xs, y :: ys => by simp only [zipW, List.length_cons, zipW_len]; omega
theorem enumW_get : ∀ {xs : List W} {n i : Nat} {w : W}, (enumW n xs)[i]? = some w → ∃ x, w = .tup [.int ((n + i : Nat) : Int), x] ∧ xs[i]? = some x
  | [], n, i, w, h => by simp [enumW] at h
  | x :: xs, n, 0, w, h => by
    simp [enumW] at h
    exact ⟨x, by rw [← h]; rfl, rfl⟩
  | x :: xs, n, i + 1, w, h => by
    simp only [enumW, List.getElem?_cons_succ] at h
    obtain ⟨a, e, h1⟩ := enumW_get h
    refine ⟨a, ?_, by simpa using h1⟩
    rw [e, show n + 1 + i = n + (i + 1) by omega]
theorem enumW_len : ∀ {xs : List W} {n : Nat}, (enumW n xs).length = xs.length
  | [], n => rfl
  | x :: xs, n => by simp only [enumW, List.length_cons, enumW_len]
theorem ti_zp {a b : Expr} {elts : List Expr} {kk : Nat} {tpos : Pos} {m1 m2 : ME} (hg : Gl X "zip") (hm : X.mg "zip" = none) (h1 : PE X a (tE X.K G Wx m1)) (h2 : PE X b (tE X.K G Wx m2)) (hs : starEach [a, b] X.env = (false, eval a X.env) :: starEach [b] X.env) (hs2 : starEach [b] X.env = [(false, eval b X.env)]) :
    PI X (.Tuple elts kk tpos) (.Call (.Name "zip" p) [a, b] [] pos) (tI X.K G Wx (.zp m1 m2)) :=
  (pi_zip hg hm (pa_cons h1 (pa_cons h2 pa_nil hs2) hs) hs (by rw [hs2]; rfl)).imp fun σ H R ⟨Γ, S, eH, k, re, h⟩ => by
    subst eH
    unfold evI at h
    refine tE_bind k re h fun v1 S1 w1 t1 r1 re1 h1 => ?_
    refine tE_bind t1.ok re1 h1 fun v2 S2 w2 t2 r2 re2 h2 => ?_
    have r1 := t2.rw r1
    cases w1 with
    | lst k1 xs => cases w2 with
      | lst k2 ys =>
        have h2 : Pst X.K G Wx (ItOk X.K G) σ S2 (.ok (zipW xs ys) S2.st) R := h2
        obtain ⟨a, vs, e1, q1, l1, s1⟩ := r1
        obtain ⟨b, us, e2, q2, l2, s2⟩ := r2
        refine ⟨a, b, vs, us, by rw [e1, e2], Same.seq t2.ok.sub q1.seq, Same.seq t2.ok.sub q2.seq, ?_⟩
        refine Pst.done (Rl := ItOk X.K G) h2 t2.ok (itOk_of (walk_zip rfl) (by rw [zipW_len, s1.length, s2.length]) (by rw [zipW_len, ← s1.length]; omega) (fun S3 t3 => ⟨Same.seq t3.ok.sub (Same.seq t3.fs q1.seq), Same.seq t3.ok.sub (Same.seq t3.fs q2.seq)⟩) ?_)
        rintro i S3 x H' w t3 e ⟨T, x1, x2, ex, hT, eH, g1, g2⟩
        obtain ⟨y1, y2, ew, f1, f2⟩ := zipW_get e
        obtain ⟨z1, g3, rv1⟩ := Rws.get s1 f1
        obtain ⟨z2, g4, rv2⟩ := Rws.get s2 f2
        have g3 := g1.symm.trans g3; cases g3
        have g4 := g2.symm.trans g4; cases g4
        refine ⟨S3.put T (.tup [x1, x2]), eH.symm, rfl, t3.ok.put hT, ?_⟩
        rw [ex, ew]
        exact rw_newT t3.ok hT ⟨x1, [x2], rfl, t3.rw rv1, x2, [], rfl, t3.rw rv2, rfl⟩
      | _ => exact False.elim h2
    | _ => exact False.elim h2
/-! ### lists that may change, walked while none changes -/
def ItOkP (K : PySem.W.Frag) (G : Gd) (S : S4) (J : L2.It) (ws : List W) : Prop :=
  (∀ i S1, i < ws.length → Tr K G.ca S S1 → keepL S.st S1.st → J.go i S1.H) ∧ (∀ S1, Tr K G.ca S S1 → keepL S.st S1.st → J.stop ws.length S1.H) ∧ ws.length ≤ lim ∧
  ∀ (i : Nat) (S1 : S4) (x : V) (H' : Hp) (w : W), Tr K G.ca S S1 → keepL S.st S1.st → ws[i]? = some w → J.yld i S1.H x H' → ∃ S2, S2.H = H' ∧ S2.st = S1.st ∧ Tr K G.ca S1 S2 ∧ RwS K S2 x w
def tIP (K : PySem.W.Frag) (G : Gd) (Wx : WX) (it : It) : TI := fun σ H R => ∃ (Γ : Env) (S : S4), S.H = H ∧ Ok K G.ca S ∧ Re K S σ Γ ∧ Pst K G Wx (ItOkP K G) σ S (evIP G.Φ G.sub it Γ S.st) R
theorem seqL_keep {S S1 : S4} {w : W} {k : LK} {xs : List W} (e : seqL S.st w = some (k, xs)) (h : keepL S.st S1.st) : seqL S1.st w = some (k, xs) := by
  cases w with
  | exn _ => cases e
  | clo _ => cases e
  | fn _ _ => cases e
  | loc n =>
    have e : (match S.st[n]? with | some (some (.lst xs)) => some (LK.fz, xs) | _ => none) = some (k, xs) := e
    show (match S1.st[n]? with | some (some (.lst xs)) => some (LK.fz, xs) | _ => none) = some (k, xs)
    cases q : S.st[n]? with
    | none => rw [q] at e; cases e
    | some o => cases o with
      | none => rw [q] at e; cases e
      | some ob => cases ob with
        | lst ys =>
          rw [q] at e
          rw [h n ys q]
          exact e
        | ins c fs => rw [q] at e; cases e
        | dct kvs => rw [q] at e; cases e
        | tbl _ => rw [q] at e; cases e
  | lst k' xs' => exact e
  | non => cases e
  | bl b => cases e
  | int i => cases e
  | str s => cases e
  | tup xs' => cases e
theorem ti_sqP {tg l : Expr} {m : ME} (h1 : PE X l (tE X.K G Wx m)) : PI X tg l (tIP X.K G Wx (.sq m)) :=
  (pi_seq h1).imp fun σ H R ⟨Γ, S, eH, k, re, h⟩ => by
    subst eH
    unfold evIP at h
    refine tE_bind k re h fun v S1 w t1 r re1 h1 => ?_
    cases q : seqL S1.st w with
    | none =>
      rw [q] at h1
      cases w with
      | tup xs =>
        have h1 : Pst X.K G Wx (ItOkP X.K G) σ S1 (if xs.length ≤ lim then .ok xs S1.st else .err) R := h1
        by_cases hl : xs.length ≤ lim
        · rw [if_pos hl] at h1
          obtain ⟨a, vs, e, q, t⟩ := r
          refine ⟨a, e, .inr ⟨⟨vs, Same.seqT t1.ok.sub q⟩, ?_⟩⟩
          obtain ⟨o1, o2, o3, o4⟩ := itOk_of (G := G) walk_tup t.length hl (fun S2 t2 => Same.seqT t2.ok.sub (Same.seqT t2.fs q)) (yAt_ok t)
          exact Pst.done (Rl := ItOkP X.K G) h1 t1.ok ⟨fun i S2 hi t2 _ => o1 i S2 hi t2, fun S2 t2 _ => o2 S2 t2, o3, fun i S2 x H' w2 t2 _ e2 y => o4 i S2 x H' w2 t2 e2 y⟩
        · rw [if_neg hl] at h1; exact False.elim h1
      | _ => exact False.elim h1
    | some p =>
      obtain ⟨kk, xs⟩ := p
      rw [q] at h1
      have h1 : Pst X.K G Wx (ItOkP X.K G) σ S1 (.ok xs S1.st) R := h1
      obtain ⟨a, vs, e, sq, _, ll, t⟩ := seqL_rw t1.ok r q
      refine ⟨a, e, .inl ⟨⟨vs, sq⟩, ?_⟩⟩
      have lk : ∀ (S2 : S4), Tr X.K G.ca S1 S2 → keepL S1.st S2.st → ∃ us, SqL X.K S2.H a us ∧ RwsS X.K S2 us xs := fun S2 t2 kp => by
        obtain ⟨b, us, e2, sq2, _, _, t3⟩ := seqL_rw t2.ok (t2.rw r) (seqL_keep q kp)
        rw [e] at e2
        cases e2
        exact ⟨us, sq2, t3⟩
      refine Pst.done (Rl := ItOkP X.K G) h1 t1.ok ⟨fun i S2 hi t2 kp => ?_, fun S2 t2 kp => ?_, by rw [← t.length]; exact ll, fun i S2 x H' w2 t2 kp e2 y => ?_⟩
      · obtain ⟨us, s2, r2⟩ := lk S2 t2 kp
        exact walk_list.goes i S2.H (by rw [r2.length]; exact hi) s2
      · obtain ⟨us, s2, r2⟩ := lk S2 t2 kp
        have := walk_list.stops S2.H s2
        rw [r2.length] at this
        exact this
      · obtain ⟨us, s2, r2⟩ := lk S2 t2 kp
        have hi : i < us.length := by rw [r2.length]; exact (List.getElem?_eq_some_iff.mp e2).1
        exact yAt_ok (G := G) r2 i S2 x H' w2 (Tr.refl t2.ok) e2 (walk_list.yields i S2.H x H' hi s2 y)
theorem ti_zpP {a b : Expr} {elts : List Expr} {kk : Nat} {tpos : Pos} {m1 m2 : ME} (hg : Gl X "zip") (hm : X.mg "zip" = none) (h1 : PE X a (tE X.K G Wx m1)) (h2 : PE X b (tE X.K G Wx m2)) (hs : starEach [a, b] X.env = (false, eval a X.env) :: starEach [b] X.env) (hs2 : starEach [b] X.env = [(false, eval b X.env)]) :
    PI X (.Tuple elts kk tpos) (.Call (.Name "zip" p) [a, b] [] pos) (tIP X.K G Wx (.zp m1 m2)) :=
  (pi_zip hg hm (pa_cons h1 (pa_cons h2 pa_nil hs2) hs) hs (by rw [hs2]; rfl)).imp fun σ H R ⟨Γ, S, eH, k, re, h⟩ => by
    subst eH
    unfold evIP at h
    refine tE_bind k re h fun v1 S1 w1 t1 r1 re1 h1 => ?_
    refine tE_bind t1.ok re1 h1 fun v2 S2 w2 t2 r2 re2 h2 => ?_
    have r1 := t2.rw r1
    cases q1 : seqL S2.st w1 with
    | none => rw [q1] at h2; exact False.elim h2
    | some p1 => cases q2 : seqL S2.st w2 with
      | none => rw [q1, q2] at h2; exact False.elim h2
      | some p2 =>
        obtain ⟨k1, xs⟩ := p1
        obtain ⟨k2, ys⟩ := p2
        rw [q1, q2] at h2
        have h2 : Pst X.K G Wx (ItOkP X.K G) σ S2 (.ok (zipW xs ys) S2.st) R := h2
        obtain ⟨a, vs, e1, sq1, _, l1, s1⟩ := seqL_rw t2.ok r1 q1
        obtain ⟨b, us, e2, sq2, _, l2, s2⟩ := seqL_rw t2.ok r2 q2
        refine ⟨a, b, vs, us, by rw [e1, e2], sq1, sq2, ?_⟩
        have lk : ∀ (S3 : S4), Tr X.K G.ca S2 S3 → keepL S2.st S3.st → ∃ vs us, SqL X.K S3.H a vs ∧ SqL X.K S3.H b us ∧ RwsS X.K S3 vs xs ∧ RwsS X.K S3 us ys := fun S3 t3 kp => by
          obtain ⟨a', vs', e3, sq3, _, _, t4⟩ := seqL_rw t3.ok (t3.rw r1) (seqL_keep q1 kp)
          obtain ⟨b', us', e4, sq4, _, _, t5⟩ := seqL_rw t3.ok (t3.rw r2) (seqL_keep q2 kp)
          rw [e1] at e3
          cases e3
          rw [e2] at e4
          cases e4
          exact ⟨vs', us', sq3, sq4, t4, t5⟩
        have zl : ∀ {vs us : List V} {S3 : S4}, RwsS X.K S3 vs xs → RwsS X.K S3 us ys → (zipW xs ys).length = min vs.length us.length := fun r3 r4 => by rw [zipW_len, r3.length, r4.length]
        refine Pst.done (Rl := ItOkP X.K G) h2 t2.ok ⟨fun i S3 hi t3 kp => ?_, fun S3 t3 kp => ?_, by rw [zipW_len, ← s1.length]; omega, fun i S3 x H' w t3 kp e y => ?_⟩
        · obtain ⟨vs, us, s3, s4, r3, r4⟩ := lk S3 t3 kp
          exact (walk_zip (n := (zipW xs ys).length) (zl r3 r4)).goes i S3.H hi ⟨s3, s4⟩
        · obtain ⟨vs, us, s3, s4, r3, r4⟩ := lk S3 t3 kp
          exact (walk_zip (n := (zipW xs ys).length) (zl r3 r4)).stops S3.H ⟨s3, s4⟩
        · obtain ⟨vs, us, s3, s4, r3, r4⟩ := lk S3 t3 kp
          obtain ⟨T, x1, x2, ex, hT, eH, g1, g2⟩ := (walk_zip (n := (zipW xs ys).length) (zl r3 r4)).yields i S3.H x H' (List.getElem?_eq_some_iff.mp e).1 ⟨s3, s4⟩ y
          obtain ⟨y1, y2, ew, f1, f2⟩ := zipW_get e
          obtain ⟨z1, g3, rv1⟩ := Rws.get r3 f1
          obtain ⟨z2, g4, rv2⟩ := Rws.get r4 f2
          have g3 := g1.symm.trans g3; cases g3
          have g4 := g2.symm.trans g4; cases g4
          refine ⟨S3.put T (.tup [x1, x2]), eH.symm, rfl, t3.ok.put hT, ?_⟩
          rw [ex, ew]
          exact rw_newT t3.ok hT ⟨x1, [x2], rfl, rv1, x2, [], rfl, rv2, rfl⟩
theorem ti_en {a : Expr} {elts : List Expr} {kk : Nat} {tpos : Pos} {m : ME} (hg : Gl X "enumerate") (hm : X.mg "enumerate" = none) (h1 : PE X a (tE X.K G Wx m)) (hs : starEach [a] X.env = [(false, eval a X.env)]) :
    PI X (.Tuple elts kk tpos) (.Call (.Name "enumerate" p) [a] [] pos) (tI X.K G Wx (.en m)) :=
  (pi_enum hg hm (pa_cons h1 pa_nil hs) hs).imp fun σ H R ⟨Γ, S, eH, k, re, h⟩ => by
    subst eH
    unfold evI at h
    refine tE_bind k re h fun v1 S1 w1 t1 r1 re1 h1 => ?_
    cases w1 with
    | lst k1 xs =>
      have h1 : Pst X.K G Wx (ItOk X.K G) σ S1 (.ok (enumW 0 xs) S1.st) R := h1
      obtain ⟨a, vs, e1, q1, l1, s1⟩ := r1
      refine ⟨a, vs, by rw [e1], Same.seq t1.ok.sub q1.seq, ?_⟩
      refine Pst.done (Rl := ItOk X.K G) h1 t1.ok (itOk_of walk_enum (by rw [enumW_len, s1.length]) (by rw [enumW_len, ← s1.length]; exact l1) (fun S3 t3 => Same.seq t3.ok.sub (Same.seq t3.fs q1.seq)) ?_)
      rintro i S3 x H' w t3 e ⟨T, x1, x2, ex, hT, eH, g1, g2⟩
      obtain ⟨y2, ew, f2⟩ := enumW_get e
      obtain ⟨z2, g4, rv2⟩ := Rws.get s1 f2
      have g4 := g2.symm.trans g4; cases g4
      cases g1
      refine ⟨S3.put T (.tup [.int (i : Nat), x2]), eH.symm, rfl, t3.ok.put hT, ?_⟩
      rw [ex, ew]
      exact rw_newT t3.ok hT ⟨_, [x2], rfl, by show V.int _ = V.int _; rw [Nat.zero_add], x2, [], rfl, t3.rw rv2, rfl⟩
    | _ => exact False.elim h1
end
end Mi

set_option Elab.async false
set_option linter.all false
set_option maxRecDepth 100000
set_option maxHeartbeats 1000000
/-! Mini Python: comprehensions. -/
namespace Mi
open PySem PySem.Spec PyProof.Rows L2
/-- something that is ours alone, neither staying nor a place, is written -/
def S4.poke (S : S4) (D : Addr) (o : HO) : S4 := ⟨S.U, S.ρ, S.F, S.st, upd S.H D o⟩
/-- .. stays from now on -/
def S4.keepF (S : S4) (D : Addr) (o : HO) : S4 := ⟨S.U, S.ρ, upd S.F D o, S.st, S.H⟩
/-- .. becomes a place -/
def S4.keepP (S : S4) (D : Addr) (ob : O) : S4 := ⟨S.U, S.ρ ++ [D], S.F, S.st ++ [some ob], S.H⟩
section
variable {K : PySem.W.Frag} {ca : Cg} {S S1 : S4} {D : Addr}
theorem Ok.poke (k : Ok K ca S1) (hF : S1.F D = none) (hL : ¬ Live S1 D) (o : HO) : Ok K ca (S1.poke D o) := by
  refine ⟨k.len, fun b x h => ?_, k.vw, fun n x a h1 h2 => ?_, k.inj, k.tx, k.tt⟩
  · have ne : b ≠ D := fun e => by rw [e] at h; rw [show (S1.poke D o).F D = S1.F D from rfl, hF] at h; cases h
    show upd S1.H D o b = some x
    rw [upd_ne ne]; exact k.sub b x h
  · obtain ⟨z1, z2⟩ := k.liv n x a h1 h2
    have ne : a ≠ D := fun e => hL (e ▸ ⟨n, x, h1, h2⟩)
    exact ⟨z1, Ro.mono (S := S1) (S' := S1.poke D o) (fun v w h => h) (fun v w h => h) (show upd S1.H D o a = S1.H a from upd_ne ne) (Same.refl _) z2⟩
theorem Tr.poke (t : Tr K ca S S1) (hD : S.H D = none) (hF : S1.F D = none) (hL : ¬ Live S1 D) (o : HO) : Tr K ca S (S1.poke D o) := by
  have ne : ∀ b x, S.H b = some x → b ≠ D := fun b x h e => by rw [e, hD] at h; cases h
  refine ⟨t.eU, t.ext, t.fs, fun b x h n => ?_, t.new, fun b x h => ?_, t.fnew, t.lenle, t.ok.poke hF hL o⟩
  · show upd S1.H D o b = some x
    rw [upd_ne (ne b x h)]; exact t.keep b x h n
  · obtain ⟨y, hy⟩ := t.thr b x h
    exact ⟨y, by show upd S1.H D o b = some y; rw [upd_ne (ne b x h)]; exact hy⟩
theorem Tr.keepF (t : Tr K ca S S1) (hD : S.H D = none) (hF : S1.F D = none) (hL : ¬ Live S1 D) {o : HO} (hH : S1.H D = some o) : Tr K ca S (S1.keepF D o) := by
  have sF : Same S1.F (upd S1.F D o) := same_upd hF
  refine ⟨t.eU, t.ext, fun b x h => sF b x (t.fs b x h), t.keep, t.new, t.thr, fun b x h => ?_, t.lenle, ⟨t.ok.len, fun b x h => ?_, fun a h => ?_, fun n x a h1 h2 => ?_, t.ok.inj, t.ok.tx, t.ok.tt⟩⟩
  · by_cases e : b = D
    · subst e; exact .inr (.inl hD)
    · rw [show (S1.keepF D o).F b = S1.F b from upd_ne e] at h; exact t.fnew b x h
  · by_cases e : b = D
    · subst e
      rw [show (S1.keepF b o).F b = some o from upd_same] at h
      cases h; exact hH
    · rw [show (S1.keepF D o).F b = S1.F b from upd_ne e] at h; exact t.ok.sub b x h
  · obtain ⟨x, h⟩ := t.ok.vw a h
    exact ⟨x, sF _ _ h⟩
  · obtain ⟨z1, z2⟩ := t.ok.liv n x a h1 h2
    have ne : a ≠ D := fun e => hL (e ▸ ⟨n, x, h1, h2⟩)
    refine ⟨by show upd S1.F D o a = none; rw [upd_ne ne]; exact z1, Ro.mono (S := S1) (S' := S1.keepF D o) (fun v w h => Rw.mono (fun _ _ q => q) sF v w h) (fun v w h => Rws.mono (fun _ _ q => q) sF v w h) rfl sF z2⟩
theorem Tr.keepP (t : Tr K ca S S1) (hD : S.H D = none) (hF : S1.F D = none) (hL : ¬ Live S1 D) {ob : O} (hO : Ro K ca (S1.keepP D ob) D ob) : Tr K ca S (S1.keepP D ob) := by
  have mw : ∀ v w, RwS K S1 v w → RwS K (S1.keepP D ob) v w := fun v w h => Rw.mono (fun _ _ q => get_old q) (Same.refl _) v w h
  have mws : ∀ v w, RwsS K S1 v w → RwsS K (S1.keepP D ob) v w := fun v w h => Rws.mono (fun _ _ q => get_old q) (Same.refl _) v w h
  have k := t.ok
  have old : ∀ (n : Nat) (x : O) (a : Addr), (S1.st ++ [some ob])[n]? = some (some x) → (S1.ρ ++ [D])[n]? = some a → (S1.st[n]? = some (some x) ∧ S1.ρ[n]? = some a) ∨ (n = S1.st.length ∧ x = ob ∧ a = D) := fun n x a h1 h2 => by
    have hl := k.len
    rcases get_app h1 with h1 | ⟨e1, e2⟩
    · rcases get_app h2 with h2 | ⟨e1, e2⟩
      · exact .inl ⟨h1, h2⟩
      · obtain ⟨q, _⟩ := List.getElem?_eq_some_iff.mp h1
        omega
    · rcases get_app h2 with h2 | ⟨e3, e4⟩
      · obtain ⟨q, _⟩ := List.getElem?_eq_some_iff.mp h2
        omega
      · exact .inr ⟨e1, by injection e2, e4⟩
  refine ⟨t.eU, fun n a h => get_old (t.ext n a h), t.fs, t.keep, fun b ⟨n, x, h1, h2⟩ => ?_, t.thr, t.fnew, Nat.le_trans t.lenle (by show S1.st.length ≤ (S1.st ++ [some ob]).length; simp), ⟨by show (S1.ρ ++ [D]).length = (S1.st ++ [some ob]).length; simp [k.len], k.sub, k.vw, fun n x a h1 h2 => ?_, fun n n' x x' a h1 h2 h3 h4 => ?_, k.tx, fun t P e => get_old (k.tt t P e)⟩⟩
  · rcases old n x b h1 h2 with ⟨h1, h2⟩ | ⟨_, _, e⟩
    · exact t.new b ⟨n, x, h1, h2⟩
    · exact .inr (e ▸ hD)
  · rcases old n x a h1 h2 with ⟨h1, h2⟩ | ⟨_, e1, e2⟩
    · obtain ⟨z1, z2⟩ := k.liv n x a h1 h2
      exact ⟨z1, z2.mono mw mws rfl (Same.refl _)⟩
    · subst e1 e2
      exact ⟨hF, hO⟩
  · rcases old n x a h1 h3 with ⟨h1, h3⟩ | ⟨e1, _, e2⟩
    · rcases old n' x' a h2 h4 with ⟨h2, h4⟩ | ⟨e3, _, e4⟩
      · exact k.inj n n' x x' a h1 h2 h3 h4
      · exact absurd (e4 ▸ ⟨n, x, h1, h3⟩) hL
    · rcases old n' x' a h2 h4 with ⟨h2, h4⟩ | ⟨e3, _, e4⟩
      · exact absurd (e2 ▸ ⟨n', x', h2, h4⟩) hL
      · exact e1.trans e3.symm
/-- what is ours alone stays so -/
theorem Tr.mine (t : Tr K ca S S1) {o : HO} (hH : S.H D = some o) (hF : S.F D = none) (hL : ¬ Live S D) : S1.H D = some o ∧ S1.F D = none ∧ ¬ Live S1 D := by
  refine ⟨t.keep D o hH hL, ?_, fun l => ?_⟩
  · cases q : S1.F D with
    | none => rfl
    | some x =>
      rcases t.fnew D x q with h | h | h
      · rw [hF] at h; cases h
      · rw [hH] at h; cases h
      · exact absurd h hL
  · rcases t.new D l with h | h
    · exact hL h
    · rw [hH] at h; cases h
end
theorem wipe_get (σ : L2.St) : ∀ (vs : List Nat) (j : Nat), (wipe σ vs)[j]? = if j ∈ vs then σ[j]?.map (fun _ => none) else σ[j]?
  | [], j => by simp [wipe]
  | v :: vs, j => by
    unfold wipe
    by_cases e : v = j
    · subst e
      by_cases hv : v < σ.length
      · rw [List.getElem?_set_self (by rw [wipe_length]; exact hv), if_pos List.mem_cons_self, List.getElem?_eq_getElem hv]; rfl
      · rw [List.getElem?_eq_none (by rw [List.length_set, wipe_length]; omega), if_pos List.mem_cons_self, List.getElem?_eq_none (by omega)]; rfl
    · rw [List.getElem?_set_ne e, wipe_get σ vs j]
      by_cases hj : j ∈ vs
      · rw [if_pos hj, if_pos (List.mem_cons_of_mem _ hj)]
      · rw [if_neg hj, if_neg (by simp [hj]; exact fun z => e z.symm)]
theorem wipe_but {σ σ' : L2.St} {is vs : List Nat} (h : But is σ σ') (hs : ∀ i ∈ is, i ∈ vs) : wipe σ' vs = wipe σ vs := by
  apply List.ext_getElem?
  intro j
  rw [wipe_get, wipe_get]
  by_cases hj : j ∈ vs
  · rw [if_pos hj, if_pos hj]
    by_cases hl : j < σ.length
    · rw [List.getElem?_eq_getElem hl, List.getElem?_eq_getElem (by rw [h.1]; exact hl)]; rfl
    · have := h.1
      rw [List.getElem?_eq_none (show σ.length ≤ j by omega), List.getElem?_eq_none (show σ'.length ≤ j by omega)]
  · rw [if_neg hj, if_neg hj]
    exact h.2 j fun z => hj (hs j z)
theorem wipe_wipe {σ : L2.St} {vs : List Nat} : wipe (wipe σ vs) vs = wipe σ vs := by
  apply List.ext_getElem?
  intro j
  rw [wipe_get, wipe_get]
  by_cases hj : j ∈ vs
  · rw [if_pos hj, if_pos hj]
    cases σ[j]? <;> rfl
  · rw [if_neg hj, if_neg hj]
theorem Re.wipe {K : PySem.W.Frag} {S : S4} {σ : L2.St} {Γ : Env} (re : Re K S σ Γ) : ∀ vs : List Nat, Re K S (L2.wipe σ vs) (wipeE Γ vs)
  | [] => re
  | v :: vs => by
    have ih := Re.wipe re vs
    unfold L2.wipe wipeE
    refine ⟨by rw [List.length_set, List.length_set]; exact ih.len, fun j x h => ?_⟩
    by_cases e : v = j
    · subst e
      by_cases hv : v < (wipeE Γ vs).length
      · rw [List.getElem?_set_self hv] at h; cases h
      · rw [List.getElem?_eq_none (by rw [List.length_set]; omega)] at h; cases h
    · rw [List.getElem?_set_ne e] at h ⊢
      exact ih.at_ j x h
section
variable {X : Cx} {G : Gd} {Wx : WX} {p pos : Pos}
abbrev W0 : WX := fun _ _ _ _ => False
theorem Pst.calm {α α' β β' : Type} {Rl : S4 → β → α → Prop} {Rl' : S4 → β' → α' → Prop} {σ σ' : L2.St} {S : S4} {r : R α} {f : α → Store → R α'} {Q : β' → Hp → Prop} {K : PySem.W.Frag} (h : Pst K G Wx Rl' σ S (r.calm f) Q) :
    Pst K G W0 Rl σ' S r (fun v H' => ∃ S' w, S'.H = H' ∧ Tr K G.ca S S' ∧ Rl S' v w ∧ r = .ok w S'.st ∧ Pst K G Wx Rl' σ S' (f w S'.st) Q) := by
  cases r with
  | ok w st' =>
    intro v S' e t q
    subst e
    exact ⟨S', w, rfl, t, q, rfl, Pst.later h t⟩
  | exc c st' => exact False.elim h
  | err => exact h
def tTs (K : PySem.W.Frag) (G : Gd) (ms : List ME) : TT := fun σ H Q => ∃ (Γ : Env) (S : S4), S.H = H ∧ Ok K G.ca S ∧ Re K S σ Γ ∧ Pst K G W0 (fun _ (b c : Bool) => b = c) σ S (evIfs G.Φ G.sub ms Γ S.st) Q
theorem _root_.L2.PTs.imp {X : Cx} {e : List Expr} {t t' : TT} (h : PTs X e t) (i : ∀ σ H Q, t' σ H Q → t σ H Q) : PTs X e t' := ⟨fun pins s σ H Q I hw => h.run pins s σ H Q I (i _ _ _ hw)⟩
theorem tts_nil : PTs X [] (tTs X.K G []) := pts_nil.imp fun σ H Q ⟨Γ, S, eH, k, re, h⟩ => by
  subst eH
  unfold evIfs at h
  exact Pst.done (Rl := fun _ (b c : Bool) => b = c) (v := true) h k rfl
theorem tts_one {e : Expr} {m : ME} (h1 : PT X e (tB' X.K G W0 m)) : PTs X [e] (tTs X.K G [m]) := (pts_one h1).imp fun σ H Q ⟨Γ, S, eH, k, re, h⟩ => by
  subst eH
  unfold evIfs at h
  refine tB_bind k re h (fun w st hw => by cases w <;> first | rfl | exact absurd rfl (hw _)) fun b S1 t1 re1 h1 => ?_
  cases b with
  | true =>
    have h1 : Pst X.K G W0 (fun _ (b c : Bool) => b = c) σ S1 (evIfs G.Φ G.sub [] Γ S1.st) Q := h1
    unfold evIfs at h1
    exact Pst.done (Rl := fun _ (b c : Bool) => b = c) (v := true) h1 t1.ok rfl
  | false => exact Pst.done (Rl := fun _ (b c : Bool) => b = c) (v := false) h1 t1.ok rfl
/-- the list at D when the comprehension is through -/
theorem lc_fin {mu : Bool} {ys : List W} {acc : List V} {S1 Sn : S4} {σ : L2.St} {D : Addr} {Q : VK} {K : PySem.W.Frag} (hD : S1.H D = none) (t : Tr K G.ca S1 Sn) (hH : Sn.H D = some (.lst acc)) (hF : Sn.F D = none) (hL : ¬ Live Sn D) (r : RwsS K Sn acc ys) (l : acc.length ≤ lim)
    (h : Pst K G Wx (RwS K) σ S1 (mkL mu ys Sn.st) Q) : Q (.ref D) Sn.H := by
  cases mu with
  | false =>
    have h : Pst K G Wx (RwS K) σ S1 (.ok (.lst .fz ys) Sn.st) Q := h
    have t2 := t.keepF hD hF hL hH
    have sF : Same Sn.F (upd Sn.F D (.lst acc)) := same_upd hF
    refine h (.ref D) (Sn.keepF D (.lst acc)) rfl t2 ⟨D, acc, rfl, ⟨upd_same, fun u => ?_⟩, l, Rws.mono (fun _ _ q => q) sF _ _ r⟩
    obtain ⟨x, hx⟩ := t.ok.vw D u
    rw [hF] at hx; cases hx
  | true =>
    have h : Pst K G Wx (RwS K) σ S1 (.ok (.loc Sn.st.length) (Sn.st ++ [some (.lst ys)])) Q := h
    have t2 := t.keepP hD hF hL (ob := .lst ys) ⟨acc, hH, l, Rws.mono (fun _ _ q => get_old q) (Same.refl _) _ _ r⟩
    refine h (.ref D) (Sn.keepP D (.lst ys)) rfl t2 ⟨D, rfl, ?_⟩
    show (Sn.ρ ++ [D])[Sn.st.length]? = some D
    rw [← t.ok.len]
    simp
/-- the reading of a comprehension -/
theorem lc_rd {mu : Bool} {own : List (Str × Nat)} {t : Tg} {it : It} {ms : List ME} {m : ME} {K : PySem.W.Frag} (ht : ∀ i ∈ tgS t, i ∈ own.map (·.2)) (σ : L2.St) (H : Hp) (Q : VK) (h : tE K G Wx (.lc mu own t it ms m) σ H Q) :
    tLc (tI K G Wx it) (tG K G t) (tTs K G ms) (tE K G W0 m) (own.map (·.2)) σ H Q := by
  obtain ⟨Γ, S, eH, k, re, h⟩ := h
  subst eH
  unfold evE at h
  refine ⟨Γ, S, rfl, k, re, (Pst.bind (Rl := ItOk K G) h).mono fun J H' ⟨S1, xs, e, t1, io, _, h1⟩ => ?_⟩
  subst e
  intro D hD
  obtain ⟨goes, stops, hl, yields⟩ := io
  have re1 := (re.mono t1).wipe (own.map (·.2))
  -- the state of the turn
  let go : List W → Store → R (List W) := fun xs st => lcGo (asgT t) (evIfs G.Φ G.sub ms) (evE G.Φ G.sub m) (wipeE Γ (own.map (·.2))) xs st
  have h1 : Pst K G Wx (RwS K) σ S1 ((go xs S1.st).calm fun ys st => mkL mu ys st) Q := h1
  let Pv : Nat → Hp → Prop := fun i H => ∃ (Si : S4) (acc : List V) (ys : List W), Si.H = H ∧ Tr K G.ca S1 Si ∧ Si.H D = some (.lst acc) ∧ Si.F D = none ∧ ¬ Live Si D ∧ RwsS K Si acc ys ∧ acc.length ≤ i ∧
    Pst K G Wx (RwS K) σ S1 ((go (xs.drop i) Si.st).calm fun zs st => mkL mu (ys ++ zs) st) Q
  have F1 : S1.F D = none := t1.ok.sub.free hD
  have L1 : ¬ Live S1 D := fun l => by
    obtain ⟨x, hx⟩ := t1.ok.tracked l
    rw [hD] at hx; cases hx
  have P0 : Pv 0 (upd S1.H D (.lst [])) := by
    refine ⟨S1.poke D (.lst []), [], [], rfl, (Tr.refl t1.ok).poke hD F1 L1 _, upd_same, F1, L1, rfl, Nat.le_refl _, ?_⟩
    exact h1
  refine ⟨fun i mm H => mm = xs.length - i ∧ i ≤ xs.length ∧ Pv i H, ⟨xs.length, by simp, Nat.zero_le _, P0⟩, ?_⟩
  rintro i mm H ⟨rfl, hi, Si, acc, ys, eH, ti, hH, hF, hL, ra, la, hp⟩
  subst eH
  by_cases hlt : i < xs.length
  · refine .inr ⟨goes i Si hlt ti, Pv (i + 1), fun H' p' => ⟨xs.length - (i + 1), by omega, rfl, hlt, p'⟩, fun x H' y => ?_⟩
    have ew : xs[i]? = some xs[i] := List.getElem?_eq_getElem hlt
    obtain ⟨S2, e2, est, t2, rx⟩ := yields i Si x H' xs[i] ti ew y
    subst e2
    have ti2 := ti.trans t2
    have dr : xs.drop i = xs[i] :: xs.drop (i + 1) := (List.getElem_cons_drop (h := hlt)).symm
    rw [dr] at hp
    have hp : Pst K G Wx (RwS K) σ S1 ((lcGo (asgT t) (evIfs G.Φ G.sub ms) (evE G.Φ G.sub m) (wipeE Γ (own.map (·.2))) (xs[i] :: xs.drop (i + 1)) Si.st).calm fun zs st => mkL mu (ys ++ zs) st) Q := hp
    unfold lcGo at hp
    cases ea : asgT t xs[i] (wipeE Γ (own.map (·.2))) with
    | none => rw [ea] at hp; exact False.elim hp
    | some Γ' =>
      rw [ea] at hp
      have re2 := re1.mono ti2
      obtain ⟨m1, m2, m3⟩ := t2.mine hH hF hL
      refine ⟨_, Γ', S2, xs[i], rfl, t2.ok, re2, rx, ea, fun σ' re' bt => ⟨by rw [wipe_but bt ht, wipe_wipe], ?_⟩⟩
      have as : ∀ {α β γ : Type} (r : R α) (f : α → Store → R β) (g : β → Store → R γ), (r.calm f).calm g = r.calm fun a st => (f a st).calm g := by
        intro α β γ r f g
        cases r <;> rfl
      have hp : Pst K G Wx (RwS K) σ S1 (((evIfs G.Φ G.sub ms Γ' S2.st).calm fun b st1 => match b with
        | true => (evE G.Φ G.sub m Γ' st1).calm fun y st2 => (go (xs.drop (i + 1)) st2).calm fun ys st3 => .ok (y :: ys) st3
        | false => go (xs.drop (i + 1)) st1).calm fun zs st => mkL mu (ys ++ zs) st) Q := by
        rw [est]
        exact hp
      rw [as] at hp
      refine ⟨Γ', S2, rfl, t2.ok, re', (Pst.calm (Rl := fun _ (b c : Bool) => b = c) (Pst.later hp ti2)).mono fun b H3 ⟨S3, b', e3, t3, eb, eq1, _⟩ => ?_⟩
      subst e3 eb
      rw [eq1] at hp
      obtain ⟨n1, n2, n3⟩ := t3.mine m1 m2 m3
      have ti3 := ti2.trans t3
      cases b with
      | false =>
        rw [if_neg Bool.false_ne_true]
        exact ⟨S3, acc, ys, rfl, ti3, n1, n2, n3, t3.rws (t2.rws ra), by omega, hp⟩
      | true =>
        rw [if_pos rfl]
        have hp : Pst K G Wx (RwS K) σ S1 (((evE G.Φ G.sub m Γ' S3.st).calm fun y st2 => (go (xs.drop (i + 1)) st2).calm fun ys st3 => .ok (y :: ys) st3).calm fun zs st => mkL mu (ys ++ zs) st) Q := hp
        rw [as] at hp
        refine ⟨Γ', S3, rfl, t3.ok, re'.mono t3, (Pst.calm (Rl := RwS K) (Pst.later hp ti3)).mono fun y H4 ⟨S4, w, e4, t4, rw', eq2, _⟩ => ?_⟩
        subst e4
        rw [eq2] at hp
        have hp : Pst K G Wx (RwS K) σ S1 (((go (xs.drop (i + 1)) S4.st).calm fun ys st3 => .ok (w :: ys) st3).calm fun zs st => mkL mu (ys ++ zs) st) Q := hp
        rw [as] at hp
        obtain ⟨o1, o2, o3⟩ := t4.mine n1 n2 n3
        have ti4 := ti3.trans t4
        refine ⟨acc, o1, by rw [← lim_eq]; omega, S4.poke D (.lst (acc ++ [y])), acc ++ [y], ys ++ [w], rfl, ti4.poke hD o2 o3 _, upd_same, o2, o3, ?_, ?_, ?_⟩
        · exact Rws.append (t4.rws (t3.rws (t2.rws ra))) ⟨y, [], rfl, rw', rfl⟩
        · rw [List.length_append, List.length_singleton]; omega
        · have e5 : (fun (zs : List W) (st : Store) => mkL mu (ys ++ [w] ++ zs) st) = fun zs st => mkL mu (ys ++ w :: zs) st := by
            funext zs st
            rw [List.append_assoc]; rfl
          rw [e5]
          exact hp
  · have e : i = xs.length := by omega
    subst e
    refine .inl ⟨stops Si ti, ?_⟩
    have hp : Pst K G Wx (RwS K) σ S1 ((go (xs.drop xs.length) Si.st).calm fun zs st => mkL mu (ys ++ zs) st) Q := hp
    rw [List.drop_length] at hp
    have hp : Pst K G Wx (RwS K) σ S1 (mkL mu (ys ++ []) Si.st) Q := hp
    rw [List.append_nil] at hp
    exact lc_fin hD ti hH hF hL ra (by omega) hp
/-- the reading of a comprehension over lists that may change -/
theorem lcP_rd {mu : Bool} {own : List (Str × Nat)} {t : Tg} {it : It} {ms : List ME} {m : ME} {K : PySem.W.Frag} (ht : ∀ i ∈ tgS t, i ∈ own.map (·.2)) (σ : L2.St) (H : Hp) (Q : VK) (h : tE K G Wx (.lcP mu own t it ms m) σ H Q) :
    tLc (tIP K G Wx it) (tG K G t) (tTs K G ms) (tE K G W0 m) (own.map (·.2)) σ H Q := by
  obtain ⟨Γ, S, eH, k, re, h⟩ := h
  subst eH
  unfold evE at h
  refine ⟨Γ, S, rfl, k, re, (Pst.bind (Rl := ItOkP K G) h).mono fun J H' ⟨S1, xs, e, t1, io, _, h1⟩ => ?_⟩
  subst e
  intro D hD
  obtain ⟨goes, stops, hl, yields⟩ := io
  have re1 := (re.mono t1).wipe (own.map (·.2))
  -- the state of the turn
  let go : List W → Store → R (List W) := fun xs st => lcGo (asgT t) (kpI S1.st (evIfs G.Φ G.sub ms)) (evE G.Φ G.sub m) (wipeE Γ (own.map (·.2))) xs st
  have h1 : Pst K G Wx (RwS K) σ S1 ((go xs S1.st).calm fun ys st => kpR S1.st st (mkL mu ys st)) Q := h1
  let Pv : Nat → Hp → Prop := fun i H => ∃ (Si : S4) (acc : List V) (ys : List W), Si.H = H ∧ Tr K G.ca S1 Si ∧ Si.H D = some (.lst acc) ∧ Si.F D = none ∧ ¬ Live Si D ∧ RwsS K Si acc ys ∧ acc.length ≤ i ∧
    Pst K G Wx (RwS K) σ S1 ((go (xs.drop i) Si.st).calm fun zs st => kpR S1.st st (mkL mu (ys ++ zs) st)) Q
  have F1 : S1.F D = none := t1.ok.sub.free hD
  have L1 : ¬ Live S1 D := fun l => by
    obtain ⟨x, hx⟩ := t1.ok.tracked l
    rw [hD] at hx; cases hx
  have P0 : Pv 0 (upd S1.H D (.lst [])) := by
    refine ⟨S1.poke D (.lst []), [], [], rfl, (Tr.refl t1.ok).poke hD F1 L1 _, upd_same, F1, L1, rfl, Nat.le_refl _, ?_⟩
    exact h1
  refine ⟨fun i mm H => mm = xs.length - i ∧ i ≤ xs.length ∧ Pv i H, ⟨xs.length, by simp, Nat.zero_le _, P0⟩, ?_⟩
  rintro i mm H ⟨rfl, hi, Si, acc, ys, eH, ti, hH, hF, hL, ra, la, hp⟩
  subst eH
  by_cases hlt : i < xs.length
  · have kp : keepL S1.st Si.st := by
      have dr : xs.drop i = xs[i] :: xs.drop (i + 1) := (List.getElem_cons_drop (h := hlt)).symm
      rw [dr] at hp
      have hp : Pst K G Wx (RwS K) σ S1 ((lcGo (asgT t) (kpI S1.st (evIfs G.Φ G.sub ms)) (evE G.Φ G.sub m) (wipeE Γ (own.map (·.2))) (xs[i] :: xs.drop (i + 1)) Si.st).calm fun zs st => kpR S1.st st (mkL mu (ys ++ zs) st)) Q := hp
      unfold lcGo at hp
      cases ea : asgT t xs[i] (wipeE Γ (own.map (·.2))) with
      | none => rw [ea] at hp; exact False.elim hp
      | some Γ' =>
        rw [ea] at hp
        by_cases kp : keepL S1.st Si.st
        · exact kp
        · have e0 : kpI S1.st (evIfs G.Φ G.sub ms) Γ' Si.st = .err := if_neg kp
          simp only [e0] at hp
          exact False.elim hp
    refine .inr ⟨goes i Si hlt ti kp, Pv (i + 1), fun H' p' => ⟨xs.length - (i + 1), by omega, rfl, hlt, p'⟩, fun x H' y => ?_⟩
    have ew : xs[i]? = some xs[i] := List.getElem?_eq_getElem hlt
    obtain ⟨S2, e2, est, t2, rx⟩ := yields i Si x H' xs[i] ti kp ew y
    subst e2
    have ti2 := ti.trans t2
    have dr : xs.drop i = xs[i] :: xs.drop (i + 1) := (List.getElem_cons_drop (h := hlt)).symm
    rw [dr] at hp
    have hp : Pst K G Wx (RwS K) σ S1 ((lcGo (asgT t) (kpI S1.st (evIfs G.Φ G.sub ms)) (evE G.Φ G.sub m) (wipeE Γ (own.map (·.2))) (xs[i] :: xs.drop (i + 1)) Si.st).calm fun zs st => kpR S1.st st (mkL mu (ys ++ zs) st)) Q := hp
    unfold lcGo at hp
    cases ea : asgT t xs[i] (wipeE Γ (own.map (·.2))) with
    | none => rw [ea] at hp; exact False.elim hp
    | some Γ' =>
      rw [ea] at hp
      have re2 := re1.mono ti2
      obtain ⟨m1, m2, m3⟩ := t2.mine hH hF hL
      refine ⟨_, Γ', S2, xs[i], rfl, t2.ok, re2, rx, ea, fun σ' re' bt => ⟨by rw [wipe_but bt ht, wipe_wipe], ?_⟩⟩
      have as : ∀ {α β γ : Type} (r : R α) (f : α → Store → R β) (g : β → Store → R γ), (r.calm f).calm g = r.calm fun a st => (f a st).calm g := by
        intro α β γ r f g
        cases r <;> rfl
      have e0 : kpI S1.st (evIfs G.Φ G.sub ms) Γ' S2.st = evIfs G.Φ G.sub ms Γ' S2.st := if_pos (by rw [est]; exact kp)
      have hp : Pst K G Wx (RwS K) σ S1 (((evIfs G.Φ G.sub ms Γ' S2.st).calm fun b st1 => match b with
        | true => (evE G.Φ G.sub m Γ' st1).calm fun y st2 => (go (xs.drop (i + 1)) st2).calm fun ys st3 => .ok (y :: ys) st3
        | false => go (xs.drop (i + 1)) st1).calm fun zs st => kpR S1.st st (mkL mu (ys ++ zs) st)) Q := by
        rw [← e0, est]
        exact hp
      rw [as] at hp
      refine ⟨Γ', S2, rfl, t2.ok, re', (Pst.calm (Rl := fun _ (b c : Bool) => b = c) (Pst.later hp ti2)).mono fun b H3 ⟨S3, b', e3, t3, eb, eq1, _⟩ => ?_⟩
      subst e3 eb
      rw [eq1] at hp
      obtain ⟨n1, n2, n3⟩ := t3.mine m1 m2 m3
      have ti3 := ti2.trans t3
      cases b with
      | false =>
        rw [if_neg Bool.false_ne_true]
        exact ⟨S3, acc, ys, rfl, ti3, n1, n2, n3, t3.rws (t2.rws ra), by omega, hp⟩
      | true =>
        rw [if_pos rfl]
        have hp : Pst K G Wx (RwS K) σ S1 (((evE G.Φ G.sub m Γ' S3.st).calm fun y st2 => (go (xs.drop (i + 1)) st2).calm fun ys st3 => .ok (y :: ys) st3).calm fun zs st => kpR S1.st st (mkL mu (ys ++ zs) st)) Q := hp
        rw [as] at hp
        refine ⟨Γ', S3, rfl, t3.ok, re'.mono t3, (Pst.calm (Rl := RwS K) (Pst.later hp ti3)).mono fun y H4 ⟨S4, w, e4, t4, rw', eq2, _⟩ => ?_⟩
        subst e4
        rw [eq2] at hp
        have hp : Pst K G Wx (RwS K) σ S1 (((go (xs.drop (i + 1)) S4.st).calm fun ys st3 => .ok (w :: ys) st3).calm fun zs st => kpR S1.st st (mkL mu (ys ++ zs) st)) Q := hp
        rw [as] at hp
        obtain ⟨o1, o2, o3⟩ := t4.mine n1 n2 n3
        have ti4 := ti3.trans t4
        refine ⟨acc, o1, by rw [← lim_eq]; omega, S4.poke D (.lst (acc ++ [y])), acc ++ [y], ys ++ [w], rfl, ti4.poke hD o2 o3 _, upd_same, o2, o3, ?_, ?_, ?_⟩
        · exact Rws.append (t4.rws (t3.rws (t2.rws ra))) ⟨y, [], rfl, rw', rfl⟩
        · rw [List.length_append, List.length_singleton]; omega
        · have e5 : (fun (zs : List W) (st : Store) => kpR S1.st st (mkL mu (ys ++ [w] ++ zs) st)) = fun zs st => kpR S1.st st (mkL mu (ys ++ w :: zs) st) := by
            funext zs st
            rw [List.append_assoc]; rfl
          rw [e5]
          exact hp
  · have e : i = xs.length := by omega
    subst e
    have hp : Pst K G Wx (RwS K) σ S1 ((go (xs.drop xs.length) Si.st).calm fun zs st => kpR S1.st st (mkL mu (ys ++ zs) st)) Q := hp
    rw [List.drop_length] at hp
    have hp : Pst K G Wx (RwS K) σ S1 (kpR S1.st Si.st (mkL mu (ys ++ []) Si.st)) Q := hp
    by_cases kp : keepL S1.st Si.st
    rotate_left
    · have e0 : kpR S1.st Si.st (mkL mu (ys ++ []) Si.st) = .err := if_neg kp
      rw [e0] at hp
      exact False.elim hp
    have e0 : kpR S1.st Si.st (mkL mu (ys ++ []) Si.st) = mkL mu (ys ++ []) Si.st := if_pos kp
    rw [e0] at hp
    refine .inl ⟨stops Si ti kp, ?_⟩
    rw [List.append_nil] at hp
    exact lc_fin hD ti hH hF hL ra (by omega) hp
end
end Mi

set_option Elab.async false
set_option linter.all false
set_option maxRecDepth 100000
set_option maxHeartbeats 1000000
/-! Mini Python: statements. -/
namespace Mi
open PySem PySem.Spec PyProof.Rows L2
section
variable (K : PySem.W.Frag) (G : Gd) (Wx : WX)
def PstS (D : Ends) (S : S4) (o : Out) : Prop := match o with
  | .nx Γ' st' => ∀ σ' S', S'.st = st' → Tr K G.ca S S' → Re K S' σ' Γ' → D.nx σ' S'.H
  | .rt w st' => ∀ v S', S'.st = st' → Tr K G.ca S S' → RwS K S' v w → D.rt v S'.H
  | .xc c Γ' st' => ∀ σ' S', S'.st = st' → Tr K G.ca S S' → Re K S' σ' Γ' → Wx (.ref (G.ca c)) none σ' S'.H
  | .er => False
def tS (m : MS) : TS := fun D σ H => ∃ (Γ : Env) (S : S4), S.H = H ∧ Ok K G.ca S ∧ Re K S σ Γ ∧ PstS K G Wx D S (evS G.Φ G.sub m Γ S.st)
def tSs (ms : List MS) : TS := fun D σ H => ∃ (Γ : Env) (S : S4), S.H = H ∧ Ok K G.ca S ∧ Re K S σ Γ ∧ PstS K G Wx D S (evSs G.Φ G.sub ms Γ S.st)
end
theorem _root_.L2.PS.imp {X : Cx} {e : Stmt} {t t' : TS} (h : PS X e t) (i : ∀ D σ H, t' D σ H → t D σ H) : PS X e t' := ⟨fun pins s σ H D I hw => h.run pins s σ H D I (i _ _ _ hw)⟩
theorem _root_.L2.PSs.imp {X : Cx} {e : List Stmt} {t t' : TS} (h : PSs X e t) (i : ∀ D σ H, t' D σ H → t D σ H) : PSs X e t' := ⟨fun pins s σ H D I hw => h.run pins s σ H D I (i _ _ _ hw)⟩
section
variable {K : PySem.W.Frag} {G : Gd} {Wx : WX} {σ : L2.St}
theorem PstS.later {D : Ends} {S S1 : S4} {o : Out} (h : PstS K G Wx D S o) (t : Tr K G.ca S S1) : PstS K G Wx D S1 o := by
  cases o with
  | nx Γ st => exact fun σ' S' e t' r => h σ' S' e (t.trans t') r
  | rt w st => exact fun v S' e t' r => h v S' e (t.trans t') r
  | xc c Γ st => exact fun σ' S' e t' r => h σ' S' e (t.trans t') r
  | er => exact h
theorem PstS.next {D : Ends} {S : S4} {Γ : Env} (h : PstS K G Wx D S (.nx Γ S.st)) (k : Ok K G.ca S) (re : Re K S σ Γ) : D.nx σ S.H := h σ S rfl (Tr.refl k) re
theorem thenS_rd {α β : Type} {Rl : S4 → β → α → Prop} {D : Ends} {S : S4} {r : R α} {Γ : Env} {f : α → Store → Out} (re : Re K S σ Γ) (h : PstS K G Wx D S (thenS r Γ f)) :
    Pst K G Wx Rl σ S r (fun v H' => ∃ S' w, S'.H = H' ∧ Tr K G.ca S S' ∧ Rl S' v w ∧ r = .ok w S'.st ∧ PstS K G Wx D S' (f w S'.st)) := by
  cases r with
  | ok w st' =>
    intro v S' e t q
    subst e
    exact ⟨S', w, rfl, t, q, rfl, PstS.later h t⟩
  | exc c st' => exact fun S' e t => h σ S' e t (re.mono t)
  | err => exact h
end
section
variable {X : Cx} {G : Gd} {Wx : WX} {p pos : Pos}
theorem te_lc {mu : Bool} {own : List (Str × Nat)} {t : Tg} {it : It} {ms : List ME} {m : ME} {elt tg iter : Expr} {ifs : List Expr} {scope : Scope} (hc : X.calm = true) (hN : X.N.Nodup) (hi : PI X tg iter (tI X.K G Wx it)) (ok : BlkOk X.N X.env.scope scope own)
    (hg : ∀ (s : Shared) (H : Hp) (C : Addr) (cl : List (Str × Addr)) (fp : List Addr), PG (X.blk s H scope (compEnvC scope cl C X.env) fp) tg (tG X.K G t)) (ht : ∀ (s : Shared) (H : Hp) (C : Addr) (cl : List (Str × Addr)) (fp : List Addr), PTs (X.blk s H scope (compEnvC scope cl C X.env) fp) ifs (tTs X.K G ms))
    (he : ∀ (s : Shared) (H : Hp) (C : Addr) (cl : List (Str × Addr)) (fp : List Addr), PE (X.blk s H scope (compEnvC scope cl C X.env) fp) elt (tE X.K G W0 m)) (hs : ∀ x, foldedSetIterable iter X.env x = pure x) (ho : ∀ i ∈ tgS t, i ∈ own.map (·.2)) :
    PE X (.ListComp elt [⟨tg, iter, ifs, 0⟩] scope pos) (tE X.K G Wx (.lc mu own t it ms m)) := (pe_lc hc hN hi ok hg ht he hs).imp (lc_rd ho)
theorem te_lcP {mu : Bool} {own : List (Str × Nat)} {t : Tg} {it : It} {ms : List ME} {m : ME} {elt tg iter : Expr} {ifs : List Expr} {scope : Scope} (hc : X.calm = true) (hN : X.N.Nodup) (hi : PI X tg iter (tIP X.K G Wx it)) (ok : BlkOk X.N X.env.scope scope own)
    (hg : ∀ (s : Shared) (H : Hp) (C : Addr) (cl : List (Str × Addr)) (fp : List Addr), PG (X.blk s H scope (compEnvC scope cl C X.env) fp) tg (tG X.K G t)) (ht : ∀ (s : Shared) (H : Hp) (C : Addr) (cl : List (Str × Addr)) (fp : List Addr), PTs (X.blk s H scope (compEnvC scope cl C X.env) fp) ifs (tTs X.K G ms))
    (he : ∀ (s : Shared) (H : Hp) (C : Addr) (cl : List (Str × Addr)) (fp : List Addr), PE (X.blk s H scope (compEnvC scope cl C X.env) fp) elt (tE X.K G W0 m)) (hs : ∀ x, foldedSetIterable iter X.env x = pure x) (ho : ∀ i ∈ tgS t, i ∈ own.map (·.2)) :
    PE X (.ListComp elt [⟨tg, iter, ifs, 0⟩] scope pos) (tE X.K G Wx (.lcP mu own t it ms m)) := (pe_lc hc hN hi ok hg ht he hs).imp (lcP_rd ho)
/-- an expression in a statement -/
theorem tS_bind {m : ME} {D : Ends} {σ : L2.St} {Γ : Env} {S : S4} {f : W → Store → Out} (k : Ok X.K G.ca S) (re : Re X.K S σ Γ) (h : PstS X.K G Wx D S (thenS (evE G.Φ G.sub m Γ S.st) Γ f)) {Q' : V → Hp → Prop}
    (g : ∀ v S' w, Tr X.K G.ca S S' → RwS X.K S' v w → Re X.K S' σ Γ → PstS X.K G Wx D S' (f w S'.st) → Q' v S'.H) : tE X.K G Wx m σ S.H Q' :=
  ⟨Γ, S, rfl, k, re, (thenS_rd (Rl := RwS X.K) re h).mono fun v H' ⟨S', w, e, t, r, _, q⟩ => by subst e; exact g v S' w t r (re.mono t) q⟩
theorem tSB_bind {m : ME} {D : Ends} {σ : L2.St} {Γ : Env} {S : S4} {f : W → Store → Out} (k : Ok X.K G.ca S) (re : Re X.K S σ Γ) (h : PstS X.K G Wx D S (thenS (evE G.Φ G.sub m Γ S.st) Γ f)) {Q' : Bool → Hp → Prop} (hb : ∀ w st, (∀ b, w ≠ .bl b) → f w st = .er)
    (g : ∀ (b : Bool) S', Tr X.K G.ca S S' → Re X.K S' σ Γ → PstS X.K G Wx D S' (f (.bl b) S'.st) → Q' b S'.H) : tB' X.K G Wx m σ S.H Q' := by
  refine ⟨Γ, S, rfl, k, re, ?_⟩
  cases q : evE G.Φ G.sub m Γ S.st with
  | err => rw [q] at h; exact h
  | exc c st => rw [q] at h; exact fun S' e t => h σ S' e t (re.mono t)
  | ok w st =>
    rw [q] at h
    have h : PstS X.K G Wx D S (f w st) := h
    cases w with
    | bl b =>
      show Pst X.K G Wx (fun _ (b c : Bool) => b = c) σ S (.ok b st) Q'
      intro b' S' e t eb
      subst e eb
      exact g b' S' t (re.mono t) (PstS.later h t)
    | _ => rw [hb _ st (fun b z => by cases z)] at h; exact False.elim h
theorem ts_ex {e : Expr} {m : ME} (h1 : PE X e (tE X.K G Wx m)) (hs : swapsWith e none pos.line X.env = pure false) : PS X (.Expr e pos) (tS X.K G Wx (.ex m)) :=
  (ps_expr h1 hs).imp fun D σ H ⟨Γ, S, eH, k, re, h⟩ => by
    subst eH
    unfold evS at h
    exact tS_bind k re h fun v S1 w t1 r re1 h1 => h1.next t1.ok re1
theorem ts_as {tg e : Expr} {t : Tg} {m : ME} (h1 : PE X e (tE X.K G Wx m)) (h2 : PG X tg (tG X.K G t)) (hs : swapsWithSole [tg] e pos.line X.env = pure false) (hw : swappedStores [tg] e X.env = pure none) (ha : (assignEach [tg] X.env).map (·.2) = [assign tg X.env]) : PS X (.Assign [tg] e pos) (tS X.K G Wx (.as t m)) :=
  (ps_asg h1 h2 hs hw ha).imp fun D σ H ⟨Γ, S, eH, k, re, h⟩ => by
    subst eH
    unfold evS at h
    refine tS_bind k re h fun v S1 w t1 r re1 h1 => ?_
    cases e : asgT t w Γ with
    | none => rw [e] at h1; exact False.elim h1
    | some Γ' =>
      rw [e] at h1
      exact ⟨Γ, Γ', S1, w, rfl, t1.ok, re1, r, e, fun σ' re' _ => h1.next t1.ok re'⟩
theorem ts_asLc {mu : Bool} {own : List (Str × Nat)} {t : Tg} {it : It} {ms : List ME} {m : ME} {elt tg iter : Expr} {ifs : List Expr} {scope : Scope} {i : Nat} {y : Str} {py spos : Pos} (hc : X.calm = true) (hN : X.N.Nodup) (hy : X.N[i]? = some y) (hyl : X.env.scope.names.lookup y = some .local)
    (hsw : swapsWith (.ListComp elt [⟨tg, iter, ifs, 0⟩] scope pos) (some (.Name y py)) spos.line X.env = pure true) (hi : PI X tg iter (tI X.K G Wx it)) (ok : BlkOk X.N X.env.scope scope own)
    (hg : ∀ (s : Shared) (H : Hp) (C : Addr) (cl : List (Str × Addr)) (fp : List Addr), PG (X.blk s H scope (compEnvC scope cl C X.env) fp) tg (tG X.K G t)) (ht : ∀ (s : Shared) (H : Hp) (C : Addr) (cl : List (Str × Addr)) (fp : List Addr), PTs (X.blk s H scope (compEnvC scope cl C X.env) fp) ifs (tTs X.K G ms))
    (he : ∀ (s : Shared) (H : Hp) (C : Addr) (cl : List (Str × Addr)) (fp : List Addr), PE (X.blk s H scope (compEnvC scope cl C X.env) fp) elt (tE X.K G W0 m)) (hs : ∀ x, foldedSetIterable iter X.env x = pure x) (ho : ∀ i ∈ tgS t, i ∈ own.map (·.2)) :
    PS X (.Assign [.Name y py] (.ListComp elt [⟨tg, iter, ifs, 0⟩] scope pos) spos) (tS X.K G Wx (.as (.nm i) (.lc mu own t it ms m))) :=
  (ps_setLc hc hN hy hyl hsw hi ok hg ht he hs).imp fun D σ H ⟨Γ, S, eH, k, re, h⟩ => by
    subst eH
    unfold evS at h
    refine lc_rd ho σ S.H _ (tS_bind k re h fun v S1 w t1 r re1 h1 => ?_)
    have h1 : PstS X.K G Wx D S1 (.nx (Γ.set i (some w)) S1.st) := by
      have e : asgT (.nm i) w Γ = some (Γ.set i (some w)) := by unfold asgT; rfl
      simp only [e] at h1
      exact h1
    exact h1.next t1.ok (re1.set r)
theorem ts_par2 {i j : Nat} {x y : Str} {a b : Expr} {ms : List ME} {px py pt : Pos} {kt k2 : Nat} {pt2 : Pos} (hc : X.calm = true) (hN : X.N.Nodup) (hi : X.N[i]? = some x) (hj : X.N[j]? = some y) (hij : i ≠ j)
    (hx : X.env.scope.names.lookup x = some .local) (hy : X.env.scope.names.lookup y = some .local) (ha : PA X [a, b] (tA X.K G Wx ms)) (hm : ms.length = 2)
    (hw : swappedStores [.Tuple [.Name x px, .Name y py] kt pt] (.Tuple [a, b] k2 pt2) X.env = pure (some [x, y])) (hs : swapsWithSole [.Tuple [.Name x px, .Name y py] kt pt] (.Tuple [a, b] k2 pt2) pos.line X.env = pure false) :
    PS X (.Assign [.Tuple [.Name x px, .Name y py] kt pt] (.Tuple [a, b] k2 pt2) pos) (tS X.K G Wx (.par [i, j] ms)) :=
  (ps_par hc hN hi hj hij hx hy ha hw hs).imp fun D σ H ⟨Γ, S, eH, k, re, h⟩ => by
    subst eH
    unfold evS at h
    refine ⟨Γ, S, rfl, k, re, (thenS_rd (Rl := RwsS X.K) re h).mono fun vs H' ⟨S1, ws, e, t1, r, eq, h1⟩ => ?_⟩
    subst e
    have hl := evEs_length eq
    rw [hm] at hl
    match ws, hl with
    | [w1, w2], _ =>
      obtain ⟨v1, r1, e1, q1, v2, r2, e2, q2, rn⟩ := r
      rw [show r2 = [] from rn] at e2
      rw [e2] at e1
      refine ⟨v1, v2, e1, ?_⟩
      have e : asgTs ([i, j].map Tg.nm) [w1, w2] Γ = some ((Γ.set i (some w1)).set j (some w2)) := by simp [asgTs, asgT]
      simp only [e] at h1
      exact PstS.next h1 t1.ok (((re.mono t1).set q1).set q2)
theorem ts_par3 {i j l : Nat} {x y z : Str} {a b c : Expr} {ms : List ME} {px py pz pt : Pos} {kt k2 : Nat} {pt2 : Pos} (hc : X.calm = true) (hN : X.N.Nodup) (hi : X.N[i]? = some x) (hj : X.N[j]? = some y) (hl : X.N[l]? = some z) (hij : i ≠ j) (hil : i ≠ l) (hjl : j ≠ l)
    (hx : X.env.scope.names.lookup x = some .local) (hy : X.env.scope.names.lookup y = some .local) (hz : X.env.scope.names.lookup z = some .local) (ha : PA X [a, b, c] (tA X.K G Wx ms)) (hm : ms.length = 3)
    (hw : swappedStores [.Tuple [.Name x px, .Name y py, .Name z pz] kt pt] (.Tuple [a, b, c] k2 pt2) X.env = pure (some [x, y, z])) (hs : swapsWithSole [.Tuple [.Name x px, .Name y py, .Name z pz] kt pt] (.Tuple [a, b, c] k2 pt2) pos.line X.env = pure false) :
    PS X (.Assign [.Tuple [.Name x px, .Name y py, .Name z pz] kt pt] (.Tuple [a, b, c] k2 pt2) pos) (tS X.K G Wx (.par [i, j, l] ms)) :=
  (ps_par3 hc hN hi hj hl hij hil hjl hx hy hz ha hw hs).imp fun D σ H ⟨Γ, S, eH, k, re, h⟩ => by
    subst eH
    unfold evS at h
    refine ⟨Γ, S, rfl, k, re, (thenS_rd (Rl := RwsS X.K) re h).mono fun vs H' ⟨S1, ws, e, t1, r, eq, h1⟩ => ?_⟩
    subst e
    have hl := evEs_length eq
    rw [hm] at hl
    match ws, hl with
    | [w1, w2, w3], _ =>
      obtain ⟨v1, r1, e1, q1, v2, r2, e2, q2, v3, r3, e3, q3, rn⟩ := r
      rw [show r3 = [] from rn] at e3
      rw [e3] at e2
      rw [e2] at e1
      refine ⟨v1, v2, v3, e1, ?_⟩
      have e : asgTs ([i, j, l].map Tg.nm) [w1, w2, w3] Γ = some (((Γ.set i (some w1)).set j (some w2)).set l (some w3)) := by simp [asgTs, asgT]
      simp only [e] at h1
      exact PstS.next h1 t1.ok ((((re.mono t1).set q1).set q2).set q3)
theorem tss_nil : PSs X [] (tSs X.K G Wx []) := pss_nil.imp fun D σ H ⟨Γ, S, eH, k, re, h⟩ => by
  subst eH
  unfold evSs at h
  exact h.next k re
theorem tss_cons {st : Stmt} {rest : List Stmt} {m : MS} {ms : List MS} (h1 : PS X st (tS X.K G Wx m)) (h2 : PSs X rest (tSs X.K G Wx ms)) : PSs X (st :: rest) (tSs X.K G Wx (m :: ms)) :=
  (pss_cons h1 h2).imp fun D σ H ⟨Γ, S, eH, k, re, h⟩ => by
    subst eH
    unfold evSs at h
    refine ⟨Γ, S, rfl, k, re, ?_⟩
    cases q : evS G.Φ G.sub m Γ S.st with
    | nx Γ' st' =>
      rw [q] at h
      intro σ' S' e t r
      subst e
      exact ⟨Γ', S', rfl, t.ok, r, PstS.later (show PstS X.K G Wx D S (evSs G.Φ G.sub ms Γ' S'.st) from h) t⟩
    | rt w st' => rw [q] at h; exact h
    | xc c Γ' st' => rw [q] at h; exact h
    | er => rw [q] at h; exact h
theorem ts_iff {c : Expr} {a b : List Stmt} {m : ME} {ms1 ms2 : List MS} (h0 : PT X c (tB' X.K G Wx m)) (h1 : PSs X a (tSs X.K G Wx ms1)) (h2 : PSs X b (tSs X.K G Wx ms2)) : PS X (.If c a b pos) (tS X.K G Wx (.iff m ms1 ms2)) :=
  (ps_if h0 h1 h2).imp fun D σ H ⟨Γ, S, eH, k, re, h⟩ => by
    subst eH
    unfold evS at h
    refine tSB_bind k re h (fun w st hw => by cases w <;> first | rfl | exact absurd rfl (hw _)) fun b S1 t1 re1 h1 => ?_
    cases b with
    | true => rw [if_pos rfl]; exact ⟨Γ, S1, rfl, t1.ok, re1, h1⟩
    | false => rw [if_neg Bool.false_ne_true]; exact ⟨Γ, S1, rfl, t1.ok, re1, h1⟩
theorem ts_rt {e : Expr} {m : ME} (h1 : PE X e (tE X.K G Wx m)) : PS X (.Return (some e) pos) (tS X.K G Wx (.rt m)) :=
  (ps_ret h1).imp fun D σ H ⟨Γ, S, eH, k, re, h⟩ => by
    subst eH
    unfold evS at h
    exact tS_bind k re h fun v S1 w t1 r re1 h1 => h1 v S1 rfl (Tr.refl t1.ok) r
theorem ts_rtN : PS X (.Return none pos) (tS X.K G Wx .rtN) :=
  ps_retN.imp fun D σ H ⟨Γ, S, eH, k, re, h⟩ => by
    subst eH
    unfold evS at h
    exact h .non S rfl (Tr.refl k) rfl
theorem ts_ps : PS X (.Pass pos) (tS X.K G Wx .ps) :=
  ps_pass.imp fun D σ H ⟨Γ, S, eH, k, re, h⟩ => by
    subst eH
    unfold evS at h
    exact h.next k re
theorem ts_rs {e : Expr} {c : Nat} (hc : X.calm = true) (tk : L2N.Takes X Wx) (he : L2N.PMk X e (fun _ H Q => Q (.ref (G.ca c)) none H)) : PS X (.Raise (some e) none pos) (tS X.K G Wx (.rs c)) :=
  (L2N.ps_raise hc tk he).imp fun D σ H ⟨Γ, S, eH, k, re, h⟩ => by
    subst eH
    unfold evS at h
    exact h σ S rfl (Tr.refl k) re
theorem ts_fo {tg iter : Expr} {body : List Stmt} {t : Tg} {it : It} {ms : List MS} (hp : PassesOwn (model X.prog X.w) X.A X.env X.xe) (hc : X.calm = true) (hi : PI X tg iter (tI X.K G Wx it)) (hg : PG X tg (tG X.K G t)) (hb : PSs X body (tSs X.K G Wx ms))
    (hs : ∀ x, foldedSetIterable iter X.env x = pure x) : PS X (.For tg iter body [] pos) (tS X.K G Wx (.fo t it ms)) :=
  (ps_for hp hc hi hg hb hs).imp fun D σ H ⟨Γ, S, eH, k, re, h⟩ => by
    subst eH
    unfold evS at h
    refine ⟨Γ, S, rfl, k, re, (thenS_rd (Rl := ItOk X.K G) re h).mono fun J H' ⟨S1, xs, e, t1, io, _, h1⟩ => ?_⟩
    subst e
    obtain ⟨goes, stops, hl, yields⟩ := io
    let go : List W → Env → Store → Out := forGo (asgT t) (evSs G.Φ G.sub ms)
    have h1 : PstS X.K G Wx D S1 (go xs Γ S1.st) := h1
    refine ⟨fun i mm σ' H' => mm = xs.length - i ∧ i ≤ xs.length ∧ ∃ (Si : S4) (Γi : Env), Si.H = H' ∧ Tr X.K G.ca S1 Si ∧ Re X.K Si σ' Γi ∧ PstS X.K G Wx D Si (go (xs.drop i) Γi Si.st), ⟨xs.length, by simp, Nat.zero_le _, S1, Γ, rfl, Tr.refl t1.ok, re.mono t1, h1⟩, ?_⟩
    rintro i mm σ' H' ⟨rfl, hi, Si, Γi, eH, ti, rei, hp⟩
    subst eH
    by_cases hlt : i < xs.length
    · refine .inr ⟨goes i Si hlt ti, _, fun σ2 H2 z => z, fun x H2 y => ?_⟩
      have ew : xs[i]? = some xs[i] := List.getElem?_eq_getElem hlt
      obtain ⟨S2, e2, est, t2, rx⟩ := yields i Si x H2 xs[i] ti ew y
      subst e2
      have dr : xs.drop i = xs[i] :: xs.drop (i + 1) := (List.getElem_cons_drop (h := hlt)).symm
      rw [dr] at hp
      have hp : PstS X.K G Wx D Si (forGo (asgT t) (evSs G.Φ G.sub ms) (xs[i] :: xs.drop (i + 1)) Γi Si.st) := hp
      unfold forGo at hp
      cases ea : asgT t xs[i] Γi with
      | none => rw [ea] at hp; exact False.elim hp
      | some Γ' =>
        rw [ea] at hp
        refine ⟨Γi, Γ', S2, xs[i], rfl, t2.ok, rei.mono t2, rx, ea, fun σ2 re2 _ => ⟨Γ', S2, rfl, t2.ok, re2, ?_⟩⟩
        have hp := PstS.later hp t2
        rw [← est] at hp
        have hp : PstS X.K G Wx D S2 (match evSs G.Φ G.sub ms Γ' S2.st with
          | .nx Γ'' st' => go (xs.drop (i + 1)) Γ'' st'
          | o => o) := hp
        cases q : evSs G.Φ G.sub ms Γ' S2.st with
        | nx Γ'' st' =>
          rw [q] at hp
          intro σ3 S3 e3 t3 re3
          subst e3
          exact ⟨xs.length - (i + 1), by omega, rfl, hlt, S3, Γ'', rfl, (ti.trans t2).trans t3, re3, PstS.later hp t3⟩
        | rt w st' => rw [q] at hp; exact hp
        | xc c Γ'' st' => rw [q] at hp; exact hp
        | er => rw [q] at hp; exact hp
    · have e : i = xs.length := by omega
      subst e
      refine .inl ⟨stops Si ti, ?_⟩
      rw [List.drop_length] at hp
      have hp : PstS X.K G Wx D Si (.nx Γi Si.st) := hp
      exact hp.next ti.ok rei
theorem ts_wh {c : Expr} {body : List Stmt} {n : Nat} {m : ME} {ms : List MS} (hp : PassesOwn (model X.prog X.w) X.A X.env X.xe) (h0 : PT X c (tB' X.K G Wx m)) (hb : PSs X body (tSs X.K G Wx ms)) : PS X (.While c body [] pos) (tS X.K G Wx (.wh n m ms)) :=
  (ps_while hp h0 hb).imp fun D σ H ⟨Γ, S, eH, k, re, h⟩ => by
    subst eH
    unfold evS at h
    refine ⟨fun mm σ' H' => ∃ (Si : S4) (Γi : Env), Si.H = H' ∧ Ok X.K G.ca Si ∧ Re X.K Si σ' Γi ∧ PstS X.K G Wx D Si (whGo (evE G.Φ G.sub m) (evSs G.Φ G.sub ms) mm Γi Si.st), ⟨n, S, Γ, rfl, k, re, h⟩, ?_⟩
    rintro mm σ' H' ⟨Si, Γi, eH, ki, rei, hp⟩
    subst eH
    cases mm with
    | zero => exact False.elim hp
    | succ mm =>
      unfold whGo at hp
      refine ⟨Γi, Si, rfl, ki, rei, ?_⟩
      cases q : evE G.Φ G.sub m Γi Si.st with
      | err => rw [q] at hp; exact hp
      | exc c st => rw [q] at hp; exact False.elim hp
      | ok w st =>
        rw [q] at hp
        cases w with
        | bl b =>
          show Pst X.K G Wx (fun _ (b c : Bool) => b = c) σ' Si (.ok b st) _
          intro b' S' e t eb
          subst e eb
          cases b' with
          | true =>
            rw [if_pos rfl]
            have hp : PstS X.K G Wx D Si (match evSs G.Φ G.sub ms Γi S'.st with
              | .nx Γ'' st' => whGo (evE G.Φ G.sub m) (evSs G.Φ G.sub ms) mm Γ'' st'
              | o => o) := hp
            refine ⟨_, fun σ2 H2 z => ⟨mm, Nat.lt_succ_self _, z⟩, Γi, S', rfl, t.ok, rei.mono t, ?_⟩
            cases q2 : evSs G.Φ G.sub ms Γi S'.st with
            | nx Γ'' st' =>
              rw [q2] at hp
              intro σ3 S3 e3 t3 re3
              subst e3
              exact ⟨S3, Γ'', rfl, t3.ok, re3, PstS.later hp (t.trans t3)⟩
            | rt w st' => rw [q2] at hp; exact PstS.later hp t
            | xc c Γ'' st' => rw [q2] at hp; exact PstS.later hp t
            | er => rw [q2] at hp; exact hp
          | false =>
            rw [if_neg Bool.false_ne_true]
            have hp : PstS X.K G Wx D Si (.nx Γi S'.st) := hp
            exact hp σ' S' rfl t (rei.mono t)
        | _ => exact False.elim hp
/-! ### stores into places -/
def S4.setSt (S : S4) (l : Nat) (a : Addr) (o : HO) (ob : O) : S4 := ⟨S.U, S.ρ, S.F, S.st.set l (some ob), upd S.H a o⟩
theorem Tr.setSt {S : S4} {K : PySem.W.Frag} {ca : Cg} (k : Ok K ca S) {l : Nat} {a : Addr} {o : HO} {ob ob0 : O} (h1 : S.st[l]? = some (some ob0)) (h2 : S.ρ[l]? = some a) (hO : Ro K ca (S.setSt l a o ob) a ob) : Tr K ca S (S.setSt l a o ob) := by
  have la : Live S a := ⟨l, ob0, h1, h2⟩
  have hl : l < S.st.length := (List.getElem?_eq_some_iff.mp h1).1
  have Fa := k.apart la
  have old : ∀ (n : Nat) (x : O) (b : Addr), (S.st.set l (some ob))[n]? = some (some x) → S.ρ[n]? = some b → (n = l ∧ x = ob ∧ b = a) ∨ (n ≠ l ∧ S.st[n]? = some (some x)) := fun n x b h3 h4 => by
    by_cases e : l = n
    · subst e
      rw [List.getElem?_set_self hl] at h3
      rw [h2] at h4
      cases h3; cases h4
      exact .inl ⟨rfl, rfl, rfl⟩
    · rw [List.getElem?_set_ne e] at h3
      exact .inr ⟨fun z => e z.symm, h3⟩
  have nea : ∀ (n : Nat) (x : O) (b : Addr), n ≠ l → S.st[n]? = some (some x) → S.ρ[n]? = some b → b ≠ a := fun n x b hn h3 h4 e => hn (k.inj n l x ob0 a h3 h1 (e ▸ h4) h2)
  refine ⟨rfl, fun _ _ h => h, Same.refl _, fun b x h nl => ?_, fun b ⟨n, x, h3, h4⟩ => ?_, fun b x h => ?_, fun _ _ h => .inl h, by show S.st.length ≤ (S.st.set l (some ob)).length; rw [List.length_set]; exact Nat.le_refl _, ⟨by show S.ρ.length = (S.st.set l (some ob)).length; rw [List.length_set]; exact k.len, fun b x h => ?_, k.vw, fun n x b h3 h4 => ?_, fun n n' x x' b h3 h4 h5 h6 => ?_, k.tx, k.tt⟩⟩
  · have ne : b ≠ a := fun e => nl (e ▸ la)
    show upd S.H a o b = some x
    rw [upd_ne ne]; exact h
  · rcases old n x b h3 h4 with ⟨_, _, e⟩ | ⟨_, h⟩
    · exact .inl (e ▸ la)
    · exact .inl ⟨n, x, h, h4⟩
  · by_cases e : b = a
    · exact ⟨o, by show upd S.H a o b = some o; rw [e]; exact upd_same⟩
    · exact ⟨x, by show upd S.H a o b = some x; rw [upd_ne e]; exact h⟩
  · have h : S.F b = some x := h
    have ne : b ≠ a := fun e => by rw [e, Fa] at h; cases h
    show upd S.H a o b = some x
    rw [upd_ne ne]; exact k.sub b x h
  · rcases old n x b h3 h4 with ⟨e1, e2, e3⟩ | ⟨hn, h⟩
    · subst e1 e2 e3
      exact ⟨Fa, hO⟩
    · obtain ⟨z1, z2⟩ := k.liv n x b h h4
      exact ⟨z1, Ro.mono (S := S) (S' := S.setSt l a o ob) (fun v w h => h) (fun v w h => h) (show upd S.H a o b = S.H b from upd_ne (nea n x b hn h h4)) (Same.refl _) z2⟩
  · rcases old n x b h3 h5 with ⟨e1, _, e3⟩ | ⟨hn, h⟩
    · rcases old n' x' b h4 h6 with ⟨e4, _, _⟩ | ⟨hn', h'⟩
      · exact e1.trans e4.symm
      · exact absurd e3 (nea n' x' b hn' h' h6)
    · rcases old n' x' b h4 h6 with ⟨_, _, e5⟩ | ⟨hn', h'⟩
      · exact absurd e5 (nea n x b hn h h5)
      · exact k.inj n n' x x' b h h' h5 h6
theorem isLoc_is {st : Store} {w : W} {l : Nat} (h : isLoc st w = some l) : ∃ xs, w = .loc l ∧ st[l]? = some (some (.lst xs)) := by
  cases w with
  | loc n =>
    unfold isLoc at h
    cases q : st[n]? with
    | none => simp only [q] at h; cases h
    | some ob => cases ob with
      | none => simp only [q] at h; cases h
      | some ob => cases ob with
        | lst xs => simp only [q] at h; cases h; exact ⟨xs, rfl, q⟩
        | _ => simp only [q] at h; cases h
  | _ => cases h
theorem ts_app {o e : Expr} {mo m : ME} {apos cpos : Pos} (h1 : PE X o (tE X.K G Wx mo)) (h2 : PE X e (tE X.K G Wx m)) (hbase : attributeBase o "append" X.env (eval o X.env) = eval o X.env) (hline : (apos.endLine == cpos.line) = true) (hse : starEach [e] X.env = [(false, eval e X.env)]) (hs : swapsWith (.Call (.Attribute o "append" apos) [e] [] cpos) none pos.line X.env = pure false) :
    PS X (.Expr (.Call (.Attribute o "append" apos) [e] [] cpos) pos) (tS X.K G Wx (.app mo m)) :=
  (ps_expr (pe_bm PySem.F.plainAttrs_list PySem.F.slot_list_append PySem.F.type_list_append mt_append h1 (pa_cons h2 pa_nil hse) hbase (by rw [hse]; rfl) hline hse rfl) hs).imp fun D σ H ⟨Γ, S, eH, k, re, h⟩ => by
    subst eH
    unfold evS at h
    refine ⟨Γ, S, rfl, k, re, (thenS_rd (Rl := RwS X.K) re h).mono fun v H' ⟨S1, w1, e, t1, r1, _, h1⟩ => ?_⟩
    subst e
    cases hl : isLoc S1.st w1 with
    | none => rw [hl] at h1; exact False.elim h1
    | some l =>
      rw [hl] at h1
      obtain ⟨xs, rfl, hx⟩ := isLoc_is hl
      obtain ⟨a, ev, ea⟩ := r1
      obtain ⟨_, vs, hv, lv, rv⟩ := t1.ok.liv l _ a hx ea
      subst ev
      refine ⟨.inl ⟨rfl, vs, SqL.of hv⟩, ?_⟩
      have re1 := re.mono t1
      refine tS_bind t1.ok re1 h1 fun y S2 w2 t2 r2 re2 h2 => ?_
      cases hx2 : S2.st[l]? with
      | none => simp only [hx2] at h2; exact False.elim h2
      | some ob => cases ob with
        | none => simp only [hx2] at h2; exact False.elim h2
        | some ob => cases ob with
          | lst ys =>
            simp only [hx2] at h2
            have ea2 := t2.ext l a ea
            obtain ⟨_, us, hu, lu, ru⟩ := t2.ok.liv l _ a hx2 ea2
            by_cases hlen : ys.length < lim
            · rw [if_pos hlen] at h2
              have ll := ru.length
              refine ⟨a, us, y, rfl, rfl, hu, by rw [← lim_eq]; omega, ?_⟩
              have t3 : Tr X.K G.ca S2 (S2.setSt l a (.lst (us ++ [y])) (.lst (ys ++ [w2]))) := Tr.setSt t2.ok hx2 ea2 ⟨us ++ [y], upd_same, by rw [List.length_append, List.length_singleton]; omega, Rws.append ru ⟨y, [], rfl, r2, rfl⟩⟩
              exact h2 σ (S2.setSt l a (.lst (us ++ [y])) (.lst (ys ++ [w2]))) rfl t3 (re2.mono t3)
            · rw [if_neg hlen] at h2; exact False.elim h2
          | _ => simp only [hx2] at h2; exact False.elim h2
theorem setL_rd {S : S4} {st' : Store} {o i v : W} {x y z : V} {K : PySem.W.Frag} (k : Ok K G.ca S) (ro : RwS K S x o) (ri : RwS K S y i) (rv : RwS K S z v) (e : setL S.st o i v = some st') {Q : Hp → Prop}
    (q : ∀ S' : S4, S'.st = st' → Tr K G.ca S S' → Q S'.H) : rSetL x y z S.H Q := by
  cases o with
  | loc l => cases i with
    | int n =>
      unfold setL at e
      obtain ⟨a, ex, ea⟩ := ro
      cases h : S.st[l]? with
      | none => simp only [h] at e; cases e
      | some ob => cases ob with
        | none => simp only [h] at e; cases e
        | some ob => cases ob with
          | lst xs =>
            simp only [h] at e
            obtain ⟨_, vs, hv, lv, rvs⟩ := k.liv l _ a h ea
            cases hj : ixN xs.length n with
            | none => rw [hj] at e; cases e
            | some j =>
              rw [hj] at e
              cases e
              refine ⟨a, vs, n, j, ex, ri, hv, by rw [rvs.length]; exact hj, ?_⟩
              exact q (S.setSt l a (.lst (vs.set j z)) (.lst (xs.set j v))) rfl (Tr.setSt k h ea ⟨vs.set j z, upd_same, by rw [List.length_set]; exact lv, Rws.set rv j rvs⟩)
          | _ => simp only [h] at e; cases e
    | _ => cases e
  | _ => cases e
theorem ts_si {o i e : Expr} {mo mi m : ME} {tpos : Pos} (h1 : PE X o (tE X.K G Wx mo)) (h2 : PE X i (tE X.K G Wx mi)) (h3 : PE X e (tE X.K G Wx m))
    (ha : ∀ v, assign (.Subscript o i tpos) X.env v = (do
      let ov ← holding [v] (eval o X.env)
      let iv ← holding [v, ov] (eval i X.env)
      standAt tpos
      holding [v, ov, iv] (setItem ov iv v)
      release [v, ov, iv] []))
    (hs : swapsWithSole [.Subscript o i tpos] e pos.line X.env = pure false) (hw : swappedStores [.Subscript o i tpos] e X.env = pure none) (has : (assignEach [.Subscript o i tpos] X.env).map (·.2) = [assign (.Subscript o i tpos) X.env]) :
    PS X (.Assign [.Subscript o i tpos] e pos) (tS X.K G Wx (.si mo mi m)) :=
  (ps_asg h3 (pg_sub h1 h2 set_list ha) hs hw has).imp fun D σ H ⟨Γ, S, eH, k, re, h⟩ => by
    subst eH
    unfold evS at h
    refine tS_bind k re h fun z S1 wz t1 r1 re1 h1 => ?_
    refine tS_bind t1.ok re1 h1 fun x S2 wo t2 r2 re2 h2 => ?_
    refine tS_bind t2.ok re2 h2 fun y S3 wi t3 r3 re3 h3 => ?_
    cases e : setL S3.st wo wi wz with
    | none => rw [e] at h3; exact False.elim h3
    | some st' =>
      rw [e] at h3
      exact setL_rd t3.ok (t3.rw r2) r3 (t3.rw (t2.rw r1)) e fun S' e' t => h3 σ S' e' t (re3.mono t)
/-! ### a place that stays from now on -/
def S4.frz (S : S4) (l : Nat) (a : Addr) (vs : List V) : S4 := ⟨S.U, S.ρ, upd S.F a (.lst vs), S.st.set l none, S.H⟩
theorem Tr.frz {S : S4} {K : PySem.W.Frag} {ca : Cg} (k : Ok K ca S) {l : Nat} {a : Addr} {vs : List V} {xs : List W} (h1 : S.st[l]? = some (some (.lst xs))) (h2 : S.ρ[l]? = some a) (hv : S.H a = some (.lst vs)) : Tr K ca S (S.frz l a vs) := by
  have la : Live S a := ⟨l, _, h1, h2⟩
  have hl : l < S.st.length := (List.getElem?_eq_some_iff.mp h1).1
  have Fa := k.apart la
  have sF : Same S.F (upd S.F a (.lst vs)) := same_upd Fa
  have old : ∀ (n : Nat) (x : O) (b : Addr), (S.st.set l none)[n]? = some (some x) → S.ρ[n]? = some b → S.st[n]? = some (some x) ∧ b ≠ a := fun n x b h3 h4 => by
    by_cases e : l = n
    · subst e
      rw [List.getElem?_set_self hl] at h3
      cases h3
    · rw [List.getElem?_set_ne e] at h3
      exact ⟨h3, fun z => e (k.inj n l x _ a h3 h1 (z ▸ h4) h2).symm⟩
  refine ⟨rfl, fun _ _ h => h, sF, fun b x h nl => h, fun b ⟨n, x, h3, h4⟩ => .inl ⟨n, x, (old n x b h3 h4).1, h4⟩, fun b x h => ⟨x, h⟩, fun b x h => ?_, by show S.st.length ≤ (S.st.set l none).length; rw [List.length_set]; exact Nat.le_refl _,
    ⟨by show S.ρ.length = (S.st.set l none).length; rw [List.length_set]; exact k.len, fun b x h => ?_, fun b h => ?_, fun n x b h3 h4 => ?_, fun n n' x x' b h3 h4 h5 h6 => k.inj n n' x x' b (old n x b h3 h5).1 (old n' x' b h4 h6).1 h5 h6, k.tx, k.tt⟩⟩
  · by_cases e : b = a
    · exact .inr (.inr (e ▸ la))
    · rw [show (S.frz l a vs).F b = S.F b from upd_ne e] at h; exact .inl h
  · by_cases e : b = a
    · subst e
      rw [show (S.frz l b vs).F b = some (.lst vs) from upd_same] at h
      cases h; exact hv
    · rw [show (S.frz l a vs).F b = S.F b from upd_ne e] at h; exact k.sub b x h
  · obtain ⟨x, h⟩ := k.vw b h
    exact ⟨x, sF _ _ h⟩
  · obtain ⟨h3, ne⟩ := old n x b h3 h4
    obtain ⟨z1, z2⟩ := k.liv n x b h3 h4
    exact ⟨by show upd S.F a (.lst vs) b = none; rw [upd_ne ne]; exact z1, Ro.mono (S := S) (S' := S.frz l a vs) (fun v w h => Rw.mono (fun _ _ q => q) sF v w h) (fun v w h => Rws.mono (fun _ _ q => q) sF v w h) rfl sF z2⟩
theorem tss_fz {ss : List Stmt} {i : Nat} {ms : List MS} (h1 : PSs X ss (tSs X.K G Wx ms)) : PSs X ss (tSs X.K G Wx (.fz i :: ms)) :=
  h1.imp fun D σ H ⟨Γ, S, eH, k, re, h⟩ => by
    subst eH
    unfold evSs evS at h
    cases q : Γ[i]? with
    | none => simp only [q] at h; exact False.elim h
    | some ow => cases ow with
      | none => simp only [q] at h; exact False.elim h
      | some w => cases w with
        | loc l =>
          simp only [q] at h
          cases hx : S.st[l]? with
          | none => simp only [hx] at h; exact False.elim h
          | some ob => cases ob with
            | none => simp only [hx] at h; exact False.elim h
            | some ob => cases ob with
              | lst xs =>
                simp only [hx] at h
                obtain ⟨v, ev, a, e1, ea⟩ := re.at_ i _ q
                obtain ⟨_, vs, hv, lv, rv⟩ := k.liv l _ a hx ea
                have t := Tr.frz k hx ea hv
                have Fa := k.apart ⟨l, _, hx, ea⟩
                have re2 := re.mono t
                have hi : i < Γ.length := (List.getElem?_eq_some_iff.mp q).1
                refine ⟨Γ.set i (some (.lst .fz xs)), S.frz l a vs, rfl, t.ok, ⟨by rw [List.length_set]; exact re2.len, fun j x hj => ?_⟩, PstS.later h t⟩
                by_cases e : i = j
                · subst e
                  rw [List.getElem?_set_self hi] at hj
                  cases hj
                  refine ⟨v, ev, a, vs, e1, ⟨upd_same, fun u => ?_⟩, lv, t.rws rv⟩
                  obtain ⟨y, hy⟩ := k.vw a u
                  rw [Fa] at hy; cases hy
                · rw [List.getElem?_set_ne e] at hj
                  exact re2.at_ j x hj
              | _ => simp only [hx] at h; exact False.elim h
        | _ => simp only [q] at h; exact False.elim h
end
end Mi

set_option Elab.async false
set_option linter.all false
set_option maxRecDepth 100000
set_option maxHeartbeats 1000000
/-! Mini Python: instances, fields, methods; dicts by numbers; lists that may change. -/
namespace Mi
open PySem PySem.Spec PyProof.Rows L2
section
variable {K : PySem.W.Frag} {ca : Cg} {S : S4}
/-! ### fields -/
theorem Rfs.get : ∀ {fv : List (Str × V)} {fs : List (Str × W)} {f : Str} {w : W}, Rfs K S fv fs → fs.lookup f = some w → ∃ v, fv.lookup f = some v ∧ RwS K S v w
  | fv, [], f, w, h, e => by cases e
  | fv, (g, x) :: r, f, w, h, e => by
    obtain ⟨v, rv, e1, q, t⟩ := h
    subst e1
    rw [List.lookup_cons] at e ⊢
    cases z : f == g with
    | true => rw [z] at e; cases e; exact ⟨v, rfl, q⟩
    | false => rw [z] at e; exact Rfs.get t e
theorem Rfs.none : ∀ {fv : List (Str × V)} {fs : List (Str × W)} {f : Str}, Rfs K S fv fs → fs.lookup f = none → fv.lookup f = none
  | fv, [], f, h, e => by rw [show fv = [] from h]; rfl
  | fv, (g, x) :: r, f, h, e => by
    obtain ⟨v, rv, e1, q, t⟩ := h
    subst e1
    rw [List.lookup_cons] at e ⊢
    cases z : f == g with
    | true => rw [z] at e; cases e
    | false => rw [z] at e; exact Rfs.none t e
theorem Rfs.length : ∀ {fv : List (Str × V)} {fs : List (Str × W)}, Rfs K S fv fs → fv.length = fs.length
  | fv, [], h => by rw [show fv = [] from h]; rfl
  | fv, (g, x) :: r, h => by
    obtain ⟨v, rv, e1, q, t⟩ := h
    rw [e1, List.length_cons, List.length_cons, Rfs.length t]
theorem Rfs.put {f : Str} {v : V} {w : W} (h0 : RwS K S v w) : ∀ {fv : List (Str × V)} {fs : List (Str × W)}, Rfs K S fv fs → Rfs K S (putF f v fv) (putFW f w fs)
  | fv, [], h => by
    rw [show fv = [] from h]
    exact ⟨v, [], rfl, h0, rfl⟩
  | fv, (g, x) :: r, h => by
    obtain ⟨v', rv, e1, q, t⟩ := h
    subst e1
    unfold putF putFW
    by_cases z : g = f
    · rw [if_pos z, if_pos z]
      exact ⟨v, rv, by rw [z], h0, t⟩
    · rw [if_neg z, if_neg z]
      exact ⟨v', putF f v rv, rfl, q, Rfs.put h0 t⟩
theorem putFW_len (f : Str) (w : W) : ∀ fs : List (Str × W), (putFW f w fs).length ≤ fs.length + 1
  | [] => by simp [putFW]
  | (g, x) :: r => by
    have := putFW_len f w r
    unfold putFW
    split <;> simp only [List.length_cons] <;> omega
/-! ### dicts -/
theorem Rks.get : ∀ {kv : List (Key × V)} {ks : List (Int × W)} {k : Int}, Rks K S kv ks → (valV kv (Sum.inl k) = none ∧ dlk ks k = none) ∨ ∃ v w, valV kv (Sum.inl k) = some v ∧ dlk ks k = some w ∧ RwS K S v w
  | kv, [], k, h => by
    rw [show kv = [] from h]
    exact .inl ⟨rfl, rfl⟩
  | kv, (j, x) :: r, k, h => by
    obtain ⟨v, rv, e1, q, t⟩ := h
    subst e1
    by_cases z : j = k
    · subst z
      refine .inr ⟨v, x, valV_pos rfl, ?_, q⟩
      simp [dlk, List.find?_cons]
    · have z2 : ¬ (Sum.inl j : Key) = Sum.inl k := fun e => z (Sum.inl.inj e)
      have e2 : dlk ((j, x) :: r) k = dlk r k := by simp [dlk, List.find?_cons, z]
      rw [valV_neg (p := ((Sum.inl j : Key), v)) z2, e2]
      exact Rks.get t
theorem Rks.any : ∀ {kv : List (Key × V)} {ks : List (Int × W)} {k : Int}, Rks K S kv ks → (kv.any fun p => decide (p.1 = (Sum.inl k : Key))) = ks.any fun p => decide (p.1 = k)
  | kv, [], k, h => by rw [show kv = [] from h]; rfl
  | kv, (j, x) :: r, k, h => by
    obtain ⟨v, rv, e1, q, t⟩ := h
    subst e1
    rw [List.any_cons, List.any_cons, Rks.any t]
    congr 1
    by_cases z : j = k
    · subst z; simp
    · rw [decide_eq_false z, decide_eq_false fun e => z (Sum.inl.inj e)]
theorem Rks.length : ∀ {kv : List (Key × V)} {ks : List (Int × W)}, Rks K S kv ks → kv.length = ks.length
  | kv, [], h => by rw [show kv = [] from h]; rfl
  | kv, (j, x) :: r, h => by
    obtain ⟨v, rv, e1, q, t⟩ := h
    rw [e1, List.length_cons, List.length_cons, Rks.length t]
theorem Rks.map {k : Int} {v : V} {w : W} (h0 : RwS K S v w) : ∀ {kv : List (Key × V)} {ks : List (Int × W)}, Rks K S kv ks → Rks K S (kv.map fun p => if p.1 = Sum.inl k then (p.1, v) else p) (ks.map fun p => if p.1 = k then (p.1, w) else p)
  | kv, [], h => by rw [show kv = [] from h]; rfl
  | kv, (j, x) :: r, h => by
    obtain ⟨v', rv, e1, q, t⟩ := h
    subst e1
    rw [List.map_cons, List.map_cons]
    by_cases z : j = k
    · subst z
      rw [if_pos rfl, if_pos rfl]
      exact ⟨v, _, rfl, h0, Rks.map h0 t⟩
    · rw [if_neg (fun e => z (Sum.inl.inj e)), if_neg z]
      exact ⟨v', _, rfl, q, Rks.map h0 t⟩
theorem Rks.snoc {k : Int} {v : V} {w : W} (h0 : RwS K S v w) : ∀ {kv : List (Key × V)} {ks : List (Int × W)}, Rks K S kv ks → Rks K S (kv ++ [(Sum.inl k, v)]) (ks ++ [(k, w)])
  | kv, [], h => by
    rw [show kv = [] from h]
    exact ⟨v, [], rfl, h0, rfl⟩
  | kv, (j, x) :: r, h => by
    obtain ⟨v', rv, e1, q, t⟩ := h
    subst e1
    exact ⟨v', _, rfl, q, Rks.snoc h0 t⟩
theorem Rks.put {k : Int} {v : V} {w : W} (h0 : RwS K S v w) {kv : List (Key × V)} {ks : List (Int × W)} (h : Rks K S kv ks) : Rks K S (putK kv (Sum.inl k) v) (dptW k w ks) := by
  unfold putK dptW
  rw [Rks.any h]
  split
  · exact Rks.map h0 h
  · exact Rks.snoc h0 h
theorem putK_len (k : Key) (v : V) (kv : List (Key × V)) : (putK kv k v).length ≤ kv.length + 1 := by
  unfold putK
  split
  · rw [List.length_map]; omega
  · rw [List.length_append]; simp
/-! ### places -/
/-- something untracked is laid -/
def S4.hid (S : S4) (p : Addr) (o : HO) : S4 := ⟨S.U, S.ρ, S.F, S.st, upd S.H p o⟩
theorem Ok.hid (k : Ok K ca S) {p : Addr} {o : HO} (hp : S.H p = none) : Tr K ca S (S.hid p o) := by
  have nl : ∀ b, Live S b → b ≠ p := fun b l e => by
    obtain ⟨x, h⟩ := k.tracked l
    rw [e, hp] at h; cases h
  refine ⟨rfl, fun _ _ h => h, Same.refl _, fun b x h _ => same_upd hp b x h, fun b l => .inl l, fun b x h => ⟨x, same_upd hp b x h⟩, fun b x h => .inl h, Nat.le_refl _, ⟨k.len, fun b x h => same_upd hp b x (k.sub b x h), k.vw, fun n ob a h1 h2 => ?_, k.inj, k.tx, k.tt⟩⟩
  obtain ⟨z1, z2⟩ := k.liv n ob a h1 h2
  exact ⟨z1, Ro.mono (S := S) (S' := S.hid p o) (fun v w h => h) (fun v w h => h) (show upd S.H p o a = S.H a from upd_ne (nl a ⟨n, ob, h1, h2⟩)) (Same.refl _) z2⟩
theorem dctL_rw {v : V} {x : W} {kvs : List (Int × W)} (k : Ok K ca S) (h : RwS K S v x) (e : dctL S.st x = some kvs) : ∃ l a kv, x = .loc l ∧ v = .ref a ∧ S.ρ[l]? = some a ∧ S.st[l]? = some (some (.dct kvs)) ∧ S.H a = some (.dK kv) ∧ kv.length ≤ 1000 ∧ Rks K S kv kvs := by
  cases x with
  | loc n =>
    obtain ⟨a, e1, q⟩ := h
    unfold dctL at e
    cases h1 : S.st[n]? with
    | none => simp only [h1] at e; cases e
    | some ob => cases ob with
      | none => simp only [h1] at e; cases e
      | some ob => cases ob with
        | dct ks =>
          simp only [h1] at e
          cases e
          obtain ⟨_, kv, h2, l, r⟩ := k.liv n _ a h1 q
          exact ⟨n, a, kv, rfl, e1, q, h1, h2, l, r⟩
        | _ => simp only [h1] at e; cases e
  | _ => cases e
/-- an instance behind a value -/
theorem ins_rw {v : V} {l c : Nat} {fs : List (Str × W)} (k : Ok K ca S) (h : RwS K S v (.loc l)) (e : S.st[l]? = some (some (.ins c fs))) : ∃ a dx fv, v = .ref a ∧ S.ρ[l]? = some a ∧ S.H a = some (.ins (ca c) dx fv) ∧ Rfs K S fv fs := by
  obtain ⟨a, e1, q⟩ := h
  obtain ⟨_, dx, fv, h2, r⟩ := k.liv l _ a e q
  exact ⟨a, dx, fv, e1, q, h2, r⟩
theorem lst_in {n : Nat} {w : W} (e : isFl w = true) {v : V} (h : RwS K S v w) : flatV v = true := by
  cases w with
  | non => rw [show v = .non from h]; rfl
  | bl b => rw [show v = .bl b from h]; rfl
  | int b => rw [show v = .int b from h]; rfl
  | str b => rw [show v = .str b from h]; rfl
  | _ => cases e
theorem flat_eq {w x : W} (e : isFl w = true) (f : isFl x = true) {v u : V} (h : RwS K S v w) (g : RwS K S u x) : eqV v u = eqW w x := by
  cases w with
  | non => rw [show v = .non from h]; cases x with
    | non => rw [show u = .non from g]; simp [eqV, eqW]
    | bl b => rw [show u = .bl b from g]; simp [eqV, eqW]
    | int b => rw [show u = .int b from g]; simp [eqV, eqW]
    | str b => rw [show u = .str b from g]; simp [eqV, eqW]
    | _ => cases f
  | bl a => rw [show v = .bl a from h]; cases x with
    | non => rw [show u = .non from g]; simp [eqV, eqW]
    | bl b => rw [show u = .bl b from g]; simp [eqV, eqW]
    | int b => rw [show u = .int b from g]; simp [eqV, eqW]
    | str b => rw [show u = .str b from g]; simp [eqV, eqW]
    | _ => cases f
  | int a => rw [show v = .int a from h]; cases x with
    | non => rw [show u = .non from g]; simp [eqV, eqW]
    | bl b => rw [show u = .bl b from g]; simp [eqV, eqW]
    | int b => rw [show u = .int b from g]; simp [eqV, eqW]
    | str b => rw [show u = .str b from g]; simp [eqV, eqW]
    | _ => cases f
  | str a => rw [show v = .str a from h]; cases x with
    | non => rw [show u = .non from g]; simp [eqV, eqW]
    | bl b => rw [show u = .bl b from g]; simp [eqV, eqW]
    | int b => rw [show u = .int b from g]; simp [eqV, eqW]
    | str b => rw [show u = .str b from g]; simp [eqV, eqW]
    | _ => cases f
  | _ => cases e
end
section
variable {X : Cx} {G : Gd} {Wx : WX} {p pos : Pos}
/-! ### reading a field -/
theorem te_fld {a : Expr} {m : ME} {f : Str} {cs : List Nat} (h1 : PE X a (tE X.K G Wx m)) (hb : attributeBase a f X.env (eval a X.env) = eval a X.env) (hc : ∀ c ∈ cs, Cls X.K (G.ca c) ∧ NoAttr X.K (G.ca c) f) : PE X (.Attribute a f pos) (tE X.K G Wx (.fld m f cs)) :=
  (pe_fld h1 hb).imp fun σ H Q ⟨Γ, S, eH, k, re, h⟩ => by
    subst eH
    unfold evE at h
    refine tE_bind k re h fun v S1 w t1 r re1 h2 => ?_
    obtain ⟨w', e, h3⟩ := Pst.lift h2
    clear h2 h1
    cases w with
    | loc l =>
      unfold fldW at e
      cases q : S1.st[l]? with
      | none => simp only [q] at e; cases e
      | some ob => cases ob with
        | none => simp only [q] at e; cases e
        | some ob => cases ob with
          | ins c fs =>
            simp only [q] at e
            by_cases hm : c ∈ cs
            · rw [if_pos hm] at e
              obtain ⟨a', dx, fv, e1, _, h2, rf⟩ := ins_rw t1.ok r q
              obtain ⟨u, e2, ru⟩ := rf.get e
              obtain ⟨c1, c2⟩ := hc c hm
              exact ⟨a', G.ca c, dx, fv, u, e1, h2, c1, c2, e2, Pst.done h3 t1.ok ru⟩
            · rw [if_neg hm] at e; cases e
          | _ => simp only [q] at e; cases e
    | _ => cases e
/-! ### a field stored -/
theorem ts_sfld {o e : Expr} {mo m : ME} {f : Str} {cs : List Nat} {p1 : Pos} (h1 : PE X o (tE X.K G Wx mo)) (h2 : PE X e (tE X.K G Wx m)) (hs : swapsWith e (some (.Attribute o f p1)) pos.line X.env = pure false) (hc : ∀ c ∈ cs, Cls X.K (G.ca c) ∧ NoAttr X.K (G.ca c) f) :
    PS X (.Assign [.Attribute o f p1] e pos) (tS X.K G Wx (.sfld mo f cs m)) :=
  (ps_fld h1 h2 hs).imp fun D σ H ⟨Γ, S, eH, k, re, h⟩ => by
    subst eH
    unfold evS at h
    refine tS_bind k re h fun z S1 wz t1 r1 re1 h1 => ?_
    refine tS_bind t1.ok re1 h1 fun x S2 wo t2 r2 re2 h2 => ?_
    cases e : sfldW S2.st wo f cs wz with
    | none => rw [e] at h2; exact False.elim h2
    | some st' =>
      rw [e] at h2
      cases wo with
      | loc l =>
        unfold sfldW at e
        cases q : S2.st[l]? with
        | none => simp only [q] at e; cases e
        | some ob => cases ob with
          | none => simp only [q] at e; cases e
          | some ob => cases ob with
            | ins c fs =>
              simp only [q] at e
              by_cases hm : c ∈ cs ∧ fs.length < 900
              · rw [if_pos hm] at e
                cases e
                obtain ⟨a', dx, fv, e1, ea, hH, rf⟩ := ins_rw t2.ok r2 q
                obtain ⟨c1, c2⟩ := hc c hm.1
                refine ⟨a', G.ca c, dx, fv, e1, hH, c1, c2, by rw [rf.length]; omega, ?_⟩
                have t3 : Tr X.K G.ca S2 (S2.setSt l a' (.ins (G.ca c) dx (putF f z fv)) (.ins c (putFW f wz fs))) := Tr.setSt t2.ok q ea ⟨dx, putF f z fv, upd_same, Rfs.mono (S := S2) (S' := S2.setSt l a' (.ins (G.ca c) dx (putF f z fv)) (.ins c (putFW f wz fs))) (fun v w h => h) (Rfs.put (t2.rw r1) rf)⟩
                exact h2 σ (S2.setSt l a' (.ins (G.ca c) dx (putF f z fv)) (.ins c (putFW f wz fs))) rfl t3 (re2.mono t3)
              · rw [if_neg hm] at e; cases e
            | _ => simp only [q] at e; cases e
      | _ => cases e
/-! ### dicts by numbers -/
theorem te_dct0 : PE X (.Dict [] [] pos) (tE X.K G Wx .dct0) :=
  pe_dnewK.imp fun σ H Q ⟨Γ, S, eH, k, re, h⟩ => by
    subst eH
    unfold evE at h
    intro p hp
    have t := k.alloc (p := p) (o := HO.dK []) (ob := .dct []) hp fun S' e1 e2 _ m => ⟨[], e2, by decide, rfl⟩
    refine h (.ref p) (S.alloc p (.dK []) (.dct [])) rfl t ⟨p, rfl, ?_⟩
    show (S.ρ ++ [p])[S.st.length]? = some p
    rw [← k.len]
    simp
theorem te_dget {a b : Expr} {m1 m2 : ME} (hu : X.A.units + 1 < cLine) (h1 : PE X a (tE X.K G Wx m1)) (h2 : PE X b (tE X.K G Wx m2)) (hs : NoSl b) : PE X (.Subscript a b pos) (tE X.K G Wx (.dget m1 m2)) :=
  (pe_dget hu h1 h2 hs).imp fun σ H Q ⟨Γ, S, eH, k, re, h⟩ => by
    subst eH
    unfold evE at h
    refine tE_bind k re h fun v1 S1 w1 t1 r1 re1 h1 => ?_
    refine tE_bind t1.ok re1 h1 fun v2 S2 w2 t2 r2 re2 h2 => ?_
    obtain ⟨w, e, h3⟩ := Pst.lift h2
    clear h2
    cases w2 with
    | int i =>
      have e : (dctL S2.st w1).bind (fun kvs => dlk kvs i) = some w := e
      cases q : dctL S2.st w1 with
      | none => rw [q] at e; cases e
      | some kvs =>
        rw [q] at e
        have e : dlk kvs i = some w := e
        obtain ⟨l, a', kv, e1, e2, _, _, hH, _, rk⟩ := dctL_rw t2.ok (t2.rw r1) q
        rcases rk.get (k := i) with ⟨_, z⟩ | ⟨v, w', z1, z2, z3⟩
        · rw [z] at e; cases e
        · rw [z2] at e
          cases e
          refine ⟨a', v, e2, ?_, Pst.done h3 t2.ok z3⟩
          have g := DGet.k (k := Sum.inl i) hH
          rw [z1] at g
          rw [show v2 = V.int i from r2]
          exact g
    | _ => cases e
theorem te_din {a b : Expr} {m1 m2 : ME} (hu : X.A.units + 1 < cLine) (neg : Bool) (h1 : PE X a (tE X.K G Wx m1)) (h2 : PE X b (tE X.K G Wx m2)) (hp : behindInMarks (if neg = true then .NotIn else .In) b = false) :
    PE X (.Compare a [if neg = true then .NotIn else .In] [b] pos) (tE X.K G Wx (.din neg m1 m2)) := by
  have rd : ∀ (S : S4) (σ : L2.St) (Q : VK) (v1 v2 : V) (w1 w2 : W), Ok X.K G.ca S → RwS X.K S v1 w1 → RwS X.K S v2 w2 → Pst X.K G Wx (RwS X.K) σ S (liftO (dinW S.st neg w1 w2) S.st) Q → ∃ a o, v2 = .ref a ∧ DGet S.H a v1 o ∧ Q (.bl (bif neg then !o.isSome else o.isSome)) S.H := fun S σ Q v1 v2 w1 w2 k r1 r2 h => by
    obtain ⟨w, e, h3⟩ := Pst.lift h
    cases w1 with
    | int i =>
      have e : (dctL S.st w2).map (fun kvs => W.bl (bif neg then !(dlk kvs i).isSome else (dlk kvs i).isSome)) = some w := e
      cases q : dctL S.st w2 with
      | none => rw [q] at e; cases e
      | some kvs =>
        rw [q] at e
        cases e
        obtain ⟨l, a', kv, e1, e2, _, _, hH, _, rk⟩ := dctL_rw k r2 q
        refine ⟨a', valV kv (Sum.inl i), e2, ?_, ?_⟩
        · rw [show v1 = V.int i from r1]
          exact DGet.k (k := Sum.inl i) hH
        · have : (valV kv (Sum.inl i)).isSome = (dlk kvs i).isSome := by
            rcases rk.get (k := i) with ⟨z1, z2⟩ | ⟨v, w', z1, z2, z3⟩ <;> rw [z1, z2] <;> rfl
          rw [this]
          exact Pst.done (v := V.bl _) h3 k rfl
    | _ => cases e
  have gen : ∀ {t : TE} {e : Expr}, PE X e t → (∀ σ H Q, (tE X.K G Wx m1 σ H fun y H1 => tE X.K G Wx m2 σ H1 fun x H2 => ∃ a o, x = .ref a ∧ DGet H2 a y o ∧ Q (.bl (bif neg then !o.isSome else o.isSome)) H2) → t σ H Q) → PE X e (tE X.K G Wx (.din neg m1 m2)) := fun he ht => he.imp fun σ H Q ⟨Γ, S, eH, k, re, h⟩ => by
    subst eH
    unfold evE at h
    refine ht σ S.H Q (tE_bind k re h fun v1 S1 w1 t1 r1 re1 h1 => ?_)
    refine tE_bind t1.ok re1 h1 fun v2 S2 w2 t2 r2 re2 h2 => ?_
    exact rd S2 σ Q v1 v2 w1 w2 t2.ok (t2.rw r1) r2 h2
  cases neg with
  | false =>
    refine gen (pe_cmp (pc_din hu h1 h2) hp) fun σ H Q h => ?_
    exact h
  | true =>
    refine gen (pe_cmp (pc_dnotin hu h1 h2) hp) fun σ H Q h => ?_
    exact h
theorem tt_din {a b : Expr} {m1 m2 : ME} (hu : X.A.units + 1 < cLine) (neg : Bool) (h1 : PE X a (tE X.K G Wx m1)) (h2 : PE X b (tE X.K G Wx m2)) (hp : behindInMarks (if neg = true then .NotIn else .In) b = false) :
    PT X (.Compare a [if neg = true then .NotIn else .In] [b] pos) (tB' X.K G Wx (.din neg m1 m2)) := by
  have rd : ∀ (S : S4) (σ : L2.St) (Q : Bool → Hp → Prop) (v1 v2 : V) (w1 w2 : W), Ok X.K G.ca S → RwS X.K S v1 w1 → RwS X.K S v2 w2 → Pst X.K G Wx (fun _ (b c : Bool) => b = c) σ S ((liftO (dinW S.st neg w1 w2) S.st).bind asB) Q → ∃ a o, v2 = .ref a ∧ DGet S.H a v1 o ∧ ∃ c, V.bl (bif neg then !o.isSome else o.isSome) = .bl c ∧ Q c S.H := fun S σ Q v1 v2 w1 w2 k r1 r2 h => by
    cases w1 with
    | int i =>
      cases q : dctL S.st w2 with
      | none =>
        have e : dinW S.st neg (.int i) w2 = none := by unfold dinW; rw [q]; rfl
        rw [e] at h
        exact False.elim h
      | some kvs =>
        have e : dinW S.st neg (.int i) w2 = some (.bl (bif neg then !(dlk kvs i).isSome else (dlk kvs i).isSome)) := by unfold dinW; rw [q]; rfl
        rw [e] at h
        obtain ⟨l, a', kv, e1, e2, _, _, hH, _, rk⟩ := dctL_rw k r2 q
        refine ⟨a', valV kv (Sum.inl i), e2, ?_, _, rfl, ?_⟩
        · rw [show v1 = V.int i from r1]
          exact DGet.k (k := Sum.inl i) hH
        · have : (valV kv (Sum.inl i)).isSome = (dlk kvs i).isSome := by
            rcases rk.get (k := i) with ⟨z1, z2⟩ | ⟨v, w', z1, z2, z3⟩ <;> rw [z1, z2] <;> rfl
          rw [this]
          exact Pst.done (Rl := fun _ (b c : Bool) => b = c) (v := _) h k rfl
    | _ => exact False.elim h
  have gen : ∀ {t : TE} {e : Expr}, PT X e (tB t) → (∀ σ H Q, (tE X.K G Wx m1 σ H fun y H1 => tE X.K G Wx m2 σ H1 fun x H2 => ∃ a o, x = .ref a ∧ DGet H2 a y o ∧ Q (.bl (bif neg then !o.isSome else o.isSome)) H2) → t σ H Q) → PT X e (tB' X.K G Wx (.din neg m1 m2)) := fun he ht => he.imp fun σ H Q ⟨Γ, S, eH, k, re, h⟩ => by
    subst eH
    unfold evE at h
    have as : ∀ {α β γ : Type} (r : R α) (f : α → Store → R β) (g : β → Store → R γ), (r.bind f).bind g = r.bind fun a st => (f a st).bind g := by
      intro α β γ r f g
      cases r <;> rfl
    rw [as] at h
    refine ht σ S.H _ (tE_bind k re h fun v1 S1 w1 t1 r1 re1 h1 => ?_)
    rw [as] at h1
    refine tE_bind t1.ok re1 h1 fun v2 S2 w2 t2 r2 re2 h2 => ?_
    exact rd S2 σ Q v1 v2 w1 w2 t2.ok (t2.rw r1) r2 h2
  cases neg with
  | false =>
    refine gen (pt_cmp (pc_din hu h1 h2) hp) fun σ H Q h => ?_
    exact h
  | true =>
    refine gen (pt_cmp (pc_dnotin hu h1 h2) hp) fun σ H Q h => ?_
    exact h
theorem ts_dput {d k e : Expr} {md mk m : ME} {tpos : Pos} (hu : X.A.units + 1 < cLine) (h1 : PE X d (tE X.K G Wx md)) (h2 : PE X k (tE X.K G Wx mk)) (h3 : PE X e (tE X.K G Wx m)) (hs : swapsWith e (some (.Subscript d k tpos)) pos.line X.env = pure false) :
    PS X (.Assign [.Subscript d k tpos] e pos) (tS X.K G Wx (.dput md mk m)) :=
  (ps_dput hu h1 h2 h3 hs).imp fun D σ H ⟨Γ, S, eH, k, re, h⟩ => by
    subst eH
    unfold evS at h
    refine tS_bind k re h fun z S1 wz t1 r1 re1 h1 => ?_
    refine tS_bind t1.ok re1 h1 fun x S2 wo t2 r2 re2 h2 => ?_
    refine tS_bind t2.ok re2 h2 fun y S3 wi t3 r3 re3 h3 => ?_
    cases e : dputW S3.st wo wi wz with
    | none => rw [e] at h3; exact False.elim h3
    | some st' =>
      rw [e] at h3
      cases wo with
      | loc l => cases wi with
        | int i =>
          unfold dputW at e
          cases q : S3.st[l]? with
          | none => simp only [q] at e; cases e
          | some ob => cases ob with
            | none => simp only [q] at e; cases e
            | some ob => cases ob with
              | dct kvs =>
                simp only [q] at e
                by_cases hm : kvs.length < 900
                · rw [if_pos hm] at e
                  cases e
                  obtain ⟨a', e1, ea⟩ := t3.rw r2
                  obtain ⟨_, kv, hH, _, rk⟩ := t3.ok.liv l _ a' q ea
                  have hl : kv.length < 900 := by rw [rk.length]; exact hm
                  have pl := putK_len (Sum.inl i) z kv
                  refine ⟨a', upd S3.H a' (.dK (putK kv (Sum.inl i) z)), e1, ?_, ?_⟩
                  · rw [show y = V.int i from r3]
                    exact DPut.k (k := Sum.inl i) hH (by rw [sizeLine_eq]; omega)
                  · have t4 : Tr X.K G.ca S3 (S3.setSt l a' (.dK (putK kv (Sum.inl i) z)) (.dct (dptW i wz kvs))) := Tr.setSt t3.ok q ea ⟨putK kv (Sum.inl i) z, upd_same, by omega, Rks.mono (S := S3) (S' := S3.setSt l a' (.dK (putK kv (Sum.inl i) z)) (.dct (dptW i wz kvs))) (fun v w h => h) (Rks.put (t3.rw (t2.rw r1)) rk)⟩
                    exact h3 σ (S3.setSt l a' (.dK (putK kv (Sum.inl i) z)) (.dct (dptW i wz kvs))) rfl t4 (re3.mono t4)
                · rw [if_neg hm] at e; cases e
              | _ => simp only [q] at e; cases e
        | _ => cases e
      | _ => cases e
end
end Mi

set_option Elab.async false
set_option linter.all false
set_option maxRecDepth 100000
set_option maxHeartbeats 1000000
/-! Mini Python: instances made, methods called, isinstance of own classes, lists that may change. -/
namespace L2
open PySem PySem.Spec PyProof.Rows
section
variable {X : Cx} {CX : CXT} {k : Nat} {f C : Addr} {fd : FuncData} {ps : List Str} {sp : Sp} {E : St → XK} {x m : Str} {p pos apos : Pos} {e o : Expr} {es : List Expr} {ta : TE} {t : TA}
/-- o.m(..): the arm -/
theorem meth_arm {o : Expr} {m : Str} {apos pos : Pos} {es : List Expr} {env : PySem.Env} (hb : attributeBase o m env (eval o env) = eval o env) (hf : methodCallForm (es.length + 0) (backTo pos (starEach es env)) (backToKw pos (keywordEach [] env)) = true) (hl : (apos.endLine == pos.line) = true) :
    eval (.Call (.Attribute o m apos) es [] pos) env = (do
      let ov ← eval o env
      standAt apos.atName
      let (f, first) ← holding [ov] (getMethod ov m (do return (← importBound o env).getD true))
      callWith pos f first (backTo pos (starEach es env)) (backToKw pos (keywordEach [] env))) := by
  rw [PySem.arm_eval_Call, hb]
  unfold methodCall methodCallPos calleeOf
  have hf2 : methodCallForm (es.length + ([] : List Keyword).length) (backTo pos (starEach es env)) (backToKw pos (keywordEach [] env)) = true := hf
  simp only [hf2, hl, Bool.not_true, Bool.false_or, if_true]
  rfl
/-- o.m(..), o an instance of some class -/
def tMethD (X : Cx) (CX : CXT) (m : Str) (E : St → XK) (ta : TE) (t : TA) : TE := fun σ H Q => ta σ H fun x H1 => ∃ (a dx C f k : Nat) (fs : List (Str × V)) (fd : FuncData) (ps : List Str) (sp : Sp), x = .ref a ∧ H1 a = some (.ins C dx fs) ∧ fs.lookup m = none ∧
  Cls X.K C ∧ Meth X.K C m f ∧ FnOk X.prog X.w X.K X.mg X.base CX k f fd ps sp ∧ Room k X.A ∧ Binds X.K fd ps [] ∧ t σ H1 fun vs H2 => sp (x :: (vs ++ [])) H2 Q (E σ)
theorem pe_methD {pl : Sem Bool} (he : PE X o ta) (hx : ∀ σ, PassesAt CX X σ (E σ)) (ha : PA X (e :: es) t)
    (hst : starEach (e :: es) X.env = (false, eval e X.env) :: starEach es X.env) (hpl : (backTo pos (starEach es X.env)).any (·.1) = false)
    (ht : eval (.Call (.Attribute o m apos) (e :: es) [] pos) X.env = (do
      let ov ← eval o X.env
      standAt apos.atName
      let (f, first) ← holding [ov] (getMethod ov m pl)
      callWith pos f first (backTo pos (starEach (e :: es) X.env)) (backToKw pos (keywordEach [] X.env)))) :
    PE X (.Call (.Attribute o m apos) (e :: es) [] pos) (tMethD X CX m E ta t) := by
  refine ⟨fun pins s σ H Q I h => ?_⟩
  refine PySem.W.methodCall_KW (pl := pl) (thn (he.run pins s σ H _ I h) fun u s1 ⟨x, H1, I1, rx, a, dx, C, f, k, fs, fd, ps, sp, ex, ea, l, c, hm, F, hr, hb, q⟩ => ?_) ht
  subst ex
  obtain rfl : u = Value.ref a := rx
  refine getmeth_ok I1 ea c hm l ?_
  refine PySem.W.callWith_K (first := [.ref a]) (h₀ := X.base) I.ok.mod.kin hm.kp (thn (ha.run pos pins s1 σ H1 _ I1 q) fun us s2 ⟨vs, H2, I2, r, q2⟩ => ⟨I2.kIn, ?_⟩) hst hpl
  exact run_fnSD (E := E) (us := .ref a :: us) (vs := .ref a :: vs) F hr hb .nil (hx σ) I2 (.cons rfl r) q2
theorem pe_methD0 {pl : Sem Bool} (he : PE X o ta) (hx : ∀ σ, PassesAt CX X σ (E σ))
    (ht : eval (.Call (.Attribute o m apos) [] [] pos) X.env = (do
      let ov ← eval o X.env
      standAt apos.atName
      let (f, first) ← holding [ov] (getMethod ov m pl)
      callWith pos f first (backTo pos (starEach [] X.env)) (backToKw pos (keywordEach [] X.env)))) :
    PE X (.Call (.Attribute o m apos) [] [] pos) (tMethD X CX m E ta tNil) := by
  refine ⟨fun pins s σ H Q I h => ?_⟩
  refine PySem.W.methodCall_KW (pl := pl) (thn (he.run pins s σ H _ I h) fun u s1 ⟨x, H1, I1, rx, a, dx, C, f, k, fs, fd, ps, sp, ex, ea, l, c, hm, F, hr, hb, q⟩ => ?_) ht
  subst ex
  obtain rfl : u = Value.ref a := rx
  refine getmeth_ok I1 ea c hm l ?_
  exact PySem.W.callWith_K0 (first := [.ref a]) I1.kIn hm.kp (run_fnSD (E := E) (us := [.ref a]) (vs := [.ref a]) F hr hb .nil (hx σ) I1 (.cons rfl .nil) q)
/-- C(..): a new instance and its dict, then __init__; what is raised is wished for at the caller's slots -/
def tMakeD (C : Addr) (sp : Sp) (E : St → XK) (t : TA) : TE := fun σ H Q => t σ H fun vs H1 => ∀ x dx, H1 x = none → H1 dx = none → dx ≠ x →
  sp (.ref x :: (vs ++ [])) (upd (upd H1 dx (.own x)) x (.ins C dx [])) (fun v H2 => v = .non ∧ Q (.ref x) H2) (E σ)
/-- an exception of an __init__ reaches what this body wants -/
def PassesMk (CX : CXT) (X : Cx) (C : Addr) (σ : St) (E : XK) : Prop := ∀ (pins : List (Addr × Obj)) (H : Hp) (s : Shared) (e : Value) (s' : Shared), Inv X pins σ H s →
  CX X.stack (upd (upd H s.heap.objs.size (.own (s.heap.objs.size + 1))) (s.heap.objs.size + 1) (.ins C s.heap.objs.size [])) { s with heap := (s.heap.push PySem.W.emptyDict).push (PySem.W.instObj C s.heap.objs.size) } E e s' → X.xe e s'
theorem passesMk_of (h : PassesAt CX X σ0 E0') : PassesMk CX X C σ0 E0' := fun pins H s e s' I c => h pins _ _ e s' (Inv.made (C := C) I) c
theorem run_makeD {dvs : List V} {ds : List Value} {pins : List (Addr × Obj)} {σ : St} {H : Hp} {s : Shared} {Q : VK} {us : List Value} {vs : List V} (M : Mk X.K C f) (F : FnOk X.prog X.w X.K X.mg X.base CX k f fd ps sp) (hr : Room (k + 1) X.A) (hb : Binds X.K fd ps ds) (hd : Vals dvs ds)
    (hx : PassesAt CX X σ (E σ)) (I : Inv X pins σ H s) (r : Vals vs us)
    (h : ∀ x dx, H x = none → H dx = none → dx ≠ x → sp (.ref x :: (vs ++ dvs)) (upd (upd H dx (.own x)) x (.ins C dx [])) (fun v H2 => v = .non ∧ Q (.ref x) H2) (E σ)) :
    wpAny (model X.prog X.w) X.A (call (.ref C) us) (EP X pins σ Q) X.xe s := by
  have hq := h (s.heap.objs.size + 1) s.heap.objs.size (I.hok.fresh (Nat.le_succ _)) (I.hok.fresh (Nat.le_refl _)) (Nat.ne_of_lt (Nat.lt_succ_self _))
  have I2 := Inv.made (C := C) I
  have r2 : Vals (V.ref (s.heap.objs.size + 1) :: (vs ++ dvs)) (Value.ref (s.heap.objs.size + 1) :: (us ++ ds)) := .cons rfl (r.append hd)
  have hl : (Value.ref (s.heap.objs.size + 1) :: us ++ ds).length = ps.length := by
    have e := r2.length
    rw [F.len _ _ _ _ hq] at e
    exact e.symm
  refine wpAny_call (make_map (f := f) I.kIn M.makes M.init (beq_iff_eq.mp M.fn) (codeAny_mono (F.run _ X.stack _ _ ⟨Value.ref (s.heap.objs.size + 1) :: us, []⟩ (Value.ref (s.heap.objs.size + 1) :: (us ++ ds)) _ _ (E σ) (hr.make C us [])
    (I2.env0.make C us []) (hb _ (Value.ref (s.heap.objs.size + 1) :: us) I2.kIn hl) r2 hq) fun r s' hq' => ?_))
  cases r with
  | error e => exact hx pins _ _ e s' I2 hq'
  | ok fl =>
    cases fl with
    | ret u =>
      obtain ⟨v, H', I3, rv, ev, q3⟩ := I2.after hq'
      subst ev
      exact ⟨rv, ⟨V.ref (s.heap.objs.size + 1), H', I3, rfl, q3⟩⟩
    | next => exact False.elim hq'
    | brk => exact False.elim hq'
    | cont => exact False.elim hq'
theorem pe_makeD1 (M : Mk X.K C f) (F : FnOk X.prog X.w X.K X.mg X.base CX k f fd ps sp) (hr : Room (k + 1) X.A) (hg : Gl X x) (hm : X.mg x = some (.ref C)) (hb : Binds X.K fd ps []) (hx : ∀ σ, PassesAt CX X σ (E σ))
    (ha : PA X (e :: es) t) (hdb : (x == ("__debug__" : Str)) = false) (he : starEach (e :: es) X.env = (false, eval e X.env) :: starEach es X.env) (hpl : (backTo pos (starEach es X.env)).any (·.1) = false) :
    PE X (.Call (.Name x p) (e :: es) [] pos) (tMakeD C sp E t) := by
  refine ⟨fun pins s σ H Q I h => ?_⟩
  refine wpAny_Call_Name_kw (ld_glob I hg hm ?_ hdb)
  refine PySem.W.callWith_K (h₀ := X.base) I.ok.mod.kin M.kp (thn (ha.run pos pins s σ H _ I h) fun us s1 ⟨vs, H1, I1, r, q⟩ => ⟨I1.kIn, ?_⟩) he hpl
  exact run_makeD (dvs := []) (ds := []) M F hr hb .nil (hx σ) I1 r q
theorem pe_makeD0 (M : Mk X.K C f) (F : FnOk X.prog X.w X.K X.mg X.base CX k f fd ps sp) (hr : Room (k + 1) X.A) (hg : Gl X x) (hm : X.mg x = some (.ref C)) (hb : Binds X.K fd ps []) (hx : ∀ σ, PassesAt CX X σ (E σ))
    (hdb : (x == ("__debug__" : Str)) = false) : PE X (.Call (.Name x p) [] [] pos) (tMakeD C sp E tNil) := by
  refine ⟨fun pins s σ H Q I h => ?_⟩
  refine wpAny_Call_Name_kw (ld_glob I hg hm ?_ hdb)
  exact PySem.W.callWith_K0 I.kIn M.kp (run_makeD (dvs := []) (ds := []) (us := []) M F hr hb .nil (hx σ) I .nil h)
end
end L2
namespace Mi
open PySem PySem.Spec PyProof.Rows L2
section
variable {X : Cx} {G : Gd} {Wx : WX} {p pos apos : Pos}
/-! ### C(..) -/
theorem te_mk {i k np c : Nat} {f : Addr} {fd : FuncData} {ps : List Str} {x : Str} {es : List Expr} {ms : List ME} (M : Mk X.K (G.ca c) f) (F : FnOk X.prog X.w X.K X.mg X.base (L2N.CX X.prog X.w) k f fd ps (spF X.K G (G.Φ i) np)) (hr : Room (k + 1) X.A) (tk : L2N.Takes X Wx)
    (hg : Gl X x) (hm : X.mg x = some (.ref (G.ca c))) (hb : Binds X.K fd ps []) (hdb : (x == ("__debug__" : Str)) = false) (hn : ms.length + 1 = np) (hes : es.length = ms.length)
    (ha : PA X es (tA X.K G Wx ms)) (hs : ∀ e ∈ es, ∀ r, starEach (e :: r) X.env = (false, eval e X.env) :: starEach r X.env) : PE X (.Call (.Name x p) es [] pos) (tE X.K G Wx (.mk c i ms)) := by
  have hx : ∀ σ, PassesAt (L2N.CX X.prog X.w) X σ (fun c d H => Wx c d σ H) := fun σ => L2N.passAt tk σ
  have rd : ∀ (σ : L2.St) (H : Hp) (Q : VK), tE X.K G Wx (.mk c i ms) σ H Q → tA X.K G Wx ms σ H fun vs H1 => ∀ x dx, H1 x = none → H1 dx = none → dx ≠ x →
      spF X.K G (G.Φ i) np (.ref x :: (vs ++ [])) (upd (upd H1 dx (.own x)) x (.ins (G.ca c) dx [])) (fun v H2 => v = .non ∧ Q (.ref x) H2) (fun c d H => Wx c d σ H) := fun σ H Q ⟨Γ, S, eH, o, re, h⟩ => by
    subst eH
    unfold evE at h
    refine ⟨Γ, S, rfl, o, re, (Pst.bind (Rl := RwsS X.K) h).mono fun vs H' ⟨S1, ws, e, t1, r, q, h1⟩ => ?_⟩
    subst e
    intro x dx hx hdx hne
    have hl := evEs_length q
    have t2 := t1.ok.hid (p := dx) (o := HO.own x) hdx
    have hx2 : (S1.hid dx (.own x)).H x = none := by
      show upd S1.H dx (.own x) x = none
      rw [upd_ne (Ne.symm hne)]; exact hx
    have t3 := t2.ok.alloc (p := x) (o := HO.ins (G.ca c) dx []) (ob := .ins c []) hx2 fun S' e1 e2 _ m => ⟨dx, [], e2, rfl⟩
    rw [List.append_nil]
    refine ⟨by rw [List.length_cons, r.length, hl]; exact hn, (S1.hid dx (.own x)).alloc x (.ins (G.ca c) dx []) (.ins c []), .loc S1.st.length :: ws, rfl, t3.ok, ⟨_, _, rfl, ⟨x, rfl, ?_⟩, t3.rws (t2.rws r)⟩, ?_⟩
    · show (S1.ρ ++ [x])[S1.st.length]? = some x
      rw [← t1.ok.len]
      simp
    · show Pst X.K G _ (RwS X.K) [] _ (G.Φ i (.loc S1.st.length :: ws) (S1.st ++ [some (.ins c [])])) _
      have t4 := t2.trans t3
      have e0 : ((S1.hid dx (.own x)).alloc x (.ins (G.ca c) dx []) (.ins c [])).ρ[S1.st.length]? = some x := by
        show (S1.ρ ++ [x])[S1.st.length]? = some x
        rw [← t1.ok.len]
        simp
      cases z : G.Φ i (.loc S1.st.length :: ws) (S1.st ++ [some (.ins c [])]) with
      | err => rw [z] at h1; exact h1
      | exc c' st' =>
        rw [z] at h1
        exact fun S' e t => h1 S' e (t4.trans t)
      | ok w st' =>
        rw [z] at h1
        cases w with
        | non =>
          intro v S' e t rv
          refine ⟨rv, h1 (.ref x) S' e (t4.trans t) ⟨x, rfl, t.ext _ _ e0⟩⟩
        | _ => exact False.elim h1
  cases es with
  | nil =>
    refine (pe_makeD0 (E := fun σ c d H => Wx c d σ H) M F hr hg hm hb hx hdb).imp fun σ H Q h => ?_
    have h2 := rd σ H Q h
    have ms0 : ms = [] := List.eq_nil_of_length_eq_zero hes.symm
    subst ms0
    obtain ⟨Γ, S, eH, o, re, h3⟩ := h2
    subst eH
    exact Pst.done (Rl := RwsS X.K) (v := []) (show Pst X.K G Wx (RwsS X.K) σ S (.ok [] S.st) _ by unfold evEs at h3; exact h3) o rfl
  | cons e es =>
    exact (pe_makeD1 (E := fun σ c d H => Wx c d σ H) M F hr hg hm hb hx ha hdb (hs e List.mem_cons_self es) (stars fun e' he' => hs e' (List.mem_cons_of_mem _ he'))).imp rd
/-! ### o.m(..) -/
theorem few_of {pos : Pos} {env : PySem.Env} : ∀ {es : List Expr} {n : Nat}, (∀ e ∈ es, ∀ r, starEach (e :: r) env = (false, eval e env) :: starEach r env) → n < 30 → methodCallForm (n + 0) (backTo pos (starEach es env)) (backToKw pos (keywordEach [] env)) = true := fun {es n} h hn => by
  have all : ∀ es : List Expr, (∀ e ∈ es, ∀ r, starEach (e :: r) env = (false, eval e env) :: starEach r env) → (backTo pos (starEach es env)).all (!·.1) = true := by
    intro es
    induction es with
    | nil => intro _; rfl
    | cons e es ih =>
      intro h
      rw [h e List.mem_cons_self]
      have := ih fun e' he' => h e' (List.mem_cons_of_mem _ he')
      unfold backTo at this ⊢
      rw [List.map_cons, List.all_cons, this]
      rfl
  have ek : backToKw pos (keywordEach [] env) = [] := rfl
  unfold methodCallForm
  rw [all es h, ek]
  simpa using hn
theorem te_meth {o : Expr} {m : Str} {mo : ME} {tb : List (Nat × Nat)} {es : List Expr} {ms : List ME} (tk : L2N.Takes X Wx) (ho : PE X o (tE X.K G Wx mo)) (hbase : attributeBase o m X.env (eval o X.env) = eval o X.env) (hline : (apos.endLine == pos.line) = true) (h30 : es.length < 30)
    (hc : ∀ c i, tb.lookup c = some i → ∃ (f k : Nat) (fd : FuncData) (ps : List Str), Cls X.K (G.ca c) ∧ Meth X.K (G.ca c) m f ∧ FnOk X.prog X.w X.K X.mg X.base (L2N.CX X.prog X.w) k f fd ps (spF X.K G (G.Φ i) (ms.length + 1)) ∧ Room k X.A ∧ Binds X.K fd ps [])
    (hes : es.length = ms.length) (ha : PA X es (tA X.K G Wx ms)) (hs : ∀ e ∈ es, ∀ r, starEach (e :: r) X.env = (false, eval e X.env) :: starEach r X.env) :
    PE X (.Call (.Attribute o m apos) es [] pos) (tE X.K G Wx (.meth mo m tb ms)) := by
  have hx : ∀ σ, PassesAt (L2N.CX X.prog X.w) X σ (fun c d H => Wx c d σ H) := fun σ => L2N.passAt tk σ
  have rd : ∀ (σ : L2.St) (H : Hp) (Q : VK), tE X.K G Wx (.meth mo m tb ms) σ H Q → tMethD X (L2N.CX X.prog X.w) m (fun σ c d H => Wx c d σ H) (tE X.K G Wx mo) (tA X.K G Wx ms) σ H Q := fun σ H Q ⟨Γ, S, eH, k, re, h⟩ => by
    subst eH
    unfold evE at h
    refine tE_bind k re h fun v S1 w t1 r re1 h1 => ?_
    cases z : (insC S1.st w m).bind fun c => tb.lookup c with
    | none => simp only [z] at h1; exact False.elim h1
    | some i =>
      simp only [z] at h1
      cases w with
      | loc l =>
        unfold insC at z
        cases q : S1.st[l]? with
        | none => simp only [q] at z; cases z
        | some ob => cases ob with
          | none => simp only [q] at z; cases z
          | some ob => cases ob with
            | ins c fs =>
              simp only [q] at z
              cases q2 : fs.lookup m with
              | some u => simp only [q2] at z; cases z
              | none =>
                simp only [q2] at z
                have z : tb.lookup c = some i := z
                obtain ⟨a', dx, fv, e1, e2, hH, rf⟩ := ins_rw t1.ok r q
                obtain ⟨f, kk, fd, ps, c1, c2, F, hr, hb⟩ := hc c i z
                refine ⟨a', dx, G.ca c, f, kk, fv, fd, ps, _, e1, hH, rf.none q2, c1, c2, F, hr, hb, ?_⟩
                refine ⟨Γ, S1, rfl, t1.ok, re1, (Pst.bind (Rl := RwsS X.K) h1).mono fun vs H' ⟨S2, ws, e, t2, r2, q3, h2⟩ => ?_⟩
                subst e
                have hl := evEs_length q3
                rw [List.append_nil]
                exact ⟨by rw [List.length_cons, r2.length, hl], S2, .loc l :: ws, rfl, t2.ok, ⟨v, vs, rfl, t2.rw r, r2⟩, pst_E h2⟩
            | _ => simp only [q] at z; cases z
      | _ => cases z
  cases es with
  | nil =>
    refine (pe_methD0 (E := fun σ c d H => Wx c d σ H) ho hx (meth_arm hbase (few_of hs h30) hline)).imp fun σ H Q h => ?_
    have ms0 : ms = [] := List.eq_nil_of_length_eq_zero hes.symm
    subst ms0
    have h2 := rd σ H Q h
    unfold tMethD at h2 ⊢
    obtain ⟨Γ, S, eH, k, re, h3⟩ := h2
    refine ⟨Γ, S, eH, k, re, h3.mono fun v H' ⟨a, dx, C, f, k, fs, fd, ps, sp, e1, e2, e3, e4, e5, e6, e7, e8, e9⟩ => ⟨a, dx, C, f, k, fs, fd, ps, sp, e1, e2, e3, e4, e5, e6, e7, e8, ?_⟩⟩
    obtain ⟨Γ, S, eH, o, re, h3⟩ := e9
    subst eH
    exact Pst.done (Rl := RwsS X.K) (v := []) (show Pst X.K G Wx (RwsS X.K) σ S (.ok [] S.st) _ by unfold evEs at h3; exact h3) o rfl
  | cons e es =>
    exact (pe_methD (E := fun σ c d H => Wx c d σ H) ho hx ha (hs e List.mem_cons_self es) (stars fun e' he' => hs e' (List.mem_cons_of_mem _ he')) (meth_arm hbase (few_of hs h30) hline)).imp rd
/-! ### isinstance of an own class -/
structure InsF (K : PySem.W.Frag) (C : Addr) : Prop where
  cls : Cls K C
  ha : PySem.W.findIn K (.ref C) "__class__" = some (some (.builtin "object.__class__"))
  hn : PySem.W.specialIn K (.builtin "object.__class__") "__get__" = some (some (.builtin "getset_descriptor.__get__"))
  htk : PySem.W.takesIn K (.builtin "object.__class__") = some true
  hm : PySem.W.mroIn K C (.type "object") = some true
theorem te_isiC {a : Expr} {c : Nat} {ds : List Nat} {x : Str} {m : ME} {p2 : Pos} (hg : Gl X "isinstance") (hm : X.mg "isinstance" = none) (hx : PE X (.Name x p2) (tC (.ref (G.ca c)))) (h1 : PE X a (tE X.K G Wx m)) (hs : starEach (a :: [.Name x p2]) X.env = (false, eval a X.env) :: starEach [.Name x p2] X.env)
    (hc : ∀ d ∈ ds, InsF X.K (G.ca d) ∧ PySem.W.kitOne X.K (.ref (G.ca d)) (.ref (G.ca c)) = some (G.sub d c)) :
    PE X (.Call (.Name "isinstance" p) [a, .Name x p2] [] pos) (tE X.K G Wx (.isi m (.cls c ds))) :=
  (pe_callB call_isi hg hm (by decide +kernel) (pa_cons h1 (pa_cons hx pa_nil rfl) hs) (by decide) (by decide) hs rfl).imp fun σ H Q ⟨Γ, S, eH, k, re, h⟩ => by
    subst eH
    unfold evE at h
    refine tE_bind k re h fun v S1 w t1 r re1 h1 => ?_
    obtain ⟨w', e, h2⟩ := Pst.lift h1
    clear h1
    cases w with
    | loc l =>
      unfold isiW at e
      cases q : S1.st[l]? with
      | none => simp only [q] at e; cases e
      | some ob => cases ob with
        | none => simp only [q] at e; cases e
        | some ob => cases ob with
          | ins d fs =>
            simp only [q] at e
            by_cases hd : d ∈ ds
            · rw [if_pos hd] at e
              cases e
              obtain ⟨f, kt⟩ := hc d hd
              obtain ⟨a', dx, fv, e1, _, hH, rf⟩ := ins_rw t1.ok r q
              subst e1
              exact ⟨.ref a', .ref (G.ca c), _, .ref (G.ca c), _, rfl, .own _, .base (.ins hH f.cls f.ha f.hn f.htk f.hm), kt, Pst.done (v := V.bl _) h2 t1.ok rfl⟩
            · rw [if_neg hd] at e; cases e
          | _ => simp only [q] at e; cases e
    | _ => cases e
/-! ### lists that may change -/
theorem mkO_ok {S : S4} {σ : L2.St} {o : Option W} {Q : VK} {K : PySem.W.Frag} (h : Pst K G Wx (RwS K) σ S (mkO o S.st) Q) : ∃ ws, o = some (.lst .fz ws) ∧ Pst K G Wx (RwS K) σ S (mkL true ws S.st) Q := by
  unfold mkO at h
  split at h
  · exact ⟨_, rfl, h⟩
  · exact False.elim h
theorem te_listM {a : Expr} {m : ME} (hg : Gl X "list") (hm : X.mg "list" = none) (h1 : PE X a (tE X.K G Wx m)) (hs : starEach [a] X.env = [(false, eval a X.env)]) : PE X (.Call (.Name "list" p) [a] [] pos) (tE X.K G Wx (.listM m)) :=
  (pe_callTy call_list_of hg hm (by decide +kernel) (pa_cons h1 pa_nil hs) (by decide) (by decide) hs rfl).imp fun σ H Q ⟨Γ, S, eH, k, re, h⟩ => by
    subst eH
    unfold evE at h
    refine tE_bind k re h fun v S1 w t1 r re1 h1 => ?_
    obtain ⟨ws, e, h2⟩ := mkO_ok h1
    have lst : ∀ kk xs, seqL S1.st w = some (kk, xs) → ∃ a vs, v = .ref a ∧ SqL X.K S1.H a vs ∧ vs.length ≤ lim ∧ RwsS X.K S1 vs xs := fun kk xs q => by
      obtain ⟨a, vs, e1, q1, _, l, t⟩ := seqL_rw t1.ok r q
      exact ⟨a, vs, e1, q1, l, t⟩
    have main : (seqL S1.st w).map (fun p => W.lst .fz p.2) = some (.lst .fz ws) → ∃ p ys, [v] = [.ref p] ∧ (SqL X.K S1.H p ys ∨ SqT X.K S1.H p ys) ∧ ∀ l, S1.H l = none → Q (.ref l) (upd S1.H l (.lst ys)) := fun e => by
      cases q : seqL S1.st w with
      | none => rw [q] at e; cases e
      | some pp =>
        obtain ⟨kk, xs⟩ := pp
        rw [q] at e
        cases e
        obtain ⟨a, vs, e1, q1, l, t⟩ := lst kk _ q
        exact ⟨a, vs, by rw [e1], .inl q1, fun p hp => mkL_ok t1.ok hp t l h2⟩
    cases w with
    | tup xs =>
      have e : (if xs.length ≤ lim then some (W.lst .fz xs) else none) = some (.lst .fz ws) := e
      split at e
      · rename_i hl
        cases e
        obtain ⟨a, vs, e1, q, t⟩ := tup_rw t1.ok r
        exact ⟨a, vs, by rw [e1], .inr q, fun p hp => mkL_ok t1.ok hp t (by rw [t.length]; exact hl) h2⟩
      · cases e
    | lst kk xs => exact main e
    | loc l => exact main e
    | _ => cases e
theorem te_addM {a b : Expr} {m1 m2 : ME} (h1 : PE X a (tE X.K G Wx m1)) (h2 : PE X b (tE X.K G Wx m2)) : PE X (.BinOp a .Add b pos) (tE X.K G Wx (.addM m1 m2)) :=
  (pe_op op_cat h1 h2).imp fun σ H Q ⟨Γ, S, eH, k, re, h⟩ => by
    subst eH
    unfold evE at h
    refine tE_bind k re h fun v1 S1 w1 t1 r1 re1 h1 => ?_
    refine tE_bind t1.ok re1 h1 fun v2 S2 w2 t2 r2 re2 h2 => ?_
    obtain ⟨ws, e, h3⟩ := mkO_ok h2
    clear h2
    have r1 := t2.rw r1
    unfold addW at e
    split at e
    · cases e
    · split at e
      · cases e
      · cases e
    · split at e
      · rename_i k1 xs k2 ys s1 s2
        split at e
        · rename_i hc
          obtain ⟨c1, c2, c3⟩ := hc
          cases e
          obtain ⟨a, vs, e1, _, q1, l1, t1'⟩ := seqL_rw t2.ok r1 s1
          obtain ⟨b, us, e2, _, q2, l2, t2'⟩ := seqL_rw t2.ok r2 s2
          have m1 := t1'.length
          have m2 := t2'.length
          have hl : (vs ++ us).length ≤ lim := by rw [List.length_append, m1, m2]; exact c1
          exact ⟨a, b, vs, us, e1, e2, q1 c2, q2 c3, by rw [m1, m2, ← lim_eq]; exact c1, fun p hp => mkL_ok t2.ok hp (Rws.append t1' t2') hl h3⟩
        · cases e
      · cases e
/-! ### xs.index(x) -/
theorem te_indx {o e : Expr} {mo m : ME} (h1 : PE X o (tE X.K G Wx mo)) (h2 : PE X e (tE X.K G Wx m)) (hbase : attributeBase o "index" X.env (eval o X.env) = eval o X.env) (hline : (apos.endLine == pos.line) = true) (hse : starEach [e] X.env = [(false, eval e X.env)]) :
    PE X (.Call (.Attribute o "index" apos) [e] [] pos) (tE X.K G Wx (.indx mo m)) :=
  (pe_bm PySem.F.plainAttrs_list PySem.F.slot_list_index PySem.F.type_list_index mt_index h1 (pa_cons h2 pa_nil hse) hbase (by rw [hse]; rfl) hline hse rfl).imp fun σ H Q ⟨Γ, S, eH, k, re, h⟩ => by
    subst eH
    unfold evE at h
    refine ⟨Γ, S, rfl, k, re, (Pst.bind (Rl := RwS X.K) h).mono fun v H' ⟨S1, w1, e, t1, r1, _, h1⟩ => ?_⟩
    subst e
    have re1 := re.mono t1
    cases z : seqL S1.st w1 with
    | none => simp only [z] at h1; exact False.elim h1
    | some pp =>
      simp only [z] at h1
      obtain ⟨kk, xs⟩ := pp
      obtain ⟨a, vs, e1, q1, _, l, t⟩ := seqL_rw t1.ok r1 z
      have rv := r1
      subst e1
      refine ⟨.inl ⟨rfl, vs, q1⟩, ?_⟩
      refine ⟨Γ, S1, rfl, t1.ok, re1, (Pst.bind (Rl := RwS X.K) h1).mono fun u H' ⟨S2, w2, e, t2, r2, _, h2⟩ => ?_⟩
      subst e
      obtain ⟨w', e, h3⟩ := Pst.lift h2
      clear h2
      unfold indW at e
      cases z2 : seqL S2.st w1 with
      | none => simp only [z2] at e; cases e
      | some pp =>
        obtain ⟨kk2, ys⟩ := pp
        simp only [z2] at e
        obtain ⟨a2, us, e2, q2, _, l2, t3⟩ := seqL_rw t2.ok (t2.rw rv) z2
        cases hf : isFl w2 && ys.all isFl with
        | false => simp only [hf] at e; cases e
        | true =>
          simp only [hf] at e
          obtain ⟨f1, f2⟩ := Bool.and_eq_true_iff.mp hf
          cases hj : ys.findIdx? (fun z => eqW z w2) with
          | none => rw [hj] at e; cases e
          | some j =>
            rw [hj] at e
            cases e
            obtain ⟨hlt, hyes, hno⟩ := List.findIdx?_eq_some_iff_getElem.mp hj
            obtain ⟨z, hz, rz⟩ := t3.get (show ys[j]? = some ys[j] from List.getElem?_eq_getElem hlt)
            have fl : ∀ (m : Nat) (z' : V), us[m]? = some z' → ∃ y, ys[m]? = some y ∧ isFl y = true ∧ RwS X.K S2 z' y := fun m z' hm => by
              have hl : m < ys.length := by rw [← t3.length]; exact (List.getElem?_eq_some_iff.mp hm).1
              obtain ⟨v2, e3, r3⟩ := t3.get (show ys[m]? = some ys[m] from List.getElem?_eq_getElem hl)
              rw [hm] at e3
              cases e3
              exact ⟨_, List.getElem?_eq_getElem hl, List.all_eq_true.mp f2 _ (List.getElem_mem hl), r3⟩
            refine ⟨a2, us, u, j, z, e2, rfl, q2, lst_in (n := 0) f1 r2, ?_, hz, ?_, fun m z' hm hz' => ?_, Pst.done (v := V.int _) h3 t2.ok rfl⟩
            · refine List.all_eq_true.mpr fun z' hz' => ?_
              obtain ⟨m, hm, e4⟩ := List.getElem_of_mem hz'
              obtain ⟨y, _, f3, r3⟩ := fl m z' (by rw [← e4]; exact List.getElem?_eq_getElem hm)
              exact lst_in (n := 0) f3 r3
            · rw [flat_eq (List.all_eq_true.mp f2 _ (List.getElem_mem hlt)) f1 rz r2]
              exact hyes
            · obtain ⟨y, e5, f3, r3⟩ := fl m z' hz'
              rw [flat_eq f3 f1 r3 r2]
              have hl : m < ys.length := (List.getElem?_eq_some_iff.mp e5).1
              have e6 : ys[m] = y := (List.getElem?_eq_some_iff.mp e5).2
              have := hno m hm
              rw [e6] at this
              simpa using this
end
end Mi

set_option Elab.async false
set_option linter.all false
set_option maxRecDepth 100000
set_option maxHeartbeats 1000000
/-! Mini Python: a[i], b[j] = .. -/
namespace Mi
open PySem PySem.Spec PyProof.Rows L2
section
variable {X : Cx} {G : Gd} {Wx : WX} {p pos : Pos}
theorem ts_si2 {o1 i1 o2 i2 e : Expr} {mo1 mi1 mo2 mi2 m : ME} {tp1 tp2 tp : Pos} {kt : Nat} (hc : X.calm = true) (h1 : PE X o1 (tE X.K G Wx mo1)) (h2 : PE X i1 (tE X.K G Wx mi1)) (h4 : PE X o2 (tE X.K G Wx mo2)) (h5 : PE X i2 (tE X.K G Wx mi2)) (h3 : PE X e (tE X.K G Wx m))
    (ha1 : ∀ v, assign (.Subscript o1 i1 tp1) X.env v = (do
      let ov ← holding [v] (eval o1 X.env)
      let iv ← holding [v, ov] (eval i1 X.env)
      standAt tp1
      holding [v, ov, iv] (setItem ov iv v)
      release [v, ov, iv] []))
    (ha2 : ∀ v, assign (.Subscript o2 i2 tp2) X.env v = (do
      let ov ← holding [v] (eval o2 X.env)
      let iv ← holding [v, ov] (eval i2 X.env)
      standAt tp2
      holding [v, ov, iv] (setItem ov iv v)
      release [v, ov, iv] []))
    (hs : swapsWithSole [.Tuple [.Subscript o1 i1 tp1, .Subscript o2 i2 tp2] kt tp] e pos.line X.env = pure false) (hw : swappedStores [.Tuple [.Subscript o1 i1 tp1, .Subscript o2 i2 tp2] kt tp] e X.env = pure none) :
    PS X (.Assign [.Tuple [.Subscript o1 i1 tp1, .Subscript o2 i2 tp2] kt tp] e pos) (tS X.K G Wx (.si2 mo1 mi1 mo2 mi2 m)) :=
  (ps_asg h3 (pg_tup (n := 2) hc (pgs_cons (pg_sub h1 h2 set_list ha1) (pgs_cons (pg_sub h4 h5 set_list ha2) pgs_nil rfl) rfl) rfl rfl) hs hw rfl).imp fun D σ H ⟨Γ, S, eH, k, re, h⟩ => by
    subst eH
    unfold evS at h
    refine tS_bind k re h fun z S1 wz t1 r1 re1 h1 => ?_
    cases wz with
    | tup ws =>
      obtain ⟨a, vs, ev, sq, rs⟩ := tup_rw t1.ok r1
      match ws, rs with
      | [w1, w2], rs =>
        obtain ⟨v1, rr1, e1, q1, v2, rr2, e2, q2, rn⟩ := rs
        rw [show rr2 = [] from rn] at e2
        rw [e2] at e1
        refine ⟨a, vs, ev, sq, by rw [e1]; rfl, v1, [v2], e1, ?_⟩
        have h1 : PstS X.K G Wx D S1 (thenS (evE G.Φ G.sub mo1 Γ S1.st) Γ fun x st => thenS (evE G.Φ G.sub mi1 Γ st) Γ fun y st => match setL st x y w1 with
          | some st => thenS (evE G.Φ G.sub mo2 Γ st) Γ fun x st => thenS (evE G.Φ G.sub mi2 Γ st) Γ fun y st => match setL st x y w2 with
            | some st => .nx Γ st
            | none => .er
          | none => .er) := h1
        refine tS_bind t1.ok re1 h1 fun x S2 wo t2 r2 re2 h2 => ?_
        refine tS_bind t2.ok re2 h2 fun y S3 wi t3 r3 re3 h3 => ?_
        cases es : setL S3.st wo wi w1 with
        | none => rw [es] at h3; exact False.elim h3
        | some st' =>
          rw [es] at h3
          have t23 := t2.trans t3
          refine setL_rd t3.ok (t3.rw r2) r3 (t23.rw q1) es fun S4 e4 t4 => ?_
          subst e4
          have t24 := t23.trans t4
          refine ⟨v2, [], rfl, ?_⟩
          have h4 := PstS.later h3 t4
          refine tS_bind t4.ok (re3.mono t4) h4 fun x S5 wo2 t5 r5 re5 h5 => ?_
          refine tS_bind t5.ok re5 h5 fun y S6 wi2 t6 r6 re6 h6 => ?_
          cases es2 : setL S6.st wo2 wi2 w2 with
          | none => rw [es2] at h6; exact False.elim h6
          | some st2 =>
            rw [es2] at h6
            exact setL_rd t6.ok (t6.rw r5) r6 (((t24.trans t5).trans t6).rw q2) es2 fun S7 e7 t7 => ⟨rfl, h6 σ S7 e7 t7 (re6.mono t7)⟩
      | [], _ => exact False.elim h1
      | [_], _ => exact False.elim h1
      | _ :: _ :: _ :: _, _ => exact False.elim h1
    | _ => exact False.elim h1
end
end Mi

set_option Elab.async false
set_option linter.all false
set_option maxRecDepth 100000
set_option maxHeartbeats 8000000
/-! Mini Python: sorted(set(a list of whole numbers)). -/
namespace Mi
open PySem PySem.Spec PyProof.Rows L2
abbrev newSet (w : World) : Obj := { cls := .type "set", dict := none, data := .set #[] 0 (.fresh 0 0 (!w.params.followText "set-order")) }
section
variable {P : Program} {w : World} {A : Around} {E : Value → Shared → Prop} {s : Shared}
/-- set(l), l a list of whole numbers -/
theorem setL_call {l : Addr} {its : Array Value} {ns : List Int} {Q : Value → Shared → Prop} (nh : A.handled = none) (isl : s.heap.IsList l its) (isI : IntsAre its.toList ns) (few : ns.length + 1 < scanBound)
    (go : ∀ (h2 : Heap) (tk c : Nat), SetR w h2 s.heap.objs.size (fun j => decide (j ∈ ns)) c → c ≤ ns.length → (∀ b o, s.heap.get? b = some o → h2.get? b = some o) → Q (.ref s.heap.objs.size) { s with heap := h2, toks := tk }) :
    wpAny (model P w) A (call (.type "set") [.ref l]) Q E s := by
  have size_eq : its.size = ns.length := by
    have := IntsAre.length isI
    rwa [Array.length_toList] at this
  have ⟨c0, tl0, mro0⟩ := PySem.F.called_set.mro
  have p1 := PySem.F.called_set.made
  have p2 := PySem.F.called_set.sub
  apply wpAny_call
  apply codeAny_of_tree
  show wpAny _ _ (callAny (Value.type "set") _) _ _ s
  apply wpAny_pure
  refine And.intro (Code.quiet_builtin _ (by decide +kernel)) (codeAny_builtin PySem.F.entry_type_call ?_)
  rw [Around.under_plain (weight_type_call_type "set" [Value.ref l] []) rfl]
  have p3 := PySem.F.called_set.notType
  have p4 := PySem.F.called_set.canCreate
  have p5 := PySem.F.typeCall_set_1 (Value.ref l)
  repeat (any_goals (first | assumption | wp_step))
  refine codeAny_mono (L2.code_set_led1 (Value.ref l) (E := E) (Q₁ := fun ob s1 => ob = .ref s.heap.objs.size ∧ s1 = { s with heap := s.heap.push (newSet w) }) ⟨rfl, rfl⟩) ?_
  intro r s1 hr
  cases r with
  | error e => exact hr
  | ok fl => cases fl with
    | ret ob =>
      obtain ⟨rfl, rfl⟩ := hr
      have at0 : (s.heap.push (newSet w)).get? s.heap.objs.size = some (newSet w) := Heap.get?_push_size _ rfl
      have ty0 : Shared.TypeIs { s with heap := s.heap.push (newSet w) } (.ref s.heap.objs.size) "set" := ⟨_, at0, rfl⟩
      have p6 := PySem.F.called_set.init.lookup
      have p7 := PySem.F.called_set.init.bind (Value.ref s.heap.objs.size)
      repeat (any_goals (first | assumption | wp_step))
      refine codeAny_mono (codeAny_call_builtin (R := wants (fun r s2 => r = .none ∧ ∃ h2 tk c, s2 = { s with heap := h2, toks := tk } ∧ SetR w h2 s.heap.objs.size (fun j => decide (j ∈ ns)) c ∧ c ≤ ns.length ∧ (∀ b o, s.heap.get? b = some o → h2.get? b = some o)) E) PySem.F.called_set.init.plain PySem.F.entry_set_init (check_set_init_1 ty0 ?_)) ?_
      · have ⟨⟨cl, di, da, sl⟩, hol, hcl, nl, hdl⟩ := isl
        simp only at hcl hdl
        subst hcl hdl
        have at1 : (s.heap.push (newSet w)).get? l = some { cls := .type "list", dict := di, data := .seq its nl, slots := sl } := Heap.get?_push_of_some _ hol
        have p8 := PySem.F.sub_list_set
        have p9 := PySem.F.sub_list_frozenset
        have pA : (Value.type "list" == Value.type "dict") = false := by decide
        have isl1 : (s.heap.push (newSet w)).IsList l its := ⟨_, at1, rfl, nl, rfl⟩
        unfold Builtin.«set.__init__» noKeywords Builtin.Frozenset.updateFrom
        generalize hpi : pyIter = pi
        wp_walk
        subst hpi
        refine wpAny_pyIter_list isl1 (wpAny_bind (wpAny_runValue ?_))
        have lt0 : l < s.heap.objs.size := Heap.lt_size hol
        have nh3 : A.in1.in1.in1.handled = none := by simp [nh]
        have apart1 : l ≠ (s.heap.push (newSet w)).objs.size := by
          rw [Heap.size_push]
          exact Nat.ne_of_lt (Nat.lt_succ_of_lt lt0)
        have apart2 : s.heap.objs.size ∉ [(s.heap.push (newSet w)).objs.size, l] := by
          rw [Heap.size_push]
          simp only [List.mem_cons, List.not_mem_nil, or_false, not_or]
          exact ⟨Nat.ne_of_lt (Nat.lt_succ_self _), fun z => absurd z (Nat.ne_of_gt lt0)⟩
        have val : ∀ (i : Nat) (v : Value), its[i]? = some v → ∃ k t, ns[i]? = some k ∧ v = .int k t := by
          intro i v hv
          have hi : i < ns.length := size_eq ▸ (Array.getElem?_eq_some_iff.mp hv).1
          obtain ⟨t, e⟩ := PyProof.Rows.IntsAre.int_at isI i v (by rw [Array.getElem?_toList]; exact hv)
          refine ⟨ns[i], t, List.getElem?_eq_getElem hi, ?_⟩
          rw [e, List.getD_eq_getElem?_getD, List.getElem?_eq_getElem hi]
          rfl
        refine L2.set_update_ints (Walks.list nh3 _ l apart1 its).toS s.heap.objs.size apart2 ns size_eq few val (its.size - 0) 0 _ (by omega) (Nat.zero_le _) ⟨⟨_, Heap.get?_push_size _ rfl, rfl, rfl⟩, isl1.push _⟩ ?start ?fin
        case start =>
          exact ⟨0, Nat.le_refl 0, L2.setR_new_at (Heap.get?_push_of_some _ at0)⟩
        case fin =>
          rintro ⟨h2, g2, d2, tk, o2⟩ c mv hc hS
          have eg : g2 = s.gens := mv.gens
          have ed : d2 = s.drawn := mv.drawn
          have eo : o2 = s.os := mv.os
          subst eg ed eo
          show wpAny _ _ _ _ _ _
          refine wpAny_pure ?_
          show wpAny _ _ (ret Value.none) _ _ _
          rw [size_eq] at hc
          refine wpAny_pure ⟨rfl, h2, tk, c, rfl, hS, hc, fun b o e => mv.heap b o ?_ (Heap.get?_push_of_some _ (Heap.get?_push_of_some _ e))⟩
          have lb : b < s.heap.objs.size := Heap.lt_size e
          rw [Heap.size_push]
          simp only [List.mem_cons, List.not_mem_nil, or_false, not_or]
          exact ⟨Nat.ne_of_lt lb, Nat.ne_of_lt (Nat.lt_succ_of_lt lb)⟩
      · intro r2 s2 hr2
        cases r2 with
        | error e => exact hr2
        | ok fl2 => cases fl2 with
          | ret r =>
            obtain ⟨rfl, h2, tk, c, rfl, hS, hc, hk⟩ := hr2
            repeat (any_goals (first | assumption | wp_step))
            exact go _ _ _ hS hc hk
          | _ => exact hr2.elim
    | _ => exact hr.elim
end
/-- set of a list of whole numbers -/
def rSetL (K : PySem.W.Frag) (w : World) : List V → Hp → VK → Prop := fun xs H Q => ∃ (l : Addr) (ns : List Int), xs = [.ref l] ∧ SqL K H l (ns.map V.int) ∧ ns.length + 1 < scanBound ∧ ∀ (p : Addr) (c : Nat), H p = none → c ≤ ns.length → Q (.ref p) (upd H p (SetO w p (fun j => decide (j ∈ ns)) c))
theorem intsAre_of : ∀ {ns : List Int} {us : List Value}, Vals (ns.map V.int) us → IntsAre us ns
  | [], _, .nil => .nil
  | n :: ns, _, .cons r t => by
    obtain ⟨k, rfl⟩ := r
    exact .cons n k (intsAre_of t)
theorem cr_setL {X : Cx} (hc : X.calm = true) : CallR X (.type "set") (rSetL X.K X.w) := by
  intro pins s σ H xs us Q I r h
  obtain ⟨l, ns, rfl, hq, few, q⟩ := h
  rw [Vals.ref1 r]
  obtain ⟨its, ri, pl, hz⟩ := I.list hq
  refine setL_call (I.ok.hd hc) pl.isList (by simpa using intsAre_of ri) few fun h2 tk c hS hc hk => ?_
  have hn : H s.heap.objs.size = none := I.hok.fresh (Nat.le_refl _)
  exact ⟨.ref _, upd H s.heap.objs.size (SetO X.w s.heap.objs.size (fun j => decide (j ∈ ns)) c), I.laid (t' := tk) hk (Nat.le_refl _) (setO_new hS), rfl, q _ c hn hc⟩
end Mi

set_option Elab.async false
set_option linter.all false
set_option maxRecDepth 100000
set_option maxHeartbeats 1000000
namespace Mi
open PySem PySem.Spec PyProof.Rows L2
/-! ### the same, sorted -/
theorem insI_mem (x : Int) : ∀ (ys : List Int) (k : Int), k ∈ insI x ys ↔ k = x ∨ k ∈ ys
  | [], k => by simp [insI]
  | y :: ys, k => by
    unfold insI
    by_cases h1 : x < y
    · rw [if_pos h1]; simp
    · rw [if_neg h1]
      by_cases h2 : x = y
      · subst h2; simp
      · rw [if_neg h2, List.mem_cons, insI_mem x ys k, List.mem_cons]
        constructor
        · rintro (h | h | h)
          · exact .inr (.inl h)
          · exact .inl h
          · exact .inr (.inr h)
        · rintro (h | h | h)
          · exact .inr (.inl h)
          · exact .inl h
          · exact .inr (.inr h)
theorem insI_pw (x : Int) : ∀ ys : List Int, ys.Pairwise (· < ·) → (insI x ys).Pairwise (· < ·)
  | [], _ => by simp [insI]
  | y :: ys, h => by
    have ⟨h1, h2⟩ := List.pairwise_cons.mp h
    unfold insI
    by_cases c1 : x < y
    · rw [if_pos c1]
      refine List.pairwise_cons.mpr ⟨fun z hz => ?_, h⟩
      rcases List.mem_cons.mp hz with e | e
      · subst e; exact c1
      · have := h1 z e; omega
    · rw [if_neg c1]
      by_cases c2 : x = y
      · rw [if_pos c2]; exact h
      · rw [if_neg c2]
        refine List.pairwise_cons.mpr ⟨fun z hz => ?_, insI_pw x ys h2⟩
        rcases (insI_mem x ys z).mp hz with e | e
        · subst e; omega
        · exact h1 z e
theorem sortI_mem : ∀ (ys : List Int) (k : Int), k ∈ sortI ys ↔ k ∈ ys
  | [], k => Iff.rfl
  | y :: ys, k => by
    show k ∈ insI y (sortI ys) ↔ _
    rw [insI_mem, sortI_mem ys k, List.mem_cons]
theorem sortI_pw : ∀ ys : List Int, (sortI ys).Pairwise (· < ·)
  | [] => .nil
  | y :: ys => insI_pw y _ (sortI_pw ys)
theorem sorted_one : ∀ {xs ys : List Int}, xs.Pairwise (· < ·) → ys.Pairwise (· < ·) → (∀ k, k ∈ xs ↔ k ∈ ys) → xs = ys
  | [], [], _, _, _ => rfl
  | [], y :: ys, _, _, m => by have := (m y).mpr (by simp); simp at this
  | x :: xs, [], _, _, m => by have := (m x).mp (by simp); simp at this
  | x :: xs, y :: ys, h1, h2, m => by
    have ⟨a1, a2⟩ := List.pairwise_cons.mp h1
    have ⟨b1, b2⟩ := List.pairwise_cons.mp h2
    have e : x = y := by
      rcases List.mem_cons.mp ((m x).mp (by simp)) with e | e
      · exact e
      · rcases List.mem_cons.mp ((m y).mpr (by simp)) with f | f
        · exact f.symm
        · have := b1 x e
          have := a1 y f
          omega
    subst e
    rw [sorted_one a2 b2 fun k => ?_]
    constructor
    · intro hk
      rcases List.mem_cons.mp ((m k).mp (by simp [hk])) with e | e
      · have := a1 k hk; omega
      · exact e
    · intro hk
      rcases List.mem_cons.mp ((m k).mpr (by simp [hk])) with e | e
      · have := b1 k hk; omega
      · exact e
theorem sortI_len (ys : List Int) : (sortI ys).length ≤ ys.length := by
  have one : ∀ (x : Int) (zs : List Int), (insI x zs).length ≤ zs.length + 1 := fun x zs => by
    induction zs with
    | nil => simp [insI]
    | cons z zs ih =>
      unfold insI
      split
      · simp
      · split
        · simp
        · simp only [List.length_cons]; omega
  induction ys with
  | nil => exact Nat.le_refl _
  | cons y ys ih =>
    have := one y (sortI ys)
    show (insI y (sortI ys)).length ≤ _
    simp only [List.length_cons]; omega
theorem ints_rws {S : S4} {K : PySem.W.Frag} : ∀ (ns : List Int), Rws K S.U S.ρ S.F (ns.map V.int) (ns.map W.int)
  | [] => rfl
  | n :: ns => ⟨_, _, rfl, rfl, ints_rws ns⟩
theorem intsW_rws {S : S4} {K : PySem.W.Frag} : ∀ {xs : List W} {ns : List Int} {vs : List V}, RwsS K S vs xs → intsW xs = some ns → vs = ns.map V.int
  | [], ns, vs, r, e => by
    cases e
    exact r
  | x :: xs, ns, vs, r, e => by
    obtain ⟨v, rest, rfl, q, t⟩ := r
    cases x with
    | int i =>
      cases z : intsW xs with
      | none => unfold intsW at e; rw [z] at e; cases e
      | some ms =>
        unfold intsW at e
        rw [z] at e
        cases e
        rw [intsW_rws t z]
        have q : v = .int i := q
        rw [q]
        rfl
    | _ => unfold intsW at e; cases e
section
variable {X : Cx} {G : Gd} {Wx : WX} {p q pos pos2 : Pos}
theorem te_sset {a : Expr} {m : ME} (hc : X.calm = true) (g1 : Gl X "sorted") (m1 : X.mg "sorted" = none) (g2 : Gl X "set") (m2 : X.mg "set" = none) (h1 : PE X a (tE X.K G Wx m)) (hs : starEach [a] X.env = [(false, eval a X.env)]) :
    PE X (.Call (.Name "sorted" p) [.Call (.Name "set" q) [a] [] pos2] [] pos) (tE X.K G Wx (.b1 .sset m)) := by
  have ha : PA X [a] (tCons (tE X.K G Wx m) tNil) := pa_cons h1 pa_nil hs
  have hb : PE X (.Call (.Name "set" q) [a] [] pos2) (tCB (rSetL X.K X.w) (tCons (tE X.K G Wx m) tNil)) := pe_callTy (cr_setL hc) g2 m2 boot_set ha (by decide) (by decide) hs rfl
  refine (pe_callB (cr_sortedSet hc) g1 m1 (by decide +kernel) (pa_cons hb pa_nil rfl) (by decide) (by decide) rfl rfl).imp fun σ H Q ⟨Γ, S, eH, k, re, h⟩ => ?_
  subst eH
  unfold evE at h
  refine tE_bind k re h fun v S1 w t1 r re1 h1 => ?_
  obtain ⟨w', e, h1⟩ := Pst.lift h1
  have e : ((seqL S1.st w).bind fun p => (intsW p.2).bind fun ns => if ns.length < 63 then some (W.lst .fz ((sortI ns).map .int)) else none) = some w' := e
  cases z : seqL S1.st w with
  | none => rw [z] at e; cases e
  | some pq =>
    obtain ⟨kk, xs⟩ := pq
    rw [z] at e
    have e : ((intsW xs).bind fun ns => if ns.length < 63 then some (W.lst .fz ((sortI ns).map .int)) else none) = some w' := e
    cases zi : intsW xs with
    | none => rw [zi] at e; cases e
    | some ns =>
      rw [zi] at e
      have e : (if ns.length < 63 then some (W.lst .fz ((sortI ns).map .int)) else none) = some w' := e
      by_cases few : ns.length < 63
      · rw [if_pos few] at e
        cases e
        obtain ⟨l, vs, e1, sq, _, ll, t⟩ := seqL_rw t1.ok r z
        have ev : vs = ns.map V.int := intsW_rws t zi
        subst e1 ev
        refine ⟨l, ns, rfl, sq, by unfold scanBound; omega, fun p1 c hp hcl => ?_⟩
        refine ⟨p1, fun j => decide (j ∈ ns), c, rfl, upd_same, by omega, fun ms p2 pw mem len hp2 => ?_⟩
        obtain rfl : ms = sortI ns := sorted_one pw (sortI_pw ns) fun k => by rw [mem k, sortI_mem]; simp
        have F1 : S1.F p1 = none := by
          cases y : S1.F p1 with
          | none => rfl
          | some o => have := t1.ok.sub _ _ y; rw [hp] at this; cases this
        have L1 : ¬ Live S1 p1 := fun ⟨n, o, z1, z2⟩ => by
          obtain ⟨_, ro⟩ := t1.ok.liv n o p1 z1 z2
          obtain ⟨x, hx⟩ : ∃ x, S1.H p1 = some x := by
            cases o with
            | lst _ => obtain ⟨_, hh, _⟩ := ro; exact ⟨_, hh⟩
            | ins _ _ => obtain ⟨_, _, hh, _⟩ := ro; exact ⟨_, hh⟩
            | dct _ => obtain ⟨_, hh, _⟩ := ro; exact ⟨_, hh⟩
            | tbl _ => obtain ⟨_, hh, _⟩ := ro; exact ⟨_, hh⟩
          rw [hp] at hx; cases hx
        have tp := (Tr.refl t1.ok).poke hp F1 L1 (SetO X.w p1 (fun j => decide (j ∈ ns)) c)
        have ln : ((sortI ns).map V.int).length ≤ lim := by
          rw [List.length_map]
          have := sortI_len ns
          unfold lim; omega
        have t4 := tp.ok.put (o := HO.lst ((sortI ns).map V.int)) hp2
        have rr : RwsS X.K (S1.poke p1 (SetO X.w p1 (fun j => decide (j ∈ ns)) c)) ((sortI ns).map V.int) ((sortI ns).map W.int) := ints_rws (sortI ns)
        have rn := rw_newL (S' := S1) tp.ok hp2 rr ln
        exact Pst.done (S := (S1.poke p1 (SetO X.w p1 (fun j => decide (j ∈ ns)) c)).put p2 (.lst ((sortI ns).map V.int))) (Pst.later h1 (tp.trans t4)) t4.ok rn
      · rw [if_neg few] at e; cases e
end
end Mi

set_option Elab.async false
set_option linter.all false
set_option maxRecDepth 100000
set_option maxHeartbeats 1000000
/-! Mini Python: instances of a class that has no __init__ of its own. -/
namespace L2
open PySem PySem.Spec PyProof.Rows
/-- what a class must have to be made by object's __init__ -/
structure Bare (K : PySem.W.Frag) (C : Addr) : Prop where
  makes : PySem.W.makesIn K C = true
  init : PySem.W.findIn K (.ref C) "__init__" = some (some (.builtin "object.__init__"))
  kp : PySem.W.keepIn K (.ref C) = true
def tBare (C : Addr) : TE := fun σ H Q => ∀ y dx, H y = none → H dx = none → dx ≠ y → Q (.ref y) (upd (upd H dx (.own y)) y (.ins C dx []))
section
variable {X : Cx} {C : Addr} {x : Str} {p pos : Pos}
theorem pe_bare (M : Bare X.K C) (hg : Gl X x) (hm : X.mg x = some (.ref C)) (hdb : (x == ("__debug__" : Str)) = false) : PE X (.Call (.Name x p) [] [] pos) (tBare C) := by
  refine ⟨fun pins s σ H Q I h => ?_⟩
  refine wpAny_Call_Name_kw (ld_glob I hg hm ?_ hdb)
  refine PySem.W.callWith_K0 I.kIn M.kp ?_
  have hq := h (s.heap.objs.size + 1) s.heap.objs.size (I.hok.fresh (Nat.le_succ _)) (I.hok.fresh (Nat.le_refl _)) (Nat.ne_of_lt (Nat.lt_succ_self _))
  have I2 := Inv.made (C := C) I
  have Y := PySem.W.makes_of (M := model X.prog X.w) I.kIn M.makes
  refine wpAny_call (make_map0 I.kIn M.makes M.init (fun self => PySem.W.Looks.of_pure (PySem.W.oi_bind self)) ?_)
  have ho : ((s.heap.push PySem.W.emptyDict).push (PySem.W.instObj C s.heap.objs.size)).get? (s.heap.objs.size + 1) = some (PySem.W.instObj C s.heap.objs.size) := by
    have := Heap.get?_push_size (s.heap.push PySem.W.emptyDict) (o := PySem.W.instObj C s.heap.objs.size) rfl
    rwa [Heap.size_push] at this
  have t1 : PySem.W.Looks (model X.prog X.w) ((s.heap.push PySem.W.emptyDict).push (PySem.W.instObj C s.heap.objs.size)) (typeOf (.ref (s.heap.objs.size + 1))) (.ref C) := (PySem.W.Looks.ld ho).andThen .now
  have t2 : PySem.W.Looks (model X.prog X.w) ((s.heap.push PySem.W.emptyDict).push (PySem.W.instObj C s.heap.objs.size)) (isInstance (.ref (s.heap.objs.size + 1)) (.type "object")) true := t1.andThen (Y.top.keeps fun b o e => Heap.get?_push_of_some _ (Heap.get?_push_of_some _ e))
  refine codeAny_call_builtin PySem.W.oi_plain PySem.W.entry_oi (@PySem.W.check_slot (model X.prog X.w) _ _ _ "object.__init__" "object" "__init__" (.ref (s.heap.objs.size + 1)) [] [] _ PySem.W.oi_kind PySem.W.oi_split t2 (PySem.W.oi_args (.ref (s.heap.objs.size + 1))) ?_)
  rw [PySem.W.oi_run]
  exact wpAny_pure (And.intro rfl ⟨V.ref (s.heap.objs.size + 1), _, I2, rfl, hq⟩)
end
end L2
namespace Mi
open PySem PySem.Spec PyProof.Rows L2
section
variable {X : Cx} {G : Gd} {Wx : WX} {p pos : Pos}
theorem te_mk0 {c : Nat} {x : Str} (M : Bare X.K (G.ca c)) (hg : Gl X x) (hm : X.mg x = some (.ref (G.ca c))) (hdb : (x == ("__debug__" : Str)) = false) : PE X (.Call (.Name x p) [] [] pos) (tE X.K G Wx (.mk0 c)) :=
  (pe_bare M hg hm hdb).imp fun σ H Q ⟨Γ, S, eH, o, re, h⟩ => by
    subst eH
    unfold evE at h
    intro x dx hx hdx hne
    have t2 := o.hid (p := dx) (o := HO.own x) hdx
    have hx2 : (S.hid dx (.own x)).H x = none := by
      show upd S.H dx (.own x) x = none
      rw [upd_ne (Ne.symm hne)]; exact hx
    have t3 := t2.ok.alloc (p := x) (o := HO.ins (G.ca c) dx []) (ob := .ins c []) hx2 fun S' e1 e2 _ m => ⟨dx, [], e2, rfl⟩
    refine h (.ref x) ((S.hid dx (.own x)).alloc x (.ins (G.ca c) dx []) (.ins c [])) rfl (t2.trans t3) ⟨x, rfl, ?_⟩
    show (S.ρ ++ [x])[S.st.length]? = some x
    rw [← o.len]
    simp
end
end Mi

set_option Elab.async false
set_option linter.all false
set_option maxRecDepth 100000
set_option maxHeartbeats 1000000
/-! Mini Python: xs.remove(x), x any data that is there. -/
namespace L2
open PySem PySem.Spec PyProof.Rows
section
variable {X : Cx}
def rRemD (K : PySem.W.Frag) : V → List V → Hp → VK → Prop := fun x xs H Q => ∃ (a : Addr) (vs : List V) (y : V) (d : PyData) (ds : List PyData) (j : Nat) (z : PyData), x = .ref a ∧ xs = [y] ∧ H a = some (.lst vs) ∧ Dp K H (.ref a) (.list ds) ∧ Dp K H y d ∧
  SeqAt.shaped (.list ds) = true ∧ SeqAt.shaped d = true ∧ ds[j]? = some z ∧ PyData.eqv z d = true ∧ (∀ (m : Nat) (z' : PyData), m < j → ds[m]? = some z' → PyData.eqv z' d = false) ∧ Q .non (upd H a (.lst (vs.eraseIdx j)))
theorem mt_removeD (hu : X.A.units + 65 < cLine) : MtM X "list.remove" (rRemD X.K) := by
  intro pins s σ H x xs v us Q I rx rxs h
  obtain ⟨a, vs, y, d, ds, j, z, rfl, rfl, hH, hl, hy, sl, sd, hz, hzj, hno, q⟩ := h
  cases rx
  obtain ⟨uy, rfl, ry⟩ := rxs.one
  obtain ⟨bs, r1⟩ := Dp.reads I d y uy hy ry
  have hxs : PyData.canLayAll0 ds = true := SeqAt.canLay_of_shaped sl
  have hroom : X.A.units + 1 + min (PyData.depthAll ds) d.depth < cLine := room_in_shaped sd hu
  obtain ⟨z0, its, n, r, hln, e⟩ := I.lstM hH
  cases hl with
  | lst hs ha =>
    obtain ⟨its', rv, ⟨o', n', ho, hc, hdn, hdt⟩, hlen'⟩ := I.list hs
    have e3 := congrArg Obj.data (Option.some.inj (ho.symm.trans e))
    rw [hdt] at e3
    injection e3 with e4 e5
    have e6 : its' = its := by simpa using congrArg Array.toList e4
    subst e6
    obtain ⟨as, h4⟩ := Dp.readsAll I ds _ its' ha rv
    have hn : its'.length = ds.length := SeqAt.ReadsAll.length ds its' as h4
    have hmap : its'.map (SeqAt.readOf s.heap) = ds := SeqAt.readsAll_map ds its' as hxs h4
    have hsl := sizeLine_eq
    obtain ⟨hjd, _⟩ := List.getElem?_eq_some_iff.mp hz
    have hjl : j < its'.length := by omega
    have hj : j < its'.toArray.size := by simpa using hjl
    have at_ : ∀ (m : Nat) (hm : m < its'.toArray.size) (z' : PyData), ds[m]? = some z' → SeqAt.readOf s.heap its'.toArray[m] = z' := by
      intro m hm z' hz'
      have hml : m < its'.length := by simpa using hm
      rw [← hmap, List.getElem?_map, List.getElem?_eq_getElem hml] at hz'
      have e1 : SeqAt.readOf s.heap its'[m] = z' := Option.some.inj (show some (SeqAt.readOf s.heap its'[m]) = some z' from hz')
      simpa using e1
    have hsz : its'.toArray.size ≤ sizeLine := by rw [List.size_toArray, ← hln]; exact z0
    refine call_meets PySem.F.slot_list_remove ⟨_, e, rfl⟩ PySem.F.entry_list_remove (PySem.F.args_list_remove_2 _ _)
      (SeqAt.list_removeAt a its'.toArray n none #[] uy (fun u => PyData.eqv (SeqAt.readOf s.heap u) d) j hj ?_ ?_ hsz) ⟨e, SeqAt.items_eqAt (vs := its'.toArray) (show ReadsAll s.heap its'.toArray.toList ds as from h4) r1 hxs (SeqAt.canLay_of_shaped sd) hroom, ?_⟩
    · show PyData.eqv (SeqAt.readOf s.heap its'.toArray[j]) d = true
      rw [at_ j hj z hz]
      exact hzj
    · intro m hm hmj
      have hmd : m < ds.length := by omega
      have hz' : ds[m]? = some ds[m] := List.getElem?_eq_getElem hmd
      show PyData.eqv (SeqAt.readOf s.heap its'.toArray[m]) d = false
      rw [at_ m hm _ hz']
      exact hno m _ hmj hz'
    · refine ⟨.non, _, I.lset (its' := its'.eraseIdx j) (t' := s.toks) hH e ?_ (r.eraseIdx j) ?_, rfl, q⟩
      · show its'.toArray.eraseIdxIfInBounds j = (its'.eraseIdx j).toArray
        rw [List.eraseIdxIfInBounds_toArray]
      · exact Nat.le_trans (List.length_eraseIdx_le vs j) z0
end
end L2
namespace Mi
open PySem PySem.Spec PyProof.Rows L2
section
variable {X : Cx} {G : Gd} {Wx : WX} {p pos : Pos}
theorem toDs_get : ∀ (xs : List W) (j : Nat), (toDs xs)[j]? = (xs[j]?).map toD
  | [], j => by simp [toDs]
  | x :: xs, 0 => by simp [toDs]
  | x :: xs, j + 1 => by
    have := toDs_get xs j
    simpa [toDs] using this
theorem Rws.erase {U : UU} {ρ : List Addr} {F : Hp} : ∀ {vs : List V} {ws : List W} {K : PySem.W.Frag}, Rws K U ρ F vs ws → ∀ j, Rws K U ρ F (vs.eraseIdx j) (ws.eraseIdx j)
  | vs, [], K, h, j => by
    have h : vs = [] := h
    subst h
    simp only [List.eraseIdx_nil]
    rfl
  | vs, w :: ws, K, ⟨v, r, e, q, t⟩, 0 => by
    subst e
    exact t
  | vs, w :: ws, K, ⟨v, r, e, q, t⟩, j + 1 => by
    subst e
    exact ⟨v, r.eraseIdx j, rfl, q, Rws.erase t j⟩
theorem ts_rem {o e : Expr} {mo m : ME} {apos cpos : Pos} (hu : X.A.units + 65 < cLine) (h1 : PE X o (tE X.K G Wx mo)) (h2 : PE X e (tE X.K G Wx m)) (hbase : attributeBase o "remove" X.env (eval o X.env) = eval o X.env) (hline : (apos.endLine == cpos.line) = true) (hse : starEach [e] X.env = [(false, eval e X.env)]) (hs : swapsWith (.Call (.Attribute o "remove" apos) [e] [] cpos) none pos.line X.env = pure false) :
    PS X (.Expr (.Call (.Attribute o "remove" apos) [e] [] cpos) pos) (tS X.K G Wx (.rem mo m)) :=
  (ps_expr (pe_bm PySem.F.plainAttrs_list PySem.F.slot_list_remove PySem.F.type_list_remove (mt_removeD hu) h1 (pa_cons h2 pa_nil hse) hbase (by rw [hse]; rfl) hline hse rfl) hs).imp fun D σ H ⟨Γ, S, eH, k, re, h⟩ => by
    subst eH
    unfold evS at h
    refine ⟨Γ, S, rfl, k, re, (thenS_rd (Rl := RwS X.K) re h).mono fun v H' ⟨S1, w1, e, t1, r1, _, h1⟩ => ?_⟩
    subst e
    cases hl : isLoc S1.st w1 with
    | none => rw [hl] at h1; exact False.elim h1
    | some l =>
      rw [hl] at h1
      obtain ⟨xs, rfl, hx⟩ := isLoc_is hl
      obtain ⟨a, ev, ea⟩ := r1
      obtain ⟨_, vs, hv, lv, rv⟩ := t1.ok.liv l _ a hx ea
      subst ev
      refine ⟨.inl ⟨rfl, vs, SqL.of hv⟩, ?_⟩
      have re1 := re.mono t1
      refine tS_bind t1.ok re1 h1 fun y S2 w2 t2 r2 re2 h2 => ?_
      cases hx2 : S2.st[l]? with
      | none => simp only [remW, hx2] at h2; exact False.elim h2
      | some ob => cases ob with
        | none => simp only [remW, hx2] at h2; exact False.elim h2
        | some ob => cases ob with
          | lst ys =>
            have ea2 := t2.ext l a ea
            obtain ⟨_, us, hu2, lu, ru⟩ := t2.ok.liv l _ a hx2 ea2
            have ed : deep S2.st 8 (.loc l) = .lst .vw (ys.map (deep S2.st 7)) := by simp only [deep, hx2]
            cases hc : dOk 8 (.lst .vw (ys.map (deep S2.st 7))) && dOk 8 (deep S2.st 8 w2) with
            | false => simp only [remW, hx2, hc] at h2; exact False.elim h2
            | true =>
              obtain ⟨c1, c2⟩ := Bool.and_eq_true_iff.mp hc
              cases hj : (ys.map (deep S2.st 7)).findIdx? (fun z => eqW z (deep S2.st 8 w2)) with
              | none => simp only [remW, hx2, hc, hj] at h2; exact False.elim h2
              | some j =>
                simp only [remW, hx2, hc, hj] at h2
                have h2 : PstS X.K G Wx D S2 (.nx Γ (S2.st.set l (some (.lst (ys.eraseIdx j))))) := h2
                obtain ⟨hlt, hyes, hno⟩ := List.findIdx?_eq_some_iff_getElem.mp hj
                have dl := dp_of t2.ok 8 (.ref a) (.loc l) ⟨a, rfl, ea2⟩ (by rw [ed]; exact c1)
                rw [ed] at dl
                have dy := dp_of t2.ok 8 y w2 r2 c2
                have t3 : Tr X.K G.ca S2 (S2.setSt l a (.lst (us.eraseIdx j)) (.lst (ys.eraseIdx j))) := Tr.setSt t2.ok hx2 ea2 ⟨us.eraseIdx j, upd_same, Nat.le_trans (List.length_eraseIdx_le us j) lu, Rws.erase ru j⟩
                refine ⟨a, us, y, _, _, j, toD ((ys.map (deep S2.st 7))[j]), rfl, rfl, hu2, dl, dy, dOk_shaped c1, dOk_shaped c2, ?_, ?_, fun m z' hm hz' => ?_, h2 σ (S2.setSt l a (.lst (us.eraseIdx j)) (.lst (ys.eraseIdx j))) rfl t3 (re2.mono t3)⟩
                · rw [toDs_get, List.getElem?_eq_getElem hlt]; rfl
                · rw [eqv_toD]; exact hyes
                · rw [toDs_get] at hz'
                  have hml : m < (ys.map (deep S2.st 7)).length := by omega
                  rw [List.getElem?_eq_getElem hml] at hz'
                  have hz' : toD ((ys.map (deep S2.st 7))[m]) = z' := Option.some.inj hz'
                  rw [← hz', eqv_toD]
                  have := hno m hm
                  simpa using this
          | ins c fs => simp only [remW, hx2] at h2; exact False.elim h2
          | dct kvs => simp only [remW, hx2] at h2; exact False.elim h2
          | tbl q => simp only [remW, hx2] at h2; exact False.elim h2
end
end Mi

set_option Elab.async false
set_option linter.all false
set_option maxRecDepth 100000
set_option maxHeartbeats 1000000
/-! Mini Python: a call apart whose answer is a new list that may change. -/
namespace Mi
open PySem PySem.Spec PyProof.Rows L2
section
variable {G : Gd} {Wx : WX}
theorem res_rws {S S' : S4} {K : PySem.W.Frag} {ca : Cg} (k : Ok K ca S) (t : Tr K ca S.pure S') (d : Nat) : ∀ (ws : List W) (vs : List V), ws.all (resB S.st.length d) = true → RwsS K S' vs ws → RwsS K (S.back S') vs ws
  | [], vs, _, r => r
  | w :: ws, vs, h, ⟨v, r', e, q, tt⟩ => by
    rw [List.all_cons, Bool.and_eq_true] at h
    exact ⟨v, r', e, res_rw k t d v w h.1 q, res_rws k t d ws r' h.2 tt⟩
theorem pureM_rd {f : List W → Store → R W} {ws : List W} {S : S4} {vs : List V} {σ : L2.St} {Q : VK} {K : PySem.W.Frag} (k : Ok K G.ca S) (r : RwsS K S vs ws) (h : Pst K G Wx (RwS K) σ S (pureCallM f ws S.st) Q) :
    Pst K G (fun c d _ H => Wx c d σ H) (RwS K) [] S.pure (f (ws.map (snap S.st)) S.pure.st) Q := by
  unfold pureCallM at h
  show Pst K G _ (RwS K) [] S.pure (f (ws.map (snap S.st)) (dead S.st)) Q
  cases q : f (ws.map (snap S.st)) (dead S.st) with
  | err => rw [q] at h; exact h
  | exc c st' =>
    rw [q] at h
    intro S' e t
    exact h (S.back S') rfl (Tr.back k t)
  | ok w st' =>
    rw [q] at h
    cases w with
    | loc n =>
      have h : Pst K G Wx (RwS K) σ S (match st'[n]? with
        | some (some (.lst xs)) => if S.st.length ≤ n ∧ xs.all (resB S.st.length 8) = true then R.ok (.loc S.st.length) (S.st ++ [some (.lst xs)]) else .err
        | _ => .err) Q := h
      intro v S' e t rv
      subst e
      cases q2 : S'.st[n]? with
      | none => rw [q2] at h; exact False.elim h
      | some ob => cases ob with
        | none => rw [q2] at h; exact False.elim h
        | some ob => cases ob with
          | ins c fs => rw [q2] at h; exact False.elim h
          | dct kvs => rw [q2] at h; exact False.elim h
          | tbl q => rw [q2] at h; exact False.elim h
          | lst xs =>
            rw [q2] at h
            by_cases hc : S.st.length ≤ n ∧ xs.all (resB S.st.length 8) = true
            · have h : Pst K G Wx (RwS K) σ S (R.ok (.loc S.st.length) (S.st ++ [some (.lst xs)])) Q := by rw [← if_pos (c := S.st.length ≤ n ∧ xs.all (resB S.st.length 8) = true) (t := R.ok (W.loc S.st.length) (S.st ++ [some (O.lst xs)])) (e := R.err) hc]; exact h
              obtain ⟨a, ev, ea⟩ := rv
              subst ev
              obtain ⟨hF, us, hu, lu, ru⟩ := t.ok.liv n _ a q2 ea
              have tb := Tr.back k t
              have hD : S.H a = none := (t.new a ⟨n, _, q2, ea⟩).resolve_left pure_nolive
              have nl : ¬ Live S a := fun z => by
                obtain ⟨x, hx⟩ := k.tracked z
                rw [hD] at hx; cases hx
              have t2 := tb.keepP (D := a) hD (by rw [back_F nl]; exact hF) nl (ob := .lst xs) ⟨us, hu, lu, Rws.mono (fun _ _ q => get_old q) (Same.refl _) _ _ (res_rws k t 8 xs us hc.2 ru)⟩
              refine h (.ref a) ((S.back S').keepP a (.lst xs)) rfl t2 ⟨a, rfl, ?_⟩
              show (S.ρ ++ [a])[S.st.length]? = some a
              rw [← k.len]
              simp
            · have h : Pst K G Wx (RwS K) σ S (if S.st.length ≤ n ∧ xs.all (resB S.st.length 8) = true then R.ok (.loc S.st.length) (S.st ++ [some (.lst xs)]) else .err) Q := h
              rw [if_neg hc] at h
              exact False.elim h
    | _ => exact False.elim h
end
section
variable {X : Cx} {G : Gd} {Wx : WX} {p pos : Pos}
theorem te_callM {i k np : Nat} {f : Addr} {fd : FuncData} {ps : List Str} {x : Str} {es : List Expr} {ms : List ME} (F : FnOk X.prog X.w X.K X.mg X.base (L2N.CX X.prog X.w) k f fd ps (spF X.K G (G.Φ i) np)) (hr : Room k X.A) (tk : L2N.Takes X Wx)
    (hg : Gl X x) (hm : X.mg x = some (.ref f)) (hk : PySem.W.keepIn X.K (.ref f) = true) (hb : Binds X.K fd ps []) (hdb : (x == ("__debug__" : Str)) = false) (hn : ms.length = np) (hes : es.length = ms.length)
    (ha : PA X es (tA X.K G Wx ms)) (hs : ∀ e ∈ es, ∀ r, starEach (e :: r) X.env = (false, eval e X.env) :: starEach r X.env) : PE X (.Call (.Name x p) es [] pos) (tE X.K G Wx (.callM i ms)) := by
  have hx : ∀ σ, PassesAt (L2N.CX X.prog X.w) X σ (fun c d H => Wx c d σ H) := fun σ => L2N.passAt tk σ
  have rd : ∀ (σ : L2.St) (H : Hp) (Q : VK), tE X.K G Wx (.callM i ms) σ H Q → tA X.K G Wx ms σ H fun vs H1 => spF X.K G (G.Φ i) np (vs ++ []) H1 Q (fun c d H => Wx c d σ H) := fun σ H Q ⟨Γ, S, eH, o, re, h⟩ => by
    subst eH
    unfold evE at h
    refine ⟨Γ, S, rfl, o, re, (Pst.bind (Rl := RwsS X.K) h).mono fun vs H' ⟨S1, ws, e, t1, r, q, h1⟩ => ?_⟩
    subst e
    have hl := evEs_length q
    rw [List.append_nil]
    refine ⟨by rw [r.length, hl, hn], ?_⟩
    exact ⟨S1.pure, ws.map (snap S1.st), rfl, t1.ok.pure, snaps_rw t1.ok r, pureM_rd t1.ok r h1⟩
  cases es with
  | nil =>
    refine ⟨fun pins s σ H Q I h => ?_⟩
    refine wpAny_Call_Name_kw (ld_glob I hg hm ?_ hdb)
    have h2 := rd σ H Q h
    have ms0 : ms = [] := List.eq_nil_of_length_eq_zero hes.symm
    subst ms0
    obtain ⟨Γ, S, eH, o, re, h3⟩ := h2
    subst eH
    have h4 := Pst.done (Rl := RwsS X.K) (v := []) (show Pst X.K G Wx (RwsS X.K) σ S (.ok [] S.st) _ by unfold evEs at h3; exact h3) o rfl
    exact PySem.W.callWith_K0 I.kIn hk (run_fnSD (E := fun σ c d H => Wx c d σ H) (us := []) (vs := []) F hr hb .nil (hx σ) I .nil h4)
  | cons e es =>
    exact (pe_callSD F hr hg hm hk hb .nil hx ha hdb (hs e List.mem_cons_self es) (stars fun e' he' => hs e' (List.mem_cons_of_mem _ he'))).imp rd
end
end Mi

set_option Elab.async false
set_option linter.all false
set_option maxRecDepth 100000
set_option maxHeartbeats 1000000
/-! Mini Python: xs.pop() and xs.clear() as statements. -/
namespace Mi
open PySem PySem.Spec PyProof.Rows L2
section
variable {X : Cx} {G : Gd} {Wx : WX} {p pos : Pos}
theorem ts_pop {o : Expr} {mo : ME} {apos cpos : Pos} (h1 : PE X o (tE X.K G Wx mo)) (hbase : attributeBase o "pop" X.env (eval o X.env) = eval o X.env) (hline : (apos.endLine == cpos.line) = true) (hs : swapsWith (.Call (.Attribute o "pop" apos) [] [] cpos) none pos.line X.env = pure false) :
    PS X (.Expr (.Call (.Attribute o "pop" apos) [] [] cpos) pos) (tS X.K G Wx (.pop mo)) :=
  (ps_expr (pe_bm0 PySem.F.plainAttrs_list PySem.F.slot_list_pop PySem.F.type_list_pop mt_pop h1 hbase hline) hs).imp fun D σ H ⟨Γ, S, eH, k, re, h⟩ => by
    subst eH
    unfold evS at h
    refine ⟨Γ, S, rfl, k, re, (thenS_rd (Rl := RwS X.K) re h).mono fun v H' ⟨S1, w1, e, t1, r1, _, h1⟩ => ?_⟩
    subst e
    cases hl : isLoc S1.st w1 with
    | none => rw [hl] at h1; exact False.elim h1
    | some l =>
      rw [hl] at h1
      obtain ⟨xs, rfl, hx⟩ := isLoc_is hl
      obtain ⟨a, ev, ea⟩ := r1
      obtain ⟨_, vs, hv, lv, rv⟩ := t1.ok.liv l _ a hx ea
      subst ev
      refine ⟨.inl ⟨rfl, vs, SqL.of hv⟩, ?_⟩
      have re1 := re.mono t1
      simp only [popW, hx] at h1
      have hlen := rv.length
      by_cases hz : xs.length = 0
      · rw [if_pos hz] at h1; exact False.elim h1
      · rw [if_neg hz] at h1
        have h1 : PstS X.K G Wx D S1 (.nx Γ (S1.st.set l (some (.lst (xs.eraseIdx (xs.length - 1)))))) := h1
        have hy : vs[vs.length - 1]? = some vs[vs.length - 1] := List.getElem?_eq_getElem (by omega)
        have t3 : Tr X.K G.ca S1 (S1.setSt l a (.lst (vs.eraseIdx (xs.length - 1))) (.lst (xs.eraseIdx (xs.length - 1)))) := Tr.setSt t1.ok hx ea ⟨vs.eraseIdx (xs.length - 1), upd_same, Nat.le_trans (List.length_eraseIdx_le vs _) lv, Rws.erase rv _⟩
        have ed : vs.dropLast = vs.eraseIdx (xs.length - 1) := by rw [← hlen, List.eraseIdx_length_sub_one]
        refine ⟨a, vs, vs[vs.length - 1], rfl, rfl, hv, hy, ?_⟩
        rw [ed]
        exact h1 σ (S1.setSt l a (.lst (vs.eraseIdx (xs.length - 1))) (.lst (xs.eraseIdx (xs.length - 1)))) rfl t3 (re1.mono t3)
theorem ts_clr {o : Expr} {mo : ME} {apos cpos : Pos} (h1 : PE X o (tE X.K G Wx mo)) (hbase : attributeBase o "clear" X.env (eval o X.env) = eval o X.env) (hline : (apos.endLine == cpos.line) = true) (hs : swapsWith (.Call (.Attribute o "clear" apos) [] [] cpos) none pos.line X.env = pure false) :
    PS X (.Expr (.Call (.Attribute o "clear" apos) [] [] cpos) pos) (tS X.K G Wx (.clr mo)) :=
  (ps_expr (pe_bm0 PySem.F.plainAttrs_list PySem.F.slot_list_clear PySem.F.type_list_clear mt_clear h1 hbase hline) hs).imp fun D σ H ⟨Γ, S, eH, k, re, h⟩ => by
    subst eH
    unfold evS at h
    refine ⟨Γ, S, rfl, k, re, (thenS_rd (Rl := RwS X.K) re h).mono fun v H' ⟨S1, w1, e, t1, r1, _, h1⟩ => ?_⟩
    subst e
    cases hl : isLoc S1.st w1 with
    | none => rw [hl] at h1; exact False.elim h1
    | some l =>
      rw [hl] at h1
      obtain ⟨xs, rfl, hx⟩ := isLoc_is hl
      obtain ⟨a, ev, ea⟩ := r1
      obtain ⟨_, vs, hv, lv, rv⟩ := t1.ok.liv l _ a hx ea
      subst ev
      refine ⟨.inl ⟨rfl, vs, SqL.of hv⟩, ?_⟩
      have re1 := re.mono t1
      have h1 : PstS X.K G Wx D S1 (.nx Γ (S1.st.set l (some (.lst [])))) := h1
      have t3 : Tr X.K G.ca S1 (S1.setSt l a (.lst []) (.lst [])) := Tr.setSt t1.ok hx ea ⟨[], upd_same, Nat.zero_le _, rfl⟩
      exact ⟨a, vs, rfl, rfl, hv, h1 σ (S1.setSt l a (.lst []) (.lst [])) rfl t3 (re1.mono t3)⟩
end
end Mi

set_option Elab.async false
set_option linter.all false
set_option maxRecDepth 100000
set_option maxHeartbeats 1000000
/-! Mini Python: try .. except C as e; isinstance of the caught one. -/
namespace Mi
open PySem PySem.Spec PyProof.Rows L2
def Ux.exn (x : Ux) (o : Option (Addr × Nat)) : Ux := { x with xa := o }
def Cg.exn (c : Cg) (o : Option (Addr × Nat)) : Cg := ⟨c.fn, c.x.exn o⟩
def Gd.exn (G : Gd) (o : Option (Addr × Nat)) : Gd := ⟨G.ca.exn o, G.Φ, G.sub⟩
def S4.exn (S : S4) (o : Option (Addr × Nat)) : S4 := ⟨⟨S.U.p, S.U.x.exn o⟩, S.ρ, S.F, S.st, S.H⟩
section
variable {K : PySem.W.Frag} {ca : Cg} {S : S4}
theorem live_exn {o : Option (Addr × Nat)} {b : Addr} : Live (S.exn o) b ↔ Live S b := Iff.rfl
mutual
theorem plW_ne : ∀ (w : W), plW w = true → neW w = true
  | .non, _ => rfl
  | .bl _, _ => rfl
  | .int _, _ => rfl
  | .str _, _ => rfl
  | .loc _, _ => rfl
  | .exn _, h => by cases h
  | .clo _, h => by cases h
  | .fn _ _, h => by cases h
  | .tup xs, h => plWs_ne xs h
  | .lst _ xs, h => plWs_ne xs h
theorem plWs_ne : ∀ (ws : List W), plWs ws = true → neWs ws = true
  | [], _ => rfl
  | x :: xs, h => by
    have h : (plW x && plWs xs) = true := h
    rw [Bool.and_eq_true] at h
    show (neW x && neWs xs) = true
    rw [plW_ne x h.1, plWs_ne xs h.2]
    rfl
end
mutual
theorem rw_exn {o : Option (Addr × Nat)} : ∀ (v : V) (w : W), S.U.x.xa = none ∨ neW w = true → RwS K S v w → RwS K (S.exn o) v w
  | v, .non, _, h => h
  | v, .bl b, _, h => h
  | v, .int i, _, h => h
  | v, .str s, _, h => h
  | v, .tup ws, c, h => by
    obtain ⟨a, vs, e, q, r⟩ := h
    exact ⟨a, vs, e, q, rws_exn vs ws c r⟩
  | v, .lst kk ws, c, h => by
    obtain ⟨a, vs, e, q, l, r⟩ := h
    refine ⟨a, vs, e, ?_, l, rws_exn vs ws c r⟩
    cases kk <;> exact q
  | v, .loc n, _, h => h
  | v, .exn c, hc, h => by
    obtain ⟨a, e, u⟩ := h
    rcases hc with hc | hc
    · rw [hc] at u; cases u
    · cases hc
  | v, .clo i, _, h => h
  | v, .fn i ws, c, h => by
    obtain ⟨a, q, params, body, scope, cl, cc, vs, e, f, g, r⟩ := h
    exact ⟨a, q, params, body, scope, cl, cc, vs, e, f, g, rws_exn vs ws c r⟩
theorem rws_exn {o : Option (Addr × Nat)} : ∀ (vs : List V) (ws : List W), S.U.x.xa = none ∨ neWs ws = true → RwsS K S vs ws → RwsS K (S.exn o) vs ws
  | vs, [], _, h => h
  | vs, w :: ws, c, h => by
    obtain ⟨v, r, e, q, t⟩ := h
    have c1 : S.U.x.xa = none ∨ neW w = true := c.imp_right fun z => by
      have z : (neW w && neWs ws) = true := z
      rw [Bool.and_eq_true] at z
      exact z.1
    have c2 : S.U.x.xa = none ∨ neWs ws = true := c.imp_right fun z => by
      have z : (neW w && neWs ws) = true := z
      rw [Bool.and_eq_true] at z
      exact z.2
    exact ⟨v, r, e, rw_exn v w c1 q, rws_exn r ws c2 t⟩
end
theorem rfs_exn {o : Option (Addr × Nat)} : ∀ {fv : List (Str × V)} {fs : List (Str × W)}, (S.U.x.xa = none ∨ (fs.all fun p => plW p.2) = true) → Rfs K S fv fs → Rfs K (S.exn o) fv fs
  | fv, [], _, z => z
  | fv, (f, w) :: r, c, z => by
    obtain ⟨v, rv, e, q, t⟩ := z
    exact ⟨v, rv, e, rw_exn v w (c.imp_right fun z => plW_ne _ (by rw [List.all_cons, Bool.and_eq_true] at z; exact z.1)) q, rfs_exn (c.imp_right fun z => by rw [List.all_cons, Bool.and_eq_true] at z; exact z.2) t⟩
theorem rks_exn {o : Option (Addr × Nat)} : ∀ {fv : List (Key × V)} {fs : List (Int × W)}, (S.U.x.xa = none ∨ (fs.all fun p => plW p.2) = true) → Rks K S fv fs → Rks K (S.exn o) fv fs
  | fv, [], _, z => z
  | fv, (f, w) :: r, c, z => by
    obtain ⟨v, rv, e, q, t⟩ := z
    exact ⟨v, rv, e, rw_exn v w (c.imp_right fun z => plW_ne _ (by rw [List.all_cons, Bool.and_eq_true] at z; exact z.1)) q, rks_exn (c.imp_right fun z => by rw [List.all_cons, Bool.and_eq_true] at z; exact z.2) t⟩
theorem Ok.exn (k : Ok K ca S) (o : Option (Addr × Nat)) (c : S.U.x.xa = none ∨ plS S.st = true) : Ok K (ca.exn o) (S.exn o) := by
  refine ⟨k.len, k.sub, k.vw, fun n ob a h1 h2 => ?_, k.inj, ?_, k.tt⟩
  · obtain ⟨z1, z2⟩ := k.liv n ob a h1 h2
    have c : S.U.x.xa = none ∨ plO (some ob) = true := c.imp_right fun z => List.all_eq_true.mp z _ (List.mem_of_getElem? h1)
    refine ⟨z1, ?_⟩
    cases ob with
    | lst ws => obtain ⟨vs, e, l, q⟩ := z2; exact ⟨vs, e, l, rws_exn vs ws (c.imp_right fun z => plWs_ne ws z) q⟩
    | ins cc fs => obtain ⟨dx, fv, e, q⟩ := z2; exact ⟨dx, fv, e, rfs_exn c q⟩
    | dct kvs => obtain ⟨kv, e, l, q⟩ := z2; exact ⟨kv, e, l, rks_exn c q⟩
    | tbl q => exact z2
  · show S.U.x.exn o = ca.x.exn o
    rw [k.tx]
/-- from the suite back -/
theorem Tr.unexn {S1 : S4} {o : Option (Addr × Nat)} {S3 : S4} (t0 : S.U.x.xa = none) (ca0 : ca.x.xa = none) (t : Tr K (ca.exn o) (S.exn o) S3) (pl : plS S3.st = true) : Tr K ca S (S3.exn none) := by
  have e0 : (ca.exn o).exn none = ca := by
    obtain ⟨fn, x1, x2, x3, x4⟩ := ca
    have ca0 : x1 = none := ca0
    subst ca0
    rfl
  have ok := t.ok.exn none (.inr pl)
  rw [e0] at ok
  refine ⟨?_, t.ext, t.fs, t.keep, t.new, t.thr, t.fnew, t.lenle, ok⟩
  have e := t.eU
  show (⟨S3.U.p, S3.U.x.exn none⟩ : UU) = S.U
  rw [e]
  obtain ⟨⟨p, x1, x2, x3, x4⟩, _, _, _, _⟩ := S
  have t0 : x1 = none := t0
  subst t0
  rfl
end
section
variable {K : PySem.W.Frag} {G : Gd} {S : S4} {σ : L2.St} {Γ : Env}
theorem Re.exn (r : Re K S σ Γ) (o : Option (Addr × Nat)) (c : S.U.x.xa = none ∨ neE Γ = true) : Re K (S.exn o) σ Γ := ⟨r.len, fun i w h => by
  obtain ⟨v, e, q⟩ := r.at_ i w h
  have c2 : S.U.x.xa = none ∨ neW w = true := c.imp_right fun z => by
    unfold neE at z
    exact List.all_eq_true.mp z (some w) (List.mem_of_getElem? h)
  exact ⟨v, e, rw_exn v w c2 q⟩⟩
theorem Re.clr (r : Re K S σ Γ) (i : Nat) : Re K S (σ.set i none) (Γ.set i none) := ⟨by rw [List.length_set, List.length_set]; exact r.len, fun j w h => by
  by_cases e : i = j
  · subst e
    by_cases hl : i < Γ.length
    · rw [List.getElem?_set_self hl] at h
      cases h
    · rw [List.getElem?_eq_none (by rw [List.length_set]; omega)] at h
      cases h
  · rw [List.getElem?_set_ne e] at h ⊢
    exact r.at_ j w h⟩
/-- the reading of a suite of except -/
def tSu (K : PySem.W.Frag) (G : Gd) (cb : Nat) (h : List MS) (a : Addr) (cls : Value) (d : Option Addr) : TS := fun D σ H => ∃ c, cls = .ref (G.ca c) ∧ d = none ∧ G.sub c cb = true ∧ tSs K (G.exn (some (a, c))) W0 h D σ H
/-- what the suite's end means for the statement -/
theorem tri_out {Wx : WX} {D D' : Ends} {i : Nat} {o : Out} {S1 : S4} {x : Option (Addr × Nat)} {bs cs : L2.St → Hp → Prop} (hx : S1.U.x.xa = none) (hc : G.ca.x.xa = none) (eD : D' = { nx := fun σ' H' => D.nx (σ'.set i none) H', rt := D.rt, bk := bs, ct := cs })
    (h : PstS K G Wx D S1 (triO i o)) : PstS K (G.exn x) W0 D' (S1.exn x) o := by
  subst eD
  cases o with
  | nx Γ st =>
    unfold triO at h
    simp only [] at h
    by_cases hp : (neE (Γ.set i none) && plS st) = true
    · rw [if_pos hp] at h
      rw [Bool.and_eq_true] at hp
      intro σ' S' e t re
      subst e
      have t2 : Tr K G.ca S1 (S'.exn none) := Tr.unexn (S1 := S1) hx hc t hp.2
      exact h (σ'.set i none) (S'.exn none) rfl t2 ((re.clr i).exn none (.inr hp.1))
    · rw [if_neg hp] at h
      exact False.elim h
  | rt w st =>
    unfold triO at h
    simp only [] at h
    by_cases hp : (neW w && plS st) = true
    · rw [if_pos hp] at h
      rw [Bool.and_eq_true] at hp
      intro v S' e t r
      subst e
      have t2 : Tr K G.ca S1 (S'.exn none) := Tr.unexn (S1 := S1) hx hc t hp.2
      exact h v (S'.exn none) rfl t2 (rw_exn v w (.inr hp.1) r)
    · rw [if_neg hp] at h
      exact False.elim h
  | xc c Γ st => exact False.elim h
  | er => exact False.elim h
end
section
variable {X : Cx} {G : Gd} {Wx : WX}
theorem ts_tri {x n : Str} {i cb : Nat} {body suite : List Stmt} {b₀ : Stmt} {np pos pos' : Pos} {ms hs : List MS} (hst : X.stack = X.env :: X.outer) (hf : X.env.frame = some X.env.locals) (hN : X.N.Nodup) (hi : X.N[i]? = some n) (hln : X.env.kindOf n = some .local)
    (hx : G.ca.x.xa = none) (hc : Names X x (.ref (G.ca cb))) (tk : L2N.Takes X Wx) (hcat : ∀ c, G.sub c cb = true → PySem.W.exmOne X.K (.ref (G.ca c)) (.ref (G.ca cb)) = some true)
    (hb : ∀ (W : WX) (pn : List (Addr × Obj)) (xe : Value → Shared → Prop), L2N.Takes (X.tr pn xe) W → PassesOwn (model X.prog X.w) X.A X.env xe → PSs (X.tr pn xe) body (tSs X.K G W ms))
    (hsu : ∀ (a : Addr) (oe : Obj) (c : Nat) (pn : List (Addr × Obj)), G.sub c cb = true → L2N.Zn (.ref (G.ca c)) none oe → (∃ vs, oe.data = .fields vs) → PSs (X.suite a ((a, oe) :: pn)) (b₀ :: suite) (tSs X.K (G.exn (some (a, c))) W0 hs)) :
    PS X (.Try body [.ExceptHandler (some (.Name x np)) (some n) (b₀ :: suite) pos'] [] [] pos) (tS X.K G Wx (.tri i cb ms hs)) := by
  refine (L2N.ps_try_as (Wout := Wx) (ts := tSu X.K G cb hs) hst hf hN hi hln hc tk hb fun a oe cls d pn hz hd => ?_).imp fun D σ H ⟨Γ, S, eH, k, re, h⟩ => ?_
  · refine ⟨fun pins s σ H D I hw => ?_⟩
    obtain ⟨c, rfl, rfl, hcb, q⟩ := hw
    exact (hsu a oe c pn hcb hz hd).run pins s σ H D I q
  · subst eH
    unfold evS at h
    refine ⟨Γ, S, rfl, k, re, ?_⟩
    cases q : evSs G.Φ G.sub ms Γ S.st with
    | nx Γ' st' => rw [q] at h; exact h
    | rt w st' => rw [q] at h; exact h
    | er => rw [q] at h; exact h
    | xc c Γ1 st1 =>
      rw [q] at h
      have h : PstS X.K G Wx D S (if G.sub c cb = true then triO i (evSs G.Φ G.sub hs (Γ1.set i (some (.exn c))) st1) else .er) := h
      by_cases hs' : G.sub c cb = true
      · rw [if_pos hs'] at h
        intro σ' S' e t re'
        subst e
        refine ⟨true, hcat c hs', fun _ a na => ?_, fun z => by cases z⟩
        have x0 : S'.U.x.xa = none := by rw [t.ok.tx]; exact hx
        have k1 : Ok X.K (G.exn (some (a, c))).ca (S'.exn (some (a, c))) := t.ok.exn (some (a, c)) (.inl x0)
        have r1 : Re X.K (S'.exn (some (a, c))) (σ'.set i (some (.ref a))) (Γ1.set i (some (.exn c))) := (re'.exn (some (a, c)) (.inl x0)).set (w := .exn c) ⟨a, rfl, rfl⟩
        refine ⟨c, rfl, rfl, hs', Γ1.set i (some (.exn c)), S'.exn (some (a, c)), rfl, k1, r1, ?_⟩
        exact tri_out x0 hx rfl (PstS.later h t)
      · rw [if_neg hs'] at h
        exact False.elim h
end
/-! ### isinstance of the caught one -/
/-- the context of a suite: the caught one -/
def HotE (X : Cx) (G : Gd) (c : Nat) : Prop := ∃ (X0 : Cx) (a : Addr) (oe : Obj) (pn : List (Addr × Obj)), X = X0.suite a ((a, oe) :: pn) ∧ G.ca.x.xa = some (a, c) ∧ L2N.Zn (.ref (G.ca c)) none oe ∧ ∃ vs, oe.data = .fields vs
theorem HotE.hot {X : Cx} {G : Gd} {c : Nat} (h : HotE X G c) : L2H.HotC X := by
  obtain ⟨X0, a, oe, pn, e, _, hz, vs, hd⟩ := h
  subst e
  exact ⟨(a, oe), ⟨rfl, vs, hd, hz.2.2 vs hd⟩, List.mem_cons_self⟩
section
variable {X : Cx} {G : Gd} {Wx : WX} {p p1 p2 pos : Pos}
theorem te_isx {i c : Nat} {x y : Str} {t : Ty} {cv : V} {cval : Value} (hh : HotE X G c) (C : ExcC X.K (G.ca c)) (hN : X.N[i]? = some x) (hv : Vis X.env.scope x) (hd : (x == ("__debug__" : Str)) = false) (hcd : (x == ("__classdict__" : Str)) = false)
    (hg : Gl X "isinstance") (hm : X.mg "isinstance" = none) (hy : PE X (.Name y p2) (tC cv)) (hcv : ∀ u, RelV cv u → u = cval) (hk : ∃ b, isxW G.sub c t = some (.bl b) ∧ PySem.W.kitOne X.K (.ref (G.ca c)) cval = some b) :
    PE X (.Call (.Name "isinstance" p) [.Name x p1, .Name y p2] [] pos) (tE X.K G Wx (.isx i t)) := by
  obtain ⟨X0, a, oe, pn, eX, hxa, hz, hf⟩ := hh
  subst eX
  obtain ⟨b, hb1, hb2⟩ := hk
  refine (pe_callB (call_isE C hz.zc hf) hg hm (by decide +kernel) (pa_cons (te_var (G := G) (Wx := Wx) hN hv hd hcd) (pa_cons hy pa_nil rfl) rfl) (by decide) (by decide) rfl rfl).imp fun σ H Q ⟨Γ, S, eH, k, re, h⟩ => ?_
  subst eH
  unfold evE at h
  cases q : Γ[i]? with
  | none => simp only [q] at h; exact False.elim h
  | some ow => cases ow with
    | none => simp only [q] at h; exact False.elim h
    | some w => cases w with
      | exn c' =>
        simp only [q] at h
        obtain ⟨v, e1, a', e2, e3⟩ := re.at_ i _ q
        rw [k.tx, hxa] at e3
        cases e3
        subst e2
        refine ⟨Γ, S, rfl, k, re, ?_⟩
        have ev : evE G.Φ G.sub (.var i) Γ S.st = .ok (.exn c) S.st := by unfold evE; simp only [q]
        rw [ev]
        rw [hb1] at h
        intro v' S' e t r
        obtain ⟨a2, e4, e5⟩ := r
        rw [t.ok.tx, hxa] at e5
        cases e5
        subst e4
        exact ⟨cv, cval, b, rfl, hcv, hb2, h (.bl b) S' e t rfl⟩
      | _ => simp only [q] at h; exact False.elim h
end
end Mi

set_option Elab.async false
set_option linter.all false
set_option maxRecDepth 100000
set_option maxHeartbeats 1000000
/-! Mini Python: a comprehension over a range where an exception is handled (after HandS.Comp's own, with L2H's turns). -/
namespace Mi
open PySem PySem.Spec PyProof.Rows L2 L2H
/-- a block's context that bears the caught exception -/
abbrev blkH (X : Cx) (p : Addr × Obj) (s : Shared) (H : Hp) (scope : Scope) (cenv : PySem.Env) (fp : List Addr) : Cx := { X.blk s H scope cenv fp with pn := [p] }
section
variable {X : Cx} {p : Addr × Obj}
theorem inv_blkH {s0 : Shared} {H0 : Hp} {scope : Scope} {ce : PySem.Env} {fp : List Addr} {σ : L2.St} {H : Hp} {s : Shared} (I : Inv (X.blk s0 H0 scope ce fp) [] σ H s)
    (h : s.heap.get? p.1 = some p.2 ∧ H p.1 = none ∧ p.1 ≠ ce.locals ∧ p.1 ∉ frs X.stack ∧ ∀ v, p.2.data ≠ .cell v) : Inv (blkH X p s0 H0 scope ce fp) [] σ H s :=
  ⟨⟨I.ok.mod, I.ok.kind, I.ok.glob, I.ok.blt, I.ok.above, I.ok.inj, I.ok.has, I.ok.cab, I.ok.hd, I.ok.frames, I.ok.stk, I.ok.exf, I.ok.bs, I.ok.bsz, I.ok.noex, I.ok.exfs, I.ok.funs, I.ok.frf⟩,
    I.os, I.bare, I.base, I.loc, I.cell, I.free, I.freeC, fun q hq => by
      have e : q = p := by simpa using (show q ∈ [p] ++ ([] : List (Addr × Obj)) from hq)
      rw [e]
      exact h, I.hok, I.len⟩
theorem pe_lcH {elt tg iter : Expr} {ifs : List Expr} {scope : Scope} {own : List (Str × Nat)} {pos : Pos} {wi : TI} {g : TG} {tt : TT} {te : TE} (hp : p ∈ X.pn) (hot : Hot1 X.A p) (hN : X.N.Nodup) (hi : PIH X tg iter wi) (ok : BlkOk X.N X.env.scope scope own)
    (hg : ∀ (s : Shared) (H : Hp) (C : Addr) (cl : List (Str × Addr)) (fp : List Addr), PG (blkH X p s H scope (compEnvC scope cl C X.env) fp) tg g) (ht : ∀ (s : Shared) (H : Hp) (C : Addr) (cl : List (Str × Addr)) (fp : List Addr), PTs (blkH X p s H scope (compEnvC scope cl C X.env) fp) ifs tt)
    (he : ∀ (s : Shared) (H : Hp) (C : Addr) (cl : List (Str × Addr)) (fp : List Addr), PE (blkH X p s H scope (compEnvC scope cl C X.env) fp) elt te) (hs : ∀ x, foldedSetIterable iter X.env x = pure x) :
    PE X (.ListComp elt [⟨tg, iter, ifs, 0⟩] scope pos) (tLc wi g tt te (own.map (·.2))) := by
  refine ⟨fun pins s σ H Q I h => ?_⟩
  rw [eval_ListComp]
  have fr : ∀ y ∈ scope.names, y.2 = .free → ∃ c, X.env.cells.lookup y.1 = some c := fun y hy e => (ok.free y hy e).elim (fun k => I.ok.has _ (.inl k)) fun k => I.ok.has _ (.inr k)
  refine wpAny_comprehension_free rfl hs (closure_ok fr) ok.kind (fun y hy e => by rw [ok.uniq y hy, e]) (thn (hi.run pins s σ H _ I h) fun xv s1 hx => thn hx fun itv s2 h2 => ?_)
  obtain ⟨it, fp, tn, J, H2, e, I2, T, st2, f2, q⟩ := h2
  subst e
  refine wpAny_newObj_type (newEnv_comp ?_) (Nat.zero_le sizeLine)
  -- the list that is filled
  generalize hD : s2.heap.objs.size = D
  have hDn : H2 D = none := I2.hok.fresh (Nat.le_of_eq hD)
  obtain ⟨W, ⟨m0, w0⟩, turn⟩ := q D hDn
  generalize hs3 : ({ s2 with heap := s2.heap.push { cls := .type "list", data := .seq ([] : List Value).toArray } } : Shared) = s3
  have h3 : s3.heap = s2.heap.push { cls := .type "list", data := .seq ([] : List Value).toArray } := by rw [← hs3]
  have I3 : Inv X pins σ (upd H2 D (.lst [])) s3 := by
    subst hs3
    exact I2.laid (t' := s2.toks) (fun b o z => Heap.get?_push_of_some _ z) (Nat.le_of_eq hD) ⟨Nat.zero_le _, [], 0, .nil, by rw [← hD]; exact Heap.get?_push_size _ rfl⟩
  have old : ∀ b ∈ fp, b < s2.heap.objs.size := fun b hb => (T.obj _ _ st2 b hb).elim fun o z => Heap.lt_size z.1
  have f3 : ∀ b ∈ fp, FpOk X pins (upd H2 D (.lst [])) b ∧ b < s3.heap.objs.size := fun b hb => by
    have l := old b hb
    have z := f2 b hb
    exact ⟨⟨(upd_ne (by rw [← hD]; exact Nat.ne_of_lt l)).trans z.1, z.2⟩, by rw [h3, Heap.size_push]; exact Nat.lt_succ_of_lt l⟩
  have st3 : tn 0 s3.heap := T.keep _ _ _ st2 fun b _ o z => by rw [h3]; exact Heap.get?_push_of_some _ z
  have Ib := block_start I3 ok hN f3
  have P3 := I3.pin p (List.mem_append_left _ hp)
  have Pst : p.1 ∉ frs X.stack := fun hm => (List.mem_cons.mp (I3.stkSub p.1 hm)).elim P3.2.2.1 P3.2.2.2.1
  show codeAny _ _ (.compStart (.ListComp elt [⟨tg, iter, ifs, 0⟩] scope pos) 0 (.ref it) (.ref D) (compEnvC scope (cellsFrom (s3.heap.objs.size + 1) scope.names (cloFrom X.env.cells scope.names [])) s3.heap.objs.size X.env))
    (compPost (model X.prog X.w) X.A X.xe none (EP X pins σ Q) (.ref D) s3.heap.objs.size) { s3 with heap := pushCells (s3.heap.push { cls := .type "dict", data := .dict #[] }) scope.names }
  generalize hcl : cellsFrom (s3.heap.objs.size + 1) scope.names (cloFrom X.env.cells scope.names []) = cl at Ib ⊢
  have pg := hg s3 (upd H2 D (.lst [])) s3.heap.objs.size cl fp
  have pt := ht s3 (upd H2 D (.lst [])) s3.heap.objs.size cl fp
  have pe := he s3 (upd H2 D (.lst [])) s3.heap.objs.size cl fp
  generalize hce : compEnvC scope cl s3.heap.objs.size X.env = ce at Ib pg pt pe ⊢
  have cL : ce.locals = s3.heap.objs.size := by rw [← hce]; rfl
  have nfp : ∀ b ∈ fp, (upd H2 D (.lst [])) b = none := fun b hb => (f3 b hb).1.1
  generalize hH3 : upd H2 D (.lst []) = H3 at I3 Ib pg pt pe w0 nfp f3 P3
  generalize hs4 : ({ s3 with heap := pushCells (s3.heap.push { cls := .type "dict", data := .dict #[] }) scope.names } : Shared) = s4 at Ib ⊢
  have st4 : tn 0 s4.heap := T.keep _ _ _ st3 fun b _ o z => by subst hs4; exact pushCells_keeps _ _ _ _ (Heap.get?_push_of_some _ z)
  have I4 : Inv (blkH X p s3 H3 scope ce fp) [] (wipe σ (own.map (·.2))) H3 s4 := inv_blkH Ib ⟨by subst hs4; exact pushCells_keeps _ _ _ _ (Heap.get?_push_of_some _ P3.1), P3.2.1, by rw [cL]; exact Nat.ne_of_lt (Heap.lt_size P3.1), Pst, P3.2.2.2.2⟩
  have hc : HotC (blkH X p s3 H3 scope ce fp) := ⟨p, hot, List.mem_cons_self⟩
  have apart : ∀ b ∈ fp, p.1 ≠ b := fun b hb => (f3 b hb).1.2.2.2.2.2 p (List.mem_append_left _ hp)
  have stat : ∀ {σ' : L2.St} {H' : Hp} {s' : Shared}, Inv (blkH X p s3 H3 scope ce fp) [] σ' H' s' → (∀ b ∈ fp, H' b = none) → ∀ b ∈ fp, FpOk (blkH X p s3 H3 scope ce fp) [] H' b := fun {σ' H' s'} J n b hb =>
    ⟨n b hb, (J.ok.exf b hb).1, J.ok.exfs b hb, .inl hb, fun x c z => (J.ok.exf b hb).2 x c z, fun r hr => by
      have z : r = p := by simpa using (show r ∈ [p] ++ ([] : List (Addr × Obj)) from hr)
      rw [z]
      exact apart b hb⟩
  suffices lp : codeAny (model X.prog X.w) X.A (.compLoop (.ListComp elt [⟨tg, iter, ifs, 0⟩] scope pos) 0 (.ref it) (.ref D) ce) (compPost (model X.prog X.w) X.A X.xe none (EP X pins σ Q) (.ref D) s3.heap.objs.size) s4 from
    codeAny_compStart_list lp (T.self X.A 0 _ _ _ st4 lp)
  refine compLoop_any (fun n s' => ∃ i H', Inv (blkH X p s3 H3 scope ce fp) [] (wipe σ (own.map (·.2))) H' s' ∧ tn i s'.heap ∧ (∀ b ∈ fp, H' b = none) ∧ W i n H') ?_ m0 ⟨0, H3, I4, st4, nfp, w0⟩
  rintro n s5 ⟨i, H5, I5, st5, n5, w5⟩
  rcases turn i n H5 w5 with ⟨stop, qq⟩ | ⟨go, Nx, hNx, step⟩
  · refine thnF (T.done (blkH X p s3 H3 scope ce fp) rfl rfl rfl hc i [] s5 _ H5 (fun _ _ => False) I5 (stat I5 n5) st5 stop) fun r s6 ⟨hr, I6⟩ => ?_
    subst hr
    have I7 : Inv X pins σ H5 s6 := I3.call' (ch := fp) I6.os I6.base I6.hok I6.bare fun b hb => ⟨(f3 b hb).1.2.2.2.1, (f3 b hb).1.2.1, (f3 b hb).1.2.2.2.2.1, (f3 b hb).1.2.2.2.2.2⟩
    obtain ⟨m, hn, _⟩ := I6.loc
    have hn : s6.heap.Ns ce.locals m := hn
    have nC : H5 ce.locals = none := I6.free
    rw [cL] at hn nC
    obtain ⟨f0, f1, _, g3, g4, g5⟩ := I3.fpOk (Nat.le_refl _) nC
    exact ⟨m, hn, fun h'' sb => ⟨.ref D, H5, I7.turned (t' := s6.toks) (fun b o hb z => (sb.2 b hb).trans z) f0 f1 g3 g4 g5, rfl, qq⟩⟩
  · refine thnF (T.item (blkH X p s3 H3 scope ce fp) rfl rfl rfl hc i [] s5 _ H5 (fun _ _ => False) I5 (stat I5 n5) st5 go) fun r s6 ⟨u, hr, h6⟩ => ?_
    subst hr
    refine thnF h6 fun _ s7 ⟨x, H7, I7, r7, y7, st7, n7⟩ => ?_
    refine thnF (pg.run _ s7 _ H7 x u _ (I7.pinned (stat I7 n7) (T.obj _ _ st7)) r7 (step x H7 y7)) fun _ s8 ⟨σ8, H8, I8, hw8, q8⟩ => ?_
    refine thnF (pt.run _ s8 σ8 H8 _ I8 q8) fun b s9 ⟨H9, I9, q9⟩ => ?_
    have fin : ∀ {s' : Shared} {H' : Hp}, Inv (blkH X p s3 H3 scope ce fp) ([] ++ pinsAt fp s7.heap) σ8 H' s' → Nx H' → ∃ m, m < n ∧ ∃ i H', Inv (blkH X p s3 H3 scope ce fp) [] (wipe σ (own.map (·.2))) H' s' ∧ tn i s'.heap ∧ (∀ b ∈ fp, H' b = none) ∧ W i m H' := fun {s' H'} J nx => by
      obtain ⟨m', hm, w'⟩ := hNx H' nx
      have pin : ∀ b ∈ fp, ∀ o, s7.heap.get? b = some o → s'.heap.get? b = some o ∧ H' b = none := fun b hb o z => by
        have r := J.pin (b, o) (List.mem_append_right _ (List.mem_append_right _ (mem_pinsAt hb z)))
        exact ⟨r.1, r.2.1⟩
      refine ⟨m', hm, i + 1, H', (J.unpinned (pins := [])).weak (by rw [← hw8, wipe_length]) fun j v z => (wipe_some (by rw [← hw8] at z; exact z)).1, T.keep _ _ _ st7 fun b hb o z => (pin b hb o z).1, fun b hb => ?_, w'⟩
      obtain ⟨o, z, _⟩ := T.obj _ _ st7 b hb
      exact (pin b hb o z).2
    cases b with
    | false => exact fin I9 q9
    | true =>
      refine thnF (pe.run _ s9 σ8 H9 _ I9 q9) fun z s10 ⟨yv, H10, I10, r10, acc, hD10, hz10, nx⟩ => ?_
      exact app_ok (X := blkH X p s3 H3 scope ce fp) I10 hD10 hz10 r10 fun s11 I11 => fin I11 nx
end
end Mi
namespace Mi
open PySem PySem.Spec PyProof.Rows L2 L2H
theorem pih_imp {X : Cx} {tg e : Expr} {t t' : TI} (h : PIH X tg e t) (i : ∀ σ H Q, t' σ H Q → t σ H Q) : PIH X tg e t' := ⟨fun pins s σ H R I hw => h.run pins s σ H R I (i _ _ _ hw)⟩
section
variable {X : Cx} {G : Gd} {Wx : WX} {p pos : Pos}
theorem ti_rg1H {tg a : Expr} {m : ME} (hg : Gl X "range") (hm : X.mg "range" = none) (h1 : PE X a (tE X.K G Wx m)) (hs : starEach [a] X.env = [(false, eval a X.env)]) : PIH X tg (.Call (.Name "range" p) [a] [] pos) (tI X.K G Wx (.rg [m])) :=
  pih_imp (pi_range1H hg hm (ta_cons h1 ta_nil hs) hs) fun σ H R h => rg1_rd (X := X) h
theorem te_lcH {mu : Bool} {own : List (Str × Nat)} {t : Tg} {it : It} {ms : List ME} {m : ME} {elt tg iter : Expr} {ifs : List Expr} {scope : Scope} {q : Addr × Obj} (hq : q ∈ X.pn) (hot : Hot1 X.A q) (hN : X.N.Nodup) (hi : PIH X tg iter (tI X.K G Wx it)) (ok : BlkOk X.N X.env.scope scope own)
    (hg : ∀ (s : Shared) (H : Hp) (C : Addr) (cl : List (Str × Addr)) (fp : List Addr), PG (blkH X q s H scope (compEnvC scope cl C X.env) fp) tg (tG X.K G t)) (ht : ∀ (s : Shared) (H : Hp) (C : Addr) (cl : List (Str × Addr)) (fp : List Addr), PTs (blkH X q s H scope (compEnvC scope cl C X.env) fp) ifs (tTs X.K G ms))
    (he : ∀ (s : Shared) (H : Hp) (C : Addr) (cl : List (Str × Addr)) (fp : List Addr), PE (blkH X q s H scope (compEnvC scope cl C X.env) fp) elt (tE X.K G W0 m)) (hs : ∀ x, foldedSetIterable iter X.env x = pure x) (ho : ∀ i ∈ tgS t, i ∈ own.map (·.2)) :
    PE X (.ListComp elt [⟨tg, iter, ifs, 0⟩] scope pos) (tE X.K G Wx (.lc mu own t it ms m)) := (pe_lcH hq hot hN hi ok hg ht he hs).imp (lc_rd ho)
end
/-- a caught one stays so in a block -/
theorem HotE.blk {X : Cx} {G : Gd} {c : Nat} (h : HotE X G c) : ∃ q, q ∈ X.pn ∧ Hot1 X.A q ∧ ∀ (s : Shared) (H : Hp) (scope : Scope) (ce : PySem.Env) (fp : List Addr), HotE (blkH X q s H scope ce fp) G c := by
  obtain ⟨X0, a, oe, pn, e, hx, hz, vs, hd⟩ := h
  subst e
  exact ⟨(a, oe), List.mem_cons_self, ⟨rfl, vs, hd, hz.2.2 vs hd⟩, fun s H scope ce fp => ⟨blkH (X0.suite a ((a, oe) :: pn)) (a, oe) s H scope ce fp, a, oe, [], rfl, hx, hz, vs, hd⟩⟩
end Mi

set_option Elab.async false
set_option linter.all false
set_option maxRecDepth 100000
set_option maxHeartbeats 1000000
/-! Mini Python: cells known for a while: a heap with more, with fewer things that stay. -/
namespace Mi
open PySem PySem.Spec PyProof.Rows L2
def Hm (C H : Hp) : Hp := fun b => match C b with
  | some o => some o
  | none => H b
def Hl (C H : Hp) : Hp := fun b => match C b with
  | some _ => none
  | none => H b
theorem hm_some {C H : Hp} {b : Addr} {o : HO} (h : C b = some o) : Hm C H b = some o := by unfold Hm; rw [h]
theorem hm_none {C H : Hp} {b : Addr} (h : C b = none) : Hm C H b = H b := by unfold Hm; rw [h]
theorem hl_some {C H : Hp} {b : Addr} {o : HO} (h : C b = some o) : Hl C H b = none := by unfold Hl; rw [h]
theorem hl_none {C H : Hp} {b : Addr} (h : C b = none) : Hl C H b = H b := by unfold Hl; rw [h]
/-- C tells of cells only, as they stand in h -/
def CelC (C : Hp) (h : Heap) : Prop := ∀ b o, C b = some o → ∃ ob v, o = .frz ob (CelO b v) ∧ h.get? b = some ob ∧ ∃ u, RelV v u ∧ ob.data = .cell (some u)
theorem CelC.keep {C : Hp} {h h' : Heap} (c : CelC C h) (k : ∀ b o, C b ≠ none → h.get? b = some o → h'.get? b = some o) : CelC C h' := fun b o e => by
  obtain ⟨ob, v, e1, e2, r⟩ := c b o e
  exact ⟨ob, v, e1, k b ob (by rw [e]; simp) e2, r⟩
section
variable {P : Program} {w : World} {C H H1 : Hp} {h h1 : Heap} {fs : List Addr}
theorem cel_ok {b : Addr} {ob : Obj} {v : V} {u : Value} (hg : h.get? b = some ob) (r : RelV v u) (hd : ob.data = .cell (some u)) : ObjOk P w H h b (.frz ob (CelO b v)) :=
  ⟨hg, ⟨u, r, ob, hg, hd⟩, ⟨ob, hg⟩, fun h1 h2 ⟨u, r, o, e, d⟩ st => ⟨u, r, o, st o e, d⟩⟩
theorem hok_more (ok : HOk P w H h) (n : ∀ b, C b ≠ none → H b = none) (c : CelC C h) : HOk P w (Hm C H) h := fun a o e => by
  have lift : ∀ b u, H b = some u → Hm C H b = some u := fun b u z => by
    cases q : C b with
    | none => rw [hm_none q]; exact z
    | some x => rw [n b (by rw [q]; simp)] at z; cases z
  cases q : C a with
  | some x =>
    rw [hm_some q] at e
    cases e
    obtain ⟨ob, v, e1, e2, u, r, d⟩ := c a _ q
    rw [e1]
    exact cel_ok e2 r d
  | none =>
    rw [hm_none q] at e
    exact (ok a o e).stay (fun b u _ z => z) (fun b z => lift b _ z) fun b xs z => lift b _ z
theorem hok_less (ok : HOk P w H h) (f : ∀ b o, C b = some o → ∃ ob u, H b = some (.frz ob u)) : HOk P w (Hl C H) h := fun a o e => by
  have low : ∀ b u, (∀ ob x, u ≠ HO.frz ob x) → H b = some u → Hl C H b = some u := fun b u nf z => by
    cases q : C b with
    | none => rw [hl_none q]; exact z
    | some x =>
      obtain ⟨ob, y, z2⟩ := f b x q
      rw [z] at z2
      exact absurd (Option.some.inj z2) (nf ob y)
  cases q : C a with
  | some x => rw [hl_some q] at e; cases e
  | none =>
    rw [hl_none q] at e
    exact (ok a o e).stay (fun b u _ z => z) (fun b z => low b _ (fun _ _ y => by cases y) z) fun b xs z => low b _ (fun _ _ y => by cases y) z
/-- what held with more things told holds without them -/
theorem un_less (hok : HOk P w H1 h1) (c : CelC C h) (n : ∀ b, C b ≠ none → H b = none ∧ b ∉ fs) (un : Un fs [] (Hm C H) H1 h h1) : Un fs [] H (Hl C H1) h h1 := by
  have cn : ∀ b u, H b = some u → C b = none := fun b u z => by
    cases q : C b with
    | none => rfl
    | some x => rw [(n b (by rw [q]; simp)).1] at z; cases z
  refine ⟨fun b o e z hf hx => ?_, fun b o e z hf hx => ?_, fun b o e z hx => ?_, un.there, fun b xs z => ?_, fun b o u z => ?_, fun b ps z => ?_⟩
  · cases q : C b with
    | none => exact un.keep b o e ((hm_none q).trans z) hf hx
    | some x =>
      obtain ⟨ob, v, e1, e2, _⟩ := c b x q
      have z1 := un.frzs b ob _ (by rw [hm_some q, e1])
      rw [e] at e2
      cases e2
      exact (hok b _ z1).1
  · cases q : C b with
    | none => exact un.slot b o e ((hm_none q).trans z) hf hx
    | some x => exact absurd hf (n b (by rw [q]; simp)).2
  · cases q : C b with
    | none => rw [hl_none q]; exact un.free b o e ((hm_none q).trans z) hx
    | some x => exact hl_some q
  · have q := cn b _ z
    rw [hl_none q]; exact un.tups b xs ((hm_none q).trans z)
  · have q := cn b _ z
    rw [hl_none q]; exact un.frzs b o u ((hm_none q).trans z)
  · have q := cn b _ z
    rw [hl_none q]; exact un.tbls b ps ((hm_none q).trans z)
theorem frz_after (c : CelC C h) (un : ∀ b o u, Hm C H b = some (.frz o u) → H1 b = some (.frz o u)) : ∀ b o, C b = some o → ∃ ob u, H1 b = some (.frz ob u) := fun b o e => by
  obtain ⟨ob, v, e1, _⟩ := c b o e
  exact ⟨ob, _, un b ob _ (by rw [hm_some e, e1])⟩
/-- what held without some cells holds with them -/
theorem un_more (f : ∀ b o, C b = some o → H b = some o) (un : Un fs [] (Hl C H) H1 h h1) : Un fs [] H (Hm C H1) h h1 := by
  have cn : ∀ b, H b = none → C b = none := fun b z => by
    cases q : C b with
    | none => rfl
    | some x => rw [f b x q] at z; cases z
  refine ⟨fun b o e z hf hx => un.keep b o e ((hl_none (cn b z)).trans z) hf hx, fun b o e z hf hx => un.slot b o e ((hl_none (cn b z)).trans z) hf hx, fun b o e z hx => ?_, un.there, fun b xs z => ?_, fun b o u z => ?_, fun b ps z => ?_⟩
  · rw [hm_none (cn b z)]; exact un.free b o e ((hl_none (cn b z)).trans z) hx
  · cases q : C b with
    | none => rw [hm_none q]; exact un.tups b xs ((hl_none q).trans z)
    | some x => rw [hm_some q, ← f b x q]; exact z
  · cases q : C b with
    | none => rw [hm_none q]; exact un.frzs b o u ((hl_none q).trans z)
    | some x => rw [hm_some q, ← f b x q]; exact z
  · cases q : C b with
    | none => rw [hm_none q]; exact un.tbls b ps ((hl_none q).trans z)
    | some x => exact ⟨#[], by rw [hm_some q, ← f b x q]; simpa using z⟩
end
section
variable {P : Program} {w : World} {outer : List PySem.Env} {C H : Hp} {s s' : Shared} {Q : VK} {E : XK} {r : Result}
/-- a call's end, told without the cells that were lent -/
theorem cr_less (c : CelC C s.heap) (n : ∀ b, C b ≠ none → H b = none ∧ b ∉ frs outer) (h : CR (L2N.CX P w) outer P w (Hm C H) s (fun v H1 => Q v (Hl C H1)) (fun cls d H1 => E cls d (Hl C H1)) r s') : CR (L2N.CX P w) outer P w H s Q E r s' := by
  cases r with
  | ok fl =>
    cases fl with
    | ret u =>
      obtain ⟨v, H1, os, bare, un, hok, rv, q⟩ := h
      exact ⟨v, Hl C H1, os, bare, un_less hok c n un, hok_less hok (frz_after c un.frzs), rv, q⟩
    | next => exact h
    | brk => exact h
    | cont => exact h
  | error e =>
    obtain ⟨a, B, H1, cls, d, ea, fl, hok, ub, na, os, ag, q⟩ := h
    have cn : ∀ b u, H b = some u → C b = none := fun b u z => by
      cases q : C b with
      | none => rfl
      | some x => rw [(n b (by rw [q]; simp)).1] at z; cases z
    refine ⟨a, B, Hl C H1, cls, d, ea, fl, hok_less hok (frz_after c ub.frzs), ⟨fun b o e z hf => ?_, ub.slot, fun b o e z => ?_, ub.there, fun b xs z => ?_, fun b o u z => ?_, fun b ps z => ?_⟩, ?_, os, ag, q⟩
    · cases q : C b with
      | none => exact ub.keep b o e ((hm_none q).trans z) hf
      | some x =>
        obtain ⟨ob, v, e1, e2, _⟩ := c b x q
        have z1 := ub.frzs b ob _ (by rw [hm_some q, e1])
        rw [e] at e2
        cases e2
        exact (hok b _ z1).1
    · cases q : C b with
      | none => rw [hl_none q]; exact ub.free b o e ((hm_none q).trans z)
      | some x => exact hl_some q
    · have q := cn b _ z
      rw [hl_none q]; exact ub.tups b xs ((hm_none q).trans z)
    · have q := cn b _ z
      rw [hl_none q]; exact ub.frzs b o u ((hm_none q).trans z)
    · have q := cn b _ z
      rw [hl_none q]; exact ub.tbls b ps ((hm_none q).trans z)
    · cases q : C a with
      | none => rw [hl_none q]; exact na
      | some x => exact hl_some q
/-- a call's end, told with the cells that were hidden -/
theorem cr_more (c : CelC C s.heap) (f : ∀ b o, C b = some o → H b = some o ∧ b ∉ frs outer) (h : CR (L2N.CX P w) outer P w (Hl C H) s (fun v H1 => (∀ b, C b ≠ none → H1 b = none) → Q v (Hm C H1)) (fun cls d H1 => (∀ b, C b ≠ none → H1 b = none) → E cls d (Hm C H1)) r s') : CR (L2N.CX P w) outer P w H s Q E r s' := by
  have cn : ∀ b, H b = none → C b = none := fun b z => by
    cases q : C b with
    | none => rfl
    | some x => rw [(f b x q).1] at z; cases z
  cases r with
  | ok fl =>
    cases fl with
    | ret u =>
      obtain ⟨v, H1, os, bare, un, hok, rv, q⟩ := h
      have kp : ∀ b o, C b ≠ none → s.heap.get? b = some o → s'.heap.get? b = some o := fun b o z e => by
        cases q : C b with
        | none => exact absurd q z
        | some x => exact un.keep b o e (hl_some q) (f b x q).2 (by simp)
      have nn : ∀ b, C b ≠ none → H1 b = none := fun b z => by
        cases q : C b with
        | none => exact absurd q z
        | some x =>
          obtain ⟨ob, v, e1, e2, _⟩ := c b x q
          exact un.free b ob e2 (hl_some q) (by simp)
      exact ⟨v, Hm C H1, os, bare, un_more (fun b o e => (f b o e).1) un, hok_more hok nn (c.keep kp), rv, q nn⟩
    | next => exact h
    | brk => exact h
    | cont => exact h
  | error e =>
    obtain ⟨a, B, H1, cls, d, ea, fl, hok, ub, na, os, ag, q⟩ := h
    have kp : ∀ b o, C b ≠ none → s.heap.get? b = some o → B.get? b = some o := fun b o z e => by
      cases q : C b with
      | none => exact absurd q z
      | some x => exact ub.keep b o e (hl_some q) (f b x q).2
    have cB := c.keep kp
    have nn : ∀ b, C b ≠ none → H1 b = none := fun b z => by
      cases q : C b with
      | none => exact absurd q z
      | some x =>
        obtain ⟨ob, v, e1, e2, _⟩ := c b x q
        exact ub.free b ob e2 (hl_some q)
    refine ⟨a, B, Hm C H1, cls, d, ea, fl, hok_more hok nn cB, ⟨fun b o e z hf => ub.keep b o e ((hl_none (cn b z)).trans z) hf, ub.slot, fun b o e z => ?_, ub.there, fun b xs z => ?_, fun b o u z => ?_, fun b ps z => ?_⟩, ?_, os, ag, q nn⟩
    · rw [hm_none (cn b z)]; exact ub.free b o e ((hl_none (cn b z)).trans z)
    · cases q : C b with
      | none => rw [hm_none q]; exact ub.tups b xs ((hl_none q).trans z)
      | some x => rw [hm_some q, ← (f b x q).1]; exact z
    · cases q : C b with
      | none => rw [hm_none q]; exact ub.frzs b o u ((hl_none q).trans z)
      | some x => rw [hm_some q, ← (f b x q).1]; exact z
    · cases q : C b with
      | none => rw [hm_none q]; exact ub.tbls b ps ((hl_none q).trans z)
      | some x => exact ⟨#[], by rw [hm_some q, ← (f b x q).1]; simpa using z⟩
    · cases q : C a with
      | none => rw [hm_none q]; exact na
      | some x =>
        obtain ⟨ob, v, e1, e2, u, _, hd⟩ := cB a x q
        obtain ⟨oe, vs, he, _, hd2⟩ := fl.there
        have e3 := fl.1 a ob e2
        rw [he] at e3
        cases e3
        rw [hd] at hd2
        cases hd2
end
section
variable {P : Program} {w : World} {K : PySem.W.Frag} {mg : Str → Option Value} {base : Heap} {A : Around} {outer : List PySem.Env} {C H : Hp} {s : Shared}
theorem env0_more (e0 : Env0 P w K mg base A outer s H) (c : CelC C s.heap) (n : ∀ b, C b ≠ none → H b = none ∧ b ∉ frs outer ∧ base.get? b = none) : Env0 P w K mg base A outer s (Hm C H) := by
  have out : ∀ b, (b ∈ frs outer ∨ base.get? b ≠ none) → C b = none := fun b z => by
    cases q : C b with
    | none => rfl
    | some x =>
      obtain ⟨_, n1, n2⟩ := n b (by rw [q]; simp)
      exact z.elim (fun z => absurd z n1) fun z => absurd n2 z
  exact ⟨e0.frames, e0.mod, fun b o e => ⟨(e0.bs b o e).1, (hm_none (out b (.inr (by rw [e]; simp)))).trans (e0.bs b o e).2⟩, e0.bsz, e0.funs, fun b hb => (hm_none (out b (.inl hb))).trans (e0.frf b hb), hok_more e0.hok (fun b z => (n b z).1) c, e0.bare⟩
theorem env0_less (e0 : Env0 P w K mg base A outer s H) (f : ∀ b o, C b = some o → ∃ ob u, H b = some (.frz ob u)) : Env0 P w K mg base A outer s (Hl C H) := by
  have low : ∀ b, H b = none → Hl C H b = none := fun b z => by
    cases q : C b with
    | none => rw [hl_none q]; exact z
    | some x => exact hl_some q
  exact ⟨e0.frames, e0.mod, fun b o e => ⟨(e0.bs b o e).1, low b (e0.bs b o e).2⟩, e0.bsz, e0.funs, fun b hb => low b (e0.frf b hb), hok_less e0.hok f, e0.bare⟩
end
end Mi
namespace Mi
open PySem PySem.Spec PyProof.Rows L2
/-! ### the state of the data with more, with fewer -/
def S4.hm (S : S4) (C : Hp) : S4 := ⟨S.U, S.ρ, Hm C S.F, S.st, Hm C S.H⟩
def S4.hl (S : S4) (C : Hp) : S4 := ⟨⟨fun b => S.U.p b ∧ C b = none, S.U.x⟩, S.ρ, Hl C S.F, S.st, Hl C S.H⟩
/-- with the cells again, and with what was only seen before -/
def S4.hu (S : S4) (C : Hp) (U : UU) : S4 := ⟨U, S.ρ, Hm C S.F, S.st, Hm C S.H⟩
def FrzC (C : Hp) : Prop := ∀ b o, C b = some o → ∃ ob v, o = .frz ob (CelO b v)
section
variable {K : PySem.W.Frag} {ca : Cg} {S S1 : S4} {C : Hp}
theorem same_hm (n : ∀ b, C b ≠ none → S.F b = none) : Same S.F (Hm C S.F) := fun b o e => by
  cases q : C b with
  | none => rw [hm_none q]; exact e
  | some x => rw [n b (by rw [q]; simp)] at e; cases e
theorem Ok.hm (k : Ok K ca S) (n : ∀ b, C b ≠ none → S.H b = none) : Ok K ca (S.hm C) := by
  have nF : ∀ b, C b ≠ none → S.F b = none := fun b z => k.sub.free (n b z)
  have sm := same_hm nF
  refine ⟨k.len, fun b o e => ?_, fun a u => ?_, fun m ob a h1 h2 => ?_, k.inj, k.tx, k.tt⟩
  · show Hm C S.H b = some o
    cases q : C b with
    | none =>
      have e : Hm C S.F b = some o := e
      rw [hm_none q] at e ⊢
      exact k.sub b o e
    | some x =>
      have e : Hm C S.F b = some o := e
      rw [hm_some q] at e ⊢
      exact e
  · obtain ⟨o, e⟩ := k.vw a u
    exact ⟨o, sm a o e⟩
  · obtain ⟨z1, z2⟩ := k.liv m ob a h1 h2
    obtain ⟨x, hx⟩ := k.tracked ⟨m, ob, h1, h2⟩
    have q : C a = none := by
      cases q : C a with
      | none => rfl
      | some y => rw [n a (by rw [q]; simp)] at hx; cases hx
    exact ⟨(hm_none q).trans z1, z2.mono (fun v w h => Rw.mono (fun _ _ r => r) sm v w h) (fun v w h => Rws.mono (fun _ _ r => r) sm v w h) (hm_none q) sm⟩
theorem RwS.hm (n : ∀ b, C b ≠ none → S.F b = none) {v : V} {w : W} (h : RwS K S v w) : RwS K (S.hm C) v w := Rw.mono (fun _ _ q => q) (same_hm n) v w h
theorem RwsS.hm (n : ∀ b, C b ≠ none → S.F b = none) {v : List V} {w : List W} (h : RwsS K S v w) : RwsS K (S.hm C) v w := Rws.mono (fun _ _ q => q) (same_hm n) v w h
/-- plain data does not lean on the cells -/
theorem seqT_hl (f : FrzC C) (hF : ∀ b o, C b = some o → S.F b = some o) {a : Addr} {vs : List V} (h : SqT K S.F a vs) : SqT K (Hl C S.F) a vs := by
  rcases h with (h | ⟨o, h⟩) | h
  · have q : C a = none := by
      cases q : C a with
      | none => rfl
      | some x =>
        obtain ⟨ob, v, e⟩ := f a x q
        have z := hF a x q
        rw [h, e] at z; cases z
    exact .inl (.inl (by rw [hl_none q]; exact h))
  · have q : C a = none := by
      cases q : C a with
      | none => rfl
      | some x =>
        obtain ⟨ob, v, e⟩ := f a x q
        have z := hF a x q
        rw [h, e] at z
        unfold CelO at z
        cases z
    exact .inl (.inr ⟨o, by rw [hl_none q]; exact h⟩)
  · exact .inr h
theorem seqL_hl (f : FrzC C) (hF : ∀ b o, C b = some o → S.F b = some o) {a : Addr} {vs : List V} (h : SqL K S.F a vs) : SqL K (Hl C S.F) a vs := by
  rcases h with (h | ⟨o, h⟩) | h
  · have q : C a = none := by
      cases q : C a with
      | none => rfl
      | some x =>
        obtain ⟨ob, v, e⟩ := f a x q
        have z := hF a x q
        rw [h, e] at z; cases z
    exact .inl (.inl (by rw [hl_none q]; exact h))
  · have q : C a = none := by
      cases q : C a with
      | none => rfl
      | some x =>
        obtain ⟨ob, v, e⟩ := f a x q
        have z := hF a x q
        rw [h, e] at z
        unfold CelO at z
        cases z
    exact .inl (.inr ⟨o, by rw [hl_none q]; exact h⟩)
  · exact .inr h
theorem get_hl (f : FrzC C) (hF : ∀ b o, C b = some o → S.F b = some o) {a : Addr} {u : HO} (nf : ∀ o v, u ≠ .frz o (CelO a v)) (h : S.F a = some u) : Hl C S.F a = some u := by
  cases q : C a with
  | none => rw [hl_none q]; exact h
  | some x =>
    obtain ⟨ob, v, e⟩ := f a x q
    have z := hF a x q
    rw [h, e] at z
    exact absurd (Option.some.inj z) (nf ob v)
mutual
theorem rw_hl (f : FrzC C) (hF : ∀ b o, C b = some o → S.F b = some o) : ∀ (v : V) (w : W), plW w = true → RwS K S v w → RwS K (S.hl C) v w
  | v, .non, _, h => h
  | v, .bl b, _, h => h
  | v, .int i, _, h => h
  | v, .str s, _, h => h
  | v, .tup ws, c, h => by
    obtain ⟨a, vs, e, q, r⟩ := h
    exact ⟨a, vs, e, seqT_hl f hF q, rws_hl f hF vs ws c r⟩
  | v, .lst kk ws, c, h => by
    obtain ⟨a, vs, e, q, l, r⟩ := h
    refine ⟨a, vs, e, ?_, l, rws_hl f hF vs ws c r⟩
    cases kk with
    | gv => exact seqL_hl f hF q
    | vw => exact get_hl f hF (fun _ _ z => by cases z) q
    | fz => exact ⟨get_hl f hF (fun _ _ z => by cases z) q.1, fun z => q.2 z.1⟩
  | v, .loc n, _, h => h
  | v, .exn c, hc, h => by cases hc
  | v, .clo i, hc, h => by cases hc
  | v, .fn i ws, hc, h => by cases hc
theorem rws_hl (f : FrzC C) (hF : ∀ b o, C b = some o → S.F b = some o) : ∀ (vs : List V) (ws : List W), plWs ws = true → RwsS K S vs ws → RwsS K (S.hl C) vs ws
  | vs, [], _, h => h
  | vs, w :: ws, c, h => by
    obtain ⟨v, r, e, q, t⟩ := h
    have c : (plW w && plWs ws) = true := c
    rw [Bool.and_eq_true] at c
    exact ⟨v, r, e, rw_hl f hF v w c.1 q, rws_hl f hF r ws c.2 t⟩
end
theorem rfs_hl (f : FrzC C) (hF : ∀ b o, C b = some o → S.F b = some o) : ∀ {fv : List (Str × V)} {fs : List (Str × W)}, (fs.all fun p => plW p.2) = true → Rfs K S fv fs → Rfs K (S.hl C) fv fs
  | fv, [], _, z => z
  | fv, (g, w) :: r, c, z => by
    obtain ⟨v, rv, e, q, t⟩ := z
    rw [List.all_cons, Bool.and_eq_true] at c
    exact ⟨v, rv, e, rw_hl f hF v w c.1 q, rfs_hl f hF c.2 t⟩
theorem rks_hl (f : FrzC C) (hF : ∀ b o, C b = some o → S.F b = some o) : ∀ {fv : List (Key × V)} {fs : List (Int × W)}, (fs.all fun p => plW p.2) = true → Rks K S fv fs → Rks K (S.hl C) fv fs
  | fv, [], _, z => z
  | fv, (g, w) :: r, c, z => by
    obtain ⟨v, rv, e, q, t⟩ := z
    rw [List.all_cons, Bool.and_eq_true] at c
    exact ⟨v, rv, e, rw_hl f hF v w c.1 q, rks_hl f hF c.2 t⟩
theorem Ok.hl (k : Ok K ca S) (f : FrzC C) (hF : ∀ b o, C b = some o → S.F b = some o) (pl : plS S.st = true) : Ok K ca (S.hl C) := by
  refine ⟨k.len, fun b o e => ?_, fun a u => ?_, fun m ob a h1 h2 => ?_, k.inj, k.tx, k.tt⟩
  · show Hl C S.H b = some o
    have e : Hl C S.F b = some o := e
    cases q : C b with
    | none => rw [hl_none q] at e ⊢; exact k.sub b o e
    | some x => rw [hl_some q] at e; cases e
  · obtain ⟨u1, u2⟩ := u
    obtain ⟨o, e⟩ := k.vw a u1
    exact ⟨o, (hl_none u2).trans e⟩
  · obtain ⟨z1, z2⟩ := k.liv m ob a h1 h2
    have q : C a = none := by
      cases q : C a with
      | none => rfl
      | some y => rw [hF a y q] at z1; cases z1
    have c : plO (some ob) = true := List.all_eq_true.mp pl _ (List.mem_of_getElem? h1)
    have eH : (S.hl C).H a = S.H a := hl_none q
    refine ⟨(hl_none q).trans z1, ?_⟩
    cases ob with
    | lst ws => obtain ⟨vs, e, l, r⟩ := z2; exact ⟨vs, eH.trans e, l, rws_hl f hF vs ws c r⟩
    | ins cc fs => obtain ⟨dx, fv, e, r⟩ := z2; exact ⟨dx, fv, eH.trans e, rfs_hl f hF c r⟩
    | dct kvs => obtain ⟨kv, e, l, r⟩ := z2; exact ⟨kv, eH.trans e, l, rks_hl f hF c r⟩
    | tbl tq =>
      obtain ⟨ps, e, t, r⟩ := z2
      refine ⟨ps, eH.trans e, t, fun pos cv z => ?_⟩
      obtain ⟨cc, e1, e2⟩ := r pos cv z
      exact ⟨cc, e1, get_hl f hF (fun _ _ z => by unfold LamX.CodeO at z; cases z) e2⟩
/-- what a callee did with the cells at hand, told without them -/
theorem Tr.unhm (k : Ok K ca S) (f : FrzC C) (n : ∀ b, C b ≠ none → S.H b = none) (t : Tr K ca (S.hm C) S1) (pl : plS S1.st = true) : Tr K ca S (S1.hl C) ∧ ∀ v w, plW w = true → RwS K S1 v w → RwS K (S1.hl C) v w := by
  have nF : ∀ b, C b ≠ none → S.F b = none := fun b z => k.sub.free (n b z)
  have sm := same_hm nF
  have cn : ∀ b u, S.H b = some u → C b = none := fun b u z => by
    cases q : C b with
    | none => rfl
    | some x => rw [n b (by rw [q]; simp)] at z; cases z
  have hF : ∀ b o, C b = some o → S1.F b = some o := fun b o e => t.fs b o (hm_some e)
  have eU : (S1.hl C).U = S.U := by
    have e : S1.U = S.U := t.eU
    show (⟨fun b => S1.U.p b ∧ C b = none, S1.U.x⟩ : UU) = S.U
    rw [e]
    have e2 : (fun b => S.U.p b ∧ C b = none) = S.U.p := funext fun b => propext ⟨fun z => z.1, fun z => ⟨z, by
      obtain ⟨o, e2⟩ := k.vw b z
      cases q : C b with
      | none => rfl
      | some x => rw [nF b (by rw [q]; simp)] at e2; cases e2⟩⟩
    rw [e2]
  refine ⟨⟨eU, t.ext, fun b o e => ?_, fun b o e nl => ?_, fun b l => ?_, fun b o e => ?_, fun b o e => ?_, t.lenle, t.ok.hl f hF pl⟩, fun v w p r => rw_hl f hF v w p r⟩
  · have q := cn b o (k.sub b o e)
    exact (hl_none q).trans (t.fs b o (sm b o e))
  · have q := cn b o e
    exact (hl_none q).trans (t.keep b o ((hm_none q).trans e) nl)
  · rcases t.new b l with z | z
    · exact .inl z
    · refine .inr ?_
      have z : Hm C S.H b = none := z
      cases q : C b with
      | none => rw [hm_none q] at z; exact z
      | some x => rw [hm_some q] at z; cases z
  · have q := cn b o e
    obtain ⟨o', e'⟩ := t.thr b o ((hm_none q).trans e)
    exact ⟨o', (hl_none q).trans e'⟩
  · have e : Hl C S1.F b = some o := e
    cases q : C b with
    | none =>
      rw [hl_none q] at e
      rcases t.fnew b o e with z | z | z
      · exact .inl ((hm_none q).symm.trans z)
      · exact .inr (.inl ((hm_none q).symm.trans z))
      · exact .inr (.inr z)
    | some x => rw [hl_some q] at e; cases e
mutual
theorem rw_hu (k : Ok K ca S) (eU : S1.U = (S.hl C).U) (n : ∀ b, C b ≠ none → S1.F b = none) : ∀ (v : V) (w : W), RwS K S1 v w → RwS K (S1.hu C S.U) v w
  | v, .non, h => h
  | v, .bl b, h => h
  | v, .int i, h => h
  | v, .str s, h => h
  | v, .tup ws, h => by
    obtain ⟨a, vs, e, q, r⟩ := h
    exact ⟨a, vs, e, Same.seqT (same_hm n) q, rws_hu k eU n vs ws r⟩
  | v, .lst kk ws, h => by
    obtain ⟨a, vs, e, q, l, r⟩ := h
    refine ⟨a, vs, e, ?_, l, rws_hu k eU n vs ws r⟩
    cases kk with
    | gv => exact Same.seq (same_hm n) q
    | vw => exact same_hm n _ _ q
    | fz =>
      refine ⟨same_hm n _ _ q.1, fun z => q.2 ?_⟩
      rw [eU]
      refine ⟨z, ?_⟩
      cases y : C a with
      | none => rfl
      | some x =>
        have y2 := n a (by rw [y]; simp)
        rw [q.1] at y2; cases y2
  | v, .loc n, h => h
  | v, .exn c, h => by
    obtain ⟨a, e, u⟩ := h
    rw [eU] at u
    exact ⟨a, e, u⟩
  | v, .clo i, h => by
    obtain ⟨a, q, params, body, scope, c, cells, e, u, f⟩ := h
    rw [eU] at u f
    exact ⟨a, q, params, body, scope, c, cells, e, u, f.mono (same_hm n)⟩
  | v, .fn i ws, h => by
    obtain ⟨a, q, params, body, scope, cl, c, vs, e, f, g, r⟩ := h
    rw [eU] at f g
    exact ⟨a, q, params, body, scope, cl, c, vs, e, f.mono (same_hm n), g.mono (same_hm n), rws_hu k eU n vs ws r⟩
theorem rws_hu (k : Ok K ca S) (eU : S1.U = (S.hl C).U) (n : ∀ b, C b ≠ none → S1.F b = none) : ∀ (vs : List V) (ws : List W), RwsS K S1 vs ws → RwsS K (S1.hu C S.U) vs ws
  | vs, [], h => h
  | vs, w :: ws, h => by
    obtain ⟨v, r, e, q, t⟩ := h
    exact ⟨v, r, e, rw_hu k eU n v w q, rws_hu k eU n r ws t⟩
end
/-- what a callee did without the cells, told with them -/
theorem Tr.unhl (k : Ok K ca S) (hF : ∀ b o, C b = some o → S.F b = some o) (t : Tr K ca (S.hl C) S1) (nH : ∀ b, C b ≠ none → S1.H b = none) : Tr K ca S (S1.hu C S.U) ∧ ∀ v w, RwS K S1 v w → RwS K (S1.hu C S.U) v w := by
  have nF : ∀ b, C b ≠ none → S1.F b = none := fun b z => t.ok.sub.free (nH b z)
  have fsm : Same S.F (Hm C S1.F) := fun b o e => by
    cases q : C b with
    | none => rw [hm_none q]; exact t.fs b o ((hl_none q).trans e)
    | some x =>
      have z := hF b x q
      rw [e] at z
      cases z
      exact hm_some q
  have o1 := t.ok.hm nH
  have okU : Ok K ca (S1.hu C S.U) := by
    refine ⟨o1.len, o1.sub, fun a u => ?_, fun m ob a h1 h2 => ?_, o1.inj, k.tx, o1.tt⟩
    · obtain ⟨o, e⟩ := k.vw a u
      exact ⟨o, fsm a o e⟩
    · obtain ⟨z1, z2⟩ := t.ok.liv m ob a h1 h2
      have z3 := (o1.liv m ob a h1 h2).1
      refine ⟨z3, Ro.mono (S := S1) (S' := S1.hu C S.U) (fun v w r => rw_hu k t.eU nF v w r) (fun v w r => rws_hu k t.eU nF v w r) ?_ (same_hm nF) z2⟩
      refine hm_none ?_
      cases q : C a with
      | none => rfl
      | some x =>
        obtain ⟨y, hy⟩ := t.ok.tracked ⟨m, ob, h1, h2⟩
        rw [nH a (by rw [q]; simp)] at hy; cases hy
  refine ⟨⟨rfl, t.ext, fsm, fun b o e nl => ?_, fun b l => ?_, fun b o e => ?_, fun b o e => ?_, t.lenle, okU⟩, fun v w r => rw_hu k t.eU nF v w r⟩
  · show Hm C S1.H b = some o
    cases q : C b with
    | none => rw [hm_none q]; exact t.keep b o ((hl_none q).trans e) nl
    | some x =>
      have z := k.sub b x (hF b x q)
      rw [e] at z
      cases z
      exact hm_some q
  · have cb : C b = none := by
      cases q : C b with
      | none => rfl
      | some x =>
        obtain ⟨o, e⟩ := t.ok.tracked (a := b) l
        rw [nH b (by rw [q]; simp)] at e; cases e
    rcases t.new b l with z | z
    · exact .inl z
    · exact .inr ((hl_none cb).symm.trans z)
  · show ∃ o', Hm C S1.H b = some o'
    cases q : C b with
    | none =>
      rw [hm_none q]
      exact t.thr b o ((hl_none q).trans e)
    | some x => exact ⟨x, hm_some q⟩
  · have e : Hm C S1.F b = some o := e
    cases q : C b with
    | none =>
      rw [hm_none q] at e
      rcases t.fnew b o e with z | z | z
      · exact .inl ((hl_none q).symm.trans z)
      · exact .inr (.inl ((hl_none q).symm.trans z))
      · exact .inr (.inr z)
    | some x =>
      rw [hm_some q] at e
      cases e
      exact .inl (hF b _ q)
end
end Mi

set_option Elab.async false
set_option linter.all false
set_option maxRecDepth 100000
set_option maxHeartbeats 1000000
/-! Mini Python: lambdas: made, handed on, called. -/
namespace Mi
open PySem PySem.Spec PyProof.Rows L2
/-- what a lambda's text must have: its names, how it is called -/
structure LamT (L : LamI) (params : Arguments) (scope : Scope) : Prop where
  bind : ∀ (name q : Str) (body : Expr) (cl : List (Str × Addr)) (pm cdv ct : Value) (us : List Value), us.length = L.ps.length → bindArgs (PySem.W.kla_fn name q params body scope cl pm cdv ct) ⟨us, []⟩ = pure (L.ps.zip us)
  dfl : ∀ env, defaultsOf params env = ([], [])
  sc : NdefX.NScope (L.ps ++ L.fr) L.ps L.fr scope
section
variable {P : Program} {w : World} {H : Hp} {h : Heap} {L : LamI} {a c : Addr} {q : Str} {params : Arguments} {body : Expr} {scope : Scope} {cl : List (Str × Addr)}
theorem fnAtW (hok : HOk P w H h) (e : H a = some (LamO a q params body scope cl c)) : PySem.W.FnAt a h := by
  obtain ⟨⟨pm, ctv, z⟩, _, _⟩ := hok a _ e
  exact ⟨_, _, _, _, z⟩
theorem lamO_ne (o : Obj) (v : V) {b : Addr} : LamO a q params body scope cl c ≠ .frz o (CelO b v) := fun z => by unfold LamO at z; cases z
end
/-! ### a lambda is called -/
/-- the promise of the lambda i -/
structure LOk (P : Program) (w : World) (K : PySem.W.Frag) (mg : Str → Option Value) (base : Heap) (k : Nat) (G : Gd) (i : Nat) : Prop where
  len : ∀ ws st, ws.length ≠ (G.ca.x.lam i).ps.length + (G.ca.x.lam i).fr.length → G.Φ i ws st = .err
  run : ∀ (A : Around) (outer : List PySem.Env) (s : Shared) (H : Hp) (us : List Value) (vs cs : List V) (a c : Addr) (q : Str) (params : Arguments) (body : Expr) (scope : Scope) (cl : List (Str × Addr)) (Q : VK) (E : XK), Room k A → Env0 P w K mg base A outer s H →
    H a = some (LamO a q params body scope cl c) → H c = some (LamX.CodeO c q) → (G.ca.x.lam i).P params body scope → NdefX.CellsAt cl (G.ca.x.lam i).fr (cs.map some) s.heap H → Vals vs us → vs.length = (G.ca.x.lam i).ps.length →
    spF K G (G.Φ i) ((G.ca.x.lam i).ps.length + (G.ca.x.lam i).fr.length) (vs ++ cs) H Q E → codeAny (model P w) A (.call (.ref a) ⟨us, []⟩) (CR (L2N.CX P w) outer P w H s Q E) s
theorem LOk.mono {P : Program} {w : World} {K : PySem.W.Frag} {mg : Str → Option Value} {base : Heap} {j k : Nat} {G : Gd} {i : Nat} (o : LOk P w K mg base j G i) (h : j ≤ k) : LOk P w K mg base k G i :=
  ⟨o.len, fun A outer s H us vs cs a c q params body scope cl Q E hr => o.run A outer s H us vs cs a c q params body scope cl Q E (hr.mono h)⟩
section
variable {P : Program} {w : World} {K : PySem.W.Frag} {mg : Str → Option Value} {base : Heap} {k : Nat} {L : LamI} {a c : Addr} {q : Str} {params : Arguments} {body : Expr} {scope : Scope} {cl : List (Str × Addr)}
abbrev nfOf (q : Str) (params : Arguments) (scope : Scope) (cl : List (Str × Addr)) (c : Addr) : NdefX.NF := ⟨"<lambda>", q, params, [], scope, cl, c⟩
/-- a lambda by its body -/
theorem lam_run (T : LamT L params scope) {A : Around} {outer : List PySem.Env} {s : Shared} {H : Hp} {us : List Value} {vs cs : List V} {Q : VK} {E : XK} (hr : Room (k + 1) A) (e0 : Env0 P w K mg base A outer s H)
    (ha : H a = some (LamO a q params body scope cl c)) (hc : H c = some (LamX.CodeO c q)) (C : NdefX.CellsAt cl L.fr (cs.map some) s.heap H) (r : Vals vs us) (hl : vs.length = L.ps.length) {t : TE}
    (ht : PE (NdefX.ncx (L2N.CX P w) P w K mg base (L.ps ++ L.fr) (nfOf q params scope cl c) a A outer s H E) body t) (hq : t (NdefX.startF (L.ps ++ L.fr) vs (cs.map some)) H Q) :
    codeAny (model P w) A (.call (.ref a) ⟨us, []⟩) (CR (L2N.CX P w) outer P w H s Q E) s := by
  have lim : s.heap.NoLimit := e0.mod.nolimit.keeps fun b o e => (e0.bs b o e).1
  obtain ⟨⟨pm, ctv, ho⟩, _, _⟩ := e0.hok a _ ha
  refine PySem.W.kla_callFunE hr.depth ho rfl T.sc.co T.sc.gen rfl (NdefX.codeO_at e0.hok hc) ?_
  rw [T.bind _ _ _ _ _ _ _ us (by rw [← r.length]; exact hl)]
  refine wpAny_pure (wpAny_newFunctionEnv T.sc.nocell (fun ⟨n, _⟩ hy => T.sc.par n (List.of_mem_zip hy).1) (fun h₁ hns hsb => ⟨lim.fresh _ hsb, ?_⟩) T.sc.kind)
  show codeAny _ _ (.expr body (NdefX.envF (nfOf q params scope cl c) a s.heap.objs.size)) _ _
  refine PySem.W.kla_codeExpr ?_
  have kp : ∀ b o, s.heap.get? b = some o → h₁.get? b = some o := fun b o e => hsb.extBut b o (Nat.ne_of_lt (Heap.lt_size e)) (Heap.get?_push_of_some _ e)
  have I : Inv (NdefX.ncx (L2N.CX P w) P w K mg base (L.ps ++ L.fr) (nfOf q params scope cl c) a A outer s H E) [] (NdefX.startF (L.ps ++ L.fr) vs (cs.map some)) H { s with heap := h₁, toks := s.toks + (L.ps.zip us).length } := NdefX.inv_startN T.sc hr.hd e0 hl r C hns kp
  refine wpAny_mono (ht.run [] _ _ H _ I hq) (fun u s' hs => ?_) fun e s' hs => hs
  obtain ⟨v, H', J, rv, q⟩ := hs
  exact ⟨v, H', J.os, J.bare, J.base, J.hok, rv, q⟩
end
section
variable {X : Cx} {G : Gd} {Wx : WX} {p pos : Pos}
theorem ends_call {pins : List (Addr × Obj)} {σ : L2.St} {H : Hp} {s : Shared} {Q : VK} {a : Addr} {us : List Value} {E : L2.St → XK} (hx : PassesAt (L2N.CX X.prog X.w) X σ (E σ)) (I : Inv X pins σ H s)
    (h : codeAny (model X.prog X.w) X.A (.call (.ref a) ⟨us, []⟩) (CR (L2N.CX X.prog X.w) X.stack X.prog X.w H s Q (E σ)) s) : wpAny (model X.prog X.w) X.A (call (.ref a) us) (EP X pins σ Q) X.xe s := by
  refine wpAny_call (codeAny_mono h fun r s' hq => ?_)
  cases r with
  | error e => exact hx pins H s e s' I hq
  | ok fl =>
    cases fl with
    | ret u => exact I.after hq
    | next => exact False.elim hq
    | brk => exact False.elim hq
    | cont => exact False.elim hq
/-- the cells of a closure, as they are told -/
def cloC (cl : List (Str × Addr)) (fr : List Str) (F : Hp) : Hp := fun b => if fr.any (fun y => decide (cl.lookup y = some b)) then F b else none
theorem cloC_mem {cl : List (Str × Addr)} {fr : List Str} {F : Hp} {b : Addr} {o : HO} (h : cloC cl fr F b = some o) : (∃ y ∈ fr, cl.lookup y = some b) ∧ F b = some o := by
  unfold cloC at h
  split at h
  · rename_i z
    obtain ⟨y, hm, e⟩ := List.any_eq_true.mp z
    exact ⟨⟨y, hm, of_decide_eq_true e⟩, h⟩
  · cases h
theorem cloC_of {cl : List (Str × Addr)} {fr : List Str} {F : Hp} {y : Str} {b : Addr} (hy : y ∈ fr) (h : cl.lookup y = some b) : cloC cl fr F b = F b := by
  unfold cloC
  rw [if_pos (List.any_eq_true.mpr ⟨y, hy, decide_eq_true h⟩)]
section
variable {F : Hp} {cl : List (Str × Addr)} {fr : List Str} {vs : List V}
theorem CapF.frz (c : CapF F cl fr vs) : FrzC (cloC cl fr F) := fun b o e => by
  obtain ⟨⟨y, hy, hl⟩, e2⟩ := cloC_mem e
  obtain ⟨k, hk⟩ := List.mem_iff_getElem?.mp hy
  obtain ⟨d, v, ob, h1, h2, h3⟩ := c.has k y hk
  rw [hl] at h1
  cases h1
  rw [h3] at e2
  cases e2
  exact ⟨ob, v, rfl⟩
theorem CapF.sub {b : Addr} {o : HO} (e : cloC cl fr F b = some o) : F b = some o := (cloC_mem e).2
theorem CapF.celC {P : Program} {w : World} {H : Hp} {h : Heap} (c : CapF F cl fr vs) (sm : Same F H) (hok : HOk P w H h) : CelC (cloC cl fr F) h := fun b o e => by
  obtain ⟨ob, v, e1⟩ := c.frz b o e
  have z := sm b o (CapF.sub e)
  rw [e1] at z
  obtain ⟨g, ⟨u, r, o2, g2, d⟩, _⟩ := hok b _ z
  rw [g] at g2
  cases g2
  exact ⟨ob, v, e1, g, u, r, d⟩
theorem CapF.cells {P : Program} {w : World} {H : Hp} {h : Heap} (c : CapF F cl fr vs) (sm : Same F H) (hok : HOk P w H h) : NdefX.CellsAt cl fr (vs.map some) h (Hl (cloC cl fr F) H) := by
  have tell : ∀ (k : Nat) (y : Str), fr[k]? = some y → ∃ b v, cl.lookup y = some b ∧ vs[k]? = some v ∧ cloC cl fr F b ≠ none ∧ ∃ u, RelV v u ∧ h.IsCell b (some u) := fun k y hk => by
    obtain ⟨b, v, ob, h1, h2, h3⟩ := c.has k y hk
    have hy : y ∈ fr := List.mem_of_getElem? hk
    obtain ⟨g, ⟨u, r, o2, g2, d⟩, _⟩ := hok b _ (sm b _ h3)
    refine ⟨b, v, h1, h2, ?_, u, r, o2, g2, d⟩
    rw [cloC_of hy h1, h3]
    intro z
    cases z
  refine ⟨by rw [List.length_map, c.len], fun y b e => ?_, c.inj, fun k y hk => ?_⟩
  · obtain ⟨k, hk⟩ := List.mem_iff_getElem?.mp (c.own y b e)
    obtain ⟨d, v, h1, _, h3, u, _, h4⟩ := tell k y hk
    rw [e] at h1
    cases h1
    refine ⟨?_, _, h4⟩
    cases q : cloC cl fr F b with
    | none => exact absurd q h3
    | some o => exact hl_some q
  · obtain ⟨b, v, h1, h2, _, u, r, h4⟩ := tell k y hk
    refine ⟨b, h1, fun v' e => ?_⟩
    rw [List.getElem?_map, h2] at e
    cases e
    exact ⟨u, r, h4⟩
end
theorem plWs_app {xs ys : List W} (h1 : plWs xs = true) (h2 : plWs ys = true) : plWs (xs ++ ys) = true := by
  induction xs with
  | nil => exact h2
  | cons x xs ih =>
    have h1 : (plW x && plWs xs) = true := h1
    rw [Bool.and_eq_true] at h1
    show (plW x && plWs (xs ++ ys)) = true
    rw [h1.1, ih h1.2]
    rfl
theorem rws_app {K : PySem.W.Frag} {S : S4} : ∀ {vs us : List V} {ws xs : List W}, RwsS K S vs ws → RwsS K S us xs → RwsS K S (vs ++ us) (ws ++ xs)
  | vs, us, [], xs, h, h2 => by
    have h : vs = [] := h
    subst h
    exact h2
  | vs, us, w :: ws, xs, h, h2 => by
    obtain ⟨v, r, e, q, t⟩ := h
    subst e
    exact ⟨v, r ++ us, rfl, q, rws_app t h2⟩
theorem te_calv {k i : Nat} {x : Str} {es : List Expr} {ms : List ME} (hL : ∀ (i : Nat) (params : Arguments) (body : Expr) (scope : Scope), (G.ca.x.lam i).P params body scope → LOk X.prog X.w X.K X.mg X.base k G i) (hr : Room k X.A) (tk : L2N.Takes X Wx)
    (hN : X.N[i]? = some x) (hv : Vis X.env.scope x) (hd : (x == ("__debug__" : Str)) = false) (hcd : (x == ("__classdict__" : Str)) = false)
    (hes : es.length = ms.length) (ha : PA X es (tA X.K G Wx ms)) (hs : ∀ e ∈ es, ∀ r, starEach (e :: r) X.env = (false, eval e X.env) :: starEach r X.env) : PE X (.Call (.Name x p) es [] pos) (tE X.K G Wx (.calv i ms)) := by
  refine ⟨fun pins s σ H Q I h => ?_⟩
  obtain ⟨Γ, S, eH, o, re, h⟩ := h
  subst eH
  unfold evE at h
  cases q : Γ[i]? with
  | none => rw [q] at h; exact False.elim h
  | some ow => cases ow with
    | none => rw [q] at h; exact False.elim h
    | some w => cases w with
      | fn j cs =>
        rw [q] at h
        obtain ⟨val, e1, a, qn, params, body, scope, cl, c, cvs, ev, fa, cap, rc⟩ := re.at_ i _ q
        subst ev
        refine wpAny_Call_Name_kw (thn ((pe_var (pos := p) hN hv hd hcd).run pins s σ S.H (fun v H1 => v = .ref a ∧ H1 = S.H) I ⟨.ref a, e1, rfl, rfl⟩) fun u s1 ⟨v, H1, I1, r1, q1⟩ => ?_)
        obtain ⟨ev, eH⟩ := q1
        subst ev
        rw [eH] at I1
        obtain rfl : u = Value.ref a := r1
        have lo := hL j params body scope (by rw [← o.tx]; exact fa.2.2)
        -- the call itself
        have go : ∀ (us : List Value) (s2 : Shared) (vs : List V) (S1 : S4) (ws : List W), Inv X pins σ S1.H s2 → Vals vs us → Tr X.K G.ca S S1 → RwsS X.K S1 vs ws → Pst X.K G Wx (RwS X.K) σ S1 (if (plWs ws && plWs cs && plS S1.st) = true then G.Φ j (ws ++ cs) S1.st else .err) Q →
            wpAny (model X.prog X.w) X.A (call (.ref a) us) (EP X pins σ Q) X.xe s2 := fun us s2 vs S1 ws I2 r t rw_ hp => by
          by_cases hpl : (plWs ws && plWs cs && plS S1.st) = true
          · rw [if_pos hpl] at hp
            rw [Bool.and_eq_true, Bool.and_eq_true] at hpl
            obtain ⟨⟨p1, p2⟩, p3⟩ := hpl
            have eux : S1.U.x = G.ca.x := t.ok.tx
            have fa1 : FnAt S1.F (S1.U.x.lam j) a qn params body scope cl c := by
              rw [t.eU]
              exact fa.mono t.fs
            have cap1 : CapF S1.F cl (G.ca.x.lam j).fr cvs := by
              rw [← o.tx]
              exact cap.mono t.fs
            have rc1 : RwsS X.K S1 cvs cs := t.rws rc
            have hl : (ws ++ cs).length = (G.ca.x.lam j).ps.length + (G.ca.x.lam j).fr.length := by
              by_cases z : (ws ++ cs).length = (G.ca.x.lam j).ps.length + (G.ca.x.lam j).fr.length
              · exact z
              · rw [lo.len _ _ z] at hp
                exact False.elim hp
            have lc : cvs.length = (G.ca.x.lam j).fr.length := cap1.len
            have lv : vs.length = (G.ca.x.lam j).ps.length := by
              rw [List.length_append, ← rc1.length] at hl
              rw [rw_.length]
              omega
            have sm := t.ok.sub
            have cel := cap1.celC sm I2.hok
            have frz := cap1.frz
            have hF : ∀ b ob, cloC cl (G.ca.x.lam j).fr S1.F b = some ob → S1.F b = some ob := fun b ob z => CapF.sub z
            have fH : ∀ b ob, cloC cl (G.ca.x.lam j).fr S1.F b = some ob → ∃ ob2 u, S1.H b = some (.frz ob2 u) := fun b ob z => by
              obtain ⟨o2, v2, e2⟩ := frz b ob z
              exact ⟨o2, _, by rw [sm b ob (hF b ob z), e2]⟩
            refine ends_call (E := fun σ c d H => Wx c d σ H) (L2N.passAt tk σ) I2 (codeAny_mono ?_ fun r s' hq => cr_more (C := cloC cl (G.ca.x.lam j).fr S1.F) cel (fun b ob z => ⟨sm b ob (hF b ob z), fun z2 => ?_⟩) hq)
            rotate_left
            · have z3 := I2.env0.frf b z2
              rw [sm b ob (hF b ob z)] at z3
              cases z3
            · refine lo.run X.A X.stack s2 _ us vs cvs a c qn params body scope cl _ _ hr (env0_less I2.env0 fH) ?_ ?_ (by rw [← eux]; exact fa1.2.2) (cap1.cells sm I2.hok) r lv ?_
              · exact (hl_none (by
                  cases z : cloC cl (G.ca.x.lam j).fr S1.F a with
                  | none => rfl
                  | some ob =>
                    obtain ⟨o2, v2, e2⟩ := frz a ob z
                    have z3 := hF a ob z
                    rw [fa1.1, e2] at z3
                    exact absurd (Option.some.inj z3) (lamO_ne _ _))).trans (sm _ _ fa1.1)
              · exact (hl_none (by
                  cases z : cloC cl (G.ca.x.lam j).fr S1.F c with
                  | none => rfl
                  | some ob =>
                    obtain ⟨o2, v2, e2⟩ := frz c ob z
                    have z3 := hF c ob z
                    rw [fa1.2.1, e2] at z3
                    have z4 := Option.some.inj z3
                    unfold LamX.CodeO at z4
                    cases z4)).trans (sm _ _ fa1.2.1)
              · refine ⟨by rw [List.length_append, lv, lc], S1.hl (cloC cl (G.ca.x.lam j).fr S1.F), ws ++ cs, rfl, t.ok.hl frz hF p3, rws_hl frz hF _ _ (plWs_app p1 p2) (rws_app rw_ rc1), ?_⟩
                show Pst X.K G _ (RwS X.K) [] (S1.hl _) (G.Φ j (ws ++ cs) S1.st) _
                cases qq : G.Φ j (ws ++ cs) S1.st with
                | err => rw [qq] at hp; exact hp
                | ok w st' =>
                  rw [qq] at hp
                  intro v S' e t2 rv nn
                  obtain ⟨t3, r3⟩ := Tr.unhl t.ok hF t2 nn
                  exact hp v (S'.hu (cloC cl (G.ca.x.lam j).fr S1.F) S1.U) e t3 (r3 v w rv)
                | exc cc st' =>
                  rw [qq] at hp
                  intro S' e t2 nn
                  obtain ⟨t3, r3⟩ := Tr.unhl t.ok hF t2 nn
                  exact hp (S'.hu (cloC cl (G.ca.x.lam j).fr S1.F) S1.U) e t3
          · rw [if_neg hpl] at hp
            exact False.elim hp
        cases es with
        | nil =>
          have ms0 : ms = [] := List.eq_nil_of_length_eq_zero hes.symm
          subst ms0
          unfold evEs at h
          exact PySem.W.callWith_F0 (first := []) (fnAtW I1.hok (o.sub _ _ fa.1)) (go [] s1 [] S [] I1 .nil (Tr.refl o) rfl h)
        | cons e es =>
          refine PySem.W.callWith_F (first := []) (fnAtW I1.hok (o.sub _ _ fa.1)) (thn (ha.run pos pins s1 σ S.H _ I1 ⟨Γ, S, rfl, o, re, Pst.bind (Rl := RwsS X.K) h⟩) fun us s2 ⟨vs, H2, I2, r, S1, ws, eS, t, r2, _, hp⟩ => ?_) (hs e List.mem_cons_self es) (stars fun e' he' => hs e' (List.mem_cons_of_mem _ he'))
          subst eS
          exact ⟨fnAtW I2.hok (t.ok.sub _ _ (t.fs _ _ fa.1)), go us s2 vs S1 ws I2 r t r2 hp⟩
      | _ => rw [q] at h; exact False.elim h
end
end Mi

set_option Elab.async false
set_option linter.all false
set_option maxRecDepth 100000
set_option maxHeartbeats 1000000
/-! Mini Python: lambdas are handed on; they are made. -/
namespace Mi
open PySem PySem.Spec PyProof.Rows L2
/-- the frame of a def that makes lambdas; t: the place of its table, q: its lambdas' name -/
structure TopM (X : Cx) (G : Gd) (t : Nat) (q : Str) : Prop where
  fn : X.fn = fun _ => true
  stk : X.stack = X.env :: X.outer
  frm : X.env.frame = some X.env.locals
  cells : G.ca.x.cells = some X.env.cells
  qual : X.env.qual ++ "<lambda>" = q
  code : ∃ c P, X.env.code = .ref c ∧ LamX.TabB X.base X.mg c P ∧ G.ca.x.tabs[t]? = some P
/-! ### the cells of the frame, lent -/
def CellHas (X : Cx) (σ : L2.St) (h : Heap) (b : Addr) (z : V × Obj) : Prop := ∃ (y : Str) (j : Nat) (u : Value), X.env.cells.lookup y = some b ∧ X.N[j]? = some y ∧ σ[j]? = some (some z.1) ∧ h.get? b = some z.2 ∧ z.2.data = .cell (some u) ∧ RelV z.1 u
open Classical in
noncomputable def cellC (X : Cx) (σ : L2.St) (h : Heap) : Hp := fun b => if hx : ∃ z, CellHas X σ h b z then some (.frz (Classical.choose hx).2 (CelO b (Classical.choose hx).1)) else none
theorem cellC_of {X : Cx} {σ : L2.St} {h : Heap} {b : Addr} {o : HO} (e : cellC X σ h b = some o) : ∃ z, CellHas X σ h b z ∧ o = .frz z.2 (CelO b z.1) := by
  unfold cellC at e
  split at e
  · rename_i hx
    cases e
    exact ⟨_, Classical.choose_spec hx, rfl⟩
  · cases e
section
variable {X : Cx} {pins : List (Addr × Obj)} {σ : L2.St} {H : Hp} {s : Shared}
theorem cellC_eq (I : Inv X pins σ H s) (nd : X.N.Nodup) {b : Addr} {z : V × Obj} (h : CellHas X σ s.heap b z) : cellC X σ s.heap b = some (.frz z.2 (CelO b z.1)) := by
  have hx : ∃ z, CellHas X σ s.heap b z := ⟨z, h⟩
  have e : Classical.choose hx = z := by
    obtain ⟨y, j, u, h1, h2, h3, h4, h5, h6⟩ := h
    obtain ⟨y', j', u', g1, g2, g3, g4, g5, g6⟩ := Classical.choose_spec hx
    have ey := I.ok.inj y y' b h1 g1
    subst ey
    have ej := nodup_ix nd h2 g2
    subst ej
    rw [h3] at g3
    rw [h4] at g4
    exact Prod.ext (Option.some.inj (Option.some.inj g3)).symm (Option.some.inj g4).symm
  unfold cellC
  rw [dif_pos hx, e]
theorem cellC_out (I : Inv X pins σ H s) (hf : X.fn = fun _ => true) (hst : X.stack = X.env :: X.outer) (hfr : X.env.frame = some X.env.locals) {b : Addr} (h : cellC X σ s.heap b ≠ none) : H b = none ∧ b ∉ frs X.stack ∧ X.base.get? b = none := by
  cases e : cellC X σ s.heap b with
  | none => exact absurd e h
  | some o =>
    obtain ⟨z, ⟨y, j, u, h1, h2, h3, h4, h5, h6⟩, _⟩ := cellC_of e
    have ab : X.s_0.heap.objs.size ≤ b := I.ok.cab y b (by rw [hf]) h1
    refine ⟨I.freeC y b h1, fun hm => ?_, Heap.get?_none_of_le (Nat.le_trans I.ok.bsz ab)⟩
    rw [hst] at hm
    unfold frs at hm
    rw [List.filterMap_cons, hfr] at hm
    rcases List.mem_cons.mp hm with hm | hm
    · obtain ⟨m, ⟨o2, es, ep, g1, g2, _⟩, _⟩ := I.loc
      rw [← hm, h4] at g1
      cases g1
      rw [h5] at g2
      cases g2
    · obtain ⟨_, o2, g1, _⟩ := I.ok.funs.mem (show b ∈ X.fs from hm)
      exact Nat.lt_irrefl _ (Nat.lt_of_lt_of_le (Heap.lt_size g1) ab)
theorem cellC_cel : CelC (cellC X σ s.heap) s.heap := fun b o e => by
  obtain ⟨z, ⟨y, j, u, h1, h2, h3, h4, h5, h6⟩, e2⟩ := cellC_of e
  exact ⟨z.2, z.1, e2, h4, u, h6, h5⟩
theorem cellC_frz : FrzC (cellC X σ s.heap) := fun b o e => by
  obtain ⟨z, _, e2⟩ := cellC_of e
  exact ⟨z.2, z.1, e2⟩
/-- a captured name's cell -/
theorem cell_has (I : Inv X pins σ H s) {y : Str} {j : Nat} {v : V} (hN : X.N[j]? = some y) (hs : σ[j]? = some (some v)) (hy : X.env.scope.names.lookup y = some .cell) : ∃ b ob, X.env.cells.lookup y = some b ∧ CellHas X σ s.heap b (v, ob) := by
  obtain ⟨m, hn, hl⟩ := I.loc
  obtain ⟨u, r, l⟩ := hl j y v hN hs (.inr (.inl hy))
  rcases l with ⟨z, _⟩ | ⟨_, b, hb, ob, ho, hd⟩
  · have z : X.env.scope.names.lookup y = some .local := z
    rw [hy] at z
    cases z
  · exact ⟨b, ob, hb, y, j, u, hb, hN, hs, ho, hd, r⟩
end
section
variable {K : PySem.W.Frag} {S : S4} {σ : L2.St} {Γ : Env}
theorem slots_rd (re : Re K S σ Γ) : ∀ {js : List Nat} {cs : List W}, slots Γ js = some cs → ∃ vals, RwsS K S vals cs ∧ ∀ (k j : Nat), js[k]? = some j → ∃ v, vals[k]? = some v ∧ σ[j]? = some (some v)
  | [], cs, h => by
    cases h
    exact ⟨[], rfl, fun k j e => by simp at e⟩
  | j :: js, cs, h => by
    unfold slots at h
    cases q1 : slW1 Γ j with
    | none => rw [q1] at h; cases h
    | some w => cases q2 : slots Γ js with
      | none => rw [q1, q2] at h; cases h
      | some ws =>
        rw [q1, q2] at h
        cases h
        obtain ⟨vals, r, hv⟩ := slots_rd re q2
        unfold slW1 at q1
        cases q3 : Γ[j]? with
        | none => rw [q3] at q1; cases q1
        | some ow => cases ow with
          | none => rw [q3] at q1; cases q1
          | some w' =>
            rw [q3] at q1
            have q1 : (if plW w' = true then some w' else none) = some w := q1
            split at q1
            · cases q1
              obtain ⟨v, e, rv⟩ := re.at_ j _ q3
              refine ⟨v :: vals, ⟨v, vals, rfl, rv, r⟩, fun k i hk => ?_⟩
              cases k with
              | zero =>
                have hk : j = i := by simpa using hk
                subst hk
                exact ⟨v, rfl, e⟩
              | succ k => exact hv k i (by simpa using hk)
            · cases q1
theorem slots_len : ∀ {js : List Nat} {cs : List W}, slots Γ js = some cs → js.length = cs.length
  | [], cs, h => by cases h; rfl
  | j :: js, cs, h => by
    unfold slots at h
    cases q1 : slW1 Γ j with
    | none => rw [q1] at h; cases h
    | some w => cases q2 : slots Γ js with
      | none => rw [q1, q2] at h; cases h
      | some ws =>
        rw [q1, q2] at h
        cases h
        rw [List.length_cons, List.length_cons, slots_len q2]
mutual
theorem rw_op {C : Hp} {cap : Nat → Option (List W)} {cells : List (Str × Addr)} (hx : S.U.x.cells = some cells) (n : ∀ b, C b ≠ none → S.F b = none)
    (hc : ∀ (i : Nat) (cs : List W) (params : Arguments) (body : Expr) (scope : Scope), cap i = some cs → (S.U.x.lam i).P params body scope → ∃ vals, CapF (Hm C S.F) (cloFrom cells scope.names []) (S.U.x.lam i).fr vals ∧ RwsS K (S.hm C) vals cs) :
    ∀ (v : V) (w w' : W), opW cap w = some w' → RwS K S v w → RwS K (S.hm C) v w'
  | v, .non, w', e, h => by cases e; exact h
  | v, .bl b, w', e, h => by cases e; exact h
  | v, .int i, w', e, h => by cases e; exact h
  | v, .str s, w', e, h => by cases e; exact h
  | v, .tup ws, w', e, h => by
    unfold opW at e
    cases q : opWs cap ws with
    | none => rw [q] at e; cases e
    | some xs =>
      rw [q] at e
      cases e
      obtain ⟨a, vs, e, q2, r⟩ := h
      exact ⟨a, vs, e, Same.seqT (same_hm n) q2, rws_op hx n hc vs ws xs q r⟩
  | v, .lst kk ws, w', e, h => by
    unfold opW at e
    cases q : opWs cap ws with
    | none => rw [q] at e; cases e
    | some xs =>
      rw [q] at e
      cases e
      obtain ⟨a, vs, e, q2, l, r⟩ := h
      exact ⟨a, vs, e, Lk.mono (same_hm n) q2, l, rws_op hx n hc vs ws xs q r⟩
  | v, .loc n, w', e, h => by cases e; exact h
  | v, .exn c, w', e, h => by cases e
  | v, .clo i, w', e, h => by
    unfold opW at e
    cases q : cap i with
    | none => rw [q] at e; cases e
    | some cs =>
      rw [q] at e
      cases e
      obtain ⟨a, qn, params, body, scope, c, cl, e1, u, f⟩ := h
      rw [hx] at u
      cases u
      obtain ⟨vals, h1, h2⟩ := hc i cs params body scope q f.2.2
      exact ⟨a, qn, params, body, scope, _, c, vals, e1, f.mono (same_hm n), h1, h2⟩
  | v, .fn i ws, w', e, h => by cases e
theorem rws_op {C : Hp} {cap : Nat → Option (List W)} {cells : List (Str × Addr)} (hx : S.U.x.cells = some cells) (n : ∀ b, C b ≠ none → S.F b = none)
    (hc : ∀ (i : Nat) (cs : List W) (params : Arguments) (body : Expr) (scope : Scope), cap i = some cs → (S.U.x.lam i).P params body scope → ∃ vals, CapF (Hm C S.F) (cloFrom cells scope.names []) (S.U.x.lam i).fr vals ∧ RwsS K (S.hm C) vals cs) :
    ∀ (vs : List V) (ws ws' : List W), opWs cap ws = some ws' → RwsS K S vs ws → RwsS K (S.hm C) vs ws'
  | vs, [], ws', e, h => by cases e; exact h
  | vs, w :: ws, ws', e, h => by
    unfold opWs at e
    cases q1 : opW cap w with
    | none => rw [q1] at e; cases e
    | some y => cases q2 : opWs cap ws with
      | none => rw [q1, q2] at e; cases e
      | some ys =>
        rw [q1, q2] at e
        cases e
        obtain ⟨v, r, e1, h1, h2⟩ := h
        exact ⟨v, r, e1, rw_op hx n hc v w y q1 h1, rws_op hx n hc r ws ys q2 h2⟩
end
theorem opWs_len {cap : Nat → Option (List W)} : ∀ {ws ws' : List W}, opWs cap ws = some ws' → ws'.length = ws.length
  | [], ws', e => by cases e; rfl
  | w :: ws, ws', e => by
    unfold opWs at e
    cases q1 : opW cap w with
    | none => rw [q1] at e; cases e
    | some y => cases q2 : opWs cap ws with
      | none => rw [q1, q2] at e; cases e
      | some ys =>
        rw [q1, q2] at e
        cases e
        rw [List.length_cons, List.length_cons, opWs_len q2]
end
section
variable {X : Cx} {G : Gd} {Wx : WX} {p pos : Pos}
/-- what the lambdas in what is handed on captured -/
theorem cap_of {tb : List (Nat × List Nat)} {S : S4} {pins : List (Addr × Obj)} {σ : L2.St} {s : Shared} {Γ : Env} (hT : ∀ (i : Nat) (params : Arguments) (body : Expr) (scope : Scope), (G.ca.x.lam i).P params body scope → LamT (G.ca.x.lam i) params scope) (nd : X.N.Nodup)
    (htb : ∀ i js, tb.lookup i = some js → js.map (fun j => X.N[j]?) = (G.ca.x.lam i).fr.map some ∧ ∀ y ∈ (G.ca.x.lam i).fr, X.env.scope.names.lookup y = some .cell) (o : Ok X.K G.ca S) (I : Inv X pins σ S.H s) (re : Re X.K S σ Γ) (n : ∀ b, cellC X σ s.heap b ≠ none → S.F b = none) :
    ∀ (i : Nat) (cs : List W) (params : Arguments) (body : Expr) (scope : Scope), capOf Γ tb i = some cs → (S.U.x.lam i).P params body scope → ∃ vals, CapF (Hm (cellC X σ s.heap) S.F) (cloFrom X.env.cells scope.names []) (S.U.x.lam i).fr vals ∧ RwsS X.K (S.hm (cellC X σ s.heap)) vals cs := fun i cs params body scope hc hP => by
  rw [o.tx] at hP
  have T := (hT i params body scope hP).sc
  unfold capOf at hc
  cases q : tb.lookup i with
  | none => rw [q] at hc; cases hc
  | some js =>
    rw [q] at hc
    have hc : slots Γ js = some cs := hc
    obtain ⟨e1, e2⟩ := htb i js q
    obtain ⟨vals, r, hv⟩ := slots_rd re hc
    have ljs : js.length = (G.ca.x.lam i).fr.length := by
      have z := congrArg List.length e1
      rwa [List.length_map, List.length_map] at z
    have lv : vals.length = (G.ca.x.lam i).fr.length := by rw [r.length, ← slots_len hc, ljs]
    have hfree : ∀ y ∈ scope.names, y.2 = .free → ∃ c, X.env.cells.lookup y.1 = some c := fun y hy e => I.ok.has _ (.inl (e2 _ (T.free y hy e)))
    refine ⟨vals, ?_, r.hm n⟩
    rw [o.tx]
    refine ⟨lv, fun y c e => ?_, fun x y c h1 h2 => I.ok.inj x y c (NdefX.clo_cm hfree h1) (NdefX.clo_cm hfree h2), fun k y hk => ?_⟩
    · rcases cloFrom_mem (PySem.mem_of_lookup e) with hm | ⟨h1, _⟩
      · cases hm
      · exact T.free _ h1 rfl
    · have e3 : (js.map fun j => X.N[j]?)[k]? = some (some y) := by rw [e1, List.getElem?_map, hk]; rfl
      rw [List.getElem?_map] at e3
      cases ej : js[k]? with
      | none => rw [ej] at e3; cases e3
      | some j =>
        rw [ej] at e3
        have hj : X.N[j]? = some y := Option.some.inj e3
        obtain ⟨v, hv1, hv2⟩ := hv k j ej
        have hy := e2 y (List.mem_of_getElem? hk)
        obtain ⟨b, ob, hb, hcell⟩ := cell_has I hj hv2 hy
        have hfr : (y, NameKind.free) ∈ scope.names := PySem.mem_of_lookup (T.frk y (List.mem_of_getElem? hk))
        exact ⟨b, v, ob, NdefX.clo_has hfree hfr hb, hv1, hm_some (cellC_eq I nd hcell)⟩
theorem te_callF {i k np t : Nat} {q : Str} {tb : List (Nat × List Nat)} {f : Addr} {fd : FuncData} {ps : List Str} {x : Str} {es : List Expr} {ms : List ME} (TM : TopM X G t q) (nd : X.N.Nodup)
    (hT : ∀ (i : Nat) (params : Arguments) (body : Expr) (scope : Scope), (G.ca.x.lam i).P params body scope → LamT (G.ca.x.lam i) params scope)
    (htb : ∀ i js, tb.lookup i = some js → js.map (fun j => X.N[j]?) = (G.ca.x.lam i).fr.map some ∧ ∀ y ∈ (G.ca.x.lam i).fr, X.env.scope.names.lookup y = some .cell)
    (F : FnOk X.prog X.w X.K X.mg X.base (L2N.CX X.prog X.w) k f fd ps (spF X.K G (G.Φ i) np)) (hr : Room k X.A) (tk : L2N.Takes X Wx)
    (hg : Gl X x) (hm : X.mg x = some (.ref f)) (hk : PySem.W.keepIn X.K (.ref f) = true) (hb : Binds X.K fd ps []) (hdb : (x == ("__debug__" : Str)) = false) (hn : ms.length = np) (hes : es.length = ms.length)
    (ha : PA X es (tA X.K G Wx ms)) (hs : ∀ e ∈ es, ∀ r, starEach (e :: r) X.env = (false, eval e X.env) :: starEach r X.env) : PE X (.Call (.Name x p) es [] pos) (tE X.K G Wx (.callF i tb ms)) := by
  refine ⟨fun pins s σ H Q I h => ?_⟩
  obtain ⟨Γ, S, eH, o, re, h⟩ := h
  subst eH
  unfold evE at h
  refine wpAny_Call_Name_kw (ld_glob I hg hm ?_ hdb)
  have go : ∀ (us : List Value) (s2 : Shared) (vs : List V) (S1 : S4) (ws : List W), Inv X pins σ S1.H s2 → Vals vs us → Tr X.K G.ca S S1 → RwsS X.K S1 vs ws → ws.length = ms.length → Pst X.K G Wx (RwS X.K) σ S1 (match opWs (capOf Γ tb) ws with | some ws' => outP (G.Φ i ws' S1.st) | none => .err) Q →
      wpAny (model X.prog X.w) X.A (call (.ref f) us) (EP X pins σ Q) X.xe s2 := fun us s2 vs S1 ws I2 r tr rw_ hlw hp => by
    cases qo : opWs (capOf Γ tb) ws with
    | none => rw [qo] at hp; exact False.elim hp
    | some ws' =>
      rw [qo] at hp
      have hp : Pst X.K G Wx (RwS X.K) σ S1 (outP (G.Φ i ws' S1.st)) Q := hp
      have out : ∀ b, cellC X σ s2.heap b ≠ none → S1.H b = none ∧ b ∉ frs X.stack ∧ X.base.get? b = none := fun b z => cellC_out I2 TM.fn TM.stk TM.frm z
      have nH : ∀ b, cellC X σ s2.heap b ≠ none → S1.H b = none := fun b z => (out b z).1
      have nF : ∀ b, cellC X σ s2.heap b ≠ none → S1.F b = none := fun b z => tr.ok.sub.free (nH b z)
      have frz : FrzC (cellC X σ s2.heap) := cellC_frz (X := X) (σ := σ) (s := s2)
      have cel : CelC (cellC X σ s2.heap) s2.heap := cellC_cel (X := X) (σ := σ) (s := s2)
      have re1 := re.mono tr
      have hx : S1.U.x.cells = some X.env.cells := by rw [tr.ok.tx]; exact TM.cells
      have r2 := rws_op hx nF (cap_of hT nd htb tr.ok I2 re1 nF) vs ws ws' qo rw_
      have hl2 : vs.length = np := by rw [rw_.length, hlw, hn]
      have sp : spF X.K G (G.Φ i) np vs (Hm (cellC X σ s2.heap) S1.H) (fun v H1 => Q v (Hl (cellC X σ s2.heap) H1)) (fun c d H1 => Wx c d σ (Hl (cellC X σ s2.heap) H1)) := by
        refine ⟨hl2, S1.hm (cellC X σ s2.heap), ws', rfl, tr.ok.hm nH, r2, ?_⟩
        show Pst X.K G _ (RwS X.K) [] (S1.hm _) (G.Φ i ws' S1.st) _
        cases qq : G.Φ i ws' S1.st with
        | err => rw [qq] at hp; exact hp
        | ok w st' =>
          rw [qq] at hp
          have hp : Pst X.K G Wx (RwS X.K) σ S1 (if (plW w && plS st') = true then R.ok w st' else .err) Q := hp
          by_cases hpl : (plW w && plS st') = true
          · rw [if_pos hpl] at hp
            rw [Bool.and_eq_true] at hpl
            intro v S' e t2 rv
            subst e
            obtain ⟨t3, r3⟩ := Tr.unhm tr.ok frz nH t2 hpl.2
            exact hp v (S'.hl (cellC X σ s2.heap)) rfl t3 (r3 v w hpl.1 rv)
          · rw [if_neg hpl] at hp
            exact False.elim hp
        | exc cc st' =>
          rw [qq] at hp
          have hp : Pst X.K G Wx (RwS X.K) σ S1 (if plS st' = true then R.exc cc st' else .err) Q := hp
          by_cases hpl : plS st' = true
          · rw [if_pos hpl] at hp
            intro S' e t2
            subst e
            obtain ⟨t3, r3⟩ := Tr.unhm tr.ok frz nH t2 hpl
            exact hp (S'.hl (cellC X σ s2.heap)) rfl t3
          · rw [if_neg hpl] at hp
            exact False.elim hp
      have hu : us.length = ps.length := by rw [← r.length]; exact F.len _ _ _ _ sp
      have hbs : BindsTo s2 fd ⟨us, []⟩ (ps.zip us) := by
        have z := hb s2 us I2.kIn (by rw [List.append_nil]; exact hu)
        rwa [List.append_nil] at z
      exact ends_call (E := fun σ c d H => Wx c d σ H) (L2N.passAt tk σ) I2 (codeAny_mono (F.run X.A X.stack s2 _ ⟨us, []⟩ us vs _ _ hr (env0_more I2.env0 cel out) hbs r sp) fun r s' hq => cr_less cel (fun b z => ⟨(out b z).1, (out b z).2.1⟩) hq)
  cases es with
  | nil =>
    have ms0 : ms = [] := List.eq_nil_of_length_eq_zero hes.symm
    subst ms0
    unfold evEs at h
    exact PySem.W.callWith_K0 I.kIn hk (go [] s [] S [] I .nil (Tr.refl o) rfl rfl h)
  | cons e es =>
    refine PySem.W.callWith_K (h₀ := X.base) I.ok.mod.kin hk (thn (ha.run pos pins s σ S.H _ I ⟨Γ, S, rfl, o, re, Pst.bind (Rl := RwsS X.K) h⟩) fun us s2 ⟨vs, H2, I2, r, S1, ws, eS, t, r2, q3, hp⟩ => ?_) (hs e List.mem_cons_self es) (stars fun e' he' => hs e' (List.mem_cons_of_mem _ he'))
    subst eS
    exact ⟨I2.kIn, go us s2 vs S1 ws I2 r t r2 (evEs_length q3) hp⟩
end
end Mi

set_option Elab.async false
set_option linter.all false
set_option maxRecDepth 100000
set_option maxHeartbeats 1000000
/-! Mini Python: lambdas are made. -/
namespace Mi
open PySem PySem.Spec PyProof.Rows L2
section
variable {K : PySem.W.Frag} {ca : Cg} {S : S4}
/-- the table's state with one more code object -/
def S4.tab (S : S4) (P c : Addr) (ps : Array Value) (q : Str) : S4 := ⟨S.U, S.ρ, upd S.F c (LamX.CodeO c q), S.st, upd (upd S.H P (.tbl ps)) c (LamX.CodeO c q)⟩
theorem Ok.tab (k : Ok K ca S) {t : Nat} {P c : Addr} {ps ps' : Array Value} {q : Str} (hst : S.st[t]? = some (some (.tbl q))) (hP : S.ρ[t]? = some P) (hc : S.H c = none) (hps : S.H P = some (.tbl ps)) (ht : TriplesOk ps'.toList)
    (ha : ∀ (pos : Pos) (cv : Value), codeAmong pos ps'.toList = some cv → ∃ d, cv = .ref d ∧ (S.F d = some (LamX.CodeO d q) ∨ d = c)) : Tr K ca S (S.tab P c ps' q) := by
  have hF : S.F c = none := k.sub.free hc
  have lP : Live S P := ⟨t, _, hst, hP⟩
  have hFP : S.F P = none := k.apart lP
  have nPc : P ≠ c := fun e => by rw [e, hc] at hps; cases hps
  have nl : ∀ b, Live S b → b ≠ c := fun b l e => by
    obtain ⟨x, h⟩ := k.tracked l
    rw [e, hc] at h; cases h
  have sF : Same S.F (upd S.F c (LamX.CodeO c q)) := same_upd hF
  have at_ : ∀ b, b ≠ P → b ≠ c → (S.tab P c ps' q).H b = S.H b := fun b h1 h2 => by
    show upd (upd S.H P (.tbl ps')) c (LamX.CodeO c q) b = S.H b
    rw [upd_ne h2, upd_ne h1]
  have atP : (S.tab P c ps' q).H P = some (.tbl ps') := by
    show upd (upd S.H P (.tbl ps')) c (LamX.CodeO c q) P = _
    rw [upd_ne nPc, upd_same]
  have rw' : ∀ v w, RwS K S v w → RwS K (S.tab P c ps' q) v w := fun v w r => Rw.mono (fun _ _ h => h) sF v w r
  have rws' : ∀ vs ws, RwsS K S vs ws → RwsS K (S.tab P c ps' q) vs ws := fun v w r => Rws.mono (fun _ _ h => h) sF v w r
  refine ⟨rfl, fun _ _ h => h, sF, fun b x h n => ?_, fun b l => .inl l, fun b x h => ?_, fun b x h => ?_, Nat.le_refl _, ⟨k.len, fun b x h => ?_, fun a h => ?_, fun n ob a h1 h2 => ?_, k.inj, k.tx, k.tt⟩⟩
  · rw [at_ b (fun e => n (by rw [e]; exact lP)) (fun e => by rw [e, hc] at h; cases h)]
    exact h
  · by_cases e : b = P
    · rw [e]; exact ⟨_, atP⟩
    · rw [at_ b e (fun e => by rw [e, hc] at h; cases h)]
      exact ⟨x, h⟩
  · have h : upd S.F c (LamX.CodeO c q) b = some x := h
    by_cases e : b = c
    · rw [e]; exact .inr (.inl hc)
    · rw [upd_ne e] at h; exact .inl h
  · have h : upd S.F c (LamX.CodeO c q) b = some x := h
    by_cases e : b = c
    · rw [e, upd_same] at h
      cases h
      show upd (upd S.H P (.tbl ps')) c (LamX.CodeO c q) b = _
      rw [e, upd_same]
    · rw [upd_ne e] at h
      have e2 : b ≠ P := fun z => by rw [z, hFP] at h; cases h
      rw [at_ b e2 e]
      exact k.sub b x h
  · obtain ⟨o, e⟩ := k.vw a h
    exact ⟨o, sF a o e⟩
  · obtain ⟨z1, z2⟩ := k.liv n ob a h1 h2
    have la : Live S a := ⟨n, ob, h1, h2⟩
    refine ⟨(upd_ne (nl a la)).trans z1, ?_⟩
    by_cases e : a = P
    · subst e
      have en := k.inj n t ob _ a h1 hst h2 hP
      subst en
      have h1 : S.st[n]? = some (some ob) := h1
      rw [hst] at h1
      cases h1
      refine ⟨ps', atP, ht, fun pos cv z => ?_⟩
      obtain ⟨d, e1, e2⟩ := ha pos cv z
      refine ⟨d, e1, ?_⟩
      rcases e2 with e2 | e2
      · exact sF _ _ e2
      · rw [e2]; exact upd_same
    · exact Ro.mono (S := S) (S' := S.tab P c ps' q) rw' rws' (at_ a e (nl a la)) sF z2
end
section
variable {X : Cx} {G : Gd} {Wx : WX} {p pos : Pos} {i t : Nat} {q : Str} {params : Arguments} {body : Expr} {scope : Scope}
theorem lam_core {pins : List (Addr × Obj)} {σ : L2.St} {s : Shared} {S : S4} {Q : Value → Shared → Prop} {E : Value → Shared → Prop} (TM : TopM X G t q) (T : LamT (G.ca.x.lam i) params scope) (hP : (G.ca.x.lam i).P params body scope)
    (hfree : ∀ y ∈ scope.names, y.2 = .free → X.env.scope.names.lookup y.1 = some .cell ∨ X.env.scope.names.lookup y.1 = some .free) (o : Ok X.K G.ca S) (I : Inv X pins σ S.H s) (hst : isTbl S.st t q = true)
    (h : ∀ (f c : Addr) (S' : S4) (s' : Shared), Tr X.K G.ca S S' → S'.st = S.st → Inv X pins σ S'.H s' → FnAt S'.F (G.ca.x.lam i) f q params body scope (cloFrom X.env.cells scope.names []) c → Q (.ref f) s') :
    wpAny (model X.prog X.w) X.A (eval (.Lambda params body scope pos) X.env) Q E s := by
  obtain ⟨cd, P, hcode, TB, htab⟩ := TM.code
  have hst : S.st[t]? = some (some (.tbl q)) := by
    unfold isTbl at hst
    split at hst
    · rename_i p e
      rw [e, of_decide_eq_true hst]
    · cases hst
  have hρ : S.ρ[t]? = some P := o.tt t P htab
  obtain ⟨z1, ps, hPs, ht, ha⟩ := o.liv t _ P hst hρ
  have hfr : ∀ y ∈ scope.names, y.2 = .free → ∃ c, X.env.cells.lookup y.1 = some c := fun y hy e => (hfree y hy e).elim (fun z => I.ok.has _ (.inl z)) fun z => I.ok.has _ (.inr z)
  refine PySem.W.kla_eval (T.dfl _) ?_
  rw [TM.qual]
  have bP : s.heap.BuiltinsAt X.mg P := TB.bm.keeps I.bk
  have hP' : s.heap.get? P = some { cls := .none, data := .fields ps } := I.hok P _ hPs
  have new : ∀ {h' : Heap} {f : Addr} {c : Addr} {pm ctv : Value} {H1 : Hp}, h'.get? f = some (PySem.W.kla_obj "<lambda>" q params body scope (cloFrom X.env.cells scope.names []) pm c ctv) → ObjOk X.prog X.w H1 h' f (LamO f q params body scope (cloFrom X.env.cells scope.names []) c) := fun {h' f c pm ctv H1} e =>
    ⟨⟨pm, ctv, e⟩, ⟨_, e⟩, fun h1 h2 ⟨pm, ctv, z⟩ st => ⟨pm, ctv, st _ z⟩⟩
  cases hc : codeAmong pos ps.toList with
  | none =>
    refine PySem.W.kla_makeFunction (mg := X.mg) (c := cd) (P := P) (ps := ps) (closure_ok hfr) I.ok.glob (I.mod.glob.keeps I.bk) hcode (TB.code.keeps I.bk) hP' ht hc TB.gP bP fun c' ctv h' tk hx hge hlt hrec htb => ?_
    obtain ⟨c2, oc, vs, tt, e2, hoc, hd, hv⟩ := hrec
    cases e2
    have nC : S.H c' = none := I.hok.fresh hge
    have eL : (ps ++ #[rawInt pos.line, rawInt pos.col, .ref c']).toList = ps.toList ++ [rawInt pos.line, rawInt pos.col, .ref c'] := by simp
    have I1 : Inv X pins σ (S.tab P c' (ps ++ #[rawInt pos.line, rawInt pos.col, .ref c']) q).H { s with heap := h', toks := tk } :=
      LamX.inv_table (t' := tk) (more := #[rawInt pos.line, rawInt pos.col, .ref c']) (h' := h') I hPs hx htb hge ⟨oc, vs, tt, hoc, hd, hv⟩
    have t1 : Tr X.K G.ca S (S.tab P c' (ps ++ #[rawInt pos.line, rawInt pos.col, .ref c']) q) := by
      refine o.tab hst hρ nC hPs (by rw [eL]; exact PySem.TriplesOk_snoc _ _ _ _ ht) fun p' cv hcv => ?_
      rw [eL] at hcv
      rcases LamX.among_app _ ht hcv with z | z
      · obtain ⟨c0, e1, e2⟩ := ha p' cv z
        exact ⟨c0, e1, .inl e2⟩
      · exact ⟨c', z, .inr rfl⟩
    have nf := I1.hok.fresh (Nat.le_refl h'.objs.size)
    have t2 := t1.ok.put (o := LamO h'.objs.size q params body scope (cloFrom X.env.cells scope.names []) c') nf
    have I2 := I1.laid (t' := tk) (h' := h'.push (PySem.W.kla_obj "<lambda>" q params body scope (cloFrom X.env.cells scope.names []) ((X.mg "__name__").getD .none) c' ctv)) (fun b u e => Heap.get?_push_of_some _ e) (Nat.le_refl _) (new (Heap.get?_push_size _ rfl))
    refine h h'.objs.size c' _ _ (t1.trans t2) rfl I2 ⟨upd_same, ?_, hP⟩
    have ne : c' ≠ h'.objs.size := Nat.ne_of_lt hlt
    exact (upd_ne ne).trans upd_same
  | some cv =>
    obtain ⟨c', e, hco⟩ := ha pos cv hc
    subst e
    refine PySem.W.kla_makeFunctionHit (mg := X.mg) (c := cd) (P := P) (ps := ps) (closure_ok hfr) I.ok.glob (I.mod.glob.keeps I.bk) hcode (TB.code.keeps I.bk) hP' ht hc bP fun ctv h' tk hx hsz => ?_
    have I1 : Inv X pins σ S.H { s with heap := h', toks := tk } := I.kept hx
    have nf := I1.hok.fresh (Nat.le_refl h'.objs.size)
    have t2 := o.put (o := LamO h'.objs.size q params body scope (cloFrom X.env.cells scope.names []) c') nf
    have I2 := I1.laid (t' := tk) (h' := h'.push (PySem.W.kla_obj "<lambda>" q params body scope (cloFrom X.env.cells scope.names []) ((X.mg "__name__").getD .none) c' ctv)) (fun b u e => Heap.get?_push_of_some _ e) (Nat.le_refl _) (new (Heap.get?_push_size _ rfl))
    refine h h'.objs.size c' _ _ t2 rfl I2 ⟨upd_same, ?_, hP⟩
    have ne : c' ≠ h'.objs.size := fun z => by
      have z2 := o.sub _ _ hco
      rw [z, nf] at z2
      cases z2
    exact (upd_ne ne).trans hco
theorem te_lam (TM : TopM X G t q) (T : LamT (G.ca.x.lam i) params scope) (hP : (G.ca.x.lam i).P params body scope)
    (hfree : ∀ y ∈ scope.names, y.2 = .free → X.env.scope.names.lookup y.1 = some .cell ∨ X.env.scope.names.lookup y.1 = some .free) : PE X (.Lambda params body scope pos) (tE X.K G Wx (.lam i t q)) := by
  refine ⟨fun pins s σ H Q I ⟨Γ, S, eH, o, re, h⟩ => ?_⟩
  subst eH
  unfold evE at h
  by_cases hst : isTbl S.st t q = true
  · rw [if_pos hst] at h
    refine lam_core TM T hP hfree o I hst fun f c S' s' tr e I' fa => ?_
    refine ⟨.ref f, S'.H, I', rfl, h (.ref f) S' e tr ?_⟩
    have ex : S'.U.x = G.ca.x := tr.ok.tx
    exact ⟨f, q, params, body, scope, c, X.env.cells, rfl, by rw [ex]; exact TM.cells, by rw [ex]; exact fa⟩
  · rw [if_neg hst] at h
    exact False.elim h
theorem te_lam0 (TM : TopM X G t q) (T : LamT (G.ca.x.lam i) params scope) (hP : (G.ca.x.lam i).P params body scope) (h0 : (G.ca.x.lam i).fr = []) : PE X (.Lambda params body scope pos) (tE X.K G Wx (.lam0 i t q)) := by
  have nofree : ∀ y ∈ scope.names, y.2 ≠ .free := fun y hy e => by
    have z := T.sc.free y hy e
    rw [h0] at z
    cases z
  refine ⟨fun pins s σ H Q I ⟨Γ, S, eH, o, re, h⟩ => ?_⟩
  subst eH
  unfold evE at h
  by_cases hst : isTbl S.st t q = true
  · rw [if_pos hst] at h
    refine lam_core TM T hP (fun y hy e => absurd e (nofree y hy)) o I hst fun f c S' s' tr e I' fa => ?_
    refine ⟨.ref f, S'.H, I', rfl, h (.ref f) S' e tr ?_⟩
    have ex : S'.U.x = G.ca.x := tr.ok.tx
    have nolook : ∀ y d, (cloFrom X.env.cells scope.names []).lookup y = some d → False := fun y d e => by
      rcases cloFrom_mem (PySem.mem_of_lookup e) with hm | ⟨h1, _⟩
      · cases hm
      · exact nofree _ h1 rfl
    refine ⟨f, q, params, body, scope, _, c, [], rfl, by rw [ex]; exact fa, ?_, rfl⟩
    rw [ex, h0]
    exact ⟨rfl, fun y d e => (nolook y d e).elim, fun x y d e _ => (nolook x d e).elim, fun k y e => by simp at e⟩
  · rw [if_neg hst] at h
    exact False.elim h
end
end Mi

set_option Elab.async false
set_option linter.all false
set_option maxRecDepth 100000
set_option maxHeartbeats 1000000
/-! Mini Python: another frame: plain data does not lean on the frame's cells. -/
namespace Mi
open PySem PySem.Spec PyProof.Rows L2
def S4.ux (S : S4) (x : Ux) : S4 := ⟨⟨S.U.p, x⟩, S.ρ, S.F, S.st, S.H⟩
section
variable {K : PySem.W.Frag} {f : Nat → Addr} {x0 x : Ux} {S S1 : S4}
mutual
theorem rw_ux (x : Ux) : ∀ (v : V) (w : W), plW w = true → RwS K S v w → RwS K (S.ux x) v w
  | v, .non, _, h => h
  | v, .bl b, _, h => h
  | v, .int i, _, h => h
  | v, .str s, _, h => h
  | v, .tup ws, c, h => by
    obtain ⟨a, vs, e, q, r⟩ := h
    exact ⟨a, vs, e, q, rws_ux x vs ws c r⟩
  | v, .lst kk ws, c, h => by
    obtain ⟨a, vs, e, q, l, r⟩ := h
    refine ⟨a, vs, e, ?_, l, rws_ux x vs ws c r⟩
    cases kk with
    | gv => exact q
    | vw => exact q
    | fz => exact q
  | v, .loc n, _, h => h
  | v, .exn c, hc, h => by cases hc
  | v, .clo i, hc, h => by cases hc
  | v, .fn i ws, hc, h => by cases hc
theorem rws_ux (x : Ux) : ∀ (vs : List V) (ws : List W), plWs ws = true → RwsS K S vs ws → RwsS K (S.ux x) vs ws
  | vs, [], _, h => h
  | vs, w :: ws, c, h => by
    obtain ⟨v, r, e, q, t⟩ := h
    have c : (plW w && plWs ws) = true := c
    rw [Bool.and_eq_true] at c
    exact ⟨v, r, e, rw_ux x v w c.1 q, rws_ux x r ws c.2 t⟩
end
theorem rfs_ux (x : Ux) : ∀ {fv : List (Str × V)} {fs : List (Str × W)}, (fs.all fun p => plW p.2) = true → Rfs K S fv fs → Rfs K (S.ux x) fv fs
  | fv, [], _, z => z
  | fv, (g, w) :: r, c, z => by
    obtain ⟨v, rv, e, q, t⟩ := z
    rw [List.all_cons, Bool.and_eq_true] at c
    exact ⟨v, rv, e, rw_ux x v w c.1 q, rfs_ux x c.2 t⟩
theorem rks_ux (x : Ux) : ∀ {fv : List (Key × V)} {fs : List (Int × W)}, (fs.all fun p => plW p.2) = true → Rks K S fv fs → Rks K (S.ux x) fv fs
  | fv, [], _, z => z
  | fv, (g, w) :: r, c, z => by
    obtain ⟨v, rv, e, q, t⟩ := z
    rw [List.all_cons, Bool.and_eq_true] at c
    exact ⟨v, rv, e, rw_ux x v w c.1 q, rks_ux x c.2 t⟩
theorem ok_ux (k : Ok K ⟨f, x0⟩ S) (pl : plS S.st = true) (ht : x.tabs = x0.tabs) : Ok K ⟨f, x⟩ (S.ux x) := by
  refine ⟨k.len, k.sub, k.vw, fun m ob a h1 h2 => ?_, k.inj, rfl, fun t P e => k.tt t P (by rw [← ht]; exact e)⟩
  obtain ⟨z1, z2⟩ := k.liv m ob a h1 h2
  have c : plO (some ob) = true := List.all_eq_true.mp pl _ (List.mem_of_getElem? h1)
  refine ⟨z1, ?_⟩
  cases ob with
  | lst ws => obtain ⟨vs, e, l, r⟩ := z2; exact ⟨vs, e, l, rws_ux x _ _ c r⟩
  | ins cc fs => obtain ⟨dx, fv, e, r⟩ := z2; exact ⟨dx, fv, e, rfs_ux x c r⟩
  | dct kvs => obtain ⟨kv, e, l, r⟩ := z2; exact ⟨kv, e, l, rks_ux x c r⟩
  | tbl tq => exact z2
theorem tr_unux (k : Ok K ⟨f, x0⟩ S) (t : Tr K ⟨f, x⟩ (S.ux x) S1) (pl : plS S1.st = true) (ht : x.tabs = x0.tabs) : Tr K ⟨f, x0⟩ S (S1.ux x0) := by
  refine ⟨?_, t.ext, t.fs, t.keep, t.new, t.thr, t.fnew, t.lenle, ok_ux t.ok pl ht.symm⟩
  have e : S1.U = ⟨S.U.p, x⟩ := t.eU
  have e2 : S.U.x = x0 := k.tx
  show (⟨S1.U.p, x0⟩ : UU) = S.U
  rw [e, ← e2]
end
section
variable {K : PySem.W.Frag} {f : Nat → Addr} {x0 x : Ux} {S : S4}
/-- a def that makes functions runs over its own frame's words -/
theorem pst_ux {G0 G1 : Gd} {Wx : WX} {r : R W} {Q : VK} (e0 : G0.ca = ⟨f, x0⟩) (e1 : G1.ca = ⟨f, x⟩) (k : Ok K ⟨f, x0⟩ S) (ht : x.tabs = x0.tabs) (h : Pst K G0 Wx (RwS K) [] S (outP r) Q) : Pst K G1 Wx (RwS K) [] (S.ux x) r Q := by
  cases r with
  | err => exact h
  | ok w st' =>
    have h : Pst K G0 Wx (RwS K) [] S (if (plW w && plS st') = true then R.ok w st' else .err) Q := h
    by_cases hpl : (plW w && plS st') = true
    · rw [if_pos hpl] at h
      rw [Bool.and_eq_true] at hpl
      intro v S' e t rv
      subst e
      rw [e1] at t
      have t2 := tr_unux k t hpl.2 ht
      exact h v (S'.ux x0) rfl (by rw [e0]; exact t2) (rw_ux x0 v w hpl.1 rv)
    · rw [if_neg hpl] at h
      exact False.elim h
  | exc cc st' =>
    have h : Pst K G0 Wx (RwS K) [] S (if plS st' = true then R.exc cc st' else .err) Q := h
    by_cases hpl : plS st' = true
    · rw [if_pos hpl] at h
      intro S' e t
      subst e
      rw [e1] at t
      have t2 := tr_unux k t hpl ht
      have z := h (S'.ux x0) rfl (by rw [e0]; exact t2)
      rw [e0] at z
      rw [e1]
      exact z
    · rw [if_neg hpl] at h
      exact False.elim h
end
end Mi

set_option Elab.async false
set_option linter.all false
set_option maxRecDepth 100000
set_option maxHeartbeats 1000000
/-! Mini Python: xs.count(x), list(range(..)). -/
namespace L2
open PySem PySem.Spec PyProof.Rows
section
variable {X : Cx}
def rCountF (K : PySem.W.Frag) : V → List V → Hp → VK → Prop := fun x xs H Q => ∃ (a : Addr) (ys : List V) (y : V), x = V.ref a ∧ xs = [y] ∧ SqL K H a ys ∧ flatV y = true ∧ ys.all flatV = true ∧ Q (.int (ys.countP fun z => eqV z y : Nat)) H
theorem countP_rel {y : V} : ∀ {ys : List V} {its : List Value}, Vals ys its → ys.all flatV = true → its.countP (eqU y) = ys.countP fun z => eqV z y
  | _, _, .nil, _ => rfl
  | z :: ys, u :: its, .cons r t, f => by
    rw [List.all_cons, Bool.and_eq_true] at f
    rw [List.countP_cons, List.countP_cons, countP_rel t f.2, eqU_of r f.1]
theorem mt_countF : MtR X "list.count" (rCountF X.K) := by
  intro pins s σ H x xs v us Q I rx rxs h
  obtain ⟨a, ys, y, rfl, rfl, hs, fy, fys, q⟩ := h
  cases rx
  cases rxs with
  | cons ry rt =>
    rename_i uy ut
    cases rt
    obtain ⟨its, rv, ⟨⟨cls, dd, data, sl⟩, n, ho, hc, hdn, hd⟩, hlen⟩ := I.list hs
    simp only at hc hd
    subst hc hd
    refine call_meets PySem.F.slot_list_count ⟨_, ho, rfl⟩ PySem.F.entry_list_count (PySem.F.args_list_count_2 _ _)
      (SeqAt.list_countAt a its.toArray n dd sl uy (eqU y)) ⟨ho, fun u' hu' => mem_eqAt ry fy rv fys u' (by simpa using hu'), ?_⟩
    rw [show its.toArray.toList = its from rfl, countP_rel rv fys]
    exact ⟨.int _, H, I.tok _, ⟨_, rfl⟩, q⟩
end
end L2
namespace Mi
open PySem PySem.Spec PyProof.Rows L2
section
variable {X : Cx} {G : Gd} {Wx : WX} {p pos apos p2 p3 : Pos}
theorem countP_rws {K : PySem.W.Frag} {S : S4} {u : V} {x : W} (fx : isFl x = true) (ru : RwS K S u x) : ∀ {vs : List V} {ws : List W}, RwsS K S vs ws → ws.all isFl = true → vs.countP (fun z => eqV z u) = ws.countP fun z => eqW z x
  | vs, [], h, _ => by
    have h : vs = [] := h
    subst h
    rfl
  | vs, w :: ws, h, f => by
    obtain ⟨v, r, e, q, t⟩ := h
    subst e
    rw [List.all_cons, Bool.and_eq_true] at f
    rw [List.countP_cons, List.countP_cons, countP_rws fx ru t f.2, flat_eq f.1 fx q ru]
theorem flats_rws {K : PySem.W.Frag} {S : S4} : ∀ {vs : List V} {ws : List W}, RwsS K S vs ws → ws.all isFl = true → vs.all flatV = true
  | vs, [], h, _ => by
    have h : vs = [] := h
    subst h
    rfl
  | vs, w :: ws, h, f => by
    obtain ⟨v, r, e, q, t⟩ := h
    subst e
    rw [List.all_cons, Bool.and_eq_true] at f ⊢
    exact ⟨lst_in (n := 0) f.1 q, flats_rws t f.2⟩
/-! ### xs.count(x) -/
theorem te_cnt {o e : Expr} {mo m : ME} (h1 : PE X o (tE X.K G Wx mo)) (h2 : PE X e (tE X.K G Wx m)) (hbase : attributeBase o "count" X.env (eval o X.env) = eval o X.env) (hline : (apos.endLine == pos.line) = true) (hse : starEach [e] X.env = [(false, eval e X.env)]) :
    PE X (.Call (.Attribute o "count" apos) [e] [] pos) (tE X.K G Wx (.cnt mo m)) :=
  (pe_bm PySem.F.plainAttrs_list PySem.F.slot_list_count PySem.F.type_list_count mt_countF h1 (pa_cons h2 pa_nil hse) hbase (by rw [hse]; rfl) hline hse rfl).imp fun σ H Q ⟨Γ, S, eH, k, re, h⟩ => by
    subst eH
    unfold evE at h
    refine ⟨Γ, S, rfl, k, re, (Pst.bind (Rl := RwS X.K) h).mono fun v H' ⟨S1, w1, e, t1, r1, _, h1⟩ => ?_⟩
    subst e
    have re1 := re.mono t1
    cases z : seqL S1.st w1 with
    | none => simp only [z] at h1; exact False.elim h1
    | some pp =>
      simp only [z] at h1
      obtain ⟨kk, xs⟩ := pp
      obtain ⟨a, vs, e1, q1, _, l, t⟩ := seqL_rw t1.ok r1 z
      have rv := r1
      subst e1
      refine ⟨.inl ⟨rfl, vs, q1⟩, ?_⟩
      refine ⟨Γ, S1, rfl, t1.ok, re1, (Pst.bind (Rl := RwS X.K) h1).mono fun u H' ⟨S2, w2, e, t2, r2, _, h2⟩ => ?_⟩
      subst e
      obtain ⟨w', e, h3⟩ := Pst.lift h2
      clear h2
      unfold cntW at e
      cases z2 : seqL S2.st w1 with
      | none => simp only [z2] at e; cases e
      | some pp =>
        obtain ⟨kk2, ys⟩ := pp
        simp only [z2] at e
        obtain ⟨a2, us, e2, q2, _, l2, t3⟩ := seqL_rw t2.ok (t2.rw rv) z2
        cases hf : isFl w2 && ys.all isFl with
        | false => simp only [hf] at e; cases e
        | true =>
          simp only [hf] at e
          obtain ⟨f1, f2⟩ := Bool.and_eq_true_iff.mp hf
          cases e
          refine ⟨a2, us, u, e2, rfl, q2, lst_in (n := 0) f1 r2, flats_rws t3 f2, ?_⟩
          rw [countP_rws f1 r2 t3 f2]
          exact Pst.done (v := V.int _) h3 t2.ok rfl
/-! ### list(range(..)) -/
theorem rws_ints {K : PySem.W.Frag} {S : S4} (f : Nat → Int) : ∀ l : List Nat, RwsS K S (l.map fun i => V.int (f i)) (l.map fun i => W.int (f i))
  | [] => rfl
  | i :: l => ⟨_, _, rfl, rfl, rws_ints f l⟩
theorem rws_rg {K : PySem.W.Frag} {S : S4} (a b : Int) : RwsS K S (L2.rgV a b) (Mi.rgV a b) := rws_ints (fun i => a + (i : Nat)) _
theorem prg_imp {e : Expr} {t t' : L2.St → Hp → (Int → Int → Hp → Prop) → Prop} (h : PRg X e t) (i : ∀ σ H Q, t' σ H Q → t σ H Q) : PRg X e t' := fun pins s σ H Q I q => h pins s σ H Q I (i σ H Q q)
theorem te_lrg1 {a : Expr} {m : ME} (hc : X.calm = true) (hl : Gl X "list") (ml : X.mg "list" = none) (hg : Gl X "range") (hm : X.mg "range" = none) (h1 : PE X a (tE X.K G Wx m)) (hs : starEach [a] X.env = [(false, eval a X.env)]) (hs2 : starEach [.Call (.Name "range" p2) [a] [] p3] X.env = [(false, eval (.Call (.Name "range" p2) [a] [] p3) X.env)]) :
    PE X (.Call (.Name "list" p) [.Call (.Name "range" p2) [a] [] p3] [] pos) (tE X.K G Wx (.lrg [m])) :=
  (pe_listRg hc hl ml (prg_1 hg hm h1 hs) hs2).imp fun σ H Q ⟨Γ, S, eH, k, re, h⟩ => by
    subst eH
    unfold evE at h
    have h : Pst X.K G Wx (RwS X.K) σ S ((evE G.Φ G.sub m Γ S.st).bind fun w st => liftO ((rgW [w]).map fun xs => W.lst .fz xs) st) Q := by
      have e : (evEs G.Φ G.sub [m] Γ S.st).bind (fun ws st => liftO ((rgW ws).map fun xs => W.lst .fz xs) st) = (evE G.Φ G.sub m Γ S.st).bind fun w st => liftO ((rgW [w]).map fun xs => W.lst .fz xs) st := by
        unfold evEs
        cases evE G.Φ G.sub m Γ S.st with
        | ok w st => rfl
        | exc c st => rfl
        | err => rfl
      rw [← e]
      exact h
    refine tE_bind k re h fun v S1 w t1 r re1 h1 => ?_
    obtain ⟨w', e, h2⟩ := Pst.lift h1
    cases w with
    | int n =>
      have e : (if -(2 ^ 62) ≤ n ∧ n ≤ 16777216 then some (Mi.rgV 0 n) else none).map (fun xs => W.lst .fz xs) = some w' := e
      split at e
      · rename_i c
        cases e
        refine ⟨n, r, ⟨by omega, by omega, by omega, by omega, by omega⟩, fun q hq => ?_⟩
        refine mkL_ok (mu := false) t1.ok hq (rws_rg 0 n) ?_ h2
        rw [L2.rgV_length]
        unfold lim
        omega
      · cases e
    | _ => cases e
theorem te_lrg2 {a b : Expr} {m1 m2 : ME} (hc : X.calm = true) (hl : Gl X "list") (ml : X.mg "list" = none) (hg : Gl X "range") (hm : X.mg "range" = none) (h1 : PE X a (tE X.K G Wx m1)) (h2 : PE X b (tE X.K G Wx m2)) (hs : starEach [a, b] X.env = [(false, eval a X.env), (false, eval b X.env)]) (hb : starEach [b] X.env = [(false, eval b X.env)])
    (hs2 : starEach [.Call (.Name "range" p2) [a, b] [] p3] X.env = [(false, eval (.Call (.Name "range" p2) [a, b] [] p3) X.env)]) :
    PE X (.Call (.Name "list" p) [.Call (.Name "range" p2) [a, b] [] p3] [] pos) (tE X.K G Wx (.lrg [m1, m2])) :=
  (pe_listRg hc hl ml (prg_2 hg hm h1 h2 (by rw [hs, hb]) hb (by rw [hb]; rfl)) hs2).imp fun σ H Q ⟨Γ, S, eH, k, re, h⟩ => by
    subst eH
    unfold evE at h
    have h : Pst X.K G Wx (RwS X.K) σ S ((evE G.Φ G.sub m1 Γ S.st).bind fun w st => (evE G.Φ G.sub m2 Γ st).bind fun u st => liftO ((rgW [w, u]).map fun xs => W.lst .fz xs) st) Q := by
      have e : (evEs G.Φ G.sub [m1, m2] Γ S.st).bind (fun ws st => liftO ((rgW ws).map fun xs => W.lst .fz xs) st) = (evE G.Φ G.sub m1 Γ S.st).bind fun w st => (evE G.Φ G.sub m2 Γ st).bind fun u st => liftO ((rgW [w, u]).map fun xs => W.lst .fz xs) st := by
        unfold evEs
        cases evE G.Φ G.sub m1 Γ S.st with
        | ok w st =>
          unfold evEs
          show R.bind (R.bind (R.bind (evE G.Φ G.sub m2 Γ st) _) _) _ = R.bind (evE G.Φ G.sub m2 Γ st) _
          cases evE G.Φ G.sub m2 Γ st with
          | ok w st => rfl
          | exc c st => rfl
          | err => rfl
        | exc c st => rfl
        | err => rfl
      rw [← e]
      exact h
    refine tE_bind k re h fun v S1 w t1 r re1 h1 => ?_
    refine tE_bind t1.ok re1 h1 fun v2 S2 w2 t2 r2 re2 h2 => ?_
    obtain ⟨w', e, h3⟩ := Pst.lift h2
    cases w with
    | int n => cases w2 with
      | int k =>
        have e : (if -(2 ^ 62) ≤ n ∧ n < 2 ^ 62 ∧ -(2 ^ 62) ≤ k ∧ k < 2 ^ 62 ∧ k - n ≤ 16777216 then some (Mi.rgV n k) else none).map (fun xs => W.lst .fz xs) = some w' := e
        split at e
        · rename_i c
          cases e
          refine ⟨n, k, r, r2, ⟨by omega, by omega, by omega, by omega, by omega⟩, fun q hq => ?_⟩
          refine mkL_ok (mu := false) t2.ok hq (rws_rg n k) ?_ h3
          rw [L2.rgV_length]
          unfold lim
          omega
        · cases e
      | _ => cases e
    | _ => cases e
end
end Mi

set_option Elab.async false
set_option linter.all false
set_option maxRecDepth 100000
set_option maxHeartbeats 1000000
/-! Mini Python: which text a mini def stands for. -/
namespace Mi
open PySem PySem.Spec PyProof.Rows L2
structure Ck where
  T : List Df
  cls : List Str
  consts : List (Str × Int)
  free : List Str
  own : List Str
  flds : List (Nat × Str)
  kits : List (Nat × Nat × Bool)
  bare : List Nat
  N : List Str
  /-- where an exception is handled: its class; which classes there are; which stands under which -/
  hot : Bool := false
  exn : Option Nat := none
  xcs : List Nat := []
  xkits : List (Nat × Nat × Bool) := []
  lb : Nat → Arguments → Expr → Scope → Bool := fun _ _ _ _ => false
  tab : Option (Nat × Str) := none
/-- what a lambda captures, its parameters -/
def Df.fr (d : Df) : List Str := match d.cap with
  | some n => d.N.drop (d.np - n)
  | none => []
def Df.ps (d : Df) : List Str := match d.cap with
  | some n => d.N.take (d.np - n)
  | none => []
/-- within a comprehension no functions are made -/
def Ck.in_ (c : Ck) : Ck := { c with tab := none }
def Ck.nm (c : Ck) (i : Nat) : Option Str := (c.cls ++ c.own)[i]?
def Ck.sub (c : Ck) (d i : Nat) : Bool := decide ((d, i, true) ∈ c.kits) || decide ((d, i, true) ∈ c.xkits)
def isRg : It → Bool
  | .rg [_] => true
  | _ => false
def visB (sc : Scope) (x : Str) : Bool := decide (sc.names.lookup x = some .local) || (decide (sc.names.lookup x = some .cell) || decide (sc.names.lookup x = some .free))
def glB (sc : Scope) (x : Str) : Bool := decide (sc.names.lookup x = some .globalImplicit)
def nmB (x : Str) : Bool := !(x == ("__debug__" : Str)) && !(x == ("__classdict__" : Str))
def notStar : Expr → Bool
  | .Starred _ _ => false
  | _ => true
def notSet : Expr → Bool
  | .Set _ _ _ => false
  | _ => true
def notSlice : Expr → Bool
  | .Slice _ _ none _ => false
  | _ => true
def notTest : Expr → Bool
  | .UnaryOp .Not _ _ => false
  | .BoolOp _ _ _ => false
  | .IfExp _ _ _ _ => false
  | .Compare _ _ _ _ => false
  | _ => true
def notComp : Expr → Bool
  | .ListComp _ _ _ _ => false
  | .SetComp _ _ _ _ => false
  | .DictComp _ _ _ _ _ => false
  | _ => true
def plainBase : Expr → Bool
  | .Call (.Name id _) [] [] _ => !(id == ("super" : Str))
  | _ => true
theorem star_ok {e : Expr} {es : List Expr} {env : PySem.Env} (h : notStar e = true) : starEach (e :: es) env = (false, eval e env) :: starEach es env := by
  cases e <;> first | rfl | cases h
theorem asgE_ok {e : Expr} {es : List Expr} {env : PySem.Env} (h : notStar e = true) : (assignEach (e :: es) env) = (false, assign e env) :: assignEach es env := by
  cases e <;> first | rfl | cases h
theorem set_ok {e : Expr} {env : PySem.Env} (h : notSet e = true) : ∀ x, foldedSetIterable e env x = pure x := by
  intro x
  cases e <;> first | rfl | cases h
theorem slice_ok {e : Expr} (h : notSlice e = true) : PlainIx e := by
  intro o i
  cases e with
  | Slice l u s p => cases s with
    | none => cases h
    | some s => rfl
  | _ => rfl
theorem test_ok {e : Expr} {env : PySem.Env} (h : notTest e = true) : ∀ whole, isTrue e env whole = (do let v ← whole; standAt e.pos; holding [v] (truthy v)) := by
  intro whole
  cases e with
  | UnaryOp op x p => cases op <;> first | rfl | cases h
  | BoolOp _ _ _ => cases h
  | IfExp _ _ _ _ => cases h
  | Compare _ _ _ _ => cases h
  | _ => rfl
theorem comp_ok {e : Expr} {t : Option Expr} {l : Nat} {env : PySem.Env} (h : notComp e = true) : swapsWith e t l env = pure false := by
  cases e <;> first | rfl | cases h
theorem base_ok {e : Expr} {attr : Str} {env : PySem.Env} {w : Sem Value} (h : plainBase e = true) : attributeBase e attr env w = w := by
  cases e with
  | Call f as ks p =>
    cases f with
    | Name id p2 => cases as with
      | nil => cases ks with
        | nil =>
          have h : (!(id == ("super" : Str))) = true := h
          have h2 : (id != ("super" : Str)) = true := h
          unfold attributeBase
          simp only [h2, Bool.true_or, if_true]
        | cons _ _ => rfl
      | cons _ _ => rfl
    | _ => rfl
  | _ => rfl
def tyOf (x : Str) (n : String) : Bool := okTy n && decide (x = Str.ofString n)
mutual
def isG (c : Ck) (sc : Scope) (fb : Str → Bool) : Tg → Expr → Bool
  | .nm i, e => match e with
    | .Name x _ => decide (c.N[i]? = some x) && (decide (sc.names.lookup x = some .local) || (decide (sc.names.lookup x = some .cell) && fb x))
    | _ => false
  | .tp ts, e => match e with
    | .Tuple es _ _ => !c.hot && isGs c sc fb ts es
    | _ => false
def isGs (c : Ck) (sc : Scope) (fb : Str → Bool) : List Tg → List Expr → Bool
  | [], es => match es with
    | [] => true
    | _ => false
  | t :: ts, es => match es with
    | e :: es => notStar e && isG c sc fb t e && isGs c sc fb ts es
    | _ => false
end
mutual
/-- t: the text stands as a test -/
def isE (c : Ck) : ME → Scope → Bool → Expr → Bool
  | .var i, sc, t, e => match e with
    | .Name x _ => decide (c.N[i]? = some x) && visB sc x && nmB x
    | _ => false
  | .cst w, sc, t, e => match e with
    | .Constant v _ _ => match w, v with
      | .non, .none => true
      | .bl a, .bool b => a == b
      | .int i, .int j => decide (i = j)
      | .str a, .str b => decide (a = b)
      | _, _ => false
    | _ => false
  | .glb x i, sc, t, e => match e with
    | .Name y _ => decide (x = y) && glB sc x && nmB x && decide ((x, i) ∈ c.consts)
    | _ => false
  | .tup ms, sc, t, e => match e with
    | .Tuple es _ _ => isEs c ms sc false es
    | _ => false
  | .lst _ ms, sc, t, e => match e with
    | .List es _ => isEs c ms sc false es
    | _ => false
  | .dct0, _, _, e => match e with
    | .Dict [] [] _ => true
    | _ => false
  | .bin o a b, sc, t, e => match e with
    | .BinOp ea op eb _ => decide (op = bopO o) && isE c a sc false ea && isE c b sc false eb
    | _ => false
  | .neg a, sc, t, e => match e with
    | .UnaryOp op ea _ => decide (op = .USub) && isE c a sc false ea
    | _ => false
  | .not a, sc, t, e => match e with
    | .UnaryOp op ea _ => decide (op = .Not) && isE c a sc t ea
    | _ => false
  | .cmp o a b, sc, t, e => match e with
    | .Compare ea [op] [eb] _ => decide (op = copO o) && !behindInMarks op eb && isE c a sc false ea && isE c b sc false eb
    | _ => false
  | .cmp2 o p a b d, sc, t, e => match e with
    | .Compare ea [op, op2] [eb, ed] _ => decide (op = copO o) && decide (op2 = copO p) && !lastMarks [op, op2] [eb, ed] && isE c a sc false ea && isE c b sc false eb && isE c d sc false ed
    | _ => false
  | .and ms, sc, t, e => match e with
    | .BoolOp op es _ => decide (op = .And) && isEs c ms sc t es
    | _ => false
  | .or ms, sc, t, e => match e with
    | .BoolOp op es _ => decide (op = .Or) && isEs c ms sc t es
    | _ => false
  | .ite m a b, sc, t, e => match e with
    | .IfExp ec ea eb _ => !t && isE c m sc true ec && isE c a sc false ea && isE c b sc false eb
    | _ => false
  | .idx a i, sc, t, e => match e with
    | .Subscript ea ei _ => notSlice ei && isE c a sc false ea && isE c i sc false ei
    | _ => false
  | .sli a lo hi, sc, t, e => match e with
    | .Subscript ea (.Slice l h none _) _ => isE c a sc false ea && isO c lo sc l && isO c hi sc h
    | _ => false
  | .rev a, sc, t, e => match e with
    | .Subscript ea (.Slice none none (some (.UnaryOp .USub (.Constant (.int 1) _ _) _)) _) _ => isE c a sc false ea
    | _ => false
  | .b1 f a, sc, t, e => match f with
    | .sset => match e with
      | .Call (.Name x _) [.Call (.Name y _) [ea] [] _] [] _ => (!c.hot && decide (x = "sorted")) && decide (y = "set") && glB sc x && decide (x ∈ c.free) && glB sc y && decide (y ∈ c.free) && notStar ea && isE c a sc false ea
      | _ => false
    | f => match e with
      | .Call (.Name x _) [ea] [] _ => (!c.hot && decide (x = b1N f)) && decide (f ≠ .sset) && glB sc x && decide (x ∈ c.free) && notStar ea && isE c a sc false ea
      | _ => false
  | .b2 f a b, sc, t, e => match e with
    | .Call (.Name x _) [ea, eb] [] _ => (!c.hot && decide (x = b2N f)) && glB sc x && decide (x ∈ c.free) && notStar ea && notStar eb && isE c a sc false ea && isE c b sc false eb
    | _ => false
  | .isi a ty, sc, t, e => match ty with
    | .ty n => match e with
      | .Call (.Name x _) [ea, .Name y _] [] _ => (!c.hot && decide (x = "isinstance")) && glB sc x && decide (x ∈ c.free) && tyOf y n && glB sc y && decide (y ∈ c.free) && notStar ea && isE c a sc false ea
      | _ => false
    | .cls i ds => match e with
      | .Call (.Name x _) [ea, .Name y _] [] _ => (!c.hot && decide (x = "isinstance")) && glB sc x && decide (x ∈ c.free) && decide (c.nm i = some y) && decide (c.cls.length ≤ i) && glB sc y && nmB y && ds.all (fun d => decide ((d, i, c.sub d i) ∈ c.kits)) && notStar ea && isE c a sc false ea
      | _ => false
  | .call pu f ms, sc, t, e => match e with
    | .Call (.Name x _) es [] _ => (!c.hot && match c.T[f]? with
      | some d => decide (d.at_ = (x, none)) && decide (ms.length = d.np)
      | none => false) && glB sc x && nmB x && es.all notStar && decide (es.length = ms.length) && isEs c ms sc false es
    | _ => false
  | .callM f ms, sc, t, e => match e with
    | .Call (.Name x _) es [] _ => (!c.hot && match c.T[f]? with
      | some d => decide (d.at_ = (x, none)) && decide (ms.length = d.np)
      | none => false) && glB sc x && nmB x && es.all notStar && decide (es.length = ms.length) && isEs c ms sc false es
    | _ => false
  | .lc mu own t it ifs elt, sc, tt, e => match e with
    | .ListComp ee [⟨tg, iter, eifs, 0⟩] scope _ => ((!c.hot || isRg it) && blkC c.N sc scope own) && notSet iter && decide (ifs.length ≤ 1) && (tgS t).all (fun i => decide (i ∈ own.map (·.2))) &&
        isI c it sc tg iter && isG c.in_ (relS scope sc) (fun x => scope.names.lookup x == some .cell) t tg && isEs c.in_ ifs (relS scope sc) true eifs && isE c.in_ elt (relS scope sc) false ee
    | _ => false
  | .lcP mu own t it ifs elt, sc, tt, e => match e with
    | .ListComp ee [⟨tg, iter, eifs, 0⟩] scope _ => (!c.hot && blkC c.N sc scope own) && notSet iter && decide (ifs.length ≤ 1) && (tgS t).all (fun i => decide (i ∈ own.map (·.2))) &&
        isIP c it sc tg iter && isG c.in_ (relS scope sc) (fun x => scope.names.lookup x == some .cell) t tg && isEs c.in_ ifs (relS scope sc) true eifs && isE c.in_ elt (relS scope sc) false ee
    | _ => false
  | .mk0 i, sc, t, e => match e with
    | .Call (.Name x _) [] [] _ => (!c.hot && decide (c.nm i = some x)) && decide (c.cls.length ≤ i) && glB sc x && nmB x && decide (i ∈ c.bare)
    | _ => false
  | .fld m f cs, sc, t, e => match e with
    | .Attribute ea x _ => decide (x = f) && plainBase ea && cs.all (fun i => decide ((i, f) ∈ c.flds)) && isE c m sc false ea
    | _ => false
  | .mk i f ms, sc, t, e => match e with
    | .Call (.Name x _) es [] _ => (!c.hot && match c.T[f]? with
      | some d => decide (d.at_ = (x, some ("__init__" : Str))) && decide (ms.length + 1 = d.np)
      | none => false) && decide (c.nm i = some x) && decide (c.cls.length ≤ i) && glB sc x && nmB x && es.all notStar && decide (es.length = ms.length) && isEs c ms sc false es
    | _ => false
  | .meth mo m tb ms, sc, t, e => match e with
    | .Call (.Attribute oe x apos) es [] cpos => (!c.hot && decide (x = m)) && decide (m ≠ "__init__") && plainBase oe && (apos.endLine == cpos.line) && decide (es.length < 30) && decide (es.length = ms.length) && tb.all (fun q => match c.T[q.2]?, c.nm q.1 with
      | some d, some y => decide (d.at_ = (y, some m)) && decide (ms.length + 1 = d.np) && decide (c.cls.length ≤ q.1)
      | _, _ => false) && es.all notStar && isE c mo sc false oe && isEs c ms sc false es
    | _ => false
  | .dget d k, sc, t, e => match e with
    | .Subscript ea ei _ => notSlice ei && isE c d sc false ea && isE c k sc false ei
    | _ => false
  | .din neg k d, sc, t, e => match e with
    | .Compare ek [op] [ed] _ => decide (op = if neg = true then .NotIn else .In) && !behindInMarks op ed && isE c k sc false ek && isE c d sc false ed
    | _ => false
  | .listM a, sc, t, e => match e with
    | .Call (.Name x _) [ea] [] _ => (!c.hot && decide (x = "list")) && glB sc x && decide (x ∈ c.free) && notStar ea && isE c a sc false ea
    | _ => false
  | .addM a b, sc, t, e => match e with
    | .BinOp ea op eb _ => decide (op = .Add) && isE c a sc false ea && isE c b sc false eb
    | _ => false
  | .indx a m, sc, t, e => match e with
    | .Call (.Attribute oe x apos) [ee] [] cpos => decide (x = "index") && plainBase oe && (apos.endLine == cpos.line) && notStar ee && isE c a sc false oe && isE c m sc false ee
    | _ => false
  | .isx i ty, sc, t, e => match e with
    | .Call (.Name x _) [.Name v _, .Name y _] [] _ => (match c.exn with
      | some d => c.hot && decide (d ∈ c.xcs) && (match ty with
        | .cls j _ => decide (c.cls[j]? = some y) && glB sc y && nmB y && decide ((d, j, c.sub d j) ∈ c.xkits)
        | .ty n => decide (n = "ValueError") && decide (y = "ValueError") && glB sc y && decide (y ∈ c.free))
      | none => false) && decide (x = "isinstance") && glB sc x && decide (x ∈ c.free) && decide (c.N[i]? = some v) && visB sc v && nmB v
    | _ => false
  | .lam i t q, sc, _, e => match e with
    | .Lambda params body scope _ => !c.hot && decide (c.tab = some (t, q)) && c.lb i params body scope && scope.names.all (fun y => !decide (y.2 = .free) || (decide (sc.names.lookup y.1 = some .cell) || decide (sc.names.lookup y.1 = some .free)))
    | _ => false
  | .lam0 i t q, sc, _, e => match e with
    | .Lambda params body scope _ => !c.hot && decide (c.tab = some (t, q)) && c.lb i params body scope && (match c.T[i]? with
      | some d => decide (d.cap.isSome = true) && decide (d.fr = [])
      | none => false)
    | _ => false
  | .callF f tb ms, sc, t, e => match e with
    | .Call (.Name x _) es [] _ => (!c.hot && match c.T[f]? with
      | some d => decide (d.at_ = (x, none)) && decide (ms.length = d.np)
      | none => false) && c.tab.isSome && tb.all (fun p => match c.T[p.1]? with
      | some d => decide (d.cap.isSome = true) && decide (p.2.map (fun j => c.N[j]?) = d.fr.map some) && d.fr.all (fun y => decide (sc.names.lookup y = some .cell))
      | none => false) && glB sc x && nmB x && es.all notStar && decide (es.length = ms.length) && isEs c ms sc false es
    | _ => false
  | .calv v ms, sc, t, e => match e with
    | .Call (.Name x _) es [] _ => !c.hot && decide (c.N[v]? = some x) && visB sc x && nmB x && decide (es.length = ms.length) && isEs c ms sc false es
    | _ => false
  | .cnt a m, sc, t, e => match e with
    | .Call (.Attribute oe x apos) [ee] [] cpos => decide (x = "count") && plainBase oe && (apos.endLine == cpos.line) && notStar ee && isE c a sc false oe && isE c m sc false ee
    | _ => false
  | .lrg ms, sc, t, e => match e with
    | .Call (.Name x _) [.Call (.Name y _) es [] _] [] _ => (!c.hot && decide (x = "list")) && decide (y = "range") && glB sc x && decide (x ∈ c.free) && glB sc y && decide (y ∈ c.free) && (decide (ms.length = 1) || decide (ms.length = 2)) && isEs c ms sc false es
    | _ => false
  | .lzp _ _, _, _, _ => false
def isEs (c : Ck) : List ME → Scope → Bool → List Expr → Bool
  | [], sc, t, es => match es with
    | [] => true
    | _ => false
  | m :: ms, sc, t, es => match es with
    | e :: es => notStar e && isE c m sc t e && isEs c ms sc t es
    | _ => false
def isO (c : Ck) : Option ME → Scope → Option Expr → Bool
  | none, sc, e => match e with
    | none => true
    | _ => false
  | some m, sc, e => match e with
    | some e => isE c m sc false e
    | _ => false
def isI (c : Ck) : It → Scope → Expr → Expr → Bool
  | .sq m, sc, tg, e => isE c m sc false e
  | .rg ms, sc, tg, e => match e with
    | .Call (.Name x _) es [] _ => decide (x = "range") && glB sc x && decide (x ∈ c.free) && (decide (ms.length = 1) || decide (ms.length = 2)) && isEs c ms sc false es
    | _ => false
  | .zp a b, sc, tg, e => match tg with
    | .Tuple _ _ _ => match e with
      | .Call (.Name x _) [ea, eb] [] _ => decide (x = "zip") && glB sc x && decide (x ∈ c.free) && notStar ea && notStar eb && isE c a sc false ea && isE c b sc false eb
      | _ => false
    | _ => false
  | .en a, sc, tg, e => match tg with
    | .Tuple _ _ _ => match e with
      | .Call (.Name x _) [ea] [] _ => decide (x = "enumerate") && glB sc x && decide (x ∈ c.free) && notStar ea && isE c a sc false ea
      | _ => false
    | _ => false
  | .zp4 _ _ _ _, _, _, _ => false
def isIP (c : Ck) : It → Scope → Expr → Expr → Bool
  | .sq m, sc, tg, e => isE c m sc false e
  | .zp a b, sc, tg, e => match tg with
    | .Tuple _ _ _ => match e with
      | .Call (.Name x _) [ea, eb] [] _ => decide (x = "zip") && glB sc x && decide (x ∈ c.free) && notStar ea && notStar eb && isE c a sc false ea && isE c b sc false eb
      | _ => false
    | _ => false
  | _, _, _, _ => false
end
end Mi

set_option Elab.async false
set_option linter.all false
set_option maxRecDepth 100000
set_option maxHeartbeats 2000000
/-! Mini Python: an expression is what its mini text tells. -/
namespace Mi
open PySem PySem.Spec PyProof.Rows L2
/-- where a block runs -/
structure Cok (c : Ck) (G : Gd) (k : Nat) (X : Cx) (sc : Scope) (fb : Str → Bool) : Prop where
  scope : X.env.scope = sc
  N : X.N = c.N
  nd : X.N.Nodup
  calm : c.hot = false → X.calm = true
  room : c.hot = false → Room (2 * k + 1) X.A
  un : X.A.units + 65 < cLine
  xa : c.hot = false → G.ca.x.xa = none
  exn : c.hot = true → ∃ d, c.exn = some d ∧ HotE X G d
  xcs : ∀ d ∈ c.xcs, ExcC X.K (G.ca d) ∧ PySem.W.kitOne X.K (.ref (G.ca d)) (.type "ValueError") = some true
  xkits : ∀ (d i : Nat) (b : Bool), (d, i, b) ∈ c.xkits → PySem.W.kitOne X.K (.ref (G.ca d)) (.ref (G.ca i)) = some b ∧ (b = true → PySem.W.exmOne X.K (.ref (G.ca d)) (.ref (G.ca i)) = some true)
  xmg : ∀ (i : Nat) (x : Str), c.cls[i]? = some x → X.mg x = some (.ref (G.ca i))
  fn : X.fn = fb
  consts : ∀ x i, (x, i) ∈ c.consts → ∃ t, X.mg x = some (.int i t)
  free : ∀ x ∈ c.free, X.mg x = none
  defs : c.hot = false → ∀ (f : Nat) (d : Df), c.T[f]? = some d → d.at_.2 = none → ∃ (fa : Addr) (fd : FuncData) (ps : List Str), X.mg d.at_.1 = some (.ref fa) ∧ PySem.W.keepIn X.K (.ref fa) = true ∧ Binds X.K fd ps [] ∧ FnOk X.prog X.w X.K X.mg X.base (L2N.CX X.prog X.w) (2 * k) fa fd ps (spF X.K G (G.Φ f) d.np)
  own : ∀ (i : Nat) (x : Str), c.nm i = some x → c.cls.length ≤ i → X.mg x = some (.ref (G.ca i))
  flds : ∀ (i : Nat) (f : Str), (i, f) ∈ c.flds → Cls X.K (G.ca i) ∧ NoAttr X.K (G.ca i) f
  kits : ∀ (d i : Nat) (b : Bool), (d, i, b) ∈ c.kits → InsF X.K (G.ca d) ∧ PySem.W.kitOne X.K (.ref (G.ca d)) (.ref (G.ca i)) = some b
  bare : ∀ i ∈ c.bare, Bare X.K (G.ca i)
  sub : ∀ (d i : Nat), G.sub d i = c.sub d i
  lb : ∀ (i : Nat) (params : Arguments) (body : Expr) (scope : Scope), c.lb i params body scope = true → (G.ca.x.lam i).P params body scope
  lamT : ∀ (i : Nat) (params : Arguments) (body : Expr) (scope : Scope), (G.ca.x.lam i).P params body scope → LamT (G.ca.x.lam i) params scope
  lamF : ∀ (i : Nat) (d : Df), c.T[i]? = some d → d.cap.isSome = true → (G.ca.x.lam i).fr = d.fr
  lamK : c.hot = false → ∀ (i : Nat) (params : Arguments) (body : Expr) (scope : Scope), (G.ca.x.lam i).P params body scope → LOk X.prog X.w X.K X.mg X.base (2 * k) G i
  tab : c.hot = false → ∀ (t : Nat) (q : Str), c.tab = some (t, q) → TopM X G t q
  meths : c.hot = false → ∀ (f : Nat) (d : Df) (x m : Str) (i : Nat), c.T[f]? = some d → d.at_ = (x, some m) → c.nm i = some x → c.cls.length ≤ i → ∃ (fa : Addr) (fd : FuncData) (ps : List Str), (m = "__init__" → Mk X.K (G.ca i) fa) ∧ (m ≠ "__init__" → Cls X.K (G.ca i) ∧ Meth X.K (G.ca i) m fa) ∧ Binds X.K fd ps [] ∧ FnOk X.prog X.w X.K X.mg X.base (L2N.CX X.prog X.w) (2 * k) fa fd ps (spF X.K G (G.Φ f) d.np)
theorem Cok.blk {c : Ck} {G : Gd} {k : Nat} {X : Cx} {sc : Scope} {fb : Str → Bool} (h : Cok c G k X sc fb) (hh : c.hot = false) (s : Shared) (H : Hp) (scope : Scope) (C : Addr) (cl : List (Str × Addr)) (fp : List Addr) :
    Cok c.in_ G k (X.blk s H scope (compEnvC scope cl C X.env) fp) (relS scope sc) (fun x => scope.names.lookup x == some .cell) := by
  refine ⟨?_, h.N, h.nd, h.calm, h.room, h.un, h.xa, fun z => (by have z : c.hot = true := z; rw [hh] at z; cases z), h.xcs, h.xkits, h.xmg, rfl, h.consts, h.free, h.defs, h.own, h.flds, h.kits, h.bare, h.sub, h.lb, h.lamT, h.lamF, h.lamK, fun _ t q z => (by cases z), h.meths⟩
  show (compEnvC scope cl C X.env).scope = _
  rw [← h.scope]
  rfl
theorem Cok.blkH {c : Ck} {G : Gd} {k : Nat} {X : Cx} {sc : Scope} {fb : Str → Bool} (h : Cok c G k X sc fb) (hh : c.hot = true) : ∃ q, q ∈ X.pn ∧ L2H.Hot1 X.A q ∧ ∀ (s : Shared) (H : Hp) (scope : Scope) (C : Addr) (cl : List (Str × Addr)) (fp : List Addr),
    Cok c.in_ G k (blkH X q s H scope (compEnvC scope cl C X.env) fp) (relS scope sc) (fun x => scope.names.lookup x == some .cell) := by
  obtain ⟨d, e, he⟩ := h.exn hh
  obtain ⟨q, hq, hot, hb⟩ := he.blk
  refine ⟨q, hq, hot, fun s H scope C cl fp => ⟨?_, h.N, h.nd, h.calm, h.room, h.un, h.xa, fun _ => ⟨d, e, hb s H scope _ fp⟩, h.xcs, h.xkits, h.xmg, rfl, h.consts, h.free, h.defs, h.own, h.flds, h.kits, h.bare, h.sub, h.lb, h.lamT, h.lamF, h.lamK, fun _ t q z => (by cases z), h.meths⟩⟩
  show (compEnvC scope cl C X.env).scope = _
  rw [← h.scope]
  rfl
theorem hot_ok {b : Bool} (h : (!b) = true) : b = false := by cases b <;> first | rfl | cases h
theorem takesN {X : Cx} : L2N.Takes X W0 := fun _ _ x => by
  obtain ⟨_, _, _, _, _, _, _, _, _, _, _, _, _, _, _, _, z⟩ := x
  exact z.elim
theorem visB_ok {c : Ck} {G : Gd} {k : Nat} {X : Cx} {sc : Scope} {fb : Str → Bool} (h : Cok c G k X sc fb) {x : Str} (v : visB sc x = true) : Vis X.env.scope x := by
  rw [h.scope]
  unfold visB at v
  simp only [Bool.or_eq_true, decide_eq_true_eq] at v
  exact v
theorem glB_ok {c : Ck} {G : Gd} {k : Nat} {X : Cx} {sc : Scope} {fb : Str → Bool} (h : Cok c G k X sc fb) {x : Str} (v : glB sc x = true) : Gl X x := by
  unfold glB at v
  have v := of_decide_eq_true v
  show X.env.scope.names.lookup x = _
  rw [h.scope]; exact v
theorem nmB_ok {x : Str} (h : nmB x = true) : (x == ("__debug__" : Str)) = false ∧ (x == ("__classdict__" : Str)) = false := by
  unfold nmB at h
  simp only [Bool.and_eq_true, Bool.not_eq_true'] at h
  exact h
theorem bd {a b : Bool} (h : (a && b) = true) : a = true ∧ b = true := Bool.and_eq_true_iff.mp h
section
variable {c : Ck} {G : Gd} {k : Nat}
mutual
theorem snd_G : ∀ (t : Tg) (X : Cx) (sc : Scope) (fb : Str → Bool) (e : Expr), Cok c G k X sc fb → isG c sc fb t e = true → PG X e (tG X.K G t)
  | .nm i, X, sc, fb, e, C, h => by
    unfold isG at h
    split at h
    · rename_i x p
      obtain ⟨h1, h2⟩ := bd h
      simp only [Bool.or_eq_true, Bool.and_eq_true, decide_eq_true_eq] at h1 h2
      have e0 : X.env.scope.names.lookup x = sc.names.lookup x := by rw [C.scope]
      refine tg_nm C.nd (by rw [C.N]; exact h1) ?_ ?_
      · rcases h2 with h2 | h2
        · exact .inl (e0.trans h2)
        · exact .inr (e0.trans h2.1)
      · rcases h2 with h2 | h2
        · exact .inr (e0.trans h2)
        · exact .inl (by rw [C.fn]; exact h2.2)
    · cases h
  | .tp ts, X, sc, fb, e, C, h => by
    unfold isG at h
    split at h
    · rename_i es kk p
      obtain ⟨h0, h⟩ := bd h
      obtain ⟨h1, h2, h3⟩ := snd_Gs ts X sc fb es C h
      exact tg_tp (C.calm (hot_ok h0)) h1 h2 h3
    · cases h
theorem snd_Gs : ∀ (ts : List Tg) (X : Cx) (sc : Scope) (fb : Str → Bool) (es : List Expr), Cok c G k X sc fb → isGs c sc fb ts es = true → PGs X es (tGs X.K G ts) ∧ (assignEach es X.env).length = ts.length ∧ (assignEach es X.env).findIdx? (·.1) = none
  | [], X, sc, fb, es, C, h => by
    unfold isGs at h
    split at h
    · exact ⟨tgs_nil, rfl, rfl⟩
    · cases h
  | t :: ts, X, sc, fb, es, C, h => by
    unfold isGs at h
    split at h
    · rename_i e es
      obtain ⟨h, h3⟩ := bd h
      obtain ⟨h1, h2⟩ := bd h
      obtain ⟨a1, a2, a3⟩ := snd_Gs ts X sc fb es C h3
      have ea := asgE_ok (es := es) (env := X.env) h1
      refine ⟨tgs_cons (snd_G t X sc fb e C h2) a1 (by rw [ea]; rfl), by rw [ea, List.length_cons, List.length_cons, a2], ?_⟩
      rw [ea, List.findIdx?_cons]
      simp [a3]
    · cases h
end
/-- what an expression is asked for: its value, or its truth -/
def Snd (X : Cx) (G : Gd) (Wx : WX) (t : Bool) (e : Expr) (m : ME) : Prop := match t with
  | true => PT X e (tB' X.K G Wx m)
  | false => PE X e (tE X.K G Wx m)
theorem Snd.val {X : Cx} {Wx : WX} {t : Bool} {e : Expr} {m : ME} (h : PE X e (tE X.K G Wx m)) (n : notTest e = true) : Snd X G Wx t e m := by
  cases t with
  | false => exact h
  | true => exact tt_val h (test_ok n)
inductive SndL (X : Cx) (G : Gd) (Wx : WX) (t : Bool) : List Expr → List ME → Prop where
  | nil : SndL X G Wx t [] []
  | cons {e : Expr} {es : List Expr} {m : ME} {ms : List ME} : notStar e = true → Snd X G Wx t e m → SndL X G Wx t es ms → SndL X G Wx t (e :: es) (m :: ms)
theorem SndL.ta {X : Cx} {Wx : WX} : ∀ {es : List Expr} {ms : List ME}, SndL X G Wx false es ms → PA X es (tA X.K G Wx ms)
  | _, _, .nil => ta_nil
  | _, _, .cons h1 h2 h3 => ta_cons h2 h3.ta (star_ok h1)
theorem SndL.and {X : Cx} {Wx : WX} {pos : Pos} : ∀ {es : List Expr} {ms : List ME}, SndL X G Wx false es ms → PE X (.BoolOp .And es pos) (tE X.K G Wx (.and ms))
  | _, _, .nil => ⟨fun pins s σ H Q I ⟨Γ, S, _, _, _, h⟩ => by unfold evE evAnd at h; exact False.elim h⟩
  | _, _, .cons _ h2 .nil => te_and1 h2
  | _, _, .cons _ h2 (.cons h4 h5 h6) => te_and h2 (SndL.and (.cons h4 h5 h6))
theorem SndL.or {X : Cx} {Wx : WX} {pos : Pos} : ∀ {es : List Expr} {ms : List ME}, SndL X G Wx false es ms → PE X (.BoolOp .Or es pos) (tE X.K G Wx (.or ms))
  | _, _, .nil => ⟨fun pins s σ H Q I ⟨Γ, S, _, _, _, h⟩ => by unfold evE evOr at h; exact False.elim h⟩
  | _, _, .cons _ h2 .nil => te_or1 h2
  | _, _, .cons _ h2 (.cons h4 h5 h6) => te_or h2 (SndL.or (.cons h4 h5 h6))
theorem SndL.andT {X : Cx} {Wx : WX} {pos : Pos} : ∀ {es : List Expr} {ms : List ME}, SndL X G Wx true es ms → PW X (.BoolOp .And es pos) (tB' X.K G Wx (.and ms))
  | _, _, .nil => ⟨fun wh pins s σ H Q I ⟨Γ, S, _, _, _, h⟩ => by unfold evE evAnd at h; exact False.elim h⟩
  | _, _, .cons _ h2 .nil => tw_and1 h2
  | _, _, .cons _ h2 (.cons h4 h5 h6) => tw_and h2 (SndL.andT (.cons h4 h5 h6))
theorem SndL.orT {X : Cx} {Wx : WX} {pos : Pos} : ∀ {es : List Expr} {ms : List ME}, SndL X G Wx true es ms → PW X (.BoolOp .Or es pos) (tB' X.K G Wx (.or ms))
  | _, _, .nil => ⟨fun wh pins s σ H Q I ⟨Γ, S, _, _, _, h⟩ => by unfold evE evOr at h; exact False.elim h⟩
  | _, _, .cons _ h2 .nil => tw_or1 h2
  | _, _, .cons _ h2 (.cons h4 h5 h6) => tw_or h2 (SndL.orT (.cons h4 h5 h6))
theorem SndL.tts {X : Cx} : ∀ {es : List Expr} {ms : List ME}, SndL X G W0 true es ms → ms.length ≤ 1 → PTs X es (tTs X.K G ms)
  | _, _, .nil, _ => tts_nil
  | _, _, .cons _ h2 .nil, _ => tts_one h2
  | _, _, .cons _ h2 (.cons h4 h5 h6), h => by simp at h
theorem SndL.stars {X : Cx} {Wx : WX} {t : Bool} : ∀ {es : List Expr} {ms : List ME}, SndL X G Wx t es ms → ∀ e ∈ es, ∀ r, starEach (e :: r) X.env = (false, eval e X.env) :: starEach r X.env
  | _, _, .nil, e, h, _ => by cases h
  | _, _, .cons h1 h2 h3, e, h, r => by
    rcases List.mem_cons.mp h with h | h
    · subst h; exact star_ok h1
    · exact h3.stars e h r
end
end Mi

set_option Elab.async false
set_option linter.all false
set_option maxRecDepth 100000
set_option maxHeartbeats 4000000
/-! Mini Python: the checker of expressions is sound. -/
namespace Mi
open PySem PySem.Spec PyProof.Rows L2
theorem mem_lookup {β : Type} : ∀ {tb : List (Nat × β)} {c : Nat} {i : β}, tb.lookup c = some i → (c, i) ∈ tb
  | [], c, i, h => by cases h
  | (y1, y2) :: r, c, i, h => by
    rw [List.lookup_cons] at h
    cases z : c == y1 with
    | true =>
      rw [z] at h
      have e1 := eq_of_beq z
      cases h
      rw [e1]
      exact List.mem_cons_self
    | false =>
      rw [z] at h
      exact List.mem_cons_of_mem _ (mem_lookup h)
theorem ty_bt {n : String} {x : Str} (h : tyOf x n = true) : okTy n = true ∧ x ≠ "__name__" ∧ (x == ("__debug__" : Str)) = false ∧ ∃ u, bootBuiltins x = some u ∧ RelV (.ty n) u := by
  unfold tyOf at h
  simp only [Bool.and_eq_true, decide_eq_true_eq] at h
  obtain ⟨h1, rfl⟩ := h
  refine ⟨h1, ?_⟩
  unfold okTy at h1
  simp only [Bool.or_eq_true, beq_iff_eq] at h1
  rcases h1 with (((h | h) | h) | h) | h <;> subst h <;> exact ⟨by decide, by decide, _, by decide +kernel, rfl⟩
section
variable {c : Ck} {G : Gd} {k : Nat}
theorem gl_bt {X : Cx} {sc : Scope} {fb : Str → Bool} {x y : Str} (C : Cok c G k X sc fb) (g : glB sc x = true) (f : x ∈ c.free) (e : x = y) : Gl X y ∧ X.mg y = none := by
  subst e
  exact ⟨glB_ok C g, C.free _ f⟩
theorem st1 {X : Cx} {a : Expr} (h : notStar a = true) : starEach [a] X.env = [(false, eval a X.env)] := star_ok h
theorem st2 {X : Cx} {a b : Expr} (h : notStar a = true) (h2 : notStar b = true) : starEach [a, b] X.env = [(false, eval a X.env), (false, eval b X.env)] := by rw [star_ok h, star_ok h2]; rfl
mutual
theorem snd_E : ∀ (m : ME) (c : Ck) (X : Cx) (sc : Scope) (fb : Str → Bool) (Wx : WX) (t : Bool) (e : Expr), Cok c G k X sc fb → L2N.Takes X Wx → isE c m sc t e = true → Snd X G Wx t e m
  | .var i, c, X, sc, fb, Wx, t, e, C, tk, h => by
    unfold isE at h
    split at h
    · obtain ⟨h, h3⟩ := bd h
      obtain ⟨h1, h2⟩ := bd h
      exact Snd.val (te_var (by rw [C.N]; exact of_decide_eq_true h1) (visB_ok C h2) (nmB_ok h3).1 (nmB_ok h3).2) rfl
    · cases h
  | .cst w, c, X, sc, fb, Wx, t, e, C, tk, h => by
    unfold isE at h
    split at h
    · split at h
      · exact Snd.val (te_cst pe_non fun S => rfl) rfl
      · rename_i a b
        have h := eq_of_beq h
        subst h
        exact Snd.val (te_cst pe_bl fun S => rfl) rfl
      · have h := of_decide_eq_true h
        subst h
        exact Snd.val (te_cst pe_int fun S => rfl) rfl
      · have h := of_decide_eq_true h
        subst h
        exact Snd.val (te_cst pe_str fun S => rfl) rfl
      · cases h
    · cases h
  | .glb x i, c, X, sc, fb, Wx, t, e, C, tk, h => by
    unfold isE at h
    split at h
    · obtain ⟨h, h4⟩ := bd h
      obtain ⟨h, h3⟩ := bd h
      obtain ⟨h1, h2⟩ := bd h
      have h1 := of_decide_eq_true h1
      subst h1
      obtain ⟨tg, hm⟩ := C.consts x i (of_decide_eq_true h4)
      exact Snd.val (te_glb (pe_glob (glB_ok C h2) hm ⟨tg, rfl⟩ (nmB_ok h3).1)) rfl
    · cases h
  | .tup ms, c, X, sc, fb, Wx, t, e, C, tk, h => by
    unfold isE at h
    split at h
    · exact Snd.val (te_tup (snd_Es ms c X sc fb Wx false _ C tk h).ta) rfl
    · cases h
  | .lst mu ms, c, X, sc, fb, Wx, t, e, C, tk, h => by
    unfold isE at h
    split at h
    · exact Snd.val (te_lst (snd_Es ms c X sc fb Wx false _ C tk h).ta) rfl
    · cases h
  | .dct0, c, X, sc, fb, Wx, t, e, C, tk, h => by
    unfold isE at h
    split at h
    · exact Snd.val te_dct0 rfl
    · cases h
  | .bin o a b, c, X, sc, fb, Wx, t, e, C, tk, h => by
    unfold isE at h
    split at h
    · obtain ⟨h, h3⟩ := bd h
      obtain ⟨h1, h2⟩ := bd h
      have h1 := of_decide_eq_true h1
      subst h1
      exact Snd.val (te_bin (snd_E a c X sc fb Wx false _ C tk h2) (snd_E b c X sc fb Wx false _ C tk h3)) rfl
    · cases h
  | .neg a, c, X, sc, fb, Wx, t, e, C, tk, h => by
    unfold isE at h
    split at h
    · obtain ⟨h1, h2⟩ := bd h
      have h1 := of_decide_eq_true h1
      subst h1
      exact Snd.val (te_neg (snd_E a c X sc fb Wx false _ C tk h2)) rfl
    · cases h
  | .not a, c, X, sc, fb, Wx, t, e, C, tk, h => by
    unfold isE at h
    split at h
    · obtain ⟨h1, h2⟩ := bd h
      have h1 := of_decide_eq_true h1
      subst h1
      have := snd_E a c X sc fb Wx t _ C tk h2
      cases t with
      | false => exact te_not this
      | true => exact tt_not this
    · cases h
  | .cmp o a b, c, X, sc, fb, Wx, t, e, C, tk, h => by
    unfold isE at h
    split at h
    · obtain ⟨h, h4⟩ := bd h
      obtain ⟨h, h3⟩ := bd h
      obtain ⟨h1, h2⟩ := bd h
      have h1 := of_decide_eq_true h1
      subst h1
      have h2 := (Bool.not_eq_true' _).mp h2
      have q1 := snd_E a c X sc fb Wx false _ C tk h3
      have q2 := snd_E b c X sc fb Wx false _ C tk h4
      have hu : X.A.units + 65 < cLine := by have := C.un; omega
      cases t with
      | false => exact te_cmp hu q1 q2 h2
      | true => exact tt_cmp hu q1 q2 h2
    · cases h
  | .cmp2 o p a b d, c, X, sc, fb, Wx, t, e, C, tk, h => by
    unfold isE at h
    split at h
    · obtain ⟨h, h6⟩ := bd h
      obtain ⟨h, h5⟩ := bd h
      obtain ⟨h, h4⟩ := bd h
      obtain ⟨h, h3⟩ := bd h
      obtain ⟨h1, h2⟩ := bd h
      have h1 := of_decide_eq_true h1
      have h2 := of_decide_eq_true h2
      subst h1 h2
      have h3 := (Bool.not_eq_true' _).mp h3
      have q1 := snd_E a c X sc fb Wx false _ C tk h4
      have q2 := snd_E b c X sc fb Wx false _ C tk h5
      have q3 := snd_E d c X sc fb Wx false _ C tk h6
      have hu : X.A.units + 65 < cLine := by have := C.un; omega
      cases t with
      | false => exact te_cmp2 hu q1 q2 q3 h3
      | true => exact tt_cmp2 hu q1 q2 q3 h3
    · cases h
  | .and ms, c, X, sc, fb, Wx, t, e, C, tk, h => by
    unfold isE at h
    split at h
    · obtain ⟨h1, h2⟩ := bd h
      have h1 := of_decide_eq_true h1
      subst h1
      have q := snd_Es ms c X sc fb Wx t _ C tk h2
      cases t with
      | false => exact q.and
      | true => exact q.andT.pt
    · cases h
  | .or ms, c, X, sc, fb, Wx, t, e, C, tk, h => by
    unfold isE at h
    split at h
    · obtain ⟨h1, h2⟩ := bd h
      have h1 := of_decide_eq_true h1
      subst h1
      have q := snd_Es ms c X sc fb Wx t _ C tk h2
      cases t with
      | false => exact q.or
      | true => exact q.orT.pt
    · cases h
  | .ite m a b, c, X, sc, fb, Wx, t, e, C, tk, h => by
    unfold isE at h
    split at h
    · obtain ⟨h, h4⟩ := bd h
      obtain ⟨h, h3⟩ := bd h
      obtain ⟨h1, h2⟩ := bd h
      have h1 := (Bool.not_eq_true' _).mp h1
      subst h1
      exact te_ite (snd_E m c X sc fb Wx true _ C tk h2) (snd_E a c X sc fb Wx false _ C tk h3) (snd_E b c X sc fb Wx false _ C tk h4)
    · cases h
  | .idx a i, c, X, sc, fb, Wx, t, e, C, tk, h => by
    unfold isE at h
    split at h
    · obtain ⟨h, h3⟩ := bd h
      obtain ⟨h1, h2⟩ := bd h
      exact Snd.val (te_idx (snd_E a c X sc fb Wx false _ C tk h2) (snd_E i c X sc fb Wx false _ C tk h3) (slice_ok h1)) rfl
    · cases h
  | .sli a lo hi, c, X, sc, fb, Wx, t, e, C, tk, h => by
    unfold isE at h
    split at h
    · obtain ⟨h, h3⟩ := bd h
      obtain ⟨h1, h2⟩ := bd h
      exact Snd.val (te_sli (snd_E a c X sc fb Wx false _ C tk h1) (snd_O lo c X sc fb Wx _ C tk h2) (snd_O hi c X sc fb Wx _ C tk h3)) rfl
    · cases h
  | .rev a, c, X, sc, fb, Wx, t, e, C, tk, h => by
    unfold isE at h
    split at h
    · exact Snd.val (te_rev (snd_E a c X sc fb Wx false _ C tk h)) rfl
    · cases h
  | .b1 f a, c, X, sc, fb, Wx, t, e, C, tk, h => by
    unfold isE at h
    split at h
    · split at h
      · obtain ⟨h, h8⟩ := bd h
        obtain ⟨h, h7⟩ := bd h
        obtain ⟨h, h6⟩ := bd h
        obtain ⟨h, h5⟩ := bd h
        obtain ⟨h, h4⟩ := bd h
        obtain ⟨h, h3⟩ := bd h
        obtain ⟨h1, h2⟩ := bd h
        obtain ⟨h0, h1⟩ := bd h1
        have h1 := of_decide_eq_true h1
        have h2 := of_decide_eq_true h2
        subst h1 h2
        obtain ⟨g, m0⟩ := gl_bt C h3 (of_decide_eq_true h4) rfl
        obtain ⟨g2, m2⟩ := gl_bt C h5 (of_decide_eq_true h6) rfl
        exact Snd.val (te_sset (C.calm (hot_ok h0)) g m0 g2 m2 (snd_E a c X sc fb Wx false _ C tk h8) (st1 h7)) rfl
      · cases h
    · split at h
      · obtain ⟨h, h6⟩ := bd h
        obtain ⟨h, h5⟩ := bd h
        obtain ⟨h, h4⟩ := bd h
        obtain ⟨h, h3⟩ := bd h
        obtain ⟨h1, h2⟩ := bd h
        obtain ⟨h0, h1⟩ := bd h1
        have h1 := of_decide_eq_true h1
        subst h1
        obtain ⟨g, m0⟩ := gl_bt C h3 (of_decide_eq_true h4) rfl
        exact Snd.val (te_b1 _ (of_decide_eq_true h2) (C.calm (hot_ok h0)) g m0 (snd_E a c X sc fb Wx false _ C tk h6) (st1 h5)) rfl
      · cases h
  | .b2 f a b, c, X, sc, fb, Wx, t, e, C, tk, h => by
    unfold isE at h
    split at h
    · obtain ⟨h, h7⟩ := bd h
      obtain ⟨h, h6⟩ := bd h
      obtain ⟨h, h5⟩ := bd h
      obtain ⟨h, h4⟩ := bd h
      obtain ⟨h, h3⟩ := bd h
      obtain ⟨h1, h2⟩ := bd h
      obtain ⟨h0, h1⟩ := bd h1
      have h1 := of_decide_eq_true h1
      subst h1
      obtain ⟨g, m0⟩ := gl_bt C h2 (of_decide_eq_true h3) rfl
      exact Snd.val (te_b2 f (C.calm (hot_ok h0)) g m0 (snd_E a c X sc fb Wx false _ C tk h6) (snd_E b c X sc fb Wx false _ C tk h7) (st2 h4 h5) (st1 h5)) rfl
    · cases h
  | .isi a ty, c, X, sc, fb, Wx, t, e, C, tk, h => by
    unfold isE at h
    split at h
    · split at h
      · obtain ⟨h, h8⟩ := bd h
        obtain ⟨h, h7⟩ := bd h
        obtain ⟨h, h6⟩ := bd h
        obtain ⟨h, h5⟩ := bd h
        obtain ⟨h, h4⟩ := bd h
        obtain ⟨h, h3⟩ := bd h
        obtain ⟨h1, h2⟩ := bd h
        obtain ⟨h0, h1⟩ := bd h1
        have h1 := of_decide_eq_true h1
        subst h1
        obtain ⟨g, m0⟩ := gl_bt C h2 (of_decide_eq_true h3) rfl
        obtain ⟨g2, m2⟩ := gl_bt C h5 (of_decide_eq_true h6) rfl
        obtain ⟨o1, o2, o3, u, o4, o5⟩ := ty_bt h4
        exact Snd.val (te_isi o1 g m0 (pe_bltn g2 m2 o4 o5 o2 o3) (snd_E a c X sc fb Wx false _ C tk h8) (star_ok h7)) rfl
      · cases h
    · split at h
      · obtain ⟨h, h10⟩ := bd h
        obtain ⟨h, h9⟩ := bd h
        obtain ⟨h, h8⟩ := bd h
        obtain ⟨h, h7⟩ := bd h
        obtain ⟨h, h6⟩ := bd h
        obtain ⟨h, h5⟩ := bd h
        obtain ⟨h, h4⟩ := bd h
        obtain ⟨h, h3⟩ := bd h
        obtain ⟨h1, h2⟩ := bd h
        obtain ⟨h0, h1⟩ := bd h1
        have h1 := of_decide_eq_true h1
        subst h1
        obtain ⟨g, m0⟩ := gl_bt C h2 (of_decide_eq_true h3) rfl
        have ey := C.own _ _ (of_decide_eq_true h4) (of_decide_eq_true h5)
        refine Snd.val (te_isiC g m0 (pe_glob (glB_ok C h6) ey rfl (nmB_ok h7).1) (snd_E a c X sc fb Wx false _ C tk h10) (star_ok h9) fun d hd => ?_) rfl
        rw [C.sub]
        exact C.kits _ _ _ (of_decide_eq_true (List.all_eq_true.mp h8 d hd))
      · cases h
  | .call pu f ms, c, X, sc, fb, Wx, t, e, C, tk, h => by
    unfold isE at h
    split at h
    · obtain ⟨h, h6⟩ := bd h
      obtain ⟨h, h5⟩ := bd h
      obtain ⟨h, h4⟩ := bd h
      obtain ⟨h, h3⟩ := bd h
      obtain ⟨h1, h2⟩ := bd h
      obtain ⟨h0, h1⟩ := bd h1
      split at h1
      · rename_i d hd
        obtain ⟨h1, h1'⟩ := bd h1
        have h1 := of_decide_eq_true h1
        obtain ⟨fa, fd, ps, e1, e2, e3, F⟩ := C.defs (hot_ok h0) f d hd (by rw [h1])
        rw [h1] at e1
        have q := snd_Es ms c X sc fb Wx false _ C tk h6
        exact Snd.val (te_call F ((C.room (hot_ok h0)).mono (Nat.le_succ _)) tk (glB_ok C h2) e1 e2 e3 (nmB_ok h3).1 (of_decide_eq_true h1') (of_decide_eq_true h5) q.ta q.stars) rfl
      · cases h1
    · cases h
  | .callM f ms, c, X, sc, fb, Wx, t, e, C, tk, h => by
    unfold isE at h
    split at h
    · obtain ⟨h, h6⟩ := bd h
      obtain ⟨h, h5⟩ := bd h
      obtain ⟨h, h4⟩ := bd h
      obtain ⟨h, h3⟩ := bd h
      obtain ⟨h1, h2⟩ := bd h
      obtain ⟨h0, h1⟩ := bd h1
      split at h1
      · rename_i d hd
        obtain ⟨h1, h1'⟩ := bd h1
        have h1 := of_decide_eq_true h1
        obtain ⟨fa, fd, ps, e1, e2, e3, F⟩ := C.defs (hot_ok h0) f d hd (by rw [h1])
        rw [h1] at e1
        have q := snd_Es ms c X sc fb Wx false _ C tk h6
        exact Snd.val (te_callM F ((C.room (hot_ok h0)).mono (Nat.le_succ _)) tk (glB_ok C h2) e1 e2 e3 (nmB_ok h3).1 (of_decide_eq_true h1') (of_decide_eq_true h5) q.ta q.stars) rfl
      · cases h1
    · cases h
  | .lc mu own tg it ifs elt, c, X, sc, fb, Wx, t, e, C, tk, h => by
    unfold isE at h
    split at h
    · rename_i ee tge iter eifs scope p
      obtain ⟨h, h8⟩ := bd h
      obtain ⟨h, h7⟩ := bd h
      obtain ⟨h, h6⟩ := bd h
      obtain ⟨h, h5⟩ := bd h
      obtain ⟨h, h4⟩ := bd h
      obtain ⟨h, h3⟩ := bd h
      obtain ⟨h1, h2⟩ := bd h
      obtain ⟨h0, h1⟩ := bd h1
      have ok : BlkOk X.N X.env.scope scope own := by
        rw [C.N, C.scope]; exact blkOk_by h1
      have ho : ∀ i ∈ tgS tg, i ∈ own.map (·.2) := fun i hi => of_decide_eq_true (List.all_eq_true.mp h4 i hi)
      cases hh : c.hot with
      | false =>
        have q1 : PI X tge iter (tI X.K G Wx it) := snd_I it c X sc fb Wx tge iter C tk h5
        exact Snd.val (te_lc (C.calm hh) C.nd q1 ok (fun s H c2 cl fp => snd_G tg _ _ _ _ (C.blk hh s H scope c2 cl fp) h6) (fun s H c2 cl fp => (snd_Es ifs _ _ _ _ W0 true _ (C.blk hh s H scope c2 cl fp) takesN h7).tts (of_decide_eq_true h3))
          (fun s H c2 cl fp => snd_E elt _ _ _ _ W0 false _ (C.blk hh s H scope c2 cl fp) takesN h8) (set_ok h2) ho) rfl
      | true =>
        rw [hh] at h0
        have q1 : L2H.PIH X tge iter (tI X.K G Wx it) := snd_IH it c X sc fb Wx tge iter C tk h0 h5
        obtain ⟨q, hq, hot, B⟩ := C.blkH hh
        exact Snd.val (te_lcH hq hot C.nd q1 ok (fun s H c2 cl fp => snd_G tg _ _ _ _ (B s H scope c2 cl fp) h6) (fun s H c2 cl fp => (snd_Es ifs _ _ _ _ W0 true _ (B s H scope c2 cl fp) takesN h7).tts (of_decide_eq_true h3))
          (fun s H c2 cl fp => snd_E elt _ _ _ _ W0 false _ (B s H scope c2 cl fp) takesN h8) (set_ok h2) ho) rfl
    · cases h
  | .lcP mu own tg it ifs elt, c, X, sc, fb, Wx, t, e, C, tk, h => by
    unfold isE at h
    split at h
    · rename_i ee tge iter eifs scope p
      obtain ⟨h, h8⟩ := bd h
      obtain ⟨h, h7⟩ := bd h
      obtain ⟨h, h6⟩ := bd h
      obtain ⟨h, h5⟩ := bd h
      obtain ⟨h, h4⟩ := bd h
      obtain ⟨h, h3⟩ := bd h
      obtain ⟨h1, h2⟩ := bd h
      obtain ⟨h0, h1⟩ := bd h1
      have ok : BlkOk X.N X.env.scope scope own := by
        rw [C.N, C.scope]; exact blkOk_by h1
      have ho : ∀ i ∈ tgS tg, i ∈ own.map (·.2) := fun i hi => of_decide_eq_true (List.all_eq_true.mp h4 i hi)
      have q1 : PI X tge iter (tIP X.K G Wx it) := snd_IP it c X sc fb Wx tge iter C tk h5
      exact Snd.val (te_lcP (C.calm (hot_ok h0)) C.nd q1 ok (fun s H c2 cl fp => snd_G tg _ _ _ _ (C.blk (hot_ok h0) s H scope c2 cl fp) h6) (fun s H c2 cl fp => (snd_Es ifs _ _ _ _ W0 true _ (C.blk (hot_ok h0) s H scope c2 cl fp) takesN h7).tts (of_decide_eq_true h3))
        (fun s H c2 cl fp => snd_E elt _ _ _ _ W0 false _ (C.blk (hot_ok h0) s H scope c2 cl fp) takesN h8) (set_ok h2) ho) rfl
    · cases h
  | .mk0 i, c, X, sc, fb, Wx, t, e, C, tk, h => by
    unfold isE at h
    split at h
    · obtain ⟨h, h5⟩ := bd h
      obtain ⟨h, h4⟩ := bd h
      obtain ⟨h, h3⟩ := bd h
      obtain ⟨h1, h2⟩ := bd h
      obtain ⟨h0, h1⟩ := bd h1
      exact Snd.val (te_mk0 (C.bare i (of_decide_eq_true h5)) (glB_ok C h3) (C.own _ _ (of_decide_eq_true h1) (of_decide_eq_true h2)) (nmB_ok h4).1) rfl
    · cases h
  | .fld m f cs, c, X, sc, fb, Wx, t, e, C, tk, h => by
    unfold isE at h
    split at h
    · obtain ⟨h, h4⟩ := bd h
      obtain ⟨h, h3⟩ := bd h
      obtain ⟨h1, h2⟩ := bd h
      have h1 := of_decide_eq_true h1
      subst h1
      exact Snd.val (te_fld (snd_E m c X sc fb Wx false _ C tk h4) (base_ok h2) fun i hi => C.flds i _ (of_decide_eq_true (List.all_eq_true.mp h3 i hi))) rfl
    · cases h
  | .mk i f ms, c, X, sc, fb, Wx, t, e, C, tk, h => by
    unfold isE at h
    split at h
    · obtain ⟨h, h8⟩ := bd h
      obtain ⟨h, h7⟩ := bd h
      obtain ⟨h, h6⟩ := bd h
      obtain ⟨h, h5⟩ := bd h
      obtain ⟨h, h4⟩ := bd h
      obtain ⟨h, h3⟩ := bd h
      obtain ⟨h1, h2⟩ := bd h
      obtain ⟨h0, h1⟩ := bd h1
      split at h1
      · rename_i d hd
        obtain ⟨h1, h1'⟩ := bd h1
        obtain ⟨fa, fd, ps, e1, _, e3, F⟩ := C.meths (hot_ok h0) f d _ _ i hd (of_decide_eq_true h1) (of_decide_eq_true h2) (of_decide_eq_true h3)
        have q := snd_Es ms c X sc fb Wx false _ C tk h8
        exact Snd.val (te_mk (e1 rfl) F (C.room (hot_ok h0)) tk (glB_ok C h4) (C.own _ _ (of_decide_eq_true h2) (of_decide_eq_true h3)) e3 (nmB_ok h5).1 (of_decide_eq_true h1') (of_decide_eq_true h7) q.ta q.stars) rfl
      · cases h1
    · cases h
  | .meth mo m tb ms, c, X, sc, fb, Wx, t, e, C, tk, h => by
    unfold isE at h
    split at h
    · obtain ⟨h, h10⟩ := bd h
      obtain ⟨h, h9⟩ := bd h
      obtain ⟨h, h8⟩ := bd h
      obtain ⟨h, h7⟩ := bd h
      obtain ⟨h, h6⟩ := bd h
      obtain ⟨h, h5⟩ := bd h
      obtain ⟨h, h4⟩ := bd h
      obtain ⟨h, h3⟩ := bd h
      obtain ⟨h1, h2⟩ := bd h
      obtain ⟨h0, h1⟩ := bd h1
      have h1 := of_decide_eq_true h1
      subst h1
      have q := snd_Es ms c X sc fb Wx false _ C tk h10
      refine Snd.val (te_meth tk (snd_E mo c X sc fb Wx false _ C tk h9) (base_ok h3) h4 (of_decide_eq_true h5) (fun c' i hl => ?_) (of_decide_eq_true h6) q.ta q.stars) rfl
      have hm := mem_lookup hl
      have h7 := List.all_eq_true.mp h7 _ hm
      split at h7
      · rename_i d y hd hy
        obtain ⟨h7, g3⟩ := bd h7
        obtain ⟨g1, g2⟩ := bd h7
        obtain ⟨fa, fd, ps, _, e1, e3, F⟩ := C.meths (hot_ok h0) i d _ _ c' hd (of_decide_eq_true g1) hy (of_decide_eq_true g3)
        obtain ⟨c1, c2⟩ := e1 (of_decide_eq_true h2)
        have en : d.np = ms.length + 1 := (of_decide_eq_true g2).symm
        rw [en] at F
        exact ⟨fa, _, fd, ps, c1, c2, F, (C.room (hot_ok h0)).mono (Nat.le_succ _), e3⟩
      · cases h7
    · cases h
  | .dget d k, c, X, sc, fb, Wx, t, e, C, tk, h => by
    unfold isE at h
    split at h
    · obtain ⟨h, h3⟩ := bd h
      obtain ⟨h1, h2⟩ := bd h
      exact Snd.val (te_dget (by have := C.un; omega) (snd_E d c X sc fb Wx false _ C tk h2) (snd_E k c X sc fb Wx false _ C tk h3) (fun o i => slice_ok h1 o i)) rfl
    · cases h
  | .din neg k d, c, X, sc, fb, Wx, t, e, C, tk, h => by
    unfold isE at h
    split at h
    · obtain ⟨h, h4⟩ := bd h
      obtain ⟨h, h3⟩ := bd h
      obtain ⟨h1, h2⟩ := bd h
      have h1 := of_decide_eq_true h1
      subst h1
      have h2 := (Bool.not_eq_true' _).mp h2
      have hu : X.A.units + 1 < cLine := by have := C.un; omega
      have q1 := snd_E k c X sc fb Wx false _ C tk h3
      have q2 := snd_E d c X sc fb Wx false _ C tk h4
      cases t with
      | false => exact te_din hu neg q1 q2 h2
      | true => exact tt_din hu neg q1 q2 h2
    · cases h
  | .listM a, c, X, sc, fb, Wx, t, e, C, tk, h => by
    unfold isE at h
    split at h
    · obtain ⟨h, h5⟩ := bd h
      obtain ⟨h, h4⟩ := bd h
      obtain ⟨h, h3⟩ := bd h
      obtain ⟨h1, h2⟩ := bd h
      obtain ⟨h0, h1⟩ := bd h1
      have h1 := of_decide_eq_true h1
      subst h1
      obtain ⟨g, m0⟩ := gl_bt C h2 (of_decide_eq_true h3) rfl
      exact Snd.val (te_listM g m0 (snd_E a c X sc fb Wx false _ C tk h5) (st1 h4)) rfl
    · cases h
  | .addM a b, c, X, sc, fb, Wx, t, e, C, tk, h => by
    unfold isE at h
    split at h
    · obtain ⟨h, h3⟩ := bd h
      obtain ⟨h1, h2⟩ := bd h
      have h1 := of_decide_eq_true h1
      subst h1
      exact Snd.val (te_addM (snd_E a c X sc fb Wx false _ C tk h2) (snd_E b c X sc fb Wx false _ C tk h3)) rfl
    · cases h
  | .indx a m, c, X, sc, fb, Wx, t, e, C, tk, h => by
    unfold isE at h
    split at h
    · obtain ⟨h, h6⟩ := bd h
      obtain ⟨h, h5⟩ := bd h
      obtain ⟨h, h4⟩ := bd h
      obtain ⟨h, h3⟩ := bd h
      obtain ⟨h1, h2⟩ := bd h
      have h1 := of_decide_eq_true h1
      subst h1
      exact Snd.val (te_indx (snd_E a c X sc fb Wx false _ C tk h5) (snd_E m c X sc fb Wx false _ C tk h6) (base_ok h2) h3 (st1 h4)) rfl
    · cases h
  | .isx i ty, c, X, sc, fb, Wx, t, e, C, tk, h => by
    unfold isE at h
    split at h
    · obtain ⟨h, h7⟩ := bd h
      obtain ⟨h, h6⟩ := bd h
      obtain ⟨h, h5⟩ := bd h
      obtain ⟨h, h4⟩ := bd h
      obtain ⟨h, h3⟩ := bd h
      obtain ⟨h1, h2⟩ := bd h
      have h2 := of_decide_eq_true h2
      subst h2
      obtain ⟨g, m0⟩ := gl_bt C h3 (of_decide_eq_true h4) rfl
      have hN := of_decide_eq_true h5
      rw [← C.N] at hN
      split at h1
      · rename_i d hd
        obtain ⟨h1, h13⟩ := bd h1
        obtain ⟨h11, h12⟩ := bd h1
        obtain ⟨d', e1, he⟩ := C.exn h11
        rw [hd] at e1
        cases e1
        obtain ⟨xc, xv⟩ := C.xcs d (of_decide_eq_true h12)
        cases ty with
        | cls j ds =>
          simp only [] at h13
          obtain ⟨h13, k4⟩ := bd h13
          obtain ⟨h13, k3⟩ := bd h13
          obtain ⟨k1, k2⟩ := bd h13
          obtain ⟨kk, _⟩ := C.xkits _ _ _ (of_decide_eq_true k4)
          exact Snd.val (te_isx (cv := .ref (G.ca j)) he xc hN (visB_ok C h6) (nmB_ok h7).1 (nmB_ok h7).2 g m0 (pe_glob (glB_ok C k2) (C.xmg _ _ (of_decide_eq_true k1)) rfl (nmB_ok k3).1) (fun u z => z) ⟨c.sub d j, by rw [← C.sub]; rfl, kk⟩) rfl
        | ty n =>
          simp only [] at h13
          obtain ⟨h13, k4⟩ := bd h13
          obtain ⟨h13, k3⟩ := bd h13
          obtain ⟨k1, k2⟩ := bd h13
          have k1 := of_decide_eq_true k1
          have k2 := of_decide_eq_true k2
          subst k1 k2
          obtain ⟨g2, m2⟩ := gl_bt C k3 (of_decide_eq_true k4) rfl
          exact Snd.val (te_isx (cv := .ty "ValueError") he xc hN (visB_ok C h6) (nmB_ok h7).1 (nmB_ok h7).2 g m0 (pe_bltn g2 m2 (u := .type "ValueError") (by decide +kernel) rfl (by decide) (by decide)) (fun u z => z) ⟨true, rfl, xv⟩) rfl
      · cases h1
    · cases h
  | .lam i t' q, c, X, sc, fb, Wx, t, e, C, tk, h => by
    unfold isE at h
    split at h
    · obtain ⟨h, h4⟩ := bd h
      obtain ⟨h, h3⟩ := bd h
      obtain ⟨h1, h2⟩ := bd h
      have P := C.lb _ _ _ _ h3
      refine Snd.val (te_lam (C.tab (hot_ok h1) _ _ (of_decide_eq_true h2)) (C.lamT _ _ _ _ P) P fun y hy e => ?_) rfl
      have z := List.all_eq_true.mp h4 y hy
      rw [e] at z
      rw [C.scope]
      simpa using z
    · cases h
  | .lam0 i t' q, c, X, sc, fb, Wx, t, e, C, tk, h => by
    unfold isE at h
    split at h
    · obtain ⟨h, h4⟩ := bd h
      obtain ⟨h, h3⟩ := bd h
      obtain ⟨h1, h2⟩ := bd h
      have P := C.lb _ _ _ _ h3
      split at h4
      · rename_i d hd
        obtain ⟨g1, g2⟩ := bd h4
        exact Snd.val (te_lam0 (C.tab (hot_ok h1) _ _ (of_decide_eq_true h2)) (C.lamT _ _ _ _ P) P ((C.lamF i d hd (of_decide_eq_true g1)).trans (of_decide_eq_true g2))) rfl
      · cases h4
    · cases h
  | .callF f tb ms, c, X, sc, fb, Wx, t, e, C, tk, h => by
    unfold isE at h
    split at h
    · obtain ⟨h, h8⟩ := bd h
      obtain ⟨h, h7⟩ := bd h
      obtain ⟨h, h6⟩ := bd h
      obtain ⟨h, h5⟩ := bd h
      obtain ⟨h, h4⟩ := bd h
      obtain ⟨h, h3⟩ := bd h
      obtain ⟨h1, h2⟩ := bd h
      obtain ⟨h0, h1⟩ := bd h1
      split at h1
      · rename_i d hd
        obtain ⟨h1, h1'⟩ := bd h1
        have h1 := of_decide_eq_true h1
        obtain ⟨fa, fd, ps, e1, e2, e3, F⟩ := C.defs (hot_ok h0) f d hd (by rw [h1])
        rw [h1] at e1
        have q := snd_Es ms c X sc fb Wx false _ C tk h8
        obtain ⟨⟨t', q'⟩, ht⟩ := Option.isSome_iff_exists.mp h2
        refine Snd.val (te_callF (C.tab (hot_ok h0) _ _ ht) C.nd C.lamT (fun i js hl => ?_) F ((C.room (hot_ok h0)).mono (Nat.le_succ _)) tk (glB_ok C h4) e1 e2 e3 (nmB_ok h5).1 (of_decide_eq_true h1') (of_decide_eq_true h7) q.ta q.stars) rfl
        have hm := mem_lookup hl
        have z := List.all_eq_true.mp h3 _ hm
        simp only [] at z
        split at z
        · rename_i dl hdl
          obtain ⟨z, z3⟩ := bd z
          obtain ⟨z1, z2⟩ := bd z
          rw [C.lamF i dl hdl (of_decide_eq_true z1), C.N]
          refine ⟨of_decide_eq_true z2, fun y hy => ?_⟩
          rw [C.scope]
          exact of_decide_eq_true (List.all_eq_true.mp z3 y hy)
        · cases z
      · cases h1
    · cases h
  | .calv v ms, c, X, sc, fb, Wx, t, e, C, tk, h => by
    unfold isE at h
    split at h
    · obtain ⟨h, h6⟩ := bd h
      obtain ⟨h, h5⟩ := bd h
      obtain ⟨h, h4⟩ := bd h
      obtain ⟨h, h3⟩ := bd h
      obtain ⟨h1, h2⟩ := bd h
      have q := snd_Es ms c X sc fb Wx false _ C tk h6
      exact Snd.val (te_calv (C.lamK (hot_ok h1)) ((C.room (hot_ok h1)).mono (Nat.le_succ _)) tk (by rw [C.N]; exact of_decide_eq_true h2) (visB_ok C h3) (nmB_ok h4).1 (nmB_ok h4).2 (of_decide_eq_true h5) q.ta q.stars) rfl
    · cases h
  | .cnt a m, c, X, sc, fb, Wx, t, e, C, tk, h => by
    unfold isE at h
    split at h
    · obtain ⟨h, h6⟩ := bd h
      obtain ⟨h, h5⟩ := bd h
      obtain ⟨h, h4⟩ := bd h
      obtain ⟨h, h3⟩ := bd h
      obtain ⟨h1, h2⟩ := bd h
      have h1 := of_decide_eq_true h1
      subst h1
      exact Snd.val (te_cnt (snd_E a c X sc fb Wx false _ C tk h5) (snd_E m c X sc fb Wx false _ C tk h6) (base_ok h2) h3 (st1 h4)) rfl
    · cases h
  | .lrg ms, c, X, sc, fb, Wx, t, e, C, tk, h => by
    unfold isE at h
    split at h
    · obtain ⟨h, h8⟩ := bd h
      obtain ⟨h, h7⟩ := bd h
      obtain ⟨h, h6⟩ := bd h
      obtain ⟨h, h5⟩ := bd h
      obtain ⟨h, h4⟩ := bd h
      obtain ⟨h, h3⟩ := bd h
      obtain ⟨h1, h2⟩ := bd h
      obtain ⟨h0, h1⟩ := bd h1
      have h1 := of_decide_eq_true h1
      have h2 := of_decide_eq_true h2
      subst h1 h2
      obtain ⟨g, m0⟩ := gl_bt C h3 (of_decide_eq_true h4) rfl
      obtain ⟨g2, m2⟩ := gl_bt C h5 (of_decide_eq_true h6) rfl
      have q := snd_Es ms c X sc fb Wx false _ C tk h8
      match ms, h7, q with
      | [m], _, .cons s1 q1 .nil => exact Snd.val (te_lrg1 (C.calm (hot_ok h0)) g m0 g2 m2 q1 (st1 s1) rfl) rfl
      | [m1, m2'], _, .cons s1 q1 (.cons s2 q2 .nil) => exact Snd.val (te_lrg2 (C.calm (hot_ok h0)) g m0 g2 m2 q1 q2 (st2 s1 s2) (st1 s2) rfl) rfl
      | [], h7, _ => simp at h7
      | _ :: _ :: _ :: _, h7, _ => simp at h7
    · cases h
  | .lzp _ _, c, X, sc, fb, Wx, t, e, C, tk, h => by unfold isE at h; cases h
theorem snd_Es : ∀ (ms : List ME) (c : Ck) (X : Cx) (sc : Scope) (fb : Str → Bool) (Wx : WX) (t : Bool) (es : List Expr), Cok c G k X sc fb → L2N.Takes X Wx → isEs c ms sc t es = true → SndL X G Wx t es ms
  | [], c, X, sc, fb, Wx, t, es, C, tk, h => by
    unfold isEs at h
    split at h
    · exact .nil
    · cases h
  | m :: ms, c, X, sc, fb, Wx, t, es, C, tk, h => by
    unfold isEs at h
    split at h
    · obtain ⟨h, h3⟩ := bd h
      obtain ⟨h1, h2⟩ := bd h
      exact .cons h1 (snd_E m c X sc fb Wx t _ C tk h2) (snd_Es ms c X sc fb Wx t _ C tk h3)
    · cases h
theorem snd_O : ∀ (m : Option ME) (c : Ck) (X : Cx) (sc : Scope) (fb : Str → Bool) (Wx : WX) (e : Option Expr), Cok c G k X sc fb → L2N.Takes X Wx → isO c m sc e = true → PO X e (tO' X.K G Wx m)
  | none, c, X, sc, fb, Wx, e, C, tk, h => by
    unfold isO at h
    split at h
    · exact to_none
    · cases h
  | some m, c, X, sc, fb, Wx, e, C, tk, h => by
    unfold isO at h
    split at h
    · exact to_some (snd_E m c X sc fb Wx false _ C tk h)
    · cases h
theorem snd_IH : ∀ (it : It) (c : Ck) (X : Cx) (sc : Scope) (fb : Str → Bool) (Wx : WX) (tg e : Expr), Cok c G k X sc fb → L2N.Takes X Wx → (!true || isRg it) = true → isI c it sc tg e = true → L2H.PIH X tg e (tI X.K G Wx it)
  | .sq m, c, X, sc, fb, Wx, tg, e, C, tk, h0, h => by cases h0
  | .zp a b, c, X, sc, fb, Wx, tg, e, C, tk, h0, h => by cases h0
  | .en a, c, X, sc, fb, Wx, tg, e, C, tk, h0, h => by cases h0
  | .zp4 _ _ _ _, c, X, sc, fb, Wx, tg, e, C, tk, h0, h => by cases h0
  | .rg ms, c, X, sc, fb, Wx, tg, e, C, tk, h0, h => by
    unfold isI at h
    split at h
    · obtain ⟨h, h5⟩ := bd h
      obtain ⟨h, h4⟩ := bd h
      obtain ⟨h, h3⟩ := bd h
      obtain ⟨h1, h2⟩ := bd h
      have h1 := of_decide_eq_true h1
      subst h1
      obtain ⟨g, m0⟩ := gl_bt C h2 (of_decide_eq_true h3) rfl
      have q := snd_Es ms c X sc fb Wx false _ C tk h5
      cases q with
      | nil => cases h0
      | cons n1 q1 q2 => cases q2 with
        | nil => exact ti_rg1H g m0 q1 (st1 n1)
        | cons _ _ _ => cases h0
    · cases h
theorem snd_I : ∀ (it : It) (c : Ck) (X : Cx) (sc : Scope) (fb : Str → Bool) (Wx : WX) (tg e : Expr), Cok c G k X sc fb → L2N.Takes X Wx → isI c it sc tg e = true → PI X tg e (tI X.K G Wx it)
  | .sq m, c, X, sc, fb, Wx, tg, e, C, tk, h => by
    unfold isI at h
    exact ti_sq (snd_E m c X sc fb Wx false _ C tk h)
  | .rg ms, c, X, sc, fb, Wx, tg, e, C, tk, h => by
    unfold isI at h
    split at h
    · obtain ⟨h, h5⟩ := bd h
      obtain ⟨h, h4⟩ := bd h
      obtain ⟨h, h3⟩ := bd h
      obtain ⟨h1, h2⟩ := bd h
      have h1 := of_decide_eq_true h1
      subst h1
      obtain ⟨g, m0⟩ := gl_bt C h2 (of_decide_eq_true h3) rfl
      have q := snd_Es ms c X sc fb Wx false _ C tk h5
      match ms, h4, q with
      | [m], _, .cons s1 q1 .nil => exact ti_rg1 g m0 q1 (st1 s1)
      | [m1, m2], _, .cons s1 q1 (.cons s2 q2 .nil) => exact ti_rg2 g m0 q1 q2 (st2 s1 s2) (st1 s2)
      | [], h4, _ => simp at h4
      | _ :: _ :: _ :: _, h4, _ => simp at h4
    · cases h
  | .zp a b, c, X, sc, fb, Wx, tg, e, C, tk, h => by
    unfold isI at h
    split at h
    · split at h
      · obtain ⟨h, h7⟩ := bd h
        obtain ⟨h, h6⟩ := bd h
        obtain ⟨h, h5⟩ := bd h
        obtain ⟨h, h4⟩ := bd h
        obtain ⟨h, h3⟩ := bd h
        obtain ⟨h1, h2⟩ := bd h
        have h1 := of_decide_eq_true h1
        subst h1
        obtain ⟨g, m0⟩ := gl_bt C h2 (of_decide_eq_true h3) rfl
        exact ti_zp g m0 (snd_E a c X sc fb Wx false _ C tk h6) (snd_E b c X sc fb Wx false _ C tk h7) (star_ok h4) (st1 h5)
      · cases h
    · cases h
  | .en a, c, X, sc, fb, Wx, tg, e, C, tk, h => by
    unfold isI at h
    split at h
    · split at h
      · obtain ⟨h, h5⟩ := bd h
        obtain ⟨h, h4⟩ := bd h
        obtain ⟨h, h3⟩ := bd h
        obtain ⟨h1, h2⟩ := bd h
        have h1 := of_decide_eq_true h1
        subst h1
        obtain ⟨g, m0⟩ := gl_bt C h2 (of_decide_eq_true h3) rfl
        exact ti_en g m0 (snd_E a c X sc fb Wx false _ C tk h5) (st1 h4)
      · cases h
    · cases h
  | .zp4 _ _ _ _, c, X, sc, fb, Wx, tg, e, C, tk, h => by unfold isI at h; cases h
theorem snd_IP : ∀ (it : It) (c : Ck) (X : Cx) (sc : Scope) (fb : Str → Bool) (Wx : WX) (tg e : Expr), Cok c G k X sc fb → L2N.Takes X Wx → isIP c it sc tg e = true → PI X tg e (tIP X.K G Wx it)
  | .sq m, c, X, sc, fb, Wx, tg, e, C, tk, h => by
    unfold isIP at h
    exact ti_sqP (snd_E m c X sc fb Wx false _ C tk h)
  | .zp a b, c, X, sc, fb, Wx, tg, e, C, tk, h => by
    unfold isIP at h
    split at h
    · split at h
      · obtain ⟨h, h7⟩ := bd h
        obtain ⟨h, h6⟩ := bd h
        obtain ⟨h, h5⟩ := bd h
        obtain ⟨h, h4⟩ := bd h
        obtain ⟨h, h3⟩ := bd h
        obtain ⟨h1, h2⟩ := bd h
        have h1 := of_decide_eq_true h1
        subst h1
        obtain ⟨g, m0⟩ := gl_bt C h2 (of_decide_eq_true h3) rfl
        exact ti_zpP g m0 (snd_E a c X sc fb Wx false _ C tk h6) (snd_E b c X sc fb Wx false _ C tk h7) (star_ok h4) (st1 h5)
      · cases h
    · cases h
  | .rg ms, c, X, sc, fb, Wx, tg, e, C, tk, h => by
    unfold isIP at h
    cases h
  | .en a, c, X, sc, fb, Wx, tg, e, C, tk, h => by
    unfold isIP at h
    cases h
  | .zp4 _ _ _ _, c, X, sc, fb, Wx, tg, e, C, tk, h => by unfold isIP at h; cases h
end
end
end Mi

set_option Elab.async false
set_option linter.all false
set_option maxRecDepth 100000
set_option maxHeartbeats 4000000
/-! Mini Python: the checker of statements and of defs. -/
namespace Mi
open PySem PySem.Spec PyProof.Rows L2
/-- which names a display on both sides stores in turn -/
def swP (sc : Scope) (t v : Expr) : Option (Option (List Str)) := match t, v with
  | .Tuple ts _ _, .Tuple vs _ _ =>
    if !(ts.length == 2 || ts.length == 3) || vs.length != ts.length then some none
    else if (vs.any fun | .Starred .. => true | _ => false) = true then some none
    else
      let line := (ts.head?.map (·.pos.line)).getD 0
      let names := ts.filterMap fun
        | .Name id pos => if sc.names.lookup id == some .local && pos.line == line then some id else none
        | _ => none
      if names.length != ts.length || names.eraseDups.length != names.length then some none
      else if vs.all (foldedForSure 8) then some none
      else if vs.all (constantsAlone 8) then none else some (some names)
  | .List _ _, .Tuple _ _ _ => none
  | _, _ => some none
theorem swP_ok {sc : Scope} {t v : Expr} {env : PySem.Env} {r : Option (List Str)} (e : env.scope = sc) (hk : sc.kind = .function) (h : swP sc t v = some r) : swappedStores [t] v env = pure r := by
  have hb : env.blockKind = .function := by unfold Env.blockKind; rw [e, hk]; rfl
  have hn : ∀ x, env.kindOf x = sc.names.lookup x := fun x => by unfold Env.kindOf; rw [e]
  unfold swP at h
  split at h
  · rename_i ts _ _ vs _ _
    unfold swappedStores
    have hf : (ScopeKind.function != ScopeKind.function) = false := by decide
    simp only [hb, hn, hf, Bool.or_false]
    split at h
    · rename_i h1; cases h; exact if_pos h1
    rename_i h1; refine Eq.trans (if_neg h1) ?_
    split at h
    · rename_i h1; cases h; exact if_pos h1
    rename_i h1; refine Eq.trans (if_neg h1) ?_
    simp only [] at h
    split at h
    · rename_i h1; cases h; exact if_pos h1
    rename_i h1; refine Eq.trans (if_neg h1) ?_
    split at h
    · rename_i h1; cases h; exact if_pos h1
    rename_i h1; refine Eq.trans (if_neg h1) ?_
    split at h
    · cases h
    rename_i h1; refine Eq.trans (if_neg h1) ?_
    cases h
    rfl
  · cases h
  · rename_i h1 h2
    cases h
    unfold swappedStores
    cases t <;> cases v <;> first | rfl | exact absurd rfl (h1 _ _ _ _ _ _ rfl) | exact absurd rfl (h2 _ _ _ _ _ rfl)
mutual
def isS (c : Ck) : MS → Scope → Stmt → Bool
  | .ex m, sc, s => match s with
    | .Expr e _ => notComp e && isE c m sc false e
    | _ => false
  | .as t m, sc, s => match s with
    | .Assign [tg] e pos => match notComp e with
      | true => notStar tg && decide (swP sc tg e = some none) && isG c sc (fun _ => true) t tg && isE c m sc false e
      | false => match t with
        | .nm i => match m with
          | .lc mu own t it ifs elt => match tg with
            | .Name y py => match e with
              | .ListComp ee [⟨tge, iter, eifs, 0⟩] scope p => (!c.hot && decide (c.N[i]? = some y)) && decide (sc.names.lookup y = some .local) && (py.line == p.line) && !(scope.names.any fun (n, k) => n == y && (k == .local || k == .cell)) && isE c (.lc mu own t it ifs elt) sc false (.ListComp ee [⟨tge, iter, eifs, 0⟩] scope p)
              | _ => false
            | _ => false
          | _ => false
        | _ => false
    | _ => false
  | .par ids ms, sc, s => match ids with
    | [i, j] => match s with
      | .Assign [.Tuple [.Name x px, .Name y py] kt pt] (.Tuple [a, b] k2 pt2) pos => (!c.hot && decide (c.N[i]? = some x)) && decide (c.N[j]? = some y) && decide (i ≠ j) && decide (sc.names.lookup x = some .local) && decide (sc.names.lookup y = some .local) &&
        decide (ms.length = 2) && decide (swP sc (.Tuple [.Name x px, .Name y py] kt pt) (.Tuple [a, b] k2 pt2) = some (some [x, y])) && isEs c ms sc false [a, b]
      | _ => false
    | [i, j, l] => match s with
      | .Assign [.Tuple [.Name x px, .Name y py, .Name z pz] kt pt] (.Tuple [a, b, d] k2 pt2) pos => (!c.hot && decide (c.N[i]? = some x)) && decide (c.N[j]? = some y) && decide (c.N[l]? = some z) && decide (i ≠ j) && decide (i ≠ l) && decide (j ≠ l) &&
        decide (sc.names.lookup x = some .local) && decide (sc.names.lookup y = some .local) && decide (sc.names.lookup z = some .local) &&
        decide (ms.length = 3) && decide (swP sc (.Tuple [.Name x px, .Name y py, .Name z pz] kt pt) (.Tuple [a, b, d] k2 pt2) = some (some [x, y, z])) && isEs c ms sc false [a, b, d]
      | _ => false
    | _ => false
  | .iff m a b, sc, s => match s with
    | .If ce ea eb _ => isE c m sc true ce && isSs c a sc ea && isSs c b sc eb
    | _ => false
  | .fo t it body, sc, s => match s with
    | .For tg iter b [] _ => (!c.hot && notSet iter) && isI c it sc tg iter && isG c sc (fun _ => true) t tg && isSs c body sc b
    | _ => false
  | .wh n m body, sc, s => match s with
    | .While ce b [] _ => isE c m sc true ce && isSs c body sc b
    | _ => false
  | .rt m, sc, s => match s with
    | .Return (some e) _ => isE c m sc false e
    | _ => false
  | .rtN, sc, s => match s with
    | .Return none _ => true
    | _ => false
  | .rs i, sc, s => match s with
    | .Raise (some (.Call (.Name x _) [.Constant (.str _) _ _] [] _)) none _ => (!c.hot && decide (c.cls[i]? = some x)) && glB sc x && nmB x
    | _ => false
  | .app o m, sc, s => match s with
    | .Expr (.Call (.Attribute oe at_ apos) [e] [] cpos) pos => decide (at_ = "append") && plainBase oe && (apos.endLine == cpos.line) && notStar e && isE c o sc false oe && isE c m sc false e
    | _ => false
  | .rem o m, sc, s => match s with
    | .Expr (.Call (.Attribute oe at_ apos) [e] [] cpos) pos => decide (at_ = "remove") && plainBase oe && (apos.endLine == cpos.line) && notStar e && isE c o sc false oe && isE c m sc false e
    | _ => false
  | .pop o, sc, s => match s with
    | .Expr (.Call (.Attribute oe at_ apos) [] [] cpos) pos => decide (at_ = "pop") && plainBase oe && (apos.endLine == cpos.line) && isE c o sc false oe
    | _ => false
  | .clr o, sc, s => match s with
    | .Expr (.Call (.Attribute oe at_ apos) [] [] cpos) pos => decide (at_ = "clear") && plainBase oe && (apos.endLine == cpos.line) && isE c o sc false oe
    | _ => false
  | .si o i m, sc, s => match s with
    | .Assign [.Subscript oe ie tpos] e pos => notSlice ie && notComp e && decide (swP sc (.Subscript oe ie tpos) e = some none) && isE c o sc false oe && isE c i sc false ie && isE c m sc false e
    | _ => false
  | .si2 mo1 mi1 mo2 mi2 m, sc, s => match s with
    | .Assign [.Tuple [.Subscript o1 i1 tp1, .Subscript o2 i2 tp2] kt tp] e pos => (!c.hot && notSlice i1) && notSlice i2 && notComp e && decide (swP sc (.Tuple [.Subscript o1 i1 tp1, .Subscript o2 i2 tp2] kt tp) e = some none) && isE c mo1 sc false o1 && isE c mi1 sc false i1 && isE c mo2 sc false o2 && isE c mi2 sc false i2 && isE c m sc false e
    | _ => false
  | .fz _, _, _ => false
  | .ps, sc, s => match s with
    | .Pass _ => true
    | _ => false
  | .sfld o f cs m, sc, s => match s with
    | .Assign [.Attribute oe x p1] e pos => decide (x = f) && notComp e && cs.all (fun i => decide ((i, f) ∈ c.flds)) && isE c o sc false oe && isE c m sc false e
    | _ => false
  | .dput d k m, sc, s => match s with
    | .Assign [.Subscript oe ie tpos] e pos => notSlice ie && notComp e && isE c d sc false oe && isE c k sc false ie && isE c m sc false e
    | _ => false
  | .tri i cb ms hs, sc, s => match s with
    | .Try body [.ExceptHandler (some (.Name x _)) (some n) (b₀ :: suite) _] [] [] _ => (!c.hot && decide (c.N[i]? = some n)) && decide (sc.names.lookup n = some .local) && decide (c.cls[cb]? = some x) && glB sc x && nmB x && isSs c ms sc body &&
      (c.kits.all fun q => !decide (q.2.1 = cb)) && (c.xkits.all fun q => !decide (q.2.1 = cb) || decide (q.1 ∈ c.xcs)) && (c.xcs.all fun d => isSs { c with hot := true, exn := some d } hs sc (b₀ :: suite))
    | _ => false
def isSs (c : Ck) : List MS → Scope → List Stmt → Bool
  | [], sc, ss => match ss with
    | [] => true
    | _ => false
  | m :: ms, sc, ss => match m with
    | .fz _ => isSs c ms sc ss
    | m => match ss with
      | s :: ss => isS c m sc s && isSs c ms sc ss
      | _ => false
end
/-- in a def's body -/
structure Cos (c : Ck) (G : Gd) (k : Nat) (X : Cx) (sc : Scope) (Wx : WX) : Prop where
  ok : Cok c G k X sc (fun _ => true)
  tk : L2N.Takes X Wx
  ps : PassesOwn (model X.prog X.w) X.A X.env X.xe
  kd : sc.kind = .function
  stk : X.stack = X.env :: X.outer
  frm : X.env.frame = some X.env.locals
  exc : ∀ (i : Nat) (x : Str), c.cls[i]? = some x → X.mg x = some (.ref (G.ca i)) ∧ PySem.W.excIn X.K (G.ca i) [.type "ValueError", .type "Exception", .type "BaseException", .type "object"] "ValueError.__new__" = true ∧ PySem.W.keepIn X.K (.ref (G.ca i)) = true ∧ Raises X (.ref (G.ca i))
section
theorem asg1 {tg : Expr} {env : PySem.Env} (h : notStar tg = true) : (assignEach [tg] env).map (·.2) = [assign tg env] := by rw [asgE_ok h]; rfl
mutual
theorem snd_S {c : Ck} {G : Gd} {k : Nat} {X : Cx} {sc : Scope} {Wx : WX} (C : Cos c G k X sc Wx) : ∀ (m : MS) (s : Stmt), isS c m sc s = true → PS X s (tS X.K G Wx m)
  | .ex m, s, h => by
    unfold isS at h
    split at h
    · obtain ⟨h1, h2⟩ := bd h
      exact ts_ex (snd_E m c X sc _ Wx false _ C.ok C.tk h2) (comp_ok h1)
    · cases h
  | .as t m, s, h => by
    unfold isS at h
    split at h
    · rename_i tg e pos
      split at h
      · rename_i hc
        obtain ⟨h, h4⟩ := bd h
        obtain ⟨h, h3⟩ := bd h
        obtain ⟨h1, h2⟩ := bd h
        exact ts_as (snd_E m c X sc _ Wx false _ C.ok C.tk h4) (snd_G t X sc _ tg C.ok h3) (comp_ok hc) (swP_ok C.ok.scope C.kd (of_decide_eq_true h2)) (asg1 h1)
      · split at h
        · split at h
          · split at h
            · split at h
              · rename_i i m mu own t it ifs elt tgx y py ex ee tge iter eifs scope p hc
                obtain ⟨h, h5⟩ := bd h
                obtain ⟨h, h4⟩ := bd h
                obtain ⟨h, h3⟩ := bd h
                obtain ⟨h1, h2⟩ := bd h
                obtain ⟨h0, h1⟩ := bd h1
                have h1 := of_decide_eq_true h1
                have h2 := of_decide_eq_true h2
                have h4 := (Bool.not_eq_true' _).mp h4
                have hl : X.env.scope.names.lookup y = some .local := by rw [C.ok.scope]; exact h2
                have h := h5
                unfold isE at h
                obtain ⟨h, g8⟩ := bd h
                obtain ⟨h, g7⟩ := bd h
                obtain ⟨h, g6⟩ := bd h
                obtain ⟨h, g5⟩ := bd h
                obtain ⟨h, g4⟩ := bd h
                obtain ⟨h, g3⟩ := bd h
                obtain ⟨g1, g2⟩ := bd h
                obtain ⟨_, g1⟩ := bd g1
                have ok : BlkOk X.N X.env.scope scope own := by
                  rw [C.ok.N, C.ok.scope]; exact blkOk_by g1
                have ho : ∀ i ∈ tgS t, i ∈ own.map (·.2) := fun i hi => of_decide_eq_true (List.all_eq_true.mp g4 i hi)
                exact ts_asLc (C.ok.calm (hot_ok h0)) C.ok.nd (by rw [C.ok.N]; exact h1) hl (sw_true (by rw [C.ok.scope]; exact C.kd) hl h3 h4) (snd_I it c X sc _ Wx tge iter C.ok C.tk g5) ok
                  (fun s H c2 cl fp => snd_G t _ _ _ _ (C.ok.blk (hot_ok h0) s H scope c2 cl fp) g6) (fun s H c2 cl fp => (snd_Es ifs _ _ _ _ W0 true _ (C.ok.blk (hot_ok h0) s H scope c2 cl fp) takesN g7).tts (of_decide_eq_true g3))
                  (fun s H c2 cl fp => snd_E elt _ _ _ _ W0 false _ (C.ok.blk (hot_ok h0) s H scope c2 cl fp) takesN g8) (set_ok g2) ho
              · cases h
            · cases h
          · cases h
        · cases h
    · cases h
  | .par ids ms, s, h => by
    unfold isS at h
    split at h
    · split at h
      · obtain ⟨h, h8⟩ := bd h
        obtain ⟨h, h7⟩ := bd h
        obtain ⟨h, h6⟩ := bd h
        obtain ⟨h, h5⟩ := bd h
        obtain ⟨h, h4⟩ := bd h
        obtain ⟨h, h3⟩ := bd h
        obtain ⟨h1, h2⟩ := bd h
        obtain ⟨h0, h1⟩ := bd h1
        simp only [decide_eq_true_eq] at h1 h2 h3 h4 h5 h6 h7
        exact ts_par2 (C.ok.calm (hot_ok h0)) C.ok.nd (by rw [C.ok.N]; exact h1) (by rw [C.ok.N]; exact h2) h3 (by rw [C.ok.scope]; exact h4) (by rw [C.ok.scope]; exact h5) (snd_Es ms c X sc _ Wx false _ C.ok C.tk h8).ta h6 (swP_ok C.ok.scope C.kd h7) rfl
      · cases h
    · split at h
      · obtain ⟨h, h12⟩ := bd h
        obtain ⟨h, h11⟩ := bd h
        obtain ⟨h, h10⟩ := bd h
        obtain ⟨h, h9⟩ := bd h
        obtain ⟨h, h8⟩ := bd h
        obtain ⟨h, h7⟩ := bd h
        obtain ⟨h, h6⟩ := bd h
        obtain ⟨h, h5⟩ := bd h
        obtain ⟨h, h4⟩ := bd h
        obtain ⟨h, h3⟩ := bd h
        obtain ⟨h1, h2⟩ := bd h
        obtain ⟨h0, h1⟩ := bd h1
        simp only [decide_eq_true_eq] at h1 h2 h3 h4 h5 h6 h7 h8 h9 h10 h11
        exact ts_par3 (C.ok.calm (hot_ok h0)) C.ok.nd (by rw [C.ok.N]; exact h1) (by rw [C.ok.N]; exact h2) (by rw [C.ok.N]; exact h3) h4 h5 h6 (by rw [C.ok.scope]; exact h7) (by rw [C.ok.scope]; exact h8) (by rw [C.ok.scope]; exact h9)
          (snd_Es ms c X sc _ Wx false _ C.ok C.tk h12).ta h10 (swP_ok C.ok.scope C.kd h11) rfl
      · cases h
    · cases h
  | .iff m a b, s, h => by
    unfold isS at h
    split at h
    · obtain ⟨h, h3⟩ := bd h
      obtain ⟨h1, h2⟩ := bd h
      exact ts_iff (snd_E m c X sc _ Wx true _ C.ok C.tk h1) (snd_Ss C a _ h2) (snd_Ss C b _ h3)
    · cases h
  | .fo t it body, s, h => by
    unfold isS at h
    split at h
    · obtain ⟨h, h4⟩ := bd h
      obtain ⟨h, h3⟩ := bd h
      obtain ⟨h1, h2⟩ := bd h
      obtain ⟨h0, h1⟩ := bd h1
      exact ts_fo C.ps (C.ok.calm (hot_ok h0)) (snd_I it c X sc _ Wx _ _ C.ok C.tk h2) (snd_G t X sc _ _ C.ok h3) (snd_Ss C body _ h4) (set_ok h1)
    · cases h
  | .wh n m body, s, h => by
    unfold isS at h
    split at h
    · obtain ⟨h1, h2⟩ := bd h
      exact ts_wh C.ps (snd_E m c X sc _ Wx true _ C.ok C.tk h1) (snd_Ss C body _ h2)
    · cases h
  | .rt m, s, h => by
    unfold isS at h
    split at h
    · exact ts_rt (snd_E m c X sc _ Wx false _ C.ok C.tk h)
    · cases h
  | .rtN, s, h => by
    unfold isS at h
    split at h
    · exact ts_rtN
    · cases h
  | .rs i, s, h => by
    unfold isS at h
    split at h
    · obtain ⟨h, h3⟩ := bd h
      obtain ⟨h1, h2⟩ := bd h
      obtain ⟨h0, h1⟩ := bd h1
      obtain ⟨e1, e2, e3, e4⟩ := C.exc i _ (of_decide_eq_true h1)
      exact ts_rs (C.ok.calm (hot_ok h0)) C.tk (L2N.pmk_own PySem.F.excBase_ValueError e2 e1 e3 e4 (glB_ok C.ok h2) (nmB_ok h3).1)
    · cases h
  | .app o m, s, h => by
    unfold isS at h
    split at h
    · obtain ⟨h, h6⟩ := bd h
      obtain ⟨h, h5⟩ := bd h
      obtain ⟨h, h4⟩ := bd h
      obtain ⟨h, h3⟩ := bd h
      obtain ⟨h1, h2⟩ := bd h
      have h1 := of_decide_eq_true h1
      subst h1
      exact ts_app (snd_E o c X sc _ Wx false _ C.ok C.tk h5) (snd_E m c X sc _ Wx false _ C.ok C.tk h6) (base_ok h2) h3 (st1 h4) rfl
    · cases h
  | .rem o m, s, h => by
    unfold isS at h
    split at h
    · obtain ⟨h, h6⟩ := bd h
      obtain ⟨h, h5⟩ := bd h
      obtain ⟨h, h4⟩ := bd h
      obtain ⟨h, h3⟩ := bd h
      obtain ⟨h1, h2⟩ := bd h
      have h1 := of_decide_eq_true h1
      subst h1
      exact ts_rem (by have := C.ok.un; omega) (snd_E o c X sc _ Wx false _ C.ok C.tk h5) (snd_E m c X sc _ Wx false _ C.ok C.tk h6) (base_ok h2) h3 (st1 h4) rfl
    · cases h
  | .pop o, s, h => by
    unfold isS at h
    split at h
    · obtain ⟨h, h4⟩ := bd h
      obtain ⟨h, h3⟩ := bd h
      obtain ⟨h1, h2⟩ := bd h
      have h1 := of_decide_eq_true h1
      subst h1
      exact ts_pop (snd_E o c X sc _ Wx false _ C.ok C.tk h4) (base_ok h2) h3 rfl
    · cases h
  | .clr o, s, h => by
    unfold isS at h
    split at h
    · obtain ⟨h, h4⟩ := bd h
      obtain ⟨h, h3⟩ := bd h
      obtain ⟨h1, h2⟩ := bd h
      have h1 := of_decide_eq_true h1
      subst h1
      exact ts_clr (snd_E o c X sc _ Wx false _ C.ok C.tk h4) (base_ok h2) h3 rfl
    · cases h
  | .si o i m, s, h => by
    unfold isS at h
    split at h
    · rename_i oe ie tpos e pos
      obtain ⟨h, h6⟩ := bd h
      obtain ⟨h, h5⟩ := bd h
      obtain ⟨h, h4⟩ := bd h
      obtain ⟨h, h3⟩ := bd h
      obtain ⟨h1, h2⟩ := bd h
      refine ts_si (snd_E o c X sc _ Wx false _ C.ok C.tk h4) (snd_E i c X sc _ Wx false _ C.ok C.tk h5) (snd_E m c X sc _ Wx false _ C.ok C.tk h6) ?_ (comp_ok (t := some (.Subscript oe ie tpos)) (env := X.env) (l := pos.line) h2) (swP_ok C.ok.scope C.kd (of_decide_eq_true h3)) rfl
      intro v
      cases ie with
      | Slice l u s p => cases s with
        | none => cases h1
        | some s => rfl
      | _ => rfl
    · cases h
  | .si2 mo1 mi1 mo2 mi2 m, s, h => by
    unfold isS at h
    split at h
    · rename_i o1 i1 tp1 o2 i2 tp2 kt tp e pos
      obtain ⟨h, h9⟩ := bd h
      obtain ⟨h, h8⟩ := bd h
      obtain ⟨h, h7⟩ := bd h
      obtain ⟨h, h6⟩ := bd h
      obtain ⟨h, h5⟩ := bd h
      obtain ⟨h, h4⟩ := bd h
      obtain ⟨h, h3⟩ := bd h
      obtain ⟨h1, h2⟩ := bd h
      obtain ⟨h0, h1⟩ := bd h1
      have sb : ∀ {o i : Expr} {tp : Pos}, notSlice i = true → ∀ v, assign (.Subscript o i tp) X.env v = (do
          let ov ← holding [v] (eval o X.env)
          let iv ← holding [v, ov] (eval i X.env)
          standAt tp
          holding [v, ov, iv] (setItem ov iv v)
          release [v, ov, iv] []) := by
        intro o i tp hi v
        cases i with
        | Slice l u s p => cases s with
          | none => cases hi
          | some s => rfl
        | _ => rfl
      exact ts_si2 (C.ok.calm (hot_ok h0)) (snd_E mo1 c X sc _ Wx false _ C.ok C.tk h5) (snd_E mi1 c X sc _ Wx false _ C.ok C.tk h6) (snd_E mo2 c X sc _ Wx false _ C.ok C.tk h7) (snd_E mi2 c X sc _ Wx false _ C.ok C.tk h8) (snd_E m c X sc _ Wx false _ C.ok C.tk h9) (sb h1) (sb h2) (comp_ok (t := some (.Tuple [.Subscript o1 i1 tp1, .Subscript o2 i2 tp2] kt tp)) (env := X.env) (l := pos.line) h3) (swP_ok C.ok.scope C.kd (of_decide_eq_true h4))
    · cases h
  | .fz _, s, h => by unfold isS at h; cases h
  | .ps, s, h => by
    unfold isS at h
    split at h
    · exact ts_ps
    · cases h
  | .sfld o f cs m, s, h => by
    unfold isS at h
    split at h
    · rename_i oe x p1 e pos
      obtain ⟨h, h5⟩ := bd h
      obtain ⟨h, h4⟩ := bd h
      obtain ⟨h, h3⟩ := bd h
      obtain ⟨h1, h2⟩ := bd h
      have h1 := of_decide_eq_true h1
      subst h1
      exact ts_sfld (snd_E o c X sc _ Wx false _ C.ok C.tk h4) (snd_E m c X sc _ Wx false _ C.ok C.tk h5) (comp_ok h2) fun i hi => C.ok.flds i _ (of_decide_eq_true (List.all_eq_true.mp h3 i hi))
    · cases h
  | .dput d k m, s, h => by
    unfold isS at h
    split at h
    · obtain ⟨h, h5⟩ := bd h
      obtain ⟨h, h4⟩ := bd h
      obtain ⟨h, h3⟩ := bd h
      obtain ⟨h1, h2⟩ := bd h
      exact ts_dput (by have := C.ok.un; omega) (snd_E d c X sc _ Wx false _ C.ok C.tk h3) (snd_E k c X sc _ Wx false _ C.ok C.tk h4) (snd_E m c X sc _ Wx false _ C.ok C.tk h5) (comp_ok h2)
    · cases h
  | .tri i cb ms hs, s, h => by
    unfold isS at h
    split at h
    · rename_i body x np n b₀ suite p' pos
      obtain ⟨h, h9⟩ := bd h
      obtain ⟨h, h8⟩ := bd h
      obtain ⟨h, h7⟩ := bd h
      obtain ⟨h, h6⟩ := bd h
      obtain ⟨h, h5⟩ := bd h
      obtain ⟨h, h4⟩ := bd h
      obtain ⟨h, h3⟩ := bd h
      obtain ⟨h1, h2⟩ := bd h
      obtain ⟨h0, h1⟩ := bd h1
      have hh := hot_ok h0
      have hln : X.env.kindOf n = some .local := by
        show X.env.scope.names.lookup n = _
        rw [C.ok.scope]; exact of_decide_eq_true h2
      have inx : ∀ d, G.sub d cb = true → (d, cb, true) ∈ c.xkits ∧ d ∈ c.xcs := fun d hd => by
        rw [C.ok.sub] at hd
        unfold Ck.sub at hd
        rw [Bool.or_eq_true, decide_eq_true_eq, decide_eq_true_eq] at hd
        rcases hd with hd | hd
        · have z := List.all_eq_true.mp h7 _ hd
          simp at z
        · have z := List.all_eq_true.mp h8 _ hd
          simp at z
          exact ⟨hd, z⟩
      refine ts_tri C.stk C.frm C.ok.nd (by rw [C.ok.N]; exact of_decide_eq_true h1) hln (C.ok.xa hh) ⟨glB_ok C.ok h4, (nmB_ok h5).1, .inl (C.ok.xmg _ _ (of_decide_eq_true h3))⟩ C.tk (fun d hd => (C.ok.xkits _ _ _ (inx d hd).1).2 rfl) (fun W pn xe tk ps => ?_) fun a oe d pn hcb hz hf => ?_
      · have C1 : Cos c G k (X.tr pn xe) sc W := ⟨⟨C.ok.scope, C.ok.N, C.ok.nd, C.ok.calm, C.ok.room, C.ok.un, C.ok.xa, fun z => (by rw [hh] at z; cases z), C.ok.xcs, C.ok.xkits, C.ok.xmg, C.ok.fn, C.ok.consts, C.ok.free, C.ok.defs, C.ok.own, C.ok.flds, C.ok.kits, C.ok.bare, C.ok.sub, C.ok.lb, C.ok.lamT, C.ok.lamF, C.ok.lamK, fun h' t q e => (let z := C.ok.tab h' t q e; ⟨z.fn, z.stk, z.frm, z.cells, z.qual, z.code⟩), C.ok.meths⟩, tk, ps, C.kd, C.stk, C.frm, C.exc⟩
        exact snd_Ss C1 ms body h6
      · have hd : d ∈ c.xcs := (inx d hcb).2
        · have C1 : Cos { c with hot := true, exn := some d } (G.exn (some (a, d))) k (X.suite a ((a, oe) :: pn)) sc W0 := ⟨⟨C.ok.scope, C.ok.N, C.ok.nd, fun z => (by cases z), fun z => (by cases z), C.ok.un, fun z => (by cases z), fun _ => ⟨d, rfl, X, a, oe, pn, rfl, rfl, hz, hf⟩, C.ok.xcs, C.ok.xkits, C.ok.xmg, C.ok.fn, C.ok.consts, C.ok.free, fun z => (by cases z), C.ok.own, C.ok.flds, C.ok.kits, C.ok.bare, C.ok.sub, C.ok.lb, C.ok.lamT, C.ok.lamF, fun z => (by cases z), fun z => (by cases z), fun z => (by cases z)⟩, takesN, PassesOwn.never, C.kd, C.stk, C.frm, C.exc⟩
          exact snd_Ss C1 hs (b₀ :: suite) (List.all_eq_true.mp h9 d hd)
    · cases h
theorem snd_Ss {c : Ck} {G : Gd} {k : Nat} {X : Cx} {sc : Scope} {Wx : WX} (C : Cos c G k X sc Wx) : ∀ (ms : List MS) (ss : List Stmt), isSs c ms sc ss = true → PSs X ss (tSs X.K G Wx ms)
  | [], ss, h => by
    unfold isSs at h
    split at h
    · exact tss_nil
    · cases h
  | m :: ms, ss, h => by
    unfold isSs at h
    split at h
    · exact tss_fz (snd_Ss C ms ss h)
    · split at h
      · obtain ⟨h1, h2⟩ := bd h
        exact tss_cons (snd_S C m _ h1) (snd_Ss C ms _ h2)
      · cases h
end
end
end Mi

set_option Elab.async false
set_option linter.all false
set_option maxRecDepth 100000
set_option maxHeartbeats 1000000
/-! Mini Python: a head's facts, own classes' isinstance among them. -/
namespace MiX
open PySem PySem.Spec PyProof.Rows L2 He
/-- isinstance of an instance of the class x -/
def insB (K : PySem.W.Frag) (x : Str) : Bool := (Fa.cls x).ok K && (eqO (PySem.W.findIn K (.ref (ga K x)) "__class__") (some (some (.builtin "object.__class__"))) && (eqO (PySem.W.specialIn K (.builtin "object.__class__") "__get__") (some (some (.builtin "getset_descriptor.__get__"))) &&
  (decide (PySem.W.takesIn K (.builtin "object.__class__") = some true) && decide (PySem.W.mroIn K (ga K x) (.type "object") = some true))))
def kitF (K : PySem.W.Frag) (q : Str × Str × Bool) : Bool := decide (PySem.W.kitOne K (.ref (ga K q.1)) (.ref (ga K q.2.1)) = some q.2.2)
/-- the class x is made by object's __init__ -/
def bareB (K : PySem.W.Frag) (x : Str) : Bool := decide (PySem.W.makesIn K (ga K x) = true) && (eqO (PySem.W.findIn K (.ref (ga K x)) "__init__") (some (some (.builtin "object.__init__"))) && decide (PySem.W.keepIn K (.ref (ga K x)) = true))
/-- the class x as the class of a caught exception -/
def xcB (K : PySem.W.Frag) (x : Str) : Bool := eqO (PySem.W.findIn K (.ref (ga K x)) "__getattribute__") (some (some (.builtin "BaseException.__getattribute__"))) && (eqO (PySem.W.findIn K (.ref (ga K x)) "__getattr__") (some none) && (decide (PySem.W.subIn K (.ref (ga K x)) (.type "BaseException") = some true) &&
  (decide (PySem.W.hasDictIn K (ga K x) = true) && (eqO (PySem.W.findIn K (.ref (ga K x)) "__class__") (some (some (.builtin "object.__class__"))) && (eqO (PySem.W.specialIn K (.builtin "object.__class__") "__get__") (some (some (.builtin "getset_descriptor.__get__"))) &&
  (decide (PySem.W.takesIn K (.builtin "object.__class__") = some true) && (decide (PySem.W.mroIn K (ga K x) (.type "object") = some true) && decide (PySem.W.kitOne K (.ref (ga K x)) (.type "ValueError") = some true))))))))
def xkB (K : PySem.W.Frag) (x y : Str) (b : Bool) : Bool := decide (PySem.W.kitOne K (.ref (ga K x)) (.ref (ga K y)) = some b) && (!b || decide (PySem.W.exmOne K (.ref (ga K x)) (.ref (ga K y)) = some true))
/-- one more fact of a head -/
inductive Fx where
  | ins (x : Str) | kit (x y : Str) (b : Bool) | bare (x : Str) | xc (x : Str) | xk (x y : Str) (b : Bool)
def Fx.ok (K : PySem.W.Frag) : Fx → Bool
  | .ins x => insB K x
  | .kit x y b => kitF K (x, y, b)
  | .bare x => bareB K x
  | .xc x => xcB K x
  | .xk x y b => xkB K x y b
def obsM (fa : List Fa) (fx : List Fx) (fn : List DefD) (K : PySem.W.Frag) : AlD := ((fa.all fun f => f.ok K) && ((fx.all fun f => f.ok K) && fn.all fun d => d.ok K), fn.map fun d => fnW K d.at_)
def SaysM (fa : List Fa) (fx : List Fx) (fn : List DefD) (K : PySem.W.Frag) : Prop := obsM fa fx fn K = valD fn
/-! the objects that a head's facts look at: level by level, each once (a bit for each), all laid bare as it goes -/
def addK {α : Type} : List Addr → Nat → List Addr → (Nat → List Addr → α) → α
  | [], m, new, k => k m new
  | r :: rs, m, new, k => HandSHeadRun.frNat r fun r => match Nat.beq (Nat.mod (Nat.shiftRight m r) 2) 1 with
    | true => addK rs m new k
    | false => HandSHeadRun.frNat (Nat.lor m (Nat.shiftLeft 1 r)) fun m => addK rs m (r :: new) k
def refsK {α : Type} (g : Addr → Option Obj) : List Addr → Nat → List Addr → (Nat → List Addr → α) → α
  | [], m, new, k => k m new
  | a :: as, m, new, k => match g a with
    | some o => addK (refsD o) m new fun m new => refsK g as m new k
    | none => refsK g as m new k
def appK {α : Type} : List Addr → List Addr → (List Addr → α) → α
  | [], b, k => k b
  | a :: as, b, k => appK as (a :: b) k
def bfsK {α : Type} (g : Addr → Option Obj) : Nat → Nat → List Addr → List Addr → (List Addr → α) → α
  | 0, _, _, all, k => appK all [] k
  | n + 1, m, fr, all, k => refsK g fr m [] fun m new => appK new [] fun new => appK new all fun all => bfsK g n m new all k
def objK {α : Type} (g : Addr → Option Obj) : List Addr → (PySem.W.Frag → α) → α
  | [], k => k []
  | a :: as, k => match g a with
    | some ⟨c, d, dt, sl⟩ => objK g as fun K => k ((a, ⟨c, d, dt, sl⟩) :: K)
    | none => objK g as k
theorem addK_eq {α : Type} : ∀ (rs : List Addr) (m : Nat) (new : List Addr), ∃ m' new', ∀ k : Nat → List Addr → α, addK rs m new k = k m' new'
  | [], m, new => ⟨m, new, fun _ => rfl⟩
  | r :: rs, m, new => by
    cases e : Nat.beq (Nat.mod (Nat.shiftRight m r) 2) 1 with
    | true =>
      obtain ⟨m', new', h⟩ := addK_eq (α := α) rs m new
      refine ⟨m', new', fun k => ?_⟩
      unfold addK
      rw [HandSHeadRun.frNat_eq]
      simp only [e]
      exact h k
    | false =>
      obtain ⟨m', new', h⟩ := addK_eq (α := α) rs (Nat.lor m (Nat.shiftLeft 1 r)) (r :: new)
      refine ⟨m', new', fun k => ?_⟩
      unfold addK
      rw [HandSHeadRun.frNat_eq]
      simp only [e]
      rw [HandSHeadRun.frNat_eq]
      exact h k
theorem refsK_eq {α : Type} (g : Addr → Option Obj) : ∀ (as : List Addr) (m : Nat) (new : List Addr), ∃ m' new', ∀ k : Nat → List Addr → α, refsK g as m new k = k m' new'
  | [], m, new => ⟨m, new, fun _ => rfl⟩
  | a :: as, m, new => by
    cases e : g a with
    | none =>
      obtain ⟨m', new', h⟩ := refsK_eq (α := α) g as m new
      refine ⟨m', new', fun k => ?_⟩
      unfold refsK
      simp only [e]
      exact h k
    | some o =>
      obtain ⟨m1, n1, h1⟩ := addK_eq (α := α) (refsD o) m new
      obtain ⟨m', new', h⟩ := refsK_eq (α := α) g as m1 n1
      refine ⟨m', new', fun k => ?_⟩
      unfold refsK
      simp only [e]
      rw [h1]
      exact h k
theorem appK_eq {α : Type} : ∀ (as b : List Addr), ∃ c, ∀ k : List Addr → α, appK as b k = k c
  | [], b => ⟨b, fun _ => rfl⟩
  | a :: as, b => by
    obtain ⟨c, h⟩ := appK_eq (α := α) as (a :: b)
    exact ⟨c, fun k => h k⟩
theorem bfsK_eq {α : Type} (g : Addr → Option Obj) : ∀ (n m : Nat) (fr all : List Addr), ∃ as, ∀ k : List Addr → α, bfsK g n m fr all k = k as
  | 0, m, fr, all => appK_eq all []
  | n + 1, m, fr, all => by
    obtain ⟨m1, n1, h1⟩ := refsK_eq (α := α) g fr m []
    obtain ⟨n2, h2⟩ := appK_eq (α := α) n1 []
    obtain ⟨n3, h3⟩ := appK_eq (α := α) n2 all
    obtain ⟨as, h⟩ := bfsK_eq (α := α) g n m1 n2 n3
    refine ⟨as, fun k => ?_⟩
    unfold bfsK
    rw [h1, h2, h3]
    exact h k
theorem objK_eq {α : Type} (g : Addr → Option Obj) : ∀ (as : List Addr) (k : PySem.W.Frag → α), objK g as k = k (frG g as)
  | [], k => rfl
  | a :: as, k => by
    unfold objK frG
    rw [List.filterMap_cons]
    cases e : g a with
    | none =>
      exact objK_eq g as k
    | some o =>
      obtain ⟨c, d, dt, sl⟩ := o
      exact objK_eq g as _
def obsMG (n : Nat) (fa : List Fa) (fx : List Fx) (fn : List DefD) (g : Addr → Option Obj) : AlD := bfsK g n (Nat.shiftLeft 1 mainGlobals) [mainGlobals] [mainGlobals] fun as => objK g as fun K => obsM fa fx fn K
theorem obsMG_ex (n : Nat) (fa : List Fa) (fx : List Fx) (fn : List DefD) (g : Addr → Option Obj) : ∃ as, obsMG n fa fx fn g = obsM fa fx fn (frG g as) := by
  obtain ⟨as, h⟩ := bfsK_eq (α := AlD) g n (Nat.shiftLeft 1 mainGlobals) [mainGlobals] [mainGlobals]
  refine ⟨as, ?_⟩
  unfold obsMG
  rw [h, objK_eq]
def hookM (n : Nat) (fa : List Fa) (fx : List Fx) (fn : List DefD) : PySem.W.Hook where
  α := AlD
  obs := fun s => obsMG n fa fx fn s.heap.get?
  val := fun _ => valD fn
  says := fun _ h => ∃ K : PySem.W.Frag, K.In h ∧ SaysM fa fx fn K
  of := fun _ s e => by
    obtain ⟨as, h⟩ := obsMG_ex n fa fx fn s.heap.get?
    exact ⟨frG s.heap.get? as, frG_in, h.symm.trans e⟩
  keeps := fun _ _ _ ⟨K, hK, c⟩ k => ⟨K, PySem.W.Frag.In.keeps hK k, c⟩
theorem obsMG_eq {n : Nat} {fa : List Fa} {fx : List Fx} {fn : List DefD} {g : Addr → Option Obj} {s : Shared} (h : ∀ a, g a = s.heap.get? a) : obsMG n fa fx fn g = (hookM n fa fx fn).obs s := by
  have e : g = s.heap.get? := funext h
  rw [e] <;> rfl
/-! ### empty tables of code objects are left out -/
def objT {α : Type} (g : Addr → Option Obj) : List Addr → (PySem.W.Frag → α) → α
  | [], k => k []
  | a :: as, k => match g a with
    | some ⟨c, d, dt, sl⟩ => match emptyTab ⟨c, d, dt, sl⟩ with
      | true => objT g as k
      | false => objT g as fun K => k ((a, ⟨c, d, dt, sl⟩) :: K)
    | none => objT g as k
theorem objT_eq {α : Type} (g : Addr → Option Obj) : ∀ (as : List Addr) (k : PySem.W.Frag → α), objT g as k = k (frT g as)
  | [], k => rfl
  | a :: as, k => by
    unfold objT frT frG
    rw [List.filterMap_cons]
    cases e : g a with
    | none => exact objT_eq g as k
    | some o =>
      obtain ⟨c, d, dt, sl⟩ := o
      cases q : emptyTab ⟨c, d, dt, sl⟩ with
      | true =>
        simp only [Option.map_some, q]
        rw [List.filter_cons_of_neg (by simp [q])]
        exact objT_eq g as k
      | false =>
        simp only [Option.map_some, q]
        rw [List.filter_cons_of_pos (by simp [q])]
        exact objT_eq g as _
/-- what is told of the defs' tables -/
structure TabsOk (tf : List Defn) (h : Heap) (K : PySem.W.Frag) : Prop where
  hd : ∀ p ∈ tf, PySem.W.codeHdIn K (cT K p).1 (cT K p).2 = true
  no : ∀ p ∈ tf, K.lookup (cT K p).2 = none
  em : ∀ p ∈ tf, h.get? (cT K p).2 = some { cls := .none, data := .fields #[] }
  nd : (tf.map fun p => (cT K p).2).Nodup
def tabsT (g : Addr → Option Obj) (tf : List Defn) (K : PySem.W.Frag) : Bool := tabsB g tf K && decide ((tf.map fun p => (cT K p).2).Nodup)
theorem tabsT_ok {tf : List Defn} {h : Heap} {as : List Addr} (e : tabsT h.get? tf (frT h.get? as) = true) : TabsOk tf h (frT h.get? as) := by
  obtain ⟨h1, h2⟩ := ba e
  have each : ∀ p ∈ tf, PySem.W.codeHdIn (frT h.get? as) (cT (frT h.get? as) p).1 (cT (frT h.get? as) p).2 = true ∧ ∃ o, h.get? (cT (frT h.get? as) p).2 = some o ∧ emptyTab o = true := fun p hp => by
    obtain ⟨a1, a2⟩ := ba (List.all_eq_true.mp h1 p hp)
    cases q : h.get? (cT (frT h.get? as) p).2 with
    | none => rw [q] at a2; cases a2
    | some o => rw [q] at a2; exact ⟨a1, o, rfl, a2⟩
  refine ⟨fun p hp => (each p hp).1, fun p hp => ?_, fun p hp => ?_, of_decide_eq_true h2⟩
  · obtain ⟨_, o, q1, q2⟩ := each p hp
    exact frT_none q1 q2
  · obtain ⟨_, o, q1, q2⟩ := each p hp
    rw [q1, emptyTab_eq q2]
def obsTG (n : Nat) (fa : List Fa) (fx : List Fx) (fn : List DefD) (tf : List Defn) (g : Addr → Option Obj) : AlD × Bool := bfsK g n (Nat.shiftLeft 1 mainGlobals) [mainGlobals] [mainGlobals] fun as => objT g as fun K => (obsM fa fx fn K, tabsT g tf K)
theorem obsTG_ex (n : Nat) (fa : List Fa) (fx : List Fx) (fn : List DefD) (tf : List Defn) (g : Addr → Option Obj) : ∃ as, obsTG n fa fx fn tf g = (obsM fa fx fn (frT g as), tabsT g tf (frT g as)) := by
  obtain ⟨as, h⟩ := bfsK_eq (α := AlD × Bool) g n (Nat.shiftLeft 1 mainGlobals) [mainGlobals] [mainGlobals]
  refine ⟨as, ?_⟩
  unfold obsTG
  rw [h, objT_eq]
def hookT (n : Nat) (fa : List Fa) (fx : List Fx) (fn : List DefD) (tf : List Defn) : PySem.W.Hook where
  α := AlD × Bool
  obs := fun s => obsTG n fa fx fn tf s.heap.get?
  val := fun _ => (valD fn, true)
  says := fun _ h => ∃ K : PySem.W.Frag, K.In h ∧ SaysM fa fx fn K ∧ TabsOk tf h K
  of := fun _ s e => by
    obtain ⟨as, h⟩ := obsTG_ex n fa fx fn tf s.heap.get?
    have e2 := h.symm.trans e
    exact ⟨frT s.heap.get? as, frT_in, congrArg (fun z : AlD × Bool => z.1) e2, tabsT_ok (congrArg (fun z : AlD × Bool => z.2) e2)⟩
  keeps := fun _ _ _ ⟨K, hK, c, t⟩ k => ⟨K, PySem.W.Frag.In.keeps hK k, c, t.hd, t.no, fun p hp => k _ _ (t.em p hp), t.nd⟩
theorem obsTG_eq {n : Nat} {fa : List Fa} {fx : List Fx} {fn : List DefD} {tf : List Defn} {g : Addr → Option Obj} {s : Shared} (h : ∀ a, g a = s.heap.get? a) : obsTG n fa fx fn tf g = (hookT n fa fx fn tf).obs s := by
  have e : g = s.heap.get? := funext h
  rw [e] <;> rfl
section
variable {fa : List Fa} {fx : List Fx} {fn : List DefD} {K : PySem.W.Frag}
theorem SaysM.base (c : SaysM fa fx fn K) : SaysD fa fn K := by
  have h1 : ((fa.all fun f => f.ok K) && ((fx.all fun f => f.ok K) && fn.all fun d => d.ok K)) = true := congrArg (fun z : AlD => z.1) c
  have h2 : fn.map (fun d => fnW K d.at_) = fn.map DefD.val := congrArg (fun z : AlD => z.2) c
  obtain ⟨a1, a2⟩ := ba h1
  obtain ⟨a3, a4⟩ := ba a2
  show ((fa.all fun f => f.ok K) && fn.all fun d => d.ok K, fn.map fun d => fnW K d.at_) = (true, fn.map DefD.val)
  rw [a1, a4, h2]
  rfl
theorem SaysM.more (c : SaysM fa fx fn K) {f : Fx} (h : f ∈ fx) : f.ok K = true := by
  have h1 : ((fa.all fun f => f.ok K) && ((fx.all fun f => f.ok K) && fn.all fun d => d.ok K)) = true := congrArg (fun z : AlD => z.1) c
  obtain ⟨a1, a2⟩ := ba h1
  exact List.all_eq_true.mp (ba a2).1 f h
end
end MiX

set_option Elab.async false
set_option linter.all false
set_option maxRecDepth 100000
set_option maxHeartbeats 4000000
/-! Mini Python: defs, the whole. -/
namespace Mi
open PySem PySem.Spec PyProof.Rows L2
/-- a whole program: its mini defs (its lambdas last), its exception classes, its numbers, its free names -/
structure Prg where
  T : List Df
  cls : List Str
  consts : List (Str × Int)
  free : List Str
  own : List Str := []
  flds : List (Nat × Str) := []
  kits : List (Nat × Nat × Bool) := []
  bare : List Nat := []
  xcs : List Nat := []
  xkits : List (Nat × Nat × Bool) := []
  tabs : List Nat := []
abbrev Prg.ckL (p : Prg) (N : List Str) : Ck := { T := p.T, cls := p.cls, consts := p.consts, free := p.free, own := p.own, flds := p.flds, kits := p.kits, bare := p.bare, N := N, xcs := p.xcs, xkits := p.xkits }
/-- a lambda's parameters: none, one -/
def parB : List Str → Arguments → Bool
  | [], ⟨[], [], none, [], [], none, []⟩ => true
  | [x], ⟨[], [⟨y, none, _⟩], none, [], [], none, []⟩ => decide (x = y)
  | _, _ => false
/-- a lambda's text is what its mini text tells -/
def Prg.lamD (p : Prg) (d : Df) (params : Arguments) (body : Expr) (scope : Scope) : Bool := match d.cap with
  | some n => decide (n ≤ d.np) && decide (d.N.length = d.np) && (!d.mkr) && parB d.ps params && NdefX.nscB (d.ps ++ d.fr) d.ps d.fr scope && (match d.body with
    | [.rt m] => isE (p.ckL d.N) m scope false body
    | _ => false)
  | none => false
def Prg.lamB (p : Prg) (i : Nat) (params : Arguments) (body : Expr) (scope : Scope) : Bool := match p.T[i]? with
  | some d => p.lamD d params body scope
  | none => false
def Prg.lamI (p : Prg) (i : Nat) : LamI := match p.T[i]? with
  | some d => ⟨d.ps, d.fr, fun params body scope => p.lamD d params body scope = true⟩
  | none => ⟨[], [], fun _ _ _ => False⟩
def idx (i : Nat) : List Nat → Option Nat
  | [] => none
  | j :: r => if i = j then some 0 else (idx i r).map (· + 1)
theorem idx_ok {i : Nat} : ∀ {l : List Nat} {t : Nat}, idx i l = some t → l[t]? = some i
  | [], t, h => by cases h
  | j :: r, t, h => by
    unfold idx at h
    split at h
    · rename_i e
      cases h
      rw [e]
      rfl
    · cases q : idx i r with
      | none => rw [q] at h; cases h
      | some u =>
        rw [q] at h
        cases h
        show r[u]? = some i
        exact idx_ok q
abbrev Prg.ck (p : Prg) (i : Nat) (d : Df) : Ck := { p.ckL d.N with lb := p.lamB, tab := if d.mkr = true then (idx i p.tabs).map fun t => (t, d.qual ++ ".<locals>." ++ "<lambda>") else none }
def Prg.sub (p : Prg) (d i : Nat) : Bool := decide ((d, i, true) ∈ p.kits) || decide ((d, i, true) ∈ p.xkits)
def Prg.nm (p : Prg) (i : Nat) : Option Str := (p.cls ++ p.own)[i]?
def fsB (N P : List Str) (sc : Scope) : Bool :=
  decide (sc.kind = .function) && (sc.isCoroutine == false) && (sc.isGenerator == false) && decide N.Nodup && decide (N.take P.length = P) && (P.all fun x => decide (sc.names.lookup x = some .local) || decide (sc.names.lookup x = some .cell)) && sc.names.all fun y => decide (y.2 ≠ .free)
theorem fsB_ok {N P : List Str} {sc : Scope} (h : fsB N P sc = true) : FnScope N P sc := by
  unfold fsB at h
  simp only [Bool.and_eq_true, List.all_eq_true, decide_eq_true_eq, beq_iff_eq, Bool.or_eq_true] at h
  obtain ⟨⟨⟨⟨⟨⟨h1, h2⟩, h3⟩, h4⟩, h5⟩, h6⟩, h7⟩ := h
  exact ⟨h1, h2, h3, h4, h5, h6, h7⟩
/-- one def's mini text stands for its text -/
def defB (p : Prg) (i : Nat) (d : Df) (h : He.DefD) : Bool :=
  decide (h.at_ = d.at_) && decide (h.dfl = []) && decide (d.np ≤ d.N.length) && decide (h.qual = d.qual) && fsB d.N (d.N.take d.np) h.scope && isSs (p.ck i d) d.body h.scope h.body
def caOf (p : Prg) (K : PySem.W.Frag) (i : Nat) : Addr := He.ga K ((p.cls ++ p.own).getD i "")
/-- where a def's table stands -/
def tabA (p : Prg) (K : PySem.W.Frag) (i : Nat) : Addr × Addr := match p.T[i]? with
  | some d => He.cT K d.at_
  | none => (0, 0)
abbrev lamAt : Str × Option Str := ("", some "<lambda>")
structure WorldOk (p : Prg) (fn : List He.DefD) (P : Program) (w : World) (K : PySem.W.Frag) (mg : Str → Option Value) (base : Heap) : Prop where
  chk : ∀ (i : Nat) (d : Df), p.T[i]? = some d → (∃ h : He.DefD, fn[i]? = some h ∧ defB p i d h = true) ∨ d.at_ = lamAt
  nmN : ∀ i : Nat, (p.cls ++ p.own)[i]? ≠ some ""
  fd : ∀ (i : Nat) (h : He.DefD), fn[i]? = some h → h.dfl = [] → ∃ fd, FunD K h.name h.qual h.params h.body h.scope [] (h.kws K) (He.fAd K h.at_) fd
  bind : ∀ (i : Nat) (h : He.DefD) (d : Df) (fd : FuncData), fn[i]? = some h → p.T[i]? = some d → FunD K h.name h.qual h.params h.body h.scope [] (h.kws K) (He.fAd K h.at_) fd → Binds K fd (d.N.take d.np) []
  glo : ∀ (i : Nat) (d : Df), p.T[i]? = some d → d.at_.2 = none → mg d.at_.1 = some (.ref (He.fAd K d.at_))
  consts : ∀ (x : Str) (i : Int), (x, i) ∈ p.consts → ∃ t, mg x = some (.int i t)
  free : ∀ x ∈ p.free, mg x = none
  exc : ∀ (i : Nat) (x : Str), p.cls[i]? = some x → mg x = some (.ref (He.ga K x)) ∧ PySem.W.excIn K (He.ga K x) [.type "ValueError", .type "Exception", .type "BaseException", .type "object"] "ValueError.__new__" = true ∧ PySem.W.keepIn K (.ref (He.ga K x)) = true ∧
    PySem.W.subIn K (.ref (He.ga K x)) (.type "BaseException") = some true ∧ PySem.W.typeIn K (.ref (He.ga K x)) = some (.type "type")
  xcs : ∀ d ∈ p.xcs, ExcC K (caOf p K d) ∧ PySem.W.kitOne K (.ref (caOf p K d)) (.type "ValueError") = some true
  xkits : ∀ (d i : Nat) (b : Bool), (d, i, b) ∈ p.xkits → PySem.W.kitOne K (.ref (caOf p K d)) (.ref (caOf p K i)) = some b ∧ (b = true → PySem.W.exmOne K (.ref (caOf p K d)) (.ref (caOf p K i)) = some true)
  own : ∀ x ∈ p.own, mg x = some (.ref (He.ga K x)) ∧ Cls K (He.ga K x)
  flds : ∀ (i : Nat) (f : Str), (i, f) ∈ p.flds → Cls K (caOf p K i) ∧ NoAttr K (caOf p K i) f
  kits : ∀ (d i : Nat) (b : Bool), (d, i, b) ∈ p.kits → InsF K (caOf p K d) ∧ PySem.W.kitOne K (.ref (caOf p K d)) (.ref (caOf p K i)) = some b
  bare : ∀ i ∈ p.bare, Bare K (caOf p K i)
  meths : ∀ (f : Nat) (d : Df) (x m : Str), p.T[f]? = some d → d.at_ = (x, some m) → x ∈ p.own → (m = "__init__" → Mk K (He.ga K x) (He.fAd K d.at_)) ∧ (m ≠ "__init__" → Meth K (He.ga K x) m (He.fAd K d.at_))
  tab : ∀ i ∈ p.tabs, LamX.TabB base mg (tabA p K i).1 (tabA p K i).2
noncomputable def Prg.G (p : Prg) (K : PySem.W.Frag) (x : Ux) (k : Nat) : Gd := ⟨⟨caOf p K, x⟩, phi p.T (fun _ => none) p.sub k, p.sub⟩
/-- the words of a frame of this program -/
structure UxOk (p : Prg) (K : PySem.W.Frag) (x : Ux) : Prop where
  xa : x.xa = none
  lam : x.lam = p.lamI
  tabs : x.tabs = p.tabs.map fun i => (tabA p K i).2
theorem caOf_own {p : Prg} {K : PySem.W.Frag} {i : Nat} {x : Str} (h : (p.cls ++ p.own)[i]? = some x) : caOf p K i = He.ga K x := by
  unfold caOf
  rw [List.getD_eq_getElem?_getD, h]
  rfl
theorem startE_re {K : PySem.W.Frag} {d : Df} {S : S4} : ∀ {vs : List V} {ws : List W}, RwsS K S vs ws → vs.length ≤ d.N.length → Re K S (L2.start d.N vs) (startE d ws) := fun {vs ws} r hl => by
  have e : vs.length = ws.length := r.length
  refine ⟨?_, fun i w h => ?_⟩
  · unfold L2.start startE
    simp only [List.length_append, List.length_map, List.length_replicate]
    omega
  · unfold startE at h
    by_cases hi : i < ws.length
    · rw [List.getElem?_append_left (by rw [List.length_map]; exact hi), List.getElem?_map] at h
      cases q : ws[i]? with
      | none => rw [q] at h; cases h
      | some w2 =>
        rw [q] at h
        cases h
        obtain ⟨v, e1, e2⟩ := r.get q
        refine ⟨v, ?_, e2⟩
        unfold L2.start
        rw [List.getElem?_append_left (by rw [List.length_map, e]; exact hi), List.getElem?_map, e1]
        rfl
    · rw [List.getElem?_append_right (by rw [List.length_map]; omega), List.getElem?_replicate] at h
      split at h <;> cases h
theorem bind1 (x : Str) (ps : Pos) (name q : Str) (body : Expr) (scope : Scope) (cl : List (Str × Addr)) (pm cdv ct u : Value) : bindArgs (PySem.W.kla_fn name q ⟨[], [⟨x, none, ps⟩], none, [], [], none, []⟩ body scope cl pm cdv ct) ⟨[u], []⟩ = pure ([x].zip [u]) := by
  have e : ([(x, u)] : List (Str × Value)).lookup x = some u := by
    rw [List.lookup_cons]
    simp
  have e1 : ([x].filter fun n => (([(x, u)] : List (Str × Value)).lookup n).isNone) = [] := by
    rw [List.filter_cons, e]
    rfl
  have e2 : ([x].filterMap fun n => (([(x, u)] : List (Str × Value)).lookup n).map (n, ·)) = [(x, u)] := by
    rw [List.filterMap_cons, e]
    rfl
  unfold bindArgs
  simp only [PySem.W.kla_fn, List.map_cons, List.map_nil, List.nil_append, List.zip_cons_cons, List.zip_nil_right, List.length_cons, List.length_nil, e1, e2, List.append_nil, List.take, Nat.sub_zero, List.forIn_nil, pure_bind]
  first
    | rfl
    | (simp [e, e1, e2, seqItems?]; rfl)
/-! ### what is promised, so many calls deep -/
def DefsOk (p : Prg) (fn : List He.DefD) (P : Program) (w : World) (K : PySem.W.Frag) (mg : Str → Option Value) (base : Heap) (ux : Ux) (k : Nat) : Prop :=
  ∀ (i : Nat) (d : Df) (h : He.DefD) (fd : FuncData), p.T[i]? = some d → fn[i]? = some h → defB p i d h = true → FunD K h.name h.qual h.params h.body h.scope [] (h.kws K) (He.fAd K h.at_) fd →
    PySem.W.keepIn K (.ref (He.fAd K d.at_)) = true ∧ Binds K fd (d.N.take d.np) [] ∧ FnOk P w K mg base (L2N.CX P w) (2 * k) (He.fAd K d.at_) fd (d.N.take d.np) (spF K (p.G K ux k) ((p.G K ux k).Φ i) d.np)
def LamsOk (p : Prg) (P : Program) (w : World) (K : PySem.W.Frag) (mg : Str → Option Value) (base : Heap) (ux : Ux) (k : Nat) : Prop :=
  ∀ (i : Nat) (params : Arguments) (body : Expr) (scope : Scope), (p.lamI i).P params body scope → LOk P w K mg base (2 * k) (p.G K ux k) i
section
variable {p : Prg} {fn : List He.DefD} {P : Program} {w : World} {K : PySem.W.Frag} {mg : Str → Option Value} {base : Heap} {ux : Ux} {k : Nat}
theorem par_ok {ps : List Str} {params : Arguments} (h : parB ps params = true) : (∀ (name q : Str) (body : Expr) (scope : Scope) (cl : List (Str × Addr)) (pm cdv ct : Value) (us : List Value), us.length = ps.length → bindArgs (PySem.W.kla_fn name q params body scope cl pm cdv ct) ⟨us, []⟩ = pure (ps.zip us)) ∧ ∀ env, defaultsOf params env = ([], []) := by
  unfold parB at h
  split at h
  · refine ⟨fun name q body scope cl pm cdv ct us hl => ?_, fun env => rfl⟩
    match us, hl with
    | [], _ => rfl
  · have h := of_decide_eq_true h
    subst h
    refine ⟨fun name q body scope cl pm cdv ct us hl => ?_, fun env => rfl⟩
    match us, hl with
    | [_], _ => exact bind1 _ _ _ _ _ _ _ _ _ _ _
  · cases h
theorem lamI_of {i : Nat} {d : Df} (h : p.T[i]? = some d) : p.lamI i = ⟨d.ps, d.fr, fun params body scope => p.lamD d params body scope = true⟩ := by
  unfold Prg.lamI
  rw [h]
theorem lamI_P {i : Nat} {params : Arguments} {body : Expr} {scope : Scope} (h : (p.lamI i).P params body scope) : ∃ d n m, p.T[i]? = some d ∧ d.cap = some n ∧ n ≤ d.np ∧ d.N.length = d.np ∧ d.mkr = false ∧ parB d.ps params = true ∧ NdefX.NScope (d.ps ++ d.fr) d.ps d.fr scope ∧ d.body = [.rt m] ∧ isE (p.ckL d.N) m scope false body = true := by
  cases q : p.T[i]? with
  | none =>
    unfold Prg.lamI at h
    rw [q] at h
    exact False.elim h
  | some d =>
    rw [lamI_of q] at h
    have h : p.lamD d params body scope = true := h
    unfold Prg.lamD at h
    cases qc : d.cap with
    | none => rw [qc] at h; cases h
    | some n =>
      rw [qc] at h
      simp only [] at h
      obtain ⟨h, h6⟩ := bd h
      obtain ⟨h, h5⟩ := bd h
      obtain ⟨h, h4⟩ := bd h
      obtain ⟨h, h3⟩ := bd h
      obtain ⟨h1, h2⟩ := bd h
      split at h6
      · rename_i m qb
        exact ⟨d, n, m, rfl, qc, of_decide_eq_true h1, of_decide_eq_true h2, hot_ok h3, h4, NdefX.nscope_by h5, qb, h6⟩
      · cases h6
theorem N_split {d : Df} {n : Nat} (hc : d.cap = some n) : d.ps ++ d.fr = d.N := by
  unfold Df.ps Df.fr
  rw [hc]
  exact List.take_append_drop _ _
theorem lamT_of {i : Nat} {params : Arguments} {body : Expr} {scope : Scope} (h : (p.lamI i).P params body scope) : LamT (p.lamI i) params scope := by
  obtain ⟨d, n, m, h1, h2, h3, h4, hm, h5, h6, h7, h8⟩ := lamI_P h
  rw [lamI_of h1]
  obtain ⟨b1, b2⟩ := par_ok h5
  exact ⟨fun name q body cl pm cdv ct us hl => b1 name q body scope cl pm cdv ct us hl, b2, h6⟩
/-- a block of this program -/
theorem cok_of (Y : WorldOk p fn P w K mg base) (hu : UxOk p K ux) (D : DefsOk p fn P w K mg base ux k) (L : LamsOk p P w K mg base ux k) {X : Cx} {N : List Str} {sc : Scope} {fb : Str → Bool} {lb : Nat → Arguments → Expr → Scope → Bool} {tb : Option (Nat × Str)}
    (e1 : X.prog = P) (e2 : X.w = w) (e3 : X.K = K) (e4 : X.mg = mg) (e5 : X.base = base) (e6 : X.env.scope = sc) (e7 : X.N = N) (e8 : X.N.Nodup) (e9 : X.calm = true) (hr : Room (2 * k + 1) X.A) (e10 : X.fn = fb)
    (hlb : ∀ (i : Nat) (params : Arguments) (body : Expr) (scope : Scope), lb i params body scope = true → (p.lamI i).P params body scope) (htb : ∀ (t : Nat) (q : Str), tb = some (t, q) → TopM X (p.G K ux k) t q) :
    Cok { p.ckL N with lb := lb, tab := tb } (p.G K ux k) k X sc fb := by
  subst e1 e2 e3 e4 e5
  have defs : ∀ (f : Nat) (df : Df), p.T[f]? = some df → df.at_ ≠ lamAt → ∃ (fd : FuncData) (ps : List Str), PySem.W.keepIn X.K (.ref (He.fAd X.K df.at_)) = true ∧ Binds X.K fd ps [] ∧ FnOk X.prog X.w X.K X.mg X.base (L2N.CX X.prog X.w) (2 * k) (He.fAd X.K df.at_) fd ps (spF X.K (p.G X.K ux k) ((p.G X.K ux k).Φ f) df.np) := fun f df e hn => by
    rcases Y.chk f df e with ⟨hf, ehf, hcf⟩ | z
    · have hdf : hf.dfl = [] := by
        have hcf := hcf
        unfold defB at hcf
        obtain ⟨hcf, _⟩ := bd hcf
        obtain ⟨hcf, _⟩ := bd hcf
        obtain ⟨hcf, _⟩ := bd hcf
        obtain ⟨hcf, _⟩ := bd hcf
        exact of_decide_eq_true (bd hcf).2
      obtain ⟨fd2, FF⟩ := Y.fd f hf ehf hdf
      obtain ⟨k2, b2, F2⟩ := D f df hf fd2 e ehf hcf FF
      exact ⟨fd2, _, k2, b2, F2⟩
    · exact absurd z hn
  have own : ∀ (i : Nat) (x : Str), (p.cls ++ p.own)[i]? = some x → p.cls.length ≤ i → x ∈ p.own := fun i x e hi => by
    rw [List.getElem?_append_right hi] at e
    exact List.mem_of_getElem? e
  have exc : ∀ (i : Nat) (x : Str), p.cls[i]? = some x → (p.G X.K ux k).ca i = He.ga X.K x := fun i x e => caOf_own (by rw [List.getElem?_append_left (List.getElem?_eq_some_iff.mp e).1]; exact e)
  have hlam : ∀ i, (p.G X.K ux k).ca.x.lam i = p.lamI i := fun i => by
    show ux.lam i = _
    rw [hu.lam]
  refine ⟨e6, e7, e8, fun _ => e9, fun _ => hr, (by have z := hr.un; omega), fun _ => hu.xa, fun z => (by cases z), Y.xcs, Y.xkits, fun i x e => ?_, e10, Y.consts, Y.free, fun _ f df e en => ?_, fun i x e hi => ?_, Y.flds, Y.kits, Y.bare, fun d i => rfl, fun i params body scope z => ?_, fun i params body scope z => ?_, fun i d e ec => ?_, fun _ i params body scope z => ?_, fun _ t q e => htb t q e, fun _ f df x m i e em hx hi => ?_⟩
  · rw [exc i x e]
    exact (Y.exc i x e).1
  · obtain ⟨fd2, ps, k2, b2, F2⟩ := defs f df e (fun z => by rw [z] at en; cases en)
    exact ⟨_, fd2, ps, Y.glo f df e en, k2, b2, F2⟩
  · rw [show (p.G X.K ux k).ca i = He.ga X.K x from caOf_own e]
    exact (Y.own x (own i x e hi)).1
  · rw [hlam]
    exact hlb i params body scope z
  · rw [hlam] at z ⊢
    exact lamT_of z
  · rw [hlam, lamI_of e]
  · rw [hlam] at z
    exact L i params body scope z
  · have hx0 : x ≠ "" := fun z => by
      subst z
      exact Y.nmN i hx
    obtain ⟨fd2, ps, k2, b2, F2⟩ := defs f df e (fun z => by
      rw [em] at z
      exact hx0 (congrArg Prod.fst z))
    obtain ⟨m1, m2⟩ := Y.meths f df x m e em (own i x hx hi)
    rw [show (p.G X.K ux k).ca i = He.ga X.K x from caOf_own hx]
    exact ⟨_, fd2, ps, m1, fun hm => ⟨(Y.own x (own i x hx hi)).2, m2 hm⟩, b2, F2⟩
/-- a lambda, one call deeper -/
theorem lams_next (Y : WorldOk p fn P w K mg base) (hu : UxOk p K ux) (D : DefsOk p fn P w K mg base ux k) (L : LamsOk p P w K mg base ux k) : LamsOk p P w K mg base ux (k + 1) := fun i params0 body0 scope0 hP0 => by
  obtain ⟨d, n, m, h1, h2, h3, h4, hmk, _, _, h7, _⟩ := lamI_P hP0
  have hlam : (p.G K ux (k + 1)).ca.x.lam i = ⟨d.ps, d.fr, fun params body scope => p.lamD d params body scope = true⟩ := by
    show ux.lam i = _
    rw [hu.lam]
    exact lamI_of h1
  have hN := N_split h2
  have hlen : d.ps.length + d.fr.length = d.np := by rw [← List.length_append, hN]; exact h4
  have hphi : ∀ (ws : List W) (st : Store), (p.G K ux (k + 1)).Φ i ws st = if ws.length = d.np then evE (phi p.T (fun _ => none) p.sub k) p.sub m (startE d ws) st else .err := fun ws st => by
    show phi p.T (fun _ => none) p.sub (k + 1) i ws st = _
    unfold phi
    simp only [h1]
    split
    · rw [hmk, h7]
      unfold grdD evSs evS
      cases evE (phi p.T (fun _ => none) p.sub k) p.sub m (startE d ws) st with
      | ok w st => rfl
      | exc c st => rfl
      | err => rfl
    · rfl
  refine ⟨fun ws st hl => ?_, fun A outer s H us vs cs a c q params body scope cl Q E hr e0 ha hc hP C r hl hsp => ?_⟩
  · rw [hlam] at hl
    have hl : ws.length ≠ d.ps.length + d.fr.length := hl
    rw [hphi, if_neg (fun z => hl (by rw [hlen]; exact z))]
  · rw [hlam] at hP C hl hsp
    have hP : p.lamD d params body scope = true := hP
    have hPi : (p.lamI i).P params body scope := by rw [lamI_of h1]; exact hP
    obtain ⟨d', n', m', g1, g2, g3, g4, _, g5, g6, g7, g8⟩ := lamI_P hPi
    rw [h1] at g1
    cases g1
    rw [h7] at g7
    cases g7
    have T := lamT_of hPi
    rw [lamI_of h1] at T
    obtain ⟨hl2, S, ws, eH, ok, rw_, z⟩ := hsp
    subst eH
    have hl2 : (vs ++ cs).length = d.ps.length + d.fr.length := hl2
    have hlw : ws.length = d.np := by rw [← rw_.length, hl2, hlen]
    rw [hphi, if_pos hlw] at z
    have hr2 : Room (2 * k + 1 + 1) A := hr
    have CK : Cok (p.ckL d.N) (p.G K ux k) k (NdefX.ncx (L2N.CX P w) P w K mg base (d.ps ++ d.fr) (nfOf q params scope cl c) a A outer s S.H E) scope (fun _ => false) :=
      cok_of (lb := fun _ _ _ _ => false) (tb := none) Y hu D L rfl rfl rfl rfl rfl rfl hN (show (d.ps ++ d.fr).Nodup from g6.nd) rfl (hr2.deeper _) rfl (fun _ _ _ _ z => by cases z) (fun _ _ z => by cases z)
    refine lam_run (L := ⟨d.ps, d.fr, fun params body scope => p.lamD d params body scope = true⟩) T hr2 e0 ha hc C r hl (t := tE K (p.G K ux k) (fun cls d _ H => E cls d H) m) ?_ ?_
    · exact snd_E m _ _ scope (fun _ => false) (fun cls d _ H => E cls d H) false body CK (L2N.takes_of rfl rfl rfl rfl) g8
    · refine ⟨startE d ws, S, rfl, ok, ?_, z⟩
      have e : NdefX.startF (d.ps ++ d.fr) vs (cs.map some) = L2.start d.N (vs ++ cs) := by
        unfold NdefX.startF L2.start
        rw [hN, List.map_append, List.append_assoc, List.length_append, List.length_map]
        congr 3
        omega
      rw [e]
      exact startE_re rw_ (by rw [hl2, hlen, h4]; exact Nat.le_refl _)
/-- a def's body in its frame -/
theorem body_run (Y : WorldOk p fn P w K mg base) (hu : UxOk p K ux) (D : DefsOk p fn P w K mg base ux k) (L : LamsOk p P w K mg base ux k) {i : Nat} {d : Df} {h' : He.DefD} (h5 : isSs (p.ck i d) d.body h'.scope h'.body = true) (h4 : fsB d.N (d.N.take d.np) h'.scope = true) (h3 : d.np ≤ d.N.length) (hq : h'.qual = d.qual)
    {f : Addr} {cdv : Value} {A : Around} {outer : List PySem.Env} {s : Shared} {vs : List V} {Q : VK} {E : XK} {S : S4} {ws : List W} (hr : Room (2 * k + 1) (A.deeper (envOfC h'.qual h'.scope s.heap.objs.size f cdv)))
    (top : d.mkr = true → ux.cells = some (envOfC h'.qual h'.scope s.heap.objs.size f cdv).cells ∧ ∀ t, idx i p.tabs = some t → ∃ c, cdv = .ref c ∧ c = (tabA p K i).1) (hl : vs.length = d.np) (ok : Ok K (p.G K ux k).ca S) (r : RwsS K S vs ws)
    (z : Pst K (p.G K ux k) (fun c d _ H => E c d H) (RwS K) [] S (endD (evSs (phi p.T (fun _ => none) p.sub k) p.sub d.body (startE d ws) S.st)) Q) :
    ∃ t, PSs (cxOf (L2N.CX P w) P w K mg base d.N h'.qual h'.scope f cdv A outer s S.H E) h'.body t ∧ t { nx := fun _ H' => Q .non H', rt := Q } (L2.start d.N vs) S.H := by
  refine ⟨tSs K (p.G K ux k) (fun cls d _ H => E cls d H) d.body, ?_, ?_⟩
  · refine snd_Ss (c := p.ck i d) (k := k) (sc := h'.scope) ⟨?_, L2N.takes_of rfl rfl rfl rfl, passes_of rfl, (fsB_ok h4).kind, rfl, rfl, fun i x e => ?_⟩ d.body h'.body h5
    · refine cok_of (X := cxOf (L2N.CX P w) P w K mg base d.N h'.qual h'.scope f cdv A outer s S.H E) Y hu D L rfl rfl rfl rfl rfl rfl rfl (fsB_ok h4).nd rfl hr rfl (fun i params body scope z => ?_) fun t q e => ?_
      · unfold Prg.lamB at z
        cases qi : p.T[i]? with
        | none => rw [qi] at z; cases z
        | some d' =>
          rw [qi] at z
          rw [lamI_of qi]
          exact z
      · by_cases hm : d.mkr = true
        · rw [if_pos hm] at e
          obtain ⟨t1, t2⟩ := top hm
          cases qx : idx i p.tabs with
          | none => rw [qx] at e; cases e
          | some t' =>
            rw [qx] at e
            have e := Option.some.inj e
            injection e with ea eb
            subst ea eb
            obtain ⟨c, e1, e2⟩ := t2 t' qx
            have hm2 := idx_ok qx
            refine ⟨rfl, rfl, rfl, t1, ?_, c, (tabA p K i).2, e1, ?_, ?_⟩
            · show (h'.qual ++ ".<locals>.") ++ "<lambda>" = _
              rw [hq]
            · rw [e2]
              exact Y.tab i (List.mem_of_getElem? hm2)
            · show ux.tabs[t']? = _
              rw [hu.tabs, List.getElem?_map, hm2]
              rfl
        · rw [if_neg hm] at e
          cases e
    · obtain ⟨e1, e2, e3, e4, e5⟩ := Y.exc i x e
      rw [show (p.G K ux k).ca i = He.ga K x from caOf_own (by rw [List.getElem?_append_left (List.getElem?_eq_some_iff.mp e).1]; exact e)]
      exact ⟨e1, e2, e3, raises_own e4 e5⟩
  · refine ⟨startE d ws, S, rfl, ok, startE_re r (by rw [hl]; exact h3), ?_⟩
    show PstS K (p.G K ux k) _ _ S (evSs (phi p.T (fun _ => none) p.sub k) p.sub d.body (startE d ws) S.st)
    cases q : evSs (phi p.T (fun _ => none) p.sub k) p.sub d.body (startE d ws) S.st with
    | nx Γ st =>
      rw [q] at z
      exact fun σ' S' e t re => z .non S' e t rfl
    | rt w st =>
      rw [q] at z
      exact fun v S' e t re => z v S' e t re
    | xc c Γ st =>
      rw [q] at z
      exact fun σ' S' e t re => z S' e t
    | er => rw [q] at z; exact z
theorem both_ok (Y : WorldOk p fn P w K mg base) : ∀ (k : Nat) (ux : Ux), UxOk p K ux → DefsOk p fn P w K mg base ux k ∧ LamsOk p P w K mg base ux k
  | 0, ux, hu => by
    refine ⟨fun i d h fd hd hh hc F => ?_, fun i params body scope hP => ⟨fun ws st _ => rfl, fun A outer s H us vs cs a c q params body scope cl Q E hr e0 ha hc hP C r hl hsp => ?_⟩⟩
    · have B := Y.bind i h d fd hh hd F
      unfold defB at hc
      obtain ⟨hc, h5⟩ := bd hc
      obtain ⟨hc, h4⟩ := bd hc
      obtain ⟨hc, hq⟩ := bd hc
      obtain ⟨hc, h3⟩ := bd hc
      obtain ⟨h1, h2⟩ := bd hc
      have h1 := of_decide_eq_true h1
      have h3 := of_decide_eq_true h3
      rw [h1] at F
      have hps : (d.N.take d.np).length = d.np := by rw [List.length_take]; omega
      refine ⟨F.kp, B, fun vs H Q E h => by rw [hps]; exact h.1, fun A outer s H args us vs Q E hr e0 hb r hsp => ?_⟩
      obtain ⟨_, S, ws, _, _, _, z⟩ := hsp
      exact False.elim z
    · obtain ⟨_, S, ws, _, _, _, z⟩ := hsp
      exact False.elim z
  | k + 1, ux, hu => by
    obtain ⟨D, L⟩ := both_ok Y k ux hu
    refine ⟨fun i d h' fd hd hh hc F => ?_, lams_next Y hu D L⟩
    have B := Y.bind i h' d fd hh hd F
    have hc0 := hc
    unfold defB at hc
    obtain ⟨hc, h5⟩ := bd hc
    obtain ⟨hc, h4⟩ := bd hc
    obtain ⟨hc, hq⟩ := bd hc
    obtain ⟨hc, h3⟩ := bd hc
    obtain ⟨h1, h2⟩ := bd hc
    have h1 := of_decide_eq_true h1
    have h2 := of_decide_eq_true h2
    have h3 := of_decide_eq_true h3
    have hq := of_decide_eq_true hq
    rw [h1] at F
    refine ⟨F.kp, B, ?_⟩
    have hps : (d.N.take d.np).length = d.np := by rw [List.length_take]; omega
    refine (show FnOk P w K mg base (L2N.CX P w) (2 * k + 1 + 1) _ _ _ _ from ?_)
    obtain ⟨oc, od, dV, kV, doc, pm, an, cdv, ct, osl, efd, lk, hcd, _, _⟩ := F.ex
    subst efd
    refine fn_of lk hcd (fsB_ok h4) (fun vs H Q E h => by rw [hps]; exact h.1) fun A outer s H vs Q E hr hsp => ?_
    obtain ⟨hl, S, ws, eH, ok, r, z⟩ := hsp
    subst eH
    have hlw : ws.length = d.np := by rw [← r.length]; exact hl
    have e : (p.G K ux (k + 1)).Φ i ws S.st = grdD d.mkr ws S.st (endD (evSs (phi p.T (fun _ => none) p.sub k) p.sub d.body (startE d ws) S.st)) := by
      show phi p.T (fun _ => none) p.sub (k + 1) i ws S.st = _
      unfold phi
      simp only [hd, hlw, if_true]
    rw [e] at z
    cases hm : d.mkr with
    | false =>
      rw [hm] at z
      exact body_run Y hu D L h5 h4 h3 hq hr (fun y => by rw [hm] at y; cases y) hl ok r z
    | true =>
      rw [hm] at z
      have z : Pst K (p.G K ux (k + 1)) (fun c d _ H => E c d H) (RwS K) [] S (if (plWs ws && plS S.st) = true then outP (endD (evSs (phi p.T (fun _ => none) p.sub k) p.sub d.body (startE d ws) S.st)) else .err) Q := z
      by_cases hpl : (plWs ws && plS S.st) = true
      · rw [if_pos hpl] at z
        obtain ⟨p1, p2⟩ := bd hpl
        have hu1 : UxOk p K { ux with cells := some (envOfC h'.qual h'.scope s.heap.objs.size (He.fAd K d.at_) cdv).cells } := ⟨hu.xa, hu.lam, hu.tabs⟩
        obtain ⟨D1, L1⟩ := both_ok Y k _ hu1
        refine body_run (S := S.ux { ux with cells := some (envOfC h'.qual h'.scope s.heap.objs.size (He.fAd K d.at_) cdv).cells }) Y hu1 D1 L1 h5 h4 h3 hq hr (fun _ => ⟨rfl, fun t _ => ?_⟩) hl (ok_ux (f := caOf p K) (x0 := ux) ok p2 rfl) (rws_ux _ vs ws p1 r) (pst_ux (f := caOf p K) (x0 := ux) (x := { ux with cells := some (envOfC h'.qual h'.scope s.heap.objs.size (He.fAd K d.at_) cdv).cells }) rfl rfl ok rfl z)
        obtain ⟨c, ec⟩ := He.codeIn_ref hcd
        refine ⟨c, ec, ?_⟩
        unfold tabA
        rw [hd]
        exact (He.codeOf_eq lk ec).symm
      · rw [if_neg hpl] at z
        exact False.elim z
end
theorem all_ok {p : Prg} {fn : List He.DefD} {P : Program} {w : World} {K : PySem.W.Frag} {mg : Str → Option Value} {base : Heap} (Y : WorldOk p fn P w K mg base) (ux : Ux) (hu : UxOk p K ux) (k i : Nat) (d : Df) (h : He.DefD) (fd : FuncData) (e1 : p.T[i]? = some d) (e2 : fn[i]? = some h) (hn : d.at_ ≠ lamAt) (F : FunD K h.name h.qual h.params h.body h.scope [] (h.kws K) (He.fAd K h.at_) fd) :
    PySem.W.keepIn K (.ref (He.fAd K d.at_)) = true ∧ Binds K fd (d.N.take d.np) [] ∧ FnOk P w K mg base (L2N.CX P w) (2 * k) (He.fAd K d.at_) fd (d.N.take d.np) (spF K (p.G K ux k) ((p.G K ux k).Φ i) d.np) := by
  rcases Y.chk i d e1 with ⟨h', eh, hc⟩ | z
  · rw [e2] at eh
    cases eh
    exact (both_ok Y k ux hu).1 i d h fd e1 e2 hc F
  · exact absurd z hn
/-- the law's words: no cells told, nothing caught -/
def uxL (p : Prg) (K : PySem.W.Frag) : Ux := ⟨none, none, p.tabs.map fun i => (tabA p K i).2, p.lamI⟩
theorem uxL_ok (p : Prg) (K : PySem.W.Frag) : UxOk p K (uxL p K) := ⟨rfl, rfl, rfl⟩
theorem bitsEnd {ns : List Int} : ∀ {S : S4} {K : PySem.W.Frag}, RwsS K S (ns.map V.int) (ns.map W.int) := fun {S K} => by
  induction ns with
  | nil => rfl
  | cons n ns ih => exact ⟨_, _, rfl, rfl, ih⟩
/-- the store at the law's entry: the tables -/
def tabQ (d : Df) : Str := d.qual ++ ".<locals>." ++ "<lambda>"
def Prg.st0 (p : Prg) : Store := p.tabs.map fun i => match p.T[i]? with
  | some d => some (.tbl (tabQ d))
  | none => none
theorem st0_len (p : Prg) : p.st0.length = p.tabs.length := by unfold Prg.st0; rw [List.length_map]
theorem st0_at {p : Prg} {n : Nat} {o : O} (h : p.st0[n]? = some (some o)) : ∃ i d, p.tabs[n]? = some i ∧ p.T[i]? = some d ∧ o = .tbl (tabQ d) := by
  unfold Prg.st0 at h
  rw [List.getElem?_map] at h
  cases q : p.tabs[n]? with
  | none => rw [q] at h; cases h
  | some i =>
    rw [q] at h
    cases q2 : p.T[i]? with
    | none =>
      have h : some (match p.T[i]? with | some d => some (O.tbl (tabQ d)) | none => none) = some (some o) := h
      rw [q2] at h
      cases h
    | some d =>
      have h : some (match p.T[i]? with | some d => some (O.tbl (tabQ d)) | none => none) = some (some o) := h
      rw [q2] at h
      cases h
      exact ⟨i, d, rfl, q2, rfl⟩
/-- the tables apart -/
def TabsApart (p : Prg) (K : PySem.W.Frag) : Prop := ∀ (n n' i i' : Nat), p.tabs[n]? = some i → p.tabs[n']? = some i' → (tabA p K i).2 = (tabA p K i').2 → n = n'
theorem sp_law {p : Prg} {K : PySem.W.Frag} {k i np : Nat} {H : Hp} {a : Addr} {ns : List Int} {st' : Store} (hn : np = 1) (hl : ns.length ≤ 63) (hS : SqL K H a (ns.map V.int)) (hT : ∀ i ∈ p.tabs, H (tabA p K i).2 = some (.tbl #[])) (hA : TabsApart p K)
    (h : phi p.T (fun _ => none) p.sub k i [.lst .gv (ns.map .int)] p.st0 = .ok (.bl true) st') :
    spF K (p.G K (uxL p K) k) ((p.G K (uxL p K) k).Φ i) np [.ref a] H (fun v _ => v = .bl true) fun _ _ _ => False := by
  -- what stays: all but the tables
  let F : Hp := fun b => if p.tabs.any (fun i => decide ((tabA p K i).2 = b)) then none else H b
  have F_tab : ∀ i ∈ p.tabs, F (tabA p K i).2 = none := fun i hi => if_pos (List.any_eq_true.mpr ⟨i, hi, decide_eq_true rfl⟩)
  have F_sub : Same F H := fun b o e => by
    have e : (if p.tabs.any (fun i => decide ((tabA p K i).2 = b)) then none else H b) = some o := e
    split at e
    · cases e
    · exact e
  have F_at : ∀ b o, H b = some o → (∀ ps, o ≠ .tbl ps) → F b = some o := fun b o e n => by
    refine (if_neg fun z => ?_).trans e
    obtain ⟨i, hi, hb⟩ := List.any_eq_true.mp z
    have hb := of_decide_eq_true hb
    have := hT i hi
    rw [hb, e] at this
    exact n _ (Option.some.inj this)
  have hS' : SqL K F a (ns.map V.int) := by
    rcases hS with (q | ⟨o, q⟩) | q
    · exact .inl (.inl (F_at _ _ q fun ps z => by cases z))
    · exact .inl (.inr ⟨o, F_at _ _ q fun ps z => by cases z⟩)
    · exact .inr q
  refine ⟨hn.symm, ⟨⟨fun _ => False, uxL p K⟩, p.tabs.map fun i => (tabA p K i).2, F, p.st0, H⟩, [.lst .gv (ns.map .int)], rfl, ⟨by rw [List.length_map, st0_len], F_sub, fun _ z => z.elim, fun n o a e1 e2 => ?_, fun n n' o o' a e1 e2 e3 e4 => ?_, rfl, fun t P e => e⟩, ⟨_, _, rfl, ⟨a, _, rfl, hS', by rw [List.length_map]; unfold lim; omega, bitsEnd⟩, rfl⟩, ?_⟩
  · obtain ⟨i, d, h1, h2, h3⟩ := st0_at e1
    have e2 : (p.tabs.map fun i => (tabA p K i).2)[n]? = some a := e2
    rw [List.getElem?_map, h1] at e2
    cases e2
    subst h3
    have hi := List.mem_of_getElem? h1
    refine ⟨F_tab i hi, #[], hT i hi, True.intro, fun pos cv hc => ?_⟩
    have z : codeAmong pos [] = some cv := hc
    simp [codeAmong] at z
  · obtain ⟨i, d, h1, h2, h3⟩ := st0_at e1
    obtain ⟨i', d', h1', h2', h3'⟩ := st0_at e2
    have e3 : (p.tabs.map fun i => (tabA p K i).2)[n]? = some a := e3
    have e4 : (p.tabs.map fun i => (tabA p K i).2)[n']? = some a := e4
    rw [List.getElem?_map, h1] at e3
    rw [List.getElem?_map, h1'] at e4
    cases e3
    exact hA n n' i i' h1 h1' (Option.some.inj e4).symm
  · show Pst K (p.G K (uxL p K) k) _ (RwS K) [] _ (phi p.T (fun _ => none) p.sub k i [.lst .gv (ns.map .int)] p.st0) _
    rw [h]
    exact fun v S' e t r => r
end Mi

set_option Elab.async false
set_option linter.all false
set_option maxRecDepth 100000
set_option maxHeartbeats 4000000
/-! Mini Python: what the head tells is all that is asked. -/
namespace Mi
open PySem PySem.Spec PyProof.Rows L2
def hasGlo (fa : List He.Fa) (x : Str) : Bool := fa.any fun f => match f with
  | .glo y => decide (y = x)
  | _ => false
def hasFree (fa : List He.Fa) (x : Str) : Bool := fa.any fun f => match f with
  | .free y => decide (y = x)
  | _ => false
def hasInt (fa : List He.Fa) (x : Str) (i : Int) : Bool := fa.any fun f => match f with
  | .int y j => decide (y = x) && decide (j = i)
  | _ => false
def hasExc (fa : List He.Fa) (x : Str) : Bool := fa.any fun f => match f with
  | .exc y => decide (y = x)
  | _ => false
section
variable {fa : List He.Fa} {fn : List He.DefD} {K : PySem.W.Frag}
theorem fact_of (c : He.SaysD fa fn K) {f : He.Fa} (h : f ∈ fa) : f.ok K = true := by
  obtain ⟨i, hi⟩ := List.getElem?_of_mem h
  exact c.fact i hi
theorem hasGlo_ok (c : He.SaysD fa fn K) {x : Str} (h : hasGlo fa x = true) : (He.Fa.glo x).ok K = true := by
  unfold hasGlo at h
  obtain ⟨f, hf, e⟩ := List.any_eq_true.mp h
  cases f with
  | glo y => have e := of_decide_eq_true e; subst e; exact fact_of c hf
  | _ => cases e
theorem hasFree_ok (c : He.SaysD fa fn K) {x : Str} (h : hasFree fa x = true) : (He.Fa.free x).ok K = true := by
  unfold hasFree at h
  obtain ⟨f, hf, e⟩ := List.any_eq_true.mp h
  cases f with
  | free y => have e := of_decide_eq_true e; subst e; exact fact_of c hf
  | _ => cases e
theorem hasExc_ok (c : He.SaysD fa fn K) {x : Str} (h : hasExc fa x = true) : (He.Fa.exc x).ok K = true := by
  unfold hasExc at h
  obtain ⟨f, hf, e⟩ := List.any_eq_true.mp h
  cases f with
  | exc y => have e := of_decide_eq_true e; subst e; exact fact_of c hf
  | _ => cases e
theorem hasInt_ok (c : He.SaysD fa fn K) {x : Str} {i : Int} (h : hasInt fa x i = true) : (He.Fa.int x i).ok K = true := by
  unfold hasInt at h
  obtain ⟨f, hf, e⟩ := List.any_eq_true.mp h
  cases f with
  | int y j =>
    obtain ⟨e1, e2⟩ := bd e
    have e1 := of_decide_eq_true e1
    have e2 := of_decide_eq_true e2
    subst e1 e2; exact fact_of c hf
  | _ => cases e
end
def hasCls (fa : List He.Fa) (x : Str) : Bool := fa.any fun f => match f with
  | .cls y => decide (y = x)
  | _ => false
def hasMkr (fa : List He.Fa) (x : Str) : Bool := fa.any fun f => match f with
  | .mkr y => decide (y = x)
  | _ => false
def hasMeth (fa : List He.Fa) (x m : Str) : Bool := fa.any fun f => match f with
  | .meth y n => decide (y = x) && decide (n = m)
  | _ => false
def hasNoat (fa : List He.Fa) (x m : Str) : Bool := fa.any fun f => match f with
  | .noat y n => decide (y = x) && decide (n = m)
  | _ => false
def hasIns (fx : List MiX.Fx) (x : Str) : Bool := fx.any fun f => match f with
  | .ins y => decide (y = x)
  | _ => false
def hasKit (fx : List MiX.Fx) (x y : Str) (b : Bool) : Bool := fx.any fun f => match f with
  | .kit u v c => decide (u = x) && (decide (v = y) && decide (c = b))
  | _ => false
def hasBare (fx : List MiX.Fx) (x : Str) : Bool := fx.any fun f => match f with
  | .bare y => decide (y = x)
  | _ => false
def hasXc (fx : List MiX.Fx) (x : Str) : Bool := fx.any fun f => match f with
  | .xc y => decide (y = x)
  | _ => false
def hasXk (fx : List MiX.Fx) (x y : Str) (b : Bool) : Bool := fx.any fun f => match f with
  | .xk u v c => decide (u = x) && (decide (v = y) && decide (c = b))
  | _ => false
section
variable {fa : List He.Fa} {fx : List MiX.Fx} {fn : List He.DefD} {K : PySem.W.Frag}
theorem hasXc_ok (c : MiX.SaysM fa fx fn K) {x : Str} (h : hasXc fx x = true) : ExcC K (He.ga K x) ∧ PySem.W.kitOne K (.ref (He.ga K x)) (.type "ValueError") = some true := by
  unfold hasXc at h
  obtain ⟨f, hf, e⟩ := List.any_eq_true.mp h
  cases f with
  | xc y =>
    have e := of_decide_eq_true e
    subst e
    have h : MiX.xcB K y = true := c.more hf
    unfold MiX.xcB at h
    obtain ⟨h1, h⟩ := bd h
    obtain ⟨h2, h⟩ := bd h
    obtain ⟨h3, h⟩ := bd h
    obtain ⟨h4, h⟩ := bd h
    obtain ⟨h5, h⟩ := bd h
    obtain ⟨h6, h⟩ := bd h
    obtain ⟨h7, h⟩ := bd h
    obtain ⟨h8, h9⟩ := bd h
    exact ⟨⟨He.eqO_ok h1, He.eqO_ok h2, of_decide_eq_true h3, of_decide_eq_true h4, He.eqO_ok h5, He.eqO_ok h6, of_decide_eq_true h7, of_decide_eq_true h8⟩, of_decide_eq_true h9⟩
  | _ => cases e
theorem hasXk_ok (c : MiX.SaysM fa fx fn K) {x y : Str} {b : Bool} (h : hasXk fx x y b = true) : PySem.W.kitOne K (.ref (He.ga K x)) (.ref (He.ga K y)) = some b ∧ (b = true → PySem.W.exmOne K (.ref (He.ga K x)) (.ref (He.ga K y)) = some true) := by
  unfold hasXk at h
  obtain ⟨f, hf, e⟩ := List.any_eq_true.mp h
  cases f with
  | xk u v c' =>
    obtain ⟨e1, e⟩ := bd e
    obtain ⟨e2, e3⟩ := bd e
    have e1 := of_decide_eq_true e1
    have e2 := of_decide_eq_true e2
    have e3 := of_decide_eq_true e3
    subst e1 e2 e3
    have h : MiX.xkB K u v c' = true := c.more hf
    unfold MiX.xkB at h
    obtain ⟨h1, h2⟩ := bd h
    refine ⟨of_decide_eq_true h1, fun hb => ?_⟩
    rw [hb] at h2
    exact of_decide_eq_true h2
  | _ => cases e
theorem hasCls_ok (c : He.SaysD fa fn K) {x : Str} (h : hasCls fa x = true) : (He.Fa.cls x).ok K = true := by
  unfold hasCls at h
  obtain ⟨f, hf, e⟩ := List.any_eq_true.mp h
  cases f with
  | cls y => have e := of_decide_eq_true e; subst e; exact fact_of c hf
  | _ => cases e
theorem hasMkr_ok (c : He.SaysD fa fn K) {x : Str} (h : hasMkr fa x = true) : (He.Fa.mkr x).ok K = true := by
  unfold hasMkr at h
  obtain ⟨f, hf, e⟩ := List.any_eq_true.mp h
  cases f with
  | mkr y => have e := of_decide_eq_true e; subst e; exact fact_of c hf
  | _ => cases e
theorem hasMeth_ok (c : He.SaysD fa fn K) {x m : Str} (h : hasMeth fa x m = true) : (He.Fa.meth x m).ok K = true := by
  unfold hasMeth at h
  obtain ⟨f, hf, e⟩ := List.any_eq_true.mp h
  cases f with
  | meth y n =>
    obtain ⟨e1, e2⟩ := bd e
    have e1 := of_decide_eq_true e1
    have e2 := of_decide_eq_true e2
    subst e1 e2; exact fact_of c hf
  | _ => cases e
theorem hasNoat_ok (c : He.SaysD fa fn K) {x m : Str} (h : hasNoat fa x m = true) : (He.Fa.noat x m).ok K = true := by
  unfold hasNoat at h
  obtain ⟨f, hf, e⟩ := List.any_eq_true.mp h
  cases f with
  | noat y n =>
    obtain ⟨e1, e2⟩ := bd e
    have e1 := of_decide_eq_true e1
    have e2 := of_decide_eq_true e2
    subst e1 e2; exact fact_of c hf
  | _ => cases e
theorem hasIns_ok (c : MiX.SaysM fa fx fn K) {x : Str} (h : hasIns fx x = true) : InsF K (He.ga K x) := by
  unfold hasIns at h
  obtain ⟨f, hf, e⟩ := List.any_eq_true.mp h
  cases f with
  | ins y =>
    have e := of_decide_eq_true e
    subst e
    have h := c.more hf
    obtain ⟨h1, h⟩ := He.ba (show ((He.Fa.cls y).ok K && _) = true from h)
    obtain ⟨h2, h⟩ := He.ba h
    obtain ⟨h3, h⟩ := He.ba h
    obtain ⟨h4, h5⟩ := He.ba h
    exact ⟨He.cls_ok h1, He.eqO_ok h2, He.eqO_ok h3, of_decide_eq_true h4, of_decide_eq_true h5⟩
  | _ => cases e
theorem hasBare_ok (c : MiX.SaysM fa fx fn K) {x : Str} (h : hasBare fx x = true) : Bare K (He.ga K x) := by
  unfold hasBare at h
  obtain ⟨f, hf, e⟩ := List.any_eq_true.mp h
  cases f with
  | bare y =>
    have e := of_decide_eq_true e
    subst e
    have h := c.more hf
    obtain ⟨h1, h⟩ := He.ba (show (decide (PySem.W.makesIn K (He.ga K y) = true) && _) = true from h)
    obtain ⟨h2, h3⟩ := He.ba h
    exact ⟨of_decide_eq_true h1, He.eqO_ok h2, of_decide_eq_true h3⟩
  | _ => cases e
theorem hasKit_ok (c : MiX.SaysM fa fx fn K) {x y : Str} {b : Bool} (h : hasKit fx x y b = true) : PySem.W.kitOne K (.ref (He.ga K x)) (.ref (He.ga K y)) = some b := by
  unfold hasKit at h
  obtain ⟨f, hf, e⟩ := List.any_eq_true.mp h
  cases f with
  | kit u v c' =>
    obtain ⟨e1, e⟩ := bd e
    obtain ⟨e2, e3⟩ := bd e
    have e1 := of_decide_eq_true e1
    have e2 := of_decide_eq_true e2
    have e3 := of_decide_eq_true e3
    subst e1 e2 e3
    exact of_decide_eq_true (c.more hf)
  | _ => cases e
end
def nmB1 (p : Prg) (i : Nat) (f : Str → Bool) : Bool := match p.nm i with
  | some x => f x
  | none => false
def factsB (p : Prg) (fa : List He.Fa) (fx : List MiX.Fx) : Bool :=
  (p.T.all fun d => decide (d.at_ = lamAt) || match d.at_.2 with | none => hasGlo fa d.at_.1 | some m => if m = "__init__" then hasMkr fa d.at_.1 else hasMeth fa d.at_.1 m) && (p.consts.all fun q => hasInt fa q.1 q.2) && (p.free.all fun x => hasFree fa x) && (p.cls.all fun x => hasExc fa x && hasGlo fa x) &&
    (p.own.all fun x => hasGlo fa x && hasCls fa x) && (p.flds.all fun q => nmB1 p q.1 fun x => hasCls fa x && hasNoat fa x q.2) && (p.kits.all fun q => nmB1 p q.1 fun x => nmB1 p q.2.1 fun y => hasIns fx x && hasKit fx x y q.2.2) && (p.bare.all fun i => nmB1 p i fun x => hasBare fx x) &&
    (p.xcs.all fun i => nmB1 p i fun x => hasXc fx x) && (p.xkits.all fun q => nmB1 p q.1 fun x => nmB1 p q.2.1 fun y => hasXk fx x y q.2.2)
theorem nmB1_ok {p : Prg} {i : Nat} {f : Str → Bool} {K : PySem.W.Frag} (h : nmB1 p i f = true) : ∃ x, f x = true ∧ caOf p K i = He.ga K x := by
  unfold nmB1 at h
  split at h
  · rename_i x e
    exact ⟨x, h, caOf_own e⟩
  · cases h
def zipB (p : Prg) (fn : List He.DefD) : Bool := decide (fn.length ≤ p.T.length) && ((p.T.drop fn.length).all fun d => decide (d.at_ = lamAt)) && ((p.cls ++ p.own).all fun x => !decide (x = "")) && (p.T.zip fn).zipIdx.all fun q => defB p q.2 q.1.1 q.1.2
theorem world_of {fa : List He.Fa} {fx : List MiX.Fx} {fn : List He.DefD} {K : PySem.W.Frag} {p : Prg} {P : Program} {w : World} {mg : Str → Option Value} {base h : Heap} (cm : MiX.SaysM fa fx fn K) (X : K.In h) (Gm : h.Ns mainGlobals mg) (hz : zipB p fn = true) (hf : factsB p fa fx = true)
    (bind : ∀ (i : Nat) (h : He.DefD) (d : Df) (fd : FuncData), fn[i]? = some h → p.T[i]? = some d → FunD K h.name h.qual h.params h.body h.scope [] (h.kws K) (He.fAd K h.at_) fd → Binds K fd (d.N.take d.np) []) (tabs : ∀ i ∈ p.tabs, LamX.TabB base mg (tabA p K i).1 (tabA p K i).2) : WorldOk p fn P w K mg base := by
  have c := cm.base
  unfold zipB at hz
  obtain ⟨hz0, hz⟩ := bd hz
  obtain ⟨hz1, hn0⟩ := bd hz0
  obtain ⟨hl, hlm⟩ := bd hz1
  have hl := of_decide_eq_true hl
  have nmN : ∀ i : Nat, (p.cls ++ p.own)[i]? ≠ some "" := fun i e => by
    have z := List.all_eq_true.mp hn0 _ (List.mem_of_getElem? e)
    simp at z
  have lams : ∀ (i : Nat) (d : Df), p.T[i]? = some d → fn.length ≤ i → d.at_ = lamAt := fun i d e hi => by
    refine of_decide_eq_true (List.all_eq_true.mp hlm d (List.mem_of_getElem? (i := i - fn.length) ?_))
    rw [List.getElem?_drop, show fn.length + (i - fn.length) = i by omega]
    exact e
  unfold factsB at hf
  obtain ⟨hf, f10⟩ := bd hf
  obtain ⟨hf, f9⟩ := bd hf
  obtain ⟨hf, f8⟩ := bd hf
  obtain ⟨hf, f7⟩ := bd hf
  obtain ⟨hf, f6⟩ := bd hf
  obtain ⟨hf, f5⟩ := bd hf
  obtain ⟨hf, f4⟩ := bd hf
  obtain ⟨hf, f3⟩ := bd hf
  obtain ⟨f1, f2⟩ := bd hf
  refine ⟨fun i d e => ?_, nmN, fun i h e eh => ?_, bind, fun i d e en => ?_, fun x i e => ?_, fun x e => ?_, fun i x e => ?_, fun i hi => ?_, fun d i b hi => ?_, fun x hx => ?_, fun i f hi => ?_, fun d i b hi => ?_, fun i hi => ?_, fun f d x m e em ex => ?_, tabs⟩
  · rcases Nat.lt_or_ge i fn.length with hi2 | hi2
    rotate_left
    · exact .inr (lams i d e hi2)
    refine .inl ⟨fn[i], List.getElem?_eq_getElem hi2, ?_⟩
    have hm : ((d, fn[i]), i) ∈ (p.T.zip fn).zipIdx := by
      rw [List.mk_mem_zipIdx_iff_getElem?, List.getElem?_zip_eq_some]
      exact ⟨e, List.getElem?_eq_getElem hi2⟩
    exact List.all_eq_true.mp hz _ hm
  · obtain ⟨fd, F⟩ := c.def_ i (d := h) e
    have e2 : h.dvs K = [] := by unfold He.DefD.dvs; rw [eh]; rfl
    rw [e2] at F
    exact ⟨fd, F⟩
  · have h1 := List.all_eq_true.mp f1 d (List.mem_of_getElem? e)
    have hnl : d.at_ ≠ lamAt := fun z => by rw [z] at en; cases en
    simp only [en, decide_eq_false hnl, Bool.false_or] at h1
    rw [He.glo_ok X Gm (hasGlo_ok c h1)]
    unfold He.fAd
    simp only [en]
  · exact He.int_ok X Gm (hasInt_ok c (List.all_eq_true.mp f2 (x, i) e))
  · exact He.free_ok X Gm (hasFree_ok c (List.all_eq_true.mp f3 x e))
  · obtain ⟨h1, h2⟩ := bd (List.all_eq_true.mp f4 x (List.mem_of_getElem? e))
    obtain ⟨e1, e2, e3, e4⟩ := He.exc_ok (hasExc_ok c h1)
    exact ⟨He.glo_ok X Gm (hasGlo_ok c h2), e1, e2, e3, e4⟩
  · obtain ⟨x, h1, ex⟩ := nmB1_ok (K := K) (List.all_eq_true.mp f9 i hi)
    rw [ex]
    exact hasXc_ok cm h1
  · obtain ⟨x, h1, ex⟩ := nmB1_ok (K := K) (List.all_eq_true.mp f10 (d, i, b) hi)
    obtain ⟨y, h2, ey⟩ := nmB1_ok (K := K) h1
    rw [ex, ey]
    exact hasXk_ok cm h2
  · obtain ⟨h1, h2⟩ := bd (List.all_eq_true.mp f5 x hx)
    exact ⟨He.glo_ok X Gm (hasGlo_ok c h1), He.cls_ok (hasCls_ok c h2)⟩
  · obtain ⟨x, h1, ex⟩ := nmB1_ok (K := K) (List.all_eq_true.mp f6 (i, f) hi)
    obtain ⟨h1, h2⟩ := bd h1
    rw [ex]
    exact ⟨He.cls_ok (hasCls_ok c h1), He.noat_ok (hasNoat_ok c h2)⟩
  · obtain ⟨x, h1, ex⟩ := nmB1_ok (K := K) (List.all_eq_true.mp f7 (d, i, b) hi)
    obtain ⟨y, h2, ey⟩ := nmB1_ok (K := K) h1
    obtain ⟨h2, h3⟩ := bd h2
    rw [ex, ey]
    exact ⟨hasIns_ok cm h2, hasKit_ok cm h3⟩
  · obtain ⟨x, h1, ex⟩ := nmB1_ok (K := K) (List.all_eq_true.mp f8 i hi)
    rw [ex]
    exact hasBare_ok cm h1
  · have h1 := List.all_eq_true.mp f1 d (List.mem_of_getElem? e)
    have e2 : d.at_.2 = some m := by rw [em]
    have hnl : d.at_ ≠ lamAt := fun z => by
      rw [em] at z
      have z1 : x = "" := congrArg Prod.fst z
      subst z1
      obtain ⟨j, hj⟩ := List.mem_iff_getElem?.mp (List.mem_append_right p.cls ex)
      exact nmN j hj
    simp only [e2, decide_eq_false hnl, Bool.false_or] at h1
    have e1 : d.at_.1 = x := by rw [em]
    rw [e1] at h1
    have ef : He.fAd K d.at_ = He.ma K (He.ga K x) m := by rw [em]; rfl
    rw [ef]
    refine ⟨fun hm => ?_, fun hm => ?_⟩
    · rw [if_pos hm] at h1
      subst hm
      exact He.mkr_ok (hasMkr_ok c h1)
    · rw [if_neg hm] at h1
      exact He.meth_ok (hasMeth_ok c h1)
/-- the law's promise at the head's heap, its tables empty -/
theorem law_at {l : PySem.W.OpenLaw} {w : World} {p : Prg} {fn : List He.DefD} {fa : List He.Fa} {fx : List MiX.Fx} {K : PySem.W.Frag} {mg : Str → Option Value} {h : Heap} {depth i : Nat} {d : Df} {h' : He.DefD} {x : Str} {tf : List He.Defn}
    (cm : MiX.SaysM fa fx fn K) (ct : MiX.TabsOk tf h K) (KX : K.In h) (Gm : h.Ns mainGlobals mg) (hz : zipB p fn = true) (hf : factsB p fa fx = true)
    (bind : ∀ (i : Nat) (h : He.DefD) (d : Df) (fd : FuncData), fn[i]? = some h → p.T[i]? = some d → FunD K h.name h.qual h.params h.body h.scope [] (h.kws K) (He.fAd K h.at_) fd → Binds K fd (d.N.take d.np) [])
    (htf : tf.map (He.cT K) = p.tabs.map (tabA p K)) (e1 : p.T[i]? = some d) (e2 : fn[i]? = some h') (hn : d.at_ ≠ lamAt) (hat : h'.at_ = d.at_) (e4 : d.np = 1) (e5 : d.N.take d.np = [x]) {fd : FuncData} (F : FunD K h'.name h'.qual h'.params h'.body h'.scope [] (h'.kws K) (He.fAd K h'.at_) fd)
    (b : ∀ (s : Shared) (u : Value), BindsTo s fd ⟨[u], []⟩ [(x, u)])
    (good : ∀ ns : List Int, ns.length ≤ 63 → (∀ z ∈ ns, Builtin.Int.intBits z ≤ 1048576) → ∃ st, phi p.T (fun _ => none) p.sub depth i [.lst .gv (ns.map .int)] p.st0 = .ok (.bl true) st) :
    LamX.LawAtS l w K (L2N.CX l.prog w) (2 * depth) 63 x mg (He.fAd K d.at_) h := by
  have tf_mem : ∀ q ∈ p.tabs.map (tabA p K), ∃ t ∈ tf, He.cT K t = q := fun q hq => by
    rw [← htf] at hq
    obtain ⟨t, ht, e⟩ := List.mem_map.mp hq
    exact ⟨t, ht, e⟩
  refine ⟨fd, p.tabs.map (tabA p K), spF K (p.G K (uxL p K) depth) ((p.G K (uxL p K) depth).Φ i) 1, fun q hq => ?_, fun q hq => ?_, fun q hq => ?_, b, fun H a ns hl hb hH hS => ?_, fun base hB hN hT => ?_⟩
  · obtain ⟨t, ht, e⟩ := tf_mem q hq
    rw [← e]
    exact ct.em t ht
  · obtain ⟨t, ht, e⟩ := tf_mem q hq
    rw [← e]
    exact ct.no t ht
  · obtain ⟨t, ht, e⟩ := tf_mem q hq
    rw [← e]
    exact PySem.W.codeHd_of_K KX (ct.hd t ht)
  · obtain ⟨st, e⟩ := good ns hl hb
    refine sp_law rfl hl hS (fun j hj => hH _ (List.mem_map.mpr ⟨j, hj, rfl⟩)) (fun n n' j j' a1 a2 a3 => ?_) e
    have nd : (p.tabs.map fun j => (tabA p K j).2).Nodup := by
      have z := ct.nd
      have e3 : (tf.map fun t => (He.cT K t).2) = p.tabs.map fun j => (tabA p K j).2 := by
        have z2 := congrArg (List.map (fun q : Addr × Addr => q.2)) htf
        rw [List.map_map, List.map_map] at z2
        exact z2
      rw [← e3]
      exact z
    have g1 : (p.tabs.map fun j => (tabA p K j).2)[n]? = some (tabA p K j).2 := by rw [List.getElem?_map, a1]; rfl
    have g2 : (p.tabs.map fun j => (tabA p K j).2)[n']? = some (tabA p K j).2 := by rw [List.getElem?_map, a2, a3]; rfl
    exact (List.getElem?_inj (List.getElem?_eq_some_iff.mp g1).1 nd).mp (g1.trans g2.symm)
  · have Y : WorldOk p fn l.prog w K mg base := world_of cm KX Gm hz hf bind fun j hj => hT _ (List.mem_map.mpr ⟨j, hj, rfl⟩)
    have z := (all_ok Y (uxL p K) (uxL_ok p K) depth i d h' fd e1 e2 hn F).2.2
    rw [e4] at z
    rw [e4] at e5
    rw [e5] at z
    exact z
end Mi

set_option Elab.async false
set_option linter.all false
set_option maxRecDepth 100000
set_option maxHeartbeats 0
namespace Hd
open PySem PySem.Spec PyProof.Rows L2
def top (i : Nat) : Stmt := PySem.Challenge.pw_beamroll_k10_refused.main.body.getD i (.Pass ⟨0, 0, 0, 0⟩)

def s0 : Stmt := top 0
def d0 : He.DefD := ⟨("_wall", none), "_wall", "_wall", defArgs s0, defBody s0, defScope s0, [], []⟩
def s1 : Stmt := top 17
def d1 : He.DefD := ⟨("is_whole", none), "is_whole", "is_whole", defArgs s1, defBody s1, defScope s1, [], []⟩
def s2 : Stmt := top 18
def d2 : He.DefD := ⟨("is_between", none), "is_between", "is_between", defArgs s2, defBody s2, defScope s2, [], []⟩
def s3 : Stmt := top 19
def d3 : He.DefD := ⟨("common", none), "common", "common", defArgs s3, defBody s3, defScope s3, [], []⟩
def s4 : Stmt := top 20
def d4 : He.DefD := ⟨("made", none), "made", "made", defArgs s4, defBody s4, defScope s4, [], []⟩
def s5 : Stmt := top 21
def d5 : He.DefD := ⟨("is_share", none), "is_share", "is_share", defArgs s5, defBody s5, defScope s5, [], []⟩
def s6 : Stmt := top 22
def d6 : He.DefD := ⟨("is_within", none), "is_within", "is_within", defArgs s6, defBody s6, defScope s6, [], []⟩
def s7 : Stmt := top 23
def d7 : He.DefD := ⟨("is_less", none), "is_less", "is_less", defArgs s7, defBody s7, defScope s7, [], []⟩
def s8 : Stmt := top 24
def d8 : He.DefD := ⟨("put_together", none), "put_together", "put_together", defArgs s8, defBody s8, defScope s8, [], []⟩
def s9 : Stmt := top 32
def d9 : He.DefD := ⟨("asked_length", none), "asked_length", "asked_length", defArgs s9, defBody s9, defScope s9, [], []⟩
def s10 : Stmt := top 33
def d10 : He.DefD := ⟨("asked_strength", none), "asked_strength", "asked_strength", defArgs s10, defBody s10, defScope s10, [], []⟩
def s11 : Stmt := top 34
def d11 : He.DefD := ⟨("is_axle", none), "is_axle", "is_axle", defArgs s11, defBody s11, defScope s11, [], []⟩
def s12 : Stmt := top 35
def d12 : He.DefD := ⟨("asked_train", none), "asked_train", "asked_train", defArgs s12, defBody s12, defScope s12, [], []⟩
def s13 : Stmt := top 36
def d13 : He.DefD := ⟨("asked_head", none), "asked_head", "asked_head", defArgs s13, defBody s13, defScope s13, [], []⟩
def s14 : Stmt := top 37
def d14 : He.DefD := ⟨("loads_of_beams", none), "loads_of", "loads_of", defArgs s14, defBody s14, defScope s14, [], []⟩
def s15 : Stmt := top 39
def d15 : He.DefD := ⟨("bears_by", none), "bears_by", "bears_by", defArgs s15, defBody s15, defScope s15, [], []⟩
def s16 : Stmt := top 40
def d16 : He.DefD := ⟨("bent_by", none), "bent_by", "bent_by", defArgs s16, defBody s16, defScope s16, [], []⟩
def s17 : Stmt := top 41
def d17 : He.DefD := ⟨("bent_at", none), "bent_at", "bent_at", defArgs s17, defBody s17, defScope s17, [], []⟩
def s18 : Stmt := top 43
def d18 : He.DefD := ⟨("asked_place", none), "asked_place", "asked_place", defArgs s18, defBody s18, defScope s18, [], []⟩
def s19 : Stmt := top 44
def d19 : He.DefD := ⟨("bears", none), "bears", "bears", defArgs s19, defBody s19, defScope s19, [], []⟩
def s20 : Stmt := top 45
def d20 : He.DefD := ⟨("bent", none), "bent", "bent", defArgs s20, defBody s20, defScope s20, [], []⟩
def s21 : Stmt := top 46
def d21 : He.DefD := ⟨("shape", none), "shape", "shape", defArgs s21, defBody s21, defScope s21, [], []⟩
def s22 : Stmt := top 48
def d22 : He.DefD := ⟨("better", none), "better", "better", defArgs s22, defBody s22, defScope s22, [], []⟩
def s23 : Stmt := top 49
def d23 : He.DefD := ⟨("worst_for", none), "worst_for", "worst_for", defArgs s23, defBody s23, defScope s23, [], []⟩
def s24 : Stmt := top 50
def d24 : He.DefD := ⟨("turns_of", none), "turns_of", "turns_of", defArgs s24, defBody s24, defScope s24, [], []⟩
def s25 : Stmt := top 51
def d25 : He.DefD := ⟨("middle_of", none), "middle_of", "middle_of", defArgs s25, defBody s25, defScope s25, [], []⟩
def s26 : Stmt := top 52
def d26 : He.DefD := ⟨("worst_of", none), "worst_of", "worst_of", defArgs s26, defBody s26, defScope s26, [], []⟩
def s27 : Stmt := top 53
def d27 : He.DefD := ⟨("most_by", none), "most_by", "most_by", defArgs s27, defBody s27, defScope s27, [], []⟩
def s28 : Stmt := top 57
def d28 : He.DefD := ⟨("part_of", none), "part_of", "part_of", defArgs s28, defBody s28, defScope s28, [], []⟩
def s29 : Stmt := top 58
def d29 : He.DefD := ⟨("loads_of_telling", none), "loads_of", "loads_of", defArgs s29, defBody s29, defScope s29, [], []⟩
def s30 : Stmt := top 60
def d30 : He.DefD := ⟨("with_one", none), "with_one", "with_one", defArgs s30, defBody s30, defScope s30, [], []⟩
def s31 : Stmt := top 61
def d31 : He.DefD := ⟨("most_of", none), "most_of", "most_of", defArgs s31, defBody s31, defScope s31, [], []⟩
def s32 : Stmt := top 62
def d32 : He.DefD := ⟨("holds_telling", none), "holds", "holds", defArgs s32, defBody s32, defScope s32, [], []⟩
def s33 : Stmt := top 64
def d33 : He.DefD := ⟨("is_deed", none), "is_deed", "is_deed", defArgs s33, defBody s33, defScope s33, [], []⟩
def s34 : Stmt := top 65
def d34 : He.DefD := ⟨("first_wrong", none), "first_wrong", "first_wrong", defArgs s34, defBody s34, defScope s34, [], []⟩
def s35 : Stmt := inClass (top 67) 0
def d35 : He.DefD := ⟨("Deck", some "__init__"), "__init__", "Deck.__init__", defArgs s35, defBody s35, defScope s35, [], []⟩
def s36 : Stmt := inClass (top 67) 1
def d36 : He.DefD := ⟨("Deck", some "ask_place"), "ask_place", "Deck.ask_place", defArgs s36, defBody s36, defScope s36, [], []⟩
def s37 : Stmt := inClass (top 67) 2
def d37 : He.DefD := ⟨("Deck", some "ask_both"), "ask_both", "Deck.ask_both", defArgs s37, defBody s37, defScope s37, [], []⟩
def s38 : Stmt := inClass (top 67) 3
def d38 : He.DefD := ⟨("Deck", some "put"), "put", "Deck.put", defArgs s38, defBody s38, defScope s38, [], []⟩
def s39 : Stmt := inClass (top 67) 4
def d39 : He.DefD := ⟨("Deck", some "take"), "take", "Deck.take", defArgs s39, defBody s39, defScope s39, [], []⟩
def s40 : Stmt := inClass (top 67) 5
def d40 : He.DefD := ⟨("Deck", some "there"), "there", "Deck.there", defArgs s40, defBody s40, defScope s40, [], []⟩
def s41 : Stmt := inClass (top 67) 6
def d41 : He.DefD := ⟨("Deck", some "bears"), "bears", "Deck.bears", defArgs s41, defBody s41, defScope s41, [], []⟩
def s42 : Stmt := inClass (top 67) 7
def d42 : He.DefD := ⟨("Deck", some "bent"), "bent", "Deck.bent", defArgs s42, defBody s42, defScope s42, [], []⟩
def s43 : Stmt := inClass (top 67) 8
def d43 : He.DefD := ⟨("Deck", some "most"), "most", "Deck.most", defArgs s43, defBody s43, defScope s43, [], []⟩
def s44 : Stmt := inClass (top 67) 9
def d44 : He.DefD := ⟨("Deck", some "tale"), "tale", "Deck.tale", defArgs s44, defBody s44, defScope s44, [], []⟩
def s45 : Stmt := top 73
def d45 : He.DefD := ⟨("is_load", none), "is_load", "is_load", defArgs s45, defBody s45, defScope s45, [], []⟩
def s46 : Stmt := top 74
def d46 : He.DefD := ⟨("asked_plank", none), "asked_plank", "asked_plank", defArgs s46, defBody s46, defScope s46, [], []⟩
def s47 : Stmt := top 75
def d47 : He.DefD := ⟨("about", none), "about", "about", defArgs s47, defBody s47, defScope s47, [], []⟩
def s48 : Stmt := top 76
def d48 : He.DefD := ⟨("tips", none), "tips", "tips", defArgs s48, defBody s48, defScope s48, [], []⟩
def s49 : Stmt := top 77
def d49 : He.DefD := ⟨("shares_of", none), "shares_of", "shares_of", defArgs s49, defBody s49, defScope s49, [], []⟩
def s50 : Stmt := top 81
def d50 : He.DefD := ⟨("asked_sites", none), "asked_sites", "asked_sites", defArgs s50, defBody s50, defScope s50, [], []⟩
def s51 : Stmt := top 82
def d51 : He.DefD := ⟨("holds_spans", none), "holds", "holds", defArgs s51, defBody s51, defScope s51, [], []⟩
def s52 : Stmt := top 84
def d52 : He.DefD := ⟨("posts_of", none), "posts_of", "posts_of", defArgs s52, defBody s52, defScope s52, [], []⟩
def s53 : Stmt := inClass (top 87) 0
def d53 : He.DefD := ⟨("Laid", some "__init__"), "__init__", "Laid.__init__", defArgs s53, defBody s53, defScope s53, [], []⟩
def s54 : Stmt := inClass (top 87) 1
def d54 : He.DefD := ⟨("Laid", some "shows"), "shows", "Laid.shows", defArgs s54, defBody s54, defScope s54, [], []⟩
def s55 : Stmt := inClass (top 88) 0
def d55 : He.DefD := ⟨("Never", some "__init__"), "__init__", "Never.__init__", defArgs s55, defBody s55, defScope s55, [], []⟩
def s56 : Stmt := inClass (top 88) 1
def d56 : He.DefD := ⟨("Never", some "shows"), "shows", "Never.shows", defArgs s56, defBody s56, defScope s56, [], []⟩
def s57 : Stmt := inClass (top 89) 0
def d57 : He.DefD := ⟨("Lies", some "__init__"), "__init__", "Lies.__init__", defArgs s57, defBody s57, defScope s57, [], []⟩
def s58 : Stmt := inClass (top 89) 1
def d58 : He.DefD := ⟨("Lies", some "shows"), "shows", "Lies.shows", defArgs s58, defBody s58, defScope s58, [], []⟩
def s59 : Stmt := inClass (top 90) 0
def d59 : He.DefD := ⟨("Tips", some "__init__"), "__init__", "Tips.__init__", defArgs s59, defBody s59, defScope s59, [], []⟩
def s60 : Stmt := inClass (top 90) 1
def d60 : He.DefD := ⟨("Tips", some "shows"), "shows", "Tips.shows", defArgs s60, defBody s60, defScope s60, [], []⟩
def s61 : Stmt := inClass (top 91) 0
def d61 : He.DefD := ⟨("Right", some "shows"), "shows", "Right.shows", defArgs s61, defBody s61, defScope s61, [], []⟩
def s62 : Stmt := inClass (top 92) 0
def d62 : He.DefD := ⟨("Wrong", some "__init__"), "__init__", "Wrong.__init__", defArgs s62, defBody s62, defScope s62, [], []⟩
def s63 : Stmt := inClass (top 92) 1
def d63 : He.DefD := ⟨("Wrong", some "shows"), "shows", "Wrong.shows", defArgs s63, defBody s63, defScope s63, [], []⟩
def s64 : Stmt := top 94
def d64 : He.DefD := ⟨("plank", none), "plank", "plank", defArgs s64, defBody s64, defScope s64, [], []⟩
def s65 : Stmt := top 96
def d65 : He.DefD := ⟨("laid", none), "laid", "laid", defArgs s65, defBody s65, defScope s65, [], []⟩
def s66 : Stmt := top 98
def d66 : He.DefD := ⟨("judged", none), "judged", "judged", defArgs s66, defBody s66, defScope s66, [], []⟩
def s67 : Stmt := top 100
def d67 : He.DefD := ⟨("worst_at", none), "worst_at", "worst_at", defArgs s67, defBody s67, defScope s67, [], []⟩
def s68 : Stmt := top 101
def d68 : He.DefD := ⟨("worst", none), "worst", "worst", defArgs s68, defBody s68, defScope s68, [], []⟩
def s69 : Stmt := top 103
def d69 : He.DefD := ⟨("_law_refused", none), "_law_refused", "_law_refused", defArgs s69, defBody s69, defScope s69, [], []⟩
def s70 : Stmt := top 104
def d70 : He.DefD := ⟨("_law_each", none), "_law_each", "_law_each", defArgs s70, defBody s70, defScope s70, [], []⟩
def s71 : Stmt := top 105
def d71 : He.DefD := ⟨("_law_no_trains", none), "_law_no_trains", "_law_no_trains", defArgs s71, defBody s71, defScope s71, [], []⟩
def s72 : Stmt := top 106
def d72 : He.DefD := ⟨("_law_no_shares", none), "_law_no_shares", "_law_no_shares", defArgs s72, defBody s72, defScope s72, [], []⟩
def s73 : Stmt := top 107
def d73 : He.DefD := ⟨("_law_beam_right", none), "_law_beam_right", "_law_beam_right", defArgs s73, defBody s73, defScope s73, [], []⟩
def s74 : Stmt := top 108
def d74 : He.DefD := ⟨("_law_rest_right", none), "_law_rest_right", "_law_rest_right", defArgs s74, defBody s74, defScope s74, [], []⟩
def s75 : Stmt := top 109
def d75 : He.DefD := ⟨("_law_deck_right", none), "_law_deck_right", "_law_deck_right", defArgs s75, defBody s75, defScope s75, [], []⟩
def s76 : Stmt := top 110
def d76 : He.DefD := ⟨("law", none), "law", "law", defArgs s76, defBody s76, defScope s76, [], []⟩
def fn : List He.DefD := [d0, d1, d2, d3, d4, d5, d6, d7, d8, d9, d10, d11, d12, d13, d14, d15, d16, d17, d18, d19, d20, d21, d22, d23, d24, d25, d26, d27, d28, d29, d30, d31, d32, d33, d34, d35, d36, d37, d38, d39, d40, d41, d42, d43, d44, d45, d46, d47, d48, d49, d50, d51, d52, d53, d54, d55, d56, d57, d58, d59, d60, d61, d62, d63, d64, d65, d66, d67, d68, d69, d70, d71, d72, d73, d74, d75, d76]
def fa0 : List He.Fa := [He.Fa.glo "_wall", He.Fa.glo "BeamError", He.Fa.glo "BadLength", He.Fa.glo "BadTrain", He.Fa.glo "BadHead", He.Fa.glo "BadPlace", He.Fa.glo "BadSites", He.Fa.glo "BadStrength", He.Fa.glo "BadPosts", He.Fa.glo "BadLoads", He.Fa.glo "BadWeight", He.Fa.glo "BadTale", He.Fa.glo "TooMany", He.Fa.glo "TooMuch", He.Fa.glo "NotThere", He.Fa.glo "is_whole", He.Fa.glo "is_between", He.Fa.glo "common", He.Fa.glo "made", He.Fa.glo "is_share"]
def fa1 : List He.Fa := [He.Fa.glo "is_within", He.Fa.glo "is_less", He.Fa.glo "put_together", He.Fa.int "LONGEST" (1000), He.Fa.int "HEAVIEST_beams" (1000), He.Fa.int "MOST_WEIGHTS" (8), He.Fa.int "FIRST_HEAD" (-1000), He.Fa.int "LAST_HEAD" (3000), He.Fa.int "STRONGEST" (1000000000), He.Fa.glo "asked_length", He.Fa.glo "asked_strength", He.Fa.glo "is_axle", He.Fa.glo "asked_train", He.Fa.glo "asked_head", He.Fa.glo "loads_of", He.Fa.glo "loads_of_beams", He.Fa.glo "bears_by", He.Fa.glo "bent_by", He.Fa.glo "bent_at", He.Fa.glo "asked_place"]
def fa2 : List He.Fa := [He.Fa.glo "bears", He.Fa.glo "bent", He.Fa.glo "shape", He.Fa.glo "better", He.Fa.glo "worst_for", He.Fa.glo "turns_of", He.Fa.glo "middle_of", He.Fa.glo "worst_of", He.Fa.glo "most_by", He.Fa.int "MOST_THERE" (12), He.Fa.int "MOST_LINES" (40), He.Fa.glo "part_of", He.Fa.glo "loads_of", He.Fa.glo "loads_of_telling", He.Fa.glo "with_one", He.Fa.glo "most_of", He.Fa.glo "holds", He.Fa.glo "holds_telling", He.Fa.glo "is_deed", He.Fa.glo "first_wrong"]
def fa3 : List He.Fa := [He.Fa.glo "Deck", He.Fa.int "MOST_POSTS" (6), He.Fa.int "MOST_LOADS" (8), He.Fa.int "FARTHEST_lying" (1000), He.Fa.int "HEAVIEST_lying" (1000), He.Fa.glo "is_load", He.Fa.glo "asked_plank", He.Fa.glo "about", He.Fa.glo "tips", He.Fa.glo "shares_of", He.Fa.int "MOST_SITES" (12), He.Fa.int "FARTHEST_spans" (1000), He.Fa.glo "asked_sites", He.Fa.glo "holds", He.Fa.glo "holds_spans", He.Fa.glo "posts_of", He.Fa.glo "Answer", He.Fa.glo "Laid", He.Fa.glo "Never", He.Fa.glo "Lies"]
def fa4 : List He.Fa := [He.Fa.glo "Tips", He.Fa.glo "Right", He.Fa.glo "Wrong", He.Fa.glo "plank", He.Fa.glo "laid", He.Fa.glo "judged", He.Fa.glo "worst_at", He.Fa.glo "worst", He.Fa.glo "_law_refused", He.Fa.glo "_law_each", He.Fa.glo "_law_no_trains", He.Fa.glo "_law_no_shares", He.Fa.glo "_law_beam_right", He.Fa.glo "_law_rest_right", He.Fa.glo "_law_deck_right", He.Fa.glo "law", He.Fa.free "len", He.Fa.free "range", He.Fa.free "sum", He.Fa.free "all"]
def fa5 : List He.Fa := [He.Fa.free "abs", He.Fa.free "isinstance", He.Fa.free "int", He.Fa.free "bool", He.Fa.free "tuple", He.Fa.free "list", He.Fa.free "str", He.Fa.free "sorted", He.Fa.free "set", He.Fa.free "enumerate", He.Fa.free "ValueError", He.Fa.exc "BeamError", He.Fa.exc "BadLength", He.Fa.exc "BadTrain", He.Fa.exc "BadHead", He.Fa.exc "BadPlace", He.Fa.exc "BadSites", He.Fa.exc "BadStrength", He.Fa.exc "BadPosts", He.Fa.exc "BadLoads"]
def fa6 : List He.Fa := [He.Fa.exc "BadWeight", He.Fa.exc "BadTale", He.Fa.exc "TooMany", He.Fa.exc "TooMuch", He.Fa.exc "NotThere", He.Fa.cls "Deck", He.Fa.mkr "Deck", He.Fa.meth "Deck" "ask_place", He.Fa.meth "Deck" "ask_both", He.Fa.meth "Deck" "put", He.Fa.meth "Deck" "take", He.Fa.meth "Deck" "there", He.Fa.meth "Deck" "bears", He.Fa.meth "Deck" "bent", He.Fa.meth "Deck" "most", He.Fa.meth "Deck" "tale", He.Fa.noat "Deck" "length", He.Fa.noat "Deck" "lines", He.Fa.noat "Deck" "loads", He.Fa.noat "Deck" "strength"]
def fa7 : List He.Fa := [He.Fa.cls "Answer", He.Fa.cls "Laid", He.Fa.mkr "Laid", He.Fa.meth "Laid" "shows", He.Fa.noat "Laid" "posts", He.Fa.noat "Laid" "stretches", He.Fa.cls "Never", He.Fa.mkr "Never", He.Fa.meth "Never" "shows", He.Fa.noat "Never" "stretch", He.Fa.cls "Lies", He.Fa.mkr "Lies", He.Fa.meth "Lies" "shows", He.Fa.noat "Lies" "shares", He.Fa.cls "Tips", He.Fa.mkr "Tips", He.Fa.meth "Tips" "shows", He.Fa.noat "Tips" "side", He.Fa.cls "Right", He.Fa.meth "Right" "shows"]
def fa8 : List He.Fa := [He.Fa.cls "Wrong", He.Fa.mkr "Wrong", He.Fa.meth "Wrong" "shows", He.Fa.noat "Wrong" "line"]
def fa : List He.Fa := fa0 ++ fa1 ++ fa2 ++ fa3 ++ fa4 ++ fa5 ++ fa6 ++ fa7 ++ fa8
def fx0 : List MiX.Fx := [MiX.Fx.ins "Deck", MiX.Fx.ins "Answer", MiX.Fx.ins "Laid", MiX.Fx.ins "Never", MiX.Fx.ins "Lies", MiX.Fx.ins "Tips", MiX.Fx.ins "Right", MiX.Fx.ins "Wrong", MiX.Fx.kit "Deck" "Deck" true, MiX.Fx.kit "Deck" "Answer" false, MiX.Fx.kit "Deck" "Laid" false, MiX.Fx.kit "Deck" "Never" false, MiX.Fx.kit "Deck" "Lies" false, MiX.Fx.kit "Deck" "Tips" false, MiX.Fx.kit "Deck" "Right" false, MiX.Fx.kit "Deck" "Wrong" false, MiX.Fx.kit "Answer" "Deck" false, MiX.Fx.kit "Answer" "Answer" true, MiX.Fx.kit "Answer" "Laid" false, MiX.Fx.kit "Answer" "Never" false]
def fx1 : List MiX.Fx := [MiX.Fx.kit "Answer" "Lies" false, MiX.Fx.kit "Answer" "Tips" false, MiX.Fx.kit "Answer" "Right" false, MiX.Fx.kit "Answer" "Wrong" false, MiX.Fx.kit "Laid" "Deck" false, MiX.Fx.kit "Laid" "Answer" true, MiX.Fx.kit "Laid" "Laid" true, MiX.Fx.kit "Laid" "Never" false, MiX.Fx.kit "Laid" "Lies" false, MiX.Fx.kit "Laid" "Tips" false, MiX.Fx.kit "Laid" "Right" false, MiX.Fx.kit "Laid" "Wrong" false, MiX.Fx.kit "Never" "Deck" false, MiX.Fx.kit "Never" "Answer" true, MiX.Fx.kit "Never" "Laid" false, MiX.Fx.kit "Never" "Never" true, MiX.Fx.kit "Never" "Lies" false, MiX.Fx.kit "Never" "Tips" false, MiX.Fx.kit "Never" "Right" false, MiX.Fx.kit "Never" "Wrong" false]
def fx2 : List MiX.Fx := [MiX.Fx.kit "Lies" "Deck" false, MiX.Fx.kit "Lies" "Answer" true, MiX.Fx.kit "Lies" "Laid" false, MiX.Fx.kit "Lies" "Never" false, MiX.Fx.kit "Lies" "Lies" true, MiX.Fx.kit "Lies" "Tips" false, MiX.Fx.kit "Lies" "Right" false, MiX.Fx.kit "Lies" "Wrong" false, MiX.Fx.kit "Tips" "Deck" false, MiX.Fx.kit "Tips" "Answer" true, MiX.Fx.kit "Tips" "Laid" false, MiX.Fx.kit "Tips" "Never" false, MiX.Fx.kit "Tips" "Lies" false, MiX.Fx.kit "Tips" "Tips" true, MiX.Fx.kit "Tips" "Right" false, MiX.Fx.kit "Tips" "Wrong" false, MiX.Fx.kit "Right" "Deck" false, MiX.Fx.kit "Right" "Answer" true, MiX.Fx.kit "Right" "Laid" false, MiX.Fx.kit "Right" "Never" false]
def fx3 : List MiX.Fx := [MiX.Fx.kit "Right" "Lies" false, MiX.Fx.kit "Right" "Tips" false, MiX.Fx.kit "Right" "Right" true, MiX.Fx.kit "Right" "Wrong" false, MiX.Fx.kit "Wrong" "Deck" false, MiX.Fx.kit "Wrong" "Answer" true, MiX.Fx.kit "Wrong" "Laid" false, MiX.Fx.kit "Wrong" "Never" false, MiX.Fx.kit "Wrong" "Lies" false, MiX.Fx.kit "Wrong" "Tips" false, MiX.Fx.kit "Wrong" "Right" false, MiX.Fx.kit "Wrong" "Wrong" true, MiX.Fx.bare "Right", MiX.Fx.xc "BeamError", MiX.Fx.xc "BadLength", MiX.Fx.xc "BadTrain", MiX.Fx.xc "BadHead", MiX.Fx.xc "BadPlace", MiX.Fx.xc "BadSites", MiX.Fx.xc "BadStrength"]
def fx4 : List MiX.Fx := [MiX.Fx.xc "BadPosts", MiX.Fx.xc "BadLoads", MiX.Fx.xc "BadWeight", MiX.Fx.xc "BadTale", MiX.Fx.xc "TooMany", MiX.Fx.xc "TooMuch", MiX.Fx.xc "NotThere", MiX.Fx.xk "BeamError" "BeamError" true, MiX.Fx.xk "BeamError" "BadLength" false, MiX.Fx.xk "BeamError" "BadTrain" false, MiX.Fx.xk "BeamError" "BadHead" false, MiX.Fx.xk "BeamError" "BadPlace" false, MiX.Fx.xk "BeamError" "BadSites" false, MiX.Fx.xk "BeamError" "BadStrength" false, MiX.Fx.xk "BeamError" "BadPosts" false, MiX.Fx.xk "BeamError" "BadLoads" false, MiX.Fx.xk "BeamError" "BadWeight" false, MiX.Fx.xk "BeamError" "BadTale" false, MiX.Fx.xk "BeamError" "TooMany" false, MiX.Fx.xk "BeamError" "TooMuch" false]
def fx5 : List MiX.Fx := [MiX.Fx.xk "BeamError" "NotThere" false, MiX.Fx.xk "BadLength" "BeamError" true, MiX.Fx.xk "BadLength" "BadLength" true, MiX.Fx.xk "BadLength" "BadTrain" false, MiX.Fx.xk "BadLength" "BadHead" false, MiX.Fx.xk "BadLength" "BadPlace" false, MiX.Fx.xk "BadLength" "BadSites" false, MiX.Fx.xk "BadLength" "BadStrength" false, MiX.Fx.xk "BadLength" "BadPosts" false, MiX.Fx.xk "BadLength" "BadLoads" false, MiX.Fx.xk "BadLength" "BadWeight" false, MiX.Fx.xk "BadLength" "BadTale" false, MiX.Fx.xk "BadLength" "TooMany" false, MiX.Fx.xk "BadLength" "TooMuch" false, MiX.Fx.xk "BadLength" "NotThere" false, MiX.Fx.xk "BadTrain" "BeamError" true, MiX.Fx.xk "BadTrain" "BadLength" false, MiX.Fx.xk "BadTrain" "BadTrain" true, MiX.Fx.xk "BadTrain" "BadHead" false, MiX.Fx.xk "BadTrain" "BadPlace" false]
def fx6 : List MiX.Fx := [MiX.Fx.xk "BadTrain" "BadSites" false, MiX.Fx.xk "BadTrain" "BadStrength" false, MiX.Fx.xk "BadTrain" "BadPosts" false, MiX.Fx.xk "BadTrain" "BadLoads" false, MiX.Fx.xk "BadTrain" "BadWeight" false, MiX.Fx.xk "BadTrain" "BadTale" false, MiX.Fx.xk "BadTrain" "TooMany" false, MiX.Fx.xk "BadTrain" "TooMuch" false, MiX.Fx.xk "BadTrain" "NotThere" false, MiX.Fx.xk "BadHead" "BeamError" true, MiX.Fx.xk "BadHead" "BadLength" false, MiX.Fx.xk "BadHead" "BadTrain" false, MiX.Fx.xk "BadHead" "BadHead" true, MiX.Fx.xk "BadHead" "BadPlace" false, MiX.Fx.xk "BadHead" "BadSites" false, MiX.Fx.xk "BadHead" "BadStrength" false, MiX.Fx.xk "BadHead" "BadPosts" false, MiX.Fx.xk "BadHead" "BadLoads" false, MiX.Fx.xk "BadHead" "BadWeight" false, MiX.Fx.xk "BadHead" "BadTale" false]
def fx7 : List MiX.Fx := [MiX.Fx.xk "BadHead" "TooMany" false, MiX.Fx.xk "BadHead" "TooMuch" false, MiX.Fx.xk "BadHead" "NotThere" false, MiX.Fx.xk "BadPlace" "BeamError" true, MiX.Fx.xk "BadPlace" "BadLength" false, MiX.Fx.xk "BadPlace" "BadTrain" false, MiX.Fx.xk "BadPlace" "BadHead" false, MiX.Fx.xk "BadPlace" "BadPlace" true, MiX.Fx.xk "BadPlace" "BadSites" false, MiX.Fx.xk "BadPlace" "BadStrength" false, MiX.Fx.xk "BadPlace" "BadPosts" false, MiX.Fx.xk "BadPlace" "BadLoads" false, MiX.Fx.xk "BadPlace" "BadWeight" false, MiX.Fx.xk "BadPlace" "BadTale" false, MiX.Fx.xk "BadPlace" "TooMany" false, MiX.Fx.xk "BadPlace" "TooMuch" false, MiX.Fx.xk "BadPlace" "NotThere" false, MiX.Fx.xk "BadSites" "BeamError" true, MiX.Fx.xk "BadSites" "BadLength" false, MiX.Fx.xk "BadSites" "BadTrain" false]
def fx8 : List MiX.Fx := [MiX.Fx.xk "BadSites" "BadHead" false, MiX.Fx.xk "BadSites" "BadPlace" false, MiX.Fx.xk "BadSites" "BadSites" true, MiX.Fx.xk "BadSites" "BadStrength" false, MiX.Fx.xk "BadSites" "BadPosts" false, MiX.Fx.xk "BadSites" "BadLoads" false, MiX.Fx.xk "BadSites" "BadWeight" false, MiX.Fx.xk "BadSites" "BadTale" false, MiX.Fx.xk "BadSites" "TooMany" false, MiX.Fx.xk "BadSites" "TooMuch" false, MiX.Fx.xk "BadSites" "NotThere" false, MiX.Fx.xk "BadStrength" "BeamError" true, MiX.Fx.xk "BadStrength" "BadLength" false, MiX.Fx.xk "BadStrength" "BadTrain" false, MiX.Fx.xk "BadStrength" "BadHead" false, MiX.Fx.xk "BadStrength" "BadPlace" false, MiX.Fx.xk "BadStrength" "BadSites" false, MiX.Fx.xk "BadStrength" "BadStrength" true, MiX.Fx.xk "BadStrength" "BadPosts" false, MiX.Fx.xk "BadStrength" "BadLoads" false]
def fx9 : List MiX.Fx := [MiX.Fx.xk "BadStrength" "BadWeight" false, MiX.Fx.xk "BadStrength" "BadTale" false, MiX.Fx.xk "BadStrength" "TooMany" false, MiX.Fx.xk "BadStrength" "TooMuch" false, MiX.Fx.xk "BadStrength" "NotThere" false, MiX.Fx.xk "BadPosts" "BeamError" true, MiX.Fx.xk "BadPosts" "BadLength" false, MiX.Fx.xk "BadPosts" "BadTrain" false, MiX.Fx.xk "BadPosts" "BadHead" false, MiX.Fx.xk "BadPosts" "BadPlace" false, MiX.Fx.xk "BadPosts" "BadSites" false, MiX.Fx.xk "BadPosts" "BadStrength" false, MiX.Fx.xk "BadPosts" "BadPosts" true, MiX.Fx.xk "BadPosts" "BadLoads" false, MiX.Fx.xk "BadPosts" "BadWeight" false, MiX.Fx.xk "BadPosts" "BadTale" false, MiX.Fx.xk "BadPosts" "TooMany" false, MiX.Fx.xk "BadPosts" "TooMuch" false, MiX.Fx.xk "BadPosts" "NotThere" false, MiX.Fx.xk "BadLoads" "BeamError" true]
def fx10 : List MiX.Fx := [MiX.Fx.xk "BadLoads" "BadLength" false, MiX.Fx.xk "BadLoads" "BadTrain" false, MiX.Fx.xk "BadLoads" "BadHead" false, MiX.Fx.xk "BadLoads" "BadPlace" false, MiX.Fx.xk "BadLoads" "BadSites" false, MiX.Fx.xk "BadLoads" "BadStrength" false, MiX.Fx.xk "BadLoads" "BadPosts" false, MiX.Fx.xk "BadLoads" "BadLoads" true, MiX.Fx.xk "BadLoads" "BadWeight" false, MiX.Fx.xk "BadLoads" "BadTale" false, MiX.Fx.xk "BadLoads" "TooMany" false, MiX.Fx.xk "BadLoads" "TooMuch" false, MiX.Fx.xk "BadLoads" "NotThere" false, MiX.Fx.xk "BadWeight" "BeamError" true, MiX.Fx.xk "BadWeight" "BadLength" false, MiX.Fx.xk "BadWeight" "BadTrain" false, MiX.Fx.xk "BadWeight" "BadHead" false, MiX.Fx.xk "BadWeight" "BadPlace" false, MiX.Fx.xk "BadWeight" "BadSites" false, MiX.Fx.xk "BadWeight" "BadStrength" false]
def fx11 : List MiX.Fx := [MiX.Fx.xk "BadWeight" "BadPosts" false, MiX.Fx.xk "BadWeight" "BadLoads" false, MiX.Fx.xk "BadWeight" "BadWeight" true, MiX.Fx.xk "BadWeight" "BadTale" false, MiX.Fx.xk "BadWeight" "TooMany" false, MiX.Fx.xk "BadWeight" "TooMuch" false, MiX.Fx.xk "BadWeight" "NotThere" false, MiX.Fx.xk "BadTale" "BeamError" true, MiX.Fx.xk "BadTale" "BadLength" false, MiX.Fx.xk "BadTale" "BadTrain" false, MiX.Fx.xk "BadTale" "BadHead" false, MiX.Fx.xk "BadTale" "BadPlace" false, MiX.Fx.xk "BadTale" "BadSites" false, MiX.Fx.xk "BadTale" "BadStrength" false, MiX.Fx.xk "BadTale" "BadPosts" false, MiX.Fx.xk "BadTale" "BadLoads" false, MiX.Fx.xk "BadTale" "BadWeight" false, MiX.Fx.xk "BadTale" "BadTale" true, MiX.Fx.xk "BadTale" "TooMany" false, MiX.Fx.xk "BadTale" "TooMuch" false]
def fx12 : List MiX.Fx := [MiX.Fx.xk "BadTale" "NotThere" false, MiX.Fx.xk "TooMany" "BeamError" true, MiX.Fx.xk "TooMany" "BadLength" false, MiX.Fx.xk "TooMany" "BadTrain" false, MiX.Fx.xk "TooMany" "BadHead" false, MiX.Fx.xk "TooMany" "BadPlace" false, MiX.Fx.xk "TooMany" "BadSites" false, MiX.Fx.xk "TooMany" "BadStrength" false, MiX.Fx.xk "TooMany" "BadPosts" false, MiX.Fx.xk "TooMany" "BadLoads" false, MiX.Fx.xk "TooMany" "BadWeight" false, MiX.Fx.xk "TooMany" "BadTale" false, MiX.Fx.xk "TooMany" "TooMany" true, MiX.Fx.xk "TooMany" "TooMuch" false, MiX.Fx.xk "TooMany" "NotThere" false, MiX.Fx.xk "TooMuch" "BeamError" true, MiX.Fx.xk "TooMuch" "BadLength" false, MiX.Fx.xk "TooMuch" "BadTrain" false, MiX.Fx.xk "TooMuch" "BadHead" false, MiX.Fx.xk "TooMuch" "BadPlace" false]
def fx13 : List MiX.Fx := [MiX.Fx.xk "TooMuch" "BadSites" false, MiX.Fx.xk "TooMuch" "BadStrength" false, MiX.Fx.xk "TooMuch" "BadPosts" false, MiX.Fx.xk "TooMuch" "BadLoads" false, MiX.Fx.xk "TooMuch" "BadWeight" false, MiX.Fx.xk "TooMuch" "BadTale" false, MiX.Fx.xk "TooMuch" "TooMany" false, MiX.Fx.xk "TooMuch" "TooMuch" true, MiX.Fx.xk "TooMuch" "NotThere" false, MiX.Fx.xk "NotThere" "BeamError" true, MiX.Fx.xk "NotThere" "BadLength" false, MiX.Fx.xk "NotThere" "BadTrain" false, MiX.Fx.xk "NotThere" "BadHead" false, MiX.Fx.xk "NotThere" "BadPlace" false, MiX.Fx.xk "NotThere" "BadSites" false, MiX.Fx.xk "NotThere" "BadStrength" false, MiX.Fx.xk "NotThere" "BadPosts" false, MiX.Fx.xk "NotThere" "BadLoads" false, MiX.Fx.xk "NotThere" "BadWeight" false, MiX.Fx.xk "NotThere" "BadTale" false]
def fx14 : List MiX.Fx := [MiX.Fx.xk "NotThere" "TooMany" false, MiX.Fx.xk "NotThere" "TooMuch" false, MiX.Fx.xk "NotThere" "NotThere" true]
def fx : List MiX.Fx := fx0 ++ fx1 ++ fx2 ++ fx3 ++ fx4 ++ fx5 ++ fx6 ++ fx7 ++ fx8 ++ fx9 ++ fx10 ++ fx11 ++ fx12 ++ fx13 ++ fx14
def tf : List He.Defn := [("_law_beam_right", none), ("_law_rest_right", none), ("_law_deck_right", none)]
def lo0 : List Str := ["_wall", "BeamError", "BadLength", "BadTrain", "BadHead", "BadPlace", "BadSites", "BadStrength", "BadPosts", "BadLoads", "BadWeight", "BadTale", "TooMany", "TooMuch", "NotThere", "is_whole", "is_between", "common", "made", "is_share"]
def lo1 : List Str := ["is_within", "is_less", "put_together", "LONGEST", "HEAVIEST_beams", "MOST_WEIGHTS", "FIRST_HEAD", "LAST_HEAD", "STRONGEST", "asked_length", "asked_strength", "is_axle", "asked_train", "asked_head", "loads_of", "loads_of_beams", "bears_by", "bent_by", "bent_at", "asked_place"]
def lo2 : List Str := ["bears", "bent", "shape", "better", "worst_for", "turns_of", "middle_of", "worst_of", "most_by", "MOST_THERE", "MOST_LINES", "part_of", "loads_of_telling", "with_one", "most_of", "holds", "holds_telling", "is_deed", "first_wrong", "Deck"]
def lo3 : List Str := ["MOST_POSTS", "MOST_LOADS", "FARTHEST_lying", "HEAVIEST_lying", "is_load", "asked_plank", "about", "tips", "shares_of", "MOST_SITES", "FARTHEST_spans", "asked_sites", "holds_spans", "posts_of", "Answer", "Laid", "Never", "Lies", "Tips", "Right"]
def lo4 : List Str := ["Wrong", "plank", "laid", "judged", "worst_at", "worst", "_law_refused", "_law_each", "_law_no_trains", "_law_no_shares", "_law_beam_right", "_law_rest_right", "_law_deck_right"]
def loose : List Str := lo0 ++ lo1 ++ lo2 ++ lo3 ++ lo4
abbrev R : PySem.W.OpenRow := PySem.W.OpenLaw.row PySem.Challenge.rw_beamroll_k10_refused
abbrev hk : PySem.W.Hook := MiX.hookT 4 fa fx fn tf
def ob (s : PySem.W.SharedT) : He.AlD × Bool := MiX.obsTG 4 fa fx fn tf (HandSHeadRun.getT s)
theorem ob_eq (s : PySem.W.SharedT) : ob s = hk.obs s.abs := MiX.obsTG_eq (HandSHeadRun.getT_eq s)
theorem run (w : World) : HandSHeadRun.RunEq R (PySem.W.view R.prog [110]) hk ob 20000 loose w := by
  intro os
  kernel_rfl
end Hd

set_option linter.all false
set_option maxRecDepth 100000
namespace P10
open Mi PySem
def fuel : Nat := 2 ^ 5000
/-- def 0: slots 0 k -/
def f__wall : Df := ⟨"_wall", "_wall", ("_wall", none), ["k"], 1,
  [.wh 0 (.cst (.bl true)) [.ps]], false, none⟩
/-- def 1: slots 0 thing -/
def f_is_whole : Df := ⟨"is_whole", "is_whole", ("is_whole", none), ["thing"], 1,
  [.rt (.and [(.isi (.var 0) (.ty "int")), (.not (.isi (.var 0) (.ty "bool")))])], false, none⟩
/-- def 2: slots 0 thing 1 least 2 most -/
def f_is_between : Df := ⟨"is_between", "is_between", ("is_between", none), ["thing", "least", "most"], 3,
  [.rt (.and [(.call true 1 [(.var 0)]), (.cmp2 .le .le (.var 1) (.var 0) (.var 2))])], false, none⟩
/-- def 3: slots 0 one 1 other -/
def f_common : Df := ⟨"common", "common", ("common", none), ["one", "other"], 2,
  [.wh fuel (.cmp .ne (.var 1) (.cst (.int 0))) [.par [0, 1] [(.var 1), (.bin .mod (.var 0) (.var 1))]],
   .rt (.var 0)], false, none⟩
/-- def 4: slots 0 above 1 below 2 part -/
def f_made : Df := ⟨"made", "made", ("made", none), ["above", "below", "part"], 2,
  [.as (.nm 2) (.call true 3 [(.b1 .abs (.var 0)), (.var 1)]),
   .rt (.tup [(.bin .fdiv (.var 0) (.var 2)), (.bin .fdiv (.var 1) (.var 2))])], false, none⟩
/-- def 5: slots 0 thing 1 one -/
def f_is_share : Df := ⟨"is_share", "is_share", ("is_share", none), ["thing", "one"], 1,
  [.iff (.or [(.not (.isi (.var 0) (.ty "tuple"))), (.cmp .ne (.b1 .len (.var 0)) (.cst (.int 2))), (.not (.b1 .all (.lc false [("one", 1)] (.nm 1) (.sq (.var 0)) [] (.call true 1 [(.var 1)]))))]) [.rt (.cst (.bl false))] [],
   .rt (.and [(.cmp .gt (.idx (.var 0) (.cst (.int 1))) (.cst (.int 0))), (.cmp .eq (.call true 3 [(.b1 .abs (.idx (.var 0) (.cst (.int 0)))), (.idx (.var 0) (.cst (.int 1)))]) (.cst (.int 1)))])], false, none⟩
/-- def 6: slots 0 thing 1 least 2 most -/
def f_is_within : Df := ⟨"is_within", "is_within", ("is_within", none), ["thing", "least", "most"], 3,
  [.rt (.and [(.call true 5 [(.var 0)]), (.cmp2 .le .le (.bin .mul (.var 1) (.idx (.var 0) (.cst (.int 1)))) (.idx (.var 0) (.cst (.int 0))) (.bin .mul (.var 2) (.idx (.var 0) (.cst (.int 1)))))])], false, none⟩
/-- def 7: slots 0 one 1 other -/
def f_is_less : Df := ⟨"is_less", "is_less", ("is_less", none), ["one", "other"], 2,
  [.rt (.cmp .lt (.bin .mul (.idx (.var 0) (.cst (.int 0))) (.idx (.var 1) (.cst (.int 1)))) (.bin .mul (.idx (.var 1) (.cst (.int 0))) (.idx (.var 0) (.cst (.int 1)))))], false, none⟩
/-- def 8: slots 0 one 1 other -/
def f_put_together : Df := ⟨"put_together", "put_together", ("put_together", none), ["one", "other"], 2,
  [.rt (.call true 4 [(.bin .add (.bin .mul (.idx (.var 0) (.cst (.int 0))) (.idx (.var 1) (.cst (.int 1)))) (.bin .mul (.idx (.var 1) (.cst (.int 0))) (.idx (.var 0) (.cst (.int 1))))), (.bin .mul (.idx (.var 0) (.cst (.int 1))) (.idx (.var 1) (.cst (.int 1))))])], false, none⟩
/-- def 9: slots 0 length -/
def f_asked_length : Df := ⟨"asked_length", "asked_length", ("asked_length", none), ["length"], 1,
  [.iff (.not (.call true 2 [(.var 0), (.cst (.int 1)), (.glb "LONGEST" (1000))])) [.rs 1] []], false, none⟩
/-- def 10: slots 0 strength -/
def f_asked_strength : Df := ⟨"asked_strength", "asked_strength", ("asked_strength", none), ["strength"], 1,
  [.iff (.not (.call true 2 [(.var 0), (.cst (.int 1)), (.glb "STRONGEST" (1000000000))])) [.rs 6] []], false, none⟩
/-- def 11: slots 0 thing -/
def f_is_axle : Df := ⟨"is_axle", "is_axle", ("is_axle", none), ["thing"], 1,
  [.iff (.or [(.not (.isi (.var 0) (.ty "tuple"))), (.cmp .ne (.b1 .len (.var 0)) (.cst (.int 2)))]) [.rt (.cst (.bl false))] [],
   .rt (.and [(.call true 2 [(.idx (.var 0) (.cst (.int 0))), (.cst (.int 0)), (.glb "LONGEST" (1000))]), (.call true 2 [(.idx (.var 0) (.cst (.int 1))), (.cst (.int 1)), (.glb "HEAVIEST_beams" (1000))])])], false, none⟩
/-- def 12: slots 0 train 1 one 2 at -/
def f_asked_train : Df := ⟨"asked_train", "asked_train", ("asked_train", none), ["train", "one", "at"], 1,
  [.iff (.or [(.not (.isi (.var 0) (.ty "list"))), (.not (.cmp2 .le .le (.cst (.int 1)) (.b1 .len (.var 0)) (.glb "MOST_WEIGHTS" (8)))), (.not (.b1 .all (.lc false [("one", 1)] (.nm 1) (.sq (.var 0)) [] (.call true 11 [(.var 1)]))))]) [.rs 2] [],
   .iff (.or [(.cmp .ne (.idx (.idx (.var 0) (.cst (.int 0))) (.cst (.int 0))) (.cst (.int 0))), (.not (.b1 .all (.lc false [("at", 2)] (.nm 2) (.rg [(.cst (.int 1)), (.b1 .len (.var 0))]) [] (.cmp .lt (.idx (.idx (.var 0) (.bin .sub (.var 2) (.cst (.int 1)))) (.cst (.int 0))) (.idx (.idx (.var 0) (.var 2)) (.cst (.int 0)))))))]) [.rs 2] []], false, none⟩
/-- def 13: slots 0 length 1 train 2 head -/
def f_asked_head : Df := ⟨"asked_head", "asked_head", ("asked_head", none), ["length", "train", "head"], 3,
  [.ex (.call true 9 [(.var 0)]),
   .ex (.call false 12 [(.var 1)]),
   .iff (.not (.call true 6 [(.var 2), (.glb "FIRST_HEAD" (-1000)), (.glb "LAST_HEAD" (3000))])) [.rs 3] []], false, none⟩
/-- def 14: slots 0 length 1 train 2 head 3 found 4 back 5 weight 6 place -/
def f_loads_of : Df := ⟨"loads_of", "loads_of", ("loads_of_beams", none), ["length", "train", "head", "found", "back", "weight", "place"], 3,
  [.as (.nm 3) (.lst true []),
   .fo (.tp [(.nm 4), (.nm 5)]) (.sq (.var 1)) [.as (.nm 6) (.bin .sub (.idx (.var 2) (.cst (.int 0))) (.bin .mul (.var 4) (.idx (.var 2) (.cst (.int 1))))),
   .iff (.cmp2 .le .le (.cst (.int 0)) (.var 6) (.bin .mul (.var 0) (.idx (.var 2) (.cst (.int 1))))) [.app (.var 3) (.tup [(.var 6), (.var 5)])] []],
   .fz 3,
   .rt (.var 3)], false, none⟩
/-- def 15: slots 0 length 1 part 2 loads 3 left 4 right 5 place 6 weight -/
def f_bears_by : Df := ⟨"bears_by", "bears_by", ("bears_by", none), ["length", "part", "loads", "left", "right", "place", "weight"], 3,
  [.as (.nm 3) (.b1 .sum (.lc false [("place", 5), ("weight", 6)] (.tp [(.nm 5), (.nm 6)]) (.sq (.var 2)) [] (.bin .mul (.var 6) (.bin .sub (.bin .mul (.var 0) (.var 1)) (.var 5))))),
   .as (.nm 4) (.b1 .sum (.lc false [("place", 5), ("weight", 6)] (.tp [(.nm 5), (.nm 6)]) (.sq (.var 2)) [] (.bin .mul (.var 6) (.var 5)))),
   .rt (.tup [(.call true 4 [(.var 3), (.bin .mul (.var 0) (.var 1))]), (.call true 4 [(.var 4), (.bin .mul (.var 0) (.var 1))])])], false, none⟩
/-- def 16: slots 0 length 1 part 2 loads 3 place 4 above 5 below 6 found 7 here 8 weight -/
def f_bent_by : Df := ⟨"bent_by", "bent_by", ("bent_by", none), ["length", "part", "loads", "place", "above", "below", "found", "here", "weight"], 4,
  [.as (.tp [(.nm 4), (.nm 5)]) (.var 3),
   .as (.nm 6) (.bin .mul (.var 4) (.b1 .sum (.lc false [("here", 7), ("weight", 8)] (.tp [(.nm 7), (.nm 8)]) (.sq (.var 2)) [] (.bin .mul (.var 8) (.bin .sub (.bin .mul (.var 0) (.var 1)) (.var 7)))))),
   .fo (.tp [(.nm 7), (.nm 8)]) (.sq (.var 2)) [.iff (.cmp .lt (.bin .mul (.var 7) (.var 5)) (.bin .mul (.var 4) (.var 1))) [.as (.nm 6) (.bin .sub (.var 6) (.bin .mul (.bin .mul (.var 0) (.var 8)) (.bin .sub (.bin .mul (.var 4) (.var 1)) (.bin .mul (.var 7) (.var 5)))))] []],
   .rt (.tup [(.var 6), (.bin .mul (.bin .mul (.var 0) (.var 1)) (.var 5))])], false, none⟩
/-- def 17: slots 0 length 1 train 2 head 3 place -/
def f_bent_at : Df := ⟨"bent_at", "bent_at", ("bent_at", none), ["length", "train", "head", "place"], 4,
  [.rt (.call true 16 [(.var 0), (.idx (.var 2) (.cst (.int 1))), (.call true 14 [(.var 0), (.var 1), (.var 2)]), (.var 3)])], false, none⟩
/-- def 18: slots 0 length 1 place -/
def f_asked_place : Df := ⟨"asked_place", "asked_place", ("asked_place", none), ["length", "place"], 2,
  [.iff (.not (.call true 6 [(.var 1), (.cst (.int 0)), (.var 0)])) [.rs 4] []], false, none⟩
/-- def 19: slots 0 length 1 train 2 head -/
def f_bears : Df := ⟨"bears", "bears", ("bears", none), ["length", "train", "head"], 3,
  [.ex (.call false 13 [(.var 0), (.var 1), (.var 2)]),
   .rt (.call true 15 [(.var 0), (.idx (.var 2) (.cst (.int 1))), (.call true 14 [(.var 0), (.var 1), (.var 2)])])], false, none⟩
/-- def 20: slots 0 length 1 train 2 head 3 place 4 above 5 below -/
def f_bent : Df := ⟨"bent", "bent", ("bent", none), ["length", "train", "head", "place", "above", "below"], 4,
  [.ex (.call false 13 [(.var 0), (.var 1), (.var 2)]),
   .ex (.call true 18 [(.var 0), (.var 3)]),
   .as (.tp [(.nm 4), (.nm 5)]) (.call true 17 [(.var 0), (.var 1), (.var 2), (.var 3)]),
   .rt (.call true 4 [(.var 4), (.var 5)])], false, none⟩
/-- def 21: slots 0 length 1 place 2 at 3 low 4 high -/
def f_shape : Df := ⟨"shape", "shape", ("shape", none), ["length", "place", "at", "low", "high"], 3,
  [.ex (.call true 9 [(.var 0)]),
   .ex (.call true 18 [(.var 0), (.var 1)]),
   .ex (.call true 18 [(.var 0), (.var 2)]),
   .as (.tp [(.nm 3), (.nm 4)]) (.ite (.call true 7 [(.var 2), (.var 1)]) (.tup [(.var 2), (.var 1)]) (.tup [(.var 1), (.var 2)])),
   .rt (.call true 4 [(.bin .mul (.idx (.var 3) (.cst (.int 0))) (.bin .sub (.bin .mul (.var 0) (.idx (.var 4) (.cst (.int 1)))) (.idx (.var 4) (.cst (.int 0))))), (.bin .mul (.bin .mul (.idx (.var 3) (.cst (.int 1))) (.idx (.var 4) (.cst (.int 1)))) (.var 0))])], false, none⟩
/-- def 22: slots 0 one 1 other -/
def f_better : Df := ⟨"better", "better", ("better", none), ["one", "other"], 2,
  [.iff (.or [(.cmp .is (.var 1) (.cst .non)), (.call true 7 [(.idx (.var 1) (.cst (.int 0))), (.idx (.var 0) (.cst (.int 0)))])]) [.rt (.cst (.bl true))] [],
   .iff (.call true 7 [(.idx (.var 0) (.cst (.int 0))), (.idx (.var 1) (.cst (.int 0)))]) [.rt (.cst (.bl false))] [],
   .iff (.or [(.call true 7 [(.idx (.var 0) (.cst (.int 1))), (.idx (.var 1) (.cst (.int 1)))]), (.call true 7 [(.idx (.var 1) (.cst (.int 1))), (.idx (.var 0) (.cst (.int 1)))])]) [.rt (.call true 7 [(.idx (.var 0) (.cst (.int 1))), (.idx (.var 1) (.cst (.int 1)))])] [],
   .rt (.call true 7 [(.idx (.var 0) (.cst (.int 2))), (.idx (.var 1) (.cst (.int 2)))])], false, none⟩
/-- def 23: slots 0 length 1 train 2 place 3 best 4 back 5 weight 6 head 7 here -/
def f_worst_for : Df := ⟨"worst_for", "worst_for", ("worst_for", none), ["length", "train", "place", "best", "back", "weight", "head", "here"], 3,
  [.as (.nm 3) (.cst .non),
   .fo (.tp [(.nm 4), (.nm 5)]) (.sq (.var 1)) [.as (.nm 6) (.call true 8 [(.var 2), (.tup [(.var 4), (.cst (.int 1))])]),
   .as (.nm 7) (.tup [(.call true 17 [(.var 0), (.var 1), (.var 6), (.var 2)]), (.var 6), (.var 2)]),
   .iff (.call true 22 [(.var 7), (.var 3)]) [.as (.nm 3) (.var 7)] []],
   .rt (.tup [(.call true 4 [(.idx (.idx (.var 3) (.cst (.int 0))) (.cst (.int 0))), (.idx (.idx (.var 3) (.cst (.int 0))) (.cst (.int 1)))]), (.idx (.var 3) (.cst (.int 1)))])], false, none⟩
/-- def 24: slots 0 length 1 train 2 own 3 found 4 back 5 weight 6 one -/
def f_turns_of : Df := ⟨"turns_of", "turns_of", ("turns_of", none), ["length", "train", "own", "found", "back", "weight", "one"], 3,
  [.as (.nm 3) (.lst false [(.cst (.int 0)), (.var 0)]),
   .fo (.tp [(.nm 4), (.nm 5)]) (.sq (.var 1)) [.as (.nm 3) (.bin .add (.var 3) (.lst false [(.bin .sub (.var 4) (.var 2)), (.bin .sub (.bin .add (.var 0) (.var 4)) (.var 2))]))],
   .rt (.b1 .sset (.lc false [("one", 6)] (.nm 6) (.sq (.var 3)) [(.cmp2 .le .le (.cst (.int 0)) (.var 6) (.var 0))] (.var 6)))], false, none⟩
/-- def 25: slots 0 length 1 train 2 own 3 first 4 last 5 heavy 6 far 7 back 8 weight 9 place -/
def f_middle_of : Df := ⟨"middle_of", "middle_of", ("middle_of", none), ["length", "train", "own", "first", "last", "heavy", "far", "back", "weight", "place"], 5,
  [.as (.tp [(.nm 5), (.nm 6)]) (.tup [(.cst (.int 0)), (.cst (.int 0))]),
   .fo (.tp [(.nm 7), (.nm 8)]) (.sq (.var 1)) [.iff (.cmp2 .le .le (.cst (.int 0)) (.bin .add (.bin .add (.var 3) (.var 4)) (.bin .mul (.cst (.int 2)) (.bin .sub (.var 2) (.var 7)))) (.bin .mul (.cst (.int 2)) (.var 0))) [.par [5, 6] [(.bin .add (.var 5) (.var 8)), (.bin .add (.var 6) (.bin .mul (.var 8) (.bin .sub (.var 2) (.var 7))))]] []],
   .as (.nm 9) (.call true 4 [(.bin .sub (.bin .mul (.var 0) (.var 5)) (.var 6)), (.bin .mul (.cst (.int 2)) (.var 5))]),
   .rt (.ite (.and [(.call true 7 [(.tup [(.var 3), (.cst (.int 1))]), (.var 9)]), (.call true 7 [(.var 9), (.tup [(.var 4), (.cst (.int 1))])])]) (.var 9) (.cst .non))], false, none⟩
/-- def 26: slots 0 length 1 train 2 best 3 own 4 weight 5 turns 6 places 7 at 8 place 9 head 10 here 11 one -/
def f_worst_of : Df := ⟨"worst_of", "worst_of", ("worst_of", none), ["length", "train", "best", "own", "weight", "turns", "places", "at", "place", "head", "here", "one"], 2,
  [.as (.nm 2) (.cst .non),
   .fo (.tp [(.nm 3), (.nm 4)]) (.sq (.var 1)) [.as (.nm 5) (.call true 24 [(.var 0), (.var 1), (.var 3)]),
   .as (.nm 6) (.lc true [("one", 11)] (.nm 11) (.sq (.var 5)) [] (.tup [(.var 11), (.cst (.int 1))])),
   .fo (.nm 7) (.rg [(.cst (.int 1)), (.b1 .len (.var 5))]) [.as (.nm 8) (.call true 25 [(.var 0), (.var 1), (.var 3), (.idx (.var 5) (.bin .sub (.var 7) (.cst (.int 1)))), (.idx (.var 5) (.var 7))]),
   .iff (.cmp .isnot (.var 8) (.cst .non)) [.app (.var 6) (.var 8)] []],
   .fz 6,
   .fo (.nm 8) (.sq (.var 6)) [.as (.nm 9) (.call true 8 [(.var 8), (.tup [(.var 3), (.cst (.int 1))])]),
   .as (.nm 10) (.tup [(.call true 17 [(.var 0), (.var 1), (.var 9), (.var 8)]), (.var 9), (.var 8)]),
   .iff (.call true 22 [(.var 10), (.var 2)]) [.as (.nm 2) (.var 10)] []]],
   .rt (.tup [(.call true 4 [(.idx (.idx (.var 2) (.cst (.int 0))) (.cst (.int 0))), (.idx (.idx (.var 2) (.cst (.int 0))) (.cst (.int 1)))]), (.idx (.var 2) (.cst (.int 1))), (.idx (.var 2) (.cst (.int 2)))])], false, none⟩
/-- def 27: slots 0 length 1 part 2 loads 3 best 4 here 5 weight 6 place 7 found -/
def f_most_by : Df := ⟨"most_by", "most_by", ("most_by", none), ["length", "part", "loads", "best", "here", "weight", "place", "found"], 3,
  [.as (.nm 3) (.tup [(.tup [(.cst (.int 0)), (.cst (.int 1))]), (.tup [(.cst (.int 0)), (.cst (.int 1))])]),
   .fo (.tp [(.nm 4), (.nm 5)]) (.sq (.var 2)) [.as (.nm 6) (.call true 4 [(.var 4), (.var 1)]),
   .as (.nm 7) (.call true 16 [(.var 0), (.var 1), (.var 2), (.var 6)]),
   .iff (.or [(.call true 7 [(.idx (.var 3) (.cst (.int 0))), (.var 7)]), (.and [(.not (.call true 7 [(.var 7), (.idx (.var 3) (.cst (.int 0)))])), (.call true 7 [(.var 6), (.idx (.var 3) (.cst (.int 1)))])])]) [.as (.nm 3) (.tup [(.var 7), (.var 6)])] []],
   .rt (.tup [(.call true 4 [(.idx (.idx (.var 3) (.cst (.int 0))) (.cst (.int 0))), (.idx (.idx (.var 3) (.cst (.int 0))) (.cst (.int 1)))]), (.idx (.var 3) (.cst (.int 1)))])], false, none⟩
/-- def 28: slots 0 there 1 found 2 place 3 weight -/
def f_part_of : Df := ⟨"part_of", "part_of", ("part_of", none), ["there", "found", "place", "weight"], 1,
  [.as (.nm 1) (.cst (.int 1)),
   .fo (.tp [(.nm 2), (.nm 3)]) (.sq (.var 0)) [.as (.nm 1) (.bin .mul (.var 1) (.idx (.call true 4 [(.idx (.var 2) (.cst (.int 1))), (.var 1)]) (.cst (.int 0))))],
   .rt (.var 1)], false, none⟩
/-- def 29: slots 0 there 1 part 2 place 3 weight -/
def f_loads_of29 : Df := ⟨"loads_of", "loads_of", ("loads_of_telling", none), ["there", "part", "place", "weight"], 1,
  [.as (.nm 1) (.call true 28 [(.var 0)]),
   .rt (.tup [(.var 1), (.lc false [("place", 2), ("weight", 3)] (.tp [(.nm 2), (.nm 3)]) (.sq (.var 0)) [] (.tup [(.bin .mul (.idx (.var 2) (.cst (.int 0))) (.bin .fdiv (.var 1) (.idx (.var 2) (.cst (.int 1))))), (.var 3)]))])], false, none⟩
/-- def 30: slots 0 there 1 place 2 weight 3 at 4 here 5 heavy -/
def f_with_one : Df := ⟨"with_one", "with_one", ("with_one", none), ["there", "place", "weight", "at", "here", "heavy"], 3,
  [.fo (.tp [(.nm 3), (.tp [(.nm 4), (.nm 5)])]) (.en (.var 0)) [.iff (.or [(.call true 7 [(.var 1), (.var 4)]), (.and [(.cmp .eq (.var 1) (.var 4)), (.cmp .lt (.var 2) (.var 5))])]) [.rt (.addM (.bin .add (.sli (.var 0) none (some (.var 3))) (.lst false [(.tup [(.var 1), (.var 2)])])) (.sli (.var 0) (some (.var 3)) none))] []],
   .rt (.addM (.var 0) (.lst false [(.tup [(.var 1), (.var 2)])]))], false, none⟩
/-- def 31: slots 0 length 1 there 2 part 3 loads -/
def f_most_of : Df := ⟨"most_of", "most_of", ("most_of", none), ["length", "there", "part", "loads"], 2,
  [.as (.tp [(.nm 2), (.nm 3)]) (.call true 29 [(.var 1)]),
   .rt (.call true 27 [(.var 0), (.var 2), (.var 3)])], false, none⟩
/-- def 32: slots 0 length 1 strength 2 there 3 above 4 below -/
def f_holds : Df := ⟨"holds", "holds", ("holds_telling", none), ["length", "strength", "there", "above", "below"], 3,
  [.as (.tp [(.nm 3), (.nm 4)]) (.idx (.call true 31 [(.var 0), (.var 2)]) (.cst (.int 0))),
   .rt (.cmp .le (.var 3) (.bin .mul (.var 1) (.var 4)))], false, none⟩
/-- def 33: slots 0 thing 1 one -/
def f_is_deed : Df := ⟨"is_deed", "is_deed", ("is_deed", none), ["thing", "one"], 1,
  [.iff (.or [(.not (.isi (.var 0) (.ty "tuple"))), (.cmp .ne (.b1 .len (.var 0)) (.cst (.int 3))), (.not (.isi (.idx (.var 0) (.cst (.int 0))) (.ty "str")))]) [.rt (.cst (.bl false))] [],
   .iff (.cmp .notin (.idx (.var 0) (.cst (.int 0))) (.tup [(.cst (.str "put")), (.cst (.str "take"))])) [.rt (.cst (.bl false))] [],
   .iff (.or [(.not (.isi (.idx (.var 0) (.cst (.int 1))) (.ty "tuple"))), (.cmp .ne (.b1 .len (.idx (.var 0) (.cst (.int 1)))) (.cst (.int 2))), (.not (.b1 .all (.lc false [("one", 1)] (.nm 1) (.sq (.idx (.var 0) (.cst (.int 1)))) [] (.call true 1 [(.var 1)]))))]) [.rt (.cst (.bl false))] [],
   .rt (.call true 1 [(.idx (.var 0) (.cst (.int 2)))])], false, none⟩
/-- def 34: slots 0 length 1 strength 2 tale 3 there 4 at 5 word 6 place 7 weight -/
def f_first_wrong : Df := ⟨"first_wrong", "first_wrong", ("first_wrong", none), ["length", "strength", "tale", "there", "at", "word", "place", "weight"], 3,
  [.as (.nm 3) (.lst true []),
   .fo (.tp [(.nm 4), (.tp [(.nm 5), (.nm 6), (.nm 7)])]) (.en (.var 2)) [.iff (.or [(.not (.call true 6 [(.var 6), (.cst (.int 0)), (.var 0)])), (.not (.call true 2 [(.var 7), (.cst (.int 1)), (.glb "HEAVIEST_beams" (1000))]))]) [.rt (.var 4)] [],
   .iff (.cmp .eq (.var 5) (.cst (.str "put"))) [.as (.nm 3) (.callM 30 [(.var 3), (.var 6), (.var 7)]),
   .iff (.or [(.cmp .gt (.b1 .len (.var 3)) (.glb "MOST_THERE" (12))), (.not (.call true 32 [(.var 0), (.var 1), (.var 3)]))]) [.rt (.var 4)] []] [.iff (.cmp .isin (.tup [(.var 6), (.var 7)]) (.var 3)) [.rem (.var 3) (.tup [(.var 6), (.var 7)])] [.rt (.var 4)]]],
   .fz 3,
   .rt (.cst .non)], false, none⟩
/-- def 35: slots 0 self 1 length 2 strength -/
def f_Deck_init : Df := ⟨"__init__", "Deck.__init__", ("Deck", some "__init__"), ["self", "length", "strength"], 3,
  [.ex (.call true 9 [(.var 1)]),
   .ex (.call true 10 [(.var 2)]),
   .sfld (.var 0) "length" [14] (.var 1),
   .sfld (.var 0) "strength" [14] (.var 2),
   .sfld (.var 0) "loads" [14] (.lst true []),
   .sfld (.var 0) "lines" [14] (.lst true [])], false, none⟩
/-- def 36: slots 0 self 1 place -/
def f_Deck_ask_place : Df := ⟨"ask_place", "Deck.ask_place", ("Deck", some "ask_place"), ["self", "place"], 2,
  [.iff (.not (.call true 6 [(.var 1), (.cst (.int 0)), (.fld (.var 0) "length" [14])])) [.rs 4] []], false, none⟩
/-- def 37: slots 0 self 1 place 2 weight -/
def f_Deck_ask_both : Df := ⟨"ask_both", "Deck.ask_both", ("Deck", some "ask_both"), ["self", "place", "weight"], 3,
  [.ex (.meth (.var 0) "ask_place" [(14, 36)] [(.var 1)]),
   .iff (.not (.call true 2 [(.var 2), (.cst (.int 1)), (.glb "HEAVIEST_beams" (1000))])) [.rs 9] []], false, none⟩
/-- def 38: slots 0 self 1 place 2 weight 3 more -/
def f_Deck_put : Df := ⟨"put", "Deck.put", ("Deck", some "put"), ["self", "place", "weight", "more"], 3,
  [.ex (.meth (.var 0) "ask_both" [(14, 37)] [(.var 1), (.var 2)]),
   .iff (.cmp .eq (.b1 .len (.fld (.var 0) "loads" [14])) (.glb "MOST_THERE" (12))) [.rs 11] [],
   .as (.nm 3) (.callM 30 [(.fld (.var 0) "loads" [14]), (.var 1), (.var 2)]),
   .iff (.not (.call true 32 [(.fld (.var 0) "length" [14]), (.fld (.var 0) "strength" [14]), (.var 3)])) [.rs 12] [],
   .sfld (.var 0) "loads" [14] (.var 3),
   .app (.fld (.var 0) "lines" [14]) (.tup [(.cst (.str "put")), (.var 1), (.var 2)]),
   .rt (.b1 .len (.var 3))], false, none⟩
/-- def 39: slots 0 self 1 place 2 weight -/
def f_Deck_take : Df := ⟨"take", "Deck.take", ("Deck", some "take"), ["self", "place", "weight"], 3,
  [.ex (.meth (.var 0) "ask_both" [(14, 37)] [(.var 1), (.var 2)]),
   .iff (.cmp .notin (.tup [(.var 1), (.var 2)]) (.fld (.var 0) "loads" [14])) [.rs 13] [],
   .rem (.fld (.var 0) "loads" [14]) (.tup [(.var 1), (.var 2)]),
   .app (.fld (.var 0) "lines" [14]) (.tup [(.cst (.str "take")), (.var 1), (.var 2)]),
   .rt (.b1 .len (.fld (.var 0) "loads" [14]))], false, none⟩
/-- def 40: slots 0 self -/
def f_Deck_there : Df := ⟨"there", "Deck.there", ("Deck", some "there"), ["self"], 1,
  [.rt (.b1 .list (.fld (.var 0) "loads" [14]))], false, none⟩
/-- def 41: slots 0 self 1 part 2 loads -/
def f_Deck_bears : Df := ⟨"bears", "Deck.bears", ("Deck", some "bears"), ["self", "part", "loads"], 1,
  [.as (.tp [(.nm 1), (.nm 2)]) (.call true 29 [(.fld (.var 0) "loads" [14])]),
   .rt (.call true 15 [(.fld (.var 0) "length" [14]), (.var 1), (.var 2)])], false, none⟩
/-- def 42: slots 0 self 1 place 2 part 3 loads 4 above 5 below -/
def f_Deck_bent : Df := ⟨"bent", "Deck.bent", ("Deck", some "bent"), ["self", "place", "part", "loads", "above", "below"], 2,
  [.ex (.meth (.var 0) "ask_place" [(14, 36)] [(.var 1)]),
   .as (.tp [(.nm 2), (.nm 3)]) (.call true 29 [(.fld (.var 0) "loads" [14])]),
   .as (.tp [(.nm 4), (.nm 5)]) (.call true 16 [(.fld (.var 0) "length" [14]), (.var 2), (.var 3), (.var 1)]),
   .rt (.call true 4 [(.var 4), (.var 5)])], false, none⟩
/-- def 43: slots 0 self -/
def f_Deck_most : Df := ⟨"most", "Deck.most", ("Deck", some "most"), ["self"], 1,
  [.rt (.call true 31 [(.fld (.var 0) "length" [14]), (.fld (.var 0) "loads" [14])])], false, none⟩
/-- def 44: slots 0 self -/
def f_Deck_tale : Df := ⟨"tale", "Deck.tale", ("Deck", some "tale"), ["self"], 1,
  [.rt (.b1 .list (.fld (.var 0) "lines" [14]))], false, none⟩
/-- def 45: slots 0 thing -/
def f_is_load : Df := ⟨"is_load", "is_load", ("is_load", none), ["thing"], 1,
  [.iff (.or [(.not (.isi (.var 0) (.ty "tuple"))), (.cmp .ne (.b1 .len (.var 0)) (.cst (.int 2)))]) [.rt (.cst (.bl false))] [],
   .rt (.and [(.call true 2 [(.idx (.var 0) (.cst (.int 0))), (.neg (.glb "FARTHEST_lying" (1000))), (.glb "FARTHEST_lying" (1000))]), (.call true 2 [(.idx (.var 0) (.cst (.int 1))), (.cst (.int 1)), (.glb "HEAVIEST_lying" (1000))])])], false, none⟩
/-- def 46: slots 0 posts 1 loads 2 one 3 at -/
def f_asked_plank : Df := ⟨"asked_plank", "asked_plank", ("asked_plank", none), ["posts", "loads", "one", "at"], 2,
  [.iff (.or [(.not (.isi (.var 0) (.ty "list"))), (.not (.cmp2 .le .le (.cst (.int 1)) (.b1 .len (.var 0)) (.glb "MOST_POSTS" (6))))]) [.rs 7] [],
   .iff (.not (.b1 .all (.lc false [("one", 2)] (.nm 2) (.sq (.var 0)) [] (.call true 2 [(.var 2), (.neg (.glb "FARTHEST_lying" (1000))), (.glb "FARTHEST_lying" (1000))])))) [.rs 7] [],
   .iff (.not (.b1 .all (.lc false [("at", 3)] (.nm 3) (.rg [(.cst (.int 1)), (.b1 .len (.var 0))]) [] (.cmp .lt (.idx (.var 0) (.bin .sub (.var 3) (.cst (.int 1)))) (.idx (.var 0) (.var 3)))))) [.rs 7] [],
   .iff (.or [(.not (.isi (.var 1) (.ty "list"))), (.cmp .gt (.b1 .len (.var 1)) (.glb "MOST_LOADS" (8))), (.not (.b1 .all (.lc false [("one", 2)] (.nm 2) (.sq (.var 1)) [] (.call true 45 [(.var 2)]))))]) [.rs 8] []], false, none⟩
/-- def 47: slots 0 place 1 loads 2 here 3 weight -/
def f_about : Df := ⟨"about", "about", ("about", none), ["place", "loads", "here", "weight"], 2,
  [.rt (.b1 .sum (.lc false [("here", 2), ("weight", 3)] (.tp [(.nm 2), (.nm 3)]) (.sq (.var 1)) [] (.bin .mul (.var 3) (.bin .sub (.var 2) (.var 0)))))], false, none⟩
/-- def 48: slots 0 posts 1 loads 2 side -/
def f_tips : Df := ⟨"tips", "tips", ("tips", none), ["posts", "loads", "side"], 3,
  [.iff (.cmp .eq (.var 2) (.cst (.str "left"))) [.rt (.cmp .lt (.call true 47 [(.idx (.var 0) (.cst (.int 0))), (.var 1)]) (.cst (.int 0)))] [],
   .rt (.and [(.cmp .eq (.var 2) (.cst (.str "right"))), (.cmp .gt (.call true 47 [(.idx (.var 0) (.neg (.cst (.int 1)))), (.var 1)]) (.cst (.int 0)))])], false, none⟩
/-- def 49: slots 0 posts 1 loads 2 heavy 3 found 4 wide 5 right 6 post 7 here 8 weight -/
def f_shares_of : Df := ⟨"shares_of", "shares_of", ("shares_of", none), ["posts", "loads", "heavy", "found", "wide", "right", "post", "here", "weight"], 2,
  [.as (.nm 2) (.b1 .sum (.lc false [("here", 7), ("weight", 8)] (.tp [(.nm 7), (.nm 8)]) (.sq (.var 1)) [] (.var 8))),
   .as (.nm 3) (.lc true [("post", 6)] (.nm 6) (.sq (.var 0)) [] (.tup [(.cst (.int 0)), (.cst (.int 1))])),
   .iff (.cmp .eq (.b1 .len (.var 0)) (.cst (.int 1))) [.rt (.lst false [(.tup [(.var 2), (.cst (.int 1))])])] [],
   .as (.nm 4) (.bin .sub (.idx (.var 0) (.neg (.cst (.int 1)))) (.idx (.var 0) (.cst (.int 0)))),
   .as (.nm 5) (.call true 47 [(.idx (.var 0) (.cst (.int 0))), (.var 1)]),
   .si2 (.var 3) (.cst (.int 0)) (.var 3) (.neg (.cst (.int 1))) (.tup [(.call true 4 [(.bin .sub (.bin .mul (.var 2) (.var 4)) (.var 5)), (.var 4)]), (.call true 4 [(.var 5), (.var 4)])]),
   .fz 3,
   .rt (.var 3)], false, none⟩
/-- def 50: slots 0 sites 1 train 2 strength 3 one 4 at -/
def f_asked_sites : Df := ⟨"asked_sites", "asked_sites", ("asked_sites", none), ["sites", "train", "strength", "one", "at"], 3,
  [.iff (.or [(.not (.isi (.var 0) (.ty "list"))), (.not (.cmp2 .le .le (.cst (.int 2)) (.b1 .len (.var 0)) (.glb "MOST_SITES" (12))))]) [.rs 5] [],
   .iff (.not (.b1 .all (.lc false [("one", 3)] (.nm 3) (.sq (.var 0)) [] (.call true 2 [(.var 3), (.cst (.int 0)), (.glb "FARTHEST_spans" (1000))])))) [.rs 5] [],
   .iff (.not (.b1 .all (.lc false [("at", 4)] (.nm 4) (.rg [(.cst (.int 1)), (.b1 .len (.var 0))]) [] (.cmp .lt (.idx (.var 0) (.bin .sub (.var 4) (.cst (.int 1)))) (.idx (.var 0) (.var 4)))))) [.rs 5] [],
   .ex (.call false 12 [(.var 1)]),
   .ex (.call true 10 [(.var 2)])], false, none⟩
/-- def 51: slots 0 train 1 strength 2 one 3 other 4 known 5 length 6 above 7 below -/
def f_holds51 : Df := ⟨"holds", "holds", ("holds_spans", none), ["train", "strength", "one", "other", "known", "length", "above", "below"], 5,
  [.as (.nm 5) (.bin .sub (.var 3) (.var 2)),
   .iff (.din true (.var 5) (.var 4)) [.as (.tp [(.nm 6), (.nm 7)]) (.idx (.call true 26 [(.var 5), (.var 0)]) (.cst (.int 0))),
   .dput (.var 4) (.var 5) (.cmp .le (.var 6) (.bin .mul (.var 1) (.var 7)))] [],
   .rt (.dget (.var 4) (.var 5))], false, none⟩
/-- def 52: slots 0 sites 1 train 2 strength 3 known 4 posts 5 stretches 6 at 7 far -/
def f_posts_of : Df := ⟨"posts_of", "posts_of", ("posts_of", none), ["sites", "train", "strength", "known", "posts", "stretches", "at", "far"], 3,
  [.as (.tp [(.nm 3), (.nm 4), (.nm 5), (.nm 6)]) (.tup [.dct0, (.lst true [(.idx (.var 0) (.cst (.int 0)))]), (.lst true []), (.cst (.int 0))]),
   .wh fuel (.cmp .lt (.var 6) (.bin .sub (.b1 .len (.var 0)) (.cst (.int 1)))) [.iff (.not (.call false 51 [(.var 1), (.var 2), (.idx (.var 0) (.var 6)), (.idx (.var 0) (.bin .add (.var 6) (.cst (.int 1)))), (.var 3)])) [.rt (.tup [(.cst .non), (.tup [(.idx (.var 0) (.var 6)), (.idx (.var 0) (.bin .add (.var 6) (.cst (.int 1))))])])] [],
   .as (.nm 7) (.bin .add (.var 6) (.cst (.int 1))),
   .wh fuel (.and [(.cmp .lt (.bin .add (.var 7) (.cst (.int 1))) (.b1 .len (.var 0))), (.call false 51 [(.var 1), (.var 2), (.idx (.var 0) (.var 6)), (.idx (.var 0) (.bin .add (.var 7) (.cst (.int 1)))), (.var 3)])]) [.as (.nm 7) (.bin .add (.var 7) (.cst (.int 1)))],
   .iff (.cmp .lt (.var 7) (.bin .sub (.b1 .len (.var 0)) (.cst (.int 1)))) [.app (.var 5) (.tup [(.idx (.var 0) (.var 6)), (.idx (.var 0) (.bin .add (.var 7) (.cst (.int 1))))])] [],
   .app (.var 4) (.idx (.var 0) (.var 7)),
   .as (.nm 6) (.var 7)],
   .fz 4,
   .fz 5,
   .rt (.tup [(.tup [(.var 4), (.var 5)]), (.cst .non)])], false, none⟩
/-- def 53: slots 0 self 1 posts 2 stretches -/
def f_Laid_init : Df := ⟨"__init__", "Laid.__init__", ("Laid", some "__init__"), ["self", "posts", "stretches"], 3,
  [.sfld (.var 0) "posts" [16] (.listM (.var 1)),
   .sfld (.var 0) "stretches" [16] (.listM (.var 2))], false, none⟩
/-- def 54: slots 0 self 1 sites 2 train 3 strength -/
def f_Laid_shows : Df := ⟨"shows", "Laid.shows", ("Laid", some "shows"), ["self", "sites", "train", "strength"], 4,
  [.ex (.call true 0 [(.cst (.int 0))])], false, none⟩
/-- def 55: slots 0 self 1 stretch -/
def f_Never_init : Df := ⟨"__init__", "Never.__init__", ("Never", some "__init__"), ["self", "stretch"], 2,
  [.sfld (.var 0) "stretch" [17] (.var 1)], false, none⟩
/-- def 56: slots 0 self 1 sites 2 train 3 strength -/
def f_Never_shows : Df := ⟨"shows", "Never.shows", ("Never", some "shows"), ["self", "sites", "train", "strength"], 4,
  [.ex (.call true 0 [(.cst (.int 1))])], false, none⟩
/-- def 57: slots 0 self 1 shares -/
def f_Lies_init : Df := ⟨"__init__", "Lies.__init__", ("Lies", some "__init__"), ["self", "shares"], 2,
  [.sfld (.var 0) "shares" [18] (.listM (.var 1))], false, none⟩
/-- def 58: slots 0 self 1 posts 2 loads -/
def f_Lies_shows : Df := ⟨"shows", "Lies.shows", ("Lies", some "shows"), ["self", "posts", "loads"], 3,
  [.ex (.call true 0 [(.cst (.int 2))])], false, none⟩
/-- def 59: slots 0 self 1 side -/
def f_Tips_init : Df := ⟨"__init__", "Tips.__init__", ("Tips", some "__init__"), ["self", "side"], 2,
  [.sfld (.var 0) "side" [19] (.var 1)], false, none⟩
/-- def 60: slots 0 self 1 posts 2 loads -/
def f_Tips_shows : Df := ⟨"shows", "Tips.shows", ("Tips", some "shows"), ["self", "posts", "loads"], 3,
  [.ex (.call true 0 [(.cst (.int 3))])], false, none⟩
/-- def 61: slots 0 self 1 length 2 strength 3 tale -/
def f_Right_shows : Df := ⟨"shows", "Right.shows", ("Right", some "shows"), ["self", "length", "strength", "tale"], 4,
  [.ex (.call true 0 [(.cst (.int 4))])], false, none⟩
/-- def 62: slots 0 self 1 line -/
def f_Wrong_init : Df := ⟨"__init__", "Wrong.__init__", ("Wrong", some "__init__"), ["self", "line"], 2,
  [.sfld (.var 0) "line" [21] (.var 1)], false, none⟩
/-- def 63: slots 0 self 1 length 2 strength 3 tale -/
def f_Wrong_shows : Df := ⟨"shows", "Wrong.shows", ("Wrong", some "shows"), ["self", "length", "strength", "tale"], 4,
  [.ex (.call true 0 [(.cst (.int 5))])], false, none⟩
/-- def 64: slots 0 posts 1 loads 2 side -/
def f_plank : Df := ⟨"plank", "plank", ("plank", none), ["posts", "loads", "side"], 2,
  [.ex (.call true 46 [(.var 0), (.var 1)]),
   .fo (.nm 2) (.sq (.tup [(.cst (.str "left")), (.cst (.str "right"))])) [.iff (.call true 48 [(.var 0), (.var 1), (.var 2)]) [.rt (.mk 19 59 [(.var 2)])] []],
   .rt (.mk 18 57 [(.call true 49 [(.var 0), (.var 1)])])], false, none⟩
/-- def 65: slots 0 sites 1 train 2 strength 3 found 4 pair -/
def f_laid : Df := ⟨"laid", "laid", ("laid", none), ["sites", "train", "strength", "found", "pair"], 3,
  [.ex (.call false 50 [(.var 0), (.var 1), (.var 2)]),
   .as (.tp [(.nm 3), (.nm 4)]) (.call true 52 [(.var 0), (.var 1), (.var 2)]),
   .rt (.ite (.cmp .is (.var 3) (.cst .non)) (.mk 17 55 [(.var 4)]) (.mk 16 53 [(.idx (.var 3) (.cst (.int 0))), (.idx (.var 3) (.cst (.int 1)))]))], false, none⟩
/-- def 66: slots 0 length 1 strength 2 tale 3 line 4 one -/
def f_judged : Df := ⟨"judged", "judged", ("judged", none), ["length", "strength", "tale", "line", "one"], 3,
  [.ex (.call true 9 [(.var 0)]),
   .ex (.call true 10 [(.var 1)]),
   .iff (.or [(.not (.isi (.var 2) (.ty "list"))), (.cmp .gt (.b1 .len (.var 2)) (.glb "MOST_LINES" (40))), (.not (.b1 .all (.lc false [("one", 4)] (.nm 4) (.sq (.var 2)) [] (.call true 33 [(.var 4)]))))]) [.rs 10] [],
   .as (.nm 3) (.call true 34 [(.var 0), (.var 1), (.var 2)]),
   .rt (.ite (.cmp .is (.var 3) (.cst .non)) (.mk0 20) (.mk 21 62 [(.var 3)]))], false, none⟩
/-- def 67: slots 0 length 1 train 2 place -/
def f_worst_at : Df := ⟨"worst_at", "worst_at", ("worst_at", none), ["length", "train", "place"], 3,
  [.ex (.call true 9 [(.var 0)]),
   .ex (.call false 12 [(.var 1)]),
   .iff (.or [(.not (.call true 6 [(.var 2), (.cst (.int 0)), (.var 0)])), (.cmp .eq (.idx (.var 2) (.cst (.int 0))) (.cst (.int 0))), (.cmp .eq (.var 2) (.tup [(.var 0), (.cst (.int 1))]))]) [.rs 4] [],
   .rt (.call true 23 [(.var 0), (.var 1), (.var 2)])], false, none⟩
/-- def 68: slots 0 length 1 train -/
def f_worst : Df := ⟨"worst", "worst", ("worst", none), ["length", "train"], 2,
  [.ex (.call true 9 [(.var 0)]),
   .ex (.call false 12 [(.var 1)]),
   .rt (.call true 26 [(.var 0), (.var 1)])], false, none⟩
/-- def 69: slots 0 _law_ask 1 _law_thing 2 _law_due 3 error 4 _law_kinds 5 _law_kind -/
def f_l_refused : Df := ⟨"_law_refused", "_law_refused", ("_law_refused", none), ["_law_ask", "_law_thing", "_law_due", "error", "_law_kinds", "_law_kind"], 3,
  [.tri 3 0 [.ex (.calv 0 [(.var 1)])] [.as (.nm 4) (.lst true [(.isx 3 (.cls 1 [])), (.isx 3 (.cls 2 [])), (.isx 3 (.cls 3 []))]),
   .as (.nm 4) (.addM (.var 4) (.lst false [(.isx 3 (.cls 4 [])), (.isx 3 (.cls 5 [])), (.isx 3 (.cls 6 []))])),
   .as (.nm 4) (.addM (.var 4) (.lst false [(.isx 3 (.cls 7 [])), (.isx 3 (.cls 8 [])), (.isx 3 (.cls 9 []))])),
   .as (.nm 4) (.addM (.var 4) (.lst false [(.isx 3 (.cls 10 [])), (.isx 3 (.cls 11 [])), (.isx 3 (.cls 12 []))])),
   .app (.var 4) (.isx 3 (.cls 13 [])),
   .fz 4,
   .rt (.and [(.cmp .eq (.var 4) (.lc false [("_law_kind", 5)] (.nm 5) (.rg [(.cst (.int 13))]) [] (.cmp .eq (.var 5) (.var 2)))), (.isx 3 (.ty "ValueError"))])],
   .rt (.cst (.bl false))], false, none⟩
/-- def 70: slots 0 _law_asks 1 _law_things 2 _law_due 3 _law_ask 4 _law_thing -/
def f_l_each : Df := ⟨"_law_each", "_law_each", ("_law_each", none), ["_law_asks", "_law_things", "_law_due", "_law_ask", "_law_thing"], 3,
  [.rt (.b1 .all (.lc false [("_law_ask", 3)] (.nm 3) (.sq (.var 0)) [] (.b1 .all (.lc false [("_law_thing", 4)] (.nm 4) (.sq (.var 1)) [] (.call false 69 [(.var 3), (.var 4), (.var 2)])))))], false, none⟩
/-- def 71: slots 0 _law_more 1 _law_rows 2 _law_at -/
def f_l_no_trains : Df := ⟨"_law_no_trains", "_law_no_trains", ("_law_no_trains", none), ["_law_more", "_law_rows", "_law_at"], 1,
  [.as (.nm 1) (.lst false [(.cst .non), (.cst (.int 5)), (.cst (.str "1")), (.lst false []), (.tup [(.tup [(.cst (.int 0)), (.cst (.int 1))])]), (.lst false [(.tup [(.cst (.int 1)), (.cst (.int 1))])]), (.lst false [(.tup [(.cst (.int 0)), (.cst (.int 0))])]), (.lst false [(.tup [(.cst (.int 0)), (.cst (.int 1001))])]), (.lst false [(.tup [(.cst (.int 0)), (.cst (.int 1))]), (.tup [(.cst (.int 0)), (.cst (.int 1))])]), (.lst false [(.tup [(.cst (.int 0)), (.cst (.int 1))]), (.tup [(.cst (.int 1001)), (.cst (.int 1))])])]),
   .as (.nm 1) (.bin .add (.var 1) (.lst false [(.lst false [(.tup [(.cst (.int 0)), (.cst (.int 1))]), (.tup [(.cst (.int 5)), (.cst (.int 1))]), (.tup [(.cst (.int 4)), (.cst (.int 1))])])])),
   .as (.nm 1) (.bin .add (.var 1) (.lst false [(.lst false [(.tup [(.cst (.int 0)), (.cst (.bl true))])]), (.lst false [(.tup [(.cst (.bl false)), (.cst (.int 1))])]), (.lst false [(.lst false [(.cst (.int 0)), (.cst (.int 1))])]), (.lst false [(.tup [(.cst (.int 0))])]), (.lst false [(.tup [(.cst (.int 0)), (.cst (.int 1)), (.cst (.int 1))])]), (.lst false [(.tup [(.cst (.int 0)), (.bin .add (.cst (.int 1001)) (.var 0))])]), (.lst false [(.tup [(.neg (.cst (.int 1))), (.cst (.int 1))])]), .dct0])),
   .rt (.bin .add (.var 1) (.lst false [(.lc false [("_law_at", 2)] (.nm 2) (.rg [(.cst (.int 9))]) [] (.tup [(.var 2), (.cst (.int 1))]))]))], false, none⟩
/-- def 72: slots 0 _law_more 1 _law_rows -/
def f_l_no_shares : Df := ⟨"_law_no_shares", "_law_no_shares", ("_law_no_shares", none), ["_law_more", "_law_rows"], 1,
  [.as (.nm 1) (.lst false [(.cst .non), (.cst (.int 1)), (.cst (.str "1")), (.tup [(.cst (.int 1))]), (.tup [(.cst (.int 2)), (.cst (.int 4))]), (.tup [(.cst (.int 0)), (.cst (.int 2))]), (.tup [(.cst (.int 1)), (.cst (.int 0))]), (.tup [(.cst (.int 1)), (.neg (.cst (.int 2)))]), (.lst false [(.cst (.int 1)), (.cst (.int 2))]), (.tup [(.cst (.bl true)), (.cst (.int 1))]), (.tup [(.cst (.int 1)), (.cst (.bl true))]), (.tup [(.cst (.int 1)), (.cst (.int 2)), (.cst (.int 3))])]),
   .as (.nm 1) (.bin .add (.var 1) (.lst false [(.tup [(.neg (.cst (.int 1))), (.cst (.int 2))]), (.tup [(.cst (.int 9)), (.cst (.int 2))])])),
   .rt (.bin .add (.var 1) (.lst false [(.tup [(.cst (.int 5)), (.cst (.int 1))]), (.tup [(.bin .add (.cst (.int 9)) (.bin .mul (.cst (.int 2)) (.var 0))), (.cst (.int 2))]), (.tup [(.bin .pow (.cst (.int 10)) (.cst (.int 30))), (.cst (.int 1))]), (.tup [(.cst (.bl false)), (.cst (.int 1))])]))], false, none⟩
/-- def 73: slots 0 _law_more 1 _law_asks 2 _law_lengths 3 _law_heads -/
def f_l_beam_right : Df := ⟨"_law_beam_right", "_law_beam_right", ("_law_beam_right", none), ["_law_more", "_law_asks", "_law_lengths", "_law_heads"], 1,
  [.as (.nm 1) (.lst false [(.lam0 77 0 "_law_beam_right.<locals>.<lambda>"), (.lam0 78 0 "_law_beam_right.<locals>.<lambda>")]),
   .as (.nm 1) (.bin .add (.var 1) (.lst false [(.lam0 83 0 "_law_beam_right.<locals>.<lambda>")])),
   .as (.nm 1) (.bin .add (.var 1) (.lst false [(.lam0 84 0 "_law_beam_right.<locals>.<lambda>"), (.lam0 85 0 "_law_beam_right.<locals>.<lambda>")])),
   .as (.nm 1) (.bin .add (.var 1) (.lst false [(.lam0 86 0 "_law_beam_right.<locals>.<lambda>")])),
   .as (.nm 2) (.lst false [(.cst .non), (.cst (.int 0)), (.neg (.cst (.int 1))), (.cst (.int 1001)), (.bin .add (.cst (.int 1001)) (.var 0)), (.cst (.bl true)), (.cst (.str "4")), (.lst false [(.cst (.int 4))]), (.tup [(.cst (.int 4))])]),
   .iff (.not (.call true 70 [(.bin .add (.var 1) (.lst false [(.lam0 94 0 "_law_beam_right.<locals>.<lambda>")])), (.var 2), (.cst (.int 0))])) [.rt (.cst (.bl false))] [],
   .as (.nm 1) (.lst false [(.lam0 79 0 "_law_beam_right.<locals>.<lambda>"), (.lam0 80 0 "_law_beam_right.<locals>.<lambda>")]),
   .as (.nm 1) (.bin .add (.var 1) (.lst false [(.lam0 87 0 "_law_beam_right.<locals>.<lambda>")])),
   .as (.nm 1) (.bin .add (.var 1) (.lst false [(.lam0 88 0 "_law_beam_right.<locals>.<lambda>"), (.lam0 89 0 "_law_beam_right.<locals>.<lambda>")])),
   .iff (.not (.call false 70 [(.var 1), (.call false 71 [(.var 0)]), (.cst (.int 1))])) [.rt (.cst (.bl false))] [],
   .as (.nm 3) (.lst false [(.cst .non), (.cst (.int 1)), (.tup [(.cst (.int 2)), (.cst (.int 4))]), (.tup [(.cst (.int 0)), (.cst (.int 2))]), (.tup [(.cst (.int 1)), (.cst (.int 0))]), (.tup [(.cst (.int 1)), (.neg (.cst (.int 2)))]), (.lst false [(.cst (.int 1)), (.cst (.int 2))]), (.tup [(.cst (.bl true)), (.cst (.int 1))]), (.tup [(.neg (.cst (.int 1001))), (.cst (.int 1))]), (.tup [(.cst (.int 3001)), (.cst (.int 1))]), (.tup [(.neg (.cst (.int 2001))), (.cst (.int 2))])]),
   .as (.nm 3) (.bin .add (.var 3) (.lst false [(.tup [(.bin .add (.cst (.int 6001)) (.bin .mul (.cst (.int 2)) (.var 0))), (.cst (.int 2))])])),
   .iff (.not (.call true 70 [(.lst false [(.lam0 92 0 "_law_beam_right.<locals>.<lambda>"), (.lam0 93 0 "_law_beam_right.<locals>.<lambda>")]), (.var 3), (.cst (.int 2))])) [.rt (.cst (.bl false))] [],
   .as (.nm 1) (.lst false [(.lam0 81 0 "_law_beam_right.<locals>.<lambda>"), (.lam0 82 0 "_law_beam_right.<locals>.<lambda>")]),
   .as (.nm 1) (.bin .add (.var 1) (.lst false [(.lam0 90 0 "_law_beam_right.<locals>.<lambda>")])),
   .iff (.not (.call true 70 [(.bin .add (.var 1) (.lst false [(.lam0 95 0 "_law_beam_right.<locals>.<lambda>")])), (.call true 72 [(.var 0)]), (.cst (.int 3))])) [.rt (.cst (.bl false))] [],
   .rt (.call true 70 [(.lst false [(.lam0 91 0 "_law_beam_right.<locals>.<lambda>")]), (.lst false [(.tup [(.cst (.int 0)), (.cst (.int 1))]), (.tup [(.cst (.int 4)), (.cst (.int 1))])]), (.cst (.int 3))])], true, none⟩
/-- def 74: slots 0 _law_more 1 _law_sites 2 _law_strengths 3 _law_asks 4 _law_posts 5 _law_loads -/
def f_l_rest_right : Df := ⟨"_law_rest_right", "_law_rest_right", ("_law_rest_right", none), ["_law_more", "_law_sites", "_law_strengths", "_law_asks", "_law_posts", "_law_loads"], 1,
  [.as (.nm 1) (.lst false [(.cst .non), (.lst false []), (.lst false [(.cst (.int 4))]), (.tup [(.cst (.int 0)), (.cst (.int 4))]), (.lst false [(.cst (.int 0)), (.cst (.int 0))]), (.lst false [(.cst (.int 4)), (.cst (.int 0))]), (.lst false [(.neg (.cst (.int 1))), (.cst (.int 4))]), (.lst false [(.cst (.int 0)), (.cst (.int 1001))]), (.lst false [(.cst (.bl true)), (.cst (.int 4))]), (.lst false [(.cst (.int 0)), (.cst .non)]), (.lst false [(.cst (.int 0)), (.cst (.str "4"))])]),
   .as (.nm 1) (.bin .add (.var 1) (.lst false [(.lrg [(.cst (.int 13))]), (.lst false [(.cst (.int 0)), (.bin .add (.cst (.int 1001)) (.var 0))])])),
   .iff (.not (.call true 70 [(.lst false [(.lam0 100 1 "_law_rest_right.<locals>.<lambda>")]), (.var 1), (.cst (.int 4))])) [.rt (.cst (.bl false))] [],
   .as (.nm 2) (.lst false [(.cst .non), (.cst (.int 0)), (.neg (.cst (.int 1))), (.bin .add (.bin .pow (.cst (.int 10)) (.cst (.int 9))) (.cst (.int 1))), (.bin .add (.bin .add (.bin .pow (.cst (.int 10)) (.cst (.int 9))) (.cst (.int 1))) (.var 0)), (.cst (.bl true)), (.cst (.str "5")), (.lst false [(.cst (.int 5))])]),
   .as (.nm 3) (.lst false [(.lam0 96 1 "_law_rest_right.<locals>.<lambda>"), (.lam0 97 1 "_law_rest_right.<locals>.<lambda>"), (.lam0 98 1 "_law_rest_right.<locals>.<lambda>")]),
   .iff (.not (.call true 70 [(.var 3), (.var 2), (.cst (.int 5))])) [.rt (.cst (.bl false))] [],
   .as (.nm 4) (.lst false [(.cst .non), (.lst false []), (.tup [(.cst (.int 0))]), (.lst false [(.cst (.int 0)), (.cst (.int 0))]), (.lst false [(.cst (.int 4)), (.cst (.int 0))]), (.lst false [(.neg (.cst (.int 1001)))]), (.lst false [(.cst (.int 1001))]), (.lst false [(.cst (.bl true))]), (.lst false [(.cst .non)]), (.lrg [(.cst (.int 7))]), (.lst false [(.bin .add (.cst (.int 1001)) (.var 0))]), (.cst (.str "0"))]),
   .iff (.not (.call true 70 [(.lst false [(.lam0 101 1 "_law_rest_right.<locals>.<lambda>")]), (.var 4), (.cst (.int 6))])) [.rt (.cst (.bl false))] [],
   .as (.nm 5) (.lst false [(.cst .non), (.cst (.int 5)), (.tup [(.tup [(.cst (.int 0)), (.cst (.int 1))])]), (.lst false [(.tup [(.cst (.int 0)), (.cst (.int 0))])]), (.lst false [(.tup [(.cst (.int 0)), (.cst (.int 1001))])]), (.lst false [(.tup [(.cst (.int 1001)), (.cst (.int 1))])]), (.lst false [(.tup [(.neg (.cst (.int 1001))), (.cst (.int 1))])]), (.lst false [(.tup [(.cst (.bl true)), (.cst (.int 1))])]), (.lst false [(.tup [(.cst (.int 0)), (.cst (.bl true))])])]),
   .as (.nm 5) (.bin .add (.var 5) (.lst false [(.lst false [(.lst false [(.cst (.int 0)), (.cst (.int 1))])]), (.lst false [(.tup [(.cst (.int 0))])]), (.bin .mul (.lst false [(.tup [(.cst (.int 0)), (.cst (.int 1))])]) (.cst (.int 9)))])),
   .rt (.call true 70 [(.lst false [(.lam0 99 1 "_law_rest_right.<locals>.<lambda>")]), (.bin .add (.var 5) (.lst false [(.lst false [(.tup [(.cst (.int 0)), (.cst (.int 1)), (.cst (.int 1))])]), (.lst false [(.cst .non)]), (.lst false [(.tup [(.cst (.int 0)), (.bin .add (.cst (.int 1001)) (.var 0))])])])), (.cst (.int 7))])], true, none⟩
/-- def 75: slots 0 _law_more 1 _law_deck 2 _law_before 3 _law_asks 4 _law_weights 5 _law_turn -/
def f_l_deck_right : Df := ⟨"_law_deck_right", "_law_deck_right", ("_law_deck_right", none), ["_law_more", "_law_deck", "_law_before", "_law_asks", "_law_weights", "_law_turn"], 1,
  [.as (.nm 1) (.mk 14 35 [(.cst (.int 4)), (.cst (.int 5))]),
   .ex (.meth (.var 1) "put" [(14, 38)] [(.tup [(.cst (.int 2)), (.cst (.int 1))]), (.cst (.int 3))]),
   .as (.nm 2) (.lst false [(.meth (.var 1) "there" [(14, 40)] []), (.meth (.var 1) "tale" [(14, 44)] []), (.meth (.var 1) "bears" [(14, 41)] []), (.meth (.var 1) "most" [(14, 43)] [])]),
   .as (.nm 3) (.lst false [(.lam 102 2 "_law_deck_right.<locals>.<lambda>"), (.lam 103 2 "_law_deck_right.<locals>.<lambda>"), (.lam 104 2 "_law_deck_right.<locals>.<lambda>")]),
   .iff (.not (.callF 70 [(102, [1]), (103, [1]), (104, [1]), (105, [1]), (106, [1]), (107, [1]), (108, [1]), (109, [1])] [(.var 3), (.call true 72 [(.var 0)]), (.cst (.int 3))])) [.rt (.cst (.bl false))] [],
   .as (.nm 4) (.lst false [(.cst .non), (.cst (.int 0)), (.neg (.cst (.int 1))), (.cst (.int 1001)), (.bin .add (.cst (.int 1001)) (.var 0)), (.cst (.bl true)), (.cst (.str "3")), (.lst false [(.cst (.int 3))])]),
   .iff (.not (.callF 70 [(102, [1]), (103, [1]), (104, [1]), (105, [1]), (106, [1]), (107, [1]), (108, [1]), (109, [1])] [(.lst false [(.lam 105 2 "_law_deck_right.<locals>.<lambda>"), (.lam 106 2 "_law_deck_right.<locals>.<lambda>")]), (.var 4), (.cst (.int 8))])) [.rt (.cst (.bl false))] [],
   .iff (.not (.callF 70 [(102, [1]), (103, [1]), (104, [1]), (105, [1]), (106, [1]), (107, [1]), (108, [1]), (109, [1])] [(.lst false [(.lam 107 2 "_law_deck_right.<locals>.<lambda>")]), (.lst false [(.cst (.int 3)), (.cst (.int 1000))]), (.cst (.int 11))])) [.rt (.cst (.bl false))] [],
   .iff (.not (.callF 70 [(102, [1]), (103, [1]), (104, [1]), (105, [1]), (106, [1]), (107, [1]), (108, [1]), (109, [1])] [(.lst false [(.lam 108 2 "_law_deck_right.<locals>.<lambda>")]), (.lst false [(.tup [(.cst (.int 1)), (.cst (.int 1))]), (.tup [(.cst (.int 0)), (.cst (.int 1))])]), (.cst (.int 12))])) [.rt (.cst (.bl false))] [],
   .fo (.nm 5) (.rg [(.cst (.int 11))]) [.ex (.meth (.var 1) "put" [(14, 38)] [(.tup [(.cst (.int 0)), (.cst (.int 1))]), (.cst (.int 1000))])],
   .iff (.not (.callF 70 [(102, [1]), (103, [1]), (104, [1]), (105, [1]), (106, [1]), (107, [1]), (108, [1]), (109, [1])] [(.lst false [(.lam 109 2 "_law_deck_right.<locals>.<lambda>")]), (.lst false [(.tup [(.cst (.int 2)), (.cst (.int 1))]), (.tup [(.cst (.int 0)), (.cst (.int 1))])]), (.cst (.int 10))])) [.rt (.cst (.bl false))] [],
   .fo (.nm 5) (.rg [(.cst (.int 11))]) [.ex (.meth (.var 1) "take" [(14, 39)] [(.tup [(.cst (.int 0)), (.cst (.int 1))]), (.cst (.int 1000))])],
   .rt (.and [(.cmp .eq (.lst false [(.meth (.var 1) "there" [(14, 40)] []), (.sli (.meth (.var 1) "tale" [(14, 44)] []) none (some (.cst (.int 1)))), (.meth (.var 1) "bears" [(14, 41)] []), (.meth (.var 1) "most" [(14, 43)] [])]) (.var 2)), (.cmp .eq (.b1 .len (.meth (.var 1) "tale" [(14, 44)] [])) (.cst (.int 23)))])], true, none⟩
/-- def 76: slots 0 _law_script 1 _law_more -/
def f_l_law : Df := ⟨"law", "law", ("law", none), ["_law_script", "_law_more"], 1,
  [.as (.nm 1) (.b1 .abs (.b1 .sum (.sli (.var 0) none (some (.cst (.int 63)))))),
   .iff (.or [(.not (.call false 73 [(.var 1)])), (.not (.call false 74 [(.var 1)]))]) [.rt (.cst (.bl false))] [],
   .rt (.call false 75 [(.var 1)])], false, none⟩
/-- lambda 77 of _law_beam_right: slots _law_one -/
def f_lam77 : Df := ⟨"<lambda>", "", ("", some "<lambda>"), ["_law_one"], 1,
  [.rt (.call false 19 [(.var 0), (.cst .non), (.cst .non)])], false, some 0⟩
/-- lambda 78 of _law_beam_right: slots _law_two -/
def f_lam78 : Df := ⟨"<lambda>", "", ("", some "<lambda>"), ["_law_two"], 1,
  [.rt (.call false 20 [(.var 0), (.cst .non), (.cst .non), (.cst .non)])], false, some 0⟩
/-- lambda 79 of _law_beam_right: slots _law_one -/
def f_lam79 : Df := ⟨"<lambda>", "", ("", some "<lambda>"), ["_law_one"], 1,
  [.rt (.call false 19 [(.cst (.int 4)), (.var 0), (.cst .non)])], false, some 0⟩
/-- lambda 80 of _law_beam_right: slots _law_two -/
def f_lam80 : Df := ⟨"<lambda>", "", ("", some "<lambda>"), ["_law_two"], 1,
  [.rt (.call false 20 [(.cst (.int 4)), (.var 0), (.cst .non), (.cst .non)])], false, some 0⟩
/-- lambda 81 of _law_beam_right: slots _law_one -/
def f_lam81 : Df := ⟨"<lambda>", "", ("", some "<lambda>"), ["_law_one"], 1,
  [.rt (.call false 20 [(.cst (.int 4)), (.lst false [(.tup [(.cst (.int 0)), (.cst (.int 1))])]), (.tup [(.cst (.int 0)), (.cst (.int 1))]), (.var 0)])], false, some 0⟩
/-- lambda 82 of _law_beam_right: slots _law_two -/
def f_lam82 : Df := ⟨"<lambda>", "", ("", some "<lambda>"), ["_law_two"], 1,
  [.rt (.call true 21 [(.cst (.int 4)), (.var 0), (.tup [(.cst (.int 1)), (.cst (.int 1))])])], false, some 0⟩
/-- lambda 83 of _law_beam_right: slots _law_three -/
def f_lam83 : Df := ⟨"<lambda>", "", ("", some "<lambda>"), ["_law_three"], 1,
  [.rt (.call true 21 [(.var 0), (.cst .non), (.cst .non)])], false, some 0⟩
/-- lambda 84 of _law_beam_right: slots _law_four -/
def f_lam84 : Df := ⟨"<lambda>", "", ("", some "<lambda>"), ["_law_four"], 1,
  [.rt (.call false 67 [(.var 0), (.cst .non), (.cst .non)])], false, some 0⟩
/-- lambda 85 of _law_beam_right: slots _law_five -/
def f_lam85 : Df := ⟨"<lambda>", "", ("", some "<lambda>"), ["_law_five"], 1,
  [.rt (.call false 68 [(.var 0), (.cst .non)])], false, some 0⟩
/-- lambda 86 of _law_beam_right: slots _law_six -/
def f_lam86 : Df := ⟨"<lambda>", "", ("", some "<lambda>"), ["_law_six"], 1,
  [.rt (.mk 14 35 [(.var 0), (.cst .non)])], false, some 0⟩
/-- lambda 87 of _law_beam_right: slots _law_three -/
def f_lam87 : Df := ⟨"<lambda>", "", ("", some "<lambda>"), ["_law_three"], 1,
  [.rt (.call false 67 [(.cst (.int 4)), (.var 0), (.cst .non)])], false, some 0⟩
/-- lambda 88 of _law_beam_right: slots _law_four -/
def f_lam88 : Df := ⟨"<lambda>", "", ("", some "<lambda>"), ["_law_four"], 1,
  [.rt (.call false 68 [(.cst (.int 4)), (.var 0)])], false, some 0⟩
/-- lambda 89 of _law_beam_right: slots _law_five -/
def f_lam89 : Df := ⟨"<lambda>", "", ("", some "<lambda>"), ["_law_five"], 1,
  [.rt (.call false 65 [(.lst false [(.cst (.int 0)), (.cst (.int 4))]), (.var 0), (.cst .non)])], false, some 0⟩
/-- lambda 90 of _law_beam_right: slots _law_three -/
def f_lam90 : Df := ⟨"<lambda>", "", ("", some "<lambda>"), ["_law_three"], 1,
  [.rt (.call true 21 [(.cst (.int 4)), (.tup [(.cst (.int 1)), (.cst (.int 1))]), (.var 0)])], false, some 0⟩
/-- lambda 91 of _law_beam_right: slots _law_one -/
def f_lam91 : Df := ⟨"<lambda>", "", ("", some "<lambda>"), ["_law_one"], 1,
  [.rt (.call false 67 [(.cst (.int 4)), (.lst false [(.tup [(.cst (.int 0)), (.cst (.int 1))])]), (.var 0)])], false, some 0⟩
/-- lambda 92 of _law_beam_right: slots _law_one -/
def f_lam92 : Df := ⟨"<lambda>", "", ("", some "<lambda>"), ["_law_one"], 1,
  [.rt (.call false 19 [(.cst (.int 4)), (.lst false [(.tup [(.cst (.int 0)), (.cst (.int 1))])]), (.var 0)])], false, some 0⟩
/-- lambda 93 of _law_beam_right: slots _law_two -/
def f_lam93 : Df := ⟨"<lambda>", "", ("", some "<lambda>"), ["_law_two"], 1,
  [.rt (.call false 20 [(.cst (.int 4)), (.lst false [(.tup [(.cst (.int 0)), (.cst (.int 1))])]), (.var 0), (.cst .non)])], false, some 0⟩
/-- lambda 94 of _law_beam_right: slots _law_seven -/
def f_lam94 : Df := ⟨"<lambda>", "", ("", some "<lambda>"), ["_law_seven"], 1,
  [.rt (.call false 66 [(.var 0), (.cst .non), (.cst .non)])], false, some 0⟩
/-- lambda 95 of _law_beam_right: slots _law_four -/
def f_lam95 : Df := ⟨"<lambda>", "", ("", some "<lambda>"), ["_law_four"], 1,
  [.rt (.call false 67 [(.cst (.int 4)), (.lst false [(.tup [(.cst (.int 0)), (.cst (.int 1))])]), (.var 0)])], false, some 0⟩
/-- lambda 96 of _law_rest_right: slots _law_one -/
def f_lam96 : Df := ⟨"<lambda>", "", ("", some "<lambda>"), ["_law_one"], 1,
  [.rt (.call false 65 [(.lst false [(.cst (.int 0)), (.cst (.int 4))]), (.lst false [(.tup [(.cst (.int 0)), (.cst (.int 1))])]), (.var 0)])], false, some 0⟩
/-- lambda 97 of _law_rest_right: slots _law_two -/
def f_lam97 : Df := ⟨"<lambda>", "", ("", some "<lambda>"), ["_law_two"], 1,
  [.rt (.mk 14 35 [(.cst (.int 4)), (.var 0)])], false, some 0⟩
/-- lambda 98 of _law_rest_right: slots _law_three -/
def f_lam98 : Df := ⟨"<lambda>", "", ("", some "<lambda>"), ["_law_three"], 1,
  [.rt (.call false 66 [(.cst (.int 4)), (.var 0), (.cst .non)])], false, some 0⟩
/-- lambda 99 of _law_rest_right: slots _law_one -/
def f_lam99 : Df := ⟨"<lambda>", "", ("", some "<lambda>"), ["_law_one"], 1,
  [.rt (.call false 64 [(.lst false [(.cst (.int 0))]), (.var 0)])], false, some 0⟩
/-- lambda 100 of _law_rest_right: slots _law_one -/
def f_lam100 : Df := ⟨"<lambda>", "", ("", some "<lambda>"), ["_law_one"], 1,
  [.rt (.call false 65 [(.var 0), (.cst .non), (.cst .non)])], false, some 0⟩
/-- lambda 101 of _law_rest_right: slots _law_one -/
def f_lam101 : Df := ⟨"<lambda>", "", ("", some "<lambda>"), ["_law_one"], 1,
  [.rt (.call false 64 [(.var 0), (.cst .non)])], false, some 0⟩
/-- lambda 102 of _law_deck_right: slots _law_one _law_deck -/
def f_lam102 : Df := ⟨"<lambda>", "", ("", some "<lambda>"), ["_law_one", "_law_deck"], 2,
  [.rt (.meth (.var 1) "put" [(14, 38)] [(.var 0), (.cst .non)])], false, some 1⟩
/-- lambda 103 of _law_deck_right: slots _law_two _law_deck -/
def f_lam103 : Df := ⟨"<lambda>", "", ("", some "<lambda>"), ["_law_two", "_law_deck"], 2,
  [.rt (.meth (.var 1) "take" [(14, 39)] [(.var 0), (.cst .non)])], false, some 1⟩
/-- lambda 104 of _law_deck_right: slots _law_three _law_deck -/
def f_lam104 : Df := ⟨"<lambda>", "", ("", some "<lambda>"), ["_law_three", "_law_deck"], 2,
  [.rt (.meth (.var 1) "bent" [(14, 42)] [(.var 0)])], false, some 1⟩
/-- lambda 105 of _law_deck_right: slots _law_one _law_deck -/
def f_lam105 : Df := ⟨"<lambda>", "", ("", some "<lambda>"), ["_law_one", "_law_deck"], 2,
  [.rt (.meth (.var 1) "put" [(14, 38)] [(.tup [(.cst (.int 2)), (.cst (.int 1))]), (.var 0)])], false, some 1⟩
/-- lambda 106 of _law_deck_right: slots _law_two _law_deck -/
def f_lam106 : Df := ⟨"<lambda>", "", ("", some "<lambda>"), ["_law_two", "_law_deck"], 2,
  [.rt (.meth (.var 1) "take" [(14, 39)] [(.tup [(.cst (.int 2)), (.cst (.int 1))]), (.var 0)])], false, some 1⟩
/-- lambda 107 of _law_deck_right: slots _law_one _law_deck -/
def f_lam107 : Df := ⟨"<lambda>", "", ("", some "<lambda>"), ["_law_one", "_law_deck"], 2,
  [.rt (.meth (.var 1) "put" [(14, 38)] [(.tup [(.cst (.int 2)), (.cst (.int 1))]), (.var 0)])], false, some 1⟩
/-- lambda 108 of _law_deck_right: slots _law_one _law_deck -/
def f_lam108 : Df := ⟨"<lambda>", "", ("", some "<lambda>"), ["_law_one", "_law_deck"], 2,
  [.rt (.meth (.var 1) "take" [(14, 39)] [(.var 0), (.cst (.int 3))])], false, some 1⟩
/-- lambda 109 of _law_deck_right: slots _law_one _law_deck -/
def f_lam109 : Df := ⟨"<lambda>", "", ("", some "<lambda>"), ["_law_one", "_law_deck"], 2,
  [.rt (.meth (.var 1) "put" [(14, 38)] [(.var 0), (.cst (.int 1000))])], false, some 1⟩
def T : List Df := [f__wall, f_is_whole, f_is_between, f_common, f_made, f_is_share, f_is_within, f_is_less, f_put_together, f_asked_length, f_asked_strength, f_is_axle, f_asked_train, f_asked_head, f_loads_of, f_bears_by, f_bent_by, f_bent_at, f_asked_place, f_bears, f_bent, f_shape, f_better, f_worst_for, f_turns_of, f_middle_of, f_worst_of, f_most_by, f_part_of, f_loads_of29, f_with_one, f_most_of, f_holds, f_is_deed, f_first_wrong, f_Deck_init, f_Deck_ask_place, f_Deck_ask_both, f_Deck_put, f_Deck_take, f_Deck_there, f_Deck_bears, f_Deck_bent, f_Deck_most, f_Deck_tale, f_is_load, f_asked_plank, f_about, f_tips, f_shares_of, f_asked_sites, f_holds51, f_posts_of, f_Laid_init, f_Laid_shows, f_Never_init, f_Never_shows, f_Lies_init, f_Lies_shows, f_Tips_init, f_Tips_shows, f_Right_shows, f_Wrong_init, f_Wrong_shows, f_plank, f_laid, f_judged, f_worst_at, f_worst, f_l_refused, f_l_each, f_l_no_trains, f_l_no_shares, f_l_beam_right, f_l_rest_right, f_l_deck_right, f_l_law, f_lam77, f_lam78, f_lam79, f_lam80, f_lam81, f_lam82, f_lam83, f_lam84, f_lam85, f_lam86, f_lam87, f_lam88, f_lam89, f_lam90, f_lam91, f_lam92, f_lam93, f_lam94, f_lam95, f_lam96, f_lam97, f_lam98, f_lam99, f_lam100, f_lam101, f_lam102, f_lam103, f_lam104, f_lam105, f_lam106, f_lam107, f_lam108, f_lam109]
def clsN : List Str := ["BeamError", "BadLength", "BadTrain", "BadHead", "BadPlace", "BadSites", "BadStrength", "BadPosts", "BadLoads", "BadWeight", "BadTale", "TooMany", "TooMuch", "NotThere"]
def ownN : List Str := ["Deck", "Answer", "Laid", "Never", "Lies", "Tips", "Right", "Wrong"]
def fldsN : List (Nat × Str) := [(14, "length"), (14, "strength"), (14, "loads"), (14, "lines"), (16, "posts"), (16, "stretches"), (17, "stretch"), (18, "shares"), (19, "side"), (21, "line")]
def kits0 : List (Nat × Nat × Bool) := [(14, 14, true), (14, 15, false), (14, 16, false), (14, 17, false), (14, 18, false), (14, 19, false), (14, 20, false), (14, 21, false), (15, 14, false), (15, 15, true), (15, 16, false), (15, 17, false), (15, 18, false), (15, 19, false), (15, 20, false), (15, 21, false), (16, 14, false), (16, 15, true), (16, 16, true), (16, 17, false)]
def kits1 : List (Nat × Nat × Bool) := [(16, 18, false), (16, 19, false), (16, 20, false), (16, 21, false), (17, 14, false), (17, 15, true), (17, 16, false), (17, 17, true), (17, 18, false), (17, 19, false), (17, 20, false), (17, 21, false), (18, 14, false), (18, 15, true), (18, 16, false), (18, 17, false), (18, 18, true), (18, 19, false), (18, 20, false), (18, 21, false)]
def kits2 : List (Nat × Nat × Bool) := [(19, 14, false), (19, 15, true), (19, 16, false), (19, 17, false), (19, 18, false), (19, 19, true), (19, 20, false), (19, 21, false), (20, 14, false), (20, 15, true), (20, 16, false), (20, 17, false), (20, 18, false), (20, 19, false), (20, 20, true), (20, 21, false), (21, 14, false), (21, 15, true), (21, 16, false), (21, 17, false)]
def kits3 : List (Nat × Nat × Bool) := [(21, 18, false), (21, 19, false), (21, 20, false), (21, 21, true)]
def kitsN : List (Nat × Nat × Bool) := kits0 ++ kits1 ++ kits2 ++ kits3
def barsN : List Nat := [20]
def xkits0 : List (Nat × Nat × Bool) := [(0, 0, true), (0, 1, false), (0, 2, false), (0, 3, false), (0, 4, false), (0, 5, false), (0, 6, false), (0, 7, false), (0, 8, false), (0, 9, false), (0, 10, false), (0, 11, false), (0, 12, false), (0, 13, false), (1, 0, true), (1, 1, true), (1, 2, false), (1, 3, false), (1, 4, false), (1, 5, false)]
def xkits1 : List (Nat × Nat × Bool) := [(1, 6, false), (1, 7, false), (1, 8, false), (1, 9, false), (1, 10, false), (1, 11, false), (1, 12, false), (1, 13, false), (2, 0, true), (2, 1, false), (2, 2, true), (2, 3, false), (2, 4, false), (2, 5, false), (2, 6, false), (2, 7, false), (2, 8, false), (2, 9, false), (2, 10, false), (2, 11, false)]
def xkits2 : List (Nat × Nat × Bool) := [(2, 12, false), (2, 13, false), (3, 0, true), (3, 1, false), (3, 2, false), (3, 3, true), (3, 4, false), (3, 5, false), (3, 6, false), (3, 7, false), (3, 8, false), (3, 9, false), (3, 10, false), (3, 11, false), (3, 12, false), (3, 13, false), (4, 0, true), (4, 1, false), (4, 2, false), (4, 3, false)]
def xkits3 : List (Nat × Nat × Bool) := [(4, 4, true), (4, 5, false), (4, 6, false), (4, 7, false), (4, 8, false), (4, 9, false), (4, 10, false), (4, 11, false), (4, 12, false), (4, 13, false), (5, 0, true), (5, 1, false), (5, 2, false), (5, 3, false), (5, 4, false), (5, 5, true), (5, 6, false), (5, 7, false), (5, 8, false), (5, 9, false)]
def xkits4 : List (Nat × Nat × Bool) := [(5, 10, false), (5, 11, false), (5, 12, false), (5, 13, false), (6, 0, true), (6, 1, false), (6, 2, false), (6, 3, false), (6, 4, false), (6, 5, false), (6, 6, true), (6, 7, false), (6, 8, false), (6, 9, false), (6, 10, false), (6, 11, false), (6, 12, false), (6, 13, false), (7, 0, true), (7, 1, false)]
def xkits5 : List (Nat × Nat × Bool) := [(7, 2, false), (7, 3, false), (7, 4, false), (7, 5, false), (7, 6, false), (7, 7, true), (7, 8, false), (7, 9, false), (7, 10, false), (7, 11, false), (7, 12, false), (7, 13, false), (8, 0, true), (8, 1, false), (8, 2, false), (8, 3, false), (8, 4, false), (8, 5, false), (8, 6, false), (8, 7, false)]
def xkits6 : List (Nat × Nat × Bool) := [(8, 8, true), (8, 9, false), (8, 10, false), (8, 11, false), (8, 12, false), (8, 13, false), (9, 0, true), (9, 1, false), (9, 2, false), (9, 3, false), (9, 4, false), (9, 5, false), (9, 6, false), (9, 7, false), (9, 8, false), (9, 9, true), (9, 10, false), (9, 11, false), (9, 12, false), (9, 13, false)]
def xkits7 : List (Nat × Nat × Bool) := [(10, 0, true), (10, 1, false), (10, 2, false), (10, 3, false), (10, 4, false), (10, 5, false), (10, 6, false), (10, 7, false), (10, 8, false), (10, 9, false), (10, 10, true), (10, 11, false), (10, 12, false), (10, 13, false), (11, 0, true), (11, 1, false), (11, 2, false), (11, 3, false), (11, 4, false), (11, 5, false)]
def xkits8 : List (Nat × Nat × Bool) := [(11, 6, false), (11, 7, false), (11, 8, false), (11, 9, false), (11, 10, false), (11, 11, true), (11, 12, false), (11, 13, false), (12, 0, true), (12, 1, false), (12, 2, false), (12, 3, false), (12, 4, false), (12, 5, false), (12, 6, false), (12, 7, false), (12, 8, false), (12, 9, false), (12, 10, false), (12, 11, false)]
def xkits9 : List (Nat × Nat × Bool) := [(12, 12, true), (12, 13, false), (13, 0, true), (13, 1, false), (13, 2, false), (13, 3, false), (13, 4, false), (13, 5, false), (13, 6, false), (13, 7, false), (13, 8, false), (13, 9, false), (13, 10, false), (13, 11, false), (13, 12, false), (13, 13, true)]
def xkitsN : List (Nat × Nat × Bool) := xkits0 ++ xkits1 ++ xkits2 ++ xkits3 ++ xkits4 ++ xkits5 ++ xkits6 ++ xkits7 ++ xkits8 ++ xkits9
def xcsN : List Nat := [0, 1, 2, 3, 4, 5, 6, 7, 8, 9, 10, 11, 12, 13]
def tabsN : List Nat := [73, 74, 75]
def subN (d i : Nat) : Bool := decide ((d, i, true) ∈ kitsN) || decide ((d, i, true) ∈ xkitsN)
def constsN : List (Str × Int) := [("LONGEST", 1000), ("HEAVIEST_beams", 1000), ("MOST_WEIGHTS", 8), ("FIRST_HEAD", -1000), ("LAST_HEAD", 3000), ("STRONGEST", 1000000000), ("MOST_THERE", 12), ("MOST_LINES", 40), ("MOST_POSTS", 6), ("MOST_LOADS", 8), ("FARTHEST_lying", 1000), ("HEAVIEST_lying", 1000), ("MOST_SITES", 12), ("FARTHEST_spans", 1000)]
def freeN : List Str := ["len", "range", "sum", "all", "abs", "isinstance", "int", "bool", "tuple", "list", "str", "sorted", "set", "enumerate", "ValueError"]
end P10

set_option Elab.async false
set_option linter.all false
set_option maxRecDepth 100000
set_option maxHeartbeats 1000000
set_option exponentiation.threshold 100
namespace K10
open Mi P10
def Bd (n : Nat) (x : Int) : Prop := x.natAbs < 2 ^ n
theorem Bd.mono {n m : Nat} {x : Int} (h : Bd n x) (l : n ≤ m) : Bd m x := Nat.lt_of_lt_of_le h (Nat.pow_le_pow_right (by decide) l)
theorem Bd.mul {n m : Nat} {x y : Int} (h : Bd n x) (g : Bd m y) : Bd (n + m) (x * y) := by
  unfold Bd at *
  rw [Int.natAbs_mul, Nat.pow_add]
  exact Nat.mul_lt_mul'' h g
theorem Bd.add {n m : Nat} {x y : Int} (h : Bd n x) (g : Bd m y) : Bd (n + m + 1) (x + y) := by
  have h1 := h.mono (Nat.le_add_right n m)
  have g1 := g.mono (Nat.le_add_left m n)
  unfold Bd at *
  rw [Nat.pow_succ]
  have := Int.natAbs_add_le x y
  omega
theorem Bd.neg {n : Nat} {x : Int} (h : Bd n x) : Bd n (-x) := by unfold Bd at *; rw [Int.natAbs_neg]; exact h
theorem Bd.sub {n m : Nat} {x y : Int} (h : Bd n x) (g : Bd m y) : Bd (n + m + 1) (x - y) := by rw [Int.sub_eq_add_neg]; exact h.add g.neg
theorem mulOk_of {n m : Nat} {x y : Int} (h : Bd n x) (g : Bd m y) (l : n + m < 100000000) : mulOk x y = true := by
  unfold mulOk
  have lg : ∀ {k : Nat} {z : Int}, Bd k z → z.natAbs.log2 ≤ k := fun {k z} b => by
    unfold Bd at b
    by_cases e : z.natAbs = 0
    · rw [e]; simp
    · exact Nat.le_of_lt ((Nat.log2_lt e).mpr b)
  have := lg h
  have := lg g
  exact decide_eq_true (by omega)
theorem divOk_of {n : Nat} {x : Int} (h : Bd n x) (p : 0 < x) (l : n < 9000) : divOk x = true := by
  unfold divOk
  unfold Bd at h
  have := (Nat.log2_lt (n := x.natAbs) (k := n) (by omega)).mpr h
  simp only [Bool.and_eq_true, decide_eq_true_eq]
  omega
abbrev sub0 : Nat → Nat → Bool := subN
noncomputable abbrev Φ (k : Nat) := phi T (fun _ => none) sub0 k
def Fn (i d : Nat) (ws : List W) (r : W) : Prop := ∀ k, d ≤ k → ∀ st, ∃ st', Φ k i ws st = .ok r st'
theorem phi_def {i k : Nat} {d : Df} {ws : List W} {st : Store} (hT : T[i]? = some d) (hl : ws.length = d.np) (hm : d.mkr = false) : Φ (k + 1) i ws st = endD (evSs (Φ k) sub0 d.body (startE d ws) st) := by
  show phi T (fun _ => none) sub0 (k + 1) i ws st = _
  unfold phi
  simp only [hT, hl, if_true, hm]
  rfl
theorem fn_of {i d : Nat} {df : Df} {ws : List W} {r : W} (hT : T[i]? = some df) (hl : ws.length = df.np) (h : ∀ k, d ≤ k → ∀ st, ∃ st', endD (evSs (Φ k) sub0 df.body (startE df ws) st) = .ok r st') (hm : df.mkr = false := by rfl) : Fn i (d + 1) ws r := by
  intro k hk st
  obtain ⟨k, rfl⟩ : ∃ j, k = j + 1 := ⟨k - 1, by omega⟩
  rw [phi_def hT hl hm]
  exact h k (by omega) st
theorem pc {i d k : Nat} {ws : List W} {r : W} {st : Store} (h : Fn i d ws r) (hk : d ≤ k) (hs : ws.map (snap st) = ws) (hr : resB st.length 8 r = true) : pureCall (Φ k i) ws st = .ok r st := by
  unfold pureCall
  rw [hs]
  obtain ⟨st', e⟩ := h k hk (dead st)
  rw [e]
  simp only [hr, if_true]
def pr (a b : Int) : W := .tup [.int a, .int b]
def sh (r : Rat) : W := pr r.num r.den
def rt (a b : Int) : Rat := (a : Rat) / (b : Rat)
theorem rt_num {a b : Int} (h : 0 < b) : (rt a b).num = a / (Int.gcd a b : Int) := by
  unfold rt
  rw [← Rat.divInt_eq_div, Rat.num_divInt, Int.sign_eq_one_of_pos h, Int.one_mul, Int.gcd_comm]
theorem rt_den {a b : Int} (h : 0 < b) : ((rt a b).den : Int) = b / (Int.gcd a b : Int) := by
  unfold rt
  rw [← Rat.divInt_eq_div, Rat.den_divInt, if_neg (by omega), Int.gcd_comm]
  have : (b.natAbs : Int) = b := by omega
  rw [Int.natCast_ediv, this]
theorem sh_int (a : Int) : sh (a : Rat) = pr a 1 := rfl
theorem gcd_step (a b : Int) (ha : 0 ≤ a) (h : 0 < b) : Int.gcd b (a % b) = Int.gcd a b := by
  obtain ⟨x, rfl⟩ := Int.eq_ofNat_of_zero_le ha
  obtain ⟨y, rfl⟩ := Int.eq_ofNat_of_zero_le (Int.le_of_lt h)
  rw [← Int.natCast_emod]
  show Nat.gcd y (x % y) = Nat.gcd x y
  rw [Nat.gcd_comm x y, Nat.gcd_rec y x, Nat.gcd_comm]
theorem ss_nx {Φ' : Nat → List W → Store → R W} {s : MS} {ss : List MS} {Γ Γ1 : Env} {st st1 : Store} (h : evS Φ' sub0 s Γ st = .nx Γ1 st1) : evSs Φ' sub0 (s :: ss) Γ st = evSs Φ' sub0 ss Γ1 st1 := by
  conv => lhs; unfold evSs
  rw [h]
theorem ss_rt {Φ' : Nat → List W → Store → R W} {s : MS} {ss : List MS} {Γ : Env} {w : W} {st st1 : Store} (h : evS Φ' sub0 s Γ st = .rt w st1) : evSs Φ' sub0 (s :: ss) Γ st = .rt w st1 := by
  conv => lhs; unfold evSs
  rw [h]
theorem ss_nil {Φ' : Nat → List W → Store → R W} {Γ : Env} {st : Store} : evSs Φ' sub0 [] Γ st = .nx Γ st := by unfold evSs; rfl
theorem rb {α β : Type} {a : α} {st : Store} {f : α → Store → R β} : R.bind (.ok a st) f = f a st := rfl
theorem gcd_loop {Φ' : Nat → List W → Store → R W} {i j : Nat} (hij : i ≠ j) (N : Nat) : ∀ (n : Nat) (a b : Int) (Γ : Env) (st : Store), b.toNat < n → 0 ≤ a → 0 ≤ b → Γ[i]? = some (some (.int a)) → Γ[j]? = some (some (.int b)) →
    ∃ Γ', whGo (evE Φ' sub0 (.cmp .ne (.var j) (.cst (.int 0)))) (evSs Φ' sub0 [.par [i, j] [(.var j), (.bin .mod (.var i) (.var j))]]) n Γ st = .nx Γ' st ∧ Γ' = (Γ.set i (some (.int (Int.gcd a b)))).set j (some (.int 0))
  | 0, a, b, Γ, st, h, _, _, _, _ => by omega
  | n + 1, a, b, Γ, st, h, ha, hb, gi, gj => by
    by_cases e : b = 0
    · subst e
      refine ⟨Γ, ?_, ?_⟩
      · have hc : evE Φ' sub0 (.cmp .ne (.var j) (.cst (.int 0))) Γ st = .ok (.bl false) st := by
          simp [evE, gj, rb, copW, eqG, deep, dOk, eqW, liftO]
        unfold whGo
        rw [hc]
      · have : (Int.gcd a 0 : Int) = a := by rw [Int.gcd_zero_right]; omega
        rw [this]
        have e1 : Γ.set i (some (.int a)) = Γ := by
          obtain ⟨hl, e⟩ := List.getElem?_eq_some_iff.mp gi
          rw [← e]; exact List.set_getElem_self hl
        have e2 : Γ.set j (some (.int 0)) = Γ := by
          obtain ⟨hl, e⟩ := List.getElem?_eq_some_iff.mp gj
          rw [← e]; exact List.set_getElem_self hl
        rw [e1, e2]
    · have hb' : 0 < b := by omega
      have hi : i < Γ.length := (List.getElem?_eq_some_iff.mp gi).1
      have hj : j < Γ.length := (List.getElem?_eq_some_iff.mp gj).1
      have m0 := Int.emod_nonneg a e
      have m1 := Int.emod_lt_of_pos a hb'
      obtain ⟨Γ', e1, e2⟩ := gcd_loop (Φ' := Φ') hij N n b (a % b) ((Γ.set i (some (.int b))).set j (some (.int (a % b)))) st (by omega) (by omega) m0 (by rw [List.getElem?_set_ne hij.symm, List.getElem?_set_self hi]) (by rw [List.getElem?_set_self (by rw [List.length_set]; exact hj)])
      refine ⟨Γ', ?_, ?_⟩
      · have hc : evE Φ' sub0 (.cmp .ne (.var j) (.cst (.int 0))) Γ st = .ok (.bl true) st := by
          simp [evE, gj, rb, copW, eqG, deep, dOk, eqW, liftO, e]
        have hb : evSs Φ' sub0 [.par [i, j] [(.var j), (.bin .mod (.var i) (.var j))]] Γ st = .nx ((Γ.set i (some (.int b))).set j (some (.int (a % b)))) st := by
          simp [evE, evEs, evSs, evS, thenS, asgTs, asgT, gi, gj, rb, liftO, bopW, hb']
        unfold whGo
        rw [hc]
        simp only []
        rw [hb]
        exact e1
      · rw [e2, gcd_step a b ha hb']
        apply List.ext_getElem?
        intro x
        simp only [List.getElem?_set, List.length_set]
        by_cases h1 : j = x <;> by_cases h2 : i = x <;> simp [h1, h2]
theorem F_common {a b : Int} (ha : 0 ≤ a) (hb : 0 ≤ b) (hl : Bd 4900 b) : Fn 3 1 [.int a, .int b] (.int (Int.gcd a b)) := by
  refine fn_of (df := f_common) rfl rfl fun k _ st => ?_
  have hf : b.toNat < fuel := by
    have h1 : b.toNat < 2 ^ 4900 := by unfold Bd at hl; omega
    exact Nat.lt_of_lt_of_le h1 (Nat.pow_le_pow_right (by decide) (by decide))
  obtain ⟨Γ', e1, e2⟩ := gcd_loop (Φ' := Φ k) (i := 0) (j := 1) (by decide) 0 fuel a b (startE f_common [.int a, .int b]) st hf ha hb rfl rfl
  refine ⟨st, ?_⟩
  refine congrArg endD ((ss_nx (Γ1 := Γ') (st1 := st) ?_).trans (ss_rt (w := .int (Int.gcd a b)) (st1 := st) ?_))
  · exact e1
  · rw [e2]; rfl

theorem Bd.add' {n : Nat} {x y : Int} (h : Bd n x) (g : Bd n y) : Bd (n + 1) (x + y) := by
  unfold Bd at *
  rw [Nat.pow_succ]
  have := Int.natAbs_add_le x y
  omega
theorem Bd.of {n : Nat} {x : Int} {m : Nat} (h : x.natAbs ≤ m) (l : m < 2 ^ n) : Bd n x := Nat.lt_of_le_of_lt h l
theorem Bd.abs {n : Nat} {x : Int} (h : Bd n x) : Bd n (if x < 0 then -x else x) := by
  unfold Bd at *
  split <;> omega
theorem Bd.le {n : Nat} {x y : Int} (h : Bd n x) (l : y.natAbs ≤ x.natAbs) : Bd n y := Nat.lt_of_le_of_lt l h
theorem gcd_pos {a b : Int} (h : 0 < b) : 0 < (Int.gcd a b : Int) := by
  have := Int.gcd_pos_of_ne_zero_right a (b := b) (by omega)
  omega
theorem gcd_abs {a b : Int} : Int.gcd (if a < 0 then -a else a) b = Int.gcd a b := by
  split
  · exact Int.neg_gcd
  · rfl
theorem gcd_le {a b : Int} (h : 0 < b) : (Int.gcd a b : Int) ≤ b := by
  have := Int.gcd_le_right a h
  omega
theorem Bd.gcd {n : Nat} {a b : Int} (h : 0 < b) (g : Bd n b) : Bd n (Int.gcd a b : Int) := by
  have := gcd_le (a := a) h
  have := gcd_pos (a := a) h
  exact g.le (by omega)
theorem rt_bd {n : Nat} {a b : Int} (h : 0 < b) (g : Bd n a) : Bd n (rt a b).num := by
  rw [rt_num h]
  exact g.le (Int.natAbs_ediv_le_natAbs _ _)
theorem rt_bdd {n : Nat} {a b : Int} (h : 0 < b) (g : Bd n b) : Bd n ((rt a b).den : Int) := by
  rw [rt_den h]
  exact g.le (Int.natAbs_ediv_le_natAbs _ _)
theorem sh_rt {a b : Int} (h : 0 < b) : pr (a / (Int.gcd a b : Int)) (b / (Int.gcd a b : Int)) = sh (rt a b) := by
  unfold sh
  rw [rt_num h, rt_den h]
theorem res_pr {n k : Nat} {a b : Int} : resB n (k + 1) (pr a b) = true := by simp [pr, resB]
theorem res_sh {n k : Nat} {r : Rat} : resB n (k + 1) (sh r) = true := res_pr
theorem e_call {Φ' : Nat → List W → Store → R W} {f : Nat} {es : List ME} {Γ : Env} {st : Store} {ws : List W} {r : W} (h1 : evEs Φ' sub0 es Γ st = .ok ws st) (h2 : pureCall (Φ' f) ws st = .ok r st) : evE Φ' sub0 (.call true f es) Γ st = .ok r st := by
  unfold evE
  rw [h1]
  exact h2
theorem s_as {Φ' : Nat → List W → Store → R W} {i : Nat} {e : ME} {Γ : Env} {st st1 : Store} {w : W} (h : evE Φ' sub0 e Γ st = .ok w st1) : evS Φ' sub0 (.as (.nm i) e) Γ st = .nx (Γ.set i (some w)) st1 := by
  unfold evS
  rw [h]
  simp [thenS, asgT]
theorem s_rt {Φ' : Nat → List W → Store → R W} {e : ME} {Γ : Env} {st st1 : Store} {w : W} (h : evE Φ' sub0 e Γ st = .ok w st1) : evS Φ' sub0 (.rt e) Γ st = .rt w st1 := by
  unfold evS
  rw [h]
  simp [thenS]
theorem s_ex {Φ' : Nat → List W → Store → R W} {e : ME} {Γ : Env} {st st1 : Store} {w : W} (h : evE Φ' sub0 e Γ st = .ok w st1) : evS Φ' sub0 (.ex e) Γ st = .nx Γ st1 := by
  unfold evS
  rw [h]
  simp [thenS]
theorem s_iff {Φ' : Nat → List W → Store → R W} {c : ME} {a b : List MS} {t : Bool} {Γ : Env} {st st1 : Store} (h : evE Φ' sub0 c Γ st = .ok (.bl t) st1) : evS Φ' sub0 (.iff c a b) Γ st = evSs Φ' sub0 (if t = true then a else b) Γ st1 := by
  unfold evS
  rw [h]
  cases t <;> rfl
theorem s_fo {Φ' : Nat → List W → Store → R W} {t : Tg} {it : It} {body : List MS} {xs : List W} {Γ : Env} {st st1 : Store} (h : evI Φ' sub0 it Γ st = .ok xs st1) : evS Φ' sub0 (.fo t it body) Γ st = forGo (asgT t) (evSs Φ' sub0 body) xs Γ st1 := by
  conv => lhs; unfold evS
  rw [h]
  rfl
theorem i_sq {Φ' : Nat → List W → Store → R W} {e : ME} {xs : List W} {k : LK} {Γ : Env} {st st1 : Store} (h : evE Φ' sub0 e Γ st = .ok (.lst k xs) st1) : evI Φ' sub0 (.sq e) Γ st = .ok xs st1 := by
  unfold evI
  rw [h]
  rfl
theorem F_made {a b : Int} (hb : 0 < b) (h1 : Bd 4800 a) (h2 : Bd 4800 b) : Fn 4 2 [.int a, .int b] (sh (rt a b)) := by
  refine fn_of (df := f_made) rfl rfl fun k hk st => ⟨st, ?_⟩
  have c := pc (k := k) (st := st) (F_common (a := if a < 0 then -a else a) (b := b) (by split <;> omega) (by omega) (h2.mono (by decide))) hk rfl rfl
  rw [gcd_abs] at c
  have d1 := divOk_of (h2.gcd (a := a) hb) (gcd_pos hb) (by decide)
  refine congrArg endD ((ss_nx (s_as (w := .int (Int.gcd a b)) (st1 := st) (e_call (by simp [evS, evE, evEs, evAnd, evOr, evO, evIfs, thenS, asgT, asgTs, rb, liftO, bopW, addW, copW, ordW, eqG, deep, dOk, eqW, idxW, b1W, b2W, isiW, seqL, mkL, lim]; rfl) c))).trans (ss_rt (s_rt (w := sh (rt a b)) (st1 := st) ?_)))
  rw [← sh_rt hb]
  simp [startE, f_made, evE, evEs, rb, bopW, liftO, d1, lim, pr]
theorem lc_run {α : Type} (enc : α → W) (keep : α → Bool) (f : α → W) {asg : W → Env → Option Env} {ifs : Env → Store → R Bool} {elt : Env → Store → R W} {Γ : Env} {st : Store} : ∀ (xs : List α), (∀ x ∈ xs, ∃ Γ', asg (enc x) Γ = some Γ' ∧ ifs Γ' st = .ok (keep x) st ∧ (keep x = true → elt Γ' st = .ok (f x) st)) → lcGo asg ifs elt Γ (xs.map enc) st = .ok ((xs.filter keep).map f) st
  | [], h => rfl
  | x :: xs, h => by
    obtain ⟨Γ', h1, h2, h3⟩ := h x (by simp)
    have ih := lc_run enc keep f xs fun y hy => h y (by simp [hy])
    rw [List.map_cons]
    unfold lcGo
    rw [h1]
    simp only [h2, R.calm]
    cases e : keep x with
    | true =>
      simp only [h3 e, ih, R.calm, List.filter_cons, e, if_true, List.map_cons]
    | false => simp [ih, List.filter_cons, e]
theorem e_lcf {α : Type} (enc : α → W) (keep : α → Bool) (f : α → W) {Φ' : Nat → List W → Store → R W} {vs : List (PySem.Str × Nat)} {t : Tg} {it : It} {ifs : List ME} {elt : ME} {Γ : Env} {st : Store} (xs : List α) (hi : evI Φ' sub0 it Γ st = .ok (xs.map enc) st)
    (h : ∀ x ∈ xs, ∃ Γ', asgT t (enc x) (wipeE Γ (vs.map (·.2))) = some Γ' ∧ evIfs Φ' sub0 ifs Γ' st = .ok (keep x) st ∧ (keep x = true → evE Φ' sub0 elt Γ' st = .ok (f x) st)) : evE Φ' sub0 (.lc false vs t it ifs elt) Γ st = .ok (.lst .fz ((xs.filter keep).map f)) st := by
  unfold evE
  rw [hi]
  show R.calm (lcGo _ _ _ _ (xs.map enc) st) _ = _
  rw [lc_run enc keep f xs h]
  rfl
theorem e_lc {α : Type} (enc : α → W) (f : α → W) {Φ' : Nat → List W → Store → R W} {vs : List (PySem.Str × Nat)} {t : Tg} {it : It} {elt : ME} {Γ : Env} {st : Store} (xs : List α) (hi : evI Φ' sub0 it Γ st = .ok (xs.map enc) st)
    (h : ∀ x ∈ xs, ∃ Γ', asgT t (enc x) (wipeE Γ (vs.map (·.2))) = some Γ' ∧ evE Φ' sub0 elt Γ' st = .ok (f x) st) : evE Φ' sub0 (.lc false vs t it [] elt) Γ st = .ok (.lst .fz (xs.map f)) st := by
  have := e_lcf enc (fun _ => true) f (vs := vs) (t := t) (it := it) (ifs := []) (elt := elt) xs hi fun x hx => by
    obtain ⟨Γ', h1, h2⟩ := h x hx
    exact ⟨Γ', h1, by simp [evIfs], fun _ => h2⟩
  rw [List.filter_eq_self.mpr (fun _ _ => rfl)] at this
  exact this
theorem e_b1 {Φ' : Nat → List W → Store → R W} {f : B1} {e : ME} {Γ : Env} {st : Store} {x r : W} (h : evE Φ' sub0 e Γ st = .ok x st) (h2 : b1W st f x = some r) : evE Φ' sub0 (.b1 f e) Γ st = .ok r st := by
  unfold evE
  rw [h]
  simp [rb, h2, liftO]
theorem blsW_all : ∀ {α : Type} (xs : List α), blsW (xs.map fun _ => W.bl true) = some (xs.map fun _ => true)
  | _, [] => rfl
  | _, x :: xs => by simp [blsW, blsW_all xs]
theorem b1_all {α : Type} {st : Store} (xs : List α) : b1W st .all (.lst .fz (xs.map fun _ => W.bl true)) = some (.bl true) := by
  simp [b1W, seqL, blsW_all]
theorem intsW_map : ∀ {α : Type} (f : α → Int) (xs : List α), intsW (xs.map fun x => W.int (f x)) = some (xs.map f)
  | _, f, [] => rfl
  | _, f, x :: xs => by simp [intsW, intsW_map f xs]
theorem b1_sum {α : Type} {st : Store} (f : α → Int) (xs : List α) : b1W st .sum (.lst .fz (xs.map fun x => W.int (f x))) = some (.int (xs.map f).sum) := by
  simp [b1W, seqL, intsW_map]

theorem F_whole {a : Int} : Fn 1 1 [.int a] (.bl true) := by
  refine fn_of (df := f_is_whole) rfl rfl fun k hk st => ⟨st, congrArg endD (ss_rt (s_rt (w := .bl true) (st1 := st) ?_))⟩
  simp [startE, f_is_whole, evS, evE, evEs, evAnd, evOr, evO, evIfs, thenS, asgT, asgTs, rb, liftO, bopW, addW, copW, ordW, eqG, deep, dOk, eqW, idxW, b1W, b2W, isiW, seqL, mkL, lim]
theorem F_between {a l m : Int} (h1 : l ≤ a) (h2 : a ≤ m) : Fn 2 2 [.int a, .int l, .int m] (.bl true) := by
  refine fn_of (df := f_is_between) rfl rfl fun k hk st => ⟨st, congrArg endD (ss_rt (s_rt (w := .bl true) (st1 := st) ?_))⟩
  have c := pc (k := k) (st := st) (F_whole (a := a)) hk rfl rfl
  simp [startE, f_is_between, evS, evE, evEs, evAnd, evOr, evO, evIfs, thenS, asgT, asgTs, rb, liftO, bopW, addW, copW, ordW, eqG, deep, dOk, eqW, idxW, b1W, b2W, isiW, seqL, mkL, lim, c, h1, h2]
theorem F_is_share {r : Rat} (hb : Bd 300 (r.den : Int)) : Fn 5 2 [sh r] (.bl true) := by
  refine fn_of (df := f_is_share) rfl rfl fun k hk st => ⟨st, ?_⟩
  have hd := r.den_pos
  have c := pc (k := k) (st := st) (F_common (a := if r.num < 0 then -r.num else r.num) (b := r.den) (by split <;> omega) (by omega) (hb.mono (by decide))) (by omega) rfl rfl
  have hg : (Int.gcd (if r.num < 0 then -r.num else r.num) r.den : Int) = 1 := by
    rw [gcd_abs]
    have := r.reduced
    unfold Nat.Coprime at this
    unfold Int.gcd
    simp [this]
  rw [hg] at c
  have l : evE (Φ k) sub0 (.lc false [("one", 1)] (.nm 1) (.sq (.var 0)) [] (.call true 1 [(.var 1)])) [some (sh r), none] st = .ok (.lst .fz ([r.num, (r.den : Int)].map fun _ => W.bl true)) st := by
    refine e_lc (fun (x : Int) => W.int x) (fun _ => W.bl true) [r.num, (r.den : Int)] (by simp [evS, evE, evEs, evAnd, evOr, evO, evIfs, thenS, asgT, asgTs, rb, liftO, bopW, addW, copW, ordW, eqG, deep, dOk, eqW, idxW, b1W, b2W, isiW, seqL, mkL, lim, evI, sh, pr]) fun x hx => ⟨[some (sh r), some (.int x)], by simp [wipeE, evS, evE, evEs, evAnd, evOr, evO, evIfs, thenS, asgT, asgTs, rb, liftO, bopW, addW, copW, ordW, eqG, deep, dOk, eqW, idxW, b1W, b2W, isiW, seqL, mkL, lim], ?_⟩
    exact e_call (ws := [.int x]) (by simp [evS, evE, evEs, evAnd, evOr, evO, evIfs, thenS, asgT, asgTs, rb, liftO, bopW, addW, copW, ordW, eqG, deep, dOk, eqW, idxW, b1W, b2W, isiW, seqL, mkL, lim]) (pc F_whole (by omega) rfl rfl)
  have l2 := e_b1 l (b1_all (st := st) [r.num, (r.den : Int)])
  refine congrArg endD ((ss_nx (Γ1 := [some (sh r), none]) (st1 := st) ((s_iff (t := false) (st1 := st) ?_).trans ss_nil)).trans (ss_rt (s_rt (w := .bl true) (st1 := st) ?_)))
  · have l3 : evE (Φ k) sub0 (.not (.b1 .all (.lc false [("one", 1)] (.nm 1) (.sq (.var 0)) [] (.call true 1 [(.var 1)])))) [some (sh r), none] st = .ok (.bl false) st := by
      unfold evE
      rw [l2]; rfl
    simp only [evE, evOr] at l3 ⊢
    simp only [startE, f_is_share, List.map_cons, List.map_nil]
    simp [evS, evE, evEs, evAnd, evOr, evO, evIfs, thenS, asgT, asgTs, rb, liftO, bopW, addW, copW, ordW, eqG, deep, dOk, eqW, idxW, b1W, b2W, isiW, seqL, mkL, lim, sh, pr] at l3 ⊢
    simpa [evS, evE, evEs, evAnd, evOr, evO, evIfs, thenS, asgT, asgTs, rb, liftO, bopW, addW, copW, ordW, eqG, deep, dOk, eqW, idxW, b1W, b2W, isiW, seqL, mkL, lim, sh, pr] using l3
  · simp [evS, evE, evEs, evAnd, evOr, evO, evIfs, thenS, asgT, asgTs, rb, liftO, bopW, addW, copW, ordW, eqG, deep, dOk, eqW, idxW, b1W, b2W, isiW, seqL, mkL, lim, sh, pr, L2.atI, L2.ixN, c, hd]
theorem e_or_f {Φ' : Nat → List W → Store → R W} {Γ : Env} {st : Store} : ∀ {es : List ME}, es ≠ [] → (∀ e ∈ es, evE Φ' sub0 e Γ st = .ok (.bl false) st) → evE Φ' sub0 (.or es) Γ st = .ok (.bl false) st
  | [], h, _ => absurd rfl h
  | [e], _, h => by
    have := h e (by simp)
    unfold evE evOr
    exact this
  | e :: e2 :: es, _, h => by
    have h1 := h e (by simp)
    have ih := e_or_f (es := e2 :: es) (by simp) fun x hx => h x (List.mem_cons_of_mem _ hx)
    unfold evE at ih ⊢
    unfold evOr
    rw [h1]
    exact ih
theorem e_and_t {Φ' : Nat → List W → Store → R W} {Γ : Env} {st : Store} : ∀ {es : List ME}, es ≠ [] → (∀ e ∈ es, evE Φ' sub0 e Γ st = .ok (.bl true) st) → evE Φ' sub0 (.and es) Γ st = .ok (.bl true) st
  | [], h, _ => absurd rfl h
  | [e], _, h => by
    have := h e (by simp)
    unfold evE evAnd
    exact this
  | e :: e2 :: es, _, h => by
    have h1 := h e (by simp)
    have ih := e_and_t (es := e2 :: es) (by simp) fun x hx => h x (List.mem_cons_of_mem _ hx)
    unfold evE at ih ⊢
    unfold evAnd
    rw [h1]
    exact ih
theorem e_not {Φ' : Nat → List W → Store → R W} {e : ME} {Γ : Env} {st : Store} {b : Bool} (h : evE Φ' sub0 e Γ st = .ok (.bl b) st) : evE Φ' sub0 (.not e) Γ st = .ok (.bl (!b)) st := by
  unfold evE
  rw [h]; rfl
theorem s_skip {Φ' : Nat → List W → Store → R W} {c : ME} {a : List MS} {ss : List MS} {Γ : Env} {st : Store} (h : evE Φ' sub0 c Γ st = .ok (.bl false) st) : evSs Φ' sub0 (.iff c a [] :: ss) Γ st = evSs Φ' sub0 ss Γ st := by
  refine ss_nx ?_
  rw [s_iff h]
  exact ss_nil
theorem F_within {r : Rat} {l m : Int} {n : Nat} (hn : n ≤ 300) (hb : Bd n (r.den : Int)) (hl : Bd 300 l) (hm : Bd 300 m) (h1 : l * r.den ≤ r.num) (h2 : r.num ≤ m * r.den) : Fn 6 3 [sh r, .int l, .int m] (.bl true) := by
  refine fn_of (df := f_is_within) rfl rfl fun k hk st => ⟨st, congrArg endD (ss_rt (s_rt (w := .bl true) (st1 := st) ?_))⟩
  have c := pc (k := k) (st := st) (F_is_share (hb.mono hn)) hk rfl rfl
  have m1 : mulOk l r.den = true := mulOk_of hl hb (by omega)
  have m2 : mulOk m r.den = true := mulOk_of hm hb (by omega)
  simp only [sh, pr] at c
  simp [startE, f_is_within, evS, evE, evEs, evAnd, evOr, evO, evIfs, thenS, asgT, asgTs, rb, liftO, bopW, addW, copW, ordW, eqG, deep, dOk, eqW, idxW, b1W, b2W, isiW, seqL, mkL, lim, sh, pr, L2.atI, L2.ixN, c, m1, m2, h1, h2]
theorem F_asked_length {L : Int} (h1 : 1 ≤ L) (h2 : L ≤ 1000) : Fn 9 3 [.int L] .non := by
  refine fn_of (df := f_asked_length) rfl rfl fun k hk st => ⟨st, congrArg endD ((s_skip ?_).trans ss_nil)⟩
  have c := pc (k := k) (st := st) (F_between h1 h2) hk rfl rfl
  simp [startE, f_asked_length, evS, evE, evEs, evAnd, evOr, evO, evIfs, thenS, asgT, asgTs, rb, liftO, bopW, addW, copW, ordW, eqG, deep, dOk, eqW, idxW, b1W, b2W, isiW, seqL, mkL, lim, c]
theorem e_callS {Φ' : Nat → List W → Store → R W} {f : Nat} {es : List ME} {Γ : Env} {st : Store} {ws : List W} {r : W} (h1 : evEs Φ' sub0 es Γ st = .ok ws st) (h2 : pureCall (Φ' f) ws st = .ok r st) : evS Φ' sub0 (.ex (.call true f es)) Γ st = .nx Γ st := s_ex (e_call h1 h2)
theorem e_cmp2 {Φ' : Nat → List W → Store → R W} {a b c : ME} {Γ : Env} {st : Store} {x y z : Int} (ha : evE Φ' sub0 a Γ st = .ok (.int x) st) (hb : evE Φ' sub0 b Γ st = .ok (.int y) st) (hc : evE Φ' sub0 c Γ st = .ok (.int z) st) : evE Φ' sub0 (.cmp2 .le .le a b c) Γ st = .ok (.bl (decide (x ≤ y) && decide (y ≤ z))) st := by
  unfold evE
  rw [ha, rb, hb, rb]
  show (liftO (some (W.bl (decide (x ≤ y)))) st).bind _ = _
  cases decide (x ≤ y) with
  | true =>
    show (evE Φ' sub0 c Γ st).bind _ = _
    rw [hc]; rfl
  | false => rfl
theorem e_int {Φ' : Nat → List W → Store → R W} {Γ : Env} {st : Store} {i : Int} : evE Φ' sub0 (.cst (.int i)) Γ st = .ok (.int i) st := by unfold evE; rfl
theorem e_var {Φ' : Nat → List W → Store → R W} {Γ : Env} {st : Store} {i : Nat} {w : W} (h : Γ[i]? = some (some w)) : evE Φ' sub0 (.var i) Γ st = .ok w st := by
  unfold evE
  rw [h]
theorem e_tup {Φ' : Nat → List W → Store → R W} {es : List ME} {Γ : Env} {st : Store} {ws : List W} (h : evEs Φ' sub0 es Γ st = .ok ws st) (hl : ws.length ≤ lim) : evE Φ' sub0 (.tup es) Γ st = .ok (.tup ws) st := by
  unfold evE
  rw [h, rb, if_pos hl]
theorem e_lst {Φ' : Nat → List W → Store → R W} {es : List ME} {Γ : Env} {st : Store} {ws : List W} (h : evEs Φ' sub0 es Γ st = .ok ws st) (hl : ws.length ≤ lim) : evE Φ' sub0 (.lst false es) Γ st = .ok (.lst .fz ws) st := by
  unfold evE
  rw [h, rb, if_pos hl]
  rfl
theorem e_callN {Φ' : Nat → List W → Store → R W} {f : Nat} {es : List ME} {Γ : Env} {st st1 st2 : Store} {ws : List W} {r : W} (h1 : evEs Φ' sub0 es Γ st = .ok ws st1) (h2 : Φ' f ws st1 = .ok r st2) : evE Φ' sub0 (.call false f es) Γ st = .ok r st2 := by
  unfold evE
  rw [h1]
  exact h2
theorem e_str {Φ' : Nat → List W → Store → R W} {Γ : Env} {st : Store} {s : PySem.Str} : evE Φ' sub0 (.cst (.str s)) Γ st = .ok (.str s) st := by unfold evE; rfl
theorem e_bl {Φ' : Nat → List W → Store → R W} {Γ : Env} {st : Store} {b : Bool} : evE Φ' sub0 (.cst (.bl b)) Γ st = .ok (.bl b) st := by unfold evE; rfl
theorem e_glb {Φ' : Nat → List W → Store → R W} {Γ : Env} {st : Store} {x : PySem.Str} {i : Int} : evE Φ' sub0 (.glb x i) Γ st = .ok (.int i) st := by unfold evE; rfl
theorem e_isi_lst {Φ' : Nat → List W → Store → R W} {a : ME} {Γ : Env} {st : Store} {k : LK} {xs : List W} (ha : evE Φ' sub0 a Γ st = .ok (.lst k xs) st) (hk : k ≠ .gv) : evE Φ' sub0 (.isi a (.ty "list")) Γ st = .ok (.bl true) st := by
  unfold evE
  rw [ha, rb]
  simp only [isiW, if_neg hk]
  rfl
theorem e_isi_bl {Φ' : Nat → List W → Store → R W} {a : ME} {Γ : Env} {st : Store} {b : Bool} (ha : evE Φ' sub0 a Γ st = .ok (.bl b) st) : evE Φ' sub0 (.isi a (.ty "bool")) Γ st = .ok (.bl true) st := by
  unfold evE
  rw [ha, rb]
  rfl
theorem e_or3S {Φ' : Nat → List W → Store → R W} {a b c : ME} {Γ : Env} {st st1 st2 st3 : Store} {z : Bool} (ha : evE Φ' sub0 a Γ st = .ok (.bl false) st1) (hb : evE Φ' sub0 b Γ st1 = .ok (.bl false) st2) (hc : evE Φ' sub0 c Γ st2 = .ok (.bl z) st3) : evE Φ' sub0 (.or [a, b, c]) Γ st = .ok (.bl z) st3 := by
  unfold evE evOr
  rw [ha]
  show (evOr Φ' sub0 [b, c] Γ st1) = _
  unfold evOr
  rw [hb]
  show (evOr Φ' sub0 [c] Γ st2) = _
  unfold evOr
  exact hc
theorem e_andS {Φ' : Nat → List W → Store → R W} {a b : ME} {Γ : Env} {st st1 st2 : Store} {y : Bool} (ha : evE Φ' sub0 a Γ st = .ok (.bl true) st1) (hb : evE Φ' sub0 b Γ st1 = .ok (.bl y) st2) : evE Φ' sub0 (.and [a, b]) Γ st = .ok (.bl y) st2 := by
  unfold evE evAnd
  rw [ha]
  show (evAnd Φ' sub0 [b] Γ st1) = _
  unfold evAnd
  exact hb
theorem e_notS {Φ' : Nat → List W → Store → R W} {e : ME} {Γ : Env} {st st1 : Store} {b : Bool} (h : evE Φ' sub0 e Γ st = .ok (.bl b) st1) : evE Φ' sub0 (.not e) Γ st = .ok (.bl (!b)) st1 := by
  unfold evE
  rw [h]
  rfl
theorem e_callP {Φ' : Nat → List W → Store → R W} {f : Nat} {es : List ME} {Γ : Env} {st st1 : Store} {ws : List W} {r : W} (h1 : evEs Φ' sub0 es Γ st = .ok ws st1) (h2 : pureCall (Φ' f) ws st1 = .ok r st1) : evE Φ' sub0 (.call true f es) Γ st = .ok r st1 := by
  unfold evE
  rw [h1]
  exact h2
theorem s_skipS {Φ' : Nat → List W → Store → R W} {c : ME} {a : List MS} {ss : List MS} {Γ : Env} {st st1 : Store} (h : evE Φ' sub0 c Γ st = .ok (.bl false) st1) : evSs Φ' sub0 (.iff c a [] :: ss) Γ st = evSs Φ' sub0 ss Γ st1 := by
  refine ss_nx ?_
  rw [s_iff h]
  exact ss_nil
theorem e_or2S {Φ' : Nat → List W → Store → R W} {a b : ME} {Γ : Env} {st st1 st2 : Store} {y : Bool} (ha : evE Φ' sub0 a Γ st = .ok (.bl false) st1) (hb : evE Φ' sub0 b Γ st1 = .ok (.bl y) st2) : evE Φ' sub0 (.or [a, b]) Γ st = .ok (.bl y) st2 := by
  unfold evE evOr
  rw [ha]
  show (evOr Φ' sub0 [b] Γ st1) = _
  unfold evOr
  exact hb


end K10

set_option Elab.async false
set_option linter.all false
set_option maxRecDepth 100000
set_option maxHeartbeats 1000000
set_option exponentiation.threshold 100
namespace K10
open Mi P10
theorem pcx {i k c : Nat} {ws : List W} {st : Store} (h : ∀ st, ∃ st', Φ k i ws st = .exc c st') (hs : ws.map (snap st) = ws) : pureCall (Φ k i) ws st = .exc c st := by
  unfold pureCall
  rw [hs]
  obtain ⟨st', e⟩ := h (dead st)
  rw [e]
theorem pcb {i k : Nat} {b : Bool} {ws : List W} {st : Store} (h : ∀ st, ∃ st', Φ k i ws st = .ok (.bl b) st') (hs : ws.map (snap st) = ws) : pureCall (Φ k i) ws st = .ok (.bl b) st := by
  unfold pureCall
  rw [hs]
  obtain ⟨st', e⟩ := h (dead st)
  rw [e]
  rfl
/-- a thing that is its own picture -/
def Sn (t : W) : Prop := ∀ st, snap st t = t
theorem sn2 {st : Store} {a b : W} (h1 : snap st a = a) (h2 : snap st b = b) : [a, b].map (snap st) = [a, b] := by simp [h1, h2]
theorem sn_non {st : Store} : snap st .non = .non := rfl
/-- raised of so many calls deep, and nothing changed -/
def Xc (f d : Nat) (ws : List W) (c : Nat) : Prop := ∀ k st, Φ (k + d) f ws st = .exc c st
theorem Xc.at {f d c k : Nat} {ws : List W} (h : Xc f d ws c) (hk : d ≤ k) (st : Store) : Φ k f ws st = .exc c st := by
  obtain ⟨j, rfl⟩ : ∃ j, k = j + d := ⟨k - d, by omega⟩
  exact h j st
theorem Xc.pc {f d c k : Nat} {ws : List W} (h : Xc f d ws c) (hk : d ≤ k) {st : Store} (hs : ws.map (snap st) = ws) : pureCall (Φ k f) ws st = .exc c st := pcx (fun st => ⟨st, h.at hk st⟩) hs
/-- answers so, so many calls deep, and nothing changed -/
def Fb (f d : Nat) (ws : List W) (b : Bool) : Prop := ∀ k st, Φ (k + d) f ws st = .ok (.bl b) st
theorem Fb.at {f d k : Nat} {b : Bool} {ws : List W} (h : Fb f d ws b) (hk : d ≤ k) (st : Store) : Φ k f ws st = .ok (.bl b) st := by
  obtain ⟨j, rfl⟩ : ∃ j, k = j + d := ⟨k - d, by omega⟩
  exact h j st
theorem Fb.pc {f d k : Nat} {b : Bool} {ws : List W} (h : Fb f d ws b) (hk : d ≤ k) {st : Store} (hs : ws.map (snap st) = ws) : pureCall (Φ k f) ws st = .ok (.bl b) st := pcb (fun st => ⟨st, h.at hk st⟩) hs
/-- raised of so many calls deep where I holds, and nothing changed -/
def Xi (I : Store → Prop) (f d : Nat) (ws : List W) (c : Nat) : Prop := ∀ k st, I st → Φ (k + d) f ws st = .exc c st
theorem Xi.at {I : Store → Prop} {f d c k : Nat} {ws : List W} (h : Xi I f d ws c) (hk : d ≤ k) {st : Store} (i : I st) : Φ k f ws st = .exc c st := by
  obtain ⟨j, rfl⟩ : ∃ j, k = j + d := ⟨k - d, by omega⟩
  exact h j st i
def Nn (f d : Nat) (ws : List W) : Prop := ∀ k st, Φ (k + d) f ws st = .ok .non st
theorem Nn.at {f d k : Nat} {ws : List W} (h : Nn f d ws) (hk : d ≤ k) (st : Store) : Φ k f ws st = .ok .non st := by
  obtain ⟨j, rfl⟩ : ∃ j, k = j + d := ⟨k - d, by omega⟩
  exact h j st
theorem Nn.pc {f d k : Nat} {ws : List W} (h : Nn f d ws) (hk : d ≤ k) {st : Store} (hs : ws.map (snap st) = ws) : pureCall (Φ k f) ws st = .ok .non st := by
  unfold pureCall
  rw [hs, h.at hk]
  rfl
def ax (b w : Int) : W := .tup [.int b, .int w]
def one : W := .lst .fz [.tup [.int 0, .int 1]]
def s04 : W := .lst .fz [.int 0, .int 4]
theorem n9 : Nn 9 3 [.int 4] := fun k st => by kernel_rfl
theorem n12 : Nn 12 4 [one] := fun k st => by kernel_rfl
theorem n13 : Nn 13 5 [.int 4, one, .tup [.int 0, .int 1]] := fun k st => by kernel_rfl
theorem n18 : Nn 18 4 [.int 4, .tup [.int 1, .int 1]] := fun k st => by kernel_rfl
theorem b04 : Fb 2 2 [.int 0, .int 0, .int 1000] true := fun k st => by kernel_rfl
theorem b44 : Fb 2 2 [.int 4, .int 0, .int 1000] true := fun k st => by kernel_rfl
section
variable {t : W} (hs : Sn t)
include hs
/-! lengths -/
theorem x19_len (h : Xc 9 3 [t] 1) : Xc 19 5 [t, .non, .non] 1 := fun k st => by
  have p := h.pc (k := k + 3) (by omega) (st := st) (by simp [hs st])
  have e : Φ (k + 4) 13 [t, .non, .non] st = .exc 1 st := by
    rw [phi_def (d := f_asked_head) rfl rfl rfl]; simp [f_asked_head, startE, endD, evSs, R.bind, evS, evE, evEs, thenS, p]
  rw [phi_def (d := f_bears) rfl rfl rfl]; simp [f_bears, startE, endD, evSs, R.bind, evS, evE, evEs, thenS, e]
theorem x20_len (h : Xc 9 3 [t] 1) : Xc 20 5 [t, .non, .non, .non] 1 := fun k st => by
  have p := h.pc (k := k + 3) (by omega) (st := st) (by simp [hs st])
  have e : Φ (k + 4) 13 [t, .non, .non] st = .exc 1 st := by
    rw [phi_def (d := f_asked_head) rfl rfl rfl]; simp [f_asked_head, startE, endD, evSs, R.bind, evS, evE, evEs, thenS, p]
  rw [phi_def (d := f_bent) rfl rfl rfl]; simp [f_bent, startE, endD, evSs, R.bind, evS, evE, evEs, thenS, e]
theorem x21_len (h : Xc 9 3 [t] 1) : Xc 21 4 [t, .non, .non] 1 := fun k st => by
  have p := h.pc (k := k + 3) (by omega) (st := st) (by simp [hs st])
  rw [phi_def (d := f_shape) rfl rfl rfl]; simp [f_shape, startE, endD, evSs, R.bind, evS, evE, evEs, thenS, p]
theorem x67_len (h : Xc 9 3 [t] 1) : Xc 67 4 [t, .non, .non] 1 := fun k st => by
  have p := h.pc (k := k + 3) (by omega) (st := st) (by simp [hs st])
  rw [phi_def (d := f_worst_at) rfl rfl rfl]; simp [f_worst_at, startE, endD, evSs, R.bind, evS, evE, evEs, thenS, p]
theorem x68_len (h : Xc 9 3 [t] 1) : Xc 68 4 [t, .non] 1 := fun k st => by
  have p := h.pc (k := k + 3) (by omega) (st := st) (by simp [hs st])
  rw [phi_def (d := f_worst) rfl rfl rfl]; simp [f_worst, startE, endD, evSs, R.bind, evS, evE, evEs, thenS, p]
theorem x66_len (h : Xc 9 3 [t] 1) : Xc 66 4 [t, .non, .non] 1 := fun k st => by
  have p := h.pc (k := k + 3) (by omega) (st := st) (by simp [hs st])
  rw [phi_def (d := f_judged) rfl rfl rfl]; simp [f_judged, startE, endD, evSs, R.bind, evS, evE, evEs, thenS, p]
theorem x35_len {v : W} (h : Xc 9 3 [t] 1) : Xc 35 4 [v, t, .non] 1 := fun k st => by
  have p := h.pc (k := k + 3) (by omega) (st := st) (by simp [hs st])
  rw [phi_def (d := f_Deck_init) rfl rfl rfl]; simp [f_Deck_init, startE, endD, evSs, R.bind, evS, evE, evEs, thenS, p]
theorem l77 (h : Xc 9 3 [t] 1) : Xc 77 8 [t] 1 := fun k st => by
  have e := (x19_len hs h).at (k := k + 7) (by omega) st
  rw [phi_def (d := f_lam77) rfl rfl rfl]; simp [f_lam77, startE, endD, evSs, R.bind, evS, evE, evEs, thenS, e]
theorem l78 (h : Xc 9 3 [t] 1) : Xc 78 8 [t] 1 := fun k st => by
  have e := (x20_len hs h).at (k := k + 7) (by omega) st
  rw [phi_def (d := f_lam78) rfl rfl rfl]; simp [f_lam78, startE, endD, evSs, R.bind, evS, evE, evEs, thenS, e]
theorem l83 (h : Xc 9 3 [t] 1) : Xc 83 8 [t] 1 := fun k st => by
  have e := (x21_len hs h).pc (k := k + 7) (by omega) (st := st) (by simp [hs st, sn_non])
  rw [phi_def (d := f_lam83) rfl rfl rfl]; simp [f_lam83, startE, endD, evSs, R.bind, evS, evE, evEs, thenS, e]
theorem l84 (h : Xc 9 3 [t] 1) : Xc 84 8 [t] 1 := fun k st => by
  have e := (x67_len hs h).at (k := k + 7) (by omega) st
  rw [phi_def (d := f_lam84) rfl rfl rfl]; simp [f_lam84, startE, endD, evSs, R.bind, evS, evE, evEs, thenS, e]
theorem l85 (h : Xc 9 3 [t] 1) : Xc 85 8 [t] 1 := fun k st => by
  have e := (x68_len hs h).at (k := k + 7) (by omega) st
  rw [phi_def (d := f_lam85) rfl rfl rfl]; simp [f_lam85, startE, endD, evSs, R.bind, evS, evE, evEs, thenS, e]
theorem l94 (h : Xc 9 3 [t] 1) : Xc 94 8 [t] 1 := fun k st => by
  have e := (x66_len hs h).at (k := k + 7) (by omega) st
  rw [phi_def (d := f_lam94) rfl rfl rfl]; simp [f_lam94, startE, endD, evSs, R.bind, evS, evE, evEs, thenS, e]
theorem l86 (h : Xc 9 3 [t] 1) (k : Nat) (st : Store) : Φ (k + 8) 86 [t] st = .exc 1 (st ++ [some (.ins 14 [])]) := by
  have e := (x35_len (v := .loc st.length) hs h).at (k := k + 7) (by omega) (st ++ [some (.ins 14 [])])
  rw [phi_def (d := f_lam86) rfl rfl rfl]; simp [f_lam86, startE, endD, evSs, R.bind, evS, evE, evEs, thenS, e, madeI]
end
/-! trains -/
section
variable {t : W} {I : Store → Prop}
theorem x13_tr (h : Xi I 12 4 [t] 2) : Xi I 13 5 [.int 4, t, .non] 2 := fun k st i => by
  have p := n9.pc (k := k + 4) (by omega) (st := st) rfl
  have e := h.at (k := k + 4) (by omega) i
  rw [phi_def (d := f_asked_head) rfl rfl rfl]; simp [f_asked_head, startE, endD, evSs, R.bind, evS, evE, evEs, thenS, p, e]
theorem l79 (h : Xi I 12 4 [t] 2) : Xi I 79 8 [t] 2 := fun k st i => by
  have e := (x13_tr h).at (k := k + 6) (by omega) i
  have e2 : Φ (k + 7) 19 [.int 4, t, .non] st = .exc 2 st := by
    rw [phi_def (d := f_bears) rfl rfl rfl]; simp [f_bears, startE, endD, evSs, R.bind, evS, evE, evEs, thenS, e]
  rw [phi_def (d := f_lam79) rfl rfl rfl]; simp [f_lam79, startE, endD, evSs, R.bind, evS, evE, evEs, thenS, e2]
theorem l80 (h : Xi I 12 4 [t] 2) : Xi I 80 8 [t] 2 := fun k st i => by
  have e := (x13_tr h).at (k := k + 6) (by omega) i
  have e2 : Φ (k + 7) 20 [.int 4, t, .non, .non] st = .exc 2 st := by
    rw [phi_def (d := f_bent) rfl rfl rfl]; simp [f_bent, startE, endD, evSs, R.bind, evS, evE, evEs, thenS, e]
  rw [phi_def (d := f_lam80) rfl rfl rfl]; simp [f_lam80, startE, endD, evSs, R.bind, evS, evE, evEs, thenS, e2]
theorem l87 (h : Xi I 12 4 [t] 2) : Xi I 87 8 [t] 2 := fun k st i => by
  have p := n9.pc (k := k + 6) (by omega) (st := st) rfl
  have e := h.at (k := k + 6) (by omega) i
  have e2 : Φ (k + 7) 67 [.int 4, t, .non] st = .exc 2 st := by
    rw [phi_def (d := f_worst_at) rfl rfl rfl]; simp [f_worst_at, startE, endD, evSs, R.bind, evS, evE, evEs, thenS, p, e]
  rw [phi_def (d := f_lam87) rfl rfl rfl]; simp [f_lam87, startE, endD, evSs, R.bind, evS, evE, evEs, thenS, e2]
theorem l88 (h : Xi I 12 4 [t] 2) : Xi I 88 8 [t] 2 := fun k st i => by
  have p := n9.pc (k := k + 6) (by omega) (st := st) rfl
  have e := h.at (k := k + 6) (by omega) i
  have e2 : Φ (k + 7) 68 [.int 4, t] st = .exc 2 st := by
    rw [phi_def (d := f_worst) rfl rfl rfl]; simp [f_worst, startE, endD, evSs, R.bind, evS, evE, evEs, thenS, p, e]
  rw [phi_def (d := f_lam88) rfl rfl rfl]; simp [f_lam88, startE, endD, evSs, R.bind, evS, evE, evEs, thenS, e2]
theorem l89 (h : Xi I 12 4 [t] 2) : Xi I 89 8 [t] 2 := fun k st i => by
  have p1 := b04.pc (k := k + 5) (by omega) (st := st) rfl
  have p2 := b44.pc (k := k + 5) (by omega) (st := st) rfl
  have e := h.at (k := k + 5) (by omega) i
  have e1 : Φ (k + 6) 50 [s04, t, .non] st = .exc 2 st := by
    rw [phi_def (d := f_asked_sites) rfl rfl rfl]; simp [f_asked_sites, startE, endD, evSs, R.bind, evS, evE, evEs, thenS, p1, p2, e, s04, R.calm, lcGo, asgT, wipeE, evI, mkL, b1W, seqL, blsW, liftO, isiW, evOr, copW, ordW, evIfs, rgW, rgV, idxW, bopW, L2.atI, L2.ixN]
  have e2 : Φ (k + 7) 65 [s04, t, .non] st = .exc 2 st := by
    rw [phi_def (d := f_laid) rfl rfl rfl]; simp [f_laid, startE, endD, evSs, R.bind, evS, evE, evEs, thenS, e1]
  simp only [s04] at e2
  rw [phi_def (d := f_lam89) rfl rfl rfl]; simp [f_lam89, startE, endD, evSs, R.bind, evS, evE, evEs, thenS, e2, s04, lim, mkL]
end

/-! heads, places -/
theorem sn_int {st : Store} {i : Int} : snap st (.int i) = .int i := rfl
theorem sn_tup {st : Store} {xs : List W} : snap st (.tup xs) = .tup xs := rfl
theorem sn_lst {st : Store} {k : LK} {xs : List W} : snap st (.lst k xs) = .lst k xs := rfl
section
variable {t : W} (hs : Sn t)
include hs
theorem x13_hd (h : Fb 6 5 [t, .int (-1000), .int 3000] false) : Xc 13 6 [.int 4, one, t] 3 := fun k st => by
  have p := n9.pc (k := k + 5) (by omega) (st := st) rfl
  have e := n12.at (k := k + 5) (by omega) st
  have q := h.pc (k := k + 5) (by omega) (st := st) (by simp [hs st, sn_int])
  rw [phi_def (d := f_asked_head) rfl rfl rfl]; simp [f_asked_head, startE, endD, evSs, R.bind, evS, evE, evEs, thenS, p, e, q]
theorem l92 (h : Fb 6 5 [t, .int (-1000), .int 3000] false) : Xc 92 8 [t] 3 := fun k st => by
  have e := (x13_hd hs h).at (k := k + 6) (by omega) st
  have e2 : Φ (k + 7) 19 [.int 4, one, t] st = .exc 3 st := by
    rw [phi_def (d := f_bears) rfl rfl rfl]; simp [f_bears, startE, endD, evSs, R.bind, evS, evE, evEs, thenS, e]
  simp only [one] at e2
  rw [phi_def (d := f_lam92) rfl rfl rfl]; simp [f_lam92, startE, endD, evSs, R.bind, evS, evE, evEs, thenS, e2, lim, mkL]
theorem l93 (h : Fb 6 5 [t, .int (-1000), .int 3000] false) : Xc 93 8 [t] 3 := fun k st => by
  have e := (x13_hd hs h).at (k := k + 6) (by omega) st
  have e2 : Φ (k + 7) 20 [.int 4, one, t, .non] st = .exc 3 st := by
    rw [phi_def (d := f_bent) rfl rfl rfl]; simp [f_bent, startE, endD, evSs, R.bind, evS, evE, evEs, thenS, e]
  simp only [one] at e2
  rw [phi_def (d := f_lam93) rfl rfl rfl]; simp [f_lam93, startE, endD, evSs, R.bind, evS, evE, evEs, thenS, e2, lim, mkL]
theorem x18_pl (h : Fb 6 5 [t, .int 0, .int 4] false) : Xc 18 6 [.int 4, t] 4 := fun k st => by
  have q := h.pc (k := k + 5) (by omega) (st := st) (by simp [hs st, sn_int])
  rw [phi_def (d := f_asked_place) rfl rfl rfl]; simp [f_asked_place, startE, endD, evSs, R.bind, evS, evE, evEs, thenS, q]
theorem l81 (h : Fb 6 5 [t, .int 0, .int 4] false) : Xc 81 8 [t] 4 := fun k st => by
  have p := n13.at (k := k + 6) (by omega) st
  have q := (x18_pl hs h).pc (k := k + 6) (by omega) (st := st) (by simp [hs st, sn_int])
  have e2 : Φ (k + 7) 20 [.int 4, one, .tup [.int 0, .int 1], t] st = .exc 4 st := by
    rw [phi_def (d := f_bent) rfl rfl rfl]; simp [f_bent, startE, endD, evSs, R.bind, evS, evE, evEs, thenS, p, q]
  simp only [one] at e2
  rw [phi_def (d := f_lam81) rfl rfl rfl]; simp [f_lam81, startE, endD, evSs, R.bind, evS, evE, evEs, thenS, e2, lim, mkL]
theorem l82 (h : Fb 6 5 [t, .int 0, .int 4] false) : Xc 82 8 [t] 4 := fun k st => by
  have e2 : Xc 21 7 [.int 4, t, .tup [.int 1, .int 1]] 4 := fun k st => by
    have p := n9.pc (k := k + 6) (by omega) (st := st) rfl
    have q := (x18_pl hs h).pc (k := k + 6) (by omega) (st := st) (by simp [hs st, sn_int])
    rw [phi_def (d := f_shape) rfl rfl rfl]; simp [f_shape, startE, endD, evSs, R.bind, evS, evE, evEs, thenS, p, q]
  have e := e2.pc (k := k + 7) (by omega) (st := st) (by simp [hs st, sn_int, sn_tup])
  rw [phi_def (d := f_lam82) rfl rfl rfl]; simp [f_lam82, startE, endD, evSs, R.bind, evS, evE, evEs, thenS, e, lim, mkL]
theorem l90 (h : Fb 6 5 [t, .int 0, .int 4] false) : Xc 90 8 [t] 4 := fun k st => by
  have e2 : Xc 21 7 [.int 4, .tup [.int 1, .int 1], t] 4 := fun k st => by
    have p := n9.pc (k := k + 6) (by omega) (st := st) rfl
    have r := n18.pc (k := k + 6) (by omega) (st := st) rfl
    have q := (x18_pl hs h).pc (k := k + 6) (by omega) (st := st) (by simp [hs st, sn_int])
    rw [phi_def (d := f_shape) rfl rfl rfl]; simp [f_shape, startE, endD, evSs, R.bind, evS, evE, evEs, thenS, p, q, r]
  have e := e2.pc (k := k + 7) (by omega) (st := st) (by simp [hs st, sn_int, sn_tup])
  rw [phi_def (d := f_lam90) rfl rfl rfl]; simp [f_lam90, startE, endD, evSs, R.bind, evS, evE, evEs, thenS, e, lim, mkL]
theorem x67_pl (h : Fb 6 5 [t, .int 0, .int 4] false) : Xc 67 6 [.int 4, one, t] 4 := fun k st => by
  have p := n9.pc (k := k + 5) (by omega) (st := st) rfl
  have e := n12.at (k := k + 5) (by omega) st
  have q := h.pc (k := k + 5) (by omega) (st := st) (by simp [hs st, sn_int])
  rw [phi_def (d := f_worst_at) rfl rfl rfl]; simp [f_worst_at, startE, endD, evSs, R.bind, evS, evE, evEs, thenS, p, e, q, evOr]
theorem l95 (h : Fb 6 5 [t, .int 0, .int 4] false) : Xc 95 8 [t] 4 := fun k st => by
  have e2 := (x67_pl hs h).at (k := k + 7) (by omega) st
  simp only [one] at e2
  rw [phi_def (d := f_lam95) rfl rfl rfl]; simp [f_lam95, startE, endD, evSs, R.bind, evS, evE, evEs, thenS, e2, lim, mkL]
/-! sites, strengths, posts, loads -/
theorem l100 (h : Xc 50 5 [t, .non, .non] 5) : Xc 100 8 [t] 5 := fun k st => by
  have e := h.at (k := k + 6) (by omega) st
  have e2 : Φ (k + 7) 65 [t, .non, .non] st = .exc 5 st := by
    rw [phi_def (d := f_laid) rfl rfl rfl]; simp [f_laid, startE, endD, evSs, R.bind, evS, evE, evEs, thenS, e]
  rw [phi_def (d := f_lam100) rfl rfl rfl]; simp [f_lam100, startE, endD, evSs, R.bind, evS, evE, evEs, thenS, e2]
theorem l96 (h : Xc 10 3 [t] 6) : Xc 96 8 [t] 6 := fun k st => by
  have p1 := b04.pc (k := k + 5) (by omega) (st := st) rfl
  have p2 := b44.pc (k := k + 5) (by omega) (st := st) rfl
  have e := n12.at (k := k + 5) (by omega) st
  have q := h.pc (k := k + 5) (by omega) (st := st) (by simp [hs st])
  have e1 : Φ (k + 6) 50 [s04, one, t] st = .exc 6 st := by
    rw [phi_def (d := f_asked_sites) rfl rfl rfl]; simp [f_asked_sites, startE, endD, evSs, R.bind, evS, evE, evEs, thenS, p1, p2, e, q, s04, R.calm, lcGo, asgT, wipeE, evI, mkL, b1W, seqL, blsW, liftO, isiW, evOr, copW, ordW, evIfs, rgW, rgV, idxW, bopW, L2.atI, L2.ixN]
  have e2 : Φ (k + 7) 65 [s04, one, t] st = .exc 6 st := by
    rw [phi_def (d := f_laid) rfl rfl rfl]; simp [f_laid, startE, endD, evSs, R.bind, evS, evE, evEs, thenS, e1]
  simp only [s04, one] at e2
  rw [phi_def (d := f_lam96) rfl rfl rfl]; simp [f_lam96, startE, endD, evSs, R.bind, evS, evE, evEs, thenS, e2, lim, mkL]
theorem l97 (h : Xc 10 3 [t] 6) (k : Nat) (st : Store) : Φ (k + 8) 97 [t] st = .exc 6 (st ++ [some (.ins 14 [])]) := by
  have p := n9.pc (k := k + 6) (by omega) (st := st ++ [some (.ins 14 [])]) rfl
  have q := h.pc (k := k + 6) (by omega) (st := st ++ [some (.ins 14 [])]) (by simp [hs _])
  have e : Φ (k + 7) 35 [.loc st.length, .int 4, t] (st ++ [some (.ins 14 [])]) = .exc 6 (st ++ [some (.ins 14 [])]) := by
    rw [phi_def (d := f_Deck_init) rfl rfl rfl]; simp [f_Deck_init, startE, endD, evSs, R.bind, evS, evE, evEs, thenS, p, q]
  rw [phi_def (d := f_lam97) rfl rfl rfl]; simp [f_lam97, startE, endD, evSs, R.bind, evS, evE, evEs, thenS, e, madeI]
theorem l98 (h : Xc 10 3 [t] 6) : Xc 98 8 [t] 6 := fun k st => by
  have p := n9.pc (k := k + 6) (by omega) (st := st) rfl
  have q := h.pc (k := k + 6) (by omega) (st := st) (by simp [hs st])
  have e : Φ (k + 7) 66 [.int 4, t, .non] st = .exc 6 st := by
    rw [phi_def (d := f_judged) rfl rfl rfl]; simp [f_judged, startE, endD, evSs, R.bind, evS, evE, evEs, thenS, p, q]
  rw [phi_def (d := f_lam98) rfl rfl rfl]; simp [f_lam98, startE, endD, evSs, R.bind, evS, evE, evEs, thenS, e]
theorem l101 (h : Xc 46 5 [t, .non] 7) : Xc 101 8 [t] 7 := fun k st => by
  have q := h.pc (k := k + 6) (by omega) (st := st) (by simp [hs st, sn_non])
  have e : Φ (k + 7) 64 [t, .non] st = .exc 7 st := by
    rw [phi_def (d := f_plank) rfl rfl rfl]; simp [f_plank, startE, endD, evSs, R.bind, evS, evE, evEs, thenS, q]
  rw [phi_def (d := f_lam101) rfl rfl rfl]; simp [f_lam101, startE, endD, evSs, R.bind, evS, evE, evEs, thenS, e]
theorem l99 (h : Xc 46 6 [.lst .fz [.int 0], t] 8) : Xc 99 8 [t] 8 := fun k st => by
  have q := h.pc (k := k + 6) (by omega) (st := st) (by simp [hs st, sn_lst])
  have e : Φ (k + 7) 64 [.lst .fz [.int 0], t] st = .exc 8 st := by
    rw [phi_def (d := f_plank) rfl rfl rfl]; simp [f_plank, startE, endD, evSs, R.bind, evS, evE, evEs, thenS, q]
  rw [phi_def (d := f_lam99) rfl rfl rfl]; simp [f_lam99, startE, endD, evSs, R.bind, evS, evE, evEs, thenS, e, lim, mkL]
end
/-! a deck's doors -/
def DkF (n p q : Nat) (st : Store) : Prop := st[n]? = some (some (.ins 14 [("length", .int 4), ("strength", .int 5), ("loads", .loc p), ("lines", .loc q)]))
section
variable {n p q : Nat} {st : Store} (D : DkF n p q st)
include D
theorem DkF.len : fldW st (.loc n) "length" [14] = some (.int 4) := by
  unfold DkF at D
  unfold fldW
  simp only [D]
  kernel_rfl
theorem DkF.mt {m : PySem.Str} (h : List.lookup m [(("length" : PySem.Str), W.int 4), ("strength", .int 5), ("loads", .loc p), ("lines", .loc q)] = none) : insC st (.loc n) m = some 14 := by
  unfold DkF at D
  unfold insC
  simp only [D, h]
theorem DkF.m1 : insC st (.loc n) "ask_place" = some 14 := D.mt (by kernel_rfl)
theorem DkF.m2 : insC st (.loc n) "ask_both" = some 14 := D.mt (by kernel_rfl)
theorem DkF.m3 : insC st (.loc n) "put" = some 14 := D.mt (by kernel_rfl)
theorem DkF.m4 : insC st (.loc n) "take" = some 14 := D.mt (by kernel_rfl)
theorem DkF.m5 : insC st (.loc n) "bent" = some 14 := D.mt (by kernel_rfl)
end
theorem n36 {n p q : Nat} {st : Store} (D : DkF n p q st) {v : W} (hv : Sn v) (h : Fb 6 5 [v, .int 0, .int 4] true) (k : Nat) : Φ (k + 6) 36 [.loc n, v] st = .ok .non st := by
  have q := h.pc (k := k + 5) (by omega) (st := st) (by simp [hv st, sn_int])
  rw [phi_def (d := f_Deck_ask_place) rfl rfl rfl]; simp [f_Deck_ask_place, startE, endD, evSs, R.bind, evS, evE, evEs, thenS, q, D.len, liftO]
theorem x36 {n p q : Nat} {st : Store} (D : DkF n p q st) {v : W} (hv : Sn v) (h : Fb 6 5 [v, .int 0, .int 4] false) (k : Nat) : Φ (k + 6) 36 [.loc n, v] st = .exc 4 st := by
  have q := h.pc (k := k + 5) (by omega) (st := st) (by simp [hv st, sn_int])
  rw [phi_def (d := f_Deck_ask_place) rfl rfl rfl]; simp [f_Deck_ask_place, startE, endD, evSs, R.bind, evS, evE, evEs, thenS, q, D.len, liftO]
theorem x37 {n p q : Nat} {st : Store} (D : DkF n p q st) {v w : W} (hv : Sn v) (h : Fb 6 5 [v, .int 0, .int 4] false) (k : Nat) : Φ (k + 7) 37 [.loc n, v, w] st = .exc 4 st := by
  have e := x36 D hv h k
  rw [phi_def (d := f_Deck_ask_both) rfl rfl rfl]; simp [f_Deck_ask_both, startE, endD, evSs, R.bind, evS, evE, evEs, thenS, e, D.m1, D.m2, D.m3, D.m4, D.m5, liftO, List.lookup]
theorem x37w {n p q : Nat} {st : Store} (D : DkF n p q st) {v w : W} (hv : Sn v) (h : Fb 6 5 [v, .int 0, .int 4] true) (hw : Sn w) (g : Fb 2 2 [w, .int 1, .int 1000] false) (k : Nat) : Φ (k + 7) 37 [.loc n, v, w] st = .exc 9 st := by
  have e := n36 D hv h k
  have q := g.pc (k := k + 6) (by omega) (st := st) (by simp [hw st, sn_int])
  rw [phi_def (d := f_Deck_ask_both) rfl rfl rfl]; simp [f_Deck_ask_both, startE, endD, evSs, R.bind, evS, evE, evEs, thenS, e, D.m1, q, liftO, List.lookup]
theorem b21 : Fb 6 5 [.tup [.int 2, .int 1], .int 0, .int 4] true := fun k st => by kernel_rfl
section
variable {n p q : Nat} {st : Store} (D : DkF n p q st) {t : W} (hs : Sn t)
include D hs
theorem l102 (h : Fb 6 5 [t, .int 0, .int 4] false) (k : Nat) : Φ (k + 9) 102 [t, .loc n] st = .exc 4 st := by
  have e := x37 (w := .non) D hs h k
  have e2 : Φ (k + 8) 38 [.loc n, t, .non] st = .exc 4 st := by
    rw [phi_def (d := f_Deck_put) rfl rfl rfl]; simp [f_Deck_put, startE, endD, evSs, R.bind, evS, evE, evEs, thenS, e, D.m1, D.m2, D.m3, D.m4, D.m5, liftO, List.lookup]
  rw [phi_def (d := f_lam102) rfl rfl rfl]; simp [f_lam102, startE, endD, evSs, R.bind, evS, evE, evEs, thenS, e2, D.m3, D.m4, D.m5, List.lookup]
theorem l103 (h : Fb 6 5 [t, .int 0, .int 4] false) (k : Nat) : Φ (k + 9) 103 [t, .loc n] st = .exc 4 st := by
  have e := x37 (w := .non) D hs h k
  have e2 : Φ (k + 8) 39 [.loc n, t, .non] st = .exc 4 st := by
    rw [phi_def (d := f_Deck_take) rfl rfl rfl]; simp [f_Deck_take, startE, endD, evSs, R.bind, evS, evE, evEs, thenS, e, D.m1, D.m2, D.m3, D.m4, D.m5, liftO, List.lookup]
  rw [phi_def (d := f_lam103) rfl rfl rfl]; simp [f_lam103, startE, endD, evSs, R.bind, evS, evE, evEs, thenS, e2, D.m3, D.m4, D.m5, List.lookup]
theorem l104 (h : Fb 6 5 [t, .int 0, .int 4] false) (k : Nat) : Φ (k + 9) 104 [t, .loc n] st = .exc 4 st := by
  have e := x36 D hs h (k + 1)
  have e2 : Φ (k + 8) 42 [.loc n, t] st = .exc 4 st := by
    rw [phi_def (d := f_Deck_bent) rfl rfl rfl]; simp [f_Deck_bent, startE, endD, evSs, R.bind, evS, evE, evEs, thenS, e, D.m1, D.m2, D.m3, D.m4, D.m5, liftO, List.lookup]
  rw [phi_def (d := f_lam104) rfl rfl rfl]; simp [f_lam104, startE, endD, evSs, R.bind, evS, evE, evEs, thenS, e2, D.m3, D.m4, D.m5, List.lookup]
theorem l105 (g : Fb 2 2 [t, .int 1, .int 1000] false) (k : Nat) : Φ (k + 9) 105 [t, .loc n] st = .exc 9 st := by
  have e := x37w (v := .tup [.int 2, .int 1]) D (fun _ => rfl) b21 hs g k
  have e2 : Φ (k + 8) 38 [.loc n, .tup [.int 2, .int 1], t] st = .exc 9 st := by
    rw [phi_def (d := f_Deck_put) rfl rfl rfl]; simp [f_Deck_put, startE, endD, evSs, R.bind, evS, evE, evEs, thenS, e, D.m1, D.m2, D.m3, D.m4, D.m5, liftO, List.lookup]
  rw [phi_def (d := f_lam105) rfl rfl rfl]; simp [f_lam105, startE, endD, evSs, R.bind, evS, evE, evEs, thenS, e2, D.m3, D.m4, D.m5, List.lookup, lim]
theorem l106 (g : Fb 2 2 [t, .int 1, .int 1000] false) (k : Nat) : Φ (k + 9) 106 [t, .loc n] st = .exc 9 st := by
  have e := x37w (v := .tup [.int 2, .int 1]) D (fun _ => rfl) b21 hs g k
  have e2 : Φ (k + 8) 39 [.loc n, .tup [.int 2, .int 1], t] st = .exc 9 st := by
    rw [phi_def (d := f_Deck_take) rfl rfl rfl]; simp [f_Deck_take, startE, endD, evSs, R.bind, evS, evE, evEs, thenS, e, D.m1, D.m2, D.m3, D.m4, D.m5, liftO, List.lookup]
  rw [phi_def (d := f_lam106) rfl rfl rfl]; simp [f_lam106, startE, endD, evSs, R.bind, evS, evE, evEs, thenS, e2, D.m3, D.m4, D.m5, List.lookup, lim]
end
end K10

set_option Elab.async false
set_option linter.all false
set_option maxRecDepth 100000
set_option maxHeartbeats 4000000
set_option exponentiation.threshold 100
namespace K10
open Mi P10
/-- what the law's own look leaves behind -/
def J (c : Nat) : Store := [some (.lst [.bl (subN c 1), .bl (subN c 2), .bl (subN c 3)]),
  some (.lst [.bl (subN c 1), .bl (subN c 2), .bl (subN c 3), .bl (subN c 4), .bl (subN c 5), .bl (subN c 6)]),
  some (.lst [.bl (subN c 1), .bl (subN c 2), .bl (subN c 3), .bl (subN c 4), .bl (subN c 5), .bl (subN c 6), .bl (subN c 7), .bl (subN c 8), .bl (subN c 9)]), none]
def kindsW (c : Nat) : List W := [.bl (subN c 1), .bl (subN c 2), .bl (subN c 3), .bl (subN c 4), .bl (subN c 5), .bl (subN c 6), .bl (subN c 7), .bl (subN c 8), .bl (subN c 9), .bl (subN c 10), .bl (subN c 11), .bl (subN c 12), .bl (subN c 13)]
theorem plS_app {a b : Store} (h1 : plS a = true) (h2 : plS b = true) : plS (a ++ b) = true := by
  unfold plS at *
  rw [List.all_append, h1, h2]
  rfl
theorem plS_J {c : Nat} : plS (J c) = true := by
  simp [plS, J, plO, plWs, plW]
theorem due_eq {Φ' : Nat → List W → Store → R W} {a t : W} : ∀ {c : Nat}, 1 ≤ c → c ≤ 13 → ∀ {st : Store}, evE Φ' sub0 (.cmp .eq (.var 4) (.lc false [("_law_kind", 5)] (.nm 5) (.rg [(.cst (.int 13))]) [] (.cmp .eq (.var 5) (.var 2)))) [some a, some t, some (.int (Int.ofNat c - 1)), some (.exn c), some (.lst .fz (kindsW c)), none] st = .ok (.bl true) st
  | 0, h, _, st => by omega
  | 1, _, _, st => by kernel_rfl
  | 2, _, _, st => by kernel_rfl
  | 3, _, _, st => by kernel_rfl
  | 4, _, _, st => by kernel_rfl
  | 5, _, _, st => by kernel_rfl
  | 6, _, _, st => by kernel_rfl
  | 7, _, _, st => by kernel_rfl
  | 8, _, _, st => by kernel_rfl
  | 9, _, _, st => by kernel_rfl
  | 10, _, _, st => by kernel_rfl
  | 11, _, _, st => by kernel_rfl
  | 12, _, _, st => by kernel_rfl
  | 13, _, _, st => by kernel_rfl
  | n + 14, _, h, st => by omega
theorem sub_be {c : Nat} (h1 : 1 ≤ c) (h2 : c ≤ 13) : subN c 0 = true := by
  have : ∀ c < 14, subN c 0 = true := by decide +kernel
  exact this c (by omega)
section
variable {Φ' : Nat → List W → Store → R W} {a t u : W} {c : Nat} {o : Option W}
theorem e_three {x y z : Nat} {st : Store} : evE Φ' sub0 (.lst false [(.isx 3 (.cls x [])), (.isx 3 (.cls y [])), (.isx 3 (.cls z []))]) [some a, some t, some u, some (.exn c), o, none] st = .ok (.lst .fz [.bl (subN c x), .bl (subN c y), .bl (subN c z)]) st := by
  simp [evE, evEs, R.bind, isxW, liftO, mkL, lim]
theorem s_three {x y z : Nat} {st : Store} : evS Φ' sub0 (.as (.nm 4) (.lst true [(.isx 3 (.cls x [])), (.isx 3 (.cls y [])), (.isx 3 (.cls z []))])) [some a, some t, some u, some (.exn c), o, none] st = .nx [some a, some t, some u, some (.exn c), some (.loc st.length), none] (st ++ [some (.lst [.bl (subN c x), .bl (subN c y), .bl (subN c z)])]) := by
  simp [evS, evE, evEs, R.bind, isxW, liftO, mkL, lim, thenS, asgT]
theorem s_addM {x y z n : Nat} {st : Store} {xs : List W} (h : st[n]? = some (some (.lst xs))) (hl : xs.length ≤ 1000) : evS Φ' sub0 (.as (.nm 4) (.addM (.var 4) (.lst false [(.isx 3 (.cls x [])), (.isx 3 (.cls y [])), (.isx 3 (.cls z []))]))) [some a, some t, some u, some (.exn c), some (.loc n), none] st = .nx [some a, some t, some u, some (.exn c), some (.loc st.length), none] (st ++ [some (.lst (xs ++ [.bl (subN c x), .bl (subN c y), .bl (subN c z)]))]) := by
  have e := e_three (Φ' := Φ') (a := a) (t := t) (u := u) (c := c) (o := some (.loc n)) (x := x) (y := y) (z := z) (st := st)
  have q : evE Φ' sub0 (.addM (.var 4) (.lst false [(.isx 3 (.cls x [])), (.isx 3 (.cls y [])), (.isx 3 (.cls z []))])) [some a, some t, some u, some (.exn c), some (.loc n), none] st = .ok (.loc st.length) (st ++ [some (.lst (xs ++ [.bl (subN c x), .bl (subN c y), .bl (subN c z)]))]) := by
    conv => lhs; unfold evE
    rw [e_var (w := .loc n) rfl]
    rw [rb, e, rb]
    have l : xs.length + 3 ≤ lim := by unfold lim; omega
    simp [addW, seqL, h, mkO, l]
  unfold evS
  rw [q]
  simp [thenS, asgT]
theorem s_app13 {n : Nat} {st : Store} {xs : List W} (h : st[n]? = some (some (.lst xs))) (hl : xs.length ≤ 1000) : evS Φ' sub0 (.app (.var 4) (.isx 3 (.cls 13 []))) [some a, some t, some u, some (.exn c), some (.loc n), none] st = .nx [some a, some t, some u, some (.exn c), some (.loc n), none] (st.set n (some (.lst (xs ++ [.bl (subN c 13)])))) := by
  have l : xs.length < lim := by unfold lim; omega
  simp [evS, evE, R.bind, isxW, liftO, thenS, isLoc, h, l]
theorem s_fz4 {n : Nat} {st : Store} {xs : List W} (h : st[n]? = some (some (.lst xs))) : evS Φ' sub0 (.fz 4) [some a, some t, some u, some (.exn c), some (.loc n), none] st = .nx [some a, some t, some u, some (.exn c), some (.lst .fz xs), none] (st.set n none) := by
  simp [evS, h]
theorem hand_ok (h1 : 1 ≤ c) (h2 : c ≤ 13) {st : Store} :
    evSs Φ' sub0 [.as (.nm 4) (.lst true [(.isx 3 (.cls 1 [])), (.isx 3 (.cls 2 [])), (.isx 3 (.cls 3 []))]),
   .as (.nm 4) (.addM (.var 4) (.lst false [(.isx 3 (.cls 4 [])), (.isx 3 (.cls 5 [])), (.isx 3 (.cls 6 []))])),
   .as (.nm 4) (.addM (.var 4) (.lst false [(.isx 3 (.cls 7 [])), (.isx 3 (.cls 8 [])), (.isx 3 (.cls 9 []))])),
   .as (.nm 4) (.addM (.var 4) (.lst false [(.isx 3 (.cls 10 [])), (.isx 3 (.cls 11 [])), (.isx 3 (.cls 12 []))])),
   .app (.var 4) (.isx 3 (.cls 13 [])),
   .fz 4,
   .rt (.and [(.cmp .eq (.var 4) (.lc false [("_law_kind", 5)] (.nm 5) (.rg [(.cst (.int 13))]) [] (.cmp .eq (.var 5) (.var 2)))), (.isx 3 (.ty "ValueError"))])]
   [some a, some t, some (.int (Int.ofNat c - 1)), some (.exn c), none, none] st = .rt (.bl true) (st ++ J c) := by
  have e := due_eq (Φ' := Φ') (a := a) (t := t) h1 h2 (st := st ++ J c)
  have q : evE Φ' sub0 (.isx 3 (.ty "ValueError")) [some a, some t, some (.int (Int.ofNat c - 1)), some (.exn c), some (.lst .fz (kindsW c)), none] (st ++ J c) = .ok (.bl true) (st ++ J c) := by
    simp [evE, isxW, liftO]
  refine (ss_nx s_three).trans ?_
  refine (ss_nx (s_addM (xs := [.bl (subN c 1), .bl (subN c 2), .bl (subN c 3)]) (by simp) (by simp))).trans ?_
  refine (ss_nx (s_addM (xs := [.bl (subN c 1), .bl (subN c 2), .bl (subN c 3), .bl (subN c 4), .bl (subN c 5), .bl (subN c 6)]) (by simp) (by simp))).trans ?_
  refine (ss_nx (s_addM (xs := [.bl (subN c 1), .bl (subN c 2), .bl (subN c 3), .bl (subN c 4), .bl (subN c 5), .bl (subN c 6), .bl (subN c 7), .bl (subN c 8), .bl (subN c 9)]) (by simp) (by simp))).trans ?_
  refine (ss_nx (s_app13 (xs := [.bl (subN c 1), .bl (subN c 2), .bl (subN c 3), .bl (subN c 4), .bl (subN c 5), .bl (subN c 6), .bl (subN c 7), .bl (subN c 8), .bl (subN c 9), .bl (subN c 10), .bl (subN c 11), .bl (subN c 12)]) (by simp) (by simp))).trans ?_
  refine (ss_nx (s_fz4 (xs := kindsW c) (by simp [kindsW]))).trans ?_
  have es : (List.set (List.set (st ++ [some (O.lst [.bl (subN c 1), .bl (subN c 2), .bl (subN c 3)])] ++ [some (O.lst ([.bl (subN c 1), .bl (subN c 2), .bl (subN c 3)] ++ [.bl (subN c 4), .bl (subN c 5), .bl (subN c 6)]))] ++ [some (O.lst ([.bl (subN c 1), .bl (subN c 2), .bl (subN c 3), .bl (subN c 4), .bl (subN c 5), .bl (subN c 6)] ++ [.bl (subN c 7), .bl (subN c 8), .bl (subN c 9)]))] ++ [some (O.lst ([.bl (subN c 1), .bl (subN c 2), .bl (subN c 3), .bl (subN c 4), .bl (subN c 5), .bl (subN c 6), .bl (subN c 7), .bl (subN c 8), .bl (subN c 9)] ++ [.bl (subN c 10), .bl (subN c 11), .bl (subN c 12)]))]) (st ++ [some (O.lst [.bl (subN c 1), .bl (subN c 2), .bl (subN c 3)])] ++ [some (O.lst ([.bl (subN c 1), .bl (subN c 2), .bl (subN c 3)] ++ [.bl (subN c 4), .bl (subN c 5), .bl (subN c 6)]))] ++ [some (O.lst ([.bl (subN c 1), .bl (subN c 2), .bl (subN c 3), .bl (subN c 4), .bl (subN c 5), .bl (subN c 6)] ++ [.bl (subN c 7), .bl (subN c 8), .bl (subN c 9)]))]).length (some (O.lst ([.bl (subN c 1), .bl (subN c 2), .bl (subN c 3), .bl (subN c 4), .bl (subN c 5), .bl (subN c 6), .bl (subN c 7), .bl (subN c 8), .bl (subN c 9), .bl (subN c 10), .bl (subN c 11), .bl (subN c 12)] ++ [.bl (subN c 13)])))) (st ++ [some (O.lst [.bl (subN c 1), .bl (subN c 2), .bl (subN c 3)])] ++ [some (O.lst ([.bl (subN c 1), .bl (subN c 2), .bl (subN c 3)] ++ [.bl (subN c 4), .bl (subN c 5), .bl (subN c 6)]))] ++ [some (O.lst ([.bl (subN c 1), .bl (subN c 2), .bl (subN c 3), .bl (subN c 4), .bl (subN c 5), .bl (subN c 6)] ++ [.bl (subN c 7), .bl (subN c 8), .bl (subN c 9)]))]).length none) = st ++ J c := by
    simp [J, List.set_append_right]
  rw [es]
  exact ss_rt (s_rt (e_andS e q))
end
/-- one look: what is asked raises, and by its own class alone -/
theorem refused_ok {l k c : Nat} {cs : List W} {t : W} {st st1 : Store} (h1 : 1 ≤ c) (h2 : c ≤ 13) (hp : plW t = true) (hc : plWs cs = true) (hs : plS st = true) (hs1 : plS st1 = true) (h : Φ k l (t :: cs) st = .exc c st1) :
    Φ (k + 1) 69 [.fn l cs, t, .int (Int.ofNat c - 1)] st = .ok (.bl true) (st1 ++ J c) := by
  rw [phi_def (d := f_l_refused) rfl rfl rfl]
  have b : evSs (Φ k) sub0 [.ex (.calv 0 [(.var 1)])] (startE f_l_refused [.fn l cs, t, .int (Int.ofNat c - 1)]) st = .xc c [some (.fn l cs), some t, some (.int (Int.ofNat c - 1)), none, none, none] st1 := by
    have q : evE (Φ k) sub0 (.calv 0 [(.var 1)]) [some (.fn l cs), some t, some (.int (Int.ofNat c - 1)), none, none, none] st = .exc c st1 := by
      have hw : plWs [t] = true := by simp [plWs, hp]
      simp [evE, evEs, R.bind, hw, hc, hs, h]
    show evSs (Φ k) sub0 [.ex (.calv 0 [(.var 1)])] [some (.fn l cs), some t, some (.int (Int.ofNat c - 1)), none, none, none] st = _
    unfold evSs evS
    rw [q]
    rfl
  have s : evS (Φ k) sub0 (f_l_refused.body.head (by simp [f_l_refused])) (startE f_l_refused [.fn l cs, t, .int (Int.ofNat c - 1)]) st = .rt (.bl true) (st1 ++ J c) := by
    show evS (Φ k) sub0 (.tri 3 0 _ _) _ st = _
    unfold evS
    rw [b]
    simp only [sub0, sub_be h1 h2, if_true]
    show triO 3 (evSs (Φ k) sub0 _ [some (.fn l cs), some t, some (.int (Int.ofNat c - 1)), some (.exn c), none, none] st1) = _
    rw [hand_ok h1 h2]
    unfold triO
    simp [neW, plS_app hs1 plS_J]
  exact congrArg endD (ss_rt s)
end K10

set_option Elab.async false
set_option linter.all false
set_option maxRecDepth 100000
set_option maxHeartbeats 4000000
set_option exponentiation.threshold 100
namespace K10
open Mi P10
def rep (n : Nat) (E : Store) : Store := (List.replicate n E).flatten
section
variable {asg : W → Env → Option Env} {ifs : Env → Store → R Bool} {elt : Env → Store → R W} {Γ : Env} {I : Store → Prop}
theorem lcGo_ex : ∀ (xs : List W), (∀ x ∈ xs, ∃ Γ', asg x Γ = some Γ' ∧ ∀ st, I st → ifs Γ' st = .ok true st ∧ ∃ st', elt Γ' st = .ok (.bl true) st' ∧ I st') → ∀ st, I st → ∃ st', lcGo asg ifs elt Γ xs st = .ok (xs.map fun _ => W.bl true) st' ∧ I st'
  | [], _, st, i => ⟨st, rfl, i⟩
  | x :: xs, h, st, i => by
    obtain ⟨Γ', e, q⟩ := h x List.mem_cons_self
    obtain ⟨q1, st1, q2, q3⟩ := q st i
    obtain ⟨st2, r1, r2⟩ := lcGo_ex xs (fun y hy => h y (List.mem_cons_of_mem _ hy)) st1 q3
    refine ⟨st2, ?_, r2⟩
    unfold lcGo
    rw [e]
    simp only [q1, R.calm, q2, r1, List.map_cons]
theorem lcGo_eq {E : Store} : ∀ (xs : List W), (∀ x ∈ xs, ∃ Γ', asg x Γ = some Γ' ∧ ∀ st, I st → ifs Γ' st = .ok true st ∧ elt Γ' st = .ok (.bl true) (st ++ E) ∧ I (st ++ E)) → ∀ st, I st → lcGo asg ifs elt Γ xs st = .ok (xs.map fun _ => W.bl true) (st ++ rep xs.length E) ∧ I (st ++ rep xs.length E)
  | [], _, st, i => by
    simp only [rep, List.length_nil, List.replicate_zero, List.flatten_nil, List.append_nil]
    exact ⟨rfl, i⟩
  | x :: xs, h, st, i => by
    obtain ⟨Γ', e, q⟩ := h x List.mem_cons_self
    obtain ⟨q1, q2, q3⟩ := q st i
    obtain ⟨r1, r2⟩ := lcGo_eq xs (fun y hy => h y (List.mem_cons_of_mem _ hy)) _ q3
    have z : st ++ rep (x :: xs).length E = st ++ E ++ rep xs.length E := by
      simp [rep, List.replicate_succ]
    rw [z]
    refine ⟨?_, r2⟩
    unfold lcGo
    rw [e]
    simp only [q1, R.calm, q2, r1, List.map_cons]
end
theorem bls_all : ∀ (xs : List W), blsW (xs.map fun _ => W.bl true) = some (xs.map fun _ => true)
  | [] => rfl
  | x :: xs => by simp [blsW, bls_all xs]
theorem all_tt {st : Store} (xs : List W) : b1W st .all (.lst .fz (xs.map fun _ => W.bl true)) = some (.bl true) := by
  simp [b1W, seqL, bls_all]
theorem e_b1' {Φ' : Nat → List W → Store → R W} {f : B1} {e : ME} {Γ : Env} {st st1 : Store} {x r : W} (h : evE Φ' sub0 e Γ st = .ok x st1) (h2 : b1W st1 f x = some r) : evE Φ' sub0 (.b1 f e) Γ st = .ok r st1 := by
  unfold evE
  rw [h]
  simp [rb, h2, liftO]
theorem e_lcg {Φ' : Nat → List W → Store → R W} {vs : List (PySem.Str × Nat)} {t : Tg} {it : It} {ifs : List ME} {elt : ME} {Γ : Env} {st st1 : Store} {xs ys : List W} (h1 : evI Φ' sub0 it Γ st = .ok xs st) (h2 : lcGo (asgT t) (evIfs Φ' sub0 ifs) (evE Φ' sub0 elt) (wipeE Γ (vs.map (·.2))) xs st = .ok ys st1) : evE Φ' sub0 (.lc false vs t it ifs elt) Γ st = .ok (.lst .fz ys) st1 := by
  unfold evE
  rw [h1, rb, h2]
  rfl
section
variable {I : Store → Prop} {k : Nat} {asks things : List W} {u : W} {l1 l2 : LK}
theorem each_ex (h : ∀ a ∈ asks, ∀ t ∈ things, ∀ st, I st → ∃ st', Φ k 69 [a, t, u] st = .ok (.bl true) st' ∧ I st') {st : Store} (i : I st) : ∃ st', Φ (k + 1) 70 [.lst l1 asks, .lst l2 things, u] st = .ok (.bl true) st' ∧ I st' := by
  have inner : ∀ a ∈ asks, ∀ st, I st → ∃ st', evE (Φ k) sub0 (.b1 .all (.lc false [("_law_thing", 4)] (.nm 4) (.sq (.var 1)) [] (.call false 69 [(.var 3), (.var 4), (.var 2)]))) [some (.lst l1 asks), some (.lst l2 things), some u, some a, none] st = .ok (.bl true) st' ∧ I st' := fun a ha st i => by
    obtain ⟨st', e, i'⟩ := lcGo_ex (asg := asgT (.nm 4)) (ifs := evIfs (Φ k) sub0 []) (elt := evE (Φ k) sub0 (.call false 69 [(.var 3), (.var 4), (.var 2)])) (Γ := [some (.lst l1 asks), some (.lst l2 things), some u, some a, none]) (I := I) things (fun t ht => ⟨[some (.lst l1 asks), some (.lst l2 things), some u, some a, some t], by simp [asgT], fun st i => ⟨by simp [evIfs], by
      obtain ⟨st', e, i'⟩ := h a ha t ht st i
      exact ⟨st', by simp [evE, evEs, R.bind, e], i'⟩⟩⟩) st i
    exact ⟨st', e_b1' (e_lcg (i_sq (k := l2) (e_var rfl)) e) (all_tt things), i'⟩
  obtain ⟨st', e, i'⟩ := lcGo_ex (asg := asgT (.nm 3)) (ifs := evIfs (Φ k) sub0 []) (elt := evE (Φ k) sub0 (.b1 .all (.lc false [("_law_thing", 4)] (.nm 4) (.sq (.var 1)) [] (.call false 69 [(.var 3), (.var 4), (.var 2)])))) (Γ := [some (.lst l1 asks), some (.lst l2 things), some u, none, none]) (I := I) asks (fun a ha => ⟨[some (.lst l1 asks), some (.lst l2 things), some u, some a, none], by simp [asgT], fun st i => ⟨by simp [evIfs], inner a ha st i⟩⟩) st i
  refine ⟨st', ?_, i'⟩
  rw [phi_def (d := f_l_each) rfl rfl rfl]
  exact congrArg endD (ss_rt (s_rt (e_b1' (e_lcg (i_sq (k := l1) (e_var rfl)) e) (all_tt asks))))
theorem each_eq {E : Store} (h : ∀ a ∈ asks, ∀ t ∈ things, ∀ st, I st → Φ k 69 [a, t, u] st = .ok (.bl true) (st ++ E) ∧ I (st ++ E)) {st : Store} (i : I st) : Φ (k + 1) 70 [.lst l1 asks, .lst l2 things, u] st = .ok (.bl true) (st ++ rep asks.length (rep things.length E)) ∧ I (st ++ rep asks.length (rep things.length E)) := by
  have inner : ∀ a ∈ asks, ∀ st, I st → evE (Φ k) sub0 (.b1 .all (.lc false [("_law_thing", 4)] (.nm 4) (.sq (.var 1)) [] (.call false 69 [(.var 3), (.var 4), (.var 2)]))) [some (.lst l1 asks), some (.lst l2 things), some u, some a, none] st = .ok (.bl true) (st ++ rep things.length E) ∧ I (st ++ rep things.length E) := fun a ha st i => by
    obtain ⟨e, i'⟩ := lcGo_eq (E := E) (asg := asgT (.nm 4)) (ifs := evIfs (Φ k) sub0 []) (elt := evE (Φ k) sub0 (.call false 69 [(.var 3), (.var 4), (.var 2)])) (Γ := [some (.lst l1 asks), some (.lst l2 things), some u, some a, none]) (I := I) things (fun t ht => ⟨[some (.lst l1 asks), some (.lst l2 things), some u, some a, some t], by simp [asgT], fun st i => ⟨by simp [evIfs], by
      obtain ⟨e, i'⟩ := h a ha t ht st i
      exact ⟨by simp [evE, evEs, R.bind, e], i'⟩⟩⟩) st i
    exact ⟨e_b1' (e_lcg (i_sq (k := l2) (e_var rfl)) e) (all_tt things), i'⟩
  obtain ⟨e, i'⟩ := lcGo_eq (E := rep things.length E) (asg := asgT (.nm 3)) (ifs := evIfs (Φ k) sub0 []) (elt := evE (Φ k) sub0 (.b1 .all (.lc false [("_law_thing", 4)] (.nm 4) (.sq (.var 1)) [] (.call false 69 [(.var 3), (.var 4), (.var 2)])))) (Γ := [some (.lst l1 asks), some (.lst l2 things), some u, none, none]) (I := I) asks (fun a ha => ⟨[some (.lst l1 asks), some (.lst l2 things), some u, some a, none], by simp [asgT], fun st i => ⟨by simp [evIfs], inner a ha st i⟩⟩) st i
  refine ⟨?_, i'⟩
  rw [phi_def (d := f_l_each) rfl rfl rfl]
  exact congrArg endD (ss_rt (s_rt (e_b1' (e_lcg (i_sq (k := l1) (e_var rfl)) e) (all_tt asks))))
end
end K10

set_option Elab.async false
set_option linter.all false
set_option maxRecDepth 100000
set_option maxHeartbeats 4000000
set_option exponentiation.threshold 100
namespace K10
open Mi P10
theorem bw_no {x l u : Int} (h : ¬(l ≤ x ∧ x ≤ u)) : Fb 2 2 [.int x, .int l, .int u] false := fun k st => by
  have c := pc (k := k + 1) (st := st) (F_whole (a := x)) (by omega) rfl rfl
  have e : (decide (l ≤ x) && decide (x ≤ u)) = false := by
    rw [← Bool.decide_and]
    exact decide_eq_false h
  rw [phi_def (d := f_is_between) rfl rfl rfl]
  have q : evE (Φ (k + 1)) sub0 (.and [(.call true 1 [(.var 0)]), (.cmp2 .le .le (.var 1) (.var 0) (.var 2))]) [some (.int x), some (.int l), some (.int u)] st = .ok (.bl false) st :=
    e_andS (e_call (by simp [evS, evE, evEs, evAnd, evOr, evO, evIfs, thenS, asgT, asgTs, rb, liftO, bopW, addW, copW, ordW, eqG, deep, dOk, eqW, idxW, b1W, b2W, isiW, seqL, mkL, lim]) c) (by rw [← e]; exact e_cmp2 (e_var rfl) (e_var rfl) (e_var rfl))
  exact congrArg endD (ss_rt (s_rt q))
theorem s9 {x : Int} (h : 1000 < x) : Xc 9 3 [.int x] 1 := fun k st => by
  have q := (bw_no (x := x) (l := 1) (u := 1000) (by omega)).pc (k := k + 2) (by omega) (st := st) rfl
  rw [phi_def (d := f_asked_length) rfl rfl rfl]; simp [f_asked_length, startE, endD, evSs, R.bind, evS, evE, evEs, thenS, q]
theorem s10 {x : Int} (h : 1000000000 < x) : Xc 10 3 [.int x] 6 := fun k st => by
  have q := (bw_no (x := x) (l := 1) (u := 1000000000) (by omega)).pc (k := k + 2) (by omega) (st := st) rfl
  rw [phi_def (d := f_asked_strength) rfl rfl rfl]; simp [f_asked_strength, startE, endD, evSs, R.bind, evS, evE, evEs, thenS, q]
theorem b00 : Fb 2 2 [.int 0, .int 0, .int 1000] true := fun k st => by kernel_rfl
theorem b0m : Fb 2 2 [.int 0, .int (-1000), .int 1000] true := fun k st => by kernel_rfl
theorem ax_no {x : Int} (h : 1000 < x) : Fb 11 3 [.tup [.int 0, .int x]] false := fun k st => by
  have p := b00.pc (k := k + 2) (by omega) (st := st) rfl
  have q := (bw_no (x := x) (l := 1) (u := 1000) (by omega)).pc (k := k + 2) (by omega) (st := st) rfl
  rw [phi_def (d := f_is_axle) rfl rfl rfl]; simp [f_is_axle, startE, endD, evSs, R.bind, evS, evE, evEs, thenS, p, q, evOr, evAnd, isiW, liftO, copW, eqG, deep, dOk, eqW, b1W, idxW, L2.atI, L2.ixN]
theorem ld_no {x : Int} (h : 1000 < x) : Fb 45 3 [.tup [.int 0, .int x]] false := fun k st => by
  have p := b0m.pc (k := k + 2) (by omega) (st := st) rfl
  have q := (bw_no (x := x) (l := 1) (u := 1000) (by omega)).pc (k := k + 2) (by omega) (st := st) rfl
  rw [phi_def (d := f_is_load) rfl rfl rfl]; simp [f_is_load, startE, endD, evSs, R.bind, evS, evE, evEs, thenS, p, q, evOr, evAnd, isiW, liftO, copW, eqG, deep, dOk, eqW, b1W, idxW, L2.atI, L2.ixN]
theorem s12 {x : Int} (h : 1000 < x) {I : Store → Prop} : Xi I 12 4 [.lst .fz [.tup [.int 0, .int x]]] 2 := fun k st _ => by
  have q := (ax_no h).pc (k := k + 3) (by omega) (st := st) rfl
  rw [phi_def (d := f_asked_train) rfl rfl rfl]; simp [f_asked_train, startE, endD, evSs, R.bind, evS, evE, evEs, thenS, q, R.calm, lcGo, asgT, wipeE, evI, mkL, b1W, seqL, blsW, liftO, isiW, evOr, copW, ordW, evIfs]
theorem s50 {x : Int} (h : 1000 < x) : Xc 50 5 [.lst .fz [.int 0, .int x], .non, .non] 5 := fun k st => by
  have p := b00.pc (k := k + 4) (by omega) (st := st) rfl
  have q := (bw_no (x := x) (l := 0) (u := 1000) (by omega)).pc (k := k + 4) (by omega) (st := st) rfl
  rw [phi_def (d := f_asked_sites) rfl rfl rfl]; simp [f_asked_sites, startE, endD, evSs, R.bind, evS, evE, evEs, thenS, p, q, R.calm, lcGo, asgT, wipeE, evI, mkL, b1W, seqL, blsW, liftO, isiW, evOr, copW, ordW, evIfs]
theorem s46p {x : Int} (h : 1000 < x) : Xc 46 5 [.lst .fz [.int x], .non] 7 := fun k st => by
  have q := (bw_no (x := x) (l := -1000) (u := 1000) (by omega)).pc (k := k + 4) (by omega) (st := st) rfl
  rw [phi_def (d := f_asked_plank) rfl rfl rfl]; simp [f_asked_plank, startE, endD, evSs, R.bind, evS, evE, evEs, thenS, q, R.calm, lcGo, asgT, wipeE, evI, mkL, b1W, seqL, blsW, liftO, isiW, evOr, copW, ordW, evIfs]
theorem s46l {x : Int} (h : 1000 < x) : Xc 46 6 [.lst .fz [.int 0], .lst .fz [.tup [.int 0, .int x]]] 8 := fun k st => by
  have p := b0m.pc (k := k + 5) (by omega) (st := st) rfl
  have q := (ld_no h).pc (k := k + 5) (by omega) (st := st) rfl
  rw [phi_def (d := f_asked_plank) rfl rfl rfl]; simp [f_asked_plank, startE, endD, evSs, R.bind, evS, evE, evEs, thenS, p, q, R.calm, lcGo, asgT, wipeE, evI, mkL, b1W, seqL, blsW, liftO, isiW, evOr, copW, ordW, evIfs, rgW, rgV, idxW, bopW, L2.atI, L2.ixN]
theorem gcd_odd {a : Int} (h : a % 2 = 1) : (Int.gcd a 2 : Int) = 1 := by
  have h1 : Int.gcd a 2 ∣ 2 := Int.gcd_dvd_natAbs_right a 2
  have h2 : (Int.gcd a 2 : Int) ∣ a := Int.gcd_dvd_left a 2
  have h3 : Int.gcd a 2 ≤ 2 := Nat.le_of_dvd (by omega) h1
  have h4 : Int.gcd a 2 ≠ 0 := fun z => by rw [z] at h1; omega
  have h5 : Int.gcd a 2 ≠ 2 := fun z => by rw [z] at h2; omega
  omega
theorem sh_yes {a : Int} (h0 : 0 ≤ a) (h : a % 2 = 1) : Fb 5 4 [.tup [.int a, .int 2]] true := fun k st => by
  have w1 := pc (k := k + 3) (st := st) (F_whole (a := a)) (by omega) rfl rfl
  have w2 := pc (k := k + 3) (st := st) (F_whole (a := 2)) (by omega) rfl rfl
  have c := pc (k := k + 3) (st := st) (F_common (a := a) (b := 2) h0 (by omega) (Bd.of (m := 2) (by omega) (by decide +kernel))) (by omega) rfl rfl
  rw [gcd_odd h] at c
  have ab : ¬ a < 0 := by omega
  rw [phi_def (d := f_is_share) rfl rfl rfl]; simp [f_is_share, startE, endD, evSs, R.bind, evS, evE, evEs, thenS, w1, w2, c, ab, R.calm, lcGo, asgT, wipeE, evI, mkL, b1W, seqL, blsW, liftO, isiW, evOr, evAnd, copW, ordW, evIfs, eqG, deep, dOk, eqW, idxW, L2.atI, L2.ixN, lim]
theorem wi_no {a l u : Int} (h0 : 0 ≤ a) (h : a % 2 = 1) (hl : Bd 300 l) (hu : Bd 300 u) (hr : u * 2 < a) : Fb 6 5 [.tup [.int a, .int 2], .int l, .int u] false := fun k st => by
  have p := (sh_yes h0 h).pc (k := k + 4) (by omega) (st := st) rfl
  have m1 : mulOk l 2 = true := mulOk_of hl (Bd.of (n := 2) (m := 2) (by omega) (by decide)) (by decide)
  have m2 : mulOk u 2 = true := mulOk_of hu (Bd.of (n := 2) (m := 2) (by omega) (by decide)) (by decide)
  have e : (decide (l * 2 ≤ a) && decide (a ≤ u * 2)) = false := by
    rw [decide_eq_false (show ¬ a ≤ u * 2 by omega), Bool.and_false]
  rw [phi_def (d := f_is_within) rfl rfl rfl]
  have q : evE (Φ (k + 4)) sub0 (.and [(.call true 5 [(.var 0)]), (.cmp2 .le .le (.bin .mul (.var 1) (.idx (.var 0) (.cst (.int 1)))) (.idx (.var 0) (.cst (.int 0))) (.bin .mul (.var 2) (.idx (.var 0) (.cst (.int 1)))))]) [some (.tup [.int a, .int 2]), some (.int l), some (.int u)] st = .ok (.bl false) st := by
    refine e_andS (e_call (by simp [evS, evE, evEs, evAnd, evOr, evO, evIfs, thenS, asgT, asgTs, rb, liftO, bopW, addW, copW, ordW, eqG, deep, dOk, eqW, idxW, b1W, b2W, isiW, seqL, mkL, lim]) p) ?_
    rw [← e]
    refine e_cmp2 ?_ ?_ ?_
    · simp [evE, R.bind, idxW, L2.atI, L2.ixN, liftO, bopW, m1]
    · simp [evE, R.bind, idxW, L2.atI, L2.ixN, liftO]
    · simp [evE, R.bind, idxW, L2.atI, L2.ixN, liftO, bopW, m2]
  exact congrArg endD (ss_rt (s_rt q))
theorem pl_dec {t : W} (h : plW t = true) : plW t = true := h
theorem fa_nil {p : W → Prop} : ∀ t ∈ ([] : List W), p t := fun _ h => nomatch h
theorem fa_cons {p : W → Prop} {a : W} {l : List W} (h : p a) (g : ∀ t ∈ l, p t) : ∀ t ∈ a :: l, p t := fun t ht => by
  rcases List.mem_cons.mp ht with e | e
  · exact e ▸ h
  · exact g t e
def lens (m : Int) : List W := [.non, .int 0, .int (-1), .int 1001, .int (1001 + m), .bl true, .str "4", .lst .fz [.int 4], .tup [.int 4]]
theorem lens_ok {m : Int} (hm : 0 ≤ m) : ∀ t ∈ lens m, Sn t ∧ plW t = true ∧ Xc 9 3 [t] 1 := by
  unfold lens
  refine fa_cons ⟨fun _ => rfl, by simp [plW, plWs], fun k st => by kernel_rfl⟩ ?_
  refine fa_cons ⟨fun _ => rfl, by simp [plW, plWs], fun k st => by kernel_rfl⟩ ?_
  refine fa_cons ⟨fun _ => rfl, by simp [plW, plWs], fun k st => by kernel_rfl⟩ ?_
  refine fa_cons ⟨fun _ => rfl, by simp [plW, plWs], fun k st => by kernel_rfl⟩ ?_
  refine fa_cons ⟨fun _ => rfl, by simp [plW, plWs], s9 (by omega)⟩ ?_
  refine fa_cons ⟨fun _ => rfl, by simp [plW, plWs], fun k st => by kernel_rfl⟩ ?_
  refine fa_cons ⟨fun _ => rfl, by simp [plW, plWs], fun k st => by kernel_rfl⟩ ?_
  refine fa_cons ⟨fun _ => rfl, by simp [plW, plWs], fun k st => by kernel_rfl⟩ ?_
  refine fa_cons ⟨fun _ => rfl, by simp [plW, plWs], fun k st => by kernel_rfl⟩ ?_
  exact fa_nil
def heads (m : Int) : List W := [.non, .int 1, .tup [.int 2, .int 4], .tup [.int 0, .int 2], .tup [.int 1, .int 0], .tup [.int 1, .int (-2)], .lst .fz [.int 1, .int 2], .tup [.bl true, .int 1], .tup [.int (-1001), .int 1], .tup [.int 3001, .int 1], .tup [.int (-2001), .int 2], .tup [.int (6001 + 2 * m), .int 2]]
theorem heads_ok {m : Int} (hm : 0 ≤ m) : ∀ t ∈ heads m, Sn t ∧ plW t = true ∧ Fb 6 5 [t, .int (-1000), .int 3000] false := by
  unfold heads
  refine fa_cons ⟨fun _ => rfl, by simp [plW, plWs], fun k st => by kernel_rfl⟩ ?_
  refine fa_cons ⟨fun _ => rfl, by simp [plW, plWs], fun k st => by kernel_rfl⟩ ?_
  refine fa_cons ⟨fun _ => rfl, by simp [plW, plWs], fun k st => by kernel_rfl⟩ ?_
  refine fa_cons ⟨fun _ => rfl, by simp [plW, plWs], fun k st => by kernel_rfl⟩ ?_
  refine fa_cons ⟨fun _ => rfl, by simp [plW, plWs], fun k st => by kernel_rfl⟩ ?_
  refine fa_cons ⟨fun _ => rfl, by simp [plW, plWs], fun k st => by kernel_rfl⟩ ?_
  refine fa_cons ⟨fun _ => rfl, by simp [plW, plWs], fun k st => by kernel_rfl⟩ ?_
  refine fa_cons ⟨fun _ => rfl, by simp [plW, plWs], fun k st => by kernel_rfl⟩ ?_
  refine fa_cons ⟨fun _ => rfl, by simp [plW, plWs], fun k st => by kernel_rfl⟩ ?_
  refine fa_cons ⟨fun _ => rfl, by simp [plW, plWs], fun k st => by kernel_rfl⟩ ?_
  refine fa_cons ⟨fun _ => rfl, by simp [plW, plWs], fun k st => by kernel_rfl⟩ ?_
  refine fa_cons ⟨fun _ => rfl, by simp [plW, plWs], wi_no (by omega) (by omega) (Bd.of (m := 1000) (by omega) (by decide +kernel)) (Bd.of (m := 3000) (by omega) (by decide +kernel)) (by omega)⟩ ?_
  exact fa_nil
def shares (m : Int) : List W := [.non, .int 1, .str "1", .tup [.int 1], .tup [.int 2, .int 4], .tup [.int 0, .int 2], .tup [.int 1, .int 0], .tup [.int 1, .int (-2)], .lst .fz [.int 1, .int 2], .tup [.bl true, .int 1], .tup [.int 1, .bl true], .tup [.int 1, .int 2, .int 3], .tup [.int (-1), .int 2], .tup [.int 9, .int 2], .tup [.int 5, .int 1], .tup [.int (9 + 2 * m), .int 2], .tup [.int 1000000000000000000000000000000, .int 1], .tup [.bl false, .int 1]]
theorem shares_ok {m : Int} (hm : 0 ≤ m) : ∀ t ∈ shares m, Sn t ∧ plW t = true ∧ Fb 6 5 [t, .int 0, .int 4] false := by
  unfold shares
  refine fa_cons ⟨fun _ => rfl, by simp [plW, plWs], fun k st => by kernel_rfl⟩ ?_
  refine fa_cons ⟨fun _ => rfl, by simp [plW, plWs], fun k st => by kernel_rfl⟩ ?_
  refine fa_cons ⟨fun _ => rfl, by simp [plW, plWs], fun k st => by kernel_rfl⟩ ?_
  refine fa_cons ⟨fun _ => rfl, by simp [plW, plWs], fun k st => by kernel_rfl⟩ ?_
  refine fa_cons ⟨fun _ => rfl, by simp [plW, plWs], fun k st => by kernel_rfl⟩ ?_
  refine fa_cons ⟨fun _ => rfl, by simp [plW, plWs], fun k st => by kernel_rfl⟩ ?_
  refine fa_cons ⟨fun _ => rfl, by simp [plW, plWs], fun k st => by kernel_rfl⟩ ?_
  refine fa_cons ⟨fun _ => rfl, by simp [plW, plWs], fun k st => by kernel_rfl⟩ ?_
  refine fa_cons ⟨fun _ => rfl, by simp [plW, plWs], fun k st => by kernel_rfl⟩ ?_
  refine fa_cons ⟨fun _ => rfl, by simp [plW, plWs], fun k st => by kernel_rfl⟩ ?_
  refine fa_cons ⟨fun _ => rfl, by simp [plW, plWs], fun k st => by kernel_rfl⟩ ?_
  refine fa_cons ⟨fun _ => rfl, by simp [plW, plWs], fun k st => by kernel_rfl⟩ ?_
  refine fa_cons ⟨fun _ => rfl, by simp [plW, plWs], fun k st => by kernel_rfl⟩ ?_
  refine fa_cons ⟨fun _ => rfl, by simp [plW, plWs], fun k st => by kernel_rfl⟩ ?_
  refine fa_cons ⟨fun _ => rfl, by simp [plW, plWs], fun k st => by kernel_rfl⟩ ?_
  refine fa_cons ⟨fun _ => rfl, by simp [plW, plWs], wi_no (by omega) (by omega) (Bd.of (m := 1000) (by omega) (by decide +kernel)) (Bd.of (m := 3000) (by omega) (by decide +kernel)) (by omega)⟩ ?_
  refine fa_cons ⟨fun _ => rfl, by simp [plW, plWs], fun k st => by kernel_rfl⟩ ?_
  refine fa_cons ⟨fun _ => rfl, by simp [plW, plWs], fun k st => by kernel_rfl⟩ ?_
  exact fa_nil
def sites (m : Int) : List W := [.non, .lst .fz [], .lst .fz [.int 4], .tup [.int 0, .int 4], .lst .fz [.int 0, .int 0], .lst .fz [.int 4, .int 0], .lst .fz [.int (-1), .int 4], .lst .fz [.int 0, .int 1001], .lst .fz [.bl true, .int 4], .lst .fz [.int 0, .non], .lst .fz [.int 0, .str "4"], .lst .fz [.int 0, .int 1, .int 2, .int 3, .int 4, .int 5, .int 6, .int 7, .int 8, .int 9, .int 10, .int 11, .int 12], .lst .fz [.int 0, .int (1001 + m)]]
theorem sites_ok {m : Int} (hm : 0 ≤ m) : ∀ t ∈ sites m, Sn t ∧ plW t = true ∧ Xc 50 5 [t, .non, .non] 5 := by
  unfold sites
  refine fa_cons ⟨fun _ => rfl, by simp [plW, plWs], fun k st => by kernel_rfl⟩ ?_
  refine fa_cons ⟨fun _ => rfl, by simp [plW, plWs], fun k st => by kernel_rfl⟩ ?_
  refine fa_cons ⟨fun _ => rfl, by simp [plW, plWs], fun k st => by kernel_rfl⟩ ?_
  refine fa_cons ⟨fun _ => rfl, by simp [plW, plWs], fun k st => by kernel_rfl⟩ ?_
  refine fa_cons ⟨fun _ => rfl, by simp [plW, plWs], fun k st => by kernel_rfl⟩ ?_
  refine fa_cons ⟨fun _ => rfl, by simp [plW, plWs], fun k st => by kernel_rfl⟩ ?_
  refine fa_cons ⟨fun _ => rfl, by simp [plW, plWs], fun k st => by kernel_rfl⟩ ?_
  refine fa_cons ⟨fun _ => rfl, by simp [plW, plWs], fun k st => by kernel_rfl⟩ ?_
  refine fa_cons ⟨fun _ => rfl, by simp [plW, plWs], fun k st => by kernel_rfl⟩ ?_
  refine fa_cons ⟨fun _ => rfl, by simp [plW, plWs], fun k st => by kernel_rfl⟩ ?_
  refine fa_cons ⟨fun _ => rfl, by simp [plW, plWs], fun k st => by kernel_rfl⟩ ?_
  refine fa_cons ⟨fun _ => rfl, by simp [plW, plWs], fun k st => by kernel_rfl⟩ ?_
  refine fa_cons ⟨fun _ => rfl, by simp [plW, plWs], s50 (by omega)⟩ ?_
  exact fa_nil
def strengths (m : Int) : List W := [.non, .int 0, .int (-1), .int 1000000001, .int (1000000001 + m), .bl true, .str "5", .lst .fz [.int 5]]
theorem strengths_ok {m : Int} (hm : 0 ≤ m) : ∀ t ∈ strengths m, Sn t ∧ plW t = true ∧ Xc 10 3 [t] 6 := by
  unfold strengths
  refine fa_cons ⟨fun _ => rfl, by simp [plW, plWs], fun k st => by kernel_rfl⟩ ?_
  refine fa_cons ⟨fun _ => rfl, by simp [plW, plWs], fun k st => by kernel_rfl⟩ ?_
  refine fa_cons ⟨fun _ => rfl, by simp [plW, plWs], fun k st => by kernel_rfl⟩ ?_
  refine fa_cons ⟨fun _ => rfl, by simp [plW, plWs], fun k st => by kernel_rfl⟩ ?_
  refine fa_cons ⟨fun _ => rfl, by simp [plW, plWs], s10 (by omega)⟩ ?_
  refine fa_cons ⟨fun _ => rfl, by simp [plW, plWs], fun k st => by kernel_rfl⟩ ?_
  refine fa_cons ⟨fun _ => rfl, by simp [plW, plWs], fun k st => by kernel_rfl⟩ ?_
  refine fa_cons ⟨fun _ => rfl, by simp [plW, plWs], fun k st => by kernel_rfl⟩ ?_
  exact fa_nil
def posts (m : Int) : List W := [.non, .lst .fz [], .tup [.int 0], .lst .fz [.int 0, .int 0], .lst .fz [.int 4, .int 0], .lst .fz [.int (-1001)], .lst .fz [.int 1001], .lst .fz [.bl true], .lst .fz [.non], .lst .fz [.int 0, .int 1, .int 2, .int 3, .int 4, .int 5, .int 6], .lst .fz [.int (1001 + m)], .str "0"]
theorem posts_ok {m : Int} (hm : 0 ≤ m) : ∀ t ∈ posts m, Sn t ∧ plW t = true ∧ Xc 46 5 [t, .non] 7 := by
  unfold posts
  refine fa_cons ⟨fun _ => rfl, by simp [plW, plWs], fun k st => by kernel_rfl⟩ ?_
  refine fa_cons ⟨fun _ => rfl, by simp [plW, plWs], fun k st => by kernel_rfl⟩ ?_
  refine fa_cons ⟨fun _ => rfl, by simp [plW, plWs], fun k st => by kernel_rfl⟩ ?_
  refine fa_cons ⟨fun _ => rfl, by simp [plW, plWs], fun k st => by kernel_rfl⟩ ?_
  refine fa_cons ⟨fun _ => rfl, by simp [plW, plWs], fun k st => by kernel_rfl⟩ ?_
  refine fa_cons ⟨fun _ => rfl, by simp [plW, plWs], fun k st => by kernel_rfl⟩ ?_
  refine fa_cons ⟨fun _ => rfl, by simp [plW, plWs], fun k st => by kernel_rfl⟩ ?_
  refine fa_cons ⟨fun _ => rfl, by simp [plW, plWs], fun k st => by kernel_rfl⟩ ?_
  refine fa_cons ⟨fun _ => rfl, by simp [plW, plWs], fun k st => by kernel_rfl⟩ ?_
  refine fa_cons ⟨fun _ => rfl, by simp [plW, plWs], fun k st => by kernel_rfl⟩ ?_
  refine fa_cons ⟨fun _ => rfl, by simp [plW, plWs], s46p (by omega)⟩ ?_
  refine fa_cons ⟨fun _ => rfl, by simp [plW, plWs], fun k st => by kernel_rfl⟩ ?_
  exact fa_nil
def loads (m : Int) : List W := [.non, .int 5, .tup [.tup [.int 0, .int 1]], .lst .fz [.tup [.int 0, .int 0]], .lst .fz [.tup [.int 0, .int 1001]], .lst .fz [.tup [.int 1001, .int 1]], .lst .fz [.tup [.int (-1001), .int 1]], .lst .fz [.tup [.bl true, .int 1]], .lst .fz [.tup [.int 0, .bl true]], .lst .fz [.lst .fz [.int 0, .int 1]], .lst .fz [.tup [.int 0]], .lst .fz [.tup [.int 0, .int 1], .tup [.int 0, .int 1], .tup [.int 0, .int 1], .tup [.int 0, .int 1], .tup [.int 0, .int 1], .tup [.int 0, .int 1], .tup [.int 0, .int 1], .tup [.int 0, .int 1], .tup [.int 0, .int 1]], .lst .fz [.tup [.int 0, .int 1, .int 1]], .lst .fz [.non], .lst .fz [.tup [.int 0, .int (1001 + m)]]]
theorem loads_ok {m : Int} (hm : 0 ≤ m) : ∀ t ∈ loads m, Sn t ∧ plW t = true ∧ Xc 46 6 [.lst .fz [.int 0], t] 8 := by
  unfold loads
  refine fa_cons ⟨fun _ => rfl, by simp [plW, plWs], fun k st => by kernel_rfl⟩ ?_
  refine fa_cons ⟨fun _ => rfl, by simp [plW, plWs], fun k st => by kernel_rfl⟩ ?_
  refine fa_cons ⟨fun _ => rfl, by simp [plW, plWs], fun k st => by kernel_rfl⟩ ?_
  refine fa_cons ⟨fun _ => rfl, by simp [plW, plWs], fun k st => by kernel_rfl⟩ ?_
  refine fa_cons ⟨fun _ => rfl, by simp [plW, plWs], fun k st => by kernel_rfl⟩ ?_
  refine fa_cons ⟨fun _ => rfl, by simp [plW, plWs], fun k st => by kernel_rfl⟩ ?_
  refine fa_cons ⟨fun _ => rfl, by simp [plW, plWs], fun k st => by kernel_rfl⟩ ?_
  refine fa_cons ⟨fun _ => rfl, by simp [plW, plWs], fun k st => by kernel_rfl⟩ ?_
  refine fa_cons ⟨fun _ => rfl, by simp [plW, plWs], fun k st => by kernel_rfl⟩ ?_
  refine fa_cons ⟨fun _ => rfl, by simp [plW, plWs], fun k st => by kernel_rfl⟩ ?_
  refine fa_cons ⟨fun _ => rfl, by simp [plW, plWs], fun k st => by kernel_rfl⟩ ?_
  refine fa_cons ⟨fun _ => rfl, by simp [plW, plWs], fun k st => by kernel_rfl⟩ ?_
  refine fa_cons ⟨fun _ => rfl, by simp [plW, plWs], fun k st => by kernel_rfl⟩ ?_
  refine fa_cons ⟨fun _ => rfl, by simp [plW, plWs], fun k st => by kernel_rfl⟩ ?_
  refine fa_cons ⟨fun _ => rfl, by simp [plW, plWs], s46l (by omega)⟩ ?_
  exact fa_nil
def weights (m : Int) : List W := [.non, .int 0, .int (-1), .int 1001, .int (1001 + m), .bl true, .str "3", .lst .fz [.int 3]]
theorem weights_ok {m : Int} (hm : 0 ≤ m) : ∀ t ∈ weights m, Sn t ∧ plW t = true ∧ Fb 2 2 [t, .int 1, .int 1000] false := by
  unfold weights
  refine fa_cons ⟨fun _ => rfl, by simp [plW, plWs], fun k st => by kernel_rfl⟩ ?_
  refine fa_cons ⟨fun _ => rfl, by simp [plW, plWs], fun k st => by kernel_rfl⟩ ?_
  refine fa_cons ⟨fun _ => rfl, by simp [plW, plWs], fun k st => by kernel_rfl⟩ ?_
  refine fa_cons ⟨fun _ => rfl, by simp [plW, plWs], fun k st => by kernel_rfl⟩ ?_
  refine fa_cons ⟨fun _ => rfl, by simp [plW, plWs], bw_no (by omega)⟩ ?_
  refine fa_cons ⟨fun _ => rfl, by simp [plW, plWs], fun k st => by kernel_rfl⟩ ?_
  refine fa_cons ⟨fun _ => rfl, by simp [plW, plWs], fun k st => by kernel_rfl⟩ ?_
  refine fa_cons ⟨fun _ => rfl, by simp [plW, plWs], fun k st => by kernel_rfl⟩ ?_
  exact fa_nil
def HasD (st : Store) : Prop := st[3]? = some (some (.dct []))
def trains (m : Int) : List W := [.non, .int 5, .str "1", .lst .fz [], .tup [.tup [.int 0, .int 1]], .lst .fz [.tup [.int 1, .int 1]], .lst .fz [.tup [.int 0, .int 0]], .lst .fz [.tup [.int 0, .int 1001]], .lst .fz [.tup [.int 0, .int 1], .tup [.int 0, .int 1]], .lst .fz [.tup [.int 0, .int 1], .tup [.int 1001, .int 1]], .lst .fz [.tup [.int 0, .int 1], .tup [.int 5, .int 1], .tup [.int 4, .int 1]], .lst .fz [.tup [.int 0, .bl true]], .lst .fz [.tup [.bl false, .int 1]], .lst .fz [.lst .fz [.int 0, .int 1]], .lst .fz [.tup [.int 0]], .lst .fz [.tup [.int 0, .int 1, .int 1]], .lst .fz [.tup [.int 0, .int (1001 + m)]], .lst .fz [.tup [.int (-1), .int 1]], .loc 3, .lst .fz [.tup [.int 0, .int 1], .tup [.int 1, .int 1], .tup [.int 2, .int 1], .tup [.int 3, .int 1], .tup [.int 4, .int 1], .tup [.int 5, .int 1], .tup [.int 6, .int 1], .tup [.int 7, .int 1], .tup [.int 8, .int 1]]]
theorem dct_no : Xi HasD 12 4 [.loc 3] 2 := fun k st D => by
  unfold HasD at D
  rw [phi_def (d := f_asked_train) rfl rfl rfl]; simp [f_asked_train, startE, endD, evSs, R.bind, evS, evE, evEs, thenS, D, evOr, isiW, liftO]
theorem trains_ok {m : Int} (hm : 0 ≤ m) : ∀ t ∈ trains m, plW t = true ∧ Xi HasD 12 4 [t] 2 := by
  unfold trains
  refine fa_cons ⟨by simp [plW, plWs], fun k st _ => by kernel_rfl⟩ ?_
  refine fa_cons ⟨by simp [plW, plWs], fun k st _ => by kernel_rfl⟩ ?_
  refine fa_cons ⟨by simp [plW, plWs], fun k st _ => by kernel_rfl⟩ ?_
  refine fa_cons ⟨by simp [plW, plWs], fun k st _ => by kernel_rfl⟩ ?_
  refine fa_cons ⟨by simp [plW, plWs], fun k st _ => by kernel_rfl⟩ ?_
  refine fa_cons ⟨by simp [plW, plWs], fun k st _ => by kernel_rfl⟩ ?_
  refine fa_cons ⟨by simp [plW, plWs], fun k st _ => by kernel_rfl⟩ ?_
  refine fa_cons ⟨by simp [plW, plWs], fun k st _ => by kernel_rfl⟩ ?_
  refine fa_cons ⟨by simp [plW, plWs], fun k st _ => by kernel_rfl⟩ ?_
  refine fa_cons ⟨by simp [plW, plWs], fun k st _ => by kernel_rfl⟩ ?_
  refine fa_cons ⟨by simp [plW, plWs], fun k st _ => by kernel_rfl⟩ ?_
  refine fa_cons ⟨by simp [plW, plWs], fun k st _ => by kernel_rfl⟩ ?_
  refine fa_cons ⟨by simp [plW, plWs], fun k st _ => by kernel_rfl⟩ ?_
  refine fa_cons ⟨by simp [plW, plWs], fun k st _ => by kernel_rfl⟩ ?_
  refine fa_cons ⟨by simp [plW, plWs], fun k st _ => by kernel_rfl⟩ ?_
  refine fa_cons ⟨by simp [plW, plWs], fun k st _ => by kernel_rfl⟩ ?_
  refine fa_cons ⟨by simp [plW, plWs], s12 (by omega)⟩ ?_
  refine fa_cons ⟨by simp [plW, plWs], fun k st _ => by kernel_rfl⟩ ?_
  refine fa_cons ⟨by simp [plW, plWs], dct_no⟩ ?_
  refine fa_cons ⟨by simp [plW, plWs], fun k st _ => by kernel_rfl⟩ ?_
  exact fa_nil
end K10

set_option Elab.async false
set_option linter.all false
set_option maxRecDepth 100000
set_option maxHeartbeats 4000000
set_option exponentiation.threshold 100
namespace K10
open Mi P10
theorem ss_app {Φ' : Nat → List W → Store → R W} : ∀ {a b : List MS} {Γ Γ1 : Env} {st st1 : Store}, evSs Φ' sub0 a Γ st = .nx Γ1 st1 → evSs Φ' sub0 (a ++ b) Γ st = evSs Φ' sub0 b Γ1 st1
  | [], b, Γ, Γ1, st, st1, h => by
    unfold evSs at h
    cases h
    rfl
  | s :: ss, b, Γ, Γ1, st, st1, h => by
    rw [List.cons_append]
    unfold evSs at h
    conv => lhs; unfold evSs
    cases q : evS Φ' sub0 s Γ st with
    | nx Γ' st' =>
      rw [q] at h
      exact ss_app h
    | rt w s1 => rw [q] at h; cases h
    | xc c g s1 => rw [q] at h; cases h
    | er => rw [q] at h; cases h
theorem seg {Φ' : Nat → List W → Store → R W} {b : List MS} {Γ Γ1 : Env} {st st1 : Store} (n : Nat) (h : evSs Φ' sub0 (b.take n) Γ st = .nx Γ1 st1) : evSs Φ' sub0 b Γ st = evSs Φ' sub0 (b.drop n) Γ1 st1 := by
  conv => lhs; rw [← List.take_append_drop n b]
  exact ss_app h
def fns (l : List Nat) : List W := l.map fun i => W.fn i []
theorem plS_dead {st : Store} : plS (dead st) = true := by
  simp [plS, dead, plO]
/-- asked of all, apart -/
theorem each_pure {k : Nat} {asks things : List W} {u : Int} {l1 l2 : LK} (h : ∀ a ∈ asks, ∀ t ∈ things, ∀ st, plS st = true → ∃ st', Φ k 69 [a, t, .int u] st = .ok (.bl true) st' ∧ plS st' = true) (st : Store) : pureCall (Φ (k + 1) 70) [.lst l1 asks, .lst l2 things, .int u] st = .ok (.bl true) st := by
  unfold pureCall
  obtain ⟨st', e, _⟩ := each_ex (I := fun st => plS st = true) (l1 := l1) (l2 := l2) h (plS_dead (st := st))
  rw [show [W.lst l1 asks, .lst l2 things, .int u].map (snap st) = [W.lst l1 asks, .lst l2 things, .int u] from rfl, e]
  rfl
theorem lookX {l d c k : Nat} {t : W} {u : Int} (hx : Xc l d [t] c) (h1 : 1 ≤ c) (h2 : c ≤ 13) (hu : u = Int.ofNat c - 1) (hp : plW t = true) (hk : d ≤ k) : ∀ st, plS st = true → ∃ st', Φ (k + 1) 69 [.fn l [], t, .int u] st = .ok (.bl true) st' ∧ plS st' = true := fun st hs => by
  subst hu
  exact ⟨st ++ J c, refused_ok h1 h2 hp (by simp [plWs]) hs hs (hx.at hk st), plS_app hs plS_J⟩
theorem lookM {l k c : Nat} {t : W} {u : Int} (hx : ∀ st, Φ k l [t] st = .exc c (st ++ [some (.ins 14 [])])) (h1 : 1 ≤ c) (h2 : c ≤ 13) (hu : u = Int.ofNat c - 1) (hp : plW t = true) : ∀ st, plS st = true → ∃ st', Φ (k + 1) 69 [.fn l [], t, .int u] st = .ok (.bl true) st' ∧ plS st' = true := fun st hs => by
  subst hu
  have g : plS (st ++ [some (.ins 14 [])]) = true := plS_app hs (by simp [plS, plO])
  exact ⟨_, refused_ok h1 h2 hp (by simp [plWs]) hs g (hx st), plS_app g plS_J⟩
/-- one look of all in a group, refused: the law goes on -/
theorem s_each {Φ' : Nat → List W → Store → R W} {E1 E2 : ME} {u : Int} {Γ : Env} {st : Store} {asks things : List W} {l1 l2 : LK} (h1 : evE Φ' sub0 E1 Γ st = .ok (.lst l1 asks) st) (h2 : evE Φ' sub0 E2 Γ st = .ok (.lst l2 things) st) (h : pureCall (Φ' 70) [.lst l1 asks, .lst l2 things, .int u] st = .ok (.bl true) st) : evSs Φ' sub0 [.iff (.not (.call true 70 [E1, E2, (.cst (.int u))])) [.rt (.cst (.bl false))] []] Γ st = .nx Γ st := by
  have e : evE Φ' sub0 (.not (.call true 70 [E1, E2, (.cst (.int u))])) Γ st = .ok (.bl false) st := e_not (b := true) (e_call (ws := [.lst l1 asks, .lst l2 things, .int u]) (by simp [evEs, h1, h2, R.bind, evE]) h)
  unfold evSs evS
  rw [e]
  simp only [thenS]
  unfold evSs
  try unfold evSs
  try rfl
theorem s_each_rt {Φ' : Nat → List W → Store → R W} {E1 E2 : ME} {u : Int} {Γ : Env} {st : Store} {asks things : List W} {l1 l2 : LK} (h1 : evE Φ' sub0 E1 Γ st = .ok (.lst l1 asks) st) (h2 : evE Φ' sub0 E2 Γ st = .ok (.lst l2 things) st) (h : pureCall (Φ' 70) [.lst l1 asks, .lst l2 things, .int u] st = .ok (.bl true) st) : evSs Φ' sub0 [.rt (.call true 70 [E1, E2, (.cst (.int u))])] Γ st = .rt (.bl true) st :=
  ss_rt (s_rt (e_call (ws := [.lst l1 asks, .lst l2 things, .int u]) (by simp [evEs, h1, h2, R.bind, evE]) h))
def st0 : Store := [some (.tbl "_law_beam_right.<locals>.<lambda>"), some (.tbl "_law_rest_right.<locals>.<lambda>"), some (.tbl "_law_deck_right.<locals>.<lambda>")]
def st1 : Store := st0 ++ [some (.dct [])]
def st2 : Store := st1 ++ rep 5 (rep 20 (J 2))
section
variable {m : Int} (hm : 0 ≤ m)
include hm
theorem g_len : ∀ a ∈ fns [77, 78, 83, 84, 85, 86, 94], ∀ t ∈ lens m, ∀ st, plS st = true → ∃ st', Φ 27 69 [a, t, .int 0] st = .ok (.bl true) st' ∧ plS st' = true := by
  refine fa_cons (fun t ht => ?_) (fa_cons (fun t ht => ?_) (fa_cons (fun t ht => ?_) (fa_cons (fun t ht => ?_) (fa_cons (fun t ht => ?_) (fa_cons (fun t ht => ?_) (fa_cons (fun t ht => ?_) fa_nil))))))
  · obtain ⟨a, b, c⟩ := lens_ok hm t ht
    exact lookX (l77 a c) (by decide) (by decide) (by decide) b (by omega)
  · obtain ⟨a, b, c⟩ := lens_ok hm t ht
    exact lookX (l78 a c) (by decide) (by decide) (by decide) b (by omega)
  · obtain ⟨a, b, c⟩ := lens_ok hm t ht
    exact lookX (l83 a c) (by decide) (by decide) (by decide) b (by omega)
  · obtain ⟨a, b, c⟩ := lens_ok hm t ht
    exact lookX (l84 a c) (by decide) (by decide) (by decide) b (by omega)
  · obtain ⟨a, b, c⟩ := lens_ok hm t ht
    exact lookX (l85 a c) (by decide) (by decide) (by decide) b (by omega)
  · obtain ⟨a, b, c⟩ := lens_ok hm t ht
    exact lookM (l86 a c 18) (by decide) (by decide) (by decide) b
  · obtain ⟨a, b, c⟩ := lens_ok hm t ht
    exact lookX (l94 a c) (by decide) (by decide) (by decide) b (by omega)
theorem g_tr : ∀ a ∈ fns [79, 80, 87, 88, 89], ∀ t ∈ trains m, ∀ st, (plS st = true ∧ HasD st) → Φ 27 69 [a, t, .int 1] st = .ok (.bl true) (st ++ J 2) ∧ (plS (st ++ J 2) = true ∧ HasD (st ++ J 2)) := by
  have g : ∀ st : Store, (plS st = true ∧ HasD st) → (plS (st ++ J 2) = true ∧ HasD (st ++ J 2)) := fun st h => ⟨plS_app h.1 plS_J, by
    have q := h.2
    unfold HasD at q ⊢
    rw [List.getElem?_append_left (List.getElem?_eq_some_iff.mp q).1]
    exact q⟩
  have look : ∀ {l : Nat} {t : W}, plW t = true → Xi HasD l 8 [t] 2 → ∀ st, (plS st = true ∧ HasD st) → Φ 27 69 [.fn l [], t, .int 1] st = .ok (.bl true) (st ++ J 2) ∧ (plS (st ++ J 2) = true ∧ HasD (st ++ J 2)) := fun {l t} hp hx st h =>
    ⟨refused_ok (c := 2) (by decide) (by decide) hp (by simp [plWs]) h.1 h.1 (hx 18 st h.2), g st h⟩
  refine fa_cons (fun t ht => ?_) (fa_cons (fun t ht => ?_) (fa_cons (fun t ht => ?_) (fa_cons (fun t ht => ?_) (fa_cons (fun t ht => ?_) fa_nil))))
  · exact look (trains_ok hm t ht).1 (l79 (trains_ok hm t ht).2)
  · exact look (trains_ok hm t ht).1 (l80 (trains_ok hm t ht).2)
  · exact look (trains_ok hm t ht).1 (l87 (trains_ok hm t ht).2)
  · exact look (trains_ok hm t ht).1 (l88 (trains_ok hm t ht).2)
  · exact look (trains_ok hm t ht).1 (l89 (trains_ok hm t ht).2)
theorem g_hd : ∀ a ∈ fns [92, 93], ∀ t ∈ heads m, ∀ st, plS st = true → ∃ st', Φ 27 69 [a, t, .int 2] st = .ok (.bl true) st' ∧ plS st' = true := by
  refine fa_cons (fun t ht => ?_) (fa_cons (fun t ht => ?_) fa_nil)
  · obtain ⟨a, b, c⟩ := heads_ok hm t ht
    exact lookX (l92 a c) (by decide) (by decide) (by decide) b (by omega)
  · obtain ⟨a, b, c⟩ := heads_ok hm t ht
    exact lookX (l93 a c) (by decide) (by decide) (by decide) b (by omega)
theorem g_sh : ∀ a ∈ fns [81, 82, 90, 95], ∀ t ∈ shares m, ∀ st, plS st = true → ∃ st', Φ 27 69 [a, t, .int 3] st = .ok (.bl true) st' ∧ plS st' = true := by
  refine fa_cons (fun t ht => ?_) (fa_cons (fun t ht => ?_) (fa_cons (fun t ht => ?_) (fa_cons (fun t ht => ?_) fa_nil)))
  · obtain ⟨a, b, c⟩ := shares_ok hm t ht
    exact lookX (l81 a c) (by decide) (by decide) (by decide) b (by omega)
  · obtain ⟨a, b, c⟩ := shares_ok hm t ht
    exact lookX (l82 a c) (by decide) (by decide) (by decide) b (by omega)
  · obtain ⟨a, b, c⟩ := shares_ok hm t ht
    exact lookX (l90 a c) (by decide) (by decide) (by decide) b (by omega)
  · obtain ⟨a, b, c⟩ := shares_ok hm t ht
    exact lookX (l95 a c) (by decide) (by decide) (by decide) b (by omega)
omit hm in
theorem l91 : Xc 91 9 [.tup [.int 0, .int 1]] 4 := fun k st => by kernel_rfl
omit hm in
theorem l91b : Xc 91 9 [.tup [.int 4, .int 1]] 4 := fun k st => by kernel_rfl
omit hm in
theorem g_91 : ∀ a ∈ fns [91], ∀ t ∈ [W.tup [.int 0, .int 1], .tup [.int 4, .int 1]], ∀ st, plS st = true → ∃ st', Φ 27 69 [a, t, .int 3] st = .ok (.bl true) st' ∧ plS st' = true := by
  refine fa_cons (fa_cons ?_ (fa_cons ?_ fa_nil)) fa_nil
  · exact lookX l91 (by decide) (by decide) (by decide) (by simp [plW, plWs]) (by omega)
  · exact lookX l91b (by decide) (by decide) (by decide) (by simp [plW, plWs]) (by omega)
omit hm in
theorem phi_defM {i k : Nat} {d : Df} {ws : List W} {st st' : Store} {w : W} (hT : T[i]? = some d) (hl : ws.length = d.np) (hw : plWs ws = true) (hs : plS st = true) (hw' : plW w = true) (hs' : plS st' = true) (h : evSs (Φ k) sub0 d.body (startE d ws) st = .rt w st') : Φ (k + 1) i ws st = .ok w st' := by
  show phi T (fun _ => none) sub0 (k + 1) i ws st = _
  unfold phi
  simp only [hT, hl, if_true, h, endD]
  cases d.mkr with
  | false => rfl
  | true => simp [grdD, hw, hs, outP, hw', hs']
omit hm in
theorem p72 (hb : mulOk 2 m = true) (st : Store) : pureCall (Φ 28 72) [.int m] st = .ok (.lst .fz (shares m)) st := by
  have e : ∀ st, Φ 28 72 [.int m] st = .ok (.lst .fz (shares m)) st := fun st => by
    rw [phi_def (d := f_l_no_shares) rfl rfl rfl]
    refine congrArg endD (a₂ := Out.rt (.lst .fz (shares m)) st) ?_
    refine (seg 2 (Γ1 := [some (.int m), some (.lst .fz ((shares m).take 14))]) (st1 := st) (by kernel_rfl)).trans ?_
    refine ss_rt (s_rt ?_)
    simp [evE, evEs, R.bind, bopW, hb, addW, seqL, liftO, mkL, lim, shares]
  unfold pureCall
  rw [show [W.int m].map (snap st) = [W.int m] from rfl, e]
  have q : resB st.length 8 (.lst .fz (shares m)) = true := by kernel_rfl
  simp only [q, if_true]
theorem p73 (hb : mulOk 2 m = true) : Φ 29 73 [.int m] st0 = .ok (.bl true) st2 := by
  have tr := each_eq (k := 27) (E := J 2) (I := fun st => plS st = true ∧ HasD st) (l1 := .fz) (l2 := .fz) (g_tr hm) (st := st1) ⟨by simp [plS, st1, st0, plO], rfl⟩
  refine phi_defM (d := f_l_beam_right) rfl rfl (by simp [plWs, plW]) (by simp [plS, st0, plO]) (by simp [plW]) tr.2.1 ?_
  refine (seg 5 (Γ1 := [some (.int m), some (.lst .fz (fns [77, 78, 83, 84, 85, 86])), some (.lst .fz (lens m)), none]) (st1 := st0) (by kernel_rfl)).trans ?_
  refine (seg 1 (s_each (asks := fns [77, 78, 83, 84, 85, 86, 94]) (l1 := .fz) (l2 := .fz) (by kernel_rfl) (by kernel_rfl) (each_pure (g_len hm) st0))).trans ?_
  refine (seg 3 (Γ1 := [some (.int m), some (.lst .fz (fns [79, 80, 87, 88, 89])), some (.lst .fz (lens m)), none]) (st1 := st0) (by kernel_rfl)).trans ?_
  refine (seg 1 (Γ1 := [some (.int m), some (.lst .fz (fns [79, 80, 87, 88, 89])), some (.lst .fz (lens m)), none]) (st1 := st2) ?_).trans ?_
  · have e : evE (Φ 28) sub0 (.not (.call false 70 [(.var 1), (.call false 71 [(.var 0)]), (.cst (.int 1))])) [some (.int m), some (.lst .fz (fns [79, 80, 87, 88, 89])), some (.lst .fz (lens m)), none] st0 = .ok (.bl false) st2 := by
      refine e_notS (b := true) (e_callN (st1 := st1) (ws := [.lst .fz (fns [79, 80, 87, 88, 89]), .lst .fz (trains m), .int 1]) ?_ tr.1)
      have q : Φ 28 71 [.int m] st0 = .ok (.lst .fz (trains m)) st1 := by kernel_rfl
      simp [evEs, evE, R.bind, q]
    exact (s_skipS e).trans ss_nil
  refine (seg 1 (Γ1 := [some (.int m), some (.lst .fz (fns [79, 80, 87, 88, 89])), some (.lst .fz (lens m)), some (.lst .fz ((heads m).take 11))]) (st1 := st2) (by kernel_rfl)).trans ?_
  refine (seg 1 (Γ1 := [some (.int m), some (.lst .fz (fns [79, 80, 87, 88, 89])), some (.lst .fz (lens m)), some (.lst .fz (heads m))]) (st1 := st2) ?_).trans ?_
  · refine (ss_nx (s_as (w := .lst .fz (heads m)) (st1 := st2) ?_)).trans ss_nil
    simp [evE, evEs, R.bind, bopW, hb, addW, seqL, liftO, mkL, lim, heads]
  refine (seg 1 (s_each (asks := fns [92, 93]) (l1 := .fz) (l2 := .fz) (by kernel_rfl) (by kernel_rfl) (each_pure (g_hd hm) st2))).trans ?_
  refine (seg 2 (Γ1 := [some (.int m), some (.lst .fz (fns [81, 82, 90])), some (.lst .fz (lens m)), some (.lst .fz (heads m))]) (st1 := st2) (by kernel_rfl)).trans ?_
  refine (seg 1 (s_each (asks := fns [81, 82, 90, 95]) (things := shares m) (l1 := .fz) (l2 := .fz) (by kernel_rfl) ?_ (each_pure (g_sh hm) st2))).trans ?_
  · exact e_call (ws := [.int m]) (by simp [evEs, evE, R.bind]) (p72 hb st2)
  exact s_each_rt (asks := fns [91]) (l1 := .fz) (l2 := .fz) (by kernel_rfl) (by kernel_rfl) (each_pure g_91 st2)
end
end K10

set_option Elab.async false
set_option linter.all false
set_option maxRecDepth 100000
set_option maxHeartbeats 4000000
set_option exponentiation.threshold 100
namespace K10
open Mi P10
section
variable {m : Int} (hm : 0 ≤ m)
include hm
theorem g_si : ∀ a ∈ fns [100], ∀ t ∈ sites m, ∀ st, plS st = true → ∃ st', Φ 27 69 [a, t, .int 4] st = .ok (.bl true) st' ∧ plS st' = true := by
  refine fa_cons (fun t ht => ?_) fa_nil
  · obtain ⟨a, b, c⟩ := sites_ok hm t ht
    exact lookX (l100 a c) (by decide) (by decide) (by decide) b (by omega)
theorem g_st : ∀ a ∈ fns [96, 97, 98], ∀ t ∈ strengths m, ∀ st, plS st = true → ∃ st', Φ 27 69 [a, t, .int 5] st = .ok (.bl true) st' ∧ plS st' = true := by
  refine fa_cons (fun t ht => ?_) (fa_cons (fun t ht => ?_) (fa_cons (fun t ht => ?_) fa_nil))
  · obtain ⟨a, b, c⟩ := strengths_ok hm t ht
    exact lookX (l96 a c) (by decide) (by decide) (by decide) b (by omega)
  · obtain ⟨a, b, c⟩ := strengths_ok hm t ht
    exact lookM (l97 a c 18) (by decide) (by decide) (by decide) b
  · obtain ⟨a, b, c⟩ := strengths_ok hm t ht
    exact lookX (l98 a c) (by decide) (by decide) (by decide) b (by omega)
theorem g_po : ∀ a ∈ fns [101], ∀ t ∈ posts m, ∀ st, plS st = true → ∃ st', Φ 27 69 [a, t, .int 6] st = .ok (.bl true) st' ∧ plS st' = true := by
  refine fa_cons (fun t ht => ?_) fa_nil
  · obtain ⟨a, b, c⟩ := posts_ok hm t ht
    exact lookX (l101 a c) (by decide) (by decide) (by decide) b (by omega)
theorem g_lo : ∀ a ∈ fns [99], ∀ t ∈ loads m, ∀ st, plS st = true → ∃ st', Φ 27 69 [a, t, .int 7] st = .ok (.bl true) st' ∧ plS st' = true := by
  refine fa_cons (fun t ht => ?_) fa_nil
  · obtain ⟨a, b, c⟩ := loads_ok hm t ht
    exact lookX (l99 a c) (by decide) (by decide) (by decide) b (by omega)
theorem p74 (hs : plS st2 = true) : Φ 29 74 [.int m] st2 = .ok (.bl true) st2 := by
  refine phi_defM (d := f_l_rest_right) rfl rfl (by simp [plWs, plW]) hs (by simp [plW]) hs ?_
  refine (seg 2 (Γ1 := [some (.int m), some (.lst .fz (sites m)), none, none, none, none]) (st1 := st2) (by kernel_rfl)).trans ?_
  refine (seg 1 (s_each (asks := fns [100]) (l1 := .fz) (l2 := .fz) (by kernel_rfl) (by kernel_rfl) (each_pure (g_si hm) st2))).trans ?_
  refine (seg 2 (Γ1 := [some (.int m), some (.lst .fz (sites m)), some (.lst .fz (strengths m)), some (.lst .fz (fns [96, 97, 98])), none, none]) (st1 := st2) (by kernel_rfl)).trans ?_
  refine (seg 1 (s_each (asks := fns [96, 97, 98]) (l1 := .fz) (l2 := .fz) (by kernel_rfl) (by kernel_rfl) (each_pure (g_st hm) st2))).trans ?_
  refine (seg 1 (Γ1 := [some (.int m), some (.lst .fz (sites m)), some (.lst .fz (strengths m)), some (.lst .fz (fns [96, 97, 98])), some (.lst .fz (posts m)), none]) (st1 := st2) (by kernel_rfl)).trans ?_
  refine (seg 1 (s_each (asks := fns [101]) (l1 := .fz) (l2 := .fz) (by kernel_rfl) (by kernel_rfl) (each_pure (g_po hm) st2))).trans ?_
  refine (seg 2 (Γ1 := [some (.int m), some (.lst .fz (sites m)), some (.lst .fz (strengths m)), some (.lst .fz (fns [96, 97, 98])), some (.lst .fz (posts m)), some (.lst .fz ((loads m).take 12))]) (st1 := st2) (by kernel_rfl)).trans ?_
  exact s_each_rt (asks := fns [99]) (things := loads m) (l1 := .fz) (l2 := .fz) (by kernel_rfl) (by kernel_rfl) (each_pure (g_lo hm) st2)
end
/-! the deck -/
def zt (a b : Int) : W := .tup [.int a, .int b]
/-- the deck, its lists -/
def dk : Store := [some (.ins 14 [("length", .int 4), ("strength", .int 5), ("loads", .loc 407), ("lines", .loc 406)]), some (.lst []), some (.lst [.tup [.str "put", zt 2 1, .int 3]]), some (.lst [.tup [zt 2 1, .int 3]])]
def st3 : Store := st2 ++ dk
def st4 : Store := st3 ++ rep 3 (rep 18 (J 4))
def st5 : Store := st4 ++ rep 2 (rep 8 (J 9))
def bef : W := .lst .fz [.lst .fz [.tup [zt 2 1, .int 3]], .lst .fz [.tup [.str "put", zt 2 1, .int 3]], .tup [.tup [.int 3, .int 2] , .tup [.int 3, .int 2]], .tup [.tup [.int 3, .int 1], zt 2 1]]
theorem deck_new {m : Int} : evSs (Φ 28) sub0 (f_l_deck_right.body.take 2) [some (.int m), none, none, none, none, none] st2 = .nx [some (.int m), some (.loc 404), none, none, none, none] st3 := by kernel_rfl
theorem deck_bef {m : Int} : evSs (Φ 28) sub0 ((f_l_deck_right.body.drop 2).take 1) [some (.int m), some (.loc 404), none, none, none, none] st3 = .nx [some (.int m), some (.loc 404), some bef, none, none, none] st3 := by kernel_rfl
end K10

set_option Elab.async false
set_option linter.all false
set_option maxRecDepth 100000
set_option maxHeartbeats 4000000
set_option exponentiation.threshold 100
namespace K10
open Mi P10
def okO (o : Out) : Bool := match o with
  | .rt (.bl b) st => b && plS st
  | _ => false
def tb75 : List (Nat × List Nat) := [(102, [1]), (103, [1]), (104, [1]), (105, [1]), (106, [1]), (107, [1]), (108, [1]), (109, [1])]
theorem s_eachF {k : Nat} {es : List ME} {u : Int} {Γ : Env} {st st' : Store} {ws asks things : List W} {tb : List (Nat × List Nat)} (h1 : evEs (Φ k) sub0 es Γ st = .ok ws st) (h2 : opWs (capOf Γ tb) ws = some [.lst .fz asks, .lst .fz things, .int u]) (h : Φ k 70 [.lst .fz asks, .lst .fz things, .int u] st = .ok (.bl true) st') (hs : plS st' = true) : evSs (Φ k) sub0 [.iff (.not (.callF 70 tb es)) [.rt (.cst (.bl false))] []] Γ st = .nx Γ st' := by
  have e : evE (Φ k) sub0 (.callF 70 tb es) Γ st = .ok (.bl true) st' := by
    unfold evE
    rw [h1, rb]
    simp only [h2, h]
    simp [outP, hs, plW]
  exact (s_skipS (e_notS e)).trans ss_nil
theorem e_les {Φ' : Nat → List W → Store → R W} {Γ : Env} {st : Store} : evEs Φ' sub0 [] Γ st = .ok [] st := by unfold evEs; rfl
theorem e_lec {Φ' : Nat → List W → Store → R W} {e : ME} {es : List ME} {Γ : Env} {st : Store} {w : W} {ws : List W} (h1 : evE Φ' sub0 e Γ st = .ok w st) (h2 : evEs Φ' sub0 es Γ st = .ok ws st) : evEs Φ' sub0 (e :: es) Γ st = .ok (w :: ws) st := by
  unfold evEs
  rw [h1, rb, h2, rb]
def DkI (st : Store) : Prop := plS st = true ∧ DkF 404 407 406 st
theorem DkI.app {st e : Store} (h : DkI st) (he : plS e = true) : DkI (st ++ e) := ⟨plS_app h.1 he, by
  have q := h.2
  unfold DkF at q ⊢
  rw [List.getElem?_append_left (List.getElem?_eq_some_iff.mp q).1]
  exact q⟩
theorem lookD {l c : Nat} {t : W} {st : Store} {u : Int} (h1 : 1 ≤ c) (h2 : c ≤ 13) (hu : u = Int.ofNat c - 1) (hp : plW t = true) (i : DkI st) (h : Φ 26 l [t, .loc 404] st = .exc c st) : Φ 27 69 [.fn l [.loc 404], t, .int u] st = .ok (.bl true) (st ++ J c) ∧ DkI (st ++ J c) := by
  subst hu
  exact ⟨refused_ok h1 h2 hp (by simp [plWs, plW]) i.1 i.1 h, i.app plS_J⟩
def dfns (l : List Nat) : List W := l.map fun i => W.fn i [.loc 404]
section
variable {m : Int} (hm : 0 ≤ m)
include hm
theorem g_dk : ∀ a ∈ dfns [102, 103, 104], ∀ t ∈ shares m, ∀ st, DkI st → Φ 27 69 [a, t, .int 3] st = .ok (.bl true) (st ++ J 4) ∧ DkI (st ++ J 4) := by
  refine fa_cons (fun t ht st i => ?_) (fa_cons (fun t ht st i => ?_) (fa_cons (fun t ht st i => ?_) fa_nil))
  · obtain ⟨a, b, c⟩ := shares_ok hm t ht
    exact lookD (by decide) (by decide) (by decide) b i (l102 i.2 a c 17)
  · obtain ⟨a, b, c⟩ := shares_ok hm t ht
    exact lookD (by decide) (by decide) (by decide) b i (l103 i.2 a c 17)
  · obtain ⟨a, b, c⟩ := shares_ok hm t ht
    exact lookD (by decide) (by decide) (by decide) b i (l104 i.2 a c 17)
theorem g_dw : ∀ a ∈ dfns [105, 106], ∀ t ∈ weights m, ∀ st, DkI st → Φ 27 69 [a, t, .int 8] st = .ok (.bl true) (st ++ J 9) ∧ DkI (st ++ J 9) := by
  refine fa_cons (fun t ht st i => ?_) (fa_cons (fun t ht st i => ?_) fa_nil)
  · obtain ⟨a, b, c⟩ := weights_ok hm t ht
    exact lookD (by decide) (by decide) (by decide) b i (l105 i.2 a c 17)
  · obtain ⟨a, b, c⟩ := weights_ok hm t ht
    exact lookD (by decide) (by decide) (by decide) b i (l106 i.2 a c 17)
theorem ops_sh : opWs (capOf [some (.int m), some (.loc 404), some bef, some (.lst .fz [.clo 102, .clo 103, .clo 104]), none, none] tb75) [.lst .fz [.clo 102, .clo 103, .clo 104], .lst .fz (shares m), .int 3] = some [.lst .fz (dfns [102, 103, 104]), .lst .fz (shares m), .int 3] := by kernel_rfl
theorem ops_we : opWs (capOf [some (.int m), some (.loc 404), some bef, some (.lst .fz [.clo 102, .clo 103, .clo 104]), some (.lst .fz (weights m)), none] tb75) [.lst .fz [.clo 105, .clo 106], .lst .fz (weights m), .int 8] = some [.lst .fz (dfns [105, 106]), .lst .fz (weights m), .int 8] := by kernel_rfl
theorem p75a (hb : mulOk 2 m = true) (hs : plS st2 = true) : evSs (Φ 28) sub0 f_l_deck_right.body [some (.int m), none, none, none, none, none] st2 = evSs (Φ 28) sub0 (f_l_deck_right.body.drop 7) [some (.int m), some (.loc 404), some bef, some (.lst .fz [.clo 102, .clo 103, .clo 104]), some (.lst .fz (weights m)), none] st5 ∧ plS st5 = true := by
  have i3 : DkI st3 := ⟨plS_app hs (by simp [plS, dk, plO, plWs, plW, zt]), by unfold DkF; kernel_rfl⟩
  have q1 := each_eq (k := 27) (E := J 4) (I := DkI) (l1 := .fz) (l2 := .fz) (g_dk hm) i3
  have q2 := each_eq (k := 27) (E := J 9) (I := DkI) (l1 := .fz) (l2 := .fz) (g_dw hm) q1.2
  refine ⟨?_, q2.2.1⟩
  refine (seg 2 deck_new).trans ?_
  refine (seg 1 deck_bef).trans ?_
  refine (seg 1 (Γ1 := [some (.int m), some (.loc 404), some bef, some (.lst .fz [.clo 102, .clo 103, .clo 104]), none, none]) (st1 := st3) (by kernel_rfl)).trans ?_
  refine (seg 1 (s_eachF (ws := [.lst .fz [.clo 102, .clo 103, .clo 104], .lst .fz (shares m), .int 3]) ?_ (ops_sh hm) q1.1 q1.2.1)).trans ?_
  · have e := e_call (Φ' := Φ 28) (Γ := [some (.int m), some (.loc 404), some bef, some (.lst .fz [.clo 102, .clo 103, .clo 104]), none, none]) (f := 72) (es := [.var 0]) (ws := [.int m]) (by simp [evEs, evE, R.bind]) (p72 hb st3)
    exact e_lec (e_var rfl) (e_lec e (e_lec e_int e_les))
  refine (seg 1 (Γ1 := [some (.int m), some (.loc 404), some bef, some (.lst .fz [.clo 102, .clo 103, .clo 104]), some (.lst .fz (weights m)), none]) (st1 := st4) (by kernel_rfl)).trans ?_
  exact (seg 1 (s_eachF (ws := [.lst .fz [.clo 105, .clo 106], .lst .fz (weights m), .int 8]) (by kernel_rfl) (ops_we hm) q2.1 q2.2.1))
end
end K10

set_option Elab.async false
set_option linter.all false
set_option maxRecDepth 100000
set_option maxHeartbeats 4000000
set_option exponentiation.threshold 100
namespace K10
open Mi P10
theorem tail75 {m : Int} : okO (evSs (Φ 28) sub0 (f_l_deck_right.body.drop 7) [some (.int m), some (.loc 404), some bef, some (.lst .fz [.clo 102, .clo 103, .clo 104]), some (.lst .fz (weights m)), none] st5) = true := by kernel_rfl
theorem plS_2 : plS st2 = true := by kernel_rfl
theorem okO_ok {o : Out} (h : okO o = true) : ∃ st, o = .rt (.bl true) st ∧ plS st = true := by
  cases o with
  | rt w st => cases w with
    | bl b => cases b with
      | true => exact ⟨st, rfl, h⟩
      | false => cases h
    | _ => cases h
  | _ => cases h
theorem p75 {m : Int} (hm : 0 ≤ m) (hb : mulOk 2 m = true) : ∃ st, Φ 29 75 [.int m] st2 = .ok (.bl true) st := by
  obtain ⟨st, e, hs⟩ := okO_ok (tail75 (m := m))
  exact ⟨st, phi_defM (d := f_l_deck_right) rfl rfl (by simp [plWs, plW]) plS_2 (by simp [plW]) hs ((p75a hm hb plS_2).1.trans e)⟩
theorem sum_bd {α : Type} {n : Nat} (f : α → Int) : ∀ (xs : List α), (∀ x ∈ xs, Bd n (f x)) → Bd (n + xs.length) (xs.map f).sum
  | [], _ => by unfold Bd; simp; exact Nat.two_pow_pos _
  | x :: xs, h => by
    have h1 := (h x (by simp)).mono (Nat.le_add_right n xs.length)
    have h2 := sum_bd f xs fun y hy => h y (by simp [hy])
    rw [List.map_cons, List.sum_cons]
    exact h1.add' h2
theorem bits_bd {z : Int} (h : PySem.Builtin.Int.intBits z ≤ 1048576) : Bd 1048576 z := by
  unfold PySem.Builtin.Int.intBits at h
  unfold Bd
  by_cases e : z = 0
  · subst e
    exact Nat.two_pow_pos _
  · rw [if_neg (by simpa using e)] at h
    exact (Nat.log2_lt (by omega)).mp (by omega)
theorem ints_cut {ns : List Int} (hl : ns.length ≤ 63) {st : Store} : b1W st .sum (.lst .fz (cutW (ns.map W.int) none (some 63))) = some (.int ns.sum) := by
  have e : cutW (ns.map W.int) none (some 63) = ns.map W.int := by
    unfold cutW
    have l : (ns.map W.int).length = ns.length := List.length_map _
    have e1 : HT.sIx (ns.map W.int).length 0 none = 0 := rfl
    have e2 : HT.sIx (ns.map W.int).length (ns.map W.int).length (some 63) = ns.length := by
      rw [l]
      unfold HT.sIx
      simp
      omega
    rw [e1, e2, List.drop_zero, Nat.sub_zero, ← l, List.take_length]
  rw [e]
  have q : ∀ xs : List Int, intsW (xs.map W.int) = some xs := fun xs => by
    induction xs with
    | nil => rfl
    | cons x xs ih => simp [intsW, ih]
  simp [b1W, seqL, q]
theorem e_sli63 {Φ' : Nat → List W → Store → R W} {xs : List W} {Γ : Env} {st : Store} : evE Φ' subN (.sli (.var 0) none (some (.cst (.int 63)))) (some (.lst .gv xs) :: Γ) st = .ok (.lst .fz (cutW xs none (some 63))) st := by
  simp [evE, evO, R.bind, slW, seqL, liftO]
theorem good {ns : List Int} (hl : ns.length ≤ 63) (hbits : ∀ z ∈ ns, PySem.Builtin.Int.intBits z ≤ 1048576) : ∃ st, phi T (fun _ => none) subN 30 76 [.lst .gv (ns.map .int)] st0 = .ok (.bl true) st := by
  generalize hw : (if ns.sum < 0 then -ns.sum else ns.sum) = w
  have w0 : 0 ≤ w := by split at hw <;> omega
  have bs : Bd (1048576 + ns.length) ns.sum := by
    have := sum_bd (fun z : Int => z) ns fun z hz => bits_bd (hbits z hz)
    rwa [List.map_id'] at this
  have bw : Bd (1048576 + ns.length) w := by
    rw [← hw]
    exact bs.abs
  have hb : mulOk 2 w = true := mulOk_of (Bd.of (n := 2) (m := 2) (by omega) (by decide)) bw (by omega)
  obtain ⟨st, e75⟩ := p75 w0 hb
  have e73 := p73 w0 hb
  have e74 := p74 w0 plS_2
  refine ⟨st, ?_⟩
  show Φ (29 + 1) 76 _ _ = _
  rw [phi_def (d := f_l_law) rfl rfl rfl]
  show endD (evSs (Φ 29) subN f_l_law.body [some (.lst .gv (ns.map .int)), none] st0) = _
  have p2 : evE (Φ 29) subN (.b1 .abs (.b1 .sum (.sli (.var 0) none (some (.cst (.int 63)))))) [some (.lst .gv (ns.map .int)), none] st0 = .ok (.int w) st0 :=
    e_b1 (e_b1 e_sli63 (ints_cut hl)) (by rw [← hw]; rfl)
  have c1 : evE (Φ 29) subN (.call false 73 [.var 1]) [some (.lst .gv (ns.map .int)), some (.int w)] st0 = .ok (.bl true) st2 := e_callN (e_lec (e_var rfl) e_les) e73
  have c2 : evE (Φ 29) subN (.call false 74 [.var 1]) [some (.lst .gv (ns.map .int)), some (.int w)] st2 = .ok (.bl true) st2 := e_callN (e_lec (e_var rfl) e_les) e74
  have c3 : evE (Φ 29) subN (.call false 75 [.var 1]) [some (.lst .gv (ns.map .int)), some (.int w)] st2 = .ok (.bl true) st := e_callN (e_lec (e_var rfl) e_les) e75
  refine congrArg endD (a₂ := Out.rt (.bl true) st) ?_
  refine (ss_nx (s_as p2)).trans ?_
  refine (s_skipS (e_or2S (e_notS c1) (e_notS c2))).trans ?_
  exact ss_rt (s_rt c3)
end K10

set_option Elab.async false
set_option linter.all false
set_option maxRecDepth 100000
set_option maxHeartbeats 0
namespace Hd
open PySem PySem.Spec PyProof.Rows L2
def prg : Mi.Prg := ⟨P10.T, P10.clsN, P10.constsN, P10.freeN, P10.ownN, P10.fldsN, P10.kitsN, P10.barsN, P10.xcsN, P10.xkitsN, P10.tabsN⟩
theorem zip_ok : Mi.zipB prg fn = true := by decide +kernel
theorem facts_ok : Mi.factsB prg fa fx = true := by decide +kernel
theorem bind_0 {K : PySem.W.Frag} {fd : FuncData} (F : FunD K d0.name d0.qual d0.params d0.body d0.scope [] (d0.kws K) (He.fAd K d0.at_) fd) : Binds K fd ["k"] [] := F.bindsN fun _ _ _ _ _ _ us hl => match us, hl with | [_], _ => rfl
theorem bind_1 {K : PySem.W.Frag} {fd : FuncData} (F : FunD K d1.name d1.qual d1.params d1.body d1.scope [] (d1.kws K) (He.fAd K d1.at_) fd) : Binds K fd ["thing"] [] := F.bindsN fun _ _ _ _ _ _ us hl => match us, hl with | [_], _ => rfl
theorem bind_2 {K : PySem.W.Frag} {fd : FuncData} (F : FunD K d2.name d2.qual d2.params d2.body d2.scope [] (d2.kws K) (He.fAd K d2.at_) fd) : Binds K fd ["thing", "least", "most"] [] := F.bindsN fun _ _ _ _ _ _ us hl => match us, hl with | [_, _, _], _ => rfl
theorem bind_3 {K : PySem.W.Frag} {fd : FuncData} (F : FunD K d3.name d3.qual d3.params d3.body d3.scope [] (d3.kws K) (He.fAd K d3.at_) fd) : Binds K fd ["one", "other"] [] := F.bindsN fun _ _ _ _ _ _ us hl => match us, hl with | [_, _], _ => rfl
theorem bind_4 {K : PySem.W.Frag} {fd : FuncData} (F : FunD K d4.name d4.qual d4.params d4.body d4.scope [] (d4.kws K) (He.fAd K d4.at_) fd) : Binds K fd ["above", "below"] [] := F.bindsN fun _ _ _ _ _ _ us hl => match us, hl with | [_, _], _ => rfl
theorem bind_5 {K : PySem.W.Frag} {fd : FuncData} (F : FunD K d5.name d5.qual d5.params d5.body d5.scope [] (d5.kws K) (He.fAd K d5.at_) fd) : Binds K fd ["thing"] [] := F.bindsN fun _ _ _ _ _ _ us hl => match us, hl with | [_], _ => rfl
theorem bind_6 {K : PySem.W.Frag} {fd : FuncData} (F : FunD K d6.name d6.qual d6.params d6.body d6.scope [] (d6.kws K) (He.fAd K d6.at_) fd) : Binds K fd ["thing", "least", "most"] [] := F.bindsN fun _ _ _ _ _ _ us hl => match us, hl with | [_, _, _], _ => rfl
theorem bind_7 {K : PySem.W.Frag} {fd : FuncData} (F : FunD K d7.name d7.qual d7.params d7.body d7.scope [] (d7.kws K) (He.fAd K d7.at_) fd) : Binds K fd ["one", "other"] [] := F.bindsN fun _ _ _ _ _ _ us hl => match us, hl with | [_, _], _ => rfl
theorem bind_8 {K : PySem.W.Frag} {fd : FuncData} (F : FunD K d8.name d8.qual d8.params d8.body d8.scope [] (d8.kws K) (He.fAd K d8.at_) fd) : Binds K fd ["one", "other"] [] := F.bindsN fun _ _ _ _ _ _ us hl => match us, hl with | [_, _], _ => rfl
theorem bind_9 {K : PySem.W.Frag} {fd : FuncData} (F : FunD K d9.name d9.qual d9.params d9.body d9.scope [] (d9.kws K) (He.fAd K d9.at_) fd) : Binds K fd ["length"] [] := F.bindsN fun _ _ _ _ _ _ us hl => match us, hl with | [_], _ => rfl
theorem bind_10 {K : PySem.W.Frag} {fd : FuncData} (F : FunD K d10.name d10.qual d10.params d10.body d10.scope [] (d10.kws K) (He.fAd K d10.at_) fd) : Binds K fd ["strength"] [] := F.bindsN fun _ _ _ _ _ _ us hl => match us, hl with | [_], _ => rfl
theorem bind_11 {K : PySem.W.Frag} {fd : FuncData} (F : FunD K d11.name d11.qual d11.params d11.body d11.scope [] (d11.kws K) (He.fAd K d11.at_) fd) : Binds K fd ["thing"] [] := F.bindsN fun _ _ _ _ _ _ us hl => match us, hl with | [_], _ => rfl
theorem bind_12 {K : PySem.W.Frag} {fd : FuncData} (F : FunD K d12.name d12.qual d12.params d12.body d12.scope [] (d12.kws K) (He.fAd K d12.at_) fd) : Binds K fd ["train"] [] := F.bindsN fun _ _ _ _ _ _ us hl => match us, hl with | [_], _ => rfl
theorem bind_13 {K : PySem.W.Frag} {fd : FuncData} (F : FunD K d13.name d13.qual d13.params d13.body d13.scope [] (d13.kws K) (He.fAd K d13.at_) fd) : Binds K fd ["length", "train", "head"] [] := F.bindsN fun _ _ _ _ _ _ us hl => match us, hl with | [_, _, _], _ => rfl
theorem bind_14 {K : PySem.W.Frag} {fd : FuncData} (F : FunD K d14.name d14.qual d14.params d14.body d14.scope [] (d14.kws K) (He.fAd K d14.at_) fd) : Binds K fd ["length", "train", "head"] [] := F.bindsN fun _ _ _ _ _ _ us hl => match us, hl with | [_, _, _], _ => rfl
theorem bind_15 {K : PySem.W.Frag} {fd : FuncData} (F : FunD K d15.name d15.qual d15.params d15.body d15.scope [] (d15.kws K) (He.fAd K d15.at_) fd) : Binds K fd ["length", "part", "loads"] [] := F.bindsN fun _ _ _ _ _ _ us hl => match us, hl with | [_, _, _], _ => rfl
theorem bind_16 {K : PySem.W.Frag} {fd : FuncData} (F : FunD K d16.name d16.qual d16.params d16.body d16.scope [] (d16.kws K) (He.fAd K d16.at_) fd) : Binds K fd ["length", "part", "loads", "place"] [] := F.bindsN fun _ _ _ _ _ _ us hl => match us, hl with | [_, _, _, _], _ => rfl
theorem bind_17 {K : PySem.W.Frag} {fd : FuncData} (F : FunD K d17.name d17.qual d17.params d17.body d17.scope [] (d17.kws K) (He.fAd K d17.at_) fd) : Binds K fd ["length", "train", "head", "place"] [] := F.bindsN fun _ _ _ _ _ _ us hl => match us, hl with | [_, _, _, _], _ => rfl
theorem bind_18 {K : PySem.W.Frag} {fd : FuncData} (F : FunD K d18.name d18.qual d18.params d18.body d18.scope [] (d18.kws K) (He.fAd K d18.at_) fd) : Binds K fd ["length", "place"] [] := F.bindsN fun _ _ _ _ _ _ us hl => match us, hl with | [_, _], _ => rfl
theorem bind_19 {K : PySem.W.Frag} {fd : FuncData} (F : FunD K d19.name d19.qual d19.params d19.body d19.scope [] (d19.kws K) (He.fAd K d19.at_) fd) : Binds K fd ["length", "train", "head"] [] := F.bindsN fun _ _ _ _ _ _ us hl => match us, hl with | [_, _, _], _ => rfl
theorem bind_20 {K : PySem.W.Frag} {fd : FuncData} (F : FunD K d20.name d20.qual d20.params d20.body d20.scope [] (d20.kws K) (He.fAd K d20.at_) fd) : Binds K fd ["length", "train", "head", "place"] [] := F.bindsN fun _ _ _ _ _ _ us hl => match us, hl with | [_, _, _, _], _ => rfl
theorem bind_21 {K : PySem.W.Frag} {fd : FuncData} (F : FunD K d21.name d21.qual d21.params d21.body d21.scope [] (d21.kws K) (He.fAd K d21.at_) fd) : Binds K fd ["length", "place", "at"] [] := F.bindsN fun _ _ _ _ _ _ us hl => match us, hl with | [_, _, _], _ => rfl
theorem bind_22 {K : PySem.W.Frag} {fd : FuncData} (F : FunD K d22.name d22.qual d22.params d22.body d22.scope [] (d22.kws K) (He.fAd K d22.at_) fd) : Binds K fd ["one", "other"] [] := F.bindsN fun _ _ _ _ _ _ us hl => match us, hl with | [_, _], _ => rfl
theorem bind_23 {K : PySem.W.Frag} {fd : FuncData} (F : FunD K d23.name d23.qual d23.params d23.body d23.scope [] (d23.kws K) (He.fAd K d23.at_) fd) : Binds K fd ["length", "train", "place"] [] := F.bindsN fun _ _ _ _ _ _ us hl => match us, hl with | [_, _, _], _ => rfl
theorem bind_24 {K : PySem.W.Frag} {fd : FuncData} (F : FunD K d24.name d24.qual d24.params d24.body d24.scope [] (d24.kws K) (He.fAd K d24.at_) fd) : Binds K fd ["length", "train", "own"] [] := F.bindsN fun _ _ _ _ _ _ us hl => match us, hl with | [_, _, _], _ => rfl
theorem bind_25 {K : PySem.W.Frag} {fd : FuncData} (F : FunD K d25.name d25.qual d25.params d25.body d25.scope [] (d25.kws K) (He.fAd K d25.at_) fd) : Binds K fd ["length", "train", "own", "first", "last"] [] := F.bindsN fun _ _ _ _ _ _ us hl => match us, hl with | [_, _, _, _, _], _ => rfl
theorem bind_26 {K : PySem.W.Frag} {fd : FuncData} (F : FunD K d26.name d26.qual d26.params d26.body d26.scope [] (d26.kws K) (He.fAd K d26.at_) fd) : Binds K fd ["length", "train"] [] := F.bindsN fun _ _ _ _ _ _ us hl => match us, hl with | [_, _], _ => rfl
theorem bind_27 {K : PySem.W.Frag} {fd : FuncData} (F : FunD K d27.name d27.qual d27.params d27.body d27.scope [] (d27.kws K) (He.fAd K d27.at_) fd) : Binds K fd ["length", "part", "loads"] [] := F.bindsN fun _ _ _ _ _ _ us hl => match us, hl with | [_, _, _], _ => rfl
theorem bind_28 {K : PySem.W.Frag} {fd : FuncData} (F : FunD K d28.name d28.qual d28.params d28.body d28.scope [] (d28.kws K) (He.fAd K d28.at_) fd) : Binds K fd ["there"] [] := F.bindsN fun _ _ _ _ _ _ us hl => match us, hl with | [_], _ => rfl
theorem bind_29 {K : PySem.W.Frag} {fd : FuncData} (F : FunD K d29.name d29.qual d29.params d29.body d29.scope [] (d29.kws K) (He.fAd K d29.at_) fd) : Binds K fd ["there"] [] := F.bindsN fun _ _ _ _ _ _ us hl => match us, hl with | [_], _ => rfl
theorem bind_30 {K : PySem.W.Frag} {fd : FuncData} (F : FunD K d30.name d30.qual d30.params d30.body d30.scope [] (d30.kws K) (He.fAd K d30.at_) fd) : Binds K fd ["there", "place", "weight"] [] := F.bindsN fun _ _ _ _ _ _ us hl => match us, hl with | [_, _, _], _ => rfl
theorem bind_31 {K : PySem.W.Frag} {fd : FuncData} (F : FunD K d31.name d31.qual d31.params d31.body d31.scope [] (d31.kws K) (He.fAd K d31.at_) fd) : Binds K fd ["length", "there"] [] := F.bindsN fun _ _ _ _ _ _ us hl => match us, hl with | [_, _], _ => rfl
theorem bind_32 {K : PySem.W.Frag} {fd : FuncData} (F : FunD K d32.name d32.qual d32.params d32.body d32.scope [] (d32.kws K) (He.fAd K d32.at_) fd) : Binds K fd ["length", "strength", "there"] [] := F.bindsN fun _ _ _ _ _ _ us hl => match us, hl with | [_, _, _], _ => rfl
theorem bind_33 {K : PySem.W.Frag} {fd : FuncData} (F : FunD K d33.name d33.qual d33.params d33.body d33.scope [] (d33.kws K) (He.fAd K d33.at_) fd) : Binds K fd ["thing"] [] := F.bindsN fun _ _ _ _ _ _ us hl => match us, hl with | [_], _ => rfl
theorem bind_34 {K : PySem.W.Frag} {fd : FuncData} (F : FunD K d34.name d34.qual d34.params d34.body d34.scope [] (d34.kws K) (He.fAd K d34.at_) fd) : Binds K fd ["length", "strength", "tale"] [] := F.bindsN fun _ _ _ _ _ _ us hl => match us, hl with | [_, _, _], _ => rfl
theorem bind_35 {K : PySem.W.Frag} {fd : FuncData} (F : FunD K d35.name d35.qual d35.params d35.body d35.scope [] (d35.kws K) (He.fAd K d35.at_) fd) : Binds K fd ["self", "length", "strength"] [] := F.bindsN fun _ _ _ _ _ _ us hl => match us, hl with | [_, _, _], _ => rfl
theorem bind_36 {K : PySem.W.Frag} {fd : FuncData} (F : FunD K d36.name d36.qual d36.params d36.body d36.scope [] (d36.kws K) (He.fAd K d36.at_) fd) : Binds K fd ["self", "place"] [] := F.bindsN fun _ _ _ _ _ _ us hl => match us, hl with | [_, _], _ => rfl
theorem bind_37 {K : PySem.W.Frag} {fd : FuncData} (F : FunD K d37.name d37.qual d37.params d37.body d37.scope [] (d37.kws K) (He.fAd K d37.at_) fd) : Binds K fd ["self", "place", "weight"] [] := F.bindsN fun _ _ _ _ _ _ us hl => match us, hl with | [_, _, _], _ => rfl
theorem bind_38 {K : PySem.W.Frag} {fd : FuncData} (F : FunD K d38.name d38.qual d38.params d38.body d38.scope [] (d38.kws K) (He.fAd K d38.at_) fd) : Binds K fd ["self", "place", "weight"] [] := F.bindsN fun _ _ _ _ _ _ us hl => match us, hl with | [_, _, _], _ => rfl
theorem bind_39 {K : PySem.W.Frag} {fd : FuncData} (F : FunD K d39.name d39.qual d39.params d39.body d39.scope [] (d39.kws K) (He.fAd K d39.at_) fd) : Binds K fd ["self", "place", "weight"] [] := F.bindsN fun _ _ _ _ _ _ us hl => match us, hl with | [_, _, _], _ => rfl
theorem bind_40 {K : PySem.W.Frag} {fd : FuncData} (F : FunD K d40.name d40.qual d40.params d40.body d40.scope [] (d40.kws K) (He.fAd K d40.at_) fd) : Binds K fd ["self"] [] := F.bindsN fun _ _ _ _ _ _ us hl => match us, hl with | [_], _ => rfl
theorem bind_41 {K : PySem.W.Frag} {fd : FuncData} (F : FunD K d41.name d41.qual d41.params d41.body d41.scope [] (d41.kws K) (He.fAd K d41.at_) fd) : Binds K fd ["self"] [] := F.bindsN fun _ _ _ _ _ _ us hl => match us, hl with | [_], _ => rfl
theorem bind_42 {K : PySem.W.Frag} {fd : FuncData} (F : FunD K d42.name d42.qual d42.params d42.body d42.scope [] (d42.kws K) (He.fAd K d42.at_) fd) : Binds K fd ["self", "place"] [] := F.bindsN fun _ _ _ _ _ _ us hl => match us, hl with | [_, _], _ => rfl
theorem bind_43 {K : PySem.W.Frag} {fd : FuncData} (F : FunD K d43.name d43.qual d43.params d43.body d43.scope [] (d43.kws K) (He.fAd K d43.at_) fd) : Binds K fd ["self"] [] := F.bindsN fun _ _ _ _ _ _ us hl => match us, hl with | [_], _ => rfl
theorem bind_44 {K : PySem.W.Frag} {fd : FuncData} (F : FunD K d44.name d44.qual d44.params d44.body d44.scope [] (d44.kws K) (He.fAd K d44.at_) fd) : Binds K fd ["self"] [] := F.bindsN fun _ _ _ _ _ _ us hl => match us, hl with | [_], _ => rfl
theorem bind_45 {K : PySem.W.Frag} {fd : FuncData} (F : FunD K d45.name d45.qual d45.params d45.body d45.scope [] (d45.kws K) (He.fAd K d45.at_) fd) : Binds K fd ["thing"] [] := F.bindsN fun _ _ _ _ _ _ us hl => match us, hl with | [_], _ => rfl
theorem bind_46 {K : PySem.W.Frag} {fd : FuncData} (F : FunD K d46.name d46.qual d46.params d46.body d46.scope [] (d46.kws K) (He.fAd K d46.at_) fd) : Binds K fd ["posts", "loads"] [] := F.bindsN fun _ _ _ _ _ _ us hl => match us, hl with | [_, _], _ => rfl
theorem bind_47 {K : PySem.W.Frag} {fd : FuncData} (F : FunD K d47.name d47.qual d47.params d47.body d47.scope [] (d47.kws K) (He.fAd K d47.at_) fd) : Binds K fd ["place", "loads"] [] := F.bindsN fun _ _ _ _ _ _ us hl => match us, hl with | [_, _], _ => rfl
theorem bind_48 {K : PySem.W.Frag} {fd : FuncData} (F : FunD K d48.name d48.qual d48.params d48.body d48.scope [] (d48.kws K) (He.fAd K d48.at_) fd) : Binds K fd ["posts", "loads", "side"] [] := F.bindsN fun _ _ _ _ _ _ us hl => match us, hl with | [_, _, _], _ => rfl
theorem bind_49 {K : PySem.W.Frag} {fd : FuncData} (F : FunD K d49.name d49.qual d49.params d49.body d49.scope [] (d49.kws K) (He.fAd K d49.at_) fd) : Binds K fd ["posts", "loads"] [] := F.bindsN fun _ _ _ _ _ _ us hl => match us, hl with | [_, _], _ => rfl
theorem bind_50 {K : PySem.W.Frag} {fd : FuncData} (F : FunD K d50.name d50.qual d50.params d50.body d50.scope [] (d50.kws K) (He.fAd K d50.at_) fd) : Binds K fd ["sites", "train", "strength"] [] := F.bindsN fun _ _ _ _ _ _ us hl => match us, hl with | [_, _, _], _ => rfl
theorem bind_51 {K : PySem.W.Frag} {fd : FuncData} (F : FunD K d51.name d51.qual d51.params d51.body d51.scope [] (d51.kws K) (He.fAd K d51.at_) fd) : Binds K fd ["train", "strength", "one", "other", "known"] [] := F.bindsN fun _ _ _ _ _ _ us hl => match us, hl with | [_, _, _, _, _], _ => rfl
theorem bind_52 {K : PySem.W.Frag} {fd : FuncData} (F : FunD K d52.name d52.qual d52.params d52.body d52.scope [] (d52.kws K) (He.fAd K d52.at_) fd) : Binds K fd ["sites", "train", "strength"] [] := F.bindsN fun _ _ _ _ _ _ us hl => match us, hl with | [_, _, _], _ => rfl
theorem bind_53 {K : PySem.W.Frag} {fd : FuncData} (F : FunD K d53.name d53.qual d53.params d53.body d53.scope [] (d53.kws K) (He.fAd K d53.at_) fd) : Binds K fd ["self", "posts", "stretches"] [] := F.bindsN fun _ _ _ _ _ _ us hl => match us, hl with | [_, _, _], _ => rfl
theorem bind_54 {K : PySem.W.Frag} {fd : FuncData} (F : FunD K d54.name d54.qual d54.params d54.body d54.scope [] (d54.kws K) (He.fAd K d54.at_) fd) : Binds K fd ["self", "sites", "train", "strength"] [] := F.bindsN fun _ _ _ _ _ _ us hl => match us, hl with | [_, _, _, _], _ => rfl
theorem bind_55 {K : PySem.W.Frag} {fd : FuncData} (F : FunD K d55.name d55.qual d55.params d55.body d55.scope [] (d55.kws K) (He.fAd K d55.at_) fd) : Binds K fd ["self", "stretch"] [] := F.bindsN fun _ _ _ _ _ _ us hl => match us, hl with | [_, _], _ => rfl
theorem bind_56 {K : PySem.W.Frag} {fd : FuncData} (F : FunD K d56.name d56.qual d56.params d56.body d56.scope [] (d56.kws K) (He.fAd K d56.at_) fd) : Binds K fd ["self", "sites", "train", "strength"] [] := F.bindsN fun _ _ _ _ _ _ us hl => match us, hl with | [_, _, _, _], _ => rfl
theorem bind_57 {K : PySem.W.Frag} {fd : FuncData} (F : FunD K d57.name d57.qual d57.params d57.body d57.scope [] (d57.kws K) (He.fAd K d57.at_) fd) : Binds K fd ["self", "shares"] [] := F.bindsN fun _ _ _ _ _ _ us hl => match us, hl with | [_, _], _ => rfl
theorem bind_58 {K : PySem.W.Frag} {fd : FuncData} (F : FunD K d58.name d58.qual d58.params d58.body d58.scope [] (d58.kws K) (He.fAd K d58.at_) fd) : Binds K fd ["self", "posts", "loads"] [] := F.bindsN fun _ _ _ _ _ _ us hl => match us, hl with | [_, _, _], _ => rfl
theorem bind_59 {K : PySem.W.Frag} {fd : FuncData} (F : FunD K d59.name d59.qual d59.params d59.body d59.scope [] (d59.kws K) (He.fAd K d59.at_) fd) : Binds K fd ["self", "side"] [] := F.bindsN fun _ _ _ _ _ _ us hl => match us, hl with | [_, _], _ => rfl
theorem bind_60 {K : PySem.W.Frag} {fd : FuncData} (F : FunD K d60.name d60.qual d60.params d60.body d60.scope [] (d60.kws K) (He.fAd K d60.at_) fd) : Binds K fd ["self", "posts", "loads"] [] := F.bindsN fun _ _ _ _ _ _ us hl => match us, hl with | [_, _, _], _ => rfl
theorem bind_61 {K : PySem.W.Frag} {fd : FuncData} (F : FunD K d61.name d61.qual d61.params d61.body d61.scope [] (d61.kws K) (He.fAd K d61.at_) fd) : Binds K fd ["self", "length", "strength", "tale"] [] := F.bindsN fun _ _ _ _ _ _ us hl => match us, hl with | [_, _, _, _], _ => rfl
theorem bind_62 {K : PySem.W.Frag} {fd : FuncData} (F : FunD K d62.name d62.qual d62.params d62.body d62.scope [] (d62.kws K) (He.fAd K d62.at_) fd) : Binds K fd ["self", "line"] [] := F.bindsN fun _ _ _ _ _ _ us hl => match us, hl with | [_, _], _ => rfl
theorem bind_63 {K : PySem.W.Frag} {fd : FuncData} (F : FunD K d63.name d63.qual d63.params d63.body d63.scope [] (d63.kws K) (He.fAd K d63.at_) fd) : Binds K fd ["self", "length", "strength", "tale"] [] := F.bindsN fun _ _ _ _ _ _ us hl => match us, hl with | [_, _, _, _], _ => rfl
theorem bind_64 {K : PySem.W.Frag} {fd : FuncData} (F : FunD K d64.name d64.qual d64.params d64.body d64.scope [] (d64.kws K) (He.fAd K d64.at_) fd) : Binds K fd ["posts", "loads"] [] := F.bindsN fun _ _ _ _ _ _ us hl => match us, hl with | [_, _], _ => rfl
theorem bind_65 {K : PySem.W.Frag} {fd : FuncData} (F : FunD K d65.name d65.qual d65.params d65.body d65.scope [] (d65.kws K) (He.fAd K d65.at_) fd) : Binds K fd ["sites", "train", "strength"] [] := F.bindsN fun _ _ _ _ _ _ us hl => match us, hl with | [_, _, _], _ => rfl
theorem bind_66 {K : PySem.W.Frag} {fd : FuncData} (F : FunD K d66.name d66.qual d66.params d66.body d66.scope [] (d66.kws K) (He.fAd K d66.at_) fd) : Binds K fd ["length", "strength", "tale"] [] := F.bindsN fun _ _ _ _ _ _ us hl => match us, hl with | [_, _, _], _ => rfl
theorem bind_67 {K : PySem.W.Frag} {fd : FuncData} (F : FunD K d67.name d67.qual d67.params d67.body d67.scope [] (d67.kws K) (He.fAd K d67.at_) fd) : Binds K fd ["length", "train", "place"] [] := F.bindsN fun _ _ _ _ _ _ us hl => match us, hl with | [_, _, _], _ => rfl
theorem bind_68 {K : PySem.W.Frag} {fd : FuncData} (F : FunD K d68.name d68.qual d68.params d68.body d68.scope [] (d68.kws K) (He.fAd K d68.at_) fd) : Binds K fd ["length", "train"] [] := F.bindsN fun _ _ _ _ _ _ us hl => match us, hl with | [_, _], _ => rfl
theorem bind_69 {K : PySem.W.Frag} {fd : FuncData} (F : FunD K d69.name d69.qual d69.params d69.body d69.scope [] (d69.kws K) (He.fAd K d69.at_) fd) : Binds K fd ["_law_ask", "_law_thing", "_law_due"] [] := F.bindsN fun _ _ _ _ _ _ us hl => match us, hl with | [_, _, _], _ => rfl
theorem bind_70 {K : PySem.W.Frag} {fd : FuncData} (F : FunD K d70.name d70.qual d70.params d70.body d70.scope [] (d70.kws K) (He.fAd K d70.at_) fd) : Binds K fd ["_law_asks", "_law_things", "_law_due"] [] := F.bindsN fun _ _ _ _ _ _ us hl => match us, hl with | [_, _, _], _ => rfl
theorem bind_71 {K : PySem.W.Frag} {fd : FuncData} (F : FunD K d71.name d71.qual d71.params d71.body d71.scope [] (d71.kws K) (He.fAd K d71.at_) fd) : Binds K fd ["_law_more"] [] := F.bindsN fun _ _ _ _ _ _ us hl => match us, hl with | [_], _ => rfl
theorem bind_72 {K : PySem.W.Frag} {fd : FuncData} (F : FunD K d72.name d72.qual d72.params d72.body d72.scope [] (d72.kws K) (He.fAd K d72.at_) fd) : Binds K fd ["_law_more"] [] := F.bindsN fun _ _ _ _ _ _ us hl => match us, hl with | [_], _ => rfl
theorem bind_73 {K : PySem.W.Frag} {fd : FuncData} (F : FunD K d73.name d73.qual d73.params d73.body d73.scope [] (d73.kws K) (He.fAd K d73.at_) fd) : Binds K fd ["_law_more"] [] := F.bindsN fun _ _ _ _ _ _ us hl => match us, hl with | [_], _ => rfl
theorem bind_74 {K : PySem.W.Frag} {fd : FuncData} (F : FunD K d74.name d74.qual d74.params d74.body d74.scope [] (d74.kws K) (He.fAd K d74.at_) fd) : Binds K fd ["_law_more"] [] := F.bindsN fun _ _ _ _ _ _ us hl => match us, hl with | [_], _ => rfl
theorem bind_75 {K : PySem.W.Frag} {fd : FuncData} (F : FunD K d75.name d75.qual d75.params d75.body d75.scope [] (d75.kws K) (He.fAd K d75.at_) fd) : Binds K fd ["_law_more"] [] := F.bindsN fun _ _ _ _ _ _ us hl => match us, hl with | [_], _ => rfl
theorem bind_76 {K : PySem.W.Frag} {fd : FuncData} (F : FunD K d76.name d76.qual d76.params d76.body d76.scope [] (d76.kws K) (He.fAd K d76.at_) fd) : Binds K fd ["_law_script"] [] := F.bindsN fun _ _ _ _ _ _ us hl => match us, hl with | [_], _ => rfl
theorem bind {K : PySem.W.Frag} : ∀ (i : Nat) (h : He.DefD) (d : Mi.Df) (fd : FuncData), fn[i]? = some h → prg.T[i]? = some d → FunD K h.name h.qual h.params h.body h.scope [] (h.kws K) (He.fAd K h.at_) fd → Binds K fd (d.N.take d.np) []
  | 0, h, d, fd, e1, e2, F => by
    have e1 : some d0 = some h := e1
    cases e1
    have e2 : some _ = some d := e2
    cases e2
    exact bind_0 F
  | 1, h, d, fd, e1, e2, F => by
    have e1 : some d1 = some h := e1
    cases e1
    have e2 : some _ = some d := e2
    cases e2
    exact bind_1 F
  | 2, h, d, fd, e1, e2, F => by
    have e1 : some d2 = some h := e1
    cases e1
    have e2 : some _ = some d := e2
    cases e2
    exact bind_2 F
  | 3, h, d, fd, e1, e2, F => by
    have e1 : some d3 = some h := e1
    cases e1
    have e2 : some _ = some d := e2
    cases e2
    exact bind_3 F
  | 4, h, d, fd, e1, e2, F => by
    have e1 : some d4 = some h := e1
    cases e1
    have e2 : some _ = some d := e2
    cases e2
    exact bind_4 F
  | 5, h, d, fd, e1, e2, F => by
    have e1 : some d5 = some h := e1
    cases e1
    have e2 : some _ = some d := e2
    cases e2
    exact bind_5 F
  | 6, h, d, fd, e1, e2, F => by
    have e1 : some d6 = some h := e1
    cases e1
    have e2 : some _ = some d := e2
    cases e2
    exact bind_6 F
  | 7, h, d, fd, e1, e2, F => by
    have e1 : some d7 = some h := e1
    cases e1
    have e2 : some _ = some d := e2
    cases e2
    exact bind_7 F
  | 8, h, d, fd, e1, e2, F => by
    have e1 : some d8 = some h := e1
    cases e1
    have e2 : some _ = some d := e2
    cases e2
    exact bind_8 F
  | 9, h, d, fd, e1, e2, F => by
    have e1 : some d9 = some h := e1
    cases e1
    have e2 : some _ = some d := e2
    cases e2
    exact bind_9 F
  | 10, h, d, fd, e1, e2, F => by
    have e1 : some d10 = some h := e1
    cases e1
    have e2 : some _ = some d := e2
    cases e2
    exact bind_10 F
  | 11, h, d, fd, e1, e2, F => by
    have e1 : some d11 = some h := e1
    cases e1
    have e2 : some _ = some d := e2
    cases e2
    exact bind_11 F
  | 12, h, d, fd, e1, e2, F => by
    have e1 : some d12 = some h := e1
    cases e1
    have e2 : some _ = some d := e2
    cases e2
    exact bind_12 F
  | 13, h, d, fd, e1, e2, F => by
    have e1 : some d13 = some h := e1
    cases e1
    have e2 : some _ = some d := e2
    cases e2
    exact bind_13 F
  | 14, h, d, fd, e1, e2, F => by
    have e1 : some d14 = some h := e1
    cases e1
    have e2 : some _ = some d := e2
    cases e2
    exact bind_14 F
  | 15, h, d, fd, e1, e2, F => by
    have e1 : some d15 = some h := e1
    cases e1
    have e2 : some _ = some d := e2
    cases e2
    exact bind_15 F
  | 16, h, d, fd, e1, e2, F => by
    have e1 : some d16 = some h := e1
    cases e1
    have e2 : some _ = some d := e2
    cases e2
    exact bind_16 F
  | 17, h, d, fd, e1, e2, F => by
    have e1 : some d17 = some h := e1
    cases e1
    have e2 : some _ = some d := e2
    cases e2
    exact bind_17 F
  | 18, h, d, fd, e1, e2, F => by
    have e1 : some d18 = some h := e1
    cases e1
    have e2 : some _ = some d := e2
    cases e2
    exact bind_18 F
  | 19, h, d, fd, e1, e2, F => by
    have e1 : some d19 = some h := e1
    cases e1
    have e2 : some _ = some d := e2
    cases e2
    exact bind_19 F
  | 20, h, d, fd, e1, e2, F => by
    have e1 : some d20 = some h := e1
    cases e1
    have e2 : some _ = some d := e2
    cases e2
    exact bind_20 F
  | 21, h, d, fd, e1, e2, F => by
    have e1 : some d21 = some h := e1
    cases e1
    have e2 : some _ = some d := e2
    cases e2
    exact bind_21 F
  | 22, h, d, fd, e1, e2, F => by
    have e1 : some d22 = some h := e1
    cases e1
    have e2 : some _ = some d := e2
    cases e2
    exact bind_22 F
  | 23, h, d, fd, e1, e2, F => by
    have e1 : some d23 = some h := e1
    cases e1
    have e2 : some _ = some d := e2
    cases e2
    exact bind_23 F
  | 24, h, d, fd, e1, e2, F => by
    have e1 : some d24 = some h := e1
    cases e1
    have e2 : some _ = some d := e2
    cases e2
    exact bind_24 F
  | 25, h, d, fd, e1, e2, F => by
    have e1 : some d25 = some h := e1
    cases e1
    have e2 : some _ = some d := e2
    cases e2
    exact bind_25 F
  | 26, h, d, fd, e1, e2, F => by
    have e1 : some d26 = some h := e1
    cases e1
    have e2 : some _ = some d := e2
    cases e2
    exact bind_26 F
  | 27, h, d, fd, e1, e2, F => by
    have e1 : some d27 = some h := e1
    cases e1
    have e2 : some _ = some d := e2
    cases e2
    exact bind_27 F
  | 28, h, d, fd, e1, e2, F => by
    have e1 : some d28 = some h := e1
    cases e1
    have e2 : some _ = some d := e2
    cases e2
    exact bind_28 F
  | 29, h, d, fd, e1, e2, F => by
    have e1 : some d29 = some h := e1
    cases e1
    have e2 : some _ = some d := e2
    cases e2
    exact bind_29 F
  | 30, h, d, fd, e1, e2, F => by
    have e1 : some d30 = some h := e1
    cases e1
    have e2 : some _ = some d := e2
    cases e2
    exact bind_30 F
  | 31, h, d, fd, e1, e2, F => by
    have e1 : some d31 = some h := e1
    cases e1
    have e2 : some _ = some d := e2
    cases e2
    exact bind_31 F
  | 32, h, d, fd, e1, e2, F => by
    have e1 : some d32 = some h := e1
    cases e1
    have e2 : some _ = some d := e2
    cases e2
    exact bind_32 F
  | 33, h, d, fd, e1, e2, F => by
    have e1 : some d33 = some h := e1
    cases e1
    have e2 : some _ = some d := e2
    cases e2
    exact bind_33 F
  | 34, h, d, fd, e1, e2, F => by
    have e1 : some d34 = some h := e1
    cases e1
    have e2 : some _ = some d := e2
    cases e2
    exact bind_34 F
  | 35, h, d, fd, e1, e2, F => by
    have e1 : some d35 = some h := e1
    cases e1
    have e2 : some _ = some d := e2
    cases e2
    exact bind_35 F
  | 36, h, d, fd, e1, e2, F => by
    have e1 : some d36 = some h := e1
    cases e1
    have e2 : some _ = some d := e2
    cases e2
    exact bind_36 F
  | 37, h, d, fd, e1, e2, F => by
    have e1 : some d37 = some h := e1
    cases e1
    have e2 : some _ = some d := e2
    cases e2
    exact bind_37 F
  | 38, h, d, fd, e1, e2, F => by
    have e1 : some d38 = some h := e1
    cases e1
    have e2 : some _ = some d := e2
    cases e2
    exact bind_38 F
  | 39, h, d, fd, e1, e2, F => by
    have e1 : some d39 = some h := e1
    cases e1
    have e2 : some _ = some d := e2
    cases e2
    exact bind_39 F
  | 40, h, d, fd, e1, e2, F => by
    have e1 : some d40 = some h := e1
    cases e1
    have e2 : some _ = some d := e2
    cases e2
    exact bind_40 F
  | 41, h, d, fd, e1, e2, F => by
    have e1 : some d41 = some h := e1
    cases e1
    have e2 : some _ = some d := e2
    cases e2
    exact bind_41 F
  | 42, h, d, fd, e1, e2, F => by
    have e1 : some d42 = some h := e1
    cases e1
    have e2 : some _ = some d := e2
    cases e2
    exact bind_42 F
  | 43, h, d, fd, e1, e2, F => by
    have e1 : some d43 = some h := e1
    cases e1
    have e2 : some _ = some d := e2
    cases e2
    exact bind_43 F
  | 44, h, d, fd, e1, e2, F => by
    have e1 : some d44 = some h := e1
    cases e1
    have e2 : some _ = some d := e2
    cases e2
    exact bind_44 F
  | 45, h, d, fd, e1, e2, F => by
    have e1 : some d45 = some h := e1
    cases e1
    have e2 : some _ = some d := e2
    cases e2
    exact bind_45 F
  | 46, h, d, fd, e1, e2, F => by
    have e1 : some d46 = some h := e1
    cases e1
    have e2 : some _ = some d := e2
    cases e2
    exact bind_46 F
  | 47, h, d, fd, e1, e2, F => by
    have e1 : some d47 = some h := e1
    cases e1
    have e2 : some _ = some d := e2
    cases e2
    exact bind_47 F
  | 48, h, d, fd, e1, e2, F => by
    have e1 : some d48 = some h := e1
    cases e1
    have e2 : some _ = some d := e2
    cases e2
    exact bind_48 F
  | 49, h, d, fd, e1, e2, F => by
    have e1 : some d49 = some h := e1
    cases e1
    have e2 : some _ = some d := e2
    cases e2
    exact bind_49 F
  | 50, h, d, fd, e1, e2, F => by
    have e1 : some d50 = some h := e1
    cases e1
    have e2 : some _ = some d := e2
    cases e2
    exact bind_50 F
  | 51, h, d, fd, e1, e2, F => by
    have e1 : some d51 = some h := e1
    cases e1
    have e2 : some _ = some d := e2
    cases e2
    exact bind_51 F
  | 52, h, d, fd, e1, e2, F => by
    have e1 : some d52 = some h := e1
    cases e1
    have e2 : some _ = some d := e2
    cases e2
    exact bind_52 F
  | 53, h, d, fd, e1, e2, F => by
    have e1 : some d53 = some h := e1
    cases e1
    have e2 : some _ = some d := e2
    cases e2
    exact bind_53 F
  | 54, h, d, fd, e1, e2, F => by
    have e1 : some d54 = some h := e1
    cases e1
    have e2 : some _ = some d := e2
    cases e2
    exact bind_54 F
  | 55, h, d, fd, e1, e2, F => by
    have e1 : some d55 = some h := e1
    cases e1
    have e2 : some _ = some d := e2
    cases e2
    exact bind_55 F
  | 56, h, d, fd, e1, e2, F => by
    have e1 : some d56 = some h := e1
    cases e1
    have e2 : some _ = some d := e2
    cases e2
    exact bind_56 F
  | 57, h, d, fd, e1, e2, F => by
    have e1 : some d57 = some h := e1
    cases e1
    have e2 : some _ = some d := e2
    cases e2
    exact bind_57 F
  | 58, h, d, fd, e1, e2, F => by
    have e1 : some d58 = some h := e1
    cases e1
    have e2 : some _ = some d := e2
    cases e2
    exact bind_58 F
  | 59, h, d, fd, e1, e2, F => by
    have e1 : some d59 = some h := e1
    cases e1
    have e2 : some _ = some d := e2
    cases e2
    exact bind_59 F
  | 60, h, d, fd, e1, e2, F => by
    have e1 : some d60 = some h := e1
    cases e1
    have e2 : some _ = some d := e2
    cases e2
    exact bind_60 F
  | 61, h, d, fd, e1, e2, F => by
    have e1 : some d61 = some h := e1
    cases e1
    have e2 : some _ = some d := e2
    cases e2
    exact bind_61 F
  | 62, h, d, fd, e1, e2, F => by
    have e1 : some d62 = some h := e1
    cases e1
    have e2 : some _ = some d := e2
    cases e2
    exact bind_62 F
  | 63, h, d, fd, e1, e2, F => by
    have e1 : some d63 = some h := e1
    cases e1
    have e2 : some _ = some d := e2
    cases e2
    exact bind_63 F
  | 64, h, d, fd, e1, e2, F => by
    have e1 : some d64 = some h := e1
    cases e1
    have e2 : some _ = some d := e2
    cases e2
    exact bind_64 F
  | 65, h, d, fd, e1, e2, F => by
    have e1 : some d65 = some h := e1
    cases e1
    have e2 : some _ = some d := e2
    cases e2
    exact bind_65 F
  | 66, h, d, fd, e1, e2, F => by
    have e1 : some d66 = some h := e1
    cases e1
    have e2 : some _ = some d := e2
    cases e2
    exact bind_66 F
  | 67, h, d, fd, e1, e2, F => by
    have e1 : some d67 = some h := e1
    cases e1
    have e2 : some _ = some d := e2
    cases e2
    exact bind_67 F
  | 68, h, d, fd, e1, e2, F => by
    have e1 : some d68 = some h := e1
    cases e1
    have e2 : some _ = some d := e2
    cases e2
    exact bind_68 F
  | 69, h, d, fd, e1, e2, F => by
    have e1 : some d69 = some h := e1
    cases e1
    have e2 : some _ = some d := e2
    cases e2
    exact bind_69 F
  | 70, h, d, fd, e1, e2, F => by
    have e1 : some d70 = some h := e1
    cases e1
    have e2 : some _ = some d := e2
    cases e2
    exact bind_70 F
  | 71, h, d, fd, e1, e2, F => by
    have e1 : some d71 = some h := e1
    cases e1
    have e2 : some _ = some d := e2
    cases e2
    exact bind_71 F
  | 72, h, d, fd, e1, e2, F => by
    have e1 : some d72 = some h := e1
    cases e1
    have e2 : some _ = some d := e2
    cases e2
    exact bind_72 F
  | 73, h, d, fd, e1, e2, F => by
    have e1 : some d73 = some h := e1
    cases e1
    have e2 : some _ = some d := e2
    cases e2
    exact bind_73 F
  | 74, h, d, fd, e1, e2, F => by
    have e1 : some d74 = some h := e1
    cases e1
    have e2 : some _ = some d := e2
    cases e2
    exact bind_74 F
  | 75, h, d, fd, e1, e2, F => by
    have e1 : some d75 = some h := e1
    cases e1
    have e2 : some _ = some d := e2
    cases e2
    exact bind_75 F
  | 76, h, d, fd, e1, e2, F => by
    have e1 : some d76 = some h := e1
    cases e1
    have e2 : some _ = some d := e2
    cases e2
    exact bind_76 F
  | n + 77, h, d, fd, e1, e2, F => by
    have e1 : (none : Option He.DefD) = some h := e1
    cases e1
def depth : Nat := 30
theorem done (good : ∀ ns : List Int, ns.length ≤ 63 → (∀ z ∈ ns, Builtin.Int.intBits z ≤ 1048576) → ∃ st, Mi.phi P10.T (fun _ => none) prg.sub depth 76 [.lst .gv (ns.map .int)] prg.st0 = .ok (.bl true) st) : PySem.Challenge.rw_beamroll_k10_refused.Holds := by
  open PySem PySem.W PySem.Calls PyProof.Rows in
  w_on; o_law
  refine HandSHeadRun.head_any (r := OpenLaw.row PySem.Challenge.rw_beamroll_k10_refused) (q := view (OpenLaw.row PySem.Challenge.rw_beamroll_k10_refused).prog [110]) (H := hk) (ob := ob) (M := 20000) (loose := loose) (d := HandSHeadRun.topDef (OpenLaw.row PySem.Challenge.rw_beamroll_k10_refused).prog 110) (kwd := []) ob_eq
    (by kernel_rfl) (fun s => by kernel_rfl) run (by kernel_rfl) (by kernel_rfl) (by kernel_rfl) (by rfl) (by first | assumption | decide +kernel) (by decide +kernel) ⟨rfl, rfl, rfl, rfl, rfl, by decide +kernel⟩ ?hw ?hc
  case hw => w_witness2
  case hc =>
    refine LamX.walk_ofTsE (l := PySem.Challenge.rw_beamroll_k10_refused) (n := 63) (k := 2 * depth) (CX := fun w => L2N.CX (PySem.Challenge.rw_beamroll_k10_refused).prog w) (x := "_law_script") rfl (by decide) (by kernel_rfl) ⟨rfl, by decide, by decide⟩ ?F ?X
    case X =>
      intro w H s e s' hc
      obtain ⟨_, _, _, _, _, _, _, _, _, _, _, _, z⟩ := hc
      exact z
    case F =>
    intro w mg fa' h Y G hmg0
    obtain ⟨K, KX, cm, ct⟩ := Y
    have c := cm.base
    have hmg : mg ("law" : PySem.Str) = some (.ref fa') := by
      have e : (HandSHeadRun.topDef (OpenLaw.row PySem.Challenge.rw_beamroll_k10_refused).prog 110).name = ("law" : PySem.Str) := by kernel_rfl
      rw [← e]
      exact hmg0
    have e := hmg.symm.trans (He.glo_ok KX G (Mi.hasGlo_ok (x := "law") c (by decide +kernel)))
    cases e
    obtain ⟨fd, F⟩ := c.def_ 76 (d := d76) rfl
    have b := FunD.bindsA (ps := ["_law_script"]) F fun _ _ _ _ _ _ us hl => match us, hl with | [_], _ => rfl
    exact ⟨K, KX, Mi.law_at (p := prg) (depth := depth) (i := 76) (d := P10.f_l_law) (h' := d76) cm ct KX G zip_ok facts_ok bind rfl rfl rfl (by decide +kernel) rfl rfl rfl F (fun s v => b s [v] rfl) good⟩
end Hd


set_option maxRecDepth 100000 in
set_option maxHeartbeats 0 in
theorem PySem.Challenge.cw_beamroll_k10_refused_holds : PySem.Challenge.rw_beamroll_k10_refused.Holds := by
  exact Hd.done fun ns hl hb => K10.good hl hb
