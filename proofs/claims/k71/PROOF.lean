import PyProof.Rows.All
import Wide.All
import OpenK.AllK
import Wide.FinOn
import HandS.ForMost
import HandS.IsInst
import HandS.SortInts
import HandS.SortRule
import HandS.Deep
import HandS.Conv
import HandS.NoneIn
import HandS.TupAny
import HandS.Rev
import HandS.Walk
import HandS.Zip
import KE.GoesMore
import HandS.Style
import HandS.AnyAll
import HandS.GenOver
import HandS.GenList
import HandS.TupMul
import HandS.TupLen
import PyProof.SumWalkG
import PyProof.WalksMore
import HandS.Strs
import HandS.Small
import HandS.EndOwn
import PySem.Challenge.RW_puzzleshop_k71_whole_game_of_euclid
set_option Elab.async false
set_option linter.all false
set_option maxRecDepth 100000
set_option maxHeartbeats 4000000
/-! Data, and a reading of Python's expressions and statements over data. -/
namespace Vi
open PySem L2

/-- data: a value with all that it leads to -/
inductive D where
  | non | bl (b : Bool) | int (i : Int) | str (s : Str)
  | tup (xs : List D) | lst (xs : List D)
  | dct (ks vs : List D)
  | scr (ns : List Int)
  deriving Inhabited

mutual
/-- nothing in it can be changed -/
def D.pure : D → Bool
  | .non => true
  | .bl _ => true
  | .int _ => true
  | .str _ => true
  | .tup xs => D.pures xs
  | .lst _ => false
  | .dct _ _ => false
  | .scr _ => false
def D.pures : List D → Bool
  | [] => true
  | x :: xs => x.pure && D.pures xs
end

mutual
/-- == on data -/
def eqD : D → D → Bool
  | .non, .non => true
  | .bl a, .bl b => a == b
  | .bl a, .int j => (if a then 1 else 0) == j
  | .int i, .bl b => i == (if b then 1 else 0)
  | .int i, .int j => i == j
  | .str x, .str y => x == y
  | .lst xs, .lst ys => eqDs xs ys
  | .tup xs, .tup ys => eqDs xs ys
  | _, _ => false
def eqDs : List D → List D → Bool
  | [], [] => true
  | x :: xs, y :: ys => eqD x y && eqDs xs ys
  | _, _ => false
end

mutual
/-- data that == may be asked of: no dicts, texts of real signs, n deep at most -/
def shp : Nat → D → Bool
  | _, .non => true
  | _, .bl _ => true
  | _, .int _ => true
  | _, .str s => PyData.strOk s
  | n + 1, .tup xs => shps n xs
  | n + 1, .lst xs => shps n xs
  | _, _ => false
def shps : Nat → List D → Bool
  | _, [] => true
  | n, x :: xs => shp n x && shps n xs
end

def sz : Nat := 16777216

/-! ### expressions -/
inductive BinO | add | sub | mul | fdiv | mod | pow
  deriving DecidableEq
inductive CmpO | lt | le | gt | ge | eq | ne | is | isnot | inn | notin
  deriving DecidableEq
/-- built-in functions called by name -/
inductive Bi | len | abs | int | min | max | sum | sorted | tuple | list | any | all
  deriving DecidableEq
inductive Ty | int | bool | str | tuple | list
  deriving DecidableEq
/-- methods that change nothing -/
inductive Mt | index | tindex | get
  deriving DecidableEq
/-- methods that change a list -/
inductive Mu | append | extend | pop | popAt
  deriving DecidableEq
inductive Tg | nm (i : Nat) | tup (ts : List Tg)

inductive E
  | lit (d : D)
  | var (i : Nat)
  | mov (i : Nat)
  | own (e : E)
  | chk (e : E)
  | glb (g : Nat)
  | bin (o : BinO) (a b : E)
  | neg (a : E)
  | cmp (o : CmpO) (a b : E)
  | cmp2 (o p : CmpO) (a b c : E)
  | band (a b : E)
  | bor (a b : E)
  | bnot (a : E)
  | ite (c a b : E)
  | tup (es : List E)
  | lst (es : List E)
  | dct0
  | idx (a i : E)
  | slc (a : E) (lo hi : Option E)
  | rev (a : E)
  | fn (b : Bi) (es : List E)
  | isi (e : E) (t : Ty)
  | mth (m : Mt) (o : E) (es : List E)
  | mut (m : Mu) (i : Nat) (es : List E)
  | call (f : Nat) (es : List E) (bk : List (Option Nat))
  | lc (elt : E) (x : Tg) (it : E) (c : Option E)
  | ge (isAny : Bool) (elt : E) (x : Tg) (it : E) (c : Option E)
  | lof (b : Bi) (it : E)
  -- what is walked
  | ichk (it : E)
  | irng1 (a : E) | irng2 (a b : E) | irng3 (a b c : E) | ienum (e : E) | izip (a b : E) | irev (e : E)

inductive S
  | set (t : Tg) (e : E)
  | par (i j : Nat) (a b : E)
  | aug (i : Nat) (o : BinO) (e : E)
  | put (i : Nat) (k e : E)
  | augput (i : Nat) (k : E) (o : BinO) (e : E)
  | ex (e : E)
  | ret (e : E)
  | ret0
  | iff (c : E) (t f : List S)
  | whl (c : E) (b : List S)
  | for_ (x : Tg) (it : E) (b : List S)
  | brk | cnt | pas | doc

/-! ### operators on data -/
def b2i (b : Bool) : Int := if b then 1 else 0
def catLen {α : Type} (xs ys : List α) : Bool := decide (xs.length + ys.length ≤ sz)

def mulOk (i j : Int) : Bool := decide (i.natAbs < 18446744073709551616) || decide (j.natAbs < 18446744073709551616)
def rep (n : Int) (xs : List D) : List D := (List.replicate n.toNat xs).flatten
def repOk (n : Int) (xs : List D) : Bool := decide (n.natAbs ≤ sz) && decide (xs.length * n.toNat ≤ sz)

def opD : BinO → D → D → Option D
  | .add, .int i, .int j => some (.int (i + j))
  | .add, .str a, .str b => if a.length + b.length ≤ sz then some (.str (a ++ b)) else none
  | .add, .lst a, .lst b => if catLen a b then some (.lst (a ++ b)) else none
  | .add, .tup a, .tup b => if catLen a b then some (.tup (a ++ b)) else none
  | .sub, .int i, .int j => some (.int (i - j))
  | .mul, .int i, .int j => if mulOk i j then some (.int (i * j)) else none
  | .mul, .lst a, .int n => if repOk n a then some (.lst (rep n a)) else none
  | .mul, .tup a, .int n => if decide (-1000 ≤ n) && decide (n ≤ 1000) && decide (a.length ≤ 1000) then some (.tup (rep n a)) else none
  | .fdiv, .int i, .int j => if j ≠ 0 ∧ j.natAbs < 1073741824 then some (.int (i.fdiv j)) else if j ≠ 0 ∧ j.natAbs < 18446744073709551616 then some (.int (i.fdiv j)) else none
  | .mod, .int i, .int j => if j ≠ 0 then some (.int (i.fmod j)) else none
  | .pow, .int i, .int j => if 0 ≤ j ∧ j ≤ 1000000 ∧ i.natAbs < 18446744073709551616 then some (.int (i ^ j.toNat)) else none
  | _, _, _ => none

/-- op= -/
def augD : BinO → D → D → Option D
  | .add, .int i, .int j => some (.int (i + j))
  | .sub, .int i, .int j => some (.int (i - j))
  | .add, .str a, .str b => if a.length + b.length ≤ sz then some (.str (a ++ b)) else none
  | _, _, _ => none
def isNon : D → Bool
  | .non => true
  | _ => false

def tupInts : List D → Option (List Int)
  | [] => some []
  | .int i :: r => (tupInts r).map (i :: ·)
  | _ :: _ => none
def lexLt : List Int → List Int → Bool
  | [], [] => false
  | [], _ :: _ => true
  | _ :: _, [] => false
  | x :: xs, y :: ys => if x = y then lexLt xs ys else decide (x < y)

/-- a key of a dict -/
def keyD : D → Option Key
  | .int i => some (.inl i)
  | .str s => some (.inr s)
  | _ => none
def keysD : List D → Option (List Key)
  | [] => some []
  | d :: r => (keyD d).bind fun k => (keysD r).map (k :: ·)
/-- may it be a key -/
def isKey : D → Bool
  | .int _ => true
  | .str _ => true
  | .tup xs => xs.all fun x => match x with | .int _ => true | .str _ => true | _ => false
  | _ => false
/-- the value of a key -/
def findK (k : D) : List D → List D → Option D
  | x :: xs, v :: vs => if eqD x k then some v else findK k xs vs
  | _, _ => none
def putV (k v : D) : List D → List D → List D
  | x :: xs, w :: ws => (if eqD x k then v else w) :: putV k v xs ws
  | _, _ => []
def putD (k v : D) (ks vs : List D) : D :=
  if (findK k ks vs).isSome then .dct ks (putV k v ks vs) else .dct (ks ++ [k]) (vs ++ [v])
/-- keys of one kind: ints and texts, or tuples -/
def sameKind : D → D → Bool
  | .tup _, .tup _ => true
  | .tup _, _ => false
  | _, .tup _ => false
  | _, _ => true
def keyFor (k : D) (ks : List D) : Bool := isKey k && ks.all (sameKind k)

def memD (x : D) (ys : List D) : Bool := ys.any fun y => eqD y x
def cmpD : CmpO → D → D → Option D
  | .lt, .int i, .int j => some (.bl (decide (i < j)))
  | .le, .int i, .int j => some (.bl (decide (i ≤ j)))
  | .gt, .int i, .int j => some (.bl (decide (j < i)))
  | .ge, .int i, .int j => some (.bl (decide (j ≤ i)))
  | .lt, .tup xs, .tup ys => (tupInts xs).bind fun a => (tupInts ys).map fun b => .bl (lexLt a b)
  | .eq, .int i, .int j => some (.bl (i == j))
  | .ne, .int i, .int j => some (.bl (!(i == j)))
  | .eq, x, y => if shp 64 x && shp 64 y then some (.bl (eqD x y)) else none
  | .ne, x, y => if shp 64 x && shp 64 y then some (.bl (!eqD x y)) else none
  | .is, x, .non => some (.bl (isNon x))
  | .isnot, x, .non => some (.bl (!isNon x))
  | .inn, x, .lst ys => if shp 63 x && shps 63 ys then some (.bl (memD x ys)) else none
  | .notin, x, .lst ys => if shp 63 x && shps 63 ys then some (.bl (!memD x ys)) else none
  | .inn, x, .tup ys => if shp 63 x && shps 63 ys then some (.bl (memD x ys)) else none
  | .notin, x, .tup ys => if shp 63 x && shps 63 ys then some (.bl (!memD x ys)) else none
  | .inn, x, .dct ks vs => if keyFor x ks then some (.bl (findK x ks vs).isSome) else none
  | .notin, x, .dct ks vs => if keyFor x ks then some (.bl (!(findK x ks vs).isSome)) else none
  | _, _, _ => none

/-- truth -/
def truD : D → Option Bool
  | .non => some false
  | .bl b => some b
  | .int i => some (i != 0)
  | .lst xs => some (!xs.isEmpty)
  | .tup xs => some (!xs.isEmpty)
  | _ => none

/-- the place of an index -/
def ixn (n : Nat) (i : Int) : Option Nat := if 0 ≤ i then (if i < n then some i.toNat else none) else if -(n : Int) ≤ i then some (i + n).toNat else none
def idxD : D → D → Option D
  | .lst xs, .int i => (ixn xs.length i).bind fun j => xs[j]?
  | .tup xs, .int i => (ixn xs.length i).bind fun j => xs[j]?
  | .scr ns, .int i => (ixn ns.length i).bind fun j => (ns[j]?).map D.int
  | .dct ks vs, k => if keyFor k ks then findK k ks vs else none
  | _, _ => none
/-- the place of a slice's end -/
def six (n d : Nat) : Option Int → Nat
  | none => d
  | some i => if i < 0 then (i + n).toNat else min i.toNat n
def cut {α : Type} (xs : List α) (lo hi : Option Int) : List α :=
  (xs.drop (six xs.length 0 lo)).take (six xs.length xs.length hi - six xs.length 0 lo)
def slcD : D → Option Int → Option Int → Option D
  | .lst xs, lo, hi => some (.lst (cut xs lo hi))
  | .tup xs, lo, hi => some (.tup (cut xs lo hi))
  | _, _, _ => none
def revD : D → Option D
  | .lst xs => some (.lst xs.reverse)
  | .tup xs => some (.tup xs.reverse)
  | _ => none

/-- ascending ints -/
def insI (x : Int) : List Int → List Int
  | [] => [x]
  | y :: r => if x ≤ y then x :: y :: r else y :: insI x r
def sortI : List Int → List Int
  | [] => []
  | x :: r => insI x (sortI r)
/-- ascending pairs -/
def pairLe (a b : Int × Int) : Bool := if a.1 = b.1 then decide (a.2 ≤ b.2) else decide (a.1 < b.1)
def insP (x : Int × Int) : List (Int × Int) → List (Int × Int)
  | [] => [x]
  | y :: r => if pairLe x y then x :: y :: r else y :: insP x r
def sortP : List (Int × Int) → List (Int × Int)
  | [] => []
  | x :: r => insP x (sortP r)
def pairsD : List D → Option (List (Int × Int))
  | [] => some []
  | .tup [.int a, .int b] :: r => (pairsD r).map ((a, b) :: ·)
  | _ :: _ => none
def boolsD : List D → Option (List Bool)
  | [] => some []
  | .bl a :: r => (boolsD r).map (a :: ·)
  | _ :: _ => none
def maxI : Int → List Int → Int
  | m, [] => m
  | m, x :: r => maxI (if x > m then x else m) r
def minI : Int → List Int → Int
  | m, [] => m
  | m, x :: r => minI (if x < m then x else m) r
def minL : List Int → Option D
  | [] => none
  | n :: r => some (.int (minI n r))
def maxL : List Int → Option D
  | [] => none
  | n :: r => some (.int (maxI n r))
/-- the items of a list or tuple -/
def items : D → Option (List D)
  | .lst xs => some xs
  | .tup xs => some xs
  | _ => none
def sortD (xs : List D) : Option D :=
  match tupInts xs with
  | some ns => some (.lst ((sortI ns).map D.int))
  | none => (pairsD xs).map fun ps => .lst ((sortP ps).map fun p => .tup [.int p.1, .int p.2])
def fnD : Bi → List D → Option D
  | .len, [.lst xs] => some (.int xs.length)
  | .len, [.tup xs] => some (.int xs.length)
  | .len, [.scr ns] => some (.int ns.length)
  | .len, [.dct ks _] => some (.int ks.length)
  | .abs, [.int i] => some (.int (if i < 0 then -i else i))
  | .int, [.int i] => some (.int i)
  | .min, [.int i, .int j] => some (.int (if j < i then j else i))
  | .max, [.int i, .int j] => some (.int (if j > i then j else i))
  | .min, [.lst xs] => (tupInts xs).bind minL
  | .max, [.lst xs] => (tupInts xs).bind maxL
  | .sum, [x] => (items x).bind fun xs => (tupInts xs).map fun ns => .int ns.sum
  | .sorted, [.lst xs] => sortD xs
  | .sorted, [.tup xs] => (tupInts xs).map fun ns => .lst ((sortI ns).map D.int)
  | .tuple, [.lst xs] => some (.tup xs)
  | .tuple, [.tup xs] => some (.tup xs)
  | .list, [.lst xs] => some (.lst xs)
  | .list, [.tup xs] => some (.lst xs)
  | .any, [.lst xs] => (boolsD xs).map fun bs => .bl (bs.any id)
  | .all, [.lst xs] => (boolsD xs).map fun bs => .bl (bs.all id)
  | _, _ => none
def isiD : D → Ty → Option Bool
  | .non, _ => some false
  | .bl _, t => some (t == .int || t == .bool)
  | .int _, t => some (t == .int)
  | .str _, t => some (t == .str)
  | .tup _, t => some (t == .tuple)
  | .lst _, t => some (t == .list)
  | .dct _ _, _ => some false
  | .scr _, _ => none
def findIx (x : D) : Nat → List D → Option Nat
  | _, [] => none
  | n, y :: r => if eqD y x then some n else findIx x (n + 1) r
def ixI (x : Int) : Nat → List Int → Option Nat
  | _, [] => none
  | n, y :: r => if y = x then some n else ixI x (n + 1) r
def mthD : Mt → D → List D → Option D
  | .index, .lst xs, [x] => if shp 63 x && shps 63 xs then (findIx x 0 xs).map fun j => .int (j : Nat) else none
  | .tindex, .tup xs, [.int i] => (tupInts xs).bind fun ns => (ixI i 0 ns).map fun j => .int (j : Nat)
  | .get, .dct ks vs, [k, d] => if keyFor k ks then some ((findK k ks vs).getD d) else none
  | _, _, _ => none
/-- what a method makes of its list: the value, the list behind it -/
def mutD : Mu → D → List D → Option (D × D)
  | .append, .lst xs, [x] => if xs.length < sz then some (.non, .lst (xs ++ [x])) else none
  | .extend, .lst xs, [.lst ys] => if catLen xs ys then some (.non, .lst (xs ++ ys)) else none
  | .pop, .lst xs, [] => (xs[xs.length - 1]?).bind fun x => if x.pure then some (x, .lst (xs.eraseIdx (xs.length - 1))) else none
  | .popAt, .lst xs, [.int i] => if xs.length ≤ sz then (ixn xs.length i).bind fun j => (xs[j]?).bind fun x => if x.pure then some (x, .lst (xs.eraseIdx j)) else none else none
  | _, _, _ => none
def putAt : D → D → D → Option D
  | .lst xs, .int i, v => (ixn xs.length i).map fun j => .lst (xs.set j v)
  | .dct ks vs, k, v => if keyFor k ks && decide (ks.length < sz) && v.pure && D.pures vs then some (putD k v ks vs) else none
  | _, _, _ => none
def isL : D → Option Unit
  | .lst _ => some ()
  | _ => none

def rngUp (lo : Int) (n : Nat) : List D := (List.range n).map fun (i : Nat) => D.int (lo + i)
def rngStep (lo c : Int) (n : Nat) : List D := (List.range n).map fun (i : Nat) => D.int (lo + i * c)
def rngLen (lo hi c : Int) : Nat := (PySem.Builtin.Range.rangeSize lo hi c).toNat
def small (i : Int) : Bool := decide (i.natAbs < 1073741824)

abbrev Env := List (Option D)
def getS (ρ : Env) (i : Nat) : Option D := (ρ[i]?).join
/-- what a def yields: its value, its slots at the end -/
abbrev Fns := Nat → List D → Option (D × Env)

inductive Out
  | nx (ρ : Env) | rt (d : D) (ρ : Env) | bk (ρ : Env) | ct (ρ : Env)

mutual
def bindT : Tg → D → Env → Option Env
  | .nm i, d, ρ => some (ρ.set i (some d))
  | .tup ts, .tup ds, ρ => bindTs ts ds ρ
  | .tup ts, .lst ds, ρ => bindTs ts ds ρ
  | _, _, _ => none
def bindTs : List Tg → List D → Env → Option Env
  | [], [], ρ => some ρ
  | t :: ts, d :: ds, ρ => (bindT t d ρ).bind fun ρ' => bindTs ts ds ρ'
  | _, _, _ => none
end
/- the slots that a target stores -/
mutual
def slotsT : Tg → List Nat
  | .nm i => [i]
  | .tup ts => slotsTs ts
def slotsTs : List Tg → List Nat
  | [] => []
  | t :: ts => slotsT t ++ slotsTs ts
end

def enumD : Nat → List D → List D
  | _, [] => []
  | n, x :: r => .tup [.int (n : Nat), x] :: enumD (n + 1) r
def itemsL : D → Option (List D)
  | .lst xs => some xs
  | _ => none
def items2 : D → D → Option (List D × List D)
  | .lst xs, .lst ys => some (xs, ys)
  | .tup xs, .tup ys => some (xs, ys)
  | _, _ => none
def zipD : List D → List D → List D
  | x :: r, y :: s => .tup [x, y] :: zipD r s
  | _, _ => []

/-- the slots that a call gives back -/
def backs : List (Option Nat) → Env → Env → Option Env
  | [], _, ρ => some ρ
  | none :: r, o, ρ => backs r o.tail ρ
  | some i :: r, some d :: o, ρ => backs r o (ρ.set i (some d))
  | _, _, _ => none
/-- a comprehension's own slots are forgotten -/
def wipeE (ρ : Env) : List Nat → Env
  | [] => ρ
  | v :: vs => (wipeE ρ vs).set v none
/-- .. and stand again behind it -/
def restE (ρ1 ρ2 : Env) : List Nat → Env
  | [] => ρ2
  | v :: vs => (restE ρ1 ρ2 vs).set v (getS ρ1 v)
/-- a list comprehension over its items -/
def lcL (f : D → Env → Option (Option D × Env)) : List D → Env → List D → Option (List D × Env)
  | [], ρ, acc => some (acc, ρ)
  | x :: r, ρ, acc => (f x ρ).bind fun (o, ρ') => match o with
    | none => lcL f r ρ' acc
    | some d => if acc.length < sz then lcL f r ρ' (acc ++ [d]) else none
def geL (isAny : Bool) (f : D → Env → Option (Option Bool × Env)) : List D → Env → Option (Bool × Env)
  | [], ρ => some (!isAny, ρ)
  | x :: r, ρ => (f x ρ).bind fun (o, ρ') => match o with
    | none => geL isAny f r ρ'
    | some b => if b == isAny then some (isAny, ρ') else geL isAny f r ρ'

/-- a reading of an expression: as a value, as a test, as what is walked -/
structure R3 where
  v : Env → Option (D × Env)
  t : Env → Option (Bool × Env)
  i : Env → Option (List D × Env)
def tOf (v : Env → Option (D × Env)) : Env → Option (Bool × Env) := fun ρ => (v ρ).bind fun (d, ρ1) => (truD d).map fun b => (b, ρ1)
def walkedD : D → Option (List D)
  | .lst xs => some xs
  | .tup xs => some xs
  | _ => none
def iOf (v : Env → Option (D × Env)) : Env → Option (List D × Env) := fun ρ => (v ρ).bind fun (x, ρ1) => (walkedD x).map fun xs => (xs, ρ1)
def ofV (v : Env → Option (D × Env)) : R3 := ⟨v, tOf v, iOf v⟩
def ofI (i : Env → Option (List D × Env)) : R3 := ⟨fun _ => none, fun _ => none, i⟩
def isB : D → Option Bool
  | .bl b => some b
  | _ => none
def isI : D → Option Int
  | .int i => some i
  | _ => none
def ownD (d : D) : Option D := match d with
  | .lst xs => if D.pures xs then some (.lst xs) else none
  | d => if d.pure then some d else none
def rng1D (x : D) : Option (List D) := (isI x).bind fun n => if small n then some (rngUp 0 n.toNat) else none
def rng2D (x y : D) : Option (List D) := (isI x).bind fun i => (isI y).bind fun j => if small i && small j then some (rngUp i (j - i).toNat) else none
def rng3D (x y z : D) : Option (List D) := (isI x).bind fun i => (isI y).bind fun j => (isI z).bind fun k =>
  if k != 0 && small k && PySem.Builtin.Range.small i j k && decide (PySem.Builtin.Range.rangeSize i j k = rngLen i j k) then some (rngStep i k (rngLen i j k)) else none
def lofD : Bi → List D → Option D
  | .list, xs => if xs.length ≤ sz then some (.lst xs) else none
  | .tuple, xs => if xs.length ≤ sz then some (.tup xs) else none
  | _, _ => none
section
variable (cf : Fns) (gl : Nat → Option D)
mutual
def ev : E → R3
  | .lit d => ofV fun ρ => some (d, ρ)
  | .var i => ofV fun ρ => (getS ρ i).map fun d => (d, ρ)
  | .mov i => ofV fun ρ => (getS ρ i).map fun d => (d, ρ.set i none)
  | .own e => ofV fun ρ => ((ev e).v ρ).bind fun (d, ρ1) => (ownD d).map fun d => (d, ρ1)
  | .chk e => ofV fun ρ => ((ev e).v ρ).bind fun (d, ρ1) => if d.pure then some (d, ρ1) else none
  | .glb g => ofV fun ρ => (gl g).map fun d => (d, ρ)
  | .bin o a b => ofV fun ρ => ((ev a).v ρ).bind fun (x, ρ1) => ((ev b).v ρ1).bind fun (y, ρ2) => (opD o x y).map fun d => (d, ρ2)
  | .neg a => ofV fun ρ => ((ev a).v ρ).bind fun (x, ρ1) => (isI x).map fun i => (.int (-i), ρ1)
  | .cmp o a b => ofV fun ρ => ((ev a).v ρ).bind fun (x, ρ1) => ((ev b).v ρ1).bind fun (y, ρ2) => (cmpD o x y).map fun d => (d, ρ2)
  | .cmp2 o p a b c => ofV fun ρ => ((ev a).v ρ).bind fun (x, ρ1) => ((ev b).v ρ1).bind fun (y, ρ2) => ((cmpD o x y).bind isB).bind fun t =>
      if t then ((ev c).v ρ2).bind fun (z, ρ3) => (cmpD p y z).map fun d => (d, ρ3) else some (.bl false, ρ2)
  | .band a b => { ofV fun ρ => ((ev a).v ρ).bind fun (x, ρ1) => (isB x).bind fun t => if t then (ev b).v ρ1 else some (.bl false, ρ1) with
      t := fun ρ => ((ev a).t ρ).bind fun (x, ρ1) => if x then (ev b).t ρ1 else some (false, ρ1) }
  | .bor a b => { ofV fun ρ => ((ev a).v ρ).bind fun (x, ρ1) => (isB x).bind fun t => if t then some (.bl true, ρ1) else (ev b).v ρ1 with
      t := fun ρ => ((ev a).t ρ).bind fun (x, ρ1) => if x then some (true, ρ1) else (ev b).t ρ1 }
  | .bnot a => { ofV fun ρ => ((ev a).v ρ).bind fun (x, ρ1) => (truD x).map fun b => (.bl (!b), ρ1) with
      t := fun ρ => ((ev a).t ρ).map fun (b, ρ1) => (!b, ρ1) }
  | .ite c a b => ofV fun ρ => ((ev c).t ρ).bind fun (t, ρ1) => if t then (ev a).v ρ1 else (ev b).v ρ1
  | .tup es => ofV fun ρ => (evs es ρ).map fun (ds, ρ1) => (.tup ds, ρ1)
  | .lst es => ofV fun ρ => (evs es ρ).map fun (ds, ρ1) => (.lst ds, ρ1)
  | .dct0 => ofV fun ρ => some (.dct [] [], ρ)
  | .idx a i => ofV fun ρ => ((ev a).v ρ).bind fun (x, ρ1) => ((ev i).v ρ1).bind fun (y, ρ2) => (idxD x y).map fun d => (d, ρ2)
  | .slc a lo hi => ofV fun ρ => ((ev a).v ρ).bind fun (x, ρ1) => (evo lo ρ1).bind fun (l, ρ2) => (evo hi ρ2).bind fun (h, ρ3) => (slcD x l h).map fun d => (d, ρ3)
  | .rev a => ofV fun ρ => ((ev a).v ρ).bind fun (x, ρ1) => (revD x).map fun d => (d, ρ1)
  | .fn b es => ofV fun ρ => (evs es ρ).bind fun (ds, ρ1) => (fnD b ds).map fun d => (d, ρ1)
  | .isi e t => ofV fun ρ => ((ev e).v ρ).bind fun (x, ρ1) => (isiD x t).map fun b => (.bl b, ρ1)
  | .mth m o es => ofV fun ρ => ((ev o).v ρ).bind fun (x, ρ1) => (evs es ρ1).bind fun (ds, ρ2) => (mthD m x ds).map fun d => (d, ρ2)
  | .mut m i es => ofV fun ρ => ((getS ρ i).bind isL).bind fun _ => (evs es ρ).bind fun (ds, ρ2) => (getS ρ2 i).bind fun d => (mutD m d ds).map fun (r, d') => (r, ρ2.set i (some d'))
  | .call f es bk => ofV fun ρ => (evs es ρ).bind fun (ds, ρ1) => (cf f ds).bind fun (d, o) => (backs bk o ρ1).map fun ρ2 => (d, ρ2)
  | .lc elt x it c => ofV fun ρ => ((ev it).i ρ).bind fun (xs, ρ1) =>
      (lcL (fun d ρ => (bindT x d (wipeE ρ (slotsT x))).bind fun ρ1 => (evc c ρ1).bind fun (b, ρ2) => if b then ((ev elt).v ρ2).map fun (y, ρ3) => (some y, ρ3) else some (none, ρ2)) xs ρ1 []).map fun (ys, ρ2) => (.lst ys, restE ρ1 ρ2 (slotsT x))
  | .ge k elt x it c => ofV fun ρ => ((ev it).i ρ).bind fun (xs, ρ1) =>
      (geL k (fun d ρ => (bindT x d (wipeE ρ (slotsT x))).bind fun ρ1 => (evc c ρ1).bind fun (b, ρ2) => if b then ((ev elt).v ρ2).bind fun (y, ρ3) => (isB y).map fun y => (some y, ρ3) else some (none, ρ2)) xs ρ1).map fun (b, ρ2) => (.bl b, restE ρ1 ρ2 (slotsT x))
  | .lof b it => ofV fun ρ => ((ev it).i ρ).bind fun (xs, ρ1) => (lofD b xs).map fun d => (d, ρ1)
  | .ichk e => ofI fun ρ => ((ev e).i ρ).bind fun (xs, ρ1) => if D.pures xs then some (xs, ρ1) else none
  | .irng1 a => ofI fun ρ => ((ev a).v ρ).bind fun (x, ρ1) => (rng1D x).map fun xs => (xs, ρ1)
  | .irng2 a b => ofI fun ρ => ((ev a).v ρ).bind fun (x, ρ1) => ((ev b).v ρ1).bind fun (y, ρ2) => (rng2D x y).map fun xs => (xs, ρ2)
  | .irng3 a b c => ofI fun ρ => ((ev a).v ρ).bind fun (x, ρ1) => ((ev b).v ρ1).bind fun (y, ρ2) => ((ev c).v ρ2).bind fun (z, ρ3) => (rng3D x y z).map fun xs => (xs, ρ3)
  | .ienum e => ofI fun ρ => ((ev e).v ρ).bind fun (x, ρ1) => (items x).map fun xs => (enumD 0 xs, ρ1)
  | .izip a b => ofI fun ρ => ((ev a).v ρ).bind fun (x, ρ1) => ((ev b).v ρ1).bind fun (y, ρ2) => (items2 x y).map fun (xs, ys) => (zipD xs ys, ρ2)
  | .irev e => ofI fun ρ => ((ev e).v ρ).bind fun (x, ρ1) => (items x).map fun xs => (xs.reverse, ρ1)
def evc : Option E → Env → Option (Bool × Env)
  | none, ρ => some (true, ρ)
  | some c, ρ => (ev c).t ρ
def evo : Option E → Env → Option (Option Int × Env)
  | none, ρ => some (none, ρ)
  | some e, ρ => ((ev e).v ρ).bind fun (d, ρ1) => (isI d).map fun i => (some i, ρ1)
def evs : List E → Env → Option (List D × Env)
  | [], ρ => some ([], ρ)
  | e :: es, ρ => ((ev e).v ρ).bind fun (d, ρ1) => (evs es ρ1).map fun (ds, ρ2) => (d :: ds, ρ2)
end
abbrev evalE (e : E) : Env → Option (D × Env) := (ev cf gl e).v
abbrev evalT (e : E) : Env → Option (Bool × Env) := (ev cf gl e).t
abbrev evalI (e : E) : Env → Option (List D × Env) := (ev cf gl e).i
abbrev evalEs : List E → Env → Option (List D × Env) := evs cf gl
end

/-- a while: at most w turns -/
def whlL (c : Env → Option (Bool × Env)) (b : Env → Option Out) : Nat → Env → Option Out
  | 0, _ => none
  | n + 1, ρ => (c ρ).bind fun (t, ρ1) => if t then (b ρ1).bind fun o => match o with
      | .nx ρ2 => whlL c b n ρ2
      | .ct ρ2 => whlL c b n ρ2
      | .bk ρ2 => some (.nx ρ2)
      | .rt d ρ2 => some (.rt d ρ2)
    else some (.nx ρ1)
def forL (b : D → Env → Option Out) : List D → Env → Option Out
  | [], ρ => some (.nx ρ)
  | x :: r, ρ => (b x ρ).bind fun o => match o with
      | .nx ρ2 => forL b r ρ2
      | .ct ρ2 => forL b r ρ2
      | .bk ρ2 => some (.nx ρ2)
      | .rt d ρ2 => some (.rt d ρ2)

section
variable (cf : Fns) (gl : Nat → Option D) (w : Nat)
mutual
def execS : S → Env → Option Out
  | .set t e, ρ => (evalE cf gl e ρ).bind fun (d, ρ1) => (bindT t d ρ1).map .nx
  | .par i j a b, ρ => (evalE cf gl a ρ).bind fun (x, ρ1) => (evalE cf gl b ρ1).map fun (y, ρ2) => .nx ((ρ2.set i (some x)).set j (some y))
  | .aug i o e, ρ => (getS ρ i).bind fun x => (evalE cf gl e ρ).bind fun (y, ρ1) => (augD o x y).map fun d => .nx (ρ1.set i (some d))
  | .put i k e, ρ => (evalE cf gl e ρ).bind fun (v, ρ1) => (getS ρ1 i).bind fun _ => (evalE cf gl k ρ1).bind fun (kd, ρ2) => (getS ρ2 i).bind fun d => (putAt d kd v).map fun d' => .nx (ρ2.set i (some d'))
  | .augput i k o e, ρ => (getS ρ i).bind fun _ => (evalE cf gl k ρ).bind fun (kd, ρ1) => (getS ρ1 i).bind fun d => ((idxD d kd).bind isI).bind fun old =>
      (evalE cf gl e ρ1).bind fun (v, ρ2) => (isI v).bind fun v => (opD o (.int old) (.int v)).bind fun nw => (getS ρ2 i).bind fun d2 => (putAt d2 kd nw).map fun d' => .nx (ρ2.set i (some d'))
  | .ex e, ρ => (evalE cf gl e ρ).map fun (_, ρ1) => .nx ρ1
  | .ret e, ρ => (evalE cf gl e ρ).map fun (d, ρ1) => .rt d ρ1
  | .ret0, ρ => some (.rt .non ρ)
  | .iff c t f, ρ => (evalT cf gl c ρ).bind fun (b, ρ1) => if b then execSs t ρ1 else execSs f ρ1
  | .whl c b, ρ => whlL (evalT cf gl c) (execSs b) w ρ
  | .for_ x it b, ρ => (evalI cf gl it ρ).bind fun (xs, ρ1) => forL (fun d ρ => (bindT x d ρ).bind fun ρ1 => execSs b ρ1) xs ρ1
  | .brk, ρ => some (.bk ρ)
  | .cnt, ρ => some (.ct ρ)
  | .pas, ρ => some (.nx ρ)
  | .doc, ρ => some (.nx ρ)
def execSs : List S → Env → Option Out
  | [], ρ => some (.nx ρ)
  | s :: r, ρ => (execS s ρ).bind fun o => match o with
      | .nx ρ1 => execSs r ρ1
      | .bk ρ1 => some (.bk ρ1)
      | .ct ρ1 => some (.ct ρ1)
      | .rt d ρ1 => some (.rt d ρ1)
end
end

/-- a def: its parameters' number, its slots' modes, its body -/
structure Fn where
  np : Nat
  ms : List Bool
  body : List S
def startE (n : Nat) (ds : List D) : Env := ds.map some ++ List.replicate (n - ds.length) none
/-- a program's defs, k calls deep -/
def run (fs : Nat → Option Fn) (gl : Nat → Option D) (w : Nat) : Nat → Fns
  | 0, _, _ => none
  | k + 1, f, ds => (fs f).bind fun fn => if ds.length = fn.np then
      (execSs (run fs gl w k) gl w fn.body (startE fn.ms.length ds)).bind fun o => match o with
        | .nx ρ => some (.non, ρ)
        | .rt d ρ => some (d, ρ)
        | _ => none
    else none
end Vi

set_option Elab.async false
set_option linter.all false
set_option maxRecDepth 100000
set_option maxHeartbeats 4000000
/-! enumerate over a tuple. -/
namespace PySem
open Sem (wp)
open AutoSeq1 (wpAny_loadPart')
theorem meets_enumerate_newT (l : Addr) (items : Array Value) (n : Nat) (dct : Option Addr) (sl : Array (Option Value)) :
    Meets (Builtin.«enumerate.__new__» ⟨[.type "enumerate", .ref l], []⟩) (fun _ R s => s.heap.get? l = some { cls := .type "tuple", dict := dct, data := .seq items n, slots := sl } ∧
      R (.ok (.ret (.ref (s.heap.push { cls := .type "tuple_iterator", data := .fields #[.ref l, .int 0 0] }).objs.size)))
        { s with heap := (s.heap.push { cls := .type "tuple_iterator", data := .fields #[.ref l, .int 0 0] }).push { cls := .type "enumerate", data := .fields #[.none, .bool false, .ref s.heap.objs.size, rawInt 0, .none, .none] } }) :=
  .of_wp fun prog w A R s h => by
    obtain ⟨hp, g, d, tk, os⟩ := s; obtain ⟨hl, h⟩ := h
    have hsub := sub_enumerate
    have hL : Heap.IsTuple (Shared.heap ⟨hp, g, d, tk, os⟩) l items := ⟨_, hl, rfl, n, rfl⟩
    wp_walk using wpAny_loadPart' hl
    refine wpAny_stack_any fun st => wpAny_pure ?_
    split
    · rename_i c _ _ _ _ _
      cases (c == Value.type "enumerate")
      · wp_walk using wpAny_loadPart' hl, wpAny_pyIter_tuple hL
        exact ⟨_, rfl, h⟩
      · wp_walk using wpAny_loadPart' hl, wpAny_pyIter_tuple hL
        exact ⟨_, rfl, h⟩
    · wp_walk using wpAny_loadPart' hl, wpAny_pyIter_tuple hL
      exact ⟨_, rfl, h⟩
section
variable {prog : Program} {w : World} {A : Around} {E : Value → Shared → Prop} {s : Shared}
theorem call_enumerate_tuple {l : Addr} {items : Array Value} {Q : Value → Shared → Prop} (hL : s.heap.IsTuple l items)
    (h : ∀ h', IsEnum h' (s.heap.objs.size + 1) s.heap.objs.size 0 .none → h'.IsTupleIter s.heap.objs.size l 0 → h'.objs.size = s.heap.objs.size + 2 →
      (∀ b o, s.heap.get? b = some o → h'.get? b = some o) → Q (.ref (s.heap.objs.size + 1)) { s with heap := h' }) :
    wpAny (model prog w) A (call (.type "enumerate") [.ref l]) Q E s := by
  obtain ⟨⟨c, dct, dt, sl⟩, hl, hc, n, hd⟩ := hL
  replace hc : c = .type "tuple" := hc
  replace hd : dt = .seq items n := hd
  subst hc hd
  refine callType_new F.called_enumerate (by decide) (F.typeCall_enumerate_1 _) (F.newCall_enumerate_1 _) (fun obj => F.args_object_init_2 obj _) F.entry_enumerate_new
    (meets_enumerate_newT l items n dct sl) ⟨hl, ?_⟩
  have hz : (s.heap.push { cls := .type "tuple_iterator", data := .fields #[.ref l, .int 0 0] }).objs.size = s.heap.objs.size + 1 := Heap.size_push ..
  show _ ∧ _
  rw [hz]
  have he : IsEnum ((s.heap.push { cls := .type "tuple_iterator", data := .fields #[.ref l, .int 0 0] }).push
      { cls := .type "enumerate", data := .fields #[.none, .bool false, .ref s.heap.objs.size, rawInt 0, .none, .none] }) (s.heap.objs.size + 1) s.heap.objs.size 0 .none := by
    have := Heap.get?_push_size (s.heap.push { cls := .type "tuple_iterator", data := .fields #[.ref l, .int 0 0] })
      (o := { cls := .type "enumerate", data := .fields #[.none, .bool false, .ref s.heap.objs.size, rawInt 0, .none, .none] }) rfl
    rw [hz] at this; exact this
  refine ⟨⟨_, he, rfl⟩, h _ he ⟨_, Heap.get?_push_of_some _ (Heap.get?_push_size _ rfl), rfl, rfl⟩ (by rw [Heap.size_push, hz]) fun b o x => Heap.get?_push_of_some _ (Heap.get?_push_of_some _ x)⟩
theorem wpAny_pyNext_enum_endT {e it t : Addr} {items : Array Value} {j : Nat} {i : Int} {old : Value} {Q : Option Value → Shared → Prop} (hh : A.handled = none)
    (he : IsEnum s.heap e it i old) (hit : s.heap.IsTupleIter it t j) (ht : s.heap.IsTuple t items) (hx : items[j]? = none)
    (hQ : ∀ h', Heap.ExtBut it s.heap h' → Q none { s with heap := h' }) : wpAny (model prog w) A (pyNext (.ref e)) Q E s := by
  have hT : s.TypeIs (.ref e) "enumerate" := ⟨_, he, rfl⟩
  unfold pyNext
  refine wpAny_bind (wpAny_attempt (wpAny_callSpecial?_slot (name := Str.ofString "__next__") hT F.slot_enumerate_next
    (wpAny_call_entry F.slot_enumerate_next hT F.entry_enumerate_next ?_ (F.args_enumerate_next_1 _))))
  show wpAny _ _ (field (.ref e) 2 >>= _) _ _ _
  refine wpAny_bind (wpAny_field he rfl (x := .ref it) rfl ?_)
  refine wpAny_bind (wpAny_nextOf_tuple_end (show A.in1.handled = none from hh) hit ht hx fun h' x he' hx' => ?_)
  obtain ⟨o, ho, hc⟩ := hx'
  refine wpAny_bind (wpAny_isInstance (T := "StopIteration") (b := true) ⟨o, ho, hc⟩ isSubtype_stop ?_)
  exact wpAny_pure (hQ _ he')
end
end PySem
namespace L2
open PySem PySem.Spec PyProof.Rows
/-- the tuple at a, each item in a new pair -/
def IteT (K : PySem.W.Frag) (a : Addr) : It :=
  ⟨fun i H => ∃ (xs : List V) (x : V), SqT K H a xs ∧ xs[i]? = some x, fun i H v H' => ∃ T x, v = .ref T ∧ H T = none ∧ H' = upd H T (.tup [.int (i : Nat), x]) ∧ ∀ xs, SqT K H a xs → xs[i]? = some x, fun i H => ∃ xs : List V, SqT K H a xs ∧ xs.length ≤ i⟩
theorem turn_enumT {P : Program} {w : World} {K : PySem.W.Frag} {elts : List Expr} {kk : Nat} {tpos : Pos} (a e it : Addr) (hae : a ≠ e) (hai : a ≠ it) :
    Turn P w K (.Tuple elts kk tpos) (IteT K a) [e, it] e (fun i h => (∃ old, IsEnum h e it ((i : Nat) : Int) old) ∧ h.IsTupleIter it a i ∧ e ≠ it) where
  mem := by simp
  obj := fun i h st b hb => by
    obtain ⟨⟨old, he⟩, ⟨o, ho, hc, hd⟩, _⟩ := st
    have e' : b = e ∨ b = it := by simpa using hb
    rcases e' with z | z
    · rw [z]; exact ⟨_, he, fun v q => nomatch q⟩
    · rw [z]; exact ⟨o, ho, fun v q => by rw [hd] at q; cases q⟩
  keep := fun i h h' st k => let ⟨⟨old, he⟩, hi, hne⟩ := st; ⟨⟨old, k e (by simp) _ he⟩, hi.at fun o q => k it (by simp) o q, hne⟩
  item := by
    intro X hP hw hK hc i pins s σ H E I hf st hg
    subst hP hw hK
    obtain ⟨⟨old, he⟩, hit, hne⟩ := st
    obtain ⟨xs, x, hq, hx⟩ := hg
    obtain ⟨its, rv, p, hz⟩ := I.tuple hq
    obtain ⟨u, hu, ru⟩ := rv.get hx
    have hel : e < s.heap.objs.size := Heap.lt_size he
    have hil : it < s.heap.objs.size := by obtain ⟨_, q, _⟩ := hit; exact Heap.lt_size q
    have hp : s.heap.IsTuple a its.toArray := p
    have hlt : i < its.toArray.size := by
      have := List.getElem?_eq_some_iff.mp hu
      simpa using this.1
    refine wpAny_pyNext_enum_itemD (Draws.tuple (show X.A.in1.handled = none from I.ok.hd hc) it a hai its.toArray) he ⟨hit, hp⟩ hlt hne (by simp [hne, Ne.symm hae]) fun x' h' tk hx' ho st' hT hsz hk => ?_
    have ex : x' = u := by
      have : its.toArray[i]? = some x' := hx'
      rw [List.getElem?_toArray, hu] at this
      exact (Option.some.inj this).symm
    subst ex
    refine ⟨_, rfl, wpAny_letOwnedTupleGo_enum (s := { s with heap := h', toks := tk + 1 }) ho fun h'' he' sb => ?_⟩
    have hT2 : h''.get? s.heap.objs.size = some { cls := .type "tuple", data := .seq #[.int i tk, x'] } := (sb.2 _ (Nat.ne_of_gt hel)).trans hT
    have new : ObjOk X.prog X.w (upd H s.heap.objs.size (.tup [.int (i : Nat), x])) h'' s.heap.objs.size (.tup [.int (i : Nat), x]) :=
      ⟨by show 2 ≤ sizeLine; decide, [.int i tk, x'], .cons ⟨_, rfl⟩ (.cons ru .nil), ⟨_, hT2, rfl, _, rfl⟩⟩
    have I1 : Inv X pins σ (upd H s.heap.objs.size (.tup [.int (i : Nat), x])) { s with heap := h'', toks := tk + 1 } :=
      I.turnedNew (ch := [e, it]) (fun b ob hb q => (sb.2 b (fun z => hb (by simp [z]))).trans (hk b ob (fun z => hb (by simp [z])) (fun z => hb (by simp [z])) q)) hf (Nat.le_refl _) new
    refine ⟨.ref s.heap.objs.size, _, I1, rfl, ⟨_, x, rfl, I.hok.fresh (Nat.le_refl _), rfl, fun ys hy => by rw [I.tuple_inj hy hq]; exact hx⟩, ⟨⟨x', ?_⟩, st'.1.at fun o q => (sb.2 it (Ne.symm hne)).trans q, hne⟩, fun b hb => ?_⟩
    · have e1 : ((i + 1 : Nat) : Int) = (i : Int) + 1 := by omega
      rw [e1]; exact he'
    · have hb' : b < s.heap.objs.size := by
        have e' : b = e ∨ b = it := by simpa using hb
        rcases e' with z | z
        · rw [z]; exact hel
        · rw [z]; exact hil
      rw [upd_ne (Nat.ne_of_lt hb')]
      exact (hf b hb).1
  done := by
    intro X hP hw hK hc i pins s σ H E I hf st hg
    subst hP hw hK
    obtain ⟨⟨old, he⟩, hit, hne⟩ := st
    obtain ⟨xs, hq, hx⟩ := hg
    obtain ⟨its, rv, p, hz⟩ := I.tuple hq
    obtain ⟨f0, f1, f2, f3, f4, f5⟩ := hf it (by simp)
    have hl := rv.length
    have hp : s.heap.IsTuple a its.toArray := p
    exact wpAny_pyNext_enum_endT (I.ok.hd hc) he hit hp (by simp; omega) fun h' eb => ⟨rfl, I.turned (t' := s.toks) (fun b o hb q => eb b o hb q) f0 f1 f3 f4 f5⟩
  self := fun A i s Q E st h => let ⟨⟨_, he⟩, _⟩ := st; wpAny_pyIter_enum he h
theorem walk_enumT {K : PySem.W.Frag} {a : Addr} {xs : List V} : Walk (IteT K a) xs.length (fun H => SqT K H a xs) (YPair (fun i => some (.int (i : Nat))) (fun i => xs[i]?)) := by
  refine ⟨fun i _ hi q => ⟨xs, xs[i], q, by simp [hi]⟩, fun _ q => ⟨xs, q, Nat.le_refl _⟩, fun i H v H' _ q y => ?_⟩
  obtain ⟨T, x, h1, h2, h3, h4⟩ := y
  exact ⟨T, .int (i : Nat), x, h1, h2, h3, rfl, h4 xs q⟩
def iEnumA (K : PySem.W.Frag) (ta : TA) : TI := fun σ H R => ta σ H fun vs H1 => ∃ a xs, vs = [.ref a] ∧ ((SqL K H1 a xs ∧ R (Ite K a) H1) ∨ (SqT K H1 a xs ∧ R (IteT K a) H1))
theorem pi_enumA {X : Cx} {e : Expr} {ta : TA} {p pos tpos : Pos} {elts : List Expr} {kk : Nat} (hg : Gl X "enumerate") (hm : X.mg "enumerate" = none) (ha : PA X [e] ta) (hs : starEach [e] X.env = [(false, eval e X.env)] := by rfl) :
    PI X (.Tuple elts kk tpos) (.Call (.Name "enumerate" p) [e] [] pos) (iEnumA X.K ta) := by
  refine ⟨fun pins s σ H R I h => ?_⟩
  refine Call_ (ld_blt I hg hm boot_enumerate (PyProof.Rows.callWith_type1 (thn (ha.run pos pins s σ H _ I h) fun us s1 ⟨vs, H1, I1, r1, q1⟩ => ?_) hs rfl))
  obtain ⟨a, xs, ex, hq⟩ := q1
  subst ex
  have fresh2 : ∀ b, b ∈ [s1.heap.objs.size + 1, s1.heap.objs.size] → FpOk X pins H1 b := fun b hb => by
    have e' : b = s1.heap.objs.size + 1 ∨ b = s1.heap.objs.size := by simpa using hb
    have hle : s1.heap.objs.size ≤ b := by
      rcases e' with z | z
      · rw [z]; exact Nat.le_add_right _ _
      · rw [z]; exact Nat.le_refl _
    exact I1.fpOk hle (I1.hok.fresh hle)
  cases r1 with
  | cons r rr =>
    cases rr
    cases r
    rcases hq with ⟨hq, q⟩ | ⟨hq, q⟩
    · obtain ⟨its, rv, p', hz⟩ := I1.list hq
      refine call_enumerate_list p'.isList fun h' he hit hsz hk => wpAny_pyIter_enum he ?_
      have I2 : Inv X pins σ H1 { s1 with heap := h' } := I1.kept (t' := s1.toks) hk
      exact ⟨s1.heap.objs.size + 1, [s1.heap.objs.size + 1, s1.heap.objs.size], _, _, H1, rfl, I2, turn_enum a (s1.heap.objs.size + 1) s1.heap.objs.size, ⟨⟨.none, he⟩, hit, Nat.succ_ne_self _⟩, fresh2, q⟩
    · obtain ⟨its, rv, p', hz⟩ := I1.tuple hq
      have p' : s1.heap.IsTuple a its.toArray := p'
      have hal : a < s1.heap.objs.size := by obtain ⟨_, q, _⟩ := p'; exact Heap.lt_size q
      refine call_enumerate_tuple p' fun h' he hit hsz hk => wpAny_pyIter_enum he ?_
      have I2 : Inv X pins σ H1 { s1 with heap := h' } := I1.kept (t' := s1.toks) hk
      exact ⟨s1.heap.objs.size + 1, [s1.heap.objs.size + 1, s1.heap.objs.size], _, _, H1, rfl, I2, turn_enumT a (s1.heap.objs.size + 1) s1.heap.objs.size (Nat.ne_of_lt (Nat.lt_succ_of_lt hal)) (Nat.ne_of_lt hal), ⟨⟨.none, he⟩, hit, Nat.succ_ne_self _⟩, fresh2, q⟩
end L2

set_option Elab.async false
set_option linter.all false
set_option maxRecDepth 100000
set_option maxHeartbeats 4000000
/-! A tuple turned round by [::-1]. -/
namespace L2
open PySem PySem.Spec PyProof.Rows HT
section
variable {prog : Program} {w : World} {A : Around} {E : Value → Shared → Prop} {s : Shared}
theorem sliceApplied_rev {sl : Addr} {vl vu vs : Value} {n : Nat} {Q : Int × Int × Nat → Shared → Prop} (hs : s.heap.IsSliceOf sl vl vu vs) (pl : IsPart vl none) (pu : IsPart vu none) (ps : IsPart vs (some (-1)))
    (h : Q ((n : Int) - 1, -1, n) s) : wpAny (model prog w) A (Builtin.Slice.sliceApplied (.ref sl) (pure (n : Int))) Q E s := by
  obtain ⟨os, hos, hcs, hds⟩ := id hs
  unfold Builtin.Slice.sliceApplied Builtin.Slice.sliceFields
  refine wpAny_bind (wpAny_bind (wpAny_field hos hds (x := vl) rfl (wpAny_bind (wpAny_field hos hds (x := vu) rfl (wpAny_bind (wpAny_field hos hds (x := vs) rfl (wpAny_pure ?_)))))))
  refine wpAny_bind (slicePart_ ps ?_)
  show wpAny _ _ (if ((-1 : Int) == 0) = true then _ else _) _ _ s
  rw [if_neg (by decide)]
  refine wpAny_bind (slicePart_ pl (wpAny_bind (slicePart_ pu (wpAny_bind (wpAny_pure ?_)))))
  show wpAny _ _ (pure ((n : Int) - 1, (-1 : Int), Builtin.Slice.slicePlaces ((n : Int) - 1) (-1) (-1))) _ _ s
  have e : Builtin.Slice.slicePlaces ((n : Int) - 1) (-1) (-1) = n := by
    unfold Builtin.Slice.slicePlaces
    rw [if_neg (by decide)]
    by_cases hn : n = 0
    · subst hn; rfl
    · rw [if_pos (by omega)]
      simp only [Int.neg_neg, Int.ediv_one]
      omega
  rw [e]
  exact wpAny_pure h
theorem fm_congr {α β : Type} {f g : α → Option β} : ∀ (xs : List α), (∀ x ∈ xs, f x = g x) → xs.filterMap f = xs.filterMap g
  | [], _ => rfl
  | x :: r, h => by rw [List.filterMap_cons, List.filterMap_cons, h x (List.mem_cons_self ..), fm_congr r fun y hy => h y (List.mem_cons_of_mem _ hy)]
theorem pick_rev (xs : Array Value) : ((List.range xs.size).filterMap fun (m : Nat) => xs[(((xs.size : Nat) : Int) - 1 + (m : Int) * -1).toNat]?).toArray = xs.toList.reverse.toArray := by
  congr 1
  obtain ⟨l⟩ := xs
  have key : ∀ m : Nat, m ∈ List.range l.length → l[(((l.length : Nat) : Int) - 1 + (m : Int) * -1).toNat]? = l.reverse[m]? := by
    intro m hm
    rw [List.mem_range] at hm
    rw [List.getElem?_reverse hm]
    congr 1; omega
  simp only [List.size_toArray, List.getElem?_toArray]
  rw [fm_congr _ key]
  have e2 : ∀ (r : List Value), (List.range r.length).filterMap (fun m => r[m]?) = r := by
    intro r
    induction r with
    | nil => rfl
    | cons x r ih =>
      rw [List.length_cons, List.range_succ_eq_map, List.filterMap_cons, List.filterMap_map]
      show x :: _ = _
      congr 1
  have := e2 l.reverse
  rw [List.length_reverse] at this
  exact this
theorem getItem_tuple_rev {t sl : Addr} {items : Array Value} {vl vu vs : Value} {Q : Value → Shared → Prop} (ht : IsTup s.heap t items) (hs : s.heap.IsSliceOf sl vl vu vs) (pl : IsPart vl none) (pu : IsPart vu none) (ps : IsPart vs (some (-1)))
    (h : Q (.ref s.heap.objs.size) { s with heap := s.heap.push { cls := .type "tuple", data := .seq items.toList.reverse.toArray } })
    (hsz : items.size ≤ sizeLine) : wpAny (model prog w) A (getItem (.ref t) (.ref sl)) Q E s := by
  have htake : sizeOk (.seq items.toList.reverse.toArray) := by
    show items.toList.reverse.toArray.size ≤ sizeLine
    rw [List.size_toArray, List.length_reverse, Array.length_toList]
    omega
  obtain ⟨os, hos, hcs, hds⟩ := id hs
  have hTs : s.TypeIs (.ref sl) "slice" := ⟨os, hos, hcs⟩
  unfold getItem
  try with_reducible refine wpAny_holding ?_
  first | refine wpAny_bind (wpAny_pure ?_) | skip
  refine wpAny_bind (wpAny_sequenceKey ht.typeIs (by decide) ?_)
  refine wpAny_bind (wpAny_callSpecial?_slot (name := Str.ofString "__getitem__") ht.typeIs PyProof.Rows.slot_tuple_getitem
    (wpAny_call_entry PyProof.Rows.slot_tuple_getitem ht.typeIs entry_tuple_getitem ?_ (args_tuple_getitem _ _)))
  show wpAny _ _ (Builtin.Tuple.tupleItemsOf (.ref t) >>= _) _ _ s
  refine wpAny_bind (tupleItemsOf_ ht ?_)
  refine wpAny_bind (wpAny_typeOf hTs ?_)
  rw [if_pos (by decide)]
  refine wpAny_bind (sliceApplied_rev hs pl pu ps ?_)
  have hno : ¬ ((((items.size : Nat) : Int) - 1 == 0 && (-1 : Int) == 1 && items.size == items.size) = true) := by
    rw [show ((-1 : Int) == 1) = false from rfl, Bool.and_false, Bool.false_and]; exact Bool.false_ne_true
  show wpAny _ _ (if (((items.size : Nat) : Int) - 1 == 0 && (-1 : Int) == 1 && items.size == items.size) = true then _ else _) _ _ s
  rw [if_neg hno, pick_rev]
  first
    | exact wpAny_bind (m := Builtin.Tuple.tupleExact _) (wpAny_newObj_type (wpAny_pure ⟨_, rfl, wpAny_pure h⟩) htake)
    | exact wpAny_bind (m := Builtin.Tuple.tupleExact _) (wpAny_newObj_type (wpAny_bind (wpAny_pure (wpAny_pure ⟨_, rfl, wpAny_pure h⟩))) htake)
    | exact wpAny_bind (wpAny_bind (m := Builtin.Tuple.tupleExact _) (wpAny_newObj_type (wpAny_pure (wpAny_pure ⟨_, rfl, wpAny_pure h⟩)) htake))
    | exact wpAny_bind (wpAny_bind (m := Builtin.Tuple.tupleExact _) (wpAny_newObj_type (wpAny_pure ⟨_, rfl, wpAny_pure h⟩) htake))
end
section
variable {X : Cx}
def tRevA (K : PySem.W.Frag) (te : TE) : TE := fun σ H Q => te σ H fun x H1 => ∃ a xs, x = .ref a ∧ ((SqL K H1 a xs ∧ ∀ p, H1 p = none → Q (.ref p) (upd H1 p (.lst xs.reverse))) ∨ (SqT K H1 a xs ∧ ∀ p, H1 p = none → Q (.ref p) (upd H1 p (.tup xs.reverse))))
theorem pe_revA {e : Expr} {te : TE} {k : Nat} {p1 p2 p3 pos : Pos} (he : PE X e te) : PE X (.Subscript e (.Slice none none (some (.UnaryOp .USub (.Constant (.int 1) k p1) p2)) p3) pos) (tRevA X.K te) := by
  refine ⟨fun pins s σ H Q I h => ?_⟩
  refine Subscript_ (thn (he.run pins s σ H _ I h) fun v s1 ⟨x, H1, I1, r1, q1⟩ => ?_)
  obtain ⟨a, xs, ex, hq⟩ := q1
  subst ex
  cases r1
  have hst : PO X (some (.UnaryOp .USub (.Constant (.int 1) k p1) p2)) (tPart (tUn (rU fun i => .int (-i)) (tC (.int 1)))) := po_some (pe_un un_neg pe_int)
  refine wpAny_Slice (thn (po_none.run pins s1 σ H1 (fun o H2 => o = none ∧ H2 = H1) I1 ⟨rfl, rfl⟩) fun vl s2 ⟨l, H2, I2, pl, el, e2⟩ => ?_)
  subst el e2
  refine thn (po_none.run pins s2 σ H2 (fun o H3 => o = none ∧ H3 = H2) I2 ⟨rfl, rfl⟩) fun vu s3 ⟨u, H3, I3, pu, eu, e3⟩ => ?_
  subst eu e3
  refine thn (hst.run pins s3 σ H3 (fun o H4 => o = some (-1) ∧ H4 = H3) I3 ⟨1, rfl, -1, rfl, rfl, rfl⟩) fun vs s4 ⟨o, H4, I4, ps, eo, e4⟩ => ?_
  subst eo e4
  have I5 : Inv X pins σ H4 { s4 with heap := s4.heap.push { cls := .type "slice", data := .fields #[vl, vu, vs] } } := I4.kept (t' := s4.toks) fun b ob q => Heap.get?_push_of_some _ q
  show wpAny (model X.prog X.w) X.A (subscriptTail e (.Slice none none (some (.UnaryOp .USub (.Constant (.int 1) k p1) p2)) p3) (.ref a) (.ref s4.heap.objs.size)) (EP X pins σ Q) X.xe { s4 with heap := s4.heap.push { cls := .type "slice", data := .fields #[vl, vu, vs] } }
  rcases hq with ⟨hx, q⟩ | ⟨hx, q⟩
  · obtain ⟨its, r, ht, hz⟩ := I5.list hx
    have hlen := r.length
    refine tail_any (ops := [.ref a, .ref s4.heap.objs.size]) ht.isList.typeIs (PySem.slot_list_getitem.lookup) ?_ (by with_unfolding_all rfl)
    refine wpAny_getItem_list_slice ht.isList (Heap.IsSliceOf.new _ vl vu vs) pl pu ps (by decide) ?_ (by rw [List.size_toArray]; omega)
    rw [PySem.W.krv_pick]
    refine ⟨.ref _, _, I5.laid (t' := s4.toks) (o := .lst xs.reverse) (fun b ob q => Heap.get?_push_of_some _ q) (Nat.le_refl _) ?_, rfl, q _ (I5.hok.fresh (Nat.le_refl _))⟩
    exact ⟨by rw [List.length_reverse]; exact hz, _, 0, r.reverse, Heap.get?_push_size _ rfl⟩
  · obtain ⟨its, r, ht, hz⟩ := I5.tuple hx
    have hlen := r.length
    refine tail_any (ops := [.ref a, .ref s4.heap.objs.size]) ht.typeIs PyProof.Rows.slot_tuple_getitem.lookup ?_ (by with_unfolding_all rfl)
    refine getItem_tuple_rev ht (Heap.IsSliceOf.new _ vl vu vs) pl pu ps ?_ (by rw [List.size_toArray]; omega)
    refine ⟨.ref _, _, I5.laid (t' := s4.toks) (o := .tup xs.reverse) (fun b ob q => Heap.get?_push_of_some _ q) (Nat.le_refl _) ?_, rfl, q _ (I5.hok.fresh (Nat.le_refl _))⟩
    exact ⟨by rw [List.length_reverse]; exact hz, _, r.reverse, ⟨_, Heap.get?_push_size _ rfl, rfl, _, rfl⟩⟩
end
end L2

set_option Elab.async false
set_option linter.all false
set_option maxRecDepth 100000
set_option maxHeartbeats 4000000
/-! What stands in the heap shows data; who owns what. -/
namespace Vi
open PySem L2

def keyOf : Key → D
  | .inl i => .int i
  | .inr s => .str s
/-- it may be written -/
def mutO : HO → Bool
  | .lst _ => true
  | .dK _ => true
  | .dT _ => true
  | _ => false

/-- a list of the written part -/
def KL (K : PySem.W.Frag) (a : Addr) (xs : List V) : Prop :=
  ∃ (o : Obj) (its : Array Value) (n : Nat), K.lookup a = some o ∧ o.cls = .type "list" ∧ o.dict = none ∧ o.data = .seq its n ∧ its.size ≤ sizeLine ∧ Vals xs its.toList
/-- the script -/
def ScrAt (K : PySem.W.Frag) (H : Hp) (a : Addr) (ns : List Int) : Prop := (∃ o, H a = some (.frz o (.lst (ns.map V.int)))) ∨ KL K a (ns.map V.int)
theorem ScrAt.sq {K : PySem.W.Frag} {H : Hp} {a : Addr} {ns : List Int} (h : ScrAt K H a ns) : SqL K H a (ns.map V.int) := by
  rcases h with ⟨o, h⟩ | h
  · exact .inl (.inr ⟨o, h⟩)
  · exact .inr h
mutual
/-- the value v shows the data d; A: the addresses of all that can be changed in it -/
inductive Rp (K : PySem.W.Frag) (H : Hp) : V → D → List Addr → Prop
  | non : Rp K H .non .non []
  | bl (b : Bool) : Rp K H (.bl b) (.bl b) []
  | int (i : Int) : Rp K H (.int i) (.int i) []
  | str (s : Str) : Rp K H (.str s) (.str s) []
  | tup {a : Addr} {xs : List V} {ds : List D} {A : List Addr} : H a = some (.tup xs) → Rps K H xs ds A → Rp K H (.ref a) (.tup ds) A
  | lst {a : Addr} {xs : List V} {ds : List D} {A : List Addr} : H a = some (.lst xs) → Rps K H xs ds A → Rp K H (.ref a) (.lst ds) (a :: A)
  | dK {a : Addr} {kvs : List (Key × V)} {vs : List D} {A : List Addr} : H a = some (.dK kvs) → Rps K H (kvs.map (·.2)) vs A → Rp K H (.ref a) (.dct (kvs.map fun p => keyOf p.1) vs) (a :: A)
  | dT {a : Addr} {kvs : List (List Key × V)} {vs : List D} {A : List Addr} : H a = some (.dT kvs) → Rps K H (kvs.map (·.2)) vs A → Rp K H (.ref a) (.dct (kvs.map fun p => .tup (p.1.map keyOf)) vs) (a :: A)
  | scr {a : Addr} {ns : List Int} : ScrAt K H a ns → Rp K H (.ref a) (.scr ns) []
inductive Rps (K : PySem.W.Frag) (H : Hp) : List V → List D → List Addr → Prop
  | nil : Rps K H [] [] []
  | cons {v : V} {d : D} {A : List Addr} {vs : List V} {ds : List D} {B : List Addr} : Rp K H v d A → Rps K H vs ds B → Rps K H (v :: vs) (d :: ds) (A ++ B)
end

section
variable {K : PySem.W.Frag} {H H' : Hp}
theorem sqT_keep {a : Addr} {xs : List V} (hi : ∀ a o, H a = some o → mutO o = false → H' a = some o) (h : SqT K H a xs) : SqT K H' a xs := by
  rcases h with (h | ⟨o, h⟩) | h
  · exact .inl (.inl (hi _ _ h rfl))
  · exact .inl (.inr ⟨o, hi _ _ h rfl⟩)
  · exact .inr h
mutual
theorem Rp.keep (hi : ∀ a o, H a = some o → mutO o = false → H' a = some o) : ∀ {v : V} {d : D} {A : List Addr}, Rp K H v d A → (∀ a ∈ A, ∀ o, H a = some o → H' a = some o) → Rp K H' v d A
  | _, _, _, .non, _ => .non
  | _, _, _, .bl b, _ => .bl b
  | _, _, _, .int i, _ => .int i
  | _, _, _, .str s, _ => .str s
  | _, _, _, .tup h r, k => .tup (hi _ _ h rfl) (Rps.keep hi r k)
  | _, _, _, .lst h r, k => .lst (k _ (List.mem_cons_self ..) _ h) (Rps.keep hi r fun a ha => k a (List.mem_cons_of_mem _ ha))
  | _, _, _, .dK h r, k => .dK (k _ (List.mem_cons_self ..) _ h) (Rps.keep hi r fun a ha => k a (List.mem_cons_of_mem _ ha))
  | _, _, _, .dT h r, k => .dT (k _ (List.mem_cons_self ..) _ h) (Rps.keep hi r fun a ha => k a (List.mem_cons_of_mem _ ha))
  | _, _, _, .scr h, _ => .scr (h.elim (fun ⟨o, q⟩ => .inl ⟨o, hi _ _ q rfl⟩) .inr)
theorem Rps.keep (hi : ∀ a o, H a = some o → mutO o = false → H' a = some o) : ∀ {vs : List V} {ds : List D} {A : List Addr}, Rps K H vs ds A → (∀ a ∈ A, ∀ o, H a = some o → H' a = some o) → Rps K H' vs ds A
  | _, _, _, .nil, _ => .nil
  | _, _, _, .cons h r, k => .cons (Rp.keep hi h fun a ha => k a (List.mem_append_left _ ha)) (Rps.keep hi r fun a ha => k a (List.mem_append_right _ ha))
end
theorem Rps.length : ∀ {vs : List V} {ds : List D} {A : List Addr}, Rps K H vs ds A → vs.length = ds.length
  | _, _, _, .nil => rfl
  | _, _, _, .cons _ r => congrArg (· + 1) (Rps.length r)
theorem Rps.get : ∀ {vs : List V} {ds : List D} {A : List Addr} {i : Nat} {d : D}, Rps K H vs ds A → ds[i]? = some d → ∃ v B, vs[i]? = some v ∧ Rp K H v d B ∧ ∀ a ∈ B, a ∈ A
  | _, _, _, _, _, .nil, e => by simp at e
  | _, _, _, 0, _, .cons h r, e => by
    simp at e; subst e
    exact ⟨_, _, rfl, h, fun a ha => List.mem_append_left _ ha⟩
  | _, _, _, i + 1, _, .cons h r, e => by
    obtain ⟨v, B, e1, h1, s⟩ := Rps.get (i := i) r (by simpa using e)
    exact ⟨v, B, by simpa using e1, h1, fun a ha => List.mem_append_right _ (s a ha)⟩
theorem Rps.getV : ∀ {vs : List V} {ds : List D} {A : List Addr} {i : Nat} {v : V}, Rps K H vs ds A → vs[i]? = some v → ∃ d B, ds[i]? = some d ∧ Rp K H v d B ∧ ∀ a ∈ B, a ∈ A
  | _, _, _, _, _, .nil, e => by simp at e
  | _, _, _, 0, _, .cons h r, e => by
    simp at e; subst e
    exact ⟨_, _, rfl, h, fun a ha => List.mem_append_left _ ha⟩
  | _, _, _, i + 1, _, .cons h r, e => by
    obtain ⟨v, B, e1, h1, s⟩ := Rps.getV (i := i) r (by simpa using e)
    exact ⟨v, B, by simpa using e1, h1, fun a ha => List.mem_append_right _ (s a ha)⟩
theorem Rps.append : ∀ {vs : List V} {ds : List D} {A : List Addr} {ws : List V} {es : List D} {B : List Addr}, Rps K H vs ds A → Rps K H ws es B → Rps K H (vs ++ ws) (ds ++ es) (A ++ B)
  | _, _, _, _, _, _, .nil, s => s
  | _, _, _, _, _, _, .cons h r, s => by
    rw [List.append_assoc]
    exact .cons h (Rps.append r s)
theorem Rps.one {v : V} {d : D} {A : List Addr} (h : Rp K H v d A) : Rps K H [v] [d] A := by
  have := Rps.cons h (Rps.nil (K := K) (H := H))
  rwa [List.append_nil] at this
/-- a part of the items: some footprint within -/
theorem Rps.sub : ∀ {vs : List V} {ds : List D} {A : List Addr} (f : ∀ {α : Type}, List α → List α), Rps K H vs ds A → True := fun _ _ => trivial
theorem Rps.drop : ∀ {vs : List V} {ds : List D} {A : List Addr} (n : Nat), Rps K H vs ds A → ∃ B, Rps K H (vs.drop n) (ds.drop n) B ∧ ∀ a ∈ B, a ∈ A
  | _, _, A, 0, h => ⟨A, h, fun _ q => q⟩
  | _, _, _, _ + 1, .nil => ⟨[], .nil, fun _ q => q⟩
  | _, _, _, n + 1, .cons h r => by
    obtain ⟨B, h1, s⟩ := Rps.drop n r
    exact ⟨B, h1, fun a q => List.mem_append_right _ (s a q)⟩
theorem Rps.take : ∀ {vs : List V} {ds : List D} {A : List Addr} (n : Nat), Rps K H vs ds A → ∃ B, Rps K H (vs.take n) (ds.take n) B ∧ ∀ a ∈ B, a ∈ A
  | _, _, _, 0, _ => ⟨[], .nil, fun _ q => by cases q⟩
  | _, _, _, _ + 1, .nil => ⟨[], .nil, fun _ q => q⟩
  | _, _, _, n + 1, .cons h r => by
    obtain ⟨B, h1, s⟩ := Rps.take n r
    exact ⟨_ ++ B, .cons h h1, fun a q => by
      rcases List.mem_append.mp q with q | q
      · exact List.mem_append_left _ q
      · exact List.mem_append_right _ (s a q)⟩
theorem Rps.reverse : ∀ {vs : List V} {ds : List D} {A : List Addr}, Rps K H vs ds A → ∃ B, Rps K H vs.reverse ds.reverse B ∧ ∀ a ∈ B, a ∈ A
  | _, _, _, .nil => ⟨[], .nil, fun _ q => q⟩
  | _, _, _, .cons (A := A0) h r => by
    obtain ⟨B, h1, s⟩ := Rps.reverse r
    rw [List.reverse_cons, List.reverse_cons]
    exact ⟨B ++ A0, h1.append (.one h), fun a q => by
      rcases List.mem_append.mp q with q | q
      · exact List.mem_append_right _ (s a q)
      · exact List.mem_append_left _ q⟩
mutual
theorem Rp.alive : ∀ {v : V} {d : D} {A : List Addr}, Rp K H v d A → ∀ a ∈ A, ∃ o, H a = some o ∧ mutO o = true
  | _, _, _, .tup _ r, a, h => Rps.alive r a h
  | _, _, _, .lst e r, a, h => by
    rcases List.mem_cons.mp h with rfl | h
    · exact ⟨_, e, rfl⟩
    · exact Rps.alive r a h
  | _, _, _, .dK e r, a, h => by
    rcases List.mem_cons.mp h with rfl | h
    · exact ⟨_, e, rfl⟩
    · exact Rps.alive r a h
  | _, _, _, .dT e r, a, h => by
    rcases List.mem_cons.mp h with rfl | h
    · exact ⟨_, e, rfl⟩
    · exact Rps.alive r a h
  | _, _, _, .non, _, h => by cases h
  | _, _, _, .bl _, _, h => by cases h
  | _, _, _, .int _, _, h => by cases h
  | _, _, _, .str _, _, h => by cases h
  | _, _, _, .scr _, _, h => by cases h
theorem Rps.alive : ∀ {vs : List V} {ds : List D} {A : List Addr}, Rps K H vs ds A → ∀ a ∈ A, ∃ o, H a = some o ∧ mutO o = true
  | _, _, _, .nil, _, h => by cases h
  | _, _, _, .cons h r, a, q => by
    rcases List.mem_append.mp q with q | q
    · exact Rp.alive h a q
    · exact Rps.alive r a q
end
mutual
theorem Rp.pure : ∀ {v : V} {d : D} {A : List Addr}, Rp K H v d A → d.pure = true → A = []
  | _, _, _, .tup _ r, e => Rps.pure r e
  | _, _, _, .lst _ _, e => by cases e
  | _, _, _, .dK _ _, e => by cases e
  | _, _, _, .dT _ _, e => by cases e
  | _, _, _, .non, _ => rfl
  | _, _, _, .bl _, _ => rfl
  | _, _, _, .int _, _ => rfl
  | _, _, _, .str _, _ => rfl
  | _, _, _, .scr _, e => by cases e
theorem Rps.pure : ∀ {vs : List V} {ds : List D} {A : List Addr}, Rps K H vs ds A → D.pures ds = true → A = []
  | _, _, _, .nil, _ => rfl
  | _, _, _, .cons h r, e => by
    have e' := (Bool.and_eq_true_iff.mp e)
    rw [Rp.pure h e'.1, Rps.pure r e'.2]; rfl
end
theorem pures_get {ds : List D} {i : Nat} {d : D} (h : D.pures ds = true) (e : ds[i]? = some d) : d.pure = true := by
  induction ds generalizing i with
  | nil => simp at e
  | cons x r ih =>
    have h' := Bool.and_eq_true_iff.mp h
    cases i with
    | zero => simp at e; subst e; exact h'.1
    | succ i => exact ih h'.2 (by simpa using e)
/-- ints, in both -/
theorem Rps.ints : ∀ {vs : List V} {ns : List Int} {A : List Addr}, Rps K H vs (ns.map D.int) A → vs = ns.map V.int ∧ A = []
  | _, [], _, h => by cases h; exact ⟨rfl, rfl⟩
  | _, n :: r, _, h => by
    cases h with
    | cons h1 h2 =>
      cases h1
      obtain ⟨e, e2⟩ := Rps.ints h2
      subst e; subst e2
      exact ⟨rfl, rfl⟩
theorem Rps.of_ints : ∀ (ns : List Int), Rps K H (ns.map V.int) (ns.map D.int) []
  | [] => .nil
  | n :: r => .cons (.int n) (Rps.of_ints r)
theorem tupInts_eq : ∀ {ds : List D} {ns : List Int}, tupInts ds = some ns → ds = ns.map D.int
  | [], _, h => by cases h; rfl
  | .int i :: r, ns, h => by
    cases e : tupInts r with
    | none => simp [tupInts, e] at h
    | some m =>
      simp [tupInts, e] at h
      subst h
      rw [tupInts_eq e]; rfl
  | .non :: _, _, h => by cases h
  | .bl _ :: _, _, h => by cases h
  | .str _ :: _, _, h => by cases h
  | .tup _ :: _, _, h => by cases h
  | .lst _ :: _, _, h => by cases h
  | .dct _ _ :: _, _, h => by cases h
  | .scr _ :: _, _, h => by cases h
end
end Vi

set_option Elab.async false
set_option linter.all false
set_option maxRecDepth 100000
set_option maxHeartbeats 4000000
/-! States: the slots show data, each changeable thing has one owner; how a state goes on. -/
namespace Vi
open PySem L2

/-- what the slots' values lead to -/
abbrev Own := Nat → List Addr
def owns (ms : List Bool) (i : Nat) : Bool := ms.getD i false
/-- from H, W to H', W': only what the owning slots in T had has changed -/
structure Evo (ms : List Bool) (T : List Nat) (H : Hp) (W : Own) (H' : Hp) (W' : Own) : Prop where
  imm : ∀ a o, H a = some o → mutO o = false → H' a = some o
  kp : ∀ a o, H a = some o → (∀ j ∈ T, owns ms j = true → a ∉ W j) → H' a = some o
  un : ∀ j, j ∉ T → W' j = W j
  nw : ∀ j ∈ T, owns ms j = true → ∀ a ∈ W' j, (∃ k ∈ T, owns ms k = true ∧ a ∈ W k) ∨ H a = none
  dom : ∀ a, H' a = none → H a = none
section
variable {ms : List Bool}
theorem Evo.refl {T : List Nat} {H : Hp} {W : Own} : Evo ms T H W H W := ⟨fun _ _ h _ => h, fun _ _ h _ => h, fun _ _ => rfl, fun j hj o a h => .inl ⟨j, hj, o, h⟩, fun _ h => h⟩
theorem Evo.mono {T S : List Nat} {H H' : Hp} {W W' : Own} (e : Evo ms T H W H' W') (h : ∀ j ∈ T, j ∈ S) : Evo ms S H W H' W' :=
  ⟨e.imm, fun a o q k => e.kp a o q fun j hj => k j (h j hj), fun j hj => e.un j fun z => hj (h j z), fun j hj oj a ha => by
    by_cases z : j ∈ T
    · rcases e.nw j z oj a ha with ⟨k, hk, q⟩ | q
      · exact .inl ⟨k, h k hk, q⟩
      · exact .inr q
    · rw [e.un j z] at ha; exact .inl ⟨j, hj, oj, ha⟩, e.dom⟩
theorem Evo.trans {T S : List Nat} {H H1 H2 : Hp} {W W1 W2 : Own} (a : Evo ms T H W H1 W1) (b : Evo ms S H1 W1 H2 W2) : Evo ms (T ++ S) H W H2 W2 where
  imm := fun x o h m => b.imm x o (a.imm x o h m) m
  kp := fun x o h k => b.kp x o (a.kp x o h fun j hj => k j (List.mem_append_left _ hj)) fun j hj oj hx => by
    by_cases z : j ∈ T
    · rcases a.nw j z oj x hx with ⟨k', hk, ok, q⟩ | q
      · exact k k' (List.mem_append_left _ hk) ok q
      · rw [h] at q; cases q
    · rw [a.un j z] at hx; exact k j (List.mem_append_right _ hj) oj hx
  un := fun j hj => by
    rw [b.un j fun z => hj (List.mem_append_right _ z), a.un j fun z => hj (List.mem_append_left _ z)]
  nw := fun j hj oj x hx => by
    have fromW1 : ∀ k, k ∈ T ++ S → owns ms k = true → x ∈ W1 k → (∃ k ∈ T ++ S, owns ms k = true ∧ x ∈ W k) ∨ H x = none := fun k hk ok q => by
      by_cases z : k ∈ T
      · rcases a.nw k z ok x q with ⟨k', hk', ok', q'⟩ | q'
        · exact .inl ⟨k', List.mem_append_left _ hk', ok', q'⟩
        · exact .inr q'
      · rw [a.un k z] at q; exact .inl ⟨k, hk, ok, q⟩
    by_cases z : j ∈ S
    · rcases b.nw j z oj x hx with ⟨k, hk, ok, q⟩ | q
      · exact fromW1 k (List.mem_append_right _ hk) ok q
      · exact .inr (a.dom x q)
    · rw [b.un j z] at hx
      exact fromW1 j hj oj hx
  dom := fun x h => a.dom x (b.dom x h)
theorem Evo.new {T : List Nat} {H : Hp} {W : Own} {p : Addr} {o : HO} (h : H p = none) : Evo ms T H W (upd H p o) W where
  imm := fun a u e _ => by rw [upd_ne (ne_of_none e h)]; exact e
  kp := fun a u e _ => by rw [upd_ne (ne_of_none e h)]; exact e
  un := fun _ _ => rfl
  nw := fun j hj oj a q => .inl ⟨j, hj, oj, q⟩
  dom := fun a q => by
    by_cases z : a = p
    · subst z; rw [upd_same] at q; cases q
    · rwa [upd_ne z] at q
theorem Evo.ext {T : List Nat} {H H' : Hp} {W : Own} (h : ∀ a o, H a = some o → H' a = some o) : Evo ms T H W H' W :=
  ⟨fun a o e _ => h a o e, fun a o e _ => h a o e, fun _ _ => rfl, fun j hj oj a q => .inl ⟨j, hj, oj, q⟩, fun a q => by
    cases e : H a with
    | none => rfl
    | some o => rw [h a o e] at q; cases q⟩
/-- nothing but new objects: what was stands -/
theorem Evo.all {H H' : Hp} {W W' : Own} (e : Evo ms [] H W H' W') : ∀ a o, H a = some o → H' a = some o := fun a o q => e.kp a o q fun _ hj => nomatch hj
end

/-- a def's table of code objects -/
def tabP (P : Addr) : Heap → Prop := fun h => ∃ ps : Array Value, h.get? P = some { cls := .none, data := .fields ps } ∧ TriplesOk ps.toList
def TabO (P : Addr) : HO := .ext (tabP P)
/-- the defs' code objects, with their tables -/
def tabsK (K : PySem.W.Frag) : List (Addr × Addr) := K.filterMap fun p => match p.2.data with
  | .func fd => (match fd.code with
    | .ref c => (match K.lookup c with
      | some o => (match o.data with
        | .fields vs => (match (vs[11]? : Option Value) with
          | some (.ref P) => some (c, P)
          | _ => none)
        | _ => none)
      | none => none)
    | _ => none)
  | _ => none
def Tabs (K : PySem.W.Frag) (H : Hp) : Prop := ∀ p ∈ tabsK K, H p.2 = some (TabO p.2)
theorem Tabs.imm {K : PySem.W.Frag} {H H' : Hp} (t : Tabs K H) (h : ∀ a o, H a = some o → mutO o = false → H' a = some o) : Tabs K H' := fun p hp => h p.2 _ (t p hp) rfl
/-- the slots show ρ; W: what each leads to -/
structure Sts (K : PySem.W.Frag) (H : Hp) (ms : List Bool) (σ : St) (ρ : Env) (W : Own) : Prop where
  sl : ∀ i d, getS ρ i = some d → ∃ v, σ[i]? = some (some v) ∧ Rp K H v d (W i)
  em : ∀ i, getS ρ i = none → W i = []
  ln : ρ.length = σ.length
  lm : σ.length = ms.length
  nd : ∀ i, owns ms i = true → (W i).Nodup
  dj : ∀ i j a, owns ms i = true → j ≠ i → a ∈ W i → a ∉ W j
  tb : Tabs K H
/-- a value: s the slots that may own parts of it; o: all of it is its own -/
structure Vt (ms : List Bool) (T : List Nat) (o : Bool) (s : List Nat) (H : Hp) (W W' : Own) (A : List Addr) : Prop where
  ap : ∀ a ∈ A, ∀ j, owns ms j = true → j ∉ s → a ∉ W' j
  al : o = true → ∀ a ∈ A, ∀ j, a ∉ W' j
  nd : o = true → A.Nodup
  og : o = true → ∀ a ∈ A, (∃ k ∈ T, owns ms k = true ∧ a ∈ W k) ∨ H a = none
  os : o = true → s = []
section
variable {K : PySem.W.Frag} {H H' : Hp} {ms : List Bool} {σ : St} {ρ ρ' : Env} {W W' : Own} {T S : List Nat} {v : V} {d : D} {A B : List Addr} {o : Bool} {s : List Nat}
theorem ft {P : Prop} (h : false = true) : P := Bool.noConfusion h
theorem getS_set (ρ : Env) (i j : Nat) (x : Option D) : getS (ρ.set i x) j = if i = j ∧ i < ρ.length then x else getS ρ j := by
  unfold getS
  rw [List.getElem?_set]
  by_cases h : i = j
  · subst h
    by_cases h2 : i < ρ.length
    · simp [h2]
    · simp [h2]
  · simp [h]
theorem getS_lt {i : Nat} (h : getS ρ i = some d) : i < ρ.length := by
  unfold getS at h
  cases e : ρ[i]? with
  | none => rw [e] at h; cases h
  | some x => exact (List.getElem?_eq_some_iff.mp e).1
theorem Rp.evo (r : Rp K H v d A) (e : Evo ms T H W H' W') (h : ∀ a ∈ A, ∀ j ∈ T, owns ms j = true → a ∉ W j) : Rp K H' v d A := r.keep e.imm fun a ha o q => e.kp a o q (h a ha)
theorem Rps.evo {vs : List V} {ds : List D} (r : Rps K H vs ds A) (e : Evo ms T H W H' W') (h : ∀ a ∈ A, ∀ j ∈ T, owns ms j = true → a ∉ W j) : Rps K H' vs ds A := r.keep e.imm fun a ha o q => e.kp a o q (h a ha)
theorem alive_ne (r : Rp K H v d A) : ∀ a ∈ A, H a ≠ none := fun a ha => by
  obtain ⟨o, e, _⟩ := r.alive a ha
  rw [e]; exact fun z => nomatch z
theorem alives_ne {vs : List V} {ds : List D} (r : Rps K H vs ds A) : ∀ a ∈ A, H a ≠ none := fun a ha => by
  obtain ⟨o, e, _⟩ := r.alive a ha
  rw [e]; exact fun z => nomatch z
/-- a value's standing behind a later change at slots that it does not view -/
theorem Vt.evo {W0 : Own} {H0 : Hp} {T0 : List Nat} (alive : ∀ a ∈ A, H a ≠ none) (t : Vt ms T0 o s H0 W0 W A) (e : Evo ms T H W H' W') (h : ∀ j ∈ s, j ∉ T) (hT : ∀ j ∈ T, owns ms j = true) : Vt ms T0 o s H0 W0 W' A :=
  ⟨fun a ha j oj hj q => by
    by_cases z : j ∈ T
    · rcases e.nw j z oj a q with ⟨k, hk, ok, q'⟩ | q'
      · exact t.ap a ha k ok (fun w => h k w hk) q'
      · exact alive a ha q'
    · rw [e.un j z] at q; exact t.ap a ha j oj hj q, fun ho a ha j q => by
    by_cases z : j ∈ T
    · rcases e.nw j z (hT j z) a q with ⟨k, hk, ok, q'⟩ | q'
      · exact t.al ho a ha k q'
      · exact alive a ha q'
    · rw [e.un j z] at q; exact t.al ho a ha j q, t.nd, t.og, t.os⟩
/-- what a view leads to is out of reach of a change at other slots -/
theorem Vt.out {W0 : Own} {H0 : Hp} {T0 : List Nat} (t : Vt ms T0 o s H0 W0 W A) (h : ∀ j ∈ s, j ∉ T) : ∀ a ∈ A, ∀ j ∈ T, owns ms j = true → a ∉ W j := fun a ha j hj oj => t.ap a ha j oj fun z => h j z hj
theorem Vt.sub (t : Vt ms T o s H W W' A) (h : ∀ a ∈ B, a ∈ A) : Vt ms T false s H W W' B := ⟨fun a ha => t.ap a (h a ha), ft, ft, ft, ft⟩
theorem Vt.weak (t : Vt ms T o s H W W' A) : Vt ms T false s H W W' A := t.sub fun _ h => h
theorem Vt.part (t : Vt ms T o s H W W' A) (h : ∀ a ∈ B, a ∈ A) (n : o = true → B.Nodup) : Vt ms T o s H W W' B := ⟨fun a ha => t.ap a (h a ha), fun z a ha => t.al z a (h a ha), n, fun z a ha => t.og z a (h a ha), t.os⟩
theorem Vt.nil : Vt ms T true [] H W W' [] := ⟨fun _ h => (nomatch h), fun _ _ h => (nomatch h), fun _ => List.nodup_nil, fun _ _ h => (nomatch h), fun _ => rfl⟩
theorem Vt.nilS : Vt ms T false s H W W' [] := ⟨fun _ h => (nomatch h), ft, ft, ft, ft⟩
theorem Vt.monoT (t : Vt ms T o s H W W' A) (h : ∀ j ∈ T, j ∈ S) : Vt ms S o s H W W' A := ⟨t.ap, t.al, t.nd, fun z a ha => by
  rcases t.og z a ha with ⟨k, hk, q⟩ | q
  · exact .inl ⟨k, h k hk, q⟩
  · exact .inr q, t.os⟩
theorem Vt.monoS {s' : List Nat} (t : Vt ms T false s H W W' A) (h : ∀ j ∈ s, j ∈ s') : Vt ms T false s' H W W' A := ⟨fun a ha j oj hj => t.ap a ha j oj fun z => hj (h j z), ft, ft, ft, ft⟩
/-- seen from an earlier state -/
theorem Vt.back {H1 : Hp} {W1 : Own} (e : Evo ms T H W H1 W1) (t : Vt ms S o s H1 W1 W' A) : Vt ms (T ++ S) o s H W W' A := ⟨t.ap, t.al, t.nd, fun z a ha => by
  rcases t.og z a ha with ⟨k, hk, ok, q⟩ | q
  · by_cases y : k ∈ T
    · rcases e.nw k y ok a q with ⟨k', hk', q'⟩ | q'
      · exact .inl ⟨k', List.mem_append_left _ hk', q'⟩
      · exact .inr q'
    · rw [e.un k y] at q; exact .inl ⟨k, List.mem_append_right _ hk, ok, q⟩
  · exact .inr (e.dom a q), t.os⟩
/-- new objects alone -/
theorem Sts.ext (st : Sts K H ms σ ρ W) (h : ∀ a o, H a = some o → H' a = some o) : Sts K H' ms σ ρ W :=
  ⟨fun i d e => by
    obtain ⟨v, e1, r⟩ := st.sl i d e
    exact ⟨v, e1, r.keep (fun a o e _ => h a o e) fun a _ o e => h a o e⟩, st.em, st.ln, st.lm, st.nd, st.dj, st.tb.imm fun a o e _ => h a o e⟩
def Own.put (W : Own) (i : Nat) (A : List Addr) : Own := fun j => if j = i then A else W j
theorem Own.put_same {i : Nat} : Own.put W i A i = A := if_pos rfl
theorem Own.put_ne {i j : Nat} (h : j ≠ i) : Own.put W i A j = W j := if_neg h
/-- a slot gives its value away, or is forgotten -/
theorem Sts.moved (i : Nat) (st : Sts K H ms σ ρ W) : Sts K H ms σ (ρ.set i none) (Own.put W i []) where
  sl := fun j d e => by
    rw [getS_set] at e
    by_cases z : i = j ∧ i < ρ.length
    · rw [if_pos z] at e; cases e
    · rw [if_neg z] at e
      have ne : j ≠ i := fun y => by subst y; exact z ⟨rfl, getS_lt e⟩
      rw [Own.put_ne ne]
      exact st.sl j d e
  em := fun j h => by
    by_cases y : j = i
    · subst y; exact Own.put_same
    · rw [Own.put_ne y]
      refine st.em j ?_
      rw [getS_set, if_neg (fun z => y z.1.symm)] at h
      exact h
  tb := st.tb
  ln := by rw [List.length_set]; exact st.ln
  lm := st.lm
  nd := fun j oj => by
    by_cases y : j = i
    · subst y; rw [Own.put_same]; exact List.nodup_nil
    · rw [Own.put_ne y]; exact st.nd j oj
  dj := fun j k a oj ne h1 h2 => by
    by_cases y : j = i
    · subst y; rw [Own.put_same] at h1; cases h1
    · by_cases z : k = i
      · subst z; rw [Own.put_same] at h2; cases h2
      · rw [Own.put_ne y] at h1; rw [Own.put_ne z] at h2; exact st.dj j k a oj ne h1 h2
/-- the slots' values forgotten by σ -/
theorem Sts.weakσ {σ' : St} (st : Sts K H ms σ ρ W) (hl : σ'.length = σ.length) (h : ∀ i d v, getS ρ i = some d → σ[i]? = some (some v) → σ'[i]? = some (some v)) : Sts K H ms σ' ρ W :=
  ⟨fun i d e => by obtain ⟨v, e1, r⟩ := st.sl i d e; exact ⟨v, h i d v e e1, r⟩, st.em, st.ln.trans hl.symm, hl.trans st.lm, st.nd, st.dj, st.tb⟩
/-- a slot takes a value -/
theorem Sts.store {i : Nat} (st : Sts K H ms σ ρ W) (hi : i < ms.length) (r : Rp K H v d A)
    (ap : ∀ a ∈ A, ∀ j, owns ms j = true → a ∉ W j) (al : owns ms i = true → ∀ a ∈ A, ∀ j, a ∉ W j) (nd : owns ms i = true → A.Nodup) :
    Sts K H ms (σ.set i (some v)) (ρ.set i (some d)) (Own.put W i A) where
  tb := st.tb
  ln := by rw [List.length_set, List.length_set]; exact st.ln
  lm := by rw [List.length_set]; exact st.lm
  sl := fun j e' e => by
    have hl := st.ln
    have hm := st.lm
    have hi : i < ρ.length := by omega
    rw [getS_set] at e
    by_cases z : i = j ∧ i < ρ.length
    · rw [if_pos z] at e; cases e
      obtain ⟨rfl, _⟩ := z
      refine ⟨v, by rw [List.getElem?_set_self (by omega)], by rw [Own.put_same]; exact r⟩
    · rw [if_neg z] at e
      obtain ⟨u, e1, r1⟩ := st.sl j e' e
      have ne : j ≠ i := fun y => by subst y; exact z ⟨rfl, hi⟩
      exact ⟨u, by rw [List.getElem?_set_ne (Ne.symm ne)]; exact e1, by rw [Own.put_ne ne]; exact r1⟩
  em := fun j h => by
    by_cases y : j = i
    · subst y
      have hl := st.ln
      have hm := st.lm
      rw [getS_set, if_pos ⟨rfl, by omega⟩] at h; cases h
    · rw [Own.put_ne y]
      refine st.em j ?_
      rw [getS_set, if_neg (fun z => y z.1.symm)] at h
      exact h
  nd := fun j oj => by
    by_cases y : j = i
    · subst y; rw [Own.put_same]; exact nd oj
    · rw [Own.put_ne y]; exact st.nd j oj
  dj := fun j k a oj ne h1 h2 => by
    by_cases y : j = i
    · subst y
      rw [Own.put_same] at h1
      rw [Own.put_ne ne] at h2
      exact al oj a h1 k h2
    · rw [Own.put_ne y] at h1
      by_cases z : k = i
      · subst z
        rw [Own.put_same] at h2
        exact ap a h2 j oj h1
      · rw [Own.put_ne z] at h2; exact st.dj j k a oj ne h1 h2
end
end Vi

set_option Elab.async false
set_option linter.all false
set_option maxRecDepth 100000
set_option maxHeartbeats 4000000
/-! The weakest readings. -/
namespace Vi
open PySem L2

def wpE (X : Cx) (e : Expr) : TE := fun σ H Q => ∀ pins s, Inv X pins σ H s → wpAny (model X.prog X.w) X.A (eval e X.env) (EP X pins σ Q) X.xe s
def wpT (X : Cx) (e : Expr) : TT := fun σ H Q => ∀ pins s, Inv X pins σ H s → wpAny (model X.prog X.w) X.A (isTrue e X.env (eval e X.env)) (TP X pins σ Q) X.xe s
def wpW (X : Cx) (e : Expr) : TT := fun σ H Q => ∀ whole pins s, Inv X pins σ H s → wpAny (model X.prog X.w) X.A (isTrue e X.env whole) (TP X pins σ Q) X.xe s
def wpA (X : Cx) (es : List Expr) : TA := fun σ H Q => ∀ pos pins s, Inv X pins σ H s → wpAny (model X.prog X.w) X.A (spliced (backTo pos (starEach es X.env))) (AP X pins σ Q) X.xe s
def wpS (X : Cx) (st : Stmt) : TS := fun D σ H => ∀ pins s, Inv X pins σ H s → wpAny (model X.prog X.w) X.A (exec st X.env) (SP X pins D) X.xe s
def wpSs (X : Cx) (st : List Stmt) : TS := fun D σ H => ∀ pins s, Inv X pins σ H s → wpAny (model X.prog X.w) X.A (execs st X.env) (SP X pins D) X.xe s
def wpG (X : Cx) (tg : Expr) : TG := fun v σ H Q => ∀ pins s u, Inv X pins σ H s → RelV v u → wpAny (model X.prog X.w) X.A (assign tg X.env u) (fun _ s' => ∃ σ' H', Inv X pins σ' H' s' ∧ Q σ' H') X.xe s
def wpGs (X : Cx) (ts : List Expr) : TGs := fun vs σ H Q => ∀ pins s us, Inv X pins σ H s → Vals vs us → wpAny (model X.prog X.w) X.A (assignInOrder ((assignEach ts X.env).map (·.2)) us) (fun _ s' => ∃ σ' H', Inv X pins σ' H' s' ∧ Q σ' H') X.xe s
def wpI (X : Cx) (tg e : Expr) : TI := fun σ H R => ∀ pins s, Inv X pins σ H s → wpAny (model X.prog X.w) X.A (eval e X.env) (fun v s1 => wpAny (model X.prog X.w) X.A (pyIter v) (PIE X pins σ tg R) X.xe s1) X.xe s
def wpO (X : Cx) (e : Option Expr) : TO := fun σ H Q => ∀ pins s, Inv X pins σ H s → wpAny (model X.prog X.w) X.A (evalPart e X.env) (fun u s' => ∃ o H', Inv X pins σ H' s' ∧ IsPart u o ∧ Q o H') X.xe s
section
variable {X : Cx} {e : Expr} {es : List Expr} {σ : St} {H : Hp}
theorem pe (X : Cx) (e : Expr) : PE X e (wpE X e) := ⟨fun pins s _ _ _ I h => h pins s I⟩
theorem pt (X : Cx) (e : Expr) : PT X e (wpT X e) := ⟨fun pins s _ _ _ I h => h pins s I⟩
theorem pw (X : Cx) (e : Expr) : PW X e (wpW X e) := ⟨fun w pins s _ _ _ I h => h w pins s I⟩
theorem pa (X : Cx) (es : List Expr) : PA X es (wpA X es) := ⟨fun pos pins s _ _ _ I h => h pos pins s I⟩
theorem ps (X : Cx) (st : Stmt) : PS X st (wpS X st) := ⟨fun pins s _ _ _ I h => h pins s I⟩
theorem pss (X : Cx) (st : List Stmt) : PSs X st (wpSs X st) := ⟨fun pins s _ _ _ I h => h pins s I⟩
theorem pg (X : Cx) (tg : Expr) : PG X tg (wpG X tg) := ⟨fun pins s _ _ _ u _ I r h => h pins s u I r⟩
theorem pgs (X : Cx) (ts : List Expr) : PGs X ts (wpGs X ts) := ⟨fun pins s _ _ _ us _ I r h => h pins s us I r⟩
theorem pi (X : Cx) (tg e : Expr) : PI X tg e (wpI X tg e) := ⟨fun pins s _ _ _ I h => h pins s I⟩
theorem po (X : Cx) (e : Option Expr) : PO X e (wpO X e) := ⟨fun pins s _ _ _ I h => h pins s I⟩
theorem of_pe {t : TE} {Q : VK} (h : PE X e t) (q : t σ H Q) : wpE X e σ H Q := fun pins s I => h.run pins s σ H Q I q
theorem of_pt {t : TT} {Q : Bool → Hp → Prop} (h : PT X e t) (q : t σ H Q) : wpT X e σ H Q := fun pins s I => h.run pins s σ H Q I q
theorem of_pw {t : TT} {Q : Bool → Hp → Prop} (h : PW X e t) (q : t σ H Q) : wpW X e σ H Q := fun w pins s I => h.run w pins s σ H Q I q
theorem of_pa {t : TA} {Q : List V → Hp → Prop} (h : PA X es t) (q : t σ H Q) : wpA X es σ H Q := fun pos pins s I => h.run pos pins s σ H Q I q
theorem of_ps {st : Stmt} {t : TS} {D : Ends} (h : PS X st t) (q : t D σ H) : wpS X st D σ H := fun pins s I => h.run pins s σ H D I q
theorem of_pss {st : List Stmt} {t : TS} {D : Ends} (h : PSs X st t) (q : t D σ H) : wpSs X st D σ H := fun pins s I => h.run pins s σ H D I q
theorem of_pg {tg : Expr} {t : TG} {v : V} {Q : St → Hp → Prop} (h : PG X tg t) (q : t v σ H Q) : wpG X tg v σ H Q := fun pins s u I r => h.run pins s σ H v u Q I r q
theorem of_pgs {ts : List Expr} {t : TGs} {vs : List V} {Q : St → Hp → Prop} (h : PGs X ts t) (q : t vs σ H Q) : wpGs X ts vs σ H Q := fun pins s us I r => h.run pins s σ H vs us Q I r q
theorem of_pi {tg : Expr} {t : TI} {R : It → Hp → Prop} (h : PI X tg e t) (q : t σ H R) : wpI X tg e σ H R := fun pins s I => h.run pins s σ H R I q
theorem of_po {o : Option Expr} {t : TO} {Q : Option Int → Hp → Prop} (h : PO X o t) (q : t σ H Q) : wpO X o σ H Q := fun pins s I => h.run pins s σ H Q I q
theorem wpE_mono {Q Q' : VK} (h : wpE X e σ H Q) (hq : ∀ v H', Q v H' → Q' v H') : wpE X e σ H Q' := fun pins s I => thn (h pins s I) fun _ _ ⟨v, H', I', r, q⟩ => ⟨v, H', I', r, hq v H' q⟩
theorem wpT_mono {Q Q' : Bool → Hp → Prop} (h : wpT X e σ H Q) (hq : ∀ v H', Q v H' → Q' v H') : wpT X e σ H Q' := fun pins s I => thn (h pins s I) fun _ _ ⟨H', I', q⟩ => ⟨H', I', hq _ H' q⟩
theorem wpA_mono {Q Q' : List V → Hp → Prop} (h : wpA X es σ H Q) (hq : ∀ v H', Q v H' → Q' v H') : wpA X es σ H Q' := fun pos pins s I => thn (h pos pins s I) fun _ _ ⟨v, H', I', r, q⟩ => ⟨v, H', I', r, hq v H' q⟩
theorem wpO_mono {o : Option Expr} {Q Q' : Option Int → Hp → Prop} (h : wpO X o σ H Q) (hq : ∀ v H', Q v H' → Q' v H') : wpO X o σ H Q' := fun pins s I => thn (h pins s I) fun _ _ ⟨v, H', I', r, q⟩ => ⟨v, H', I', r, hq v H' q⟩
theorem wpG_mono {tg : Expr} {v : V} {Q Q' : St → Hp → Prop} (h : wpG X tg v σ H Q) (hq : ∀ σ' H', Q σ' H' → Q' σ' H') : wpG X tg v σ H Q' := fun pins s u I r => thn (h pins s u I r) fun _ _ ⟨σ', H', I', q⟩ => ⟨σ', H', I', hq σ' H' q⟩
theorem wpGs_mono {tg : List Expr} {v : List V} {Q Q' : St → Hp → Prop} (h : wpGs X tg v σ H Q) (hq : ∀ σ' H', Q σ' H' → Q' σ' H') : wpGs X tg v σ H Q' := fun pins s u I r => thn (h pins s u I r) fun _ _ ⟨σ', H', I', q⟩ => ⟨σ', H', I', hq σ' H' q⟩
theorem wpI_mono {tg : Expr} {R R' : It → Hp → Prop} (h : wpI X tg e σ H R) (hq : ∀ J H', R J H' → R' J H') : wpI X tg e σ H R' := fun pins s I => thn (h pins s I) fun _ _ h => thn h fun _ _ ⟨it, fp, tn, J, H', e, I', T, st, f, q⟩ => ⟨it, fp, tn, J, H', e, I', T, st, f, hq J H' q⟩
/-- with the heap's facts at hand -/
theorem wpE_inv {Q : VK} (h : ∀ pins s, Inv X pins σ H s → wpE X e σ H Q) : wpE X e σ H Q := fun pins s I => h pins s I pins s I

/-! by values -/
def wOp (X : Cx) (f : Value → Value → Sem Value) : R2 := fun x y H Q => ∀ pins s σ v u, Inv X pins σ H s → RelV x v → RelV y u → wpAny (model X.prog X.w) X.A (f v u) (EP X pins σ Q) X.xe s
theorem opR (X : Cx) (f : Value → Value → Sem Value) : OpR X f (wOp X f) := fun pins s σ _ _ _ v u _ I rx ry h => h pins s σ v u I rx ry
theorem of_op {f : Value → Value → Sem Value} {r : R2} {x y : V} {Q : VK} (h : OpR X f r) (q : r x y H Q) : wOp X f x y H Q := fun pins s σ v u I rx ry => h pins s σ H x y v u Q I rx ry q
def wCall (X : Cx) (f : Value) : List V → Hp → VK → Prop := fun xs H Q => ∀ pins s σ us, Inv X pins σ H s → Vals xs us → wpAny (model X.prog X.w) X.A (call f us) (EP X pins σ Q) X.xe s
theorem callR (X : Cx) (f : Value) : CallR X f (wCall X f) := fun pins s σ _ _ us _ I r h => h pins s σ us I r
theorem of_call {f : Value} {r : List V → Hp → VK → Prop} {xs : List V} {Q : VK} (h : CallR X f r) (q : r xs H Q) : wCall X f xs H Q := fun pins s σ us I rv => h pins s σ H xs us Q I rv q
def wMt (X : Cx) (id : String) : V → List V → Hp → VK → Prop := fun x xs H Q => ∀ pins s σ v us, Inv X pins σ H s → RelV x v → Vals xs us → wpAny (model X.prog X.w) X.A (call (.builtin id) (v :: us)) (EP X pins σ Q) X.xe s
theorem mtR (X : Cx) (id : String) : MtR X id (wMt X id) := fun pins s σ _ _ _ v us _ I rx r h => h pins s σ v us I rx r
theorem of_mt {id : String} {r : V → List V → Hp → VK → Prop} {x : V} {xs : List V} {Q : VK} (h : MtR X id r) (q : r x xs H Q) : wMt X id x xs H Q := fun pins s σ v us I rx rv => h pins s σ H x xs v us Q I rx rv q
def wIx (X : Cx) : R2 := fun x y H Q => ∀ value slice pins s σ v u, Inv X pins σ H s → RelV x v → RelV y u → subscripted slice false v u = operate [v, u] (getItem v u) → wpAny (model X.prog X.w) X.A (PyProof.Rows.subscriptTail value slice v u) (EP X pins σ Q) X.xe s
theorem ixR (X : Cx) : IxR X (wIx X) := fun value slice pins s σ _ _ _ v u _ I rx ry h hs => h value slice pins s σ v u I rx ry hs
theorem of_ix {r : R2} {x y : V} {Q : VK} (h : IxR X r) (q : r x y H Q) : wIx X x y H Q := fun value slice pins s σ v u I rx ry hs => h value slice pins s σ H x y v u Q I rx ry q hs
end

/-! the syntax' small facts -/
def notStar : Expr → Bool
  | .Starred _ _ => false
  | _ => true
theorem star_cons {e : Expr} (h : notStar e = true) (es : List Expr) (env : PySem.Env) : starEach (e :: es) env = (false, eval e env) :: starEach es env := by
  cases e <;> first | rfl | cases h
theorem star_all : ∀ {es : List Expr} (_ : es.all notStar = true) (env : PySem.Env) (pos : Pos), (backTo pos (starEach es env)).any (·.1) = false
  | [], _, _, _ => rfl
  | e :: es, h, env, pos => by
    have h' : notStar e = true ∧ es.all notStar = true := by simpa only [List.all_cons, Bool.and_eq_true] using h
    rw [star_cons h'.1]
    have := star_all (es := es) h'.2 env pos
    show (false || (backTo pos (starEach es env)).any (·.1)) = false
    rw [this]; rfl
theorem wpA_cons {X : Cx} {e : Expr} {es : List Expr} {σ : St} {H : Hp} {Q : List V → Hp → Prop} (hs : notStar e = true) (h : wpE X e σ H fun v H1 => wpA X es σ H1 fun vs H2 => Q (v :: vs) H2) : wpA X (e :: es) σ H Q :=
  of_pa (pa_cons (pe X e) (pa X es) (star_cons hs es X.env)) h
theorem wpA_nil {X : Cx} {σ : St} {H : Hp} {Q : List V → Hp → Prop} (h : Q [] H) : wpA X [] σ H Q := of_pa pa_nil h
/-- not a comprehension: a plain assignment -/
def noLc : Expr → Bool
  | .ListComp _ _ _ _ => false
  | .SetComp _ _ _ _ => false
  | .DictComp _ _ _ _ _ => false
  | _ => true
theorem swaps_no {e : Expr} (h : noLc e = true) (t : Option Expr) (l : Nat) (env : PySem.Env) : swapsWith e t l env = pure false := by
  cases e <;> first | rfl | cases h
/-- its test is its value's truth -/
def plainT : Expr → Bool
  | .UnaryOp .Not _ _ => false
  | .BoolOp _ _ _ => false
  | .IfExp _ _ _ _ => false
  | .Compare _ _ _ _ => false
  | _ => true
theorem plainT_eq {e : Expr} (h : plainT e = true) (env : PySem.Env) : ∀ whole, isTrue e env whole = (do let v ← whole; standAt e.pos; holding [v] (truthy v)) := by
  intro whole
  cases e with
  | UnaryOp op x p => cases op <;> first | rfl | cases h
  | BoolOp _ _ _ => cases h
  | IfExp _ _ _ _ => cases h
  | Compare _ _ _ _ => cases h
  | _ => rfl
def notSlice : Expr → Bool
  | .Slice _ _ _ _ => false
  | _ => true
theorem plainIx {e : Expr} (h : notSlice e = true) : PlainIx e := by
  intro o i
  cases e <;> first | rfl | cases h
theorem noSl {e : Expr} (h : notSlice e = true) : NoSl e := by
  intro o i
  cases e <;> first | rfl | cases h
def notSet : Expr → Bool
  | .Set _ _ _ => false
  | _ => true
theorem noFold {e : Expr} (h : notSet e = true) (env : PySem.Env) : ∀ x, foldedSetIterable e env x = pure x := by
  intro x
  cases e <;> first | rfl | cases h
/-- an attribute's base is read plainly -/
def notCall : Expr → Bool
  | .Call _ (_ :: _) _ _ => true
  | .Call _ _ _ _ => false
  | _ => true
theorem base_eq {o : Expr} (h : notCall o = true) (nm : Str) (env : PySem.Env) : attributeBase o nm env (eval o env) = eval o env := by
  cases o with
  | Call f es ks p =>
    cases es with
    | nil => cases h
    | cons e es => cases f <;> rfl
  | _ => rfl
end Vi

set_option Elab.async false
set_option linter.all false
set_option maxRecDepth 100000
set_option maxHeartbeats 4000000
/-! any, all of a generator expression: the machine's side. -/
namespace Vi
open PySem PySem.Spec PyProof.Rows L2
open Sem (wp)

/-! ### a def's table of code objects -/
theorem tabO_ok {Pr : Program} {w : World} {H : Hp} {h : Heap} {P : Addr} (x : tabP P h) : ObjOk Pr w H h P (TabO P) := by
  obtain ⟨ps, e, t⟩ := x
  exact ⟨⟨ps, e, t⟩, ⟨_, e⟩, fun _ _ ⟨qs, a, b⟩ k => ⟨qs, k _ a, b⟩⟩
theorem tabO_at {Pr : Program} {w : World} {H : Hp} {h : Heap} {P : Addr} (x : HOk Pr w H h) (e : H P = some (TabO P)) : tabP P h := (x P _ e).1
theorem upd_id {H : Hp} {a : Addr} {o : HO} (e : H a = some o) : upd H a o = H := by
  funext b
  unfold upd
  split
  · rename_i z; rw [z]; exact e.symm
  · rfl
section
variable {X : Cx} {pins : List (Addr × Obj)} {σ : L2.St} {H : Hp} {s : Shared}
theorem inv_grow {P : Addr} {h' : Heap} {t' : Nat} (I : Inv X pins σ H s) (e : H P = some (TabO P)) (k : ∀ b u, b ≠ P → s.heap.get? b = some u → h'.get? b = some u) (n : tabP P h') : Inv X pins σ H { s with heap := h', toks := t' } := by
  obtain ⟨ps, a, b⟩ := id n
  have z := I.write (x := P) (e := P) (o := TabO P) (t' := t') (h' := h') (by rw [e]; trivial) (.inl rfl) k ⟨_, a⟩ (tabO_ok n)
  rwa [upd_id e] at z
/-- asleep between two turns: nothing is lost -/
structure Slp (s s' : Shared) : Prop where
  os : s'.os = s.os
  bare : AllBare s'.gens
  keep : ∀ b o, s.heap.get? b = some o → s'.heap.get? b = some o
theorem inv_slp {s' : Shared} (I : Inv X pins σ H s) (z : Slp s s') : Inv X pins σ H s' := by
  obtain ⟨h', g', d', t', o'⟩ := s'
  have e : o' = s.os := z.os
  subst e
  have K := z.keep
  refine I.step (g' := g') (d' := d') (t' := t') (h' := h') (ch := []) (fun _ h => nomatch h) (fun b o _ _ _ e _ => K b o e) (fun b o _ _ _ e _ => ⟨o.slots, K b o e⟩) (fun _ _ _ _ n => n) (fun b o _ e => ⟨o, K b o e⟩)
    (fun _ _ e => e) (fun _ _ _ e => e) (fun b ps e => ⟨#[], by rw [e]; simp⟩) (fun m hm => hm.keeps K) (I.hok.kept K) z.bare
end

/-! ### the frame of a generator expression -/
theorem newEnv_gen {M : Model} {A : Around} {E : Value → Shared → Prop} {s : Shared} {sc : Scope} {gs : Addr} {clo : List (Str × Addr)} {it : Value} {q : Str} {cd : Value} {bi : Addr} {Q : PySem.Env → Shared → Prop}
    (hk : sc.kind = .function) (h0 : sc.names.lookup (".0" : Str) = some NameKind.local)
    (h : ∀ h', h'.Ns s.heap.objs.size (fun y => if y = (".0" : Str) then some it else none) → Heap.SameBut s.heap.objs.size (pushCells (s.heap.push { cls := .type "frame", data := .dict #[] }) sc.names) h' →
      Q (newEnv sc s.heap.objs.size gs (cellsFrom (s.heap.objs.size + 1) sc.names clo) q none cd none bi) { s with heap := h', toks := s.toks + 1 }) :
    wpAny M A (newFunctionEnv sc gs clo [(".0", it)] q none cd none bi) Q E s := by
  simp only [newFunctionEnv, Option.isSome_none, Bool.false_eq_true, if_false]
  refine wpAny_bind (wpAny_alloc ?_)
  refine wpAny_bind (wpAny_layCells _ (fun name kind cells => by cases hkc : kind == NameKind.cell <;> simp [hkc]) _ _ _ _ ?_)
  rw [show ({ s with heap := s.heap.push { cls := .type "frame", data := .dict #[] } } : Shared).heap.objs.size = s.heap.objs.size + 1 from Heap.size_push ..]
  rw [List.forIn_cons]
  refine wpAny_bind (wpAny_bind (wpAny_bind (wpAny_storeName_local (m := fun _ => none) h0 ((Heap.Ns.new s.heap (.type "frame")).keeps (pushCells_keeps _ _)) (fun h' hn hs => ?_) ?_)))
  · refine wpAny_pure ?_
    simp only [List.forIn_nil]
    exact wpAny_pure (wpAny_pure (h h' hn hs))
  · show (sc.kind == .class || (sc.kind == .module && _)) = false
    rw [hk]; rfl

/-- its own context -/
abbrev genv (X : Cx) (sc : Scope) (L : Addr) (cl : List (Str × Addr)) (cd : Value) : PySem.Env := newEnv sc L X.env.globals cl (X.env.qual ++ "<genexpr>.") none cd none builtinsNs
abbrev gx (X : Cx) (A' : Around) (s : Shared) (H : Hp) (e : PySem.Env) (fp : List Addr) (pn : List (Addr × Obj)) : Cx := { X with A := A', s_0 := s, H_0 := H, env := e, outer := X.stack, stack := e :: X.stack, ex := fp, fn := fun x => e.scope.names.lookup x == some .cell, pn := pn, xe := fun _ _ => False }
abbrev gcl (X : Cx) (s : Shared) (sc : Scope) : List (Str × Addr) := cellsFrom (s.heap.objs.size + 1) sc.names (cloFrom X.env.cells sc.names [])
section
variable {X : Cx} {pins : List (Addr × Obj)} {σ : L2.St} {H : Hp} {s : Shared}
theorem gen_start {sc : Scope} {own : List (Str × Nat)} {fp : List Addr} {A' : Around} {cd : Value} {h2 : Heap} {g2 : Array GenState} {t2 : Nat} {it : Value} {ga : Addr} {go : Obj} (I : Inv X pins σ H s) (ok : BlkOk X.N X.env.scope sc own) (hN : X.N.Nodup) (hfp : ∀ b ∈ fp, FpOk X pins H b ∧ b < s.heap.objs.size)
    (hA : A'.handled = none) (hfr : A'.frames = some (genv X sc s.heap.objs.size (gcl X s sc) cd :: X.stack)) (hg : AllBare g2) (hga : s.heap.objs.size < ga) (hgo : h2.get? ga = some go) (hgd : ∀ v, go.data ≠ .cell v) (hdot : (".0" : Str) ∉ X.N)
    (hns : h2.Ns s.heap.objs.size (fun y => if y = (".0" : Str) then some it else none)) (hk2 : ∀ b o, b ≠ s.heap.objs.size → (pushCells (s.heap.push { cls := .type "frame", data := .dict #[] }) sc.names).get? b = some o → h2.get? b = some o) :
    Inv (gx X A' s H (genv X sc s.heap.objs.size (gcl X s sc) cd) fp [(ga, go)]) [] (wipe σ (own.map (·.2))) H { s with heap := h2, gens := g2, toks := t2 } := by
  have hfree : ∀ y ∈ sc.names, y.2 = .free → ∃ c, X.env.cells.lookup y.1 = some c := fun y hy e => (ok.free y hy e).elim (fun z => I.ok.has _ (.inl z)) fun z => I.ok.has _ (.inr z)
  have kp : ∀ b o, s.heap.get? b = some o → h2.get? b = some o := fun b o e => hk2 b o (Nat.ne_of_lt (Heap.lt_size e)) (pushCells_keeps _ _ _ _ (Heap.get?_push_of_some _ e))
  generalize hL : s.heap.objs.size = L at hns hk2 hfr hfp hga ⊢
  have szp : (s.heap.push { cls := .type "frame", data := .dict #[] }).objs.size = L + 1 := by rw [Heap.size_push, hL]
  have hgcl : gcl X s sc = cellsFrom (s.heap.push { cls := .type "frame", data := .dict #[] }).objs.size sc.names (cloFrom X.env.cells sc.names []) := by
    rw [Heap.size_push]
  generalize hC : gcl X s sc = C at hfr ⊢
  rw [hC] at hgcl
  have cm : ∀ {y c}, (y, c) ∈ cloFrom X.env.cells sc.names [] → X.env.cells.lookup y = some c ∧ c < L := fun {y c} hm => by
    rcases cloFrom_mem hm with hm | ⟨h1, rfl⟩
    · cases hm
    · obtain ⟨c, hc⟩ := hfree _ h1 rfl
      obtain ⟨_, z⟩ := I.cell _ _ hc
      rw [hc]
      exact ⟨rfl, by have := z.lt; rw [hL] at this; exact this⟩
  have mem : ∀ {y c}, C.lookup y = some c → (X.env.cells.lookup y = some c ∧ c < L) ∨ (L + 1 ≤ c ∧ h2.IsCell c none) := fun {y c} e => by
    rw [hgcl] at e
    rcases cells_mem (PySem.mem_of_lookup e) with hm | ⟨_, a, z⟩
    · exact .inl (cm hm)
    · rw [szp] at a
      obtain ⟨o, ho, hd⟩ := z
      exact .inr ⟨a, o, hk2 _ _ (Nat.ne_of_gt a) ho, hd⟩
  have look : ∀ {y}, sc.names.lookup y = some .free → ∃ c, C.lookup y = some c ∧ X.env.cells.lookup y = some c := fun {y} hl => by
    have hy := PySem.mem_of_lookup hl
    obtain ⟨c', e'⟩ := mem_lookup (cells_acc (names := sc.names) (n := (s.heap.push { cls := .type "frame", data := .dict #[] }).objs.size) (cloFrom_has (cells := X.env.cells) (acc := []) hy))
    have e2 := e'
    rw [← hgcl] at e'
    refine ⟨c', e', ?_⟩
    rcases cells_mem (PySem.mem_of_lookup e2) with hm | ⟨h1, _, _⟩
    · exact (cm hm).1
    · have := ok.uniq _ h1
      rw [hl] at this; cases this
  have okG : (gx X A' s H (genv X sc L C cd) fp [(ga, go)]).Ok := by
    refine { mod := I.ok.mod, kind := ok.kind, glob := I.ok.glob, blt := rfl, above := Nat.le_of_eq hL, inj := fun y z c e1 e2 => ?_, has := fun y hy => ?_, cab := fun y c z e => ?_, hd := fun _ => hA, frames := hfr, stk := .inr ⟨rfl, rfl⟩,
             exf := fun b hb => ⟨Nat.ne_of_lt (hfp b hb).2, fun y c e z => ?_⟩, bs := I.bs, bsz := Nat.le_trans I.ok.bsz I.sz, noex := fun b o e hb => ?_, exfs := fun b hb z => ?_, funs := I.stack, frf := I.stkFree }
    · have e1 : C.lookup y = some c := e1
      have e2 : C.lookup z = some c := e2
      rw [hgcl] at e1 e2
      refine cells_inj (fun p hp => ?_) (fun y z c a b => I.ok.inj y z c (cm a).1 (cm b).1) (PySem.mem_of_lookup e1) (PySem.mem_of_lookup e2)
      rw [szp]
      exact Nat.lt_succ_of_lt (cm (y := p.1) (c := p.2) hp).2
    · have hy : sc.names.lookup y = some .cell ∨ sc.names.lookup y = some .free := hy
      rcases hy with e | e
      · obtain ⟨c, hm⟩ := cells_has (n := (s.heap.push { cls := .type "frame", data := .dict #[] }).objs.size) (acc := cloFrom X.env.cells sc.names []) (PySem.mem_of_lookup e)
        obtain ⟨c', e'⟩ := mem_lookup hm
        exact ⟨c', by show C.lookup y = _; rw [hgcl]; exact e'⟩
      · obtain ⟨c, h1, _⟩ := look e
        exact ⟨c, h1⟩
    · have z : (sc.names.lookup y == some NameKind.cell) = true := z
      have z : sc.names.lookup y = some .cell := by simpa using z
      have e : C.lookup y = some c := e
      rw [hgcl] at e
      rcases cells_mem (PySem.mem_of_lookup e) with hm | ⟨_, a, _⟩
      · rcases cloFrom_mem hm with hm | ⟨h1, _⟩
        · cases hm
        · have q := ok.uniq _ h1
          rw [z] at q; cases q
      · rw [szp] at a
        exact Nat.le_trans (Nat.le_of_eq hL) (Nat.le_of_succ_le a)
    · have e : C.lookup y = some c := e
      rcases mem e with ⟨h1, _⟩ | ⟨h1, _⟩
      · exact (hfp b hb).1.2.2.2.2.1 y c h1 z
      · have q : b < L := (hfp b hb).2
        rw [← z] at q
        exact absurd (Nat.lt_of_lt_of_le q (Nat.le_of_succ_le h1)) (Nat.lt_irrefl _)
    · rcases (hfp b hb).1.2.2.2.1 with z | z
      · exact I.ok.noex b o e z
      · exact absurd (Nat.lt_of_lt_of_le (Heap.lt_size e) (Nat.le_trans I.ok.bsz z)) (Nat.lt_irrefl _)
    · rcases List.mem_cons.mp (I.stkSub b z) with z | z
      · exact (hfp b hb).1.2.1 z
      · exact (hfp b hb).1.2.2.1 z
  refine { ok := okG, os := rfl, bare := hg, base := Un.kept kp, loc := ⟨_, hns, fun i y av e1 e2 e3 => ?_⟩, cell := fun y c e => ?_, free := ?_, freeC := fun y c e => ?_, pin := fun p hp => ?_, hok := I.hok.kept kp, len := by rw [wipe_length]; exact I.len }
  · obtain ⟨e2, hne⟩ := wipe_some e2
    have hfy : sc.names.lookup y = some .free := by
      have no : ∀ k, sc.names.lookup y = some k → k = .local ∨ k = .cell → False := fun k e hh => by
        rcases ok.own _ (PySem.mem_of_lookup e) hh with e' | e'
        · obtain ⟨p, hp, hpy⟩ := List.mem_map.mp e'
          have e3 := ok.ix p hp
          have : p.1 = y := hpy
          rw [this] at e3
          exact hne (List.mem_map.mpr ⟨p, hp, nodup_ix hN e3 e1⟩)
        · exact e' (List.mem_of_getElem? e1)
      have e3 : Vis sc y := e3
      rcases e3 with e3 | e3 | e3
      · exact (no _ e3 (.inl rfl)).elim
      · exact (no _ e3 (.inr rfl)).elim
      · exact e3
    obtain ⟨m, hn, hl⟩ := I.loc
    have hp := ok.free _ (PySem.mem_of_lookup hfy) rfl
    obtain ⟨w, r, q⟩ := hl i y av e1 e2 (hp.elim (fun k => .inr (.inl k)) fun k => .inr (.inr k))
    refine ⟨w, r, .inr ⟨.inr hfy, ?_⟩⟩
    obtain ⟨c, h1, h3⟩ := look hfy
    rcases q with ⟨k, _⟩ | ⟨_, c', e', z⟩
    · have k : X.env.scope.names.lookup y = some .local := k
      rcases hp with k' | k' <;> rw [show X.env.scope.names.lookup y = _ from k'] at k <;> cases k
    · rw [h3] at e'; cases e'
      exact ⟨c, h1, z.keeps kp⟩
  · have e : C.lookup y = some c := e
    rcases mem e with ⟨h1, _⟩ | ⟨_, z⟩
    · obtain ⟨w, z⟩ := I.cell y c h1
      exact ⟨w, z.keeps kp⟩
    · exact ⟨_, z⟩
  · exact I.hok.fresh (Nat.le_of_eq hL)
  · have e : C.lookup y = some c := e
    rcases mem e with ⟨h1, _⟩ | ⟨h1, _⟩
    · exact I.freeC y c h1
    · exact I.hok.fresh (Nat.le_trans (Nat.le_of_eq hL) (Nat.le_of_succ_le h1))
  · obtain rfl : p = (ga, go) := by simpa using hp
    refine ⟨hgo, I.hok.fresh (Nat.le_of_lt (by rw [hL]; exact hga)), Nat.ne_of_gt hga, fun z => ?_, hgd⟩
    rcases List.mem_cons.mp (I.stkSub ga z) with z | z
    · have := I.lt
      rw [← z, hL] at this
      exact Nat.lt_asymm this hga
    · exact I.nofs (Nat.le_of_lt (by rw [hL]; exact hga)) z
end
end Vi

set_option Elab.async false
set_option linter.all false
set_option maxRecDepth 100000
set_option maxHeartbeats 4000000
/-! any, all of a generator expression: the generator's turns, the consumer's. -/
namespace Vi
open PySem PySem.Spec PyProof.Rows L2
open Sem (wp)

abbrev geE (elt tg iter : Expr) (ifs : List Expr) (sc : Scope) (pos : Pos) : Expr := .GeneratorExp elt [⟨tg, iter, ifs, 0⟩] sc pos
abbrev geC (elt tg iter : Expr) (ifs : List Expr) (sc : Scope) (pos : Pos) (it : Addr) (env : PySem.Env) : Code := .compLoop (geE elt tg iter ifs sc pos) 0 (.ref it) .none env
abbrev geC0 (elt tg iter : Expr) (ifs : List Expr) (sc : Scope) (pos : Pos) (it : Addr) (env : PySem.Env) : Code := .compStart (geE elt tg iter ifs sc pos) 0 (.ref it) .none env
def gP (X : Cx) (k : Bool) (F : Bool → Hp → Prop) : Nat → Shared → Shared → Prop := fun _ _ s₁ => ∃ σ H, Inv X [] σ H s₁ ∧ F (!k) H
def gY (X : Cx) (k : Bool) (F : Bool → Hp → Prop) : Protocol := fun _ _ v s kap => ∃ b : Bool, v = .bool b ∧ (∃ σ H, Inv X [] σ H s ∧ (b = k → F k H)) ∧ (b ≠ k → ∀ s'', Slp s s'' → kap (.send .none) s'')
/-- what a turn makes of the state -/
def geTurn (k : Bool) (F : Bool → Hp → Prop) (J : It) (g : TG) (tt : TT) (te : TE) (W : Nat → Nat → L2.St → Hp → Prop) : Prop := ∀ i m σ H, W i m σ H →
  (J.stop i H ∧ F (!k) H) ∨ (J.go i H ∧ ∃ N : L2.St → Hp → Prop, (∀ σ' H', N σ' H' → ∃ m', m' < m ∧ W (i + 1) m' σ' H') ∧ ∀ x H', J.yld i H x H' → g x σ H' fun σ2 H2 => tt σ2 H2 fun b H3 => if b = true then te σ2 H3 fun v H4 => ∃ r : Bool, v = .bl r ∧ (if r = k then F k H4 else N σ2 H4) else N σ2 H3)
section
variable {X : Cx} {A1 : Around} {k : Bool} {F : Bool → Hp → Prop} {J : It} {fp : List Addr} {it : Addr} {tn : Nat → Heap → Prop} {W : Nat → Nat → L2.St → Hp → Prop} {elt tg iter : Expr} {ifs : List Expr} {sc : Scope} {pos : Pos} {g : TG} {tt : TT} {te : TE}
theorem seg_ge (hA : X.A = A1.over (geC elt tg iter ifs sc pos it X.env) []) (hx : X.xe = fun _ _ => False) (hc : X.calm = true) (hco : X.env.scope.isCoroutine = false) (hg : PG X tg g) (ht : PTs X ifs tt) (he : PE X elt te) (T : Turn X.prog X.w X.K tg J fp it tn)
    (stat : ∀ H', (∀ b ∈ fp, H' b = none) → ∀ b ∈ fp, FpOk X [] H' b) (turn : geTurn k F J g tt te W) :
    ∀ (n m i : Nat) (s₀ s : Shared) (σ : L2.St) (H : Hp), m < n → W i m σ H → Inv X [] σ H s → tn i s.heap → (∀ b ∈ fp, H b = none) →
      Seg (model X.prog X.w) A1 (fun n s₀ r s₁ => r = .ok .next ∧ gP X k F n s₀ s₁) (gY X k F) n s₀ (geC elt tg iter ifs sc pos it X.env) ((model X.prog X.w).den (geC elt tg iter ifs sc pos it X.env)) [] s := by
  have main : ∀ (m : Nat), ∀ (n i : Nat) (s₀ s : Shared) (σ : L2.St) (H : Hp), m < n → W i m σ H → Inv X [] σ H s → tn i s.heap → (∀ b ∈ fp, H b = none) →
      Seg (model X.prog X.w) A1 (fun n s₀ r s₁ => r = .ok .next ∧ gP X k F n s₀ s₁) (gY X k F) n s₀ (geC elt tg iter ifs sc pos it X.env) ((model X.prog X.w).den (geC elt tg iter ifs sc pos it X.env)) [] s := by
    intro m
    induction m using Nat.strongRecOn with
    | ind m ih =>
      intro n i s₀ s σ H hmn hw I hst hfr
      show Seg _ A1 _ _ _ s₀ _ ((compTurn (geE elt tg iter ifs sc pos) 0 (.ref it) .none X.env).onRaise (leaving X.env)) [] s
      rw [compTurn_gen, Sem.onRaise_eq_wrap]
      refine seg_bind_wrap (wpAny_standAt ?_)
      refine seg_bind_wrap ?_
      rw [← hA]
      rcases turn i m σ H hw with ⟨stop, q⟩ | ⟨go, N, hN, step⟩
      · refine wpAny_mono (T.done X rfl rfl rfl hc i [] s σ H (fun _ _ => False) I (stat H hfr) hst stop) (fun r s1 ⟨hr, I1⟩ => ?_) fun _ _ z => z.elim
        subst hr
        exact seg_end (.ok .next) ⟨rfl, σ, H, I1, q⟩
      · refine wpAny_mono (T.item X rfl rfl rfl hc i [] s σ H (fun _ _ => False) I (stat H hfr) hst go) (fun r s1 ⟨u, hr, h1⟩ => ?_) fun _ _ z => z.elim
        subst hr
        refine seg_bind_wrap ?_
        rw [← hA]
        refine wpAny_mono h1 (fun _ s2 ⟨x, H2, I2, r2, y2, st2, fr2⟩ => ?_) fun _ _ z => z.elim
        have I2' := I2.pinned (stat H2 fr2) (T.obj _ _ st2)
        refine seg_bind_wrap ?_
        rw [← hA]
        refine wpAny_mono (hg.run _ s2 σ H2 x u _ I2' r2 (step x H2 y2)) (fun _ s3 ⟨σ3, H3, I3, q3⟩ => ?_) fun _ _ z => by rw [hx] at z; exact z.elim
        refine seg_bind_wrap ?_
        rw [← hA]
        refine wpAny_mono (ht.run _ s3 σ3 H3 _ I3 q3) (fun b s4 ⟨H4, I4, q4⟩ => ?_) fun _ _ z => by rw [hx] at z; exact z.elim
        have back : ∀ {H5 : Hp} {s5 : Shared}, Inv X ([] ++ pinsAt fp s2.heap) σ3 H5 s5 → Inv X [] σ3 H5 s5 ∧ tn (i + 1) s5.heap ∧ ∀ b ∈ fp, H5 b = none := fun {H5 s5} I5 =>
          ⟨I5.unpinned, T.keep _ _ _ st2 fun b hb o e => (I5.pin (b, o) (List.mem_append_right _ (List.mem_append_right _ (mem_pinsAt hb e)))).1, fun b hb => by
            obtain ⟨o, e, d⟩ := T.obj _ _ st2 b hb
            exact (I5.pin (b, o) (List.mem_append_right _ (List.mem_append_right _ (mem_pinsAt hb e)))).2.1⟩
        cases b with
        | false =>
          simp only [Bool.false_eq_true, if_false] at q4 ⊢
          obtain ⟨m', hm', w'⟩ := hN _ _ q4
          obtain ⟨I5, t5, f5⟩ := back I4
          exact seg_again rfl (ih m' hm' n (i + 1) s₀ s4 σ3 H4 (by omega) w' I5 t5 f5)
        | true =>
          simp only [if_true] at q4 ⊢
          have hy : ∀ v, yieldOut X.env v = yieldValue v := fun v => by simp only [yieldOut, hco, Bool.false_eq_true, if_false]
          simp only [hy]
          rw [Sem.bind_eq_wrap', Sem.bind_eq_wrap', Sem.wrap_wrap, Sem.wrap_wrap]
          refine seg_wrap ?_
          rw [← hA]
          refine wpAny_mono (he.run _ s4 σ3 H4 _ I4 q4) (fun v s5 ⟨vv, H5, I5, r5, rr, ev, q5⟩ => ?_) fun _ _ z => by rw [hx] at z; exact z.elim
          subst ev
          obtain rfl : v = Value.bool rr := r5
          obtain ⟨I6, t6, f6⟩ := back I5
          obtain ⟨n, rfl⟩ : ∃ j, n = j + 1 := ⟨n - 1, by omega⟩
          refine seg_at (seg_yield rfl rfl rfl ⟨rr, rfl, ⟨σ3, H5, I6, fun e => by rw [if_pos e] at q5; exact q5⟩, fun e s'' z => ?_⟩)
          rw [if_neg e] at q5
          obtain ⟨m', hm', w'⟩ := hN _ _ q5
          have t7 : tn (i + 1) s''.heap := T.keep _ _ _ t6 fun b hb o e => z.keep b o e
          exact seg_again rfl (ih m' hm' n (i + 1) s'' s'' σ3 H5 (by omega) w' (inv_slp I6 z) t7 f6)
  exact fun n m => main m n
end
end Vi

set_option Elab.async false
set_option linter.all false
set_option maxRecDepth 100000
set_option maxHeartbeats 4000000
/-! any, all of a generator expression: from its beginning to its end. -/
namespace Vi
open PySem PySem.Spec PyProof.Rows L2 GenW
open Sem (wp)

section
variable {X : Cx} {A1 : Around} {k : Bool} {F : Bool → Hp → Prop} {it : Addr} {elt tg iter : Expr} {ifs : List Expr} {sc : Scope} {pos : Pos}
theorem seg_ge0 {n : Nat} {s₀ s : Shared} {R : GenEnd} {Y : Protocol} (hs : ∀ (A : Around) (Q : Value → Shared → Prop) (E : Value → Shared → Prop), Q (.ref it) s → wpAny (model X.prog X.w) A (pyIter (.ref it)) Q E s)
    (loop : Seg (model X.prog X.w) A1 R Y n s₀ (geC elt tg iter ifs sc pos it X.env) ((model X.prog X.w).den (geC elt tg iter ifs sc pos it X.env)) [] s) :
    Seg (model X.prog X.w) A1 R Y n s₀ (geC0 elt tg iter ifs sc pos it X.env) ((model X.prog X.w).den (geC0 elt tg iter ifs sc pos it X.env)) [] s := by
  show Seg _ A1 _ _ _ s₀ _ ((compStart (geE elt tg iter ifs sc pos) 0 (.ref it) .none X.env).onRaise (leaving X.env)) [] s
  unfold compStart
  rw [Sem.onRaise_eq_wrap]
  show Seg _ A1 _ _ _ s₀ _ ((ask >>= _).wrap _ _ _ _) [] s
  refine seg_bind_wrap (wpAny_askSetting ?_)
  split
  · exact seg_again rfl loop
  · refine seg_bind_wrap (wpAny_rule ?_)
    show Seg _ A1 _ _ _ s₀ _ ((standAt iter.pos >>= _).wrap _ _ _ _) [] s
    exact seg_bind_wrap (wpAny_standAt (seg_bind_wrap (hs _ _ _ (seg_again rfl loop))))

/-- the generator sleeps, n turns at most ahead -/
def GAt (X : Cx) (A1 : Around) (k : Bool) (F : Bool → Hp → Prop) (a : Addr) (g n : Nat) (s : Shared) : Prop :=
  s.heap.IsGen a g ∧ s.heap.NoLimit ∧ AllBare s.gens ∧ ∃ gs, s.gens[g]? = some gs ∧ ∀ s', Slp s s' → gs.Goes (model X.prog X.w) A1 (fun n s₀ r s₁ => r = .ok .next ∧ gP X k F n s₀ s₁) (gY X k F) n (.send .none) s'
def GEnd (X : Cx) (F : Bool → Hp → Prop) (b : Bool) (s : Shared) : Prop := ∃ σ H, Inv X [] σ H s ∧ F b H
theorem slp_gens {s : Shared} {g : Nat} {x : GenState} (hb : AllBare s.gens) (hx : x.bare = true) : Slp s (s.setGen g x) := ⟨rfl, allBare_setGen hb hx, fun _ _ e => e⟩
theorem Slp.trans {s s' s'' : Shared} (a : Slp s s') (b : Slp s' s'') : Slp s s'' := ⟨b.os.trans a.os, b.bare, fun _ _ e => b.keep _ _ (a.keep _ _ e)⟩
/-- one turn of the consumer -/
theorem ge_next {A : Around} {a : Addr} {g n : Nat} {s : Shared} {E : Value → Shared → Prop} {go : Obj} (hh : A.handled = none) (hd : A.depth < recursionLimit) (hpn : X.pn = [(a, go)]) (hgen : ∀ h : Heap, h.get? a = some go → h.IsGen a g) (h : GAt X A.in1 k F a g n s) :
    wpAny (model X.prog X.w) A (pyNext (.ref a)) (fun r s1 => (r = none ∧ GEnd X F (!k) s1) ∨ ∃ b : Bool, r = some (.bool b) ∧ (b = k → GEnd X F k s1) ∧ (b ≠ k → ∃ m, m < n ∧ GAt X A.in1 k F a g m s1)) E s := by
  obtain ⟨hg, hl, hb, gs, hgs, hgo⟩ := h
  have hlt : g < s.gens.size := (Array.getElem?_eq_some_iff.mp hgs).1
  refine wpAny_gsz (n := g + 1) hlt ?_
  have sl0 : Slp s (s.setGen g .running) := slp_gens hb rfl
  refine wpAny_pyNext_genexpQ (P := gP X k F) hh hl hd hg hgs (hgo _ sl0) (fun v s₁ gs' hbr hY hsz => ?_) (fun s₁ hP h' hk hsz => ?_)
  · obtain ⟨b, rfl, ⟨σ, H, I, hF⟩, hc⟩ := hY
    have hsz1 : g < s₁.gens.size := by rw [setGen_size] at hsz; exact hsz
    have z := slp_gens (g := g) I.bare hbr
    refine .inr ⟨b, rfl, fun e => ⟨σ, H, inv_slp I z, hF e⟩, fun e => ?_⟩
    cases n with
    | zero => exact (hc e s₁ ⟨rfl, I.bare, fun _ _ e => e⟩).elim
    | succ m =>
      have hpin := (I.pin (a, go) (by rw [hpn]; simp)).1
      refine ⟨m, Nat.lt_succ_self m, hgen _ hpin, (inv_slp I z).nolimit, z.bare, gs', setGen_self (gs := s₁.gens[g]) (Array.getElem?_eq_getElem hsz1), fun s' z' => hc e s' (z.trans z')⟩
  · obtain ⟨σ, H, I, hF⟩ := hP
    refine .inl ⟨rfl, σ, H, inv_slp I ⟨rfl, allBare_setGen I.bare rfl, hk⟩, hF⟩
/-- the consumer's turns -/
theorem all_loop {A : Around} {a : Addr} {g : Nat} {go : Obj} {R : Result → Shared → Prop} (hh : A.handled = none) (hd : A.in1.depth < recursionLimit) (hpn : X.pn = [(a, go)]) (hgen : ∀ h : Heap, h.get? a = some go → h.IsGen a g)
    (hR : ∀ b s', GEnd X F b s' → R (.ok (.ret (.bool b))) s') : ∀ (n : Nat) (s : Shared), GAt X A.in1.in1 false F a g n s → codeAny (model X.prog X.w) A (.builtin "all.loop" ⟨[.ref a], []⟩) R s := by
  intro n
  induction n using Nat.strongRecOn with
  | ind n ih =>
    intro s h
    refine codeAny_builtin PySem.F.entry_all_loop ?_
    rw [Around.under_plainId PySem.F.plain_all_loop _]
    show wpAny _ A.in1 (pyNext (.ref a) >>= _) _ _ s
    refine wpAny_bind (wpAny_mono (ge_next (A := A.in1) (E := fun _ _ => False) hh hd hpn hgen h) (fun r s1 q => ?_) fun _ _ z => z.elim)
    rcases q with ⟨rfl, q⟩ | ⟨b, rfl, q1, q2⟩
    · exact wpAny_bind (wpAny_rule (wpAny_pure (hR _ _ q)))
    · refine wpAny_bind (wpAny_holding (wpAny_truthy_bool ?_))
      refine wpAny_bind (wpAny_letGo ?_)
      cases b with
      | true =>
        simp only [if_true]
        obtain ⟨m, hm, q⟩ := q2 (by decide)
        exact wpAny_pure ⟨plainId_quiet PySem.F.plain_all_loop _, ih m hm s1 q⟩
      | false =>
        simp only [Bool.false_eq_true, if_false]
        exact wpAny_bind (wpAny_rule (wpAny_pure (hR _ _ (q1 rfl))))
theorem any_loop {A : Around} {a : Addr} {g : Nat} {go : Obj} {R : Result → Shared → Prop} (hh : A.handled = none) (hd : A.in1.depth < recursionLimit) (hpn : X.pn = [(a, go)]) (hgen : ∀ h : Heap, h.get? a = some go → h.IsGen a g)
    (hR : ∀ b s', GEnd X F b s' → R (.ok (.ret (.bool b))) s') : ∀ (n : Nat) (s : Shared), GAt X A.in1.in1 true F a g n s → codeAny (model X.prog X.w) A (.builtin "any.loop" ⟨[.ref a], []⟩) R s := by
  intro n
  induction n using Nat.strongRecOn with
  | ind n ih =>
    intro s h
    refine codeAny_builtin PySem.F.entry_any_loop ?_
    rw [Around.under_plainId PySem.F.plain_any_loop _]
    show wpAny _ A.in1 (pyNext (.ref a) >>= _) _ _ s
    refine wpAny_bind (wpAny_mono (ge_next (A := A.in1) (E := fun _ _ => False) hh hd hpn hgen h) (fun r s1 q => ?_) fun _ _ z => z.elim)
    rcases q with ⟨rfl, q⟩ | ⟨b, rfl, q1, q2⟩
    · exact wpAny_bind (wpAny_rule (wpAny_pure (hR _ _ q)))
    · refine wpAny_bind (wpAny_holding (wpAny_truthy_bool ?_))
      refine wpAny_bind (wpAny_letGo ?_)
      cases b with
      | false =>
        simp only [Bool.false_eq_true, if_false]
        obtain ⟨m, hm, q⟩ := q2 (by decide)
        exact wpAny_pure ⟨plainId_quiet PySem.F.plain_any_loop _, ih m hm s1 q⟩
      | true =>
        simp only [if_true]
        exact wpAny_bind (wpAny_rule (wpAny_pure (hR _ _ (q1 rfl))))
def geName (k : Bool) : Str := if k then "any" else "all"
def geId (k : Bool) : String := if k then "any" else "all"
/-- any(g), all(g) -/
theorem call_ge {A : Around} {a : Addr} {g n : Nat} {go : Obj} {Q : Value → Shared → Prop} {E : Value → Shared → Prop} {s : Shared} (hh : A.handled = none) (hd : A.in1.depth < recursionLimit) (hpn : X.pn = [(a, go)]) (hgen : ∀ h : Heap, h.get? a = some go → h.IsGen a g)
    (h : GAt X A.in1.in1 k F a g n s) (hQ : ∀ b s', GEnd X F b s' → Q (.bool b) s') : wpAny (model X.prog X.w) A (call (.builtin (geId k)) [.ref a]) Q E s := by
  cases k with
  | false =>
    refine call_function_tree PySem.F.kind_all PySem.F.plain_all PySem.F.entry_all (PySem.F.args_all1 _) ?_
    unfold Builtin.«all»
    refine wpAny_bind (m := oneArg "all" _) (wpAny_pure ?_)
    refine wpAny_bind (wpAny_pyIter_gen h.1 ?_)
    exact wpAny_pure ⟨plainId_quiet PySem.F.plain_all_loop _, all_loop hh hd hpn hgen (fun b s' e => hQ b s' e) n s h⟩
  | true =>
    refine call_function_tree PySem.F.kind_any PySem.F.plain_any PySem.F.entry_any (PySem.F.args_any1 _) ?_
    unfold Builtin.«any»
    refine wpAny_bind (m := oneArg "any" _) (wpAny_pure ?_)
    refine wpAny_bind (wpAny_pyIter_gen h.1 ?_)
    exact wpAny_pure ⟨plainId_quiet PySem.F.plain_any_loop _, any_loop hh hd hpn hgen (fun b s' e => hQ b s' e) n s h⟩
end
end Vi

set_option Elab.async false
set_option linter.all false
set_option maxRecDepth 100000
set_option maxHeartbeats 4000000
/-! any, all of a generator expression: the rule. -/
namespace Vi
open PySem PySem.Spec PyProof.Rows L2 GenW
open Sem (wp)

section
variable {A : Around} {elt tg iter : Expr} {ifs : List Expr} {sc : Scope} {pos : Pos} {it : Addr} {env : PySem.Env}
abbrev genA (A : Around) (elt tg iter : Expr) (ifs : List Expr) (sc : Scope) (pos : Pos) (it : Addr) (env : PySem.Env) : Around := A.in1.in1.over (geC elt tg iter ifs sc pos it env) []
theorem genA_hd (h : A.handled = none) : (genA A elt tg iter ifs sc pos it env).handled = none := h
theorem genA_fr {l : List PySem.Env} (h : A.frames = some l) : (genA A elt tg iter ifs sc pos it env).frames = some (env :: l) := by
  show pushEnvs [env] (pushEnvs [] A.frames) = _
  rw [h]; rfl
theorem genA_dp : (genA A elt tg iter ifs sc pos it env).depth = A.depth + 1 := rfl
theorem genA_un : (genA A elt tg iter ifs sc pos it env).units = A.units + 5 := rfl
theorem genA_room {j : Nat} (r : Room (j + 1) A) : Room j (genA A elt tg iter ifs sc pos it env) :=
  ⟨r.hd, by have := r.dp; rw [genA_dp]; omega, by have := r.un; rw [genA_un]; omega⟩
end

def tGe (P : Addr) (k : Bool) (own : List Nat) (wi : TI) (g : TG) (tt : TT) (te : TE) : TE := fun σ H Q => wi σ H fun J H1 => H1 P = some (TabO P) ∧ ∃ W : Nat → Nat → L2.St → Hp → Prop, (∃ m, W 0 m (wipe σ own) H1) ∧ geTurn k (fun b H' => Q (.bl b) H') J g tt te W
theorem boot_ge (k : Bool) : bootBuiltins (geName k) = some (.builtin (geId k)) := by cases k <;> first | exact PyProof.Rows.boot_all | exact PyProof.Rows.boot_any

section
variable {X : Cx} {elt tg iter : Expr} {ifs : List Expr} {sc : Scope} {pos gpos p : Pos} {k : Bool} {wi : TI} {g : TG} {tt : TT} {te : TE} {c P : Addr} {own : List (Str × Nat)} {j : Nat}
theorem pe_ge (hr : Room (j + 1) X.A) (hc : X.calm = true) (hN : X.N.Nodup) (hdot : (".0" : Str) ∉ X.N) (hgl : Gl X (geName k)) (hm : X.mg (geName k) = none) (TB : GxR.TabB X.base X.mg c P) (hcode : X.env.code = .ref c) (hco : sc.isCoroutine = false) (h0 : sc.names.lookup (".0" : Str) = some NameKind.local)
    (ok : BlkOk X.N X.env.scope sc own) (hi : PI X tg iter wi)
    (hg : ∀ A' s H e fp pn, Room j A' → e.scope = sc → PG (gx X A' s H e fp pn) tg g) (ht : ∀ A' s H e fp pn, Room j A' → e.scope = sc → PTs (gx X A' s H e fp pn) ifs tt) (he : ∀ A' s H e fp pn, Room j A' → e.scope = sc → PE (gx X A' s H e fp pn) elt te)
    (hs : ∀ v, genFold iter X.env v = pure v) : PE X (.Call (.Name (geName k) p) [geE elt tg iter ifs sc gpos] [] pos) (tGe P k (own.map (·.2)) wi g tt te) := by
  refine ⟨fun pins s σ H Q I h => ?_⟩
  refine wpAny_Call_Name_kw (ld_blt I hgl hm (boot_ge k) ?_ (by cases k <;> decide) (by cases k <;> decide))
  have hst : starEach [geE elt tg iter ifs sc gpos] X.env = (false, eval (geE elt tg iter ifs sc gpos) X.env) :: starEach [] X.env := rfl
  refine PyProof.Rows.callWith_builtin1 ?_ hst (by rfl)
  rw [hst]
  show wpAny _ _ (spliced ((false, eval (geE elt tg iter ifs sc gpos) X.env) :: backTo pos (starEach [] X.env))) _ _ s
  refine Calls.spliced_cons ?_
  rw [eval_GeneratorExp1 _ _ _ _ _ _ _ hco, closure_ok (fun y hy e => (ok.free y hy e).elim (fun z => I.ok.has _ (.inl z)) fun z => I.ok.has _ (.inr z))]
  refine wpAny_bind (thn (hi.run pins s σ H _ I h) fun xv s1 h1 => ?_)
  refine wpAny_bind (wpAny_standAt ?_)
  refine wpAny_bind (wpAny_of_eq (hs xv) ?_)
  refine wpAny_bind (wpAny_holding (thn h1 fun itv s2 h2 => ?_))
  obtain ⟨it, fp, tn, J, H1, rfl, I1, T, st1, f1, hP, W, ⟨m0, w0⟩, turn⟩ := h2
  refine wpAny_bind (wpAny_enterFrame I1.nolimit hr.depth ?_)
  refine wpAny_bind (wpAny_pure ?_)
  obtain ⟨ps, hPs, htr⟩ := tabO_at I1.hok hP
  have cont : ∀ (cd : Value) (h3 : Heap) (tk : Nat), (∀ b o, b ≠ P → s2.heap.get? b = some o → h3.get? b = some o) → tabP P h3 →
      wpAny (model X.prog X.w) X.A (builtinsFor X.env.globals X.env.builtins) (fun bi s4 => wpAny (model X.prog X.w) X.A (newFunctionEnv sc X.env.globals (cloFrom X.env.cells sc.names []) [(".0", .ref it)] (X.env.qual ++ "<genexpr>.") none cd none bi) (fun cenv s5 =>
        wpAny (model X.prog X.w) X.A (newGenerator (.compStart (geE elt tg iter ifs sc gpos) 0 (.ref it) .none cenv) "<genexpr>" (X.env.qual ++ "<genexpr>")) (fun v s6 => wpAny (model X.prog X.w) X.A (spliced (backTo pos (starEach [] X.env))) (fun vs s7 => wpAny (model X.prog X.w) X.A (call (.builtin (geId k)) (v :: vs)) (EP X pins σ Q) X.xe s7) X.xe s6) X.xe s5) X.xe s4) X.xe { s2 with heap := h3, toks := tk } := by
    intro cd h3 tk kp tab3
    have I3 := inv_grow (t' := tk) I1 hP kp tab3
    obtain ⟨bm, ob, e1, e2, e3, e4, e5, e6, e7, e8⟩ := TB.bm
    refine wpAny_builtinsFor (m := X.mg) (by rw [I1.ok.glob]; exact I3.mod.glob.keeps I3.bk) e1 e2 (I3.bk _ _ e5) e6 e7 e8 ?_
    have nP : ∀ b ∈ fp, b ≠ P := fun b hb z => by
      have := (f1 b hb).1
      rw [z, hP] at this; cases this
    have st3 : tn 0 h3 := T.keep _ _ _ st1 fun b hb o e => kp b o (nP b hb) e
    generalize hs4 : ({ s2 with heap := h3, toks := tk } : Shared) = s4 at I3 ⊢
    have st4 : tn 0 s4.heap := by rw [← hs4]; exact st3
    refine newEnv_gen ok.kind h0 fun h5 hn5 hs5 => ?_
    show wpAny _ _ (newGenerator (.compStart (geE elt tg iter ifs sc gpos) 0 (.ref it) .none (genv X sc s4.heap.objs.size (gcl X s4 sc) cd)) _ _) _ _ _
    generalize hev : genv X sc s4.heap.objs.size (gcl X s4 sc) cd = cenv
    have hsc : cenv.scope = sc := by rw [← hev]; rfl
    simp only [newGenerator, newFields]
    refine wpAny_bind (wpAny_newGen (wpAny_bind (wpAny_mkText (wpAny_bind (wpAny_mkText (wpAny_newObj_type ?_ (by size_fits)))))))
    refine Calls.spliced_nil ?_
    generalize hgo : ({ cls := .type "generator", data := .fields #[rawInt s4.gens.size, .str "<genexpr>" (s4.toks + 1), .str (X.env.qual ++ "<genexpr>") (s4.toks + 1 + 1)] } : Obj) = go
    have szp : s4.heap.objs.size < h5.objs.size := by
      have z := pushCells_size sc.names (s4.heap.push { cls := .type "frame", data := .dict #[] })
      rw [Heap.size_push] at z
      rw [hs5.1]; exact z
    have hgget : (h5.push go).get? h5.objs.size = some go := Heap.get?_push_size _ (by rw [← hgo]; rfl)
    have hroom : Room j (genA X.A elt tg iter ifs sc gpos it cenv) := genA_room hr
    have hfp4 : ∀ b ∈ fp, FpOk X pins H1 b ∧ b < s4.heap.objs.size := fun b hb => ⟨f1 b hb, by obtain ⟨o, e, _⟩ := T.obj _ _ st4 b hb; exact Heap.lt_size e⟩
    have I5 := gen_start (A' := genA X.A elt tg iter ifs sc gpos it cenv) (cd := cd) (own := own) (ga := h5.objs.size) (go := go) (h2 := h5.push go) (g2 := s4.gens.push (.fresh (.compStart (geE elt tg iter ifs sc gpos) 0 (.ref it) .none cenv))) (t2 := s4.toks + 1 + 1 + 1) I3 ok hN hfp4 hr.hd (by rw [hev]; exact genA_fr I1.ok.frames)
      (I3.bare.push rfl) szp hgget (fun v => by rw [← hgo]; exact fun z => nomatch z) hdot (hn5.push _) fun b o hb e => Heap.get?_push_of_some _ (hs5.extBut b o hb e)
    rw [hev] at I5
    generalize hX' : gx X (genA X.A elt tg iter ifs sc gpos it cenv) s4 H1 cenv fp [(h5.objs.size, go)] = X' at I5
    have stat : ∀ H', (∀ b ∈ fp, H' b = none) → ∀ b ∈ fp, FpOk X' [] H' b := fun H' hn b hb => by
      subst hX'
      have ok' := I5.ok.exf b hb
      refine ⟨hn b hb, ok'.1, I5.ok.exfs b hb, .inl hb, ok'.2, fun q hq => ?_⟩
      obtain rfl : q = (h5.objs.size, go) := by simpa using hq
      exact Nat.ne_of_gt (Nat.lt_trans (hfp4 b hb).2 szp)
    have hg' : PG X' tg g := by subst hX'; exact hg _ _ _ _ _ _ hroom hsc
    have ht' : PTs X' ifs tt := by subst hX'; exact ht _ _ _ _ _ _ hroom hsc
    have he' : PE X' elt te := by subst hX'; exact he _ _ _ _ _ _ hroom hsc
    have hgen : ∀ h : Heap, h.get? h5.objs.size = some go → h.IsGen h5.objs.size s4.gens.size := fun h e => ⟨go, _, _, e, by rw [← hgo], by rw [← hgo]; rfl, by rw [← hgo]⟩
    have seg := seg_ge (elt := elt) (iter := iter) (pos := gpos) (sc := sc) (X := X') (A1 := X.A.in1.in1) (it := it) (by subst hX'; rfl) (by subst hX'; rfl) (by subst hX'; exact hc) (by subst hX'; exact hsc ▸ hco) hg' ht' he' (by subst hX'; exact T) stat turn (m0 + 1) m0 0
    have ga : GAt X' X.A.in1.in1 k (fun b H' => Q (.bl b) H') h5.objs.size s4.gens.size (m0 + 1) { s4 with heap := h5.push go, gens := s4.gens.push (.fresh (.compStart (geE elt tg iter ifs sc gpos) 0 (.ref it) .none cenv)), toks := s4.toks + 1 + 1 + 1 } := by
      refine ⟨hgen _ hgget, I5.nolimit, I5.bare, _, Array.getElem?_push_size .., fun s' z => ⟨rfl, ?_⟩⟩
      have henv : X'.env = cenv := by subst hX'; rfl
      rw [← henv]
      have st5 : tn 0 s'.heap := T.keep _ _ _ st4 fun b hb o e => z.keep b o (Heap.get?_push_of_some _ (hs5.extBut b o (Nat.ne_of_lt (hfp4 b hb).2) (pushCells_keeps _ _ _ _ (Heap.get?_push_of_some _ e))))
      have := seg_ge0 (X := X') (n := m0 + 1) (s₀ := s') (fun A Q E q => by subst hX'; exact T.self A 0 s' Q E st5 q) (seg s' s' _ _ (Nat.lt_succ_self _) w0 (inv_slp I5 z) st5 fun b hb => (f1 b hb).1)
      subst hX'
      exact this
    have hcall := call_ge (X := X') (A := X.A) (E := X.xe) (Q := EP X pins σ Q) hr.hd hr.depth (by subst hX'; rfl) hgen ga (fun b s' ⟨σ', H', J', q⟩ => ?_)
    · subst hX'
      exact hcall
    · subst hX'
      refine ⟨.bl b, H', I3.call' (ch := fp) J'.os J'.base J'.hok J'.bare fun b hb => ?_, rfl, q⟩
      obtain ⟨a1, a2, a3, a4, a5, a6⟩ := (hfp4 b hb).1
      exact ⟨a4, a2, a5, a6⟩
  have cdh := TB.code.keeps I1.bk
  cases hf : codeAmong gpos ps.toList with
  | none =>
    refine wpAny_bind (wpAny_genexprCodeX hcode (cdh.code hPs htr) (cdh.tab hPs) hf fun c' h' tk hx hge hlt hco' _ htab' _ => ?_)
    obtain ⟨o1, vs, f1, tf, fl, tg, inF, tx, tt, op, _, _, _, _, _, _, _, _, _, htr', _⟩ := hco'
    have := cont (.ref c') h' tk (fun b o hb e => hx b o hb e) ⟨_, htab'.2, htr'⟩
    refine wpAny_bind (wpAny_mono this (fun bi s4 q => ?_) fun _ _ z => z)
    exact wpAny_bind (wpAny_mono q (fun cenv s5 q => q) fun _ _ z => z)
  | some cv =>
    refine wpAny_bind (wpAny_genexprCode_hit hcode (cdh.code hPs htr) hf ?_)
    have := cont cv s2.heap s2.toks (fun b o hb e => e) ⟨ps, hPs, htr⟩
    refine wpAny_bind (wpAny_mono this (fun bi s4 q => ?_) fun _ _ z => z)
    exact wpAny_bind (wpAny_mono q (fun cenv s5 q => q) fun _ _ z => z)
end
end Vi

set_option Elab.async false
set_option linter.all false
set_option maxRecDepth 100000
set_option maxHeartbeats 4000000
/-! What is read off an expression: who owns its value, what it changes; how it stands for the text. -/
namespace Vi
open PySem L2

/-- o: the value is its own; s: the slots that may own parts of it; T: the slots that it changes; f: a list that it yields is new; p: what is walked is pure; mv: it is the slot's very value -/
structure Inf where
  o : Bool := false
  s : List Nat := []
  T : List Nat := []
  ok : Bool := true
  f : Bool := false
  p : Bool := false
  mv : Option Nat := none
def dis (s t : List Nat) : Bool := s.all fun j => !t.contains j
theorem dis_of {s t : List Nat} (h : dis s t = true) : ∀ j ∈ s, j ∉ t := fun j hj z => by
  have := List.all_eq_true.mp h j hj
  simp [z] at this
def seqOk : List Inf → Bool
  | [] => true
  | x :: r => (r.all fun y => dis x.s y.T) && seqOk r
def allT (l : List Inf) : List Nat := (l.map (·.T)).flatten
def allS (l : List Inf) : List Nat := (l.map (·.s)).flatten
def allO (l : List Inf) : Bool := l.all (·.o)
def allK (l : List Inf) : Bool := l.all (·.ok) && seqOk l
/-- a view of two -/
def two (a b : Inf) (o f : Bool) : Inf := { o := o, s := if o then [] else a.s ++ b.s, T := a.T ++ b.T, ok := a.ok && b.ok && dis a.s b.T, f := f }
def scalB : Bi → Bool
  | .len => true | .abs => true | .int => true | .min => true | .max => true | .sum => true | .any => true | .all => true
  | _ => false
def freshB : Bi → Bool
  | .sorted => true | .list => true
  | _ => false
def bkOk (ms : List Bool) : List (Option Nat) → List Inf → Bool
  | [], [] => true
  | none :: r, _ :: is => bkOk ms r is
  | some i :: r, x :: is => owns ms i && decide (x.mv = some i) && bkOk ms r is
  | _, _ => false
def parOk : List Bool → List Inf → Bool
  | [], [] => true
  | m :: r, x :: is => (!m || x.o) && parOk r is
  | _, _ => false
/-- parameters that are given back are such that may be changed, and each of them is given back or was the call's own -/
def bkIn : List Bool → List (Option Nat) → Bool
  | [], [] => true
  | m :: r, b :: s => (m || b.isNone) && bkIn r s
  | _, _ => false
def someS : List (Option Nat) → List Nat
  | [] => []
  | none :: r => someS r
  | some i :: r => i :: someS r
def litOk : D → Bool
  | .non => true | .bl _ => true | .int _ => true | .str _ => true
  | _ => false
section
variable (ms : List Bool) (pm : Nat → List Bool)
mutual
def inf : E → Inf
  | .lit d => { o := true, ok := litOk d }
  | .var i => { s := if owns ms i then [i] else [], mv := some i }
  | .mov i => { o := true, T := [i], ok := owns ms i, mv := some i }
  | .own e => { inf e with o := true, s := [], ok := (inf e).ok && (inf e).f, mv := none, p := false }
  | .chk e => { inf e with o := true, s := [], mv := none, f := false, p := false }
  | .glb _ => { o := true }
  | .bin _ a b => two (inf a) (inf b) false true
  | .neg a => { inf a with o := true, s := [], f := false, mv := none, p := false }
  | .cmp _ a b => two (inf a) (inf b) true false
  | .cmp2 _ _ a b c => { o := true, T := (inf a).T ++ ((inf b).T ++ (inf c).T), ok := (inf a).ok && (inf b).ok && (inf c).ok && dis (inf a).s (inf b).T && dis (inf b).s (inf c).T }
  | .band a b => { inf b with T := (inf a).T ++ (inf b).T, ok := (inf a).ok && (inf b).ok, f := false, mv := none, p := false }
  | .bor a b => { inf b with T := (inf a).T ++ (inf b).T, ok := (inf a).ok && (inf b).ok, f := false, mv := none, p := false }
  | .bnot a => { o := true, T := (inf a).T, ok := (inf a).ok }
  | .ite c a b => { o := (inf a).o && (inf b).o, s := (inf a).s ++ (inf b).s, T := (inf c).T ++ ((inf a).T ++ (inf b).T), ok := (inf c).ok && (inf a).ok && (inf b).ok, f := (inf a).f && (inf b).f }
  | .tup es => { o := allO (infs es), s := allS (infs es), T := allT (infs es), ok := allK (infs es) }
  | .lst es => { o := allO (infs es), s := allS (infs es), T := allT (infs es), ok := allK (infs es), f := true }
  | .dct0 => { o := true }
  | .idx a i => { s := (inf a).s, T := (inf a).T ++ (inf i).T, ok := (inf a).ok && (inf i).ok && dis (inf a).s (inf i).T }
  | .slc a lo hi => { s := (inf a).s, T := (inf a).T ++ ((info lo).T ++ (info hi).T), ok := (inf a).ok && (info lo).ok && (info hi).ok && dis (inf a).s ((info lo).T ++ (info hi).T), f := true }
  | .rev a => { s := (inf a).s, T := (inf a).T, ok := (inf a).ok, f := true }
  | .fn b es => { o := scalB b, s := if scalB b then [] else allS (infs es), T := allT (infs es), ok := allK (infs es), f := freshB b }
  | .isi e _ => { o := true, T := (inf e).T, ok := (inf e).ok }
  | .mth m o es => { o := m == .index || m == .tindex, s := if m == .index || m == .tindex then [] else (inf o).s ++ allS (infs es), T := (inf o).T ++ allT (infs es), ok := (inf o).ok && allK (infs es) && dis (inf o).s (allT (infs es)) }
  | .mut m i es => { o := true, T := i :: allT (infs es), ok := owns ms i && allK (infs es) && allO (infs es) && !(allT (infs es)).contains i }
  | .call f es bk => { o := true, T := allT (infs es) ++ someS bk, ok := allK (infs es) && parOk (pm f) (infs es) && bkOk ms bk (infs es) && bkIn (pm f) bk && decide (someS bk).Nodup }
  | .lc elt x it c => { o := (inf elt).o, s := (inf elt).s, T := (inf it).T ++ ((infc c).T ++ (inf elt).T), ok := (inf it).ok && (inf elt).ok && (infc c).ok && ((slotsT x).all fun i => !owns ms i && decide (i < ms.length)) && decide (slotsT x).Nodup && dis (inf it).s ((infc c).T ++ (inf elt).T) && ((inf it).s.isEmpty || (inf it).p) && dis (inf elt).s ((infc c).T ++ (inf elt).T), f := true }
  | .ge _ elt x it c => { o := true, T := (inf it).T ++ ((infc c).T ++ (inf elt).T), ok := (inf it).ok && (inf elt).ok && (infc c).ok && ((slotsT x).all fun i => !owns ms i && decide (i < ms.length)) && decide (slotsT x).Nodup && dis (inf it).s ((infc c).T ++ (inf elt).T) && ((inf it).s.isEmpty || (inf it).p) }
  | .lof _ it => { s := (inf it).s, T := (inf it).T, ok := (inf it).ok, f := true }
  | .ichk e => { inf e with p := true, o := false }
  | .irng1 a => { T := (inf a).T, ok := (inf a).ok, p := true }
  | .irng2 a b => { T := (inf a).T ++ (inf b).T, ok := (inf a).ok && (inf b).ok && dis (inf a).s (inf b).T, p := true }
  | .irng3 a b c => { T := (inf a).T ++ ((inf b).T ++ (inf c).T), ok := allK [inf a, inf b, inf c], p := true }
  | .ienum e => { s := (inf e).s, T := (inf e).T, ok := (inf e).ok }
  | .izip a b => { s := (inf a).s ++ (inf b).s, T := (inf a).T ++ (inf b).T, ok := (inf a).ok && (inf b).ok && dis (inf a).s (inf b).T }
  | .irev e => { s := (inf e).s, T := (inf e).T, ok := (inf e).ok }
def infc : Option E → Inf
  | none => { }
  | some e => inf e
def info : Option E → Inf
  | none => { }
  | some e => inf e
def infs : List E → List Inf
  | [] => []
  | e :: es => inf e :: infs es
end
structure InfS where
  T : List Nat := []
  A : List Nat := []
  ok : Bool := true
def tgOk (t : Tg) (x : Inf) : Bool :=
  decide (slotsT t).Nodup && ((slotsT t).all fun i => decide (i < ms.length)) && (x.o || (x.s.isEmpty && (slotsT t).all fun i => !owns ms i))
mutual
def infS : S → InfS
  | .set t e => { T := (inf ms pm e).T ++ slotsT t, A := slotsT t, ok := (inf ms pm e).ok && tgOk ms t (inf ms pm e) }
  | .par i j a b => { T := (inf ms pm a).T ++ ((inf ms pm b).T ++ [i, j]), A := [i, j], ok := (inf ms pm a).ok && (inf ms pm b).ok && dis (inf ms pm a).s (inf ms pm b).T && tgOk ms (.nm i) (inf ms pm a) && tgOk ms (.nm j) (inf ms pm b) && decide (i ≠ j) }
  | .aug i _ e => { T := (inf ms pm e).T ++ [i], A := [i], ok := (inf ms pm e).ok && decide (i < ms.length) }
  | .put i k e => { T := (inf ms pm e).T ++ [i], ok := owns ms i && (inf ms pm e).ok && (inf ms pm e).o && (inf ms pm k).ok && (inf ms pm k).T.isEmpty && !(inf ms pm e).T.contains i }
  | .augput i k _ e => { T := [i], ok := owns ms i && (inf ms pm e).ok && (inf ms pm e).T.isEmpty && (inf ms pm k).ok && (inf ms pm k).T.isEmpty }
  | .ex e => { T := (inf ms pm e).T, ok := (inf ms pm e).ok }
  | .ret e => { T := (inf ms pm e).T, ok := (inf ms pm e).ok && (inf ms pm e).o }
  | .ret0 => { }
  | .iff c t f => { T := (inf ms pm c).T ++ ((infSs t).T ++ (infSs f).T), A := (infSs t).A ++ (infSs f).A, ok := (inf ms pm c).ok && (infSs t).ok && (infSs f).ok }
  | .whl c b => { T := (inf ms pm c).T ++ (infSs b).T, A := (infSs b).A, ok := (inf ms pm c).ok && (infSs b).ok }
  | .for_ x it b => { T := (inf ms pm it).T ++ (slotsT x ++ (infSs b).T), A := slotsT x ++ (infSs b).A, ok := (inf ms pm it).ok && (infSs b).ok && decide (slotsT x).Nodup && ((slotsT x).all fun i => !owns ms i && decide (i < ms.length)) && dis (inf ms pm it).s (slotsT x ++ (infSs b).T) && ((inf ms pm it).s.isEmpty || (inf ms pm it).p) }
  | .brk => { }
  | .cnt => { }
  | .pas => { }
  | .doc => { }
def infSs : List S → InfS
  | [] => { }
  | s :: r => { T := (infS s).T ++ (infSs r).T, A := (infS s).A ++ (infSs r).A, ok := (infS s).ok && (infSs r).ok }
end
end

/-! ### how it stands for the text -/
structure Cfg where
  N : List Str
  ms : List Bool
  fns : Nat → Option Str
  pm : Nat → List Bool
  gls : Nat → Option Str := fun _ => none
  ge : Bool := true
def Cfg.no (C : Cfg) : Cfg := { C with ge := false }
/-- a generator expression's own scope -/
def genC (sc : Scope) : Bool := !sc.isCoroutine && (match sc.names.lookup (".0" : Str) with | some .local => true | _ => false)
def notLst : Expr → Bool
  | .List _ _ => false
  | _ => true

def isVis (sc : Scope) (x : Str) : Bool := match sc.names.lookup x with
  | some .local => true | some .cell => true | some .free => true
  | _ => false
def isLoc (sc : Scope) (x : Str) : Bool := match sc.names.lookup x with
  | some .local => true | some .cell => true
  | _ => false
def isLocal (sc : Scope) (x : Str) : Bool := match sc.names.lookup x with
  | some .local => true
  | _ => false
def isGlo (sc : Scope) (x : Str) : Bool := match sc.names.lookup x with
  | some .globalImplicit => true
  | _ => false
def okName (x : Str) : Bool := !(x == ("__debug__" : Str)) && !(x == ("__classdict__" : Str))
def slotIs (N : List Str) (sc : Scope) (i : Nat) (x : Str) : Bool := decide (N[i]? = some x) && isVis sc x && okName x
def gloIs (sc : Scope) (x y : Str) : Bool := decide (x = y) && isGlo sc x && okName x
def binOf : BinO → Operator → Bool
  | .add, .Add => true | .sub, .Sub => true | .mul, .Mult => true | .fdiv, .FloorDiv => true | .mod, .Mod => true | .pow, .Pow => true
  | _, _ => false
def cmpOf : CmpO → CmpOp → Bool
  | .lt, .Lt => true | .le, .LtE => true | .gt, .Gt => true | .ge, .GtE => true | .eq, .Eq => true | .ne, .NotEq => true
  | .is, .Is => true | .isnot, .IsNot => true | .inn, .In => true | .notin, .NotIn => true
  | _, _ => false
def biName : Bi → Str
  | .len => "len" | .abs => "abs" | .int => "int" | .min => "min" | .max => "max" | .sum => "sum" | .sorted => "sorted" | .tuple => "tuple" | .list => "list" | .any => "any" | .all => "all"
def tyName : Ty → Str
  | .int => "int" | .bool => "bool" | .str => "str" | .tuple => "tuple" | .list => "list"
def mtName : Mt → Str
  | .index => "index" | .tindex => "index" | .get => "get"
def muName : Mu → Str
  | .append => "append" | .extend => "extend" | .pop => "pop" | .popAt => "pop"
/-- a block's own names, with their places -/
def ownOf (N : List Str) (vs : List Nat) : List (Str × Nat) := vs.filterMap fun i => (N[i]?).map fun x => (x, i)
mutual
def matT (N : List Str) (sc : Scope) : Tg → Expr → Bool
  | .nm i, .Name x _ => decide (N[i]? = some x) && isLoc sc x
  | .tup ts, .Tuple es _ _ => matTs N sc ts es
  | _, _ => false
def matTs (N : List Str) (sc : Scope) : List Tg → List Expr → Bool
  | [], [] => true
  | t :: ts, e :: es => notStar e && matT N sc t e && matTs N sc ts es
  | _, _ => false
end
def swOne (sc : Scope) (l : Nat) : Expr → Option Str
  | .Name id pos => if sc.names.lookup id == some .local && pos.line == l then some id else none
  | _ => none
def swLine (ts : List Expr) : Nat := (ts.head?.map (·.pos.line)).getD 0
def swNames (sc : Scope) (ts : List Expr) : List Str := ts.filterMap (swOne sc (swLine ts))
def isStar : Expr → Bool
  | .Starred _ _ => true
  | _ => false
def swTells (sc : Scope) (ts vs : List Expr) : Bool :=
  (ts.length == 2 || ts.length == 3) && vs.length == ts.length && !(vs.any isStar) && ((swNames sc ts).length == ts.length && (swNames sc ts).eraseDups.length == (swNames sc ts).length) && !(vs.all (foldedForSure 8))
/-- its test is served -/
def tst : E → Bool
  | .own _ => false
  | .chk _ => false
  | .ite _ _ _ => false
  | .band a b => tst a && tst b
  | .bor a b => tst a && tst b
  | .bnot a => tst a
  | _ => true
def needT : E → Bool
  | .ienum _ => true
  | .izip _ _ => true
  | .ichk e => needT e
  | _ => false
def isTupE : Expr → Bool
  | .Tuple _ _ _ => true
  | _ => false
def isTupI : E → Bool
  | .tup _ => true
  | _ => false
def isRg : E → Bool
  | .irng1 _ => true
  | .irng2 _ _ => true
  | .irng3 _ _ _ => true
  | _ => false
def litIs : D → Expr → Bool
  | .int i, .Constant (.int j) _ _ => decide (i = j)
  | .bl i, .Constant (.bool j) _ _ => decide (i = j)
  | .non, .Constant .none _ _ => true
  | .str i, .Constant (.str j) _ _ => decide (i = j)
  | _, _ => false
mutual
def mat (C : Cfg) (sc : Scope) : E → Expr → Bool
  | .own e, x => mat C sc e x
  | .chk e, x => mat C sc e x
  | .ichk e, x => mat C sc e x
  | .lit d, x => litIs d x
  | .var i, x => (match x with | .Name x _ => slotIs C.N sc i x | _ => false)
  | .mov i, x => (match x with | .Name x _ => slotIs C.N sc i x | _ => false)
  | .glb _, _ => false
  | .bin o a b, e => (match e with | .BinOp x op y _ => binOf o op && mat C sc a x && mat C sc b y | _ => false)
  | .neg a, e => (match e with | .UnaryOp .USub x _ => mat C sc a x | _ => false)
  | .cmp o a b, e => (match e with | .Compare x [op] [y] _ => cmpOf o op && !behindInMarks op y && mat C sc a x && mat C sc b y | _ => false)
  | .cmp2 o p a b c, e => (match e with | .Compare x [op, op'] [y, z] _ => cmpOf o op && cmpOf p op' && !lastMarks [op, op'] [y, z] && mat C sc a x && mat C sc b y && mat C sc c z | _ => false)
  | .band a b, e => (match e with
    | .BoolOp .And [x, y] _ => mat C sc a x && mat C sc b y
    | .BoolOp .And (x :: y :: z :: r) p => mat C sc a x && mat C sc b (.BoolOp .And (y :: z :: r) p)
    | _ => false)
  | .bor a b, e => (match e with
    | .BoolOp .Or [x, y] _ => mat C sc a x && mat C sc b y
    | .BoolOp .Or (x :: y :: z :: r) p => mat C sc a x && mat C sc b (.BoolOp .Or (y :: z :: r) p)
    | _ => false)
  | .bnot a, e => (match e with | .UnaryOp .Not x _ => mat C sc a x | _ => false)
  | .ite c a b, e => (match e with | .IfExp z x y _ => tst c && mat C sc c z && mat C sc a x && mat C sc b y | _ => false)
  | .tup es, e => (match e with | .Tuple xs _ _ => mats C sc es xs && decide (es.length < 1000) | _ => false)
  | .lst es, e => (match e with | .List xs _ => mats C sc es xs && decide (es.length < 1000) | _ => false)
  | .dct0, e => (match e with | .Dict [] [] _ => true | _ => false)
  | .idx a i, e => (match e with | .Subscript x y _ => notSlice y && mat C sc a x && mat C sc i y | _ => false)
  | .slc a lo hi, e => (match e with | .Subscript x (.Slice l h none _) _ => mat C sc a x && mato C sc lo l && mato C sc hi h | _ => false)
  | .rev a, e => (match e with | .Subscript x (.Slice none none (some (.UnaryOp .USub (.Constant (.int i) _ _) _)) _) _ => decide (i = 1) && mat C sc a x | _ => false)
  | .fn b es, e => (match e with | .Call (.Name f _) xs [] _ => gloIs sc f (biName b) && !xs.isEmpty && mats C sc es xs | _ => false)
  | .isi a t, e => (match e with | .Call (.Name f _) [x, .Name y _] [] _ => gloIs sc f "isinstance" && gloIs sc y (tyName t) && notStar x && mat C sc a x | _ => false)
  | .mth m o es, e => (match e with
    | .Call (.Attribute x f apos) [y] [] cpos => decide (f = "index") && (apos.endLine == cpos.line) && notStar y && (match m with | .index => notCall x | .tindex => isTupI o | .get => false) && mat C sc o x && (match es with | [a] => mat C sc a y | _ => false)
    | _ => false)
  | .mut m i es, e => (match e with
    | .Call (.Attribute (.Name n _) f apos) xs [] cpos => decide (f = muName m) && (apos.endLine == cpos.line) && slotIs C.N sc i n && (match m, es, xs with
      | .append, [a], [x] => notStar x && mat C sc a x
      | .extend, [a], [x] => notStar x && mat C sc a x
      | .pop, [], [] => true
      | .popAt, [a], [x] => notStar x && mat C sc a x
      | _, _, _ => false)
    | _ => false)
  | .call f es _, e => (match e with | .Call (.Name g _) xs [] _ => decide (C.fns f = some g) && isGlo sc g && okName g && !xs.isEmpty && mats C sc es xs | _ => false)
  | .lc elt x it c, e => (match e with
    | .ListComp ex [⟨tg, ix, ifs, as⟩] scope _ => decide (as = 0) && notSet ix && (!needT it || isTupE tg) && mat C sc it ix && blkC C.N sc scope (ownOf C.N (slotsT x)) && decide ((ownOf C.N (slotsT x)).map (·.2) = slotsT x) &&
      matT C.N scope x tg && mat C (relS scope sc) elt ex && matc C (relS scope sc) c ifs
    | _ => false)
  | .ge k elt x it c, e => (match e with
    | .Call (.Name f _) [.GeneratorExp ex [⟨tg, ix, ifs, as⟩] scope _] [] _ => C.ge && gloIs sc f (geName k) && decide (as = 0) && notSet ix && notLst ix && (!needT it || isTupE tg) && mat C sc it ix && blkC C.N sc scope (ownOf C.N (slotsT x)) && decide ((ownOf C.N (slotsT x)).map (·.2) = slotsT x) &&
      matT C.N scope x tg && genC scope && decide ((".0" : Str) ∉ C.N) && mat C.no scope elt ex && matc C.no scope c ifs
    | _ => false)
  | .lof b it, e => (match e with | .Call (.Name f _) [x] [] _ => (b == .list || b == .tuple) && gloIs sc f (biName b) && notStar x && isRg it && mat C sc it x | _ => false)
  | .irng1 a, e => (match e with | .Call (.Name f _) [x] [] _ => gloIs sc f "range" && notStar x && mat C sc a x | _ => false)
  | .irng2 a b, e => (match e with | .Call (.Name f _) [x, y] [] _ => gloIs sc f "range" && notStar x && notStar y && mat C sc a x && mat C sc b y | _ => false)
  | .irng3 a b c, e => (match e with | .Call (.Name f _) [x, y, z] [] _ => gloIs sc f "range" && notStar x && notStar y && notStar z && mat C sc a x && mat C sc b y && mat C sc c z | _ => false)
  | .ienum a, e => (match e with | .Call (.Name f _) [x] [] _ => gloIs sc f "enumerate" && notStar x && mat C sc a x | _ => false)
  | .izip a b, e => (match e with | .Call (.Name f _) [x, y] [] _ => gloIs sc f "zip" && notStar x && notStar y && mat C sc a x && mat C sc b y | _ => false)
  | .irev a, e => (match e with | .Call (.Name f _) [x] [] _ => gloIs sc f "reversed" && notStar x && mat C sc a x | _ => false)
def mato (C : Cfg) (sc : Scope) : Option E → Option Expr → Bool
  | none, x => (match x with | none => true | _ => false)
  | some e, x => (match x with | some x => mat C sc e x | _ => false)
def matc (C : Cfg) (sc : Scope) : Option E → List Expr → Bool
  | none, xs => (match xs with | [] => true | _ => false)
  | some e, xs => (match xs with | [x] => tst e && mat C sc e x | _ => false)
def mats (C : Cfg) (sc : Scope) : List E → List Expr → Bool
  | [], xs => (match xs with | [] => true | _ => false)
  | e :: es, xs => (match xs with | x :: xs => notStar x && mat C sc e x && mats C sc es xs | _ => false)
end
end Vi

set_option Elab.async false
set_option linter.all false
set_option maxRecDepth 100000
set_option maxHeartbeats 4000000
/-! What an expression's reading yields is what the machine yields. -/
namespace Vi
open PySem L2

def usedB : List Str := ["len", "abs", "int", "min", "max", "sum", "sorted", "tuple", "list", "any", "all", "isinstance", "bool", "str", "range", "enumerate", "zip", "reversed"]
/-- what a def promises: its reading -/
def spF (K : PySem.W.Frag) (cf : Fns) (f : Nat) (F : Fn) : Sp := fun vs H Q _ => vs.length = F.np ∧ ∃ (ds : List D) (W : Own) (d : D) (ρe : Env), ds.length = F.np ∧
  Sts K H F.ms (vs.map some ++ List.replicate (F.ms.length - vs.length) none) (startE F.ms.length ds) W ∧ cf f ds = some (d, ρe) ∧
  ∀ v H' W' A σe, Evo F.ms (List.range F.ms.length) H W H' W' → Sts K H' F.ms σe ρe W' → (∀ j, j < F.np → owns F.ms j = true → σe[j]? = (vs[j]?).map some) → Rp K H' v d A → A.Nodup →
    (∀ a ∈ A, ∀ j, owns F.ms j = true → a ∉ W' j) → (∀ a ∈ A, (∃ k, owns F.ms k = true ∧ a ∈ W k) ∨ H a = none) → Q v H'

structure Good (C : Cfg) (cf : Fns) (gl : Nat → Option D) (X : Cx) : Prop where
  calm : X.calm = true
  N : X.N = C.N
  nd : C.N.Nodup
  len : C.N.length = C.ms.length
  bl : ∀ x ∈ usedB, X.mg x = none
  room : ∃ k, Room k X.A
  fn : ∃ j, Room (j + if C.ge then 1 else 0) X.A ∧ ∀ f g, C.fns f = some g → ∃ (a : Addr) (fd : FuncData) (ps : List Str) (F : Fn), FnOk X.prog X.w X.K X.mg X.base CX0 j a fd ps (spF X.K cf f F) ∧ X.mg g = some (.ref a) ∧
    PySem.W.keepIn X.K (.ref a) = true ∧ Binds X.K fd ps [] ∧ C.pm f = F.ms.take F.np ∧ F.np ≤ F.ms.length ∧ ∀ j, F.np ≤ j → owns F.ms j = true → True
  tab : C.ge = true → ∃ (c P : Addr), (c, P) ∈ tabsK X.K ∧ X.env.code = .ref c ∧ GxR.TabB X.base X.mg c P

/-- behind an expression -/
def Po (K : PySem.W.Frag) (ms : List Bool) (I : Inf) (σ : St) (H : Hp) (W : Own) (ρ' : Env) (d : D) (v : V) (H' : Hp) : Prop :=
  ∃ (W' : Own) (A : List Addr), Evo ms I.T H W H' W' ∧ Sts K H' ms σ ρ' W' ∧ Rp K H' v d A ∧ Vt ms I.T I.o I.s H W W' A ∧ (∀ a ∈ A, (∃ k, a ∈ W k) ∨ H a = none) ∧
    (I.f = true → ∀ xs p B, d = .lst xs → A = p :: B → H p = none ∧ ∀ j, p ∉ W' j) ∧ ∀ i, I.mv = some i → σ[i]? = some (some v)
/-- an expression in the state of several -/
inductive Vl (K : PySem.W.Frag) (ms : List Bool) (T : List Nat) (σ : St) (H : Hp) (W : Own) (H' : Hp) (W' : Own) : List Inf → List V → List D → List (List Addr) → Prop
  | nil : Vl K ms T σ H W H' W' [] [] [] []
  | cons {I : Inf} {v : V} {d : D} {A : List Addr} {Is : List Inf} {vs : List V} {ds : List D} {As : List (List Addr)} :
      Rp K H' v d A → Vt ms T I.o I.s H W W' A → (∀ a ∈ A, (∃ k, a ∈ W k) ∨ H a = none) → (∀ i, I.mv = some i → σ[i]? = some (some v)) → Vl K ms T σ H W H' W' Is vs ds As →
      (I.o = true → ∀ B ∈ As, ∀ a ∈ A, a ∉ B) → (∀ (i : Nat) (J : Inf) (B : List Addr), Is[i]? = some J → As[i]? = some B → J.o = true → ∀ a ∈ A, a ∉ B) → Vl K ms T σ H W H' W' (I :: Is) (v :: vs) (d :: ds) (A :: As)
def PoL (K : PySem.W.Frag) (ms : List Bool) (Is : List Inf) (σ : St) (H : Hp) (W : Own) (ρ' : Env) (ds : List D) (vs : List V) (H' : Hp) : Prop :=
  ∃ (W' : Own) (As : List (List Addr)), Evo ms (allT Is) H W H' W' ∧ Sts K H' ms σ ρ' W' ∧ Vl K ms (allT Is) σ H W H' W' Is vs ds As
def nest (X : Cx) : List Expr → St → Hp → (List V → Hp → Prop) → Prop
  | [], _, H, Q => Q [] H
  | e :: es, σ, H, Q => wpE X e σ H fun v H1 => nest X es σ H1 fun vs H2 => Q (v :: vs) H2
theorem nest_mono {X : Cx} {σ : St} : ∀ {es : List Expr} {H : Hp} {Q Q' : List V → Hp → Prop}, nest X es σ H Q → (∀ vs H', Q vs H' → Q' vs H') → nest X es σ H Q'
  | [], _, _, _, h, k => k _ _ h
  | _ :: _, _, _, _, h, k => wpE_mono h fun v H1 h1 => nest_mono h1 fun vs H2 h2 => k _ _ h2
theorem nest_args {X : Cx} {σ : St} : ∀ {es : List Expr} {H : Hp} {Q : List V → Hp → Prop}, es.all notStar = true → nest X es σ H Q → wpA X es σ H Q
  | [], _, _, _, h => wpA_nil h
  | e :: es, _, _, s, h => by
    have s' : notStar e = true ∧ es.all notStar = true := by simpa only [List.all_cons, Bool.and_eq_true] using s
    exact wpA_cons s'.1 (wpE_mono h fun v H1 h1 => nest_args s'.2 h1)

section
variable {K : PySem.W.Frag} {ms : List Bool} {T S : List Nat} {σ : St} {H H' H1 H2 : Hp} {W W' W1 W2 : Own} {Is : List Inf} {vs : List V} {ds : List D} {As : List (List Addr)}
theorem ov_back {A : List Addr} (e : Evo ms T H W H1 W1) (hT : ∀ j ∈ T, owns ms j = true) (h : ∀ a ∈ A, (∃ k, a ∈ W1 k) ∨ H1 a = none) : ∀ a ∈ A, (∃ k, a ∈ W k) ∨ H a = none := fun a ha => by
  rcases h a ha with ⟨k, q⟩ | q
  · by_cases y : k ∈ T
    · rcases e.nw k y (hT k y) a q with ⟨k', _, _, q'⟩ | q'
      · exact .inl ⟨k', q'⟩
      · exact .inr q'
    · rw [e.un k y] at q; exact .inl ⟨k, q⟩
  · exact .inr (e.dom a q)
theorem Vl.mem (h : Vl K ms T σ H W H' W' Is vs ds As) : ∀ {B}, B ∈ As → ∀ a ∈ B, (∃ k, a ∈ W k) ∨ H a = none := by
  induction h with
  | nil => intro B h; cases h
  | cons r t o m l a1 a2 ih =>
    intro B hB
    rcases List.mem_cons.mp hB with rfl | hB
    · exact o
    · exact ih hB
theorem Vl.mono (h : Vl K ms T σ H W H' W' Is vs ds As) (hs : ∀ j ∈ T, j ∈ S) : Vl K ms S σ H W H' W' Is vs ds As := by
  induction h with
  | nil => exact .nil
  | cons r t o m l a1 a2 ih => exact .cons r (t.monoT hs) o m ih a1 a2
theorem Vl.back (e : Evo ms T H W H1 W1) (hT : ∀ j ∈ T, owns ms j = true) (h : Vl K ms S σ H1 W1 H' W' Is vs ds As) : Vl K ms (T ++ S) σ H W H' W' Is vs ds As := by
  induction h with
  | nil => exact .nil
  | cons r t o m l a1 a2 ih => exact .cons r (t.back e) (ov_back e hT o) m ih a1 a2
/-- behind one more step -/
theorem Vl.evo {R : List Nat} (h : Vl K ms T σ H W H1 W1 Is vs ds As) (e : Evo ms R H1 W1 H' W') (hd : ∀ I ∈ Is, ∀ j ∈ I.s, j ∉ R) (hR : ∀ j ∈ R, owns ms j = true) : Vl K ms T σ H W H' W' Is vs ds As := by
  induction h with
  | nil => exact .nil
  | cons r t o m l a1 a2 ih =>
    have hd0 := hd _ (List.mem_cons_self ..)
    exact .cons (r.evo e (t.out hd0)) (t.evo (alive_ne r) e hd0 hR) o m (ih fun I hI => hd I (List.mem_cons_of_mem _ hI)) a1 a2
theorem Vl.rps (h : Vl K ms T σ H W H' W' Is vs ds As) : Rps K H' vs ds As.flatten := by
  induction h with
  | nil => exact .nil
  | cons r t o m l a1 a2 ih => exact .cons r ih
theorem Vl.len (h : Vl K ms T σ H W H' W' Is vs ds As) : Is.length = vs.length ∧ vs.length = ds.length ∧ As.length = vs.length := by
  induction h with
  | nil => exact ⟨rfl, rfl, rfl⟩
  | cons r t o m l a1 a2 ih => exact ⟨congrArg (· + 1) ih.1, congrArg (· + 1) ih.2.1, congrArg (· + 1) ih.2.2⟩
/-- all together -/
theorem Vl.vt (h : Vl K ms T σ H W H' W' Is vs ds As) : Vt ms T false (allS Is) H W W' As.flatten ∧ (allO Is = true → Vt ms T true [] H W W' As.flatten) ∧ ∀ a ∈ As.flatten, (∃ k, a ∈ W k) ∨ H a = none := by
  induction h with
  | nil => exact ⟨.nilS, fun _ => .nil, fun _ h => by cases h⟩
  | @cons I v d A Is vs ds As r t o m l a1 a2 ih =>
    obtain ⟨i1, i2, i3⟩ := ih
    refine ⟨⟨fun a ha j oj hj => ?_, ft, ft, ft, ft⟩, fun ho => ?_, fun a ha => ?_⟩
    · have hj : j ∉ I.s ++ allS Is := hj
      rcases List.mem_append.mp ha with ha | ha
      · exact t.ap a ha j oj fun z => hj (List.mem_append_left _ z)
      · exact i1.ap a ha j oj fun z => hj (List.mem_append_right _ z)
    · have ho' : I.o = true ∧ allO Is = true := Bool.and_eq_true_iff.mp ho
      have k := i2 ho'.2
      refine ⟨fun a ha j oj _ => ?_, fun _ a ha j => ?_, fun _ => ?_, fun _ a ha => ?_, fun _ => rfl⟩
      · rcases List.mem_append.mp ha with ha | ha
        · exact t.al ho'.1 a ha j
        · exact k.al rfl a ha j
      · rcases List.mem_append.mp ha with ha | ha
        · exact t.al ho'.1 a ha j
        · exact k.al rfl a ha j
      · refine List.nodup_append.mpr ⟨t.nd ho'.1, k.nd rfl, fun a ha b hb e => ?_⟩
        subst e
        obtain ⟨B, hB, hb⟩ := List.mem_flatten.mp hb
        exact a1 ho'.1 B hB a ha hb
      · rcases List.mem_append.mp ha with ha | ha
        · exact t.og ho'.1 a ha
        · exact k.og rfl a ha
    · rcases List.mem_append.mp ha with ha | ha
      · exact o a ha
      · exact i3 a ha
end

/-- an expression's reading holds of the machine -/
def SE (C : Cfg) (cf : Fns) (gl : Nat → Option D) (X : Cx) (ir : E) (e : Expr) : Prop :=
  ∀ σ H W ρ d ρ', (inf C.ms C.pm ir).ok = true → Sts X.K H C.ms σ ρ W → (ev cf gl ir).v ρ = some (d, ρ') → wpE X e σ H (Po X.K C.ms (inf C.ms C.pm ir) σ H W ρ' d)
inductive SEs (C : Cfg) (cf : Fns) (gl : Nat → Option D) (X : Cx) : List E → List Expr → Prop
  | nil : SEs C cf gl X [] []
  | cons {ir : E} {e : Expr} {irs : List E} {es : List Expr} : SE C cf gl X ir e → SEs C cf gl X irs es → SEs C cf gl X (ir :: irs) (e :: es)

theorem mem2 {P : Nat → Prop} {a b : List Nat} (h1 : ∀ j ∈ a, P j) (h2 : ∀ j ∈ b, P j) : ∀ j ∈ a ++ b, P j := fun j h => (List.mem_append.mp h).elim (h1 j) (h2 j)
theorem mem0 {P : Nat → Prop} : ∀ j ∈ ([] : List Nat), P j := fun _ h => nomatch h
theorem bk_own {ms : List Bool} : ∀ {bk : List (Option Nat)} {is : List Inf}, bkOk ms bk is = true → ∀ j ∈ someS bk, owns ms j = true
  | [], _, _, j, h => nomatch h
  | none :: r, [], h, _, _ => by cases h
  | none :: r, _ :: is, h, j, hj => bk_own (bk := r) (is := is) h j hj
  | some i :: r, [], h, _, _ => by cases h
  | some i :: r, x :: is, h, j, hj => by
    have h' : (owns ms i = true ∧ decide (x.mv = some i) = true) ∧ bkOk ms r is = true := by simpa only [bkOk, Bool.and_eq_true] using h
    rcases List.mem_cons.mp hj with rfl | hj
    · exact h'.1.1
    · exact bk_own h'.2 j hj
mutual
theorem inf_own {ms : List Bool} {pm : Nat → List Bool} : ∀ (e : E), (inf ms pm e).ok = true → ∀ j ∈ (inf ms pm e).T, owns ms j = true
  | .lit _, _ => mem0
  | .var _, _ => mem0
  | .glb _, _ => mem0
  | .dct0, _ => mem0
  | .mov i, h => fun j hj => by
    have e : j = i := List.mem_singleton.mp hj
    subst e; exact h
  | .own e, h => inf_own e (Bool.and_eq_true_iff.mp h).1
  | .chk e, h => inf_own e h
  | .ichk e, h => inf_own e h
  | .neg a, h => inf_own a h
  | .bnot a, h => inf_own a h
  | .rev a, h => inf_own a h
  | .isi a _, h => inf_own a h
  | .lof _ a, h => inf_own a h
  | .irng1 a, h => inf_own a h
  | .ienum a, h => inf_own a h
  | .irev a, h => inf_own a h
  | .bin _ a b, h => by
    simp only [inf, two, Bool.and_eq_true] at h
    exact mem2 (inf_own a h.1.1) (inf_own b h.1.2)
  | .cmp _ a b, h => by
    simp only [inf, two, Bool.and_eq_true] at h
    exact mem2 (inf_own a h.1.1) (inf_own b h.1.2)
  | .idx a b, h => by
    simp only [inf, two, Bool.and_eq_true] at h
    exact mem2 (inf_own a h.1.1) (inf_own b h.1.2)
  | .irng2 a b, h => by
    simp only [inf, two, Bool.and_eq_true] at h
    exact mem2 (inf_own a h.1.1) (inf_own b h.1.2)
  | .izip a b, h => by
    simp only [inf, two, Bool.and_eq_true] at h
    exact mem2 (inf_own a h.1.1) (inf_own b h.1.2)
  | .cmp2 _ _ a b c, h => by
    simp only [inf, two, Bool.and_eq_true] at h
    exact mem2 (inf_own a h.1.1.1.1) (mem2 (inf_own b h.1.1.1.2) (inf_own c h.1.1.2))
  | .irng3 a b c, h => by
    have h' : ((inf ms pm a).ok = true ∧ (inf ms pm b).ok = true ∧ (inf ms pm c).ok = true) := by
      have := (Bool.and_eq_true_iff.mp (show allK [inf ms pm a, inf ms pm b, inf ms pm c] = true from h)).1
      simpa using this
    exact mem2 (inf_own a h'.1) (mem2 (inf_own b h'.2.1) (inf_own c h'.2.2))
  | .ite c a b, h => by
    simp only [inf, two, Bool.and_eq_true] at h
    exact mem2 (inf_own c h.1.1) (mem2 (inf_own a h.1.2) (inf_own b h.2))
  | .band a b, h => by
    simp only [inf, two, Bool.and_eq_true] at h
    exact mem2 (inf_own a h.1) (inf_own b h.2)
  | .bor a b, h => by
    simp only [inf, two, Bool.and_eq_true] at h
    exact mem2 (inf_own a h.1) (inf_own b h.2)
  | .slc a lo hi, h => by
    simp only [inf, two, Bool.and_eq_true] at h
    exact mem2 (inf_own a h.1.1.1) (mem2 (info_own lo h.1.1.2) (info_own hi h.1.2))
  | .tup es, h => infs_own es (Bool.and_eq_true_iff.mp h).1
  | .lst es, h => infs_own es (Bool.and_eq_true_iff.mp h).1
  | .fn _ es, h => infs_own es (Bool.and_eq_true_iff.mp h).1
  | .mth _ o es, h => by
    simp only [inf, two, Bool.and_eq_true] at h
    exact mem2 (inf_own o h.1.1) (infs_own es (Bool.and_eq_true_iff.mp h.1.2).1)
  | .mut _ i es, h => by
    simp only [inf, Bool.and_eq_true] at h
    intro j hj
    rcases List.mem_cons.mp hj with rfl | hj
    · exact h.1.1.1
    · exact infs_own es (Bool.and_eq_true_iff.mp h.1.1.2).1 j hj
  | .call _ es bk, h => by
    simp only [inf, two, Bool.and_eq_true] at h
    exact mem2 (infs_own es (Bool.and_eq_true_iff.mp h.1.1.1.1).1) (bk_own h.1.1.2)
  | .lc elt x it c, h => by
    simp only [inf, two, Bool.and_eq_true] at h
    exact mem2 (inf_own it h.1.1.1.1.1.1.1) (mem2 (infc_own c h.1.1.1.1.1.2) (inf_own elt h.1.1.1.1.1.1.2))
  | .ge _ elt x it c, h => by
    simp only [inf, two, Bool.and_eq_true] at h
    exact mem2 (inf_own it h.1.1.1.1.1.1) (mem2 (infc_own c h.1.1.1.1.2) (inf_own elt h.1.1.1.1.1.2))
theorem infc_own {ms : List Bool} {pm : Nat → List Bool} : ∀ (e : Option E), (infc ms pm e).ok = true → ∀ j ∈ (infc ms pm e).T, owns ms j = true
  | none, _ => mem0
  | some e, h => inf_own e h
theorem info_own {ms : List Bool} {pm : Nat → List Bool} : ∀ (e : Option E), (info ms pm e).ok = true → ∀ j ∈ (info ms pm e).T, owns ms j = true
  | none, _ => mem0
  | some e, h => inf_own e h
theorem infs_own {ms : List Bool} {pm : Nat → List Bool} : ∀ (es : List E), (infs ms pm es).all (·.ok) = true → ∀ j ∈ allT (infs ms pm es), owns ms j = true
  | [], _ => mem0
  | e :: es, k => by
    have k' : (inf ms pm e).ok = true ∧ (infs ms pm es).all (·.ok) = true := by simpa only [infs, List.all_cons, Bool.and_eq_true] using k
    exact mem2 (inf_own e k'.1) (infs_own es k'.2)
end
section
variable {C : Cfg} {cf : Fns} {gl : Nat → Option D} {X : Cx}
theorem seq_dis {x : Inf} : ∀ {r : List Inf}, (r.all fun y => dis x.s y.T) = true → ∀ j ∈ x.s, j ∉ allT r
  | [], _, _, _, h => by cases h
  | y :: r, k, j, hj, h => by
    have k' : dis x.s y.T = true ∧ (r.all fun y => dis x.s y.T) = true := by simpa only [List.all_cons, Bool.and_eq_true] using k
    have h' : j ∈ y.T ++ allT r := h
    rcases List.mem_append.mp h' with h | h
    · exact dis_of k'.1 j hj h
    · exact seq_dis k'.2 j hj h
/-- several expressions, one after another -/
theorem args_ok : ∀ {irs : List E} {es : List Expr}, SEs C cf gl X irs es → ∀ {σ : St} {H : Hp} {W : Own} {ρ : Env} {ds : List D} {ρ' : Env}, allK (infs C.ms C.pm irs) = true → Sts X.K H C.ms σ ρ W → evs cf gl irs ρ = some (ds, ρ') →
    nest X es σ H (PoL X.K C.ms (infs C.ms C.pm irs) σ H W ρ' ds)
  | _, _, .nil, σ, H, W, ρ, ds, ρ', _, st, h => by
    cases h
    exact ⟨W, [], Evo.refl, st, .nil⟩
  | _, _, .cons (ir := ir) (irs := irs) h1 h2, σ, H, W, ρ, ds, ρ', k, st, h => by
    unfold evs at h
    cases e1 : (ev cf gl ir).v ρ with
    | none => rw [e1] at h; cases h
    | some p =>
      obtain ⟨d, ρ1⟩ := p
      rw [e1] at h
      simp only [Option.bind_some] at h
      cases e2 : evs cf gl irs ρ1 with
      | none => rw [e2] at h; cases h
      | some q =>
        obtain ⟨ds', ρ2⟩ := q
        rw [e2] at h
        simp only [Option.map_some, Option.some.injEq, Prod.mk.injEq] at h
        obtain ⟨rfl, rfl⟩ := h
        have k' : ((inf C.ms C.pm ir).ok = true ∧ (infs C.ms C.pm irs).all (·.ok) = true) ∧ ((infs C.ms C.pm irs).all (fun y => dis (inf C.ms C.pm ir).s y.T)) = true ∧ seqOk (infs C.ms C.pm irs) = true := by
          simpa only [allK, infs, seqOk, List.all_cons, Bool.and_eq_true] using k
        have kr : allK (infs C.ms C.pm irs) = true := by
          simp only [allK, Bool.and_eq_true]; exact ⟨k'.1.2, k'.2.2⟩
        refine wpE_mono (h1 σ H W ρ d ρ1 k'.1.1 st e1) fun v H1 ⟨W1, A, ev1, st1, r1, t1, o1, f1, m1⟩ => ?_
        refine nest_mono (args_ok h2 kr st1 e2) fun vs H2 ⟨W2, As, ev2, st2, l2⟩ => ?_
        have hT1 := inf_own ir k'.1.1
        have hT2 := infs_own irs k'.1.2
        have hd := seq_dis k'.2.1
        refine ⟨W2, A :: As, ev1.trans ev2, st2, .cons (r1.evo ev2 (t1.out hd)) ((t1.evo (alive_ne r1) ev2 hd hT2).monoT fun j hj => List.mem_append_left _ hj) o1 m1 (l2.back ev1 hT1) (fun ho B hB a ha hb => ?_) fun i J B hJ hB hJo a ha hb => ?_⟩
        · rcases l2.mem hB a hb with ⟨k, q⟩ | q
          · exact t1.al ho a ha k q
          · exact alive_ne r1 a ha q
        · -- a view of the first, an own of the later
          have : ∀ {Is : List Inf} {vs : List V} {ds : List D} {As : List (List Addr)}, Vl X.K C.ms (allT (infs C.ms C.pm irs)) σ H1 W1 H2 W2 Is vs ds As → ∀ {i : Nat} {J : Inf} {B : List Addr}, Is[i]? = some J → As[i]? = some B → J.o = true → ∀ a ∈ B, (∃ k ∈ allT (infs C.ms C.pm irs), owns C.ms k = true ∧ a ∈ W1 k) ∨ H1 a = none := by
            intro Is vs ds As l
            induction l with
            | nil => intro i J B h; simp at h
            | cons r t o m l a1 a2 ih =>
              intro i J B hJ hB hJo
              cases i with
              | zero => simp at hJ hB; subst hJ; subst hB; exact t.og hJo
              | succ i => exact ih (by simpa using hJ) (by simpa using hB) hJo
          rcases this l2 hJ hB hJo a hb with ⟨k, hk, ok, q⟩ | q
          · exact t1.ap a ha k ok (fun z => hd k z hk) q
          · exact alive_ne r1 a ha q
end
end Vi

set_option Elab.async false
set_option linter.all false
set_option maxRecDepth 100000
set_option maxHeartbeats 4000000
/-! tuple * n for n up to 1, and the empty tuple. -/
namespace Vi
open PySem PySem.Spec PyProof.Rows L2
theorem tmul_self (l : Addr) (items : Array Value) (n : Nat) (dd : Option Addr) (sl : Array (Option Value)) (x : Int) (u : Tok) (c0 : (decide (x < -(2 ^ 63)) || decide (x ≥ 2 ^ 63)) = false) (c1 : (items.isEmpty || x == 1) = true) :
    Meets (Builtin.«tuple.__mul__» ⟨[.ref l, .int x u], []⟩) (fun _ R s => s.heap.get? l = some { cls := .type "tuple", dict := dd, data := .seq items n, slots := sl } ∧ R (.ok (.ret (Value.ref l))) s) :=
  .of_wp fun prog w A R s h => by
    obtain ⟨hp, g, d, tk, os⟩ := s
    obtain ⟨hl, h⟩ := h
    have f1 := AutoSeq1.idx_int
    wp_walk using wpAny_loadPart' hl
    repeat (first
      | (refine wpAny_ite_false (decide_eq_false (by rw [c0]; exact Bool.false_ne_true)) ?_; wp_walk using wpAny_loadPart' hl)
      | (refine wpAny_ite_true (decide_eq_true c1) ?_; wp_walk using wpAny_loadPart' hl))
    exact ⟨_, rfl, h⟩
theorem tmul_none (l : Addr) (items : Array Value) (n : Nat) (dd : Option Addr) (sl : Array (Option Value)) (x : Int) (u : Tok) (c0 : (decide (x < -(2 ^ 63)) || decide (x ≥ 2 ^ 63)) = false) (c1 : (items.isEmpty || x == 1) = false) (c2 : (decide (x ≤ 0) || items.isEmpty) = true) :
    Meets (Builtin.«tuple.__mul__» ⟨[.ref l, .int x u], []⟩) (fun _ R s => s.heap.get? l = some { cls := .type "tuple", dict := dd, data := .seq items n, slots := sl } ∧
      R (.ok (.ret (Value.ref s.heap.objs.size))) { s with heap := s.heap.push { cls := Value.type "tuple", data := Data.seq #[] }, toks := s.toks }) :=
  .of_wp fun prog w A R s h => by
    obtain ⟨hp, g, d, tk, os⟩ := s
    obtain ⟨hl, h⟩ := h
    have f1 := AutoSeq1.idx_int
    wp_walk using wpAny_loadPart' hl
    repeat (first
      | (refine wpAny_ite_false (decide_eq_false (by rw [c0]; exact Bool.false_ne_true)) ?_; wp_walk using wpAny_loadPart' hl)
      | (refine wpAny_ite_false (decide_eq_false (by rw [c1]; exact Bool.false_ne_true)) ?_; wp_walk using wpAny_loadPart' hl)
      | (refine wpAny_ite_true (decide_eq_true c2) ?_; wp_walk using wpAny_loadPart' hl))
    exact ⟨_, rfl, h⟩
section
variable {X : Cx}
def rRepS (K : PySem.W.Frag) : R2 := fun x y H Q => ∃ l k xs, x = .ref l ∧ y = .int k ∧ SqT K H l xs ∧ (xs = [] ∨ k = 1) ∧ -1000 ≤ k ∧ k ≤ 1000 ∧ Q (.ref l) H
def rRepN (K : PySem.W.Frag) : R2 := fun x y H Q => ∃ l k xs, x = .ref l ∧ y = .int k ∧ SqT K H l xs ∧ xs ≠ [] ∧ -1000 ≤ k ∧ k ≤ 0 ∧ ∀ p, H p = none → Q (.ref p) (upd H p (.tup []))
theorem op_repS : OpR X (binaryOp .Mult) (rRepS X.K) := by
  intro pins s σ H x y v u Q I rx ry h
  obtain ⟨l, k, xs, rfl, rfl, hT, hc1, h1, h2, q⟩ := h
  cases rx
  obtain ⟨t, rfl⟩ := ry
  obtain ⟨its, r, ⟨⟨cls, dd, data, sl⟩, ho, hc, n, hd⟩, hs⟩ := I.tuple hT
  simp only at hc hd
  subst hc hd
  have hle : its.length = xs.length := r.length.symm
  have c0 : (decide (k < -(2 ^ 63)) || decide (k ≥ 2 ^ 63)) = false := by
    rw [decide_eq_false (by omega), decide_eq_false (by omega)] <;> rfl
  have c1 : (its.toArray.isEmpty || k == 1) = true := by
    rcases hc1 with e | e
    · have : its = [] := List.eq_nil_of_length_eq_zero (by rw [hle, e]; rfl)
      rw [this]; rfl
    · subst e; simp
  exact wpAny_binaryOp_repeat_ref (T := "tuple") (U := "int") (by decide) ⟨_, ho, rfl⟩ (fun s' => typeIs_int s' k t) noFill_tuple_mul PySem.F.fills_int_mul PySem.F.slot_int_rmul repeat_tuple PySem.F.slot_int_index.lookup
    (call_meets PySem.F.slot_int_rmul (typeIs_int s k t) PySem.F.entry_int_rmul (PySem.F.args_int_rmul_2 _ _) (int_rmul_tuple k t l its.toArray n dd sl)
      ⟨ho, rfl, ⟨_, ho, rfl⟩, call_meets PySem.F.slot_tuple_mul ⟨_, ho, rfl⟩ PySem.F.entry_tuple_mul (PySem.F.args_tuple_mul_2 _ _) (tmul_self l its.toArray n dd sl k t c0 c1) ⟨ho, .ref l, H, I, rfl, q⟩⟩)
theorem op_repN : OpR X (binaryOp .Mult) (rRepN X.K) := by
  intro pins s σ H x y v u Q I rx ry h
  obtain ⟨l, k, xs, rfl, rfl, hT, hne, h1, h2, q⟩ := h
  cases rx
  obtain ⟨t, rfl⟩ := ry
  obtain ⟨its, r, ⟨⟨cls, dd, data, sl⟩, ho, hc, n, hd⟩, hs⟩ := I.tuple hT
  simp only at hc hd
  subst hc hd
  have hle : its.length = xs.length := r.length.symm
  have hi : its.toArray.isEmpty = false := by
    cases its with
    | nil => exact absurd (List.eq_nil_of_length_eq_zero hle.symm) hne
    | cons a b => rfl
  have c0 : (decide (k < -(2 ^ 63)) || decide (k ≥ 2 ^ 63)) = false := by
    rw [decide_eq_false (by omega), decide_eq_false (by omega)] <;> rfl
  have c1 : (its.toArray.isEmpty || k == 1) = false := by
    rw [hi, Bool.false_or]
    exact beq_eq_false_iff_ne.mpr (by omega)
  have c2 : (decide (k ≤ 0) || its.toArray.isEmpty) = true := by rw [decide_eq_true h2]; rfl
  refine wpAny_binaryOp_repeat_ref (T := "tuple") (U := "int") (by decide) ⟨_, ho, rfl⟩ (fun s' => typeIs_int s' k t) noFill_tuple_mul PySem.F.fills_int_mul PySem.F.slot_int_rmul repeat_tuple PySem.F.slot_int_index.lookup
    (call_meets PySem.F.slot_int_rmul (typeIs_int s k t) PySem.F.entry_int_rmul (PySem.F.args_int_rmul_2 _ _) (int_rmul_tuple k t l its.toArray n dd sl)
      ⟨ho, rfl, ⟨_, ho, rfl⟩, call_meets PySem.F.slot_tuple_mul ⟨_, ho, rfl⟩ PySem.F.entry_tuple_mul (PySem.F.args_tuple_mul_2 _ _) (tmul_none l its.toArray n dd sl k t c0 c1 c2) ⟨ho, ?_⟩⟩)
  refine ⟨.ref s.heap.objs.size, _, I.laid (t' := s.toks) (o := .tup []) (fun b ob q => Heap.get?_push_of_some _ q) (Nat.le_refl _) ?_, rfl, q _ (I.hok.fresh (Nat.le_refl _))⟩
  exact ⟨Nat.zero_le _, [], .nil, IsTup.new _ _⟩
end
end Vi

set_option Elab.async false
set_option linter.all false
set_option maxRecDepth 100000
set_option maxHeartbeats 4000000
/-! Operators, comparisons, built-in functions by values. -/
namespace Vi
open PySem L2

/-! ### as the library's data -/
mutual
def toPy : D → PyData
  | .non => .none
  | .bl b => .bool b
  | .int i => .int i
  | .str s => .str s
  | .tup xs => .tuple (toPys xs)
  | .lst xs => .list (toPys xs)
  | .dct _ _ => .dict []
  | .scr _ => .dict []
def toPys : List D → List PyData
  | [] => []
  | x :: xs => toPy x :: toPys xs
end
mutual
theorem op_fdivB {X : Cx} : OpR X (binaryOp .FloorDiv) (rI (fun _ j => j ≠ 0 ∧ j.natAbs < 18446744073709551616) fun i j => .int (i.fdiv j)) := opI fun i j _ _ _ _ _ hc q => PyProof.Rows.floordiv_int hc.1 q (.inl (PyProof.noPylong_of_log2 (by
  have h : j.natAbs < 2 ^ 64 := hc.2
  have := PySem.Flt.log2_lt_of (show 0 < 64 by decide) h
  omega)))
theorem shp_lay : ∀ (n : Nat) (d : D), shp n d = true → (toPy d).canLay0 = true ∧ (toPy d).depth ≤ n
  | n, .non, _ => ⟨rfl, Nat.zero_le _⟩
  | n, .bl _, _ => ⟨rfl, Nat.zero_le _⟩
  | n, .int _, _ => ⟨rfl, Nat.zero_le _⟩
  | n, .str s, h => ⟨by cases n <;> exact h, Nat.zero_le _⟩
  | 0, .tup _, h => by cases h
  | n + 1, .tup xs, h => ⟨(shps_lay n xs h).1, Nat.succ_le_succ (shps_lay n xs h).2⟩
  | 0, .lst _, h => by cases h
  | n + 1, .lst xs, h => ⟨(shps_lay n xs h).1, Nat.succ_le_succ (shps_lay n xs h).2⟩
  | 0, .dct _ _, h => by cases h
  | _ + 1, .dct _ _, h => by cases h
  | 0, .scr _, h => by cases h
  | _ + 1, .scr _, h => by cases h
theorem shps_lay : ∀ (n : Nat) (ds : List D), shps n ds = true → PyData.canLayAll0 (toPys ds) = true ∧ PyData.depthAll (toPys ds) ≤ n
  | _, [], _ => ⟨rfl, Nat.zero_le _⟩
  | n, x :: xs, h => by
    have h' : shp n x = true ∧ shps n xs = true := by cases n <;> exact Bool.and_eq_true_iff.mp h
    have a := shp_lay n x h'.1
    have b := shps_lay n xs h'.2
    exact ⟨Bool.and_eq_true_iff.mpr ⟨a.1, b.1⟩, Nat.max_le.mpr ⟨a.2, b.2⟩⟩
end
theorem shaped_of {n : Nat} {d : D} (h : shp n d = true) (hn : n ≤ 64) : SeqAt.shaped (toPy d) = true := by
  have a := shp_lay n d h
  unfold SeqAt.shaped
  rw [a.1, decide_eq_true (Nat.le_trans a.2 hn)]; rfl
mutual
theorem eqv_eq : ∀ (n m : Nat) (d e : D), shp n d = true → shp m e = true → PyData.eqv (toPy d) (toPy e) = eqD d e := by
  intro n m d e h1 h2
  cases d with
  | tup xs =>
    cases n with
    | zero => cases h1
    | succ n =>
      cases e with
      | tup ys =>
        cases m with
        | zero => cases h2
        | succ m => exact eqvs_eq n m xs ys h1 h2
      | dct _ _ => cases m <;> cases h2
      | scr _ => cases m <;> cases h2
      | _ => rfl
  | lst xs =>
    cases n with
    | zero => cases h1
    | succ n =>
      cases e with
      | lst ys =>
        cases m with
        | zero => cases h2
        | succ m => exact eqvs_eq n m xs ys h1 h2
      | dct _ _ => cases m <;> cases h2
      | scr _ => cases m <;> cases h2
      | _ => rfl
  | dct _ _ => cases n <;> cases h1
  | scr _ => cases n <;> cases h1
  | _ =>
    cases e with
    | dct _ _ => cases m <;> cases h2
    | scr _ => cases m <;> cases h2
    | _ => rfl
termination_by n m d e => sizeOf d
theorem eqvs_eq : ∀ (n m : Nat) (ds es : List D), shps n ds = true → shps m es = true → PyData.eqvAll (toPys ds) (toPys es) = eqDs ds es
  | _, _, [], [], _, _ => rfl
  | _, _, [], _ :: _, _, _ => rfl
  | _, _, _ :: _, [], _, _ => rfl
  | n, m, x :: xs, y :: ys, h1, h2 => by
    have h1' : shp n x = true ∧ shps n xs = true := by cases n <;> exact Bool.and_eq_true_iff.mp h1
    have h2' : shp m y = true ∧ shps m ys = true := by cases m <;> exact Bool.and_eq_true_iff.mp h2
    show (PyData.eqv (toPy x) (toPy y) && PyData.eqvAll (toPys xs) (toPys ys)) = (eqD x y && eqDs xs ys)
    rw [eqv_eq n m x y h1'.1 h2'.1, eqvs_eq n m xs ys h1'.2 h2'.2]
termination_by n m ds es => sizeOf ds
end
section
variable {K : PySem.W.Frag} {H : Hp}
mutual
theorem Rp.dp : ∀ {v : V} {d : D} {A : List Addr} {n : Nat}, Rp K H v d A → shp n d = true → Dp K H v (toPy d)
  | _, _, _, _, .non, _ => .non
  | _, _, _, _, .bl b, _ => .bl b
  | _, _, _, _, .int i, _ => .int i
  | _, _, _, _, .str s, _ => .str s
  | _, _, _, 0, .tup _ _, h => by cases h
  | _, _, _, n + 1, .tup q r, h => .tup (.of q) (Rps.dp (n := n) r h)
  | _, _, _, 0, .lst _ _, h => by cases h
  | _, _, _, n + 1, .lst q r, h => .lst (.of q) (Rps.dp (n := n) r h)
  | _, _, _, 0, .dK _ _, h => by cases h
  | _, _, _, _ + 1, .dK _ _, h => by cases h
  | _, _, _, 0, .dT _ _, h => by cases h
  | _, _, _, _ + 1, .dT _ _, h => by cases h
  | _, _, _, 0, .scr _, h => by cases h
  | _, _, _, _ + 1, .scr _, h => by cases h
theorem Rps.dp : ∀ {vs : List V} {ds : List D} {A : List Addr} {n : Nat}, Rps K H vs ds A → shps n ds = true → DpAll K H vs (toPys ds)
  | _, _, _, _, .nil, _ => .nil
  | _, _, _, n, .cons (d := d) (ds := ds) q r, h => by
    have h' : shp n d = true ∧ shps n ds = true := by cases n <;> exact Bool.and_eq_true_iff.mp h
    exact .cons (Rp.dp (n := n) q h'.1) (Rps.dp (n := n) r h'.2)
end
end
theorem any_toPys (n m : Nat) (x : D) (hx : shp n x = true) : ∀ (ys : List D), shps m ys = true → ((toPys ys).any fun z => PyData.eqv z (toPy x)) = memD x ys
  | [], _ => rfl
  | y :: ys, h => by
    have h' : shp m y = true ∧ shps m ys = true := by cases m <;> exact Bool.and_eq_true_iff.mp h
    show (PyData.eqv (toPy y) (toPy x) || (toPys ys).any fun z => PyData.eqv z (toPy x)) = (eqD y x || memD x ys)
    rw [eqv_eq m n y x h'.1 hx, any_toPys n m x hx ys h'.2]

/-- what a rule by values yields: new objects alone; A within As or new -/
def Pr (K : PySem.W.Frag) (H : Hp) (As : List Addr) (f : Bool) (d : D) (v : V) (H' : Hp) : Prop :=
  (∀ a o, H a = some o → H' a = some o) ∧ ∃ A, Rp K H' v d A ∧ (∀ a ∈ A, a ∈ As ∨ H a = none) ∧ (f = true → ∀ xs p B, d = .lst xs → A = p :: B → H p = none)
section
variable {K : PySem.W.Frag} {H : Hp} {As : List Addr} {f : Bool}
theorem same {a : Addr} {o : HO} : H a = some o → H a = some o := id
theorem Pr.int (i : Int) : Pr K H As f (.int i) (.int i) H := ⟨fun _ _ h => h, [], .int i, fun _ h => (nomatch h), fun _ _ _ _ e => (nomatch e)⟩
theorem Pr.bl (b : Bool) : Pr K H As f (.bl b) (.bl b) H := ⟨fun _ _ h => h, [], .bl b, fun _ h => (nomatch h), fun _ _ _ _ e => (nomatch e)⟩
theorem Pr.str (b : Str) : Pr K H As f (.str b) (.str b) H := ⟨fun _ _ h => h, [], .str b, fun _ h => (nomatch h), fun _ _ _ _ e => (nomatch e)⟩
theorem ext_new {p : Addr} {o : HO} (h : H p = none) : ∀ a u, H a = some u → upd H p o a = some u := fun a u e => by rw [upd_ne (ne_of_none e h)]; exact e
theorem Rps.ext {H' : Hp} {vs : List V} {ds : List D} {A : List Addr} (r : Rps K H vs ds A) (h : ∀ a o, H a = some o → H' a = some o) : Rps K H' vs ds A := r.keep (fun a o e _ => h a o e) fun a _ o e => h a o e
theorem Rp.ext {H' : Hp} {v : V} {d : D} {A : List Addr} (r : Rp K H v d A) (h : ∀ a o, H a = some o → H' a = some o) : Rp K H' v d A := r.keep (fun a o e _ => h a o e) fun a _ o e => h a o e
theorem Pr.lst {p : Addr} {vs : List V} {ds : List D} {A : List Addr} (hp : H p = none) (r : Rps K H vs ds A) (h : ∀ a ∈ A, a ∈ As) : Pr K H As f (.lst ds) (.ref p) (upd H p (.lst vs)) :=
  ⟨ext_new hp, p :: A, .lst upd_same (r.ext (ext_new hp)), fun a ha => by
    rcases List.mem_cons.mp ha with rfl | ha
    · exact .inr hp
    · exact .inl (h a ha), fun _ xs q B _ e => by injection e with e1 _; subst e1; exact hp⟩
theorem Pr.tup {p : Addr} {vs : List V} {ds : List D} {A : List Addr} (hp : H p = none) (r : Rps K H vs ds A) (h : ∀ a ∈ A, a ∈ As) : Pr K H As f (.tup ds) (.ref p) (upd H p (.tup vs)) :=
  ⟨ext_new hp, A, .tup upd_same (r.ext (ext_new hp)), fun a ha => .inl (h a ha), fun _ _ _ _ e => nomatch e⟩
theorem Pr.old {v : V} {d : D} {A : List Addr} (r : Rp K H v d A) (h : ∀ a ∈ A, a ∈ As) (hd : ∀ xs, d ≠ .lst xs) : Pr K H As f d v H := ⟨fun _ _ e => e, A, r, fun a ha => .inl (h a ha), fun _ xs _ _ e => absurd e (hd xs)⟩
theorem Pr.old' {v : V} {d : D} {A : List Addr} (r : Rp K H v d A) (h : ∀ a ∈ A, a ∈ As) : Pr K H As false d v H := ⟨fun _ _ e => e, A, r, fun a ha => .inl (h a ha), fun z => Bool.noConfusion z⟩
theorem Pr.mono {Bs : List Addr} {d : D} {v : V} {H' : Hp} (p : Pr K H As f d v H') (h : ∀ a ∈ As, a ∈ Bs) : Pr K H Bs f d v H' := let ⟨e, A, r, q, g⟩ := p; ⟨e, A, r, fun a ha => (q a ha).imp_left (h a), g⟩
end
theorem sz_eq : sizeLine = sz := sizeLine_eq

section
variable {X : Cx} {H : Hp} {v1 v2 : V} {A1 A2 : List Addr} {d1 d2 d : D}
theorem rep_rps {K : PySem.W.Frag} {vs : List V} {ds : List D} {A : List Addr} (r : Rps K H vs ds A) : ∀ k : Nat, ∃ B, Rps K H (List.replicate k vs).flatten (List.replicate k ds).flatten B ∧ ∀ a ∈ B, a ∈ A
  | 0 => ⟨[], .nil, fun _ h => nomatch h⟩
  | k + 1 => by
    obtain ⟨B, q, s⟩ := rep_rps r k
    rw [List.replicate_succ, List.replicate_succ, List.flatten_cons, List.flatten_cons]
    exact ⟨A ++ B, r.append q, fun a ha => (List.mem_append.mp ha).elim id (s a)⟩
theorem nat_abs_lt {i : Int} {n : Nat} (h : i.natAbs < n) : -(n : Int) < i ∧ i < n := by omega
def binO : BinO → Operator
  | .add => .Add | .sub => .Sub | .mul => .Mult | .fdiv => .FloorDiv | .mod => .Mod | .pow => .Pow
theorem binO_of {o : BinO} {op : Operator} (h : binOf o op = true) : op = binO o := by
  cases o <;> cases op <;> first | rfl | cases h
/-- a binary operator -/
theorem op_sem (o : BinO) (op : Operator) (ho : binOf o op = true) (r1 : Rp X.K H v1 d1 A1) (r2 : Rp X.K H v2 d2 A2) (h : opD o d1 d2 = some d) {Q : VK} (q : ∀ v H', Pr X.K H (A1 ++ A2) true d v H' → Q v H') :
    wOp X (binaryOp op) v1 v2 H Q := by
  have hop := binO_of ho
  subst hop
  clear ho
  cases o with
  | add =>
    cases r1 <;> cases r2 <;> try (cases h; done)
    · -- ints
      cases h
      exact of_op op_add ⟨_, _, rfl, rfl, q _ _ (.int _)⟩
    · -- strs
      simp only [opD] at h
      split at h
      · rename_i hz
        cases h
        exact of_op op_add_str ⟨_, _, rfl, rfl, by rw [sz_eq]; exact hz, q _ _ (.str _)⟩
      · cases h
    · -- tuples
      rename_i a xs ds s1 t1 b ys es s2 t2
      simp only [opD] at h
      split at h
      · rename_i hz
        cases h
        have hz : ds.length + es.length ≤ sz := of_decide_eq_true hz
        have l1 := t1.length
        have l2 := t2.length
        refine of_op op_catA ⟨a, b, xs, ys, rfl, rfl, .of s1, .of s2, by rw [sz_eq]; omega, fun e => ?_, fun e1 e => ?_, fun _ _ p hp => ?_⟩
        · subst e
          cases t1
          exact q _ _ (.old (.tup s2 t2) (fun a ha => ha) fun _ z => nomatch z)
        · subst e
          cases t2
          simp only [List.append_nil] at q
          exact q _ _ (.old (.tup s1 t1) (fun a ha => by simpa using ha) fun _ z => nomatch z)
        · exact q _ _ (.tup hp (t1.append t2) fun a ha => ha)
      · cases h
    · -- lists
      rename_i a xs ds A s1 t1 b ys es B s2 t2
      simp only [opD] at h
      split at h
      · rename_i hz
        cases h
        have hz : ds.length + es.length ≤ sz := of_decide_eq_true hz
        have l1 := t1.length
        have l2 := t2.length
        refine of_op op_cat ⟨a, b, xs, ys, rfl, rfl, s1, s2, by rw [sz_eq]; omega, fun p hp => ?_⟩
        refine q _ _ (.lst hp (t1.append t2) fun a ha => ?_)
        rcases List.mem_append.mp ha with ha | ha
        · exact List.mem_append_left _ (List.mem_cons_of_mem _ ha)
        · exact List.mem_append_right _ (List.mem_cons_of_mem _ ha)
      · cases h
  | sub =>
    cases r1 <;> cases r2 <;> try (cases h; done)
    cases h
    exact of_op op_sub ⟨_, _, rfl, rfl, q _ _ (.int _)⟩
  | mul =>
    cases r1 <;> cases r2 <;> try (cases h; done)
    · rename_i i j
      simp only [opD] at h
      split at h
      · rename_i hz
        cases h
        refine of_op op_mul ⟨_, _, rfl, rfl, ?_, q _ _ (.int _)⟩
        rcases Bool.or_eq_true_iff.mp hz with hz | hz
        · have := nat_abs_lt (of_decide_eq_true hz)
          exact .inl (by omega)
        · have := nat_abs_lt (of_decide_eq_true hz)
          exact .inr (by omega)
      · cases h
    · -- tuple * int
      rename_i a xs ds s1 t1 n
      simp only [opD] at h
      split at h
      · rename_i hz
        cases h
        simp only [Bool.and_eq_true, decide_eq_true_eq] at hz
        obtain ⟨⟨h1, h2⟩, h3⟩ := hz
        have l1 := t1.length
        obtain ⟨B, rr, sub⟩ := rep_rps t1 n.toNat
        by_cases e0 : xs = []
        · subst e0
          cases t1
          exact of_op op_repS ⟨a, n, [], rfl, rfl, .of s1, .inl rfl, h1, h2, by
            have e : rep n ([] : List D) = [] := by unfold rep; simp
            rw [e] at q
            exact q _ _ (.old (.tup s1 .nil) (fun b hb => nomatch hb) fun zs e => nomatch e)⟩
        · by_cases e1 : n = 1
          · subst e1
            exact of_op op_repS ⟨a, 1, xs, rfl, rfl, .of s1, .inr rfl, h1, h2, by
              have e : rep 1 ds = ds := by unfold rep; simp
              rw [e] at q
              exact q _ _ (.old (.tup s1 t1) (fun b hb => List.mem_append_left _ hb) fun zs e => nomatch e)⟩
          · by_cases e2 : n ≤ 0
            · have e : rep n ds = [] := by unfold rep; rw [Int.toNat_of_nonpos e2]; rfl
              rw [e] at q
              exact of_op op_repN ⟨a, n, xs, rfl, rfl, .of s1, e0, h1, e2, fun p hp => q _ _ (.tup hp .nil fun b hb => nomatch hb)⟩
            · refine of_op op_repT ⟨a, n, xs, rfl, rfl, .of s1, e0, by omega, h2, by omega, fun p hp => q _ _ (.tup hp rr fun b hb => List.mem_append_left _ (sub b hb))⟩
      · cases h
    · -- list * int
      rename_i a xs ds A s1 t1 n
      simp only [opD] at h
      split at h
      · rename_i hz
        cases h
        simp only [repOk, Bool.and_eq_true, decide_eq_true_eq] at hz
        obtain ⟨h1, h2⟩ := hz
        have l1 := t1.length
        obtain ⟨B, rr, sub⟩ := rep_rps t1 n.toNat
        have hn : sz = 16777216 := rfl
        refine of_op op_rep ⟨a, n, xs, rfl, rfl, s1, by omega, by omega, by rw [sz_eq, l1]; exact h2, fun p hp => q _ _ (.lst hp rr fun a ha => by simpa using .inr (sub a ha))⟩
      · cases h
  | fdiv =>
    cases r1 <;> cases r2 <;> try (cases h; done)
    simp only [opD] at h
    split at h
    · rename_i hz
      cases h
      exact of_op op_fdivN ⟨_, _, rfl, rfl, hz, q _ _ (.int _)⟩
    · split at h
      · rename_i hz
        cases h
        exact of_op op_fdivB ⟨_, _, rfl, rfl, hz, q _ _ (.int _)⟩
      · cases h
  | mod =>
    cases r1 <;> cases r2 <;> try (cases h; done)
    simp only [opD] at h
    split at h
    · rename_i hz
      cases h
      exact of_op op_modN ⟨_, _, rfl, rfl, hz, q _ _ (.int _)⟩
    · cases h
  | pow =>
    cases r1 <;> cases r2 <;> try (cases h; done)
    simp only [opD] at h
    split at h
    · rename_i hz
      cases h
      exact of_op op_pow ⟨_, _, rfl, rfl, ⟨hz.1, hz.2.1, by omega⟩, q _ _ (.int _)⟩
    · cases h
end
end Vi

set_option Elab.async false
set_option linter.all false
set_option maxRecDepth 100000
set_option maxHeartbeats 4000000
/-! Comparisons, truth, subscripts by values; dicts. -/
namespace Vi
open PySem L2

/-! ### keys -/
theorem eqD_key (a b : Key) : eqD (keyOf a) (keyOf b) = decide (a = b) := by
  cases a <;> cases b <;> simp [keyOf, eqD, Bool.beq_eq_decide_eq]
theorem eqDs_keys : ∀ (a b : List Key), eqDs (a.map keyOf) (b.map keyOf) = decide (a = b)
  | [], [] => by simp [eqDs]
  | [], _ :: _ => by simp [eqDs]
  | _ :: _, [] => by simp [eqDs]
  | x :: xs, y :: ys => by
    show (eqD (keyOf x) (keyOf y) && eqDs (xs.map keyOf) (ys.map keyOf)) = _
    rw [eqD_key, eqDs_keys xs ys]
    by_cases h1 : x = y <;> by_cases h2 : xs = ys <;> simp [h1, h2]
def tupKey (k : List Key) : D := .tup (k.map keyOf)
theorem eqD_tupKey (a b : List Key) : eqD (tupKey a) (tupKey b) = decide (a = b) := eqDs_keys a b
section
variable {K : PySem.W.Frag} {H : Hp}
theorem find_rel {κ : Type} [DecidableEq κ] (enc : κ → D) (he : ∀ a b, eqD (enc a) (enc b) = decide (a = b)) (k : κ) : ∀ (kvs : List (κ × V)) {vs : List D} {A : List Addr}, Rps K H (kvs.map (·.2)) vs A →
    (∃ d v B, findK (enc k) (kvs.map fun p => enc p.1) vs = some d ∧ valV kvs k = some v ∧ Rp K H v d B ∧ ∀ a ∈ B, a ∈ A) ∨ (findK (enc k) (kvs.map fun p => enc p.1) vs = none ∧ valV kvs k = none)
  | [], _, _, h => by cases h; exact .inr ⟨rfl, rfl⟩
  | (k', v) :: r, _, _, h => by
    cases h with
    | cons h1 h2 =>
      rename_i d A' ds B
      show (∃ d' v' B', (if eqD (enc k') (enc k) = true then some d else findK (enc k) (r.map fun p => enc p.1) ds) = some d' ∧ _) ∨ _
      by_cases e : k' = k
      · left
        refine ⟨d, v, A', ?_, valV_pos e, h1, fun a ha => List.mem_append_left _ ha⟩
        rw [he, decide_eq_true e]; rfl
      · have hf : findK (enc k) (((k', v) :: r).map fun p => enc p.1) (d :: ds) = findK (enc k) (r.map fun p => enc p.1) ds := by
          show (if eqD (enc k') (enc k) = true then some d else findK (enc k) (r.map fun p => enc p.1) ds) = _
          rw [he, decide_eq_false e]; rfl
        rcases find_rel enc he k r h2 with ⟨d', v', B', q1, q2, q3, q4⟩ | ⟨q1, q2⟩
        · left
          exact ⟨d', v', B', hf.trans q1, (valV_neg e).trans q2, q3, fun a ha => List.mem_append_right _ (q4 a ha)⟩
        · right
          exact ⟨hf.trans q1, (valV_neg e).trans q2⟩
theorem key_int {v : V} {d : D} {A : List Addr} (r : Rp K H v d A) (h : isKey d = true) : (∃ k, d = keyOf k ∧ v = kV k) ∨ ∃ k b, d = tupKey k ∧ v = .ref b ∧ H b = some (.tup (k.map kV)) := by
  cases r with
  | int i => exact .inl ⟨.inl i, rfl, rfl⟩
  | str s => exact .inl ⟨.inr s, rfl, rfl⟩
  | tup e rs =>
    right
    have all : ∀ {xs : List V} {ds : List D} {A : List Addr}, Rps K H xs ds A → (ds.all fun x => match x with | .int _ => true | .str _ => true | _ => false) = true → ∃ k : List Key, ds = k.map keyOf ∧ xs = k.map kV := by
      intro xs ds A r
      intro h
      induction ds generalizing xs A with
      | nil => cases r; exact ⟨[], rfl, rfl⟩
      | cons d ds ih =>
        cases r with
        | cons r1 r2 =>
          have h' := Bool.and_eq_true_iff.mp (by simpa only [List.all_cons] using h)
          obtain ⟨k, e1, e2⟩ := ih r2 h'.2
          cases r1 with
          | int i => exact ⟨.inl i :: k, by rw [e1]; rfl, by rw [e2]; rfl⟩
          | str i => exact ⟨.inr i :: k, by rw [e1]; rfl, by rw [e2]; rfl⟩
          | non => exact absurd h'.1 Bool.false_ne_true
          | bl _ => exact absurd h'.1 Bool.false_ne_true
          | tup _ _ => exact absurd h'.1 Bool.false_ne_true
          | lst _ _ => exact absurd h'.1 Bool.false_ne_true
          | dK _ _ => exact absurd h'.1 Bool.false_ne_true
          | dT _ _ => exact absurd h'.1 Bool.false_ne_true
          | scr _ => exact absurd h'.1 Bool.false_ne_true
    obtain ⟨k, e1, e2⟩ := all rs h
    subst e1; subst e2
    exact ⟨k, _, rfl, rfl, e⟩
  | non => cases h
  | bl _ => cases h
  | lst _ _ => cases h
  | dK _ _ => cases h
  | dT _ _ => cases h
  | scr _ => cases h
end
theorem keyOf_noTup (k : Key) : ∀ xs, keyOf k ≠ .tup xs := by intro xs; cases k <;> exact fun z => nomatch z
theorem same_nil_T {k : List Key} {kvs : List (Key × V)} (h : (kvs.map fun p => keyOf p.1).all (sameKind (tupKey k)) = true) : kvs = [] := by
  cases kvs with
  | nil => rfl
  | cons p r =>
    have h' := (Bool.and_eq_true_iff.mp (by simpa only [List.map_cons, List.all_cons] using h)).1
    obtain ⟨k', v⟩ := p
    cases k' <;> exact absurd h' Bool.false_ne_true
theorem same_nil_K {k : Key} {kvs : List (List Key × V)} (h : (kvs.map fun p => tupKey p.1).all (sameKind (keyOf k)) = true) : kvs = [] := by
  cases kvs with
  | nil => rfl
  | cons p r =>
    have h' := (Bool.and_eq_true_iff.mp (by simpa only [List.map_cons, List.all_cons] using h)).1
    cases k <;> exact absurd h' Bool.false_ne_true
section
variable {X : Cx} {pins : List (Addr × Obj)} {σ : St} {H : Hp} {s : Shared} {a : Addr}
/-- an empty dict may be looked upon either way -/
theorem Inv.toT (I : Inv X pins σ H s) (h : H a = some (.dK [])) : Inv X pins σ (upd H a (.dT [])) s := by
  obtain ⟨z, y, vs, rel, o, es, ep, e1, e2, e3, _, e5, _⟩ := dk_of I.hok h
  cases rel
  refine I.write (x := a) (e := a) (t' := s.toks) (h' := s.heap) (by rw [h]; exact True.intro) (.inl rfl) (fun b u _ q => q) ⟨o, e1⟩ ?_
  refine ⟨Nat.zero_le _, y, [], .nil, o, es, ep, e1, e2, e3, ?_, List.nodup_nil⟩
  cases hes : es.toList with
  | nil => rfl
  | cons x r => rw [hes] at e5; cases e5
theorem Inv.toK (I : Inv X pins σ H s) (h : H a = some (.dT [])) : Inv X pins σ (upd H a (.dK [])) s := by
  obtain ⟨z, y, xs, rel, o, es, ep, e1, e2, e3, e4, _⟩ := (show ObjOk X.prog X.w H s.heap a (.dT []) from I.hok a _ h)
  cases rel
  have hes : es = #[] := by
    have : es.toList = [] := by simpa using e4
    simpa using congrArg List.toArray this
  subst hes
  refine I.write (x := a) (e := a) (t' := s.toks) (h' := s.heap) (by rw [h]; exact True.intro) (.inl rfl) (fun b u _ q => q) ⟨o, e1⟩ ?_
  exact ⟨Nat.zero_le _, y, [], .nil, o, #[], ep, e1, e2, e3, (fun e he => by simp at he), .nil, List.nodup_nil⟩
theorem upd_back {o u : HO} (h : H a = some o) : upd (upd H a u) a o = H := by
  rw [upd_upd]
  funext b
  unfold upd
  split
  · rename_i e; rw [e, h]
  · rfl
/-- what a dict holds at a key, by data -/
theorem dget_rel {v1 v2 : V} {ks vs : List D} {dk : D} {A1 A2 : List Addr} (r1 : Rp X.K H v1 (.dct ks vs) A1) (r2 : Rp X.K H v2 dk A2) (hk : keyFor dk ks = true) :
    ∃ a, v1 = .ref a ∧ ((∃ o, DGet H a v2 o ∧ ((∃ d v B, findK dk ks vs = some d ∧ o = some v ∧ Rp X.K H v d B ∧ ∀ a ∈ B, a ∈ A1) ∨ (findK dk ks vs = none ∧ o = none))) ∨
      (findK dk ks vs = none ∧ ∃ o u, H a = some o ∧ DGet (upd H a u) a v2 none ∧ (∀ pins σ s, Inv X pins σ H s → Inv X pins σ (upd H a u) s) ∧ ∀ pins σ s, Inv X pins σ (upd H a u) s → Inv X pins σ H s)) := by
  have hk' := Bool.and_eq_true_iff.mp hk
  cases r1 with
  | @dK a kvs vs A ea rs =>
    refine ⟨a, rfl, ?_⟩
    rcases key_int r2 hk'.1 with ⟨k, rfl, rfl⟩ | ⟨k, b, rfl, rfl, eb⟩
    · left
      refine ⟨_, DGet.k ea, ?_⟩
      rcases find_rel keyOf eqD_key k kvs rs with ⟨d, v, B, q1, q2, q3, q4⟩ | ⟨q1, q2⟩
      · exact .inl ⟨d, v, B, q1, q2, q3, fun a ha => List.mem_cons_of_mem _ (q4 a ha)⟩
      · exact .inr ⟨q1, q2⟩
    · right
      have e := same_nil_T hk'.2
      subst e
      refine ⟨rfl, .dK [], .dT [], ea, DGet.t upd_same (by rw [upd_ne (ne_of eb ea (by intro z; cases z))]; exact eb), fun pins σ s I => Inv.toT I ea, fun pins σ s I => ?_⟩
      have := Inv.toK I upd_same
      rwa [upd_back ea] at this
  | @dT a kvs vs A ea rs =>
    refine ⟨a, rfl, ?_⟩
    rcases key_int r2 hk'.1 with ⟨k, rfl, rfl⟩ | ⟨k, b, rfl, rfl, eb⟩
    · right
      have e := same_nil_K hk'.2
      subst e
      refine ⟨by cases rs; cases k <;> rfl, .dT [], .dK [], ea, DGet.k upd_same, fun pins σ s I => Inv.toK I ea, fun pins σ s I => ?_⟩
      have := Inv.toT I upd_same
      rwa [upd_back ea] at this
    · left
      refine ⟨_, DGet.t ea eb, ?_⟩
      rcases find_rel tupKey eqD_tupKey k kvs rs with ⟨d, v, B, q1, q2, q3, q4⟩ | ⟨q1, q2⟩
      · exact .inl ⟨d, v, B, q1, q2, q3, fun a ha => List.mem_cons_of_mem _ (q4 a ha)⟩
      · exact .inr ⟨q1, q2⟩
end

/-! ### comparisons -/
def cmpO : CmpO → CmpOp
  | .lt => .Lt | .le => .LtE | .gt => .Gt | .ge => .GtE | .eq => .Eq | .ne => .NotEq | .is => .Is | .isnot => .IsNot | .inn => .In | .notin => .NotIn
theorem cmpO_of {o : CmpO} {op : CmpOp} (h : cmpOf o op = true) : op = cmpO o := by
  cases o <;> cases op <;> first | rfl | cases h
theorem Rp.non_iff {K : PySem.W.Frag} {H : Hp} {v : V} {d : D} {A : List Addr} (r : Rp K H v d A) : decide (v = .non) = isNon d := by
  cases r <;> first | rfl | (simp [isNon])
theorem lexLt_eq : ∀ (a b : List Int), HT.lexLt a b = lexLt a b
  | [], [] => rfl
  | [], _ :: _ => rfl
  | _ :: _, [] => rfl
  | x :: xs, y :: ys => by
    unfold HT.lexLt lexLt
    rw [lexLt_eq xs ys]
theorem op_inT {X : Cx} (hu : X.A.units + 65 < cLine) {H : Hp} {v1 v2 : V} {d e : PyData} {es : List PyData} {Q : VK} (hd : Dp X.K H v1 d) (he : Dp X.K H v2 (.tuple es)) (sd : SeqAt.shaped d = true) (se : PyData.canLayAll0 es = true)
    (q : Q (.bl (es.any fun z => PyData.eqv z d)) H) : wOp X (compareOp .In) v1 v2 H Q := fun pins s σ v u I rx ry => by
  obtain ⟨as, r1⟩ := Dp.reads I d _ v hd rx
  obtain ⟨bs, r2⟩ := Dp.reads I (.tuple es) _ u he ry
  exact SeqAt.in_tuple_reads r2 r1 se (SeqAt.canLay_of_shaped sd) (PyProof.Rows.room_in_shaped sd hu) ⟨.bl _, H, I, rfl, q⟩
theorem op_notInT {X : Cx} (hu : X.A.units + 65 < cLine) {H : Hp} {v1 v2 : V} {d e : PyData} {es : List PyData} {Q : VK} (hd : Dp X.K H v1 d) (he : Dp X.K H v2 (.tuple es)) (sd : SeqAt.shaped d = true) (se : PyData.canLayAll0 es = true)
    (q : Q (.bl (!es.any fun z => PyData.eqv z d)) H) : wOp X (compareOp .NotIn) v1 v2 H Q := fun pins s σ v u I rx ry => by
  obtain ⟨as, r1⟩ := Dp.reads I d _ v hd rx
  obtain ⟨bs, r2⟩ := Dp.reads I (.tuple es) _ u he ry
  exact SeqAt.notIn_tuple_reads r2 r1 se (SeqAt.canLay_of_shaped sd) (PyProof.Rows.room_in_shaped sd hu) ⟨.bl _, H, I, rfl, q⟩
section
variable {X : Cx} {H : Hp} {v1 v2 : V} {A1 A2 : List Addr} {d1 d2 d : D}
theorem eq_sem (hu : X.A.units + 64 < cLine) (r1 : Rp X.K H v1 d1 A1) (r2 : Rp X.K H v2 d2 A2) (h1 : shp 64 d1 = true) (h2 : shp 64 d2 = true) {Q : VK} (q : Q (.bl (eqD d1 d2)) H) : wOp X (compareOp .Eq) v1 v2 H Q :=
  of_op (op_eqD hu) ⟨toPy d1, toPy d2, r1.dp h1, r2.dp h2, shaped_of h1 (Nat.le_refl _), shaped_of h2 (Nat.le_refl _), by rw [eqv_eq 64 64 d1 d2 h1 h2]; exact q⟩
theorem ne_sem (hu : X.A.units + 64 < cLine) (r1 : Rp X.K H v1 d1 A1) (r2 : Rp X.K H v2 d2 A2) (h1 : shp 64 d1 = true) (h2 : shp 64 d2 = true) {Q : VK} (q : Q (.bl (!eqD d1 d2)) H) : wOp X (compareOp .NotEq) v1 v2 H Q :=
  of_op (op_neD hu) ⟨toPy d1, toPy d2, r1.dp h1, r2.dp h2, shaped_of h1 (Nat.le_refl _), shaped_of h2 (Nat.le_refl _), by rw [eqv_eq 64 64 d1 d2 h1 h2]; exact q⟩
theorem in_dict (neg : Bool) (hu : X.A.units + 1 < cLine) {ks vs : List D} (r1 : Rp X.K H v1 d1 A1) (r2 : Rp X.K H v2 (.dct ks vs) A2) (hk : keyFor d1 ks = true) {Q : VK} (q : Q (.bl (if neg then !(findK d1 ks vs).isSome else (findK d1 ks vs).isSome)) H) :
    wOp X (compareOp (if neg then .NotIn else .In)) v1 v2 H Q := by
  obtain ⟨a, rfl, g⟩ := dget_rel r2 r1 hk
  intro pins s σ v u I rx ry
  cases (show u = Value.ref a from ry)
  rcases g with ⟨o, g, hg⟩ | ⟨hn, o, w, ha, g, to, back⟩
  · have e : o.isSome = (findK d1 ks vs).isSome := by
      rcases hg with ⟨d, v, B, q1, q2, _⟩ | ⟨q1, q2⟩
      · rw [q1, q2]; rfl
      · rw [q1, q2]; rfl
    cases neg with
    | false => exact d_in hu I g rx fun s' I' => ⟨.bl _, H, I', rfl, by rw [e]; exact q⟩
    | true => exact d_notIn hu I g rx fun s' I' => ⟨.bl _, H, I', rfl, by rw [e]; exact q⟩
  · rw [hn] at q
    cases neg with
    | false => exact d_in hu (to _ _ _ I) g rx fun s' I' => ⟨.bl _, H, back _ _ _ I', rfl, q⟩
    | true => exact d_notIn hu (to _ _ _ I) g rx fun s' I' => ⟨.bl _, H, back _ _ _ I', rfl, q⟩
/-- a comparison -/
theorem cmp_sem (hr : ∃ k, Room k X.A) (o : CmpO) (r1 : Rp X.K H v1 d1 A1) (r2 : Rp X.K H v2 d2 A2) (h : cmpD o d1 d2 = some d) {Q : VK} (q : ∀ b, d = .bl b → Q (.bl b) H) : wOp X (compareOp (cmpO o)) v1 v2 H Q := by
  obtain ⟨k, hr⟩ := hr
  have hu := hr.units
  have hu1 : X.A.units + 1 < cLine := hu_of hr
  have hu65 : X.A.units + 65 < cLine := by have := hr.un; omega
  have q' : ∀ b, d = .bl b → Q (.bl b) H := q
  unfold cmpD at h
  split at h
  · cases h; cases r1; cases r2; exact of_op op_lt ⟨_, _, rfl, rfl, q _ rfl⟩
  · cases h; cases r1; cases r2; exact of_op op_le ⟨_, _, rfl, rfl, q _ rfl⟩
  · cases h; cases r1; cases r2; exact of_op op_gt ⟨_, _, rfl, rfl, q _ rfl⟩
  · cases h; cases r1; cases r2; exact of_op op_ge ⟨_, _, rfl, rfl, q _ rfl⟩
  · rename_i xs ys
    cases e1 : tupInts xs with
    | none => simp [e1] at h
    | some ns =>
      cases e2 : tupInts ys with
      | none => simp [e1, e2] at h
      | some m =>
        simp [e1, e2] at h
        have e1' := tupInts_eq e1
        have e2' := tupInts_eq e2
        subst e1'; subst e2'
        cases r1 with
        | tup a1 t1 =>
          cases r2 with
          | tup a2 t2 =>
            obtain ⟨f1, _⟩ := t1.ints
            obtain ⟨f2, _⟩ := t2.ints
            subst f1; subst f2
            exact of_op (op_ltT hr.units0) ⟨_, _, ns, m, rfl, rfl, .of a1, .of a2, by rw [lexLt_eq]; exact q _ h.symm⟩
  · cases h; cases r1; cases r2; exact of_op op_eq ⟨rfl, by rw [dec_int]; exact q _ rfl⟩
  · cases h; cases r1; cases r2; exact of_op op_ne ⟨rfl, by rw [dec_int]; exact q _ rfl⟩
  · split at h
    · rename_i hs
      cases h
      have hs' := Bool.and_eq_true_iff.mp hs
      exact eq_sem hu r1 r2 hs'.1 hs'.2 (q _ rfl)
    · cases h
  · split at h
    · rename_i hs
      cases h
      have hs' := Bool.and_eq_true_iff.mp hs
      exact ne_sem hu r1 r2 hs'.1 hs'.2 (q _ rfl)
    · cases h
  · cases h
    cases r2
    exact of_op op_isN ⟨rfl, by rw [r1.non_iff]; exact q _ rfl⟩
  · cases h
    cases r2
    exact of_op op_notN ⟨rfl, by rw [r1.non_iff]; exact q _ rfl⟩
  · rename_i ys
    split at h
    · rename_i hs
      cases h
      have hs' := Bool.and_eq_true_iff.mp hs
      have h2 : shp 64 (.lst ys) = true := hs'.2
      have h1 := (shaped_of hs'.1 (by decide))
      exact of_op (op_inD hu65) ⟨toPy d1, toPys ys, r1.dp hs'.1, r2.dp h2, h1, shaped_of h2 (Nat.le_refl _), by rw [any_toPys 63 63 d1 hs'.1 ys hs'.2]; exact q _ rfl⟩
    · cases h
  · rename_i ys
    split at h
    · rename_i hs
      cases h
      have hs' := Bool.and_eq_true_iff.mp hs
      have h2 : shp 64 (.lst ys) = true := hs'.2
      have h1 := (shaped_of hs'.1 (by decide))
      exact of_op (op_notInD hu65) ⟨toPy d1, toPys ys, r1.dp hs'.1, r2.dp h2, h1, shaped_of h2 (Nat.le_refl _), by rw [any_toPys 63 63 d1 hs'.1 ys hs'.2]; exact q _ rfl⟩
    · cases h
  · rename_i ys
    split at h
    · rename_i hs
      cases h
      have hs' := Bool.and_eq_true_iff.mp hs
      have h2 : shp 64 (.tup ys) = true := hs'.2
      have h1 := (shaped_of hs'.1 (by decide))
      exact op_inT (e := .none) hu65 (r1.dp hs'.1) (r2.dp h2) h1 (shps_lay 63 ys hs'.2).1 (by rw [any_toPys 63 63 d1 hs'.1 ys hs'.2]; exact q _ rfl)
    · cases h
  · rename_i ys
    split at h
    · rename_i hs
      cases h
      have hs' := Bool.and_eq_true_iff.mp hs
      have h2 : shp 64 (.tup ys) = true := hs'.2
      have h1 := (shaped_of hs'.1 (by decide))
      exact op_notInT (e := .none) hu65 (r1.dp hs'.1) (r2.dp h2) h1 (shps_lay 63 ys hs'.2).1 (by rw [any_toPys 63 63 d1 hs'.1 ys hs'.2]; exact q _ rfl)
    · cases h
  · split at h
    · rename_i hs
      cases h
      exact in_dict false hu1 r1 r2 hs (q _ rfl)
    · cases h
  · split at h
    · rename_i hs
      cases h
      exact in_dict true hu1 r1 r2 hs (q _ rfl)
    · cases h
  · cases h
end
end Vi

set_option Elab.async false
set_option linter.all false
set_option maxRecDepth 100000
set_option maxHeartbeats 4000000
/-! Truth, subscripts, slices, built-in functions, methods by values. -/
namespace Vi
open PySem L2

section
variable {X : Cx} {H : Hp} {v : V} {d e : D} {A : List Addr}
theorem emp_len {α β : Type} {xs : List α} {ys : List β} (h : xs.length = ys.length) : xs.isEmpty = ys.isEmpty := by
  cases xs <;> cases ys <;> first | rfl | cases h
theorem tru_sem (r : Rp X.K H v d A) {b : Bool} (h : truD d = some b) : TruV X.K v H b := by
  cases r with
  | non => cases h; rfl
  | bl _ => cases h; rfl
  | int _ => cases h; rfl
  | str _ => cases h
  | tup a t =>
    simp only [truD, Option.some.injEq] at h
    subst h
    exact .inr (.inl ⟨_, .of a, by rw [emp_len t.length]⟩)
  | lst a t =>
    simp only [truD, Option.some.injEq] at h
    subst h
    exact .inl ⟨_, .of a, by rw [emp_len t.length]⟩
  | dK _ _ => cases h
  | dT _ _ => cases h
  | scr _ => cases h
theorem Pr.item {K : PySem.W.Frag} {H : Hp} {As : List Addr} {v : V} {d : D} {A : List Addr} (r : Rp K H v d A) (h : ∀ a ∈ A, a ∈ As) : Pr K H As false d v H := .old' r h
theorem idx_sem {v2 : V} {A2 : List Addr} {e d2 : D} (r1 : Rp X.K H v d A) (r2 : Rp X.K H v2 d2 A2) (hd : ∀ ks vs, d ≠ .dct ks vs) (h : idxD d d2 = some e) {Q : VK} (q : ∀ v H', Pr X.K H A false e v H' → Q v H') : wIx X v v2 H Q := by
  cases r1 with
  | lst a t =>
    cases r2 <;> try (cases h; done)
    rename_i xs ds A' i
    simp only [idxD] at h
    cases e1 : ixn ds.length i with
    | none => rw [e1] at h; cases h
    | some j =>
      rw [e1] at h
      obtain ⟨w, B, hw, rw', sub⟩ := t.get (show ds[j]? = some e from h)
      exact of_ix ix_list ⟨_, xs, i, w, rfl, rfl, .of a, by unfold atI; rw [t.length]; show (ixn ds.length i).bind _ = _; rw [e1]; exact hw, q _ _ (.item rw' fun a ha => List.mem_cons_of_mem _ (sub a ha))⟩
  | tup a t =>
    cases r2 <;> try (cases h; done)
    rename_i xs ds i
    simp only [idxD] at h
    cases e1 : ixn ds.length i with
    | none => rw [e1] at h; cases h
    | some j =>
      rw [e1] at h
      obtain ⟨w, B, hw, rw', sub⟩ := t.get (show ds[j]? = some e from h)
      exact of_ix ix_tup ⟨_, xs, i, w, rfl, rfl, .of a, by unfold atI; rw [t.length]; show (ixn ds.length i).bind _ = _; rw [e1]; exact hw, q _ _ (.item rw' sub)⟩
  | scr a =>
    cases r2 <;> try (cases h; done)
    rename_i b ns i
    simp only [idxD] at h
    cases e1 : ixn ns.length i with
    | none => rw [e1] at h; cases h
    | some j =>
      rw [e1] at h
      simp only [Option.bind_some] at h
      cases e2 : ns[j]? with
      | none => rw [e2] at h; cases h
      | some n =>
        rw [e2] at h
        cases h
        refine of_ix ix_list ⟨_, ns.map V.int, i, .int n, rfl, rfl, a.sq, ?_, q _ _ (.item (.int n) fun _ h => nomatch h)⟩
        unfold atI
        rw [List.length_map]
        show (ixn ns.length i).bind _ = _
        rw [e1]
        simp [e2]
  | dK a t => exact absurd rfl (hd _ _)
  | dT a t => exact absurd rfl (hd _ _)
  | _ => cases r2 <;> cases h
theorem six_eq (n d : Nat) (o : Option Int) : HT.sIx n d o = six n d o := by cases o <;> rfl
theorem cutV_eq (xs : List V) (lo hi : Option Int) : cutV xs lo hi = cut xs lo hi := by
  unfold cutV cut
  rw [six_eq, six_eq]
theorem Rps.cut {K : PySem.W.Frag} {H : Hp} {vs : List V} {ds : List D} {A : List Addr} (r : Rps K H vs ds A) (lo hi : Option Int) : ∃ B, Rps K H (Vi.cut vs lo hi) (Vi.cut ds lo hi) B ∧ ∀ a ∈ B, a ∈ A := by
  unfold Vi.cut
  rw [r.length]
  obtain ⟨B, h1, s1⟩ := r.drop (six ds.length 0 lo)
  obtain ⟨C, h2, s2⟩ := h1.take (six ds.length ds.length hi - six ds.length 0 lo)
  exact ⟨C, h2, fun a ha => s1 a (s2 a ha)⟩
def wSl (X : Cx) : V → Option Int → Option Int → Hp → VK → Prop := fun x lo hi H Q => rSlL X.K x lo hi H Q ∨ rSlA X.K x lo hi H Q
theorem slR (X : Cx) : SlR X (wSl X) := sl_list.or sl_tupA
theorem slc_sem (r : Rp X.K H v d A) {lo hi : Option Int} (h : slcD d lo hi = some e) {Q : VK} (q : ∀ v H', Pr X.K H A true e v H' → Q v H') : wSl X v lo hi H Q := by
  cases r <;> try (cases h; done)
  · rename_i a xs ds s t
    cases h
    right
    refine ⟨a, xs, rfl, .of s, fun hw => ?_, fun hw p hp => ?_⟩
    · have e : cut ds lo hi = ds := by
        rw [six_eq, six_eq, t.length] at hw
        unfold cut
        rw [hw.1, hw.2]
        simp
      rw [e] at q
      exact q _ _ (.old (.tup s t) (fun a ha => ha) fun _ z => nomatch z)
    · obtain ⟨B, h1, s1⟩ := t.cut lo hi
      rw [cutV_eq]
      exact q _ _ (.tup hp h1 s1)
  · rename_i a xs ds A' s t
    cases h
    left
    refine ⟨a, xs, rfl, .of s, fun p hp => ?_⟩
    obtain ⟨B, h1, s1⟩ := t.cut lo hi
    rw [cutV_eq]
    exact q _ _ (.lst hp h1 fun a ha => List.mem_cons_of_mem _ (s1 a ha))

/-! ### sums and sorts of tuples -/
theorem preSum_list (ns : List Int) : ∀ j, preSum (fun i => ns.getD i 0) j = (ns.take j).sum
  | 0 => by simp [preSum]
  | j + 1 => by
    rw [preSum, preSum_list ns j]
    by_cases h : j < ns.length
    · have e : ns.take (j + 1) = ns.take j ++ [ns[j]] := by rw [List.take_add_one, List.getElem?_eq_getElem h]; rfl
      rw [e, List.sum_append, List.getD_eq_getElem?_getD, List.getElem?_eq_getElem h]
      show _ = _ + (ns[j] + 0)
      rw [Int.add_zero]; rfl
    · have h1 : ns.take (j + 1) = ns := List.take_of_length_le (by omega)
      have h2 : ns.take j = ns := List.take_of_length_le (by omega)
      rw [h1, h2]
      simp [List.getD, List.getElem?_eq_none (show ns.length ≤ j by omega)]
theorem sum_tup (hc : X.calm = true) {a : Addr} {ns : List Int} (h : SqT X.K H a (ns.map V.int)) {Q : VK} (q : Q (.int ns.sum) H) : wCall X (.builtin "sum") [.ref a] H Q := fun pins s σ us I rv => by
  obtain ⟨its, r, ht, _⟩ := I.tuple h
  rw [Vals.ref1 rv]
  have ht' : s.heap.IsTuple a its.toArray := ht
  have hlt : a < s.heap.objs.size := by obtain ⟨_, e, _⟩ := ht'; exact Heap.lt_size e
  have hi : PyProof.Rows.IntsAre its ns := intsAre_of r
  refine call_sum_walkG (wpAny_pyIter_tuple ht' ⟨s.heap.objs.size, _, _, its.toArray.size, fun i v => its.toArray[i]? = some v, _, fun i => ns.getD i 0, rfl, Walks.tuple (A := X.A.in1) (I.ok.hd hc) _ a (Nat.ne_of_lt hlt) its.toArray, ?_, fun b hb => ?_, fun i u hu => ?_, fun h' tk t' hk => ?_⟩)
  · exact ⟨⟨_, Heap.get?_push_size _ rfl, rfl, rfl⟩, ht'.push _⟩
  · show b < (s.heap.push _).objs.size
    rw [Heap.size_push]
    rcases List.mem_cons.mp hb with rfl | hb
    · exact Nat.lt_succ_self _
    · have e : b = a := by simpa using hb
      subst e
      exact Nat.lt_succ_of_lt hlt
  · have hu' : its[i]? = some u := by simpa using hu
    obtain ⟨n, t, rfl, hn⟩ := PyProof.Rows.IntsAre.at hi i u hu'
    exact ⟨t, by simp [List.getD, hn]⟩
  · refine ⟨.int ns.sum, H, ?_, ⟨t', ?_⟩, q⟩
    · refine I.kept fun b o e => hk b o ?_ (Heap.get?_push_of_some _ e)
      intro z
      have e2 : b = s.heap.objs.size := by simpa using z
      rw [e2] at e
      exact absurd (Heap.lt_size e) (Nat.lt_irrefl _)
    · rw [preSum_list]
      have e1 := r.length
      rw [List.length_map] at e1
      rw [List.size_toArray, ← e1, List.take_length]
end
end Vi

set_option Elab.async false
set_option linter.all false
set_option maxRecDepth 100000
set_option maxHeartbeats 4000000
/-! sorted of a tuple of ints. -/
namespace Vt
open PySem PyProof.Rows SrtO Srt
section
variable {prog : Program} {w : World} {A : Around} {E : Value → Shared → Prop} {s : Shared}
/-- the first list that sorted makes -/
def got (h : Heap) (vs : List Value) : Heap := (h.push (seqObj "list" #[] 0)).update h.objs.size (Obj.mapSeq (· ++ vs.toArray))
theorem collect_tup {l : Addr} {vs : List Value} {Q : List Value → Shared → Prop} (hl : IsTup s.heap l vs.toArray) (h : Q vs { s with heap := got s.heap vs }) (hsz : vs.length ≤ sizeLine) : wpAny (model prog w) A (collect (.ref l)) Q E s := by
  obtain ⟨o, ho, hc, n, hd⟩ := id hl
  have em : ((#[] : Array Value) ++ vs.toArray) = vs.toArray := by simp
  have le : ((#[] : Array Value) ++ vs.toArray).size ≤ sizeLine + 1 := by rw [em, List.size_toArray]; omega
  unfold collect
  refine wpAny_bind (wpAny_runValue (codeAny_builtin entry_proto_collect' (show wpAny _ _ (do again (.builtin "list.__iadd__" ⟨[← newList [], .ref l], []⟩)) _ _ s from
    wpAny_bind (wpAny_newList (wpAny_pure ⟨Code.quiet_builtin _ (by decide +kernel), codeAny_builtin entry_list_iadd' ?_⟩)))))
  show wpAny _ _ (Builtin.List.listExtendWith (.ref s.heap.objs.size) (.ref l) (.ref s.heap.objs.size)) _ _ { s with heap := s.heap.push (seqObj "list" #[] 0) }
  unfold Builtin.List.listExtendWith
  have ho2 : (s.heap.push (seqObj "list" #[] 0)).get? l = some o := Heap.get?_push_of_some _ ho
  refine wpAny_bind (wpAny_typeOf (T := "tuple") ⟨o, ho2, hc⟩ ?_)
  have t1 : (Value.type "tuple" == Value.type "tuple") = true := rfl
  rw [if_pos (show (Builtin.List.listSameRef (.ref s.heap.objs.size) (.ref l) || Value.type "tuple" == Value.type "list" || Value.type "tuple" == Value.type "tuple") = true by rw [t1, Bool.or_true])]
  refine wpAny_bind (listItems_at ho2 hd (wpAny_bind (listItems_at (xs := #[]) (n := 0) (Heap.get?_push_size _ rfl) rfl ?_)))
  rw [if_neg (show ¬ (!(#[] : Array Value).isEmpty && Builtin.List.listTooLong ((#[] : Array Value).size + vs.toArray.size)) = true by simp)]
  refine wpAny_bind (listUpdate_at (xs := #[]) (n := 0) (Heap.get?_push_size _ rfl) rfl (wpAny_pure ?_) (Nat.zero_le _) le)
  show wpAny (model prog w) A (do
      let o ← load s.heap.objs.size
      match o.data with
      | .seq xs _ => pure xs.toList
      | _ => unsupported "internal:collect") Q E { s with heap := got s.heap vs }
  refine wpAny_bind (wpAny_load (get?_update_seq (Heap.get?_push_size _ rfl) _) ?_)
  show wpAny _ _ (pure ((#[] : Array Value) ++ vs.toArray).toList) Q E _
  rw [em]
  exact wpAny_pure h
theorem got_size (h : Heap) (vs : List Value) : (got h vs).objs.size = h.objs.size + 1 := by unfold got; rw [Heap.size_update, size_push']
theorem got_old {h : Heap} {vs : List Value} {b : Addr} {o : Obj} (q : h.get? b = some o) : (got h vs).get? b = some o := by
  unfold got
  rw [Heap.get?_update_ne _ _ _ _ (Nat.ne_of_lt (Heap.lt_size q))]
  exact Heap.get?_push_of_some _ q
theorem sorted_tup {l : Addr} {vs : List Value} {ns : List Int} {Q : Value → Shared → Prop} (hI : IntsAre vs ns) (hl : IsTup s.heap l vs.toArray) (hz : vs.length ≤ sizeLine)
    (h : ∀ out : List Value, Srtd ltIv out → Stb ltIv out vs → Q (.ref (s.heap.objs.size + 1)) { s with heap := sortedAll s.heap vs out.toArray }) : wpAny (model prog w) A (call (.builtin "sorted") [.ref l]) Q E s := by
  refine Calls.call_function_entry kind_sorted plain_sorted entry_sorted (args_sorted1 _) ?_
  unfold Builtin.«sorted»
  refine wpAny_bind (m := checkCount "sorted" 1 1 _) (wpAny_pure (wpAny_bind (collect_tup hl (wpAny_bind (wpAny_newList ?_ hz)) hz)))
  have at1 : ((got s.heap vs).push (seqObj "list" vs.toArray 0)).get? (s.heap.objs.size + 1) = some (seqObj "list" vs.toArray 0) := by
    rw [← got_size s.heap vs]; exact Heap.get?_push_size _ rfl
  show wpAny _ _ _ _ _ { s with heap := (got s.heap vs).push (seqObj "list" vs.toArray 0) }
  rw [show ({ s with heap := got s.heap vs } : Shared).heap.objs.size = s.heap.objs.size + 1 from got_size s.heap vs]
  refine wpAny_bind (wpAny_holding (wpAny_call_entry slot_list_sort ⟨_, at1, rfl⟩ entry_list_sort (list_sort_ord swo_int at1 hz (fun h2 => ints_sortable hI h2) fun out hs hb => ⟨_, rfl, ?_⟩) (args_list_sort _)))
  exact wpAny_pure ⟨_, rfl, h out hs hb⟩
end
end Vt
namespace Vi
open PySem L2
section
variable {X : Cx} {H : Hp}
theorem sorted_tupI {a : Addr} {ns : List Int} (h : SqT X.K H a (ns.map V.int)) {Q : VK} (q : ∀ (ns' : List Int) (p : Addr), ns'.Perm ns → ns'.Pairwise (· ≤ ·) → H p = none → Q (.ref p) (upd H p (.lst (ns'.map V.int)))) : wCall X (.builtin "sorted") [.ref a] H Q := fun pins s σ us I rv => by
  obtain ⟨its, r, ht, hz⟩ := I.tuple h
  rw [Vals.ref1 rv]
  have hi := r.ints
  refine Vt.sorted_tup hi ht (by rw [← r.length]; exact hz) fun out h1 h2 => ?_
  obtain ⟨k1, k2, k3⟩ := SrtO.ints_out hi h1 h2
  obtain ⟨ep, at2⟩ := PyProof.Rows.sortedAll_at s.heap its out.toArray
  have hlen : ((out.map SrtO.iv).map V.int).length ≤ sizeLine := by rw [List.length_map, k2.length_eq]; rwa [List.length_map] at hz
  exact ⟨.ref _, upd H (s.heap.objs.size + 1) (.lst ((out.map SrtO.iv).map V.int)), I.laid (t' := s.toks) (fun _ _ => PyProof.Rows.sortedAll_old) (Nat.le_succ _) ⟨hlen, out, ep, vals_of_ints k1, at2⟩, rfl, q _ _ k2 k3 (I.hok.fresh (Nat.le_succ _))⟩
end
end Vi

set_option Elab.async false
set_option linter.all false
set_option maxRecDepth 100000
set_option maxHeartbeats 4000000
/-! Sorting, built-in functions, isinstance, methods by values. -/
namespace Vi
open PySem L2

/-! ### the sorts -/
theorem insI_perm (x : Int) : ∀ l, (insI x l).Perm (x :: l)
  | [] => .refl _
  | y :: r => by
    unfold insI
    split
    · exact .refl _
    · exact ((insI_perm x r).cons y).trans (.swap x y r)
theorem sortI_perm : ∀ l, (sortI l).Perm l
  | [] => .refl _
  | x :: r => (insI_perm x (sortI r)).trans ((sortI_perm r).cons x)
theorem insI_sorted (x : Int) : ∀ {l : List Int}, l.Pairwise (· ≤ ·) → (insI x l).Pairwise (· ≤ ·)
  | [], _ => by simp [insI]
  | y :: r, h => by
    unfold insI
    have h' := List.pairwise_cons.mp h
    split
    · rename_i q
      refine List.pairwise_cons.mpr ⟨fun z hz => ?_, h⟩
      rcases List.mem_cons.mp hz with rfl | hz
      · exact q
      · exact Int.le_trans q (h'.1 z hz)
    · rename_i q
      refine List.pairwise_cons.mpr ⟨fun z hz => ?_, insI_sorted x h'.2⟩
      rcases List.mem_cons.mp ((insI_perm x r).mem_iff.mp hz) with rfl | hz
      · omega
      · exact h'.1 z hz
theorem sortI_sorted : ∀ l, (sortI l).Pairwise (· ≤ ·)
  | [] => .nil
  | x :: r => insI_sorted x (sortI_sorted r)
theorem sortI_of {l m : List Int} (h : m.Perm l) (s : m.Pairwise (· ≤ ·)) : m = sortI l :=
  List.Perm.eq_of_pairwise (fun a b _ _ p q => Int.le_antisymm p q) s (sortI_sorted l) (h.trans (sortI_perm l).symm)
theorem pairLe_total {a b : Int × Int} (h : ¬ pairLe a b = true) : pairLe b a = true := by
  unfold pairLe at *
  split at h <;> split <;> simp_all <;> omega
theorem pairLe_trans {a b c : Int × Int} (h1 : pairLe a b = true) (h2 : pairLe b c = true) : pairLe a c = true := by
  unfold pairLe at *
  split at h1 <;> split at h2 <;> split <;> simp_all <;> omega
theorem pairLe_antisymm {a b : Int × Int} (h1 : pairLe a b = true) (h2 : pairLe b a = true) : a = b := by
  unfold pairLe at *
  obtain ⟨a1, a2⟩ := a
  obtain ⟨b1, b2⟩ := b
  simp only at h1 h2
  have : a1 = b1 ∧ a2 = b2 := by
    split at h1 <;> split at h2 <;> simp only [decide_eq_true_eq] at h1 h2 <;> omega
  rw [this.1, this.2]
theorem insP_perm (x : Int × Int) : ∀ l, (insP x l).Perm (x :: l)
  | [] => .refl _
  | y :: r => by
    unfold insP
    split
    · exact .refl _
    · exact ((insP_perm x r).cons y).trans (.swap x y r)
theorem sortP_perm : ∀ l, (sortP l).Perm l
  | [] => .refl _
  | x :: r => (insP_perm x (sortP r)).trans ((sortP_perm r).cons x)
theorem insP_sorted (x : Int × Int) : ∀ {l : List (Int × Int)}, l.Pairwise (fun a b => pairLe a b = true) → (insP x l).Pairwise (fun a b => pairLe a b = true)
  | [], _ => by simp [insP]
  | y :: r, h => by
    unfold insP
    have h' := List.pairwise_cons.mp h
    split
    · rename_i q
      refine List.pairwise_cons.mpr ⟨fun z hz => ?_, h⟩
      rcases List.mem_cons.mp hz with rfl | hz
      · exact q
      · exact pairLe_trans q (h'.1 z hz)
    · rename_i q
      refine List.pairwise_cons.mpr ⟨fun z hz => ?_, insP_sorted x h'.2⟩
      rcases List.mem_cons.mp ((insP_perm x r).mem_iff.mp hz) with rfl | hz
      · exact pairLe_total q
      · exact h'.1 z hz
theorem sortP_sorted : ∀ l, (sortP l).Pairwise (fun a b => pairLe a b = true)
  | [] => .nil
  | x :: r => insP_sorted x (sortP_sorted r)
theorem sortP_of {l m : List (Int × Int)} (h : m.Perm l) (s : m.Pairwise (fun a b => pairLe a b = true)) : m = sortP l :=
  List.Perm.eq_of_pairwise (fun a b _ _ p q => pairLe_antisymm p q) s (sortP_sorted l) (h.trans (sortP_perm l).symm)
theorem lexB_le {a b : Int × Int} (h : SrtO.lexB b a = false) : pairLe a b = true := by
  unfold SrtO.lexB at h
  unfold pairLe
  split at h <;> split <;> simp_all <;> omega
def pairD (p : Int × Int) : D := .tup [.int p.1, .int p.2]
theorem pairsD_eq : ∀ {ds : List D} {ps : List (Int × Int)}, pairsD ds = some ps → ds = ps.map pairD
  | [], _, h => by cases h; rfl
  | .tup [.int a, .int b] :: r, ps, h => by
    cases e : pairsD r with
    | none => simp [pairsD, e] at h
    | some m =>
      simp [pairsD, e] at h
      subst h
      rw [pairsD_eq e]; rfl
  | .tup [] :: _, _, h => by cases h
  | .tup [_] :: _, _, h => by simp [pairsD] at h
  | .tup (_ :: _ :: _ :: _) :: _, _, h => by simp [pairsD] at h
  | .tup [.non, _] :: _, _, h => by simp [pairsD] at h
  | .tup [.bl _, _] :: _, _, h => by simp [pairsD] at h
  | .tup [.str _, _] :: _, _, h => by simp [pairsD] at h
  | .tup [.tup _, _] :: _, _, h => by simp [pairsD] at h
  | .tup [.lst _, _] :: _, _, h => by simp [pairsD] at h
  | .tup [.dct _ _, _] :: _, _, h => by simp [pairsD] at h
  | .tup [.scr _, _] :: _, _, h => by simp [pairsD] at h
  | .tup [.int _, .non] :: _, _, h => by simp [pairsD] at h
  | .tup [.int _, .bl _] :: _, _, h => by simp [pairsD] at h
  | .tup [.int _, .str _] :: _, _, h => by simp [pairsD] at h
  | .tup [.int _, .tup _] :: _, _, h => by simp [pairsD] at h
  | .tup [.int _, .lst _] :: _, _, h => by simp [pairsD] at h
  | .tup [.int _, .dct _ _] :: _, _, h => by simp [pairsD] at h
  | .tup [.int _, .scr _] :: _, _, h => by simp [pairsD] at h
  | .int _ :: _, _, h => by cases h
  | .non :: _, _, h => by cases h
  | .bl _ :: _, _, h => by cases h
  | .str _ :: _, _, h => by cases h
  | .lst _ :: _, _, h => by cases h
  | .dct _ _ :: _, _, h => by cases h
  | .scr _ :: _, _, h => by cases h
theorem boolsD_eq : ∀ {ds : List D} {ps : List Bool}, boolsD ds = some ps → ds = ps.map D.bl
  | [], _, h => by cases h; rfl
  | .bl a :: r, ps, h => by
    cases e : boolsD r with
    | none => simp [boolsD, e] at h
    | some m =>
      simp [boolsD, e] at h
      subst h
      rw [boolsD_eq e]; rfl
  | .int _ :: _, _, h => by cases h
  | .non :: _, _, h => by cases h
  | .tup _ :: _, _, h => by cases h
  | .str _ :: _, _, h => by cases h
  | .lst _ :: _, _, h => by cases h
  | .dct _ _ :: _, _, h => by cases h
  | .scr _ :: _, _, h => by cases h
section
variable {K : PySem.W.Frag} {H : Hp}
theorem Rps.bools : ∀ {vs : List V} {bs : List Bool} {A : List Addr}, Rps K H vs (bs.map D.bl) A → vs = bs.map V.bl ∧ A = []
  | _, [], _, h => by cases h; exact ⟨rfl, rfl⟩
  | _, n :: r, _, h => by
    cases h with
    | cons h1 h2 =>
      cases h1
      obtain ⟨e, e2⟩ := Rps.bools h2
      subst e; subst e2
      exact ⟨rfl, rfl⟩
/-- the pair at a value -/
def pairAt (H : Hp) : V → Int × Int
  | .ref a => match H a with
    | some (.tup [.int x, .int y]) => (x, y)
    | _ => (0, 0)
  | _ => (0, 0)
theorem Rps.pairs : ∀ {vs : List V} {ps : List (Int × Int)} {A : List Addr}, Rps K H vs (ps.map pairD) A → A = [] ∧ vs.map (pairAt H) = ps ∧ ∀ x ∈ vs, ∃ t, x = V.ref t ∧ H t = some (.tup [.int (pairAt H x).1, .int (pairAt H x).2])
  | _, [], _, h => by cases h; exact ⟨rfl, rfl, fun _ h => nomatch h⟩
  | _, p :: r, _, h => by
    cases h with
    | cons h1 h2 =>
      obtain ⟨e1, e2, e3⟩ := Rps.pairs h2
      cases h1 with
      | @tup ad _ _ _ a t =>
        cases t with
        | cons t1 t2 =>
          cases t2 with
          | cons t3 t4 =>
            cases t4
            cases t1
            cases t3
            subst e1
            have e4 : pairAt H (.ref ad) = p := by unfold pairAt; simp only [a]
            refine ⟨rfl, by rw [List.map_cons, e2, e4], fun x hx => ?_⟩
            rcases List.mem_cons.mp hx with rfl | hx
            · exact ⟨_, rfl, by rw [e4]; exact a⟩
            · exact e3 x hx
theorem Rps.of_pairs : ∀ {vs : List V}, (∀ x ∈ vs, ∃ t, x = V.ref t ∧ H t = some (.tup [.int (pairAt H x).1, .int (pairAt H x).2])) → Rps K H vs ((vs.map (pairAt H)).map pairD) []
  | [], _ => .nil
  | x :: r, h => by
    obtain ⟨t, e, ht⟩ := h x (List.mem_cons_self ..)
    have := Rps.of_pairs (vs := r) fun y hy => h y (List.mem_cons_of_mem _ hy)
    refine .cons (A := []) (B := []) ?_ this
    rw [e]
    rw [e] at ht
    exact .tup ht (.cons (A := []) (B := []) (.int _) (.cons (A := []) (B := []) (.int _) .nil))
end

section
variable {X : Cx} {H : Hp} {v : V} {d e : D} {A : List Addr}
theorem sort_list {vs : List V} {ds : List D} {a : Addr} (s : H a = some (.lst vs)) (t : Rps X.K H vs ds A) (h : sortD ds = some e) {Q : VK} (q : ∀ v H', Pr X.K H A true e v H' → Q v H') : wCall X (.builtin "sorted") [.ref a] H Q := by
  unfold sortD at h
  cases e1 : tupInts ds with
  | some ns =>
    rw [e1] at h
    cases h
    have e2 := tupInts_eq e1
    subst e2
    obtain ⟨e3, e4⟩ := t.ints
    subst e3; subst e4
    exact of_call cr_sortedI ⟨a, ns, rfl, .of s, fun ns' p hp hs hn => by
      rw [sortI_of hp hs]
      exact q _ _ (.lst hn (.of_ints _) fun _ h => nomatch h)⟩
  | none =>
    rw [e1] at h
    cases e2 : pairsD ds with
    | none => simp [e2] at h
    | some ps =>
      simp only [e2, Option.map_some, Option.some.injEq] at h
      subst h
      have e3 := pairsD_eq e2
      subst e3
      obtain ⟨e4, e5, e6⟩ := t.pairs
      subst e4
      refine of_call cr_sortedPO ⟨a, vs, pairAt H, rfl, .of s, e6, fun ys p hs hb hn => ?_⟩
      have hm : ∀ x ∈ ys, ∃ t, x = V.ref t ∧ H t = some (.tup [.int (pairAt H x).1, .int (pairAt H x).2]) := fun x hx => e6 x (hb.perm.mem_iff.mp hx)
      have e7 : ys.map (pairAt H) = sortP ps := by
        refine sortP_of ?_ ?_
        · rw [← e5]; exact hb.perm.map _
        · exact List.pairwise_map.mpr (hs.imp fun {a b} hab => lexB_le hab)
      have r := Rps.of_pairs (K := X.K) hm
      rw [e7] at r
      exact q _ _ (.lst hn r fun _ h => nomatch h)
end
theorem minI_spec : ∀ (r : List Int) (n : Int), minI n r ∈ n :: r ∧ ∀ y ∈ n :: r, minI n r ≤ y
  | [], n => ⟨List.mem_cons_self .., fun y hy => by rw [List.mem_singleton.mp hy]; exact Int.le_refl _⟩
  | x :: r, n => by
    unfold minI
    obtain ⟨h1, h2⟩ := minI_spec r (if x < n then x else n)
    refine ⟨?_, fun y hy => ?_⟩
    · rcases List.mem_cons.mp h1 with z | z
      · rw [z]; split
        · exact List.mem_cons_of_mem _ (List.mem_cons_self ..)
        · exact List.mem_cons_self ..
      · exact List.mem_cons_of_mem _ (List.mem_cons_of_mem _ z)
    · have h0 := h2 _ (List.mem_cons_self ..)
      rcases List.mem_cons.mp hy with rfl | hy
      · split at h0 <;> split <;> omega
      · rcases List.mem_cons.mp hy with rfl | hy
        · split at h0 <;> split <;> omega
        · exact h2 y (List.mem_cons_of_mem _ hy)
theorem maxI_spec : ∀ (r : List Int) (n : Int), maxI n r ∈ n :: r ∧ ∀ y ∈ n :: r, y ≤ maxI n r
  | [], n => ⟨List.mem_cons_self .., fun y hy => by rw [List.mem_singleton.mp hy]; exact Int.le_refl _⟩
  | x :: r, n => by
    unfold maxI
    obtain ⟨h1, h2⟩ := maxI_spec r (if x > n then x else n)
    refine ⟨?_, fun y hy => ?_⟩
    · rcases List.mem_cons.mp h1 with z | z
      · rw [z]; split
        · exact List.mem_cons_of_mem _ (List.mem_cons_self ..)
        · exact List.mem_cons_self ..
      · exact List.mem_cons_of_mem _ (List.mem_cons_of_mem _ z)
    · have h0 := h2 _ (List.mem_cons_self ..)
      rcases List.mem_cons.mp hy with rfl | hy
      · split at h0 <;> split <;> omega
      · rcases List.mem_cons.mp hy with rfl | hy
        · split at h0 <;> split <;> omega
        · exact h2 y (List.mem_cons_of_mem _ hy)
theorem minI_is {n m : Int} {r : List Int} (h1 : m ∈ n :: r) (h2 : ∀ y ∈ n :: r, m ≤ y) : m = minI n r :=
  Int.le_antisymm (h2 _ (minI_spec r n).1) ((minI_spec r n).2 m h1)
theorem maxI_is {n m : Int} {r : List Int} (h1 : m ∈ n :: r) (h2 : ∀ y ∈ n :: r, y ≤ m) : m = maxI n r :=
  Int.le_antisymm ((maxI_spec r n).2 m h1) (h2 _ (maxI_spec r n).1)
def biVal : Bi → Value
  | .int => .type "int" | .tuple => .type "tuple" | .list => .type "list"
  | .len => .builtin "len" | .abs => .builtin "abs" | .min => .builtin "min" | .max => .builtin "max" | .sum => .builtin "sum" | .sorted => .builtin "sorted" | .any => .builtin "any" | .all => .builtin "all"
section
variable {X : Cx} {H : Hp} {vs : List V} {ds : List D} {d : D} {A : List Addr}
theorem Rps.one_inv {K : PySem.W.Frag} {vs : List V} {d : D} (r : Rps K H vs [d] A) : ∃ v, vs = [v] ∧ Rp K H v d A := by
  cases r with
  | cons r1 r2 => cases r2; exact ⟨_, rfl, by rw [List.append_nil]; exact r1⟩
theorem Rps.two_inv {K : PySem.W.Frag} {vs : List V} {d e : D} (r : Rps K H vs [d, e] A) : ∃ v w B C, vs = [v, w] ∧ Rp K H v d B ∧ Rp K H w e C ∧ A = B ++ C := by
  cases r with
  | cons r1 r2 =>
    obtain ⟨w, e, r3⟩ := r2.one_inv
    subst e
    exact ⟨_, _, _, _, rfl, r1, r3, rfl⟩
/-- a built-in function -/
theorem fn_sem (hc : X.calm = true) (b : Bi) (r : Rps X.K H vs ds A) (h : fnD b ds = some d) {Q : VK} (q : ∀ v H', Pr X.K H A true d v H' → Q v H') : wCall X (biVal b) vs H Q := by
  unfold fnD at h
  split at h
  · cases h
    obtain ⟨v, rfl, r'⟩ := r.one_inv
    cases r' with
    | lst a t => exact of_call call_len ⟨_, _, rfl, .inl ⟨_, .of a, rfl⟩, by rw [t.length]; exact q _ _ (.int _)⟩
  · cases h
    obtain ⟨v, rfl, r'⟩ := r.one_inv
    cases r' with
    | tup a t => exact of_call call_len ⟨_, _, rfl, .inr ⟨_, .of a, rfl⟩, by rw [t.length]; exact q _ _ (.int _)⟩
  · cases h
    obtain ⟨v, rfl, r'⟩ := r.one_inv
    cases r' with
    | scr a => exact of_call call_len ⟨_, _, rfl, .inl ⟨_, a.sq, rfl⟩, by rw [List.length_map]; exact q _ _ (.int _)⟩
  · cases h
    obtain ⟨v, rfl, r'⟩ := r.one_inv
    cases r' with
    | dK a t =>
      intro pins s σ us I rv
      rw [Vals.ref1 rv]
      exact d_len I (.inl a) fun t' s' I' => ⟨.int _, H, I', ⟨_, rfl⟩, by have := q _ _ (Pr.int (K := X.K) (H := H) (As := _) (f := true) _); simpa using this⟩
    | dT a t =>
      exact of_call call_len_dT ⟨_, _, rfl, a, by have := q _ _ (Pr.int (K := X.K) (H := H) (As := _) (f := true) _); simpa using this⟩
  · cases h
    obtain ⟨v, rfl, r'⟩ := r.one_inv
    cases r'
    exact of_call call_abs ⟨_, rfl, q _ _ (.int _)⟩
  · cases h
    obtain ⟨v, rfl, r'⟩ := r.one_inv
    cases r'
    exact of_call call_int1 (.inl ⟨_, rfl, q _ _ (.int _)⟩)
  · cases h
    obtain ⟨v, w, B, C, rfl, r1, r2, rfl⟩ := r.two_inv
    cases r1; cases r2
    exact of_call (call_min2 hc) ⟨_, _, rfl, q _ _ (.int _)⟩
  · cases h
    obtain ⟨v, w, B, C, rfl, r1, r2, rfl⟩ := r.two_inv
    cases r1; cases r2
    exact of_call (call_max2 hc) ⟨_, _, rfl, q _ _ (.int _)⟩
  · rename_i xs
    obtain ⟨v, rfl, r'⟩ := r.one_inv
    obtain ⟨ns, e1, e2⟩ := Option.bind_eq_some_iff.mp h
    have e3 := tupInts_eq e1
    subst e3
    cases r' with
    | lst a t =>
      obtain ⟨f1, _⟩ := t.ints
      subst f1
      cases ns with
      | nil => cases e2
      | cons n r =>
        cases e2
        exact of_call (cr_min hc) ⟨_, _, rfl, .of a, Nat.succ_pos _, fun m hm hb => by rw [minI_is hm hb]; exact q _ _ (.int _)⟩
  · rename_i xs
    obtain ⟨v, rfl, r'⟩ := r.one_inv
    obtain ⟨ns, e1, e2⟩ := Option.bind_eq_some_iff.mp h
    have e3 := tupInts_eq e1
    subst e3
    cases r' with
    | lst a t =>
      obtain ⟨f1, _⟩ := t.ints
      subst f1
      cases ns with
      | nil => cases e2
      | cons n r =>
        cases e2
        exact of_call (cr_max hc) ⟨_, _, rfl, .of a, Nat.succ_pos _, fun m hm hb => by rw [maxI_is hm hb]; exact q _ _ (.int _)⟩
  · rename_i x
    obtain ⟨v, rfl, r'⟩ := r.one_inv
    cases e1 : items x with
    | none => simp [e1] at h
    | some xs =>
      simp only [e1, Option.bind_some] at h
      cases e2 : tupInts xs with
      | none => simp [e2] at h
      | some ns =>
        simp only [e2, Option.map_some, Option.some.injEq] at h
        subst h
        have e3 := tupInts_eq e2
        subst e3
        cases x <;> cases e1
        · cases r' with
          | tup a t =>
            obtain ⟨f1, _⟩ := t.ints
            subst f1
            exact sum_tup hc (.of a) (q _ _ (.int _))
        · cases r' with
          | lst a t =>
            obtain ⟨f1, _⟩ := t.ints
            subst f1
            exact of_call (cr_sum hc) ⟨_, _, rfl, .of a, q _ _ (.int _)⟩
  · obtain ⟨v, rfl, r'⟩ := r.one_inv
    cases r' with
    | lst a t =>
      exact sort_list a t h fun v H' p => q v H' (p.mono fun a ha => List.mem_cons_of_mem _ ha)
  · rename_i xs
    obtain ⟨v, rfl, r'⟩ := r.one_inv
    cases e1 : tupInts xs with
    | none => simp [e1] at h
    | some ns =>
      simp only [e1, Option.map_some, Option.some.injEq] at h
      subst h
      have e3 := tupInts_eq e1
      subst e3
      cases r' with
      | tup a t =>
        obtain ⟨f1, _⟩ := t.ints
        subst f1
        exact sorted_tupI (.of a) fun ns' p hp hs hn => by
          rw [sortI_of hp hs]
          exact q _ _ (.lst hn (.of_ints _) fun _ h => nomatch h)
  · cases h
    obtain ⟨v, rfl, r'⟩ := r.one_inv
    cases r' with
    | lst a t => exact of_call call_tuple_of ⟨_, _, rfl, .inl ⟨.of a, fun p hp => q _ _ (.tup hp t fun a ha => List.mem_cons_of_mem _ ha)⟩⟩
  · cases h
    obtain ⟨v, rfl, r'⟩ := r.one_inv
    cases r' with
    | tup a t => exact of_call call_tuple_of ⟨_, _, rfl, .inr ⟨.of a, q _ _ (.old (.tup a t) (fun a ha => ha) fun _ z => nomatch z)⟩⟩
  · cases h
    obtain ⟨v, rfl, r'⟩ := r.one_inv
    cases r' with
    | lst a t => exact of_call call_list_of ⟨_, _, rfl, .inl (.of a), fun p hp => q _ _ (.lst hp t fun a ha => List.mem_cons_of_mem _ ha)⟩
  · cases h
    obtain ⟨v, rfl, r'⟩ := r.one_inv
    cases r' with
    | tup a t => exact of_call call_list_of ⟨_, _, rfl, .inr (.of a), fun p hp => q _ _ (.lst hp t fun a ha => ha)⟩
  · rename_i xs
    cases e1 : boolsD xs with
    | none => simp [e1] at h
    | some bs =>
      simp only [e1, Option.map_some, Option.some.injEq] at h
      subst h
      have e3 := boolsD_eq e1
      subst e3
      obtain ⟨v, rfl, r'⟩ := r.one_inv
      cases r' with
      | lst a t =>
        obtain ⟨f1, _⟩ := t.bools
        subst f1
        exact of_call (cr_any hc) ⟨_, bs, rfl, .of a, q _ _ (.bl _)⟩
  · rename_i xs
    cases e1 : boolsD xs with
    | none => simp [e1] at h
    | some bs =>
      simp only [e1, Option.map_some, Option.some.injEq] at h
      subst h
      have e3 := boolsD_eq e1
      subst e3
      obtain ⟨v, rfl, r'⟩ := r.one_inv
      cases r' with
      | lst a t =>
        obtain ⟨f1, _⟩ := t.bools
        subst f1
        exact of_call (cr_all hc) ⟨_, bs, rfl, .of a, q _ _ (.bl _)⟩
  · cases h
end
def tyStr : Ty → String
  | .int => "int" | .bool => "bool" | .str => "str" | .tuple => "tuple" | .list => "list"
def tyOfD : D → String
  | .non => "NoneType" | .bl _ => "bool" | .int _ => "int" | .str _ => "str" | .tup _ => "tuple" | .lst _ => "list" | .dct _ _ => "dict" | .scr _ => "list"
theorem kit_sem (d : D) (t : Ty) (b : Bool) (h : isiD d t = some b) : kitB (tyOfD d) (tyStr t) = some b := by
  have k1 : ∀ t, kitB "NoneType" (tyStr t) = some false := by intro t; cases t <;> decide +kernel
  have k2 : ∀ t, kitB "bool" (tyStr t) = some (t == .int || t == .bool) := by intro t; cases t <;> decide +kernel
  have k3 : ∀ t, kitB "int" (tyStr t) = some (t == .int) := by intro t; cases t <;> decide +kernel
  have k4 : ∀ t, kitB "str" (tyStr t) = some (t == .str) := by intro t; cases t <;> decide +kernel
  have k5 : ∀ t, kitB "tuple" (tyStr t) = some (t == .tuple) := by intro t; cases t <;> decide +kernel
  have k6 : ∀ t, kitB "list" (tyStr t) = some (t == .list) := by intro t; cases t <;> decide +kernel
  have k7 : ∀ t, kitB "dict" (tyStr t) = some false := by intro t; cases t <;> decide +kernel
  cases d with
  | non => cases h; exact k1 t
  | bl _ => cases h; exact k2 t
  | int _ => cases h; exact k3 t
  | str _ => cases h; exact k4 t
  | tup _ => cases h; exact k5 t
  | lst _ => cases h; exact k6 t
  | dct _ _ => cases h; exact k7 t
  | scr _ => cases h
theorem Rp.ty {K : PySem.W.Frag} {H : Hp} {v : V} {d : D} {A : List Addr} (r : Rp K H v d A) (hs : ∀ ns, d ≠ .scr ns) : TyX K H v (.type (tyOfD d)) := by
  cases r with
  | non => exact .base .non
  | bl b => exact .base (.bl b)
  | int i => exact .base (.int i)
  | str s => exact .base (.str s)
  | tup a t => exact .base (.tup a)
  | lst a t => exact .base (.lst a)
  | dK a t => exact .base (.dK a)
  | dT a t => exact .base (.dT a)
  | scr a => exact absurd rfl (hs _)
theorem isi_sem {X : Cx} {H : Hp} {v : V} {d : D} {A : List Addr} (t : Ty) (b : Bool) (r : Rp X.K H v d A) (h : isiD d t = some b) {Q : VK} (q : Q (.bl b) H) : wCall X (.builtin "isinstance") [v, .ty (tyStr t)] H Q :=
  of_call call_isi ⟨v, .ty (tyStr t), _, _, b, rfl, .ty _, r.ty (fun ns e => by subst e; cases h), kit_ty (kit_sem d t b h), q⟩
theorem findIx_spec {x : D} : ∀ {xs : List D} {n j : Nat}, findIx x n xs = some j → ∃ k z, j = n + k ∧ xs[k]? = some z ∧ eqD z x = true ∧ ∀ m z', m < k → xs[m]? = some z' → eqD z' x = false
  | [], _, _, h => by cases h
  | y :: r, n, j, h => by
    unfold findIx at h
    split at h
    · rename_i e
      cases h
      exact ⟨0, y, rfl, rfl, e, fun m _ hm => by omega⟩
    · rename_i e
      obtain ⟨k, z, e1, e2, e3, e4⟩ := findIx_spec h
      refine ⟨k + 1, z, by omega, by simpa using e2, e3, fun m z' hm hz => ?_⟩
      cases m with
      | zero => simp at hz; subst hz; exact Bool.eq_false_iff.mpr e
      | succ m => exact e4 m z' (by omega) (by simpa using hz)
theorem toPys_get : ∀ {xs : List D} {k : Nat}, (toPys xs)[k]? = (xs[k]?).map toPy
  | [], _ => by simp [toPys]
  | x :: r, 0 => by simp [toPys]
  | x :: r, k + 1 => by simpa [toPys] using toPys_get (xs := r) (k := k)
theorem shps_get {n : Nat} : ∀ {xs : List D} {k : Nat} {z : D}, shps n xs = true → xs[k]? = some z → shp n z = true
  | [], _, _, _, h => by simp at h
  | x :: r, k, z, s, h => by
    have s' : shp n x = true ∧ shps n r = true := by cases n <;> exact Bool.and_eq_true_iff.mp s
    cases k with
    | zero => simp at h; subst h; exact s'.1
    | succ k => exact shps_get s'.2 (by simpa using h)
theorem index_sem {X : Cx} (hu : X.A.units + 65 < cLine) {H : Hp} {v w : V} {xs : List D} {x : D} {A B : List Addr} {j : Nat} (r1 : Rp X.K H v (.lst xs) A) (r2 : Rp X.K H w x B) (hs : (shp 63 x && shps 63 xs) = true) (h : findIx x 0 xs = some j) {Q : VK} (q : Q (.int (j : Nat)) H) :
    wMt X "list.index" v [w] H Q := by
  have hs' := Bool.and_eq_true_iff.mp hs
  obtain ⟨k, z, e1, e2, e3, e4⟩ := findIx_spec h
  have e1 : j = k := by omega
  subst e1
  have h2 : shp 64 (.lst xs) = true := hs'.2
  have hd := r1.dp h2
  cases r1 with
  | lst a t =>
    refine of_mt (mt_indexD hu) ⟨_, w, toPy x, toPys xs, j, toPy z, rfl, rfl, hd, r2.dp hs'.1, shaped_of h2 (Nat.le_refl _), shaped_of hs'.1 (by decide), by rw [toPys_get, e2]; rfl, ?_, fun m z' hm hz => ?_, q⟩
    · rw [eqv_eq 63 63 z x (shps_get hs'.2 e2) hs'.1]; exact e3
    · rw [toPys_get] at hz
      cases e5 : xs[m]? with
      | none => rw [e5] at hz; cases hz
      | some y =>
        rw [e5] at hz
        cases hz
        rw [eqv_eq 63 63 y x (shps_get hs'.2 e5) hs'.1]
        exact e4 m y hm e5
end Vi

set_option Elab.async false
set_option linter.all false
set_option maxRecDepth 100000
set_option maxHeartbeats 4000000
/-! The nodes of expressions. -/
namespace Vi
open PySem L2

section
variable {K : PySem.W.Frag} {ms : List Bool} {T S : List Nat} {σ : St} {H H2 H3 : Hp} {W W2 : Own} {ρ ρ' : Env} {A A0 : List Addr} {d : D} {v : V} {I : Inf}
theorem Sts.alive (st : Sts K H ms σ ρ W) {j : Nat} {a : Addr} (h : a ∈ W j) : H a ≠ none := by
  cases e : getS ρ j with
  | none => rw [st.em j e] at h; cases h
  | some d =>
    obtain ⟨v, _, r⟩ := st.sl j d e
    exact alive_ne r a h
theorem Evo.then (ev : Evo ms T H W H2 W2) (h : ∀ a o, H2 a = some o → H3 a = some o) : Evo ms T H W H3 W2 :=
  ⟨fun a o e m => h a o (ev.imm a o e m), fun a o e k => h a o (ev.kp a o e k), ev.un, ev.nw, fun a e => ev.dom a (by
    cases q : H2 a with
    | none => rfl
    | some o => rw [h a o q] at e; cases e)⟩
theorem po_view (ev : Evo ms I.T H W H2 W2) (st : Sts K H2 ms σ ρ' W2) (vt : Vt ms I.T false I.s H W W2 A0) (ov : ∀ a ∈ A0, (∃ k, a ∈ W k) ∨ H a = none) (pr : Pr K H2 A0 I.f d v H3) (ho : I.o = false) (hm : I.mv = none) : Po K ms I σ H W ρ' d v H3 := by
  obtain ⟨ext, A, r, sub, fr⟩ := pr
  refine ⟨W2, A, ev.then ext, st.ext ext, r, ⟨fun a ha j oj hj q => ?_, fun z => ?_, fun z => ?_, fun z => ?_, fun z => ?_⟩, fun a ha => ?_, fun hf xs p B e1 e2 => ?_, fun i e => ?_⟩
  · rcases sub a ha with z | z
    · exact vt.ap a z j oj hj q
    · exact st.alive q z
  · rw [ho] at z; cases z
  · rw [ho] at z; cases z
  · rw [ho] at z; cases z
  · rw [ho] at z; cases z
  · rcases sub a ha with z | z
    · exact ov a z
    · exact .inr (ev.dom a z)
  · have := fr hf xs p B e1 e2
    exact ⟨ev.dom p this, fun j q => st.alive q this⟩
  · rw [hm] at e; cases e
theorem po_pure (ev : Evo ms I.T H W H2 W2) (st : Sts K H2 ms σ ρ' W2) (pr : Pr K H2 A0 S.isEmpty d v H3) (hp : d.pure = true) (hs : I.o = true → I.s = []) (hm : I.mv = none) : Po K ms I σ H W ρ' d v H3 := by
  obtain ⟨ext, A, r, sub, fr⟩ := pr
  have e := r.pure hp
  subst e
  refine ⟨W2, [], ev.then ext, st.ext ext, r, ⟨fun _ h => (nomatch h), fun _ _ h => (nomatch h), fun _ => List.nodup_nil, fun _ _ h => (nomatch h), hs⟩, fun _ h => (nomatch h), fun _ xs p B e1 e2 => (nomatch e2), fun i e => ?_⟩
  rw [hm] at e; cases e
end

section
variable {C : Cfg} {cf : Fns} {gl : Nat → Option D} {X : Cx}
abbrev nf (C : Cfg) (e : E) : Inf := inf C.ms C.pm e
abbrev nfs (C : Cfg) (e : List E) : List Inf := infs C.ms C.pm e
theorem se_of {ir : E} {e : Expr} (h : SE C cf gl X ir e) : SEs C cf gl X [ir] [e] := .cons h .nil
theorem evs1 {a : E} {ρ ρ1 : Env} {d : D} (h : (ev cf gl a).v ρ = some (d, ρ1)) : evs cf gl [a] ρ = some ([d], ρ1) := by
  simp only [evs, h, Option.bind_some, Option.map_some]
theorem evs2 {a b : E} {ρ ρ1 ρ2 : Env} {d e : D} (h : (ev cf gl a).v ρ = some (d, ρ1)) (h2 : (ev cf gl b).v ρ1 = some (e, ρ2)) : evs cf gl [a, b] ρ = some ([d, e], ρ2) := by
  simp only [evs, h, h2, Option.bind_some, Option.map_some]
theorem evs3 {a b c : E} {ρ ρ1 ρ2 ρ3 : Env} {d e f : D} (h : (ev cf gl a).v ρ = some (d, ρ1)) (h2 : (ev cf gl b).v ρ1 = some (e, ρ2)) (h3 : (ev cf gl c).v ρ2 = some (f, ρ3)) : evs cf gl [a, b, c] ρ = some ([d, e, f], ρ3) := by
  simp only [evs, h, h2, h3, Option.bind_some, Option.map_some]
theorem allK1 {x : Inf} (h : x.ok = true) : allK [x] = true := by simp [allK, seqOk, h]
theorem allK2 {x y : Inf} (h1 : x.ok = true) (h2 : y.ok = true) (h3 : dis x.s y.T = true) : allK [x, y] = true := by simp [allK, seqOk, h1, h2, h3]
theorem allK3 {x y z : Inf} (h1 : x.ok = true) (h2 : y.ok = true) (h3 : z.ok = true) (h4 : dis x.s y.T = true) (h5 : dis x.s z.T = true) (h6 : dis y.s z.T = true) : allK [x, y, z] = true := by simp [allK, seqOk, h1, h2, h3, h4, h5, h6]
theorem allT1 {x : Inf} : allT [x] = x.T := by simp [allT]
theorem allT2 {x y : Inf} : allT [x, y] = x.T ++ y.T := by simp [allT]
theorem allT3 {x y z : Inf} : allT [x, y, z] = x.T ++ (y.T ++ z.T) := by simp [allT]
theorem allS1 {x : Inf} : allS [x] = x.s := by simp [allS]
theorem allS2 {x y : Inf} : allS [x, y] = x.s ++ y.s := by simp [allS]

theorem n_lit {d : D} {e : Expr} {t : V} (hl : litOk d = true) (h : PE X e (tC t)) (hr : ∀ H, Rp X.K H t d []) : SE C cf gl X (.lit d) e := by
  intro σ H W ρ d' ρ' _ st h2
  simp only [ev, ofV, Option.some.injEq, Prod.mk.injEq] at h2
  obtain ⟨rfl, rfl⟩ := h2
  refine of_pe h ⟨W, [], .refl, st, hr H, .nil, fun _ h => (nomatch h), fun z => (nomatch z), fun _ z => (nomatch z)⟩
theorem vis_of {sc : Scope} {x : Str} (h : isVis sc x = true) : Vis sc x := by
  unfold isVis at h
  split at h
  · exact .inl (by assumption)
  · exact .inr (.inl (by assumption))
  · exact .inr (.inr (by assumption))
  · cases h
theorem okName1 {x : Str} (h : okName x = true) : (x == ("__debug__" : Str)) = false := by
  have := (Bool.and_eq_true_iff.mp h).1
  simpa using this
theorem okName2 {x : Str} (h : okName x = true) : (x == ("__classdict__" : Str)) = false := by
  have := (Bool.and_eq_true_iff.mp h).2
  simpa using this
theorem slot_pe (G : Good C cf gl X) {i : Nat} {x : Str} {pos : Pos} (h : slotIs C.N X.env.scope i x = true) : PE X (.Name x pos) (tVar i) := by
  simp only [slotIs, Bool.and_eq_true, decide_eq_true_eq] at h
  exact pe_var (by rw [G.N]; exact h.1.1) (vis_of h.1.2) (okName1 h.2) (okName2 h.2)
theorem n_var (G : Good C cf gl X) {i : Nat} {x : Str} {pos : Pos} (h : slotIs C.N X.env.scope i x = true) : SE C cf gl X (.var i) (.Name x pos) := by
  intro σ H W ρ d ρ' _ st h2
  simp only [ev, ofV, Option.map_eq_some_iff, Prod.mk.injEq] at h2
  obtain ⟨d', e1, rfl, rfl⟩ := h2
  obtain ⟨v, e2, r⟩ := st.sl i d' e1
  refine of_pe (slot_pe G h) ⟨v, e2, W, W i, .refl, st, r, ⟨fun a ha j oj hj q => ?_, ft, ft, ft, ft⟩, fun a ha => .inl ⟨i, ha⟩, ft, fun j e => ?_⟩
  · by_cases z : owns C.ms i = true
    · have hj' : j ∉ (if owns C.ms i = true then [i] else []) := hj
      rw [if_pos z] at hj'
      exact st.dj i j a z (fun e => hj' (by simp [e])) ha q
    · exact st.dj j i a oj (fun e => by subst e; exact z oj) q ha
  · have e : j = i := (Option.some.inj e).symm
    subst e; exact e2
theorem n_mov (G : Good C cf gl X) {i : Nat} {x : Str} {pos : Pos} (h : slotIs C.N X.env.scope i x = true) : SE C cf gl X (.mov i) (.Name x pos) := by
  intro σ H W ρ d ρ' k st h2
  simp only [ev, ofV, Option.map_eq_some_iff, Prod.mk.injEq] at h2
  obtain ⟨d', e1, rfl, rfl⟩ := h2
  have oi : owns C.ms i = true := k
  obtain ⟨v, e2, r⟩ := st.sl i d' e1
  have apart : ∀ a ∈ W i, ∀ j, a ∉ W.put i [] j := fun a ha j q => by
    by_cases z : j = i
    · subst z; rw [Own.put_same] at q; cases q
    · rw [Own.put_ne z] at q; exact st.dj i j a oi z ha q
  refine of_pe (slot_pe G h) ⟨v, e2, W.put i [], W i, ⟨fun a o e _ => e, fun a o e _ => e, fun j hj => Own.put_ne fun z => hj (by subst z; exact List.mem_singleton.mpr rfl), fun j hj oj a ha => ?_, fun a e => e⟩, st.moved i, r,
    ⟨fun a ha j _ _ => apart a ha j, fun _ => apart, fun _ => st.nd i oi, fun _ a ha => .inl ⟨i, List.mem_singleton.mpr rfl, oi, ha⟩, fun _ => rfl⟩, fun a ha => .inl ⟨i, ha⟩, ft, fun j e => ?_⟩
  · have z : j = i := List.mem_singleton.mp hj
    subst z
    rw [Own.put_same] at ha; cases ha
  · have e : j = i := (Option.some.inj e).symm
    subst e; exact e2
theorem n_chk {ir : E} {e : Expr} (h : SE C cf gl X ir e) : SE C cf gl X (.chk ir) e := by
  intro σ H W ρ d ρ' k st h2
  simp only [ev, ofV, Option.bind_eq_some_iff, Prod.exists] at h2
  obtain ⟨d', ρ1, e1, e2⟩ := h2
  split at e2
  · rename_i hp
    simp only [Option.some.injEq, Prod.mk.injEq] at e2
    obtain ⟨rfl, rfl⟩ := e2
    refine wpE_mono (h σ H W ρ _ _ k st e1) fun v H' ⟨W', A, ev, st', r, t, ov, fr, mv⟩ => ?_
    have e := r.pure hp
    subst e
    exact ⟨W', [], ev, st', r, .nil, fun _ h => (nomatch h), fun z => (nomatch z), fun _ z => (nomatch z)⟩
  · cases e2
theorem n_own {ir : E} {e : Expr} (h : SE C cf gl X ir e) : SE C cf gl X (.own ir) e := by
  intro σ H W ρ d ρ' k st h2
  have k' : (nf C ir).ok = true ∧ (nf C ir).f = true := Bool.and_eq_true_iff.mp k
  simp only [ev, ofV, Option.bind_eq_some_iff, Option.map_eq_some_iff, Prod.exists, Prod.mk.injEq] at h2
  obtain ⟨d', ρ1, e1, d2, e2, rfl, rfl⟩ := h2
  refine wpE_mono (h σ H W ρ _ _ k'.1 st e1) fun v H' ⟨W', A, ev, st', r, t, ov, fr, mv⟩ => ?_
  have pureCase : d'.pure = true → d' = d2 → Po X.K C.ms (nf C (.own ir)) σ H W ρ1 d2 v H' := fun hp ed => by
    subst ed
    have e := r.pure hp
    subst e
    exact ⟨W', [], ev, st', r, .nil, fun _ h => (nomatch h), fun _ _ _ _ _ z => (nomatch z), fun _ z => (nomatch z)⟩
  cases d' with
  | lst xs =>
    simp only [ownD] at e2
    split at e2
    · rename_i hp
      cases e2
      cases r with
      | lst ea rs =>
        have e := rs.pure hp
        subst e
        obtain ⟨f1, f2⟩ := fr k'.2 _ _ _ rfl rfl
        refine ⟨W', [_], ev, st', .lst ea rs, ⟨fun a ha j _ _ => ?_, fun _ a ha j => ?_, fun _ => List.nodup_cons.mpr ⟨fun h => (nomatch h), List.nodup_nil⟩, fun _ a ha => ?_, fun _ => rfl⟩, ov, fun _ xs p B _ e => ?_, fun _ z => (nomatch z)⟩
        · rw [List.mem_singleton.mp ha]; exact f2 j
        · rw [List.mem_singleton.mp ha]; exact f2 j
        · rw [List.mem_singleton.mp ha]; exact .inr f1
        · injection e with e _; subst e; exact ⟨f1, f2⟩
    · cases e2
  | non => (simp only [ownD] at e2; split at e2 <;> first | exact pureCase (by assumption) (Option.some.inj e2) | cases e2)
  | bl _ => (simp only [ownD] at e2; split at e2 <;> first | exact pureCase (by assumption) (Option.some.inj e2) | cases e2)
  | int _ => (simp only [ownD] at e2; split at e2 <;> first | exact pureCase (by assumption) (Option.some.inj e2) | cases e2)
  | str _ => (simp only [ownD] at e2; split at e2 <;> first | exact pureCase (by assumption) (Option.some.inj e2) | cases e2)
  | tup _ => (simp only [ownD] at e2; split at e2 <;> first | exact pureCase (by assumption) (Option.some.inj e2) | cases e2)
  | dct _ _ => (simp only [ownD] at e2; split at e2 <;> first | exact pureCase (by assumption) (Option.some.inj e2) | cases e2)
  | scr _ => (simp only [ownD] at e2; split at e2 <;> first | exact pureCase (by assumption) (Option.some.inj e2) | cases e2)

theorem nest1 {x : Expr} {σ : St} {H : Hp} {P : List V → Hp → Prop} {Q : V → Hp → Prop} (n : nest X [x] σ H P) (h : ∀ v1 H2, P [v1] H2 → Q v1 H2) : wpE X x σ H Q := wpE_mono n fun v1 H1 h1 => h v1 H1 h1
theorem nest2 {x y : Expr} {σ : St} {H : Hp} {P : List V → Hp → Prop} {Q : V → V → Hp → Prop} (n : nest X [x, y] σ H P) (h : ∀ v1 v2 H2, P [v1, v2] H2 → Q v1 v2 H2) : wpE X x σ H fun v1 H1 => wpE X y σ H1 fun v2 H2 => Q v1 v2 H2 :=
  wpE_mono n fun v1 H1 h1 => wpE_mono h1 fun v2 H2 h2 => h v1 v2 H2 h2
theorem nest3 {x y z : Expr} {σ : St} {H : Hp} {P : List V → Hp → Prop} {Q : V → V → V → Hp → Prop} (n : nest X [x, y, z] σ H P) (h : ∀ v1 v2 v3 H2, P [v1, v2, v3] H2 → Q v1 v2 v3 H2) : wpE X x σ H fun v1 H1 => wpE X y σ H1 fun v2 H2 => wpE X z σ H2 fun v3 H3 => Q v1 v2 v3 H3 :=
  wpE_mono n fun v1 H1 h1 => wpE_mono h1 fun v2 H2 h2 => wpE_mono h2 fun v3 H3 h3 => h v1 v2 v3 H3 h3
theorem all1 {I : Inf} {σ : St} {H H2 : Hp} {W : Own} {ρ' : Env} {d : D} {v : V} (h : PoL X.K C.ms [I] σ H W ρ' [d] [v] H2) :
    ∃ W2 A, Evo C.ms I.T H W H2 W2 ∧ Sts X.K H2 C.ms σ ρ' W2 ∧ Rp X.K H2 v d A ∧ Vt C.ms I.T false I.s H W W2 A ∧ ∀ a ∈ A, (∃ k, a ∈ W k) ∨ H a = none := by
  obtain ⟨W2, As, ev2, st2, l⟩ := h
  obtain ⟨t1, t2, ov⟩ := l.vt
  obtain ⟨_, ee, r1⟩ := Rps.one_inv l.rps
  cases ee
  rw [allT1] at ev2 t1; rw [allS1] at t1
  exact ⟨W2, _, ev2, st2, r1, t1, ov⟩
theorem all2 {I J : Inf} {σ : St} {H H2 : Hp} {W : Own} {ρ' : Env} {d e : D} {v w : V} (h : PoL X.K C.ms [I, J] σ H W ρ' [d, e] [v, w] H2) :
    ∃ W2 A B, Evo C.ms (I.T ++ J.T) H W H2 W2 ∧ Sts X.K H2 C.ms σ ρ' W2 ∧ Rp X.K H2 v d A ∧ Rp X.K H2 w e B ∧ Vt C.ms (I.T ++ J.T) false (I.s ++ J.s) H W W2 (A ++ B) ∧ ∀ a ∈ A ++ B, (∃ k, a ∈ W k) ∨ H a = none := by
  obtain ⟨W2, As, ev2, st2, l⟩ := h
  obtain ⟨t1, t2, ov⟩ := l.vt
  obtain ⟨_, _, B, D', ee, r1, r2, eA⟩ := Rps.two_inv l.rps
  cases ee
  rw [allT2] at ev2 t1; rw [allS2] at t1
  rw [eA] at t1 ov
  exact ⟨W2, B, D', ev2, st2, r1, r2, t1, ov⟩
theorem Vt.left {ms : List Bool} {T s s' : List Nat} {H : Hp} {W W' : Own} {A B : List Addr} (t : Vt ms T false (s ++ s') H W W' (A ++ B)) : Vt ms T false (s ++ s') H W W' A := t.sub fun a h => List.mem_append_left _ h
theorem n_bin {o : BinO} {a b : E} {x y : Expr} {op : Operator} {pos : Pos} (ho : binOf o op = true) (ha : SE C cf gl X a x) (hb : SE C cf gl X b y) : SE C cf gl X (.bin o a b) (.BinOp x op y pos) := by
  intro σ H W ρ d ρ' k st h2
  simp only [ev, ofV, Option.bind_eq_some_iff, Option.map_eq_some_iff, Prod.exists, Prod.mk.injEq] at h2
  obtain ⟨d1, ρ1, e1, d2, ρ2, e2, d3, e3, rfl, rfl⟩ := h2
  have k' : ((nf C a).ok = true ∧ (nf C b).ok = true) ∧ dis (nf C a).s (nf C b).T = true := by simpa only [nf, inf, two, Bool.and_eq_true] using k
  refine of_pe (pe_op (opR X (binaryOp op)) (pe X x) (pe X y)) (nest2 (args_ok (.cons ha (se_of hb)) (allK2 k'.1.1 k'.1.2 k'.2) st (evs2 e1 e2)) fun v1 v2 H2 hp => ?_)
  obtain ⟨W2, A, B, ev2, st2, r1, r2, t1, ov⟩ := all2 hp
  exact op_sem o op ho r1 r2 e3 fun v H' pr => po_view (I := nf C (.bin o a b)) ev2 st2 t1 ov pr rfl rfl
theorem n_neg {a : E} {x : Expr} {pos : Pos} (ha : SE C cf gl X a x) : SE C cf gl X (.neg a) (.UnaryOp .USub x pos) := by
  intro σ H W ρ d ρ' k st h2
  simp only [ev, ofV, Option.bind_eq_some_iff, Option.map_eq_some_iff, Prod.exists, Prod.mk.injEq] at h2
  obtain ⟨d1, ρ1, e1, i, e2, rfl, rfl⟩ := h2
  refine of_pe (pe_un un_neg (pe X x)) (wpE_mono (ha σ H W ρ _ _ k st e1) fun v H' ⟨W', A, ev, st', r, t, ov, fr, mv⟩ => ?_)
  cases r with
  | int j =>
    cases e2
    exact ⟨_, rfl, po_pure (S := [0]) (I := nf C (.neg a)) ev st' (.int (As := []) _) rfl (fun _ => rfl) rfl⟩
  | _ => cases e2
theorem cmpD_bl {o : CmpO} {x y d : D} (h : cmpD o x y = some d) : ∃ b, d = .bl b := by
  unfold cmpD at h
  split at h <;> first
    | exact ⟨_, (Option.some.inj h).symm⟩
    | (split at h <;> first | exact ⟨_, (Option.some.inj h).symm⟩ | cases h)
    | (cases h; done)
    | skip
  rename_i xs ys
  cases e1 : tupInts xs with
  | none => simp [e1] at h
  | some ns =>
    cases e2 : tupInts ys with
    | none => simp [e1, e2] at h
    | some m => simp [e1, e2] at h; exact ⟨_, h.symm⟩
theorem n_cmp (G : Good C cf gl X) {o : CmpO} {a b : E} {x y : Expr} {op : CmpOp} {pos : Pos} (ho : cmpOf o op = true) (hm : behindInMarks op y = false) (ha : SE C cf gl X a x) (hb : SE C cf gl X b y) : SE C cf gl X (.cmp o a b) (.Compare x [op] [y] pos) := by
  intro σ H W ρ d ρ' k st h2
  simp only [ev, ofV, Option.bind_eq_some_iff, Option.map_eq_some_iff, Prod.exists, Prod.mk.injEq] at h2
  obtain ⟨d1, ρ1, e1, d2, ρ2, e2, d3, e3, rfl, rfl⟩ := h2
  have k' : ((nf C a).ok = true ∧ (nf C b).ok = true) ∧ dis (nf C a).s (nf C b).T = true := by simpa only [nf, inf, two, Bool.and_eq_true] using k
  have hop := cmpO_of ho
  subst hop
  refine of_pe (pe_cmpR (opR X (compareOp (cmpO o))) (pe X x) (pe X y) hm) (nest2 (args_ok (.cons ha (se_of hb)) (allK2 k'.1.1 k'.1.2 k'.2) st (evs2 e1 e2)) fun v1 v2 H2 hp => ?_)
  obtain ⟨W2, A, B, ev2, st2, r1, r2, t1, ov⟩ := all2 hp
  refine cmp_sem G.room o r1 r2 e3 fun c hb => ?_
  subst hb
  exact po_pure (S := [0]) (I := nf C (.cmp o a b)) ev2 st2 (.bl (As := []) _) rfl (fun _ => rfl) rfl
/-- a test's reading -/
def ST (C : Cfg) (cf : Fns) (gl : Nat → Option D) (X : Cx) (ir : E) (e : Expr) : Prop :=
  ∀ σ H W ρ b ρ', (inf C.ms C.pm ir).ok = true → Sts X.K H C.ms σ ρ W → (ev cf gl ir).t ρ = some (b, ρ') → wpT X e σ H fun c H' => c = b ∧ ∃ W', Evo C.ms (inf C.ms C.pm ir).T H W H' W' ∧ Sts X.K H' C.ms σ ρ' W'
def SW (C : Cfg) (cf : Fns) (gl : Nat → Option D) (X : Cx) (ir : E) (e : Expr) : Prop :=
  ∀ σ H W ρ b ρ', (inf C.ms C.pm ir).ok = true → Sts X.K H C.ms σ ρ W → (ev cf gl ir).t ρ = some (b, ρ') → wpW X e σ H fun c H' => c = b ∧ ∃ W', Evo C.ms (inf C.ms C.pm ir).T H W H' W' ∧ Sts X.K H' C.ms σ ρ' W'
theorem st_cmp (G : Good C cf gl X) {o : CmpO} {a b : E} {x y : Expr} {op : CmpOp} {pos : Pos} (ho : cmpOf o op = true) (hm : behindInMarks op y = false) (ha : SE C cf gl X a x) (hb : SE C cf gl X b y) : ST C cf gl X (.cmp o a b) (.Compare x [op] [y] pos) := by
  intro σ H W ρ d ρ' k st h2
  simp only [ev, ofV, tOf, Option.bind_eq_some_iff, Option.map_eq_some_iff, Prod.exists, Prod.mk.injEq] at h2
  obtain ⟨d3, ρ3, ⟨d1, ρ1, e1, d2, ρ2, e2, d4, e3, rfl, rfl⟩, c, e4, rfl, rfl⟩ := h2
  have k' : ((nf C a).ok = true ∧ (nf C b).ok = true) ∧ dis (nf C a).s (nf C b).T = true := by simpa only [nf, inf, two, Bool.and_eq_true] using k
  have hop := cmpO_of ho
  subst hop
  refine of_pt (pt_cmpR (opR X (compareOp (cmpO o))) (pe X x) (pe X y) hm) (nest2 (args_ok (.cons ha (se_of hb)) (allK2 k'.1.1 k'.1.2 k'.2) st (evs2 e1 e2)) fun v1 v2 H2 hp => ?_)
  obtain ⟨W2, A, B, ev2, st2, r1, r2, t1, ov⟩ := all2 hp
  refine cmp_sem G.room o r1 r2 e3 fun b hb => ?_
  subst hb
  cases e4
  exact ⟨_, rfl, rfl, W2, ev2, st2⟩
theorem st_plain {ir : E} {e : Expr} (h : SE C cf gl X ir e) (hp : plainT e = true) (ht : (ev cf gl ir).t = tOf (ev cf gl ir).v) : ST C cf gl X ir e := by
  intro σ H W ρ b ρ' k st h2
  rw [ht] at h2
  simp only [tOf, Option.bind_eq_some_iff, Option.map_eq_some_iff, Prod.exists, Prod.mk.injEq] at h2
  obtain ⟨d, ρ1, e1, c, e2, rfl, rfl⟩ := h2
  refine of_pt (pt_truth (pe X e) (plainT_eq hp X.env)) (wpE_mono (h σ H W ρ _ _ k st e1) fun v H' ⟨W', A, ev, st', r, t, ov, fr, mv⟩ => ?_)
  exact ⟨_, tru_sem r e2, rfl, W', ev, st'⟩
theorem st_not {a : E} {x : Expr} {pos : Pos} (ha : ST C cf gl X a x) : ST C cf gl X (.bnot a) (.UnaryOp .Not x pos) := by
  intro σ H W ρ b ρ' k st h2
  simp only [ev, Option.map_eq_some_iff, Prod.exists, Prod.mk.injEq] at h2
  obtain ⟨c, ρ2, e1, rfl, rfl⟩ := h2
  refine of_pt (pt_not (pt X x)) (wpT_mono (ha σ H W ρ _ _ k st e1) fun c1 H' ⟨e, q⟩ => ?_)
  subst e
  exact ⟨rfl, q⟩
theorem n_not {a : E} {x : Expr} {pos : Pos} (ha : SE C cf gl X a x) : SE C cf gl X (.bnot a) (.UnaryOp .Not x pos) := by
  intro σ H W ρ d ρ' k st h2
  simp only [ev, ofV, Option.bind_eq_some_iff, Option.map_eq_some_iff, Prod.exists, Prod.mk.injEq] at h2
  obtain ⟨d1, ρ1, e1, c, e2, rfl, rfl⟩ := h2
  have hn : PE X (.UnaryOp .Not x pos) (fun σ H Q => wpE X x σ H fun v H1 => ∃ k, TruV X.K v H1 k ∧ Q (.bl (!k)) H1) := ⟨fun pins s σ H Q I h =>
    PyProof.Rows.UnaryOp_ (thn (h pins s I) fun v s1 ⟨y, H1, I1, r1, q1⟩ => by
      obtain ⟨c, hc, q⟩ := q1
      exact PyProof.Rows.not_of (thn (tru_ok pins s1 σ H1 y v (fun b H' => Q (.bl (!b)) H') I1 r1 ⟨c, hc, q⟩) fun b s2 ⟨H2, I2, q2⟩ => ⟨.bl (!b), H2, I2, rfl, q2⟩))⟩
  exact of_pe hn (wpE_mono (ha σ H W ρ _ _ k st e1) fun v H' ⟨W', A, ev, st', r, t, ov, fr, mv⟩ => ⟨c, tru_sem r e2, po_pure (S := [0]) (I := nf C (.bnot a)) ev st' (.bl (As := []) _) rfl (fun _ => rfl) rfl⟩)
end
end Vi

set_option Elab.async false
set_option linter.all false
set_option maxRecDepth 100000
set_option maxHeartbeats 4000000
/-! More nodes: and, or, if, chains, displays, subscripts, slices, built-in functions. -/
namespace Vi
open PySem L2

mutual
theorem inf_os {ms : List Bool} {pm : Nat → List Bool} : ∀ (e : E), (inf ms pm e).o = true → (inf ms pm e).s = []
  | .lit _, _ => rfl
  | .var i, h => by cases h
  | .mov _, _ => rfl
  | .own _, _ => rfl
  | .chk _, _ => rfl
  | .glb _, _ => rfl
  | .bin _ _ _, h => by cases h
  | .neg _, _ => rfl
  | .cmp _ _ _, _ => rfl
  | .cmp2 _ _ _ _ _, _ => rfl
  | .band _ b, h => inf_os b h
  | .bor _ b, h => inf_os b h
  | .bnot _, _ => rfl
  | .ite _ a b, h => by
    have h' : (inf ms pm a).o = true ∧ (inf ms pm b).o = true := Bool.and_eq_true_iff.mp h
    show (inf ms pm a).s ++ (inf ms pm b).s = []
    rw [inf_os a h'.1, inf_os b h'.2]; rfl
  | .tup es, h => infs_os es h
  | .lst es, h => infs_os es h
  | .dct0, _ => rfl
  | .idx _ _, h => by cases h
  | .slc _ _ _, h => by cases h
  | .rev _, h => by cases h
  | .fn b es, h => by
    have h' : scalB b = true := h
    show (if scalB b = true then [] else _) = []
    rw [if_pos h']
  | .isi _ _, _ => rfl
  | .mth m o es, h => by
    have h' : (m == .index || m == .tindex) = true := h
    show (if (m == .index || m == .tindex) = true then [] else _) = []
    rw [if_pos h']
  | .mut _ _ _, _ => rfl
  | .call _ _ _, _ => rfl
  | .lc elt _ _ _, h => inf_os elt h
  | .ge _ _ _ _ _, _ => rfl
  | .lof _ _, h => by cases h
  | .ichk _, h => by cases h
  | .irng1 _, h => by cases h
  | .irng2 _ _, h => by cases h
  | .irng3 _ _ _, h => by cases h
  | .ienum _, h => by cases h
  | .izip _ _, h => by cases h
  | .irev _, h => by cases h
theorem infs_os {ms : List Bool} {pm : Nat → List Bool} : ∀ (es : List E), allO (infs ms pm es) = true → allS (infs ms pm es) = []
  | [], _ => rfl
  | e :: es, h => by
    have h' : (inf ms pm e).o = true ∧ allO (infs ms pm es) = true := Bool.and_eq_true_iff.mp h
    show (inf ms pm e).s ++ allS (infs ms pm es) = []
    rw [inf_os e h'.1, infs_os es h'.2]; rfl
end

section
variable {K : PySem.W.Frag} {ms : List Bool} {T S T0 : List Nat} {σ : St} {H H1 H' H2 H3 : Hp} {W W1 W' W2 : Own} {ρ ρ' : Env} {A A0 : List Addr} {d : D} {v : V} {I I1 : Inf}
theorem Vt.conv {o o' : Bool} {s s' : List Nat} (t : Vt ms T o s H W W' A) (hT : ∀ j ∈ T, j ∈ S) (ho : o' = true → o = true) (hs : ∀ j ∈ s, j ∈ s') (os : o' = true → s' = []) : Vt ms S o' s' H W W' A where
  ap := fun a ha j oj hj => t.ap a ha j oj fun z => hj (hs j z)
  al := fun z => t.al (ho z)
  nd := fun z => t.nd (ho z)
  og := fun z a ha => (t.og (ho z) a ha).imp_left fun ⟨k, hk, q⟩ => ⟨k, hT k hk, q⟩
  os := os
theorem Po.back (ev0 : Evo ms T0 H W H1 W1) (own0 : ∀ j ∈ T0, owns ms j = true) (p : Po K ms I1 σ H1 W1 ρ' d v H') (hT : ∀ j ∈ T0 ++ I1.T, j ∈ I.T) (ho : I.o = true → I1.o = true) (hs : ∀ j ∈ I1.s, j ∈ I.s) (os : I.o = true → I.s = [])
    (hf : I.f = true → I1.f = true) (hm : ∀ i, I.mv = some i → I1.mv = some i) : Po K ms I σ H W ρ' d v H' := by
  obtain ⟨W2, A, ev, st, r, t, ov, fr, mv⟩ := p
  refine ⟨W2, A, (ev0.trans ev).mono hT, st, r, (t.back ev0).conv hT ho hs os, ov_back ev0 own0 ov, fun z xs p B e1 e2 => ?_, fun i e => mv i (hm i e)⟩
  obtain ⟨f1, f2⟩ := fr (hf z) xs p B e1 e2
  exact ⟨ev0.dom p f1, f2⟩
theorem mem_nil_app {a b : List Nat} : ∀ j ∈ a ++ b, j ∈ a ++ b := fun _ h => h
end

section
variable {C : Cfg} {cf : Fns} {gl : Nat → Option D} {X : Cx}
theorem all2v {I J : Inf} {σ : St} {H H2 : Hp} {W : Own} {ρ' : Env} {d e : D} {v w : V} (h : PoL X.K C.ms [I, J] σ H W ρ' [d, e] [v, w] H2) :
    ∃ W2 A B, Evo C.ms (I.T ++ J.T) H W H2 W2 ∧ Sts X.K H2 C.ms σ ρ' W2 ∧ Rp X.K H2 v d A ∧ Rp X.K H2 w e B ∧ Vt C.ms (I.T ++ J.T) I.o I.s H W W2 A ∧ Vt C.ms (I.T ++ J.T) J.o J.s H W W2 B := by
  obtain ⟨W2, As, ev2, st2, l⟩ := h
  rw [allT2] at ev2 l
  cases l with
  | cons r t o m l a1 a2 =>
    cases l with
    | cons r2 t2 o2 m2 l2 a3 a4 => exact ⟨W2, _, _, ev2, st2, r, r2, t, t2⟩
theorem n_band_t {a b : E} {x y : Expr} {rest : List Expr} {pos : Pos} (ha : SE C cf gl X a x) (hb : SE C cf gl X b (.BoolOp .And (y :: rest) pos)) : SE C cf gl X (.band a b) (.BoolOp .And (x :: y :: rest) pos) := by
  intro σ H W ρ d ρ' k st h2
  simp only [ev, ofV, Option.bind_eq_some_iff, Prod.exists] at h2
  obtain ⟨d1, ρ1, e1, c, e2, e3⟩ := h2
  have k' : (nf C a).ok = true ∧ (nf C b).ok = true := Bool.and_eq_true_iff.mp k
  refine of_pe (pe_and (pe X x) (pe X _)) (wpE_mono (ha σ H W ρ _ _ k'.1 st e1) fun v H1 ⟨W1, A, ev1, st1, r, t, ov, fr, mv⟩ => ?_)
  cases r with
  | bl c' =>
    cases e2
    refine ⟨_, rfl, ?_⟩
    cases c with
    | false =>
      simp only [Bool.false_eq_true, if_false, Option.some.injEq, Prod.mk.injEq] at e3 ⊢
      obtain ⟨rfl, rfl⟩ := e3
      exact po_pure (S := [0]) (I := nf C (.band a b)) (ev1.mono fun j hj => List.mem_append_left _ hj) st1 (.bl (As := []) _) rfl (inf_os (.band a b)) rfl
    | true =>
      simp only [if_true] at e3 ⊢
      exact wpE_mono (hb σ H1 W1 ρ1 _ _ k'.2 st1 e3) fun v H2 p => p.back (I := nf C (.band a b)) ev1 (inf_own a k'.1) mem_nil_app id (fun _ h => h) (inf_os (.band a b)) ft fun i e => nomatch e
  | _ => cases e2
theorem n_bor_t {a b : E} {x y : Expr} {rest : List Expr} {pos : Pos} (ha : SE C cf gl X a x) (hb : SE C cf gl X b (.BoolOp .Or (y :: rest) pos)) : SE C cf gl X (.bor a b) (.BoolOp .Or (x :: y :: rest) pos) := by
  intro σ H W ρ d ρ' k st h2
  simp only [ev, ofV, Option.bind_eq_some_iff, Prod.exists] at h2
  obtain ⟨d1, ρ1, e1, c, e2, e3⟩ := h2
  have k' : (nf C a).ok = true ∧ (nf C b).ok = true := Bool.and_eq_true_iff.mp k
  refine of_pe (pe_or (pe X x) (pe X _)) (wpE_mono (ha σ H W ρ _ _ k'.1 st e1) fun v H1 ⟨W1, A, ev1, st1, r, t, ov, fr, mv⟩ => ?_)
  cases r with
  | bl c' =>
    cases e2
    refine ⟨_, rfl, ?_⟩
    cases c with
    | true =>
      simp only [if_true, Option.some.injEq, Prod.mk.injEq] at e3 ⊢
      obtain ⟨rfl, rfl⟩ := e3
      exact po_pure (S := [0]) (I := nf C (.bor a b)) (ev1.mono fun j hj => List.mem_append_left _ hj) st1 (.bl (As := []) _) rfl (inf_os (.bor a b)) rfl
    | false =>
      simp only [Bool.false_eq_true, if_false] at e3 ⊢
      exact wpE_mono (hb σ H1 W1 ρ1 _ _ k'.2 st1 e3) fun v H2 p => p.back (I := nf C (.bor a b)) ev1 (inf_own a k'.1) mem_nil_app id (fun _ h => h) (inf_os (.bor a b)) ft fun i e => nomatch e
  | _ => cases e2
theorem n_one {b : E} {y : Expr} {op : BoolOp} {pos : Pos} (h : SE C cf gl X b y) : SE C cf gl X b (.BoolOp op [y] pos) := fun σ H W ρ d ρ' k st h2 => of_pe (pe_one (pe X y)) (h σ H W ρ d ρ' k st h2)
/-- a boolean operation's test hangs not on its value -/
theorem pw_bool (op : BoolOp) (es : List Expr) (pos : Pos) : PW X (.BoolOp op es pos) (wpT X (.BoolOp op es pos)) := ⟨fun _ pins s _ _ _ I h => h pins s I⟩
theorem st_band_t {a b : E} {x y : Expr} {rest : List Expr} {pos : Pos} (ha : ST C cf gl X a x) (hb : ST C cf gl X b (.BoolOp .And (y :: rest) pos)) : ST C cf gl X (.band a b) (.BoolOp .And (x :: y :: rest) pos) := by
  intro σ H W ρ d ρ' k st h2
  simp only [ev, Option.bind_eq_some_iff, Prod.exists] at h2
  obtain ⟨c, ρ1, e1, e3⟩ := h2
  have k' : (nf C a).ok = true ∧ (nf C b).ok = true := Bool.and_eq_true_iff.mp k
  refine of_pt (pw_and (pt X x) (pw_bool _ _ _)).pt (wpT_mono (ha σ H W ρ _ _ k'.1 st e1) fun c1 H1 ⟨e, W1, ev1, st1⟩ => ?_)
  subst e
  cases c1 with
  | false =>
    simp only [Bool.false_eq_true, if_false, Option.some.injEq, Prod.mk.injEq] at e3 ⊢
    obtain ⟨rfl, rfl⟩ := e3
    exact ⟨rfl, W1, ev1.mono fun j hj => List.mem_append_left _ hj, st1⟩
  | true =>
    simp only [if_true] at e3 ⊢
    exact wpT_mono (hb σ H1 W1 ρ1 _ _ k'.2 st1 e3) fun c2 H2 ⟨e, W2, ev2, st2⟩ => ⟨e, W2, ev1.trans ev2, st2⟩
theorem st_bor_t {a b : E} {x y : Expr} {rest : List Expr} {pos : Pos} (ha : ST C cf gl X a x) (hb : ST C cf gl X b (.BoolOp .Or (y :: rest) pos)) : ST C cf gl X (.bor a b) (.BoolOp .Or (x :: y :: rest) pos) := by
  intro σ H W ρ d ρ' k st h2
  simp only [ev, Option.bind_eq_some_iff, Prod.exists] at h2
  obtain ⟨c, ρ1, e1, e3⟩ := h2
  have k' : (nf C a).ok = true ∧ (nf C b).ok = true := Bool.and_eq_true_iff.mp k
  refine of_pt (pw_or (pt X x) (pw_bool _ _ _)).pt (wpT_mono (ha σ H W ρ _ _ k'.1 st e1) fun c1 H1 ⟨e, W1, ev1, st1⟩ => ?_)
  subst e
  cases c1 with
  | true =>
    simp only [if_true, Option.some.injEq, Prod.mk.injEq] at e3 ⊢
    obtain ⟨rfl, rfl⟩ := e3
    exact ⟨rfl, W1, ev1.mono fun j hj => List.mem_append_left _ hj, st1⟩
  | false =>
    simp only [Bool.false_eq_true, if_false] at e3 ⊢
    exact wpT_mono (hb σ H1 W1 ρ1 _ _ k'.2 st1 e3) fun c2 H2 ⟨e, W2, ev2, st2⟩ => ⟨e, W2, ev1.trans ev2, st2⟩
theorem st_one_and {b : E} {y : Expr} {pos : Pos} (h : ST C cf gl X b y) : ST C cf gl X b (.BoolOp .And [y] pos) := fun σ H W ρ d ρ' k st h2 => of_pt (pw_and1 (pt X y)).pt (h σ H W ρ d ρ' k st h2)
theorem st_one_or {b : E} {y : Expr} {pos : Pos} (h : ST C cf gl X b y) : ST C cf gl X b (.BoolOp .Or [y] pos) := fun σ H W ρ d ρ' k st h2 => of_pt (pw_or1 (pt X y)).pt (h σ H W ρ d ρ' k st h2)
theorem n_ite {c a b : E} {z x y : Expr} {pos : Pos} (hc : ST C cf gl X c z) (ha : SE C cf gl X a x) (hb : SE C cf gl X b y) : SE C cf gl X (.ite c a b) (.IfExp z x y pos) := by
  intro σ H W ρ d ρ' k st h2
  simp only [ev, ofV, Option.bind_eq_some_iff, Prod.exists] at h2
  obtain ⟨t, ρ1, e1, e3⟩ := h2
  have k' : ((nf C c).ok = true ∧ (nf C a).ok = true) ∧ (nf C b).ok = true := by simpa only [nf, inf, Bool.and_eq_true] using k
  refine of_pe (pe_ifExp (pt X z) (pe X x) (pe X y)) (wpT_mono (hc σ H W ρ _ _ k'.1.1 st e1) fun c1 H1 ⟨e, W1, ev1, st1⟩ => ?_)
  subst e
  have os := inf_os (ms := C.ms) (pm := C.pm) (.ite c a b)
  cases c1 with
  | true =>
    simp only [if_true] at e3 ⊢
    refine wpE_mono (ha σ H1 W1 ρ1 _ _ k'.1.2 st1 e3) fun v H2 p => p.back (I := nf C (.ite c a b)) ev1 (inf_own c k'.1.1) (fun j hj => ?_) (fun z => (Bool.and_eq_true_iff.mp z).1) (fun j hj => List.mem_append_left _ hj) os (fun z => (Bool.and_eq_true_iff.mp z).1) fun i e => nomatch e
    rcases List.mem_append.mp hj with hj | hj
    · exact List.mem_append_left _ hj
    · exact List.mem_append_right _ (List.mem_append_left _ hj)
  | false =>
    simp only [Bool.false_eq_true, if_false] at e3 ⊢
    refine wpE_mono (hb σ H1 W1 ρ1 _ _ k'.2 st1 e3) fun v H2 p => p.back (I := nf C (.ite c a b)) ev1 (inf_own c k'.1.1) (fun j hj => ?_) (fun z => (Bool.and_eq_true_iff.mp z).2) (fun j hj => List.mem_append_right _ hj) os (fun z => (Bool.and_eq_true_iff.mp z).2) fun i e => nomatch e
    rcases List.mem_append.mp hj with hj | hj
    · exact List.mem_append_left _ hj
    · exact List.mem_append_right _ (List.mem_append_right _ hj)
theorem chain_nest {K : PySem.W.Frag} {o p : CmpO} {a b c : E} {x y z : Expr} (G : Good C cf gl X) (ha : SE C cf gl X a x) (hb : SE C cf gl X b y) (hc : SE C cf gl X c z)
    {σ : St} {H : Hp} {W : Own} {ρ ρ1 ρ2 : Env} {d1 d2 : D} {t : Bool} (k : (nf C (.cmp2 o p a b c)).ok = true) (st : Sts X.K H C.ms σ ρ W) (e1 : (ev cf gl a).v ρ = some (d1, ρ1)) (e2 : (ev cf gl b).v ρ1 = some (d2, ρ2)) (e3 : (cmpD o d1 d2).bind isB = some t)
    {Q : VK} (h1 : t = false → ∀ H2 W2, Evo C.ms ((nf C a).T ++ (nf C b).T) H W H2 W2 → Sts X.K H2 C.ms σ ρ2 W2 → Q (.bl false) H2)
    (h2 : t = true → ∃ d3 ρ3 d4, (ev cf gl c).v ρ2 = some (d3, ρ3) ∧ cmpD p d2 d3 = some (.bl d4) ∧ ∀ H3 W3, Evo C.ms ((nf C a).T ++ ((nf C b).T ++ (nf C c).T)) H W H3 W3 → Sts X.K H3 C.ms σ ρ3 W3 → Q (.bl d4) H3) :
    tChain (wOp X (compareOp (cmpO o))) (wOp X (compareOp (cmpO p))) (wpE X x) (wpE X y) (wpE X z) σ H Q := by
  have k' : ((((nf C a).ok = true ∧ (nf C b).ok = true) ∧ (nf C c).ok = true) ∧ dis (nf C a).s (nf C b).T = true) ∧ dis (nf C b).s (nf C c).T = true := by simpa only [nf, inf, Bool.and_eq_true] using k
  obtain ⟨⟨⟨⟨ka, kb⟩, kc⟩, kd⟩, ke⟩ := k'
  refine nest2 (args_ok (.cons ha (se_of hb)) (allK2 ka kb kd) st (evs2 e1 e2)) fun v1 v2 H2 hp => ?_
  obtain ⟨W2, A, B, ev2, st2, r1, r2, t1, t2⟩ := all2v hp
  obtain ⟨d5, e5, e6⟩ := Option.bind_eq_some_iff.mp e3
  refine cmp_sem G.room o r1 r2 e5 fun b' hb' => ⟨b', rfl, ?_⟩
  subst hb'
  cases e6
  cases t with
  | false =>
    simp only [Bool.false_eq_true, if_false]
    exact h1 rfl H2 W2 ev2 st2
  | true =>
    simp only [if_true]
    obtain ⟨d3, ρ3, d4, f1, f2, f3⟩ := h2 rfl
    refine wpE_mono (hc σ H2 W2 ρ2 _ _ kc st2 f1) fun w H3 ⟨W3, D', ev3, st3, r3, t3, _⟩ => ?_
    refine cmp_sem G.room p (r2.evo ev3 (t2.out (dis_of ke))) r3 f2 fun b'' hb'' => ?_
    cases hb''
    exact f3 H3 W3 (by rw [← List.append_assoc]; exact ev2.trans ev3) st3
theorem n_cmp2 (G : Good C cf gl X) {o p : CmpO} {a b c : E} {x y z : Expr} {op op' : CmpOp} {pos : Pos} (ho : cmpOf o op = true) (hp : cmpOf p op' = true) (hm : lastMarks [op, op'] [y, z] = false) (ha : SE C cf gl X a x) (hb : SE C cf gl X b y) (hc : SE C cf gl X c z) :
    SE C cf gl X (.cmp2 o p a b c) (.Compare x [op, op'] [y, z] pos) := by
  intro σ H W ρ d ρ' k st h2
  simp only [ev, ofV, Option.bind_eq_some_iff, Prod.exists] at h2
  obtain ⟨d1, ρ1, e1, d2, ρ2, e2, t, ⟨d5, e5, e6⟩, e3⟩ := h2
  have q1 := cmpO_of ho
  have q2 := cmpO_of hp
  subst q1; subst q2
  refine of_pe (pe_chain (opR X _) (opR X _) (pe X x) (pe X y) (pe X z) hm) (chain_nest (K := X.K) G ha hb hc k st e1 e2 (Option.bind_eq_some_iff.mpr ⟨d5, e5, e6⟩) (fun ht H2 W2 ev2 st2 => ?_) fun ht => ?_)
  · subst ht
    simp only [Bool.false_eq_true, if_false, Option.some.injEq, Prod.mk.injEq] at e3
    obtain ⟨rfl, rfl⟩ := e3
    exact po_pure (S := [0]) (I := nf C (.cmp2 o p a b c)) (ev2.mono fun j hj => by
      rcases List.mem_append.mp hj with hj | hj
      · exact List.mem_append_left _ hj
      · exact List.mem_append_right _ (List.mem_append_left _ hj)) st2 (.bl (As := []) _) rfl (fun _ => rfl) rfl
  · subst ht
    simp only [if_true, Option.bind_eq_some_iff, Option.map_eq_some_iff, Prod.exists, Prod.mk.injEq] at e3
    obtain ⟨d3, ρ3, f1, d4, f2, rfl, rfl⟩ := e3
    obtain ⟨d6, hd⟩ := cmpD_bl f2
    subst hd
    exact ⟨d3, _, d6, f1, f2, fun H3 W3 ev3 st3 => po_pure (S := [0]) (I := nf C (.cmp2 o p a b c)) ev3 st3 (.bl (As := []) _) rfl (fun _ => rfl) rfl⟩
theorem st_cmp2 (G : Good C cf gl X) {o p : CmpO} {a b c : E} {x y z : Expr} {op op' : CmpOp} {pos : Pos} (ho : cmpOf o op = true) (hp : cmpOf p op' = true) (hm : lastMarks [op, op'] [y, z] = false) (ha : SE C cf gl X a x) (hb : SE C cf gl X b y) (hc : SE C cf gl X c z) :
    ST C cf gl X (.cmp2 o p a b c) (.Compare x [op, op'] [y, z] pos) := by
  intro σ H W ρ d ρ' k st h2
  simp only [ev, ofV, tOf, Option.bind_eq_some_iff, Option.map_eq_some_iff, Prod.exists, Prod.mk.injEq] at h2
  obtain ⟨d0, ρ0, ⟨d1, ρ1, e1, d2, ρ2, e2, t, ⟨d5, e5, e6⟩, e3⟩, c0, e7, rfl, rfl⟩ := h2
  have q1 := cmpO_of ho
  have q2 := cmpO_of hp
  subst q1; subst q2
  refine of_pt (pt_chain (opR X _) (opR X _) (pe X x) (pe X y) (pe X z) hm) (chain_nest (K := X.K) G ha hb hc k st e1 e2 (Option.bind_eq_some_iff.mpr ⟨d5, e5, e6⟩) (fun ht H2 W2 ev2 st2 => ?_) fun ht => ?_)
  · subst ht
    simp only [Bool.false_eq_true, if_false, Option.some.injEq, Prod.mk.injEq] at e3
    obtain ⟨rfl, rfl⟩ := e3
    cases e7
    exact ⟨_, rfl, rfl, W2, ev2.mono fun j hj => by
      rcases List.mem_append.mp hj with hj | hj
      · exact List.mem_append_left _ hj
      · exact List.mem_append_right _ (List.mem_append_left _ hj), st2⟩
  · subst ht
    simp only [if_true, Option.bind_eq_some_iff, Option.map_eq_some_iff, Prod.exists, Prod.mk.injEq] at e3
    obtain ⟨d3, ρ3, f1, d4, f2, rfl, rfl⟩ := e3
    obtain ⟨d6, hd⟩ := cmpD_bl f2
    subst hd
    cases e7
    exact ⟨d3, _, _, f1, f2, fun H3 W3 ev3 st3 => ⟨_, rfl, rfl, W3, ev3, st3⟩⟩

/-! displays -/
theorem Vl.rp_tup {K : PySem.W.Frag} {H : Hp} {p : Addr} {vs : List V} {ds : List D} {A : List Addr} (hp : H p = none) (r : Rps K H vs ds A) : Rp K (upd H p (.tup vs)) (.ref p) (.tup ds) A := .tup upd_same (r.ext (ext_new hp))
theorem lenOk {n : Nat} (h : n < 1000) : n ≤ sizeLine := Nat.le_trans (Nat.le_of_lt h) (by decide)
theorem n_tup {es : List E} {xs : List Expr} {k0 : Nat} {pos : Pos} (hs : xs.all notStar = true) (hn : es.length < 1000) (h : SEs C cf gl X es xs) : SE C cf gl X (.tup es) (.Tuple xs k0 pos) := by
  intro σ H W ρ d ρ' k st h2
  simp only [ev, ofV, Option.map_eq_some_iff, Prod.exists, Prod.mk.injEq] at h2
  obtain ⟨ds, ρ1, e1, rfl, rfl⟩ := h2
  refine of_pe (pe_tup (pa X xs)) (nest_args hs (nest_mono (args_ok h k st e1) fun vs H2 hp => ?_))
  obtain ⟨W2, As, ev2, st2, l⟩ := hp
  obtain ⟨t1, t2, ov⟩ := l.vt
  have len : (nfs C es).length = vs.length := l.len.1
  have el : (nfs C es).length = es.length := by
    have : ∀ es : List E, (nfs C es).length = es.length := fun es => by induction es with | nil => rfl | cons e r ih => exact congrArg (· + 1) ih
    exact this es
  refine ⟨lenOk (by omega), fun p hp => ?_⟩
  have ext := ext_new (o := .tup vs) hp
  refine ⟨W2, As.flatten, ev2.then ext, st2.ext ext, Vl.rp_tup hp l.rps, ?_, ov, ft, fun i e => nomatch e⟩
  by_cases ho : allO (nfs C es) = true
  · exact (t2 ho).conv (fun _ h => h) (fun _ => rfl) (fun j hj => nomatch hj) fun _ => infs_os es ho
  · exact t1.conv (fun _ h => h) (fun z => absurd z ho) (fun _ h => h) fun z => absurd z ho
theorem n_lst {es : List E} {xs : List Expr} {pos : Pos} (hs : xs.all notStar = true) (hn : es.length < 1000) (h : SEs C cf gl X es xs) : SE C cf gl X (.lst es) (.List xs pos) := by
  intro σ H W ρ d ρ' k st h2
  simp only [ev, ofV, Option.map_eq_some_iff, Prod.exists, Prod.mk.injEq] at h2
  obtain ⟨ds, ρ1, e1, rfl, rfl⟩ := h2
  refine of_pe (pe_lst (pa X xs)) (nest_args hs (nest_mono (args_ok h k st e1) fun vs H2 hp => ?_))
  obtain ⟨W2, As, ev2, st2, l⟩ := hp
  obtain ⟨t1, t2, ov⟩ := l.vt
  have len : (nfs C es).length = vs.length := l.len.1
  have el : (nfs C es).length = es.length := by
    have : ∀ es : List E, (nfs C es).length = es.length := fun es => by induction es with | nil => rfl | cons e r ih => exact congrArg (· + 1) ih
    exact this es
  refine ⟨lenOk (by omega), fun p hp => ?_⟩
  have ext := ext_new (o := .lst vs) hp
  have pn : ∀ j, p ∉ W2 j := fun j q => st2.alive q hp
  have pH : H p = none := ev2.dom p hp
  refine ⟨W2, p :: As.flatten, ev2.then ext, st2.ext ext, .lst upd_same (l.rps.ext ext), ?_, fun a ha => ?_, fun _ xs q B _ e => ?_, fun i e => nomatch e⟩
  · by_cases ho : allO (nfs C es) = true
    · have t3 := t2 ho
      refine ⟨fun a ha j oj hj => ?_, fun _ a ha j => ?_, fun _ => ?_, fun _ a ha => ?_, fun _ => infs_os es ho⟩
      · rcases List.mem_cons.mp ha with rfl | ha
        · exact pn j
        · exact t3.al rfl a ha j
      · rcases List.mem_cons.mp ha with rfl | ha
        · exact pn j
        · exact t3.al rfl a ha j
      · exact List.nodup_cons.mpr ⟨fun z => alives_ne l.rps p z hp, t3.nd rfl⟩
      · rcases List.mem_cons.mp ha with rfl | ha
        · exact .inr pH
        · exact t3.og rfl a ha
    · refine ⟨fun a ha j oj hj => ?_, fun z => absurd z ho, fun z => absurd z ho, fun z => absurd z ho, fun z => absurd z ho⟩
      rcases List.mem_cons.mp ha with rfl | ha
      · exact pn j
      · exact t1.ap a ha j oj hj
  · rcases List.mem_cons.mp ha with rfl | ha
    · exact .inr pH
    · exact ov a ha
  · injection e with e _; subst e; exact ⟨pH, pn⟩
theorem n_dct0 {pos : Pos} : SE C cf gl X .dct0 (.Dict [] [] pos) := by
  intro σ H W ρ d ρ' k st h2
  simp only [ev, ofV, Option.some.injEq, Prod.mk.injEq] at h2
  obtain ⟨rfl, rfl⟩ := h2
  refine of_pe pe_dnewK fun p hp => ?_
  have ext := ext_new (o := .dK []) hp
  have pn : ∀ j, p ∉ W j := fun j q => st.alive q hp
  have r : Rp X.K (upd H p (.dK [])) (.ref p) (.dct [] []) [p] := .dK (kvs := []) upd_same .nil
  refine ⟨W, [p], Evo.refl.then ext, st.ext ext, r, ⟨fun a ha j _ _ => by rw [List.mem_singleton.mp ha]; exact pn j, fun _ a ha j => by rw [List.mem_singleton.mp ha]; exact pn j, fun _ => List.nodup_cons.mpr ⟨fun h => (nomatch h), List.nodup_nil⟩, fun _ a ha => by rw [List.mem_singleton.mp ha]; exact .inr hp, fun _ => rfl⟩, fun a ha => by rw [List.mem_singleton.mp ha]; exact .inr hp, ft, fun i e => nomatch e⟩
end
end Vi

set_option Elab.async false
set_option linter.all false
set_option maxRecDepth 100000
set_option maxHeartbeats 4000000
/-! Subscripts, slices, built-in functions, methods. -/
namespace Vi
open PySem L2

section
variable {C : Cfg} {cf : Fns} {gl : Nat → Option D} {X : Cx}
theorem hu1_of (G : Good C cf gl X) : X.A.units + 1 < cLine := let ⟨_, hr⟩ := G.room; hu_of hr
theorem hu65_of (G : Good C cf gl X) : X.A.units + 65 < cLine := let ⟨_, hr⟩ := G.room; (by have := hr.un; omega)
theorem n_idx (G : Good C cf gl X) {a i : E} {x y : Expr} {pos : Pos} (hs : notSlice y = true) (ha : SE C cf gl X a x) (hi : SE C cf gl X i y) : SE C cf gl X (.idx a i) (.Subscript x y pos) := by
  intro σ H W ρ d ρ' k st h2
  simp only [ev, ofV, Option.bind_eq_some_iff, Option.map_eq_some_iff, Prod.exists, Prod.mk.injEq] at h2
  obtain ⟨d1, ρ1, e1, d2, ρ2, e2, d3, e3, rfl, rfl⟩ := h2
  have k' : ((nf C a).ok = true ∧ (nf C i).ok = true) ∧ dis (nf C a).s (nf C i).T = true := by simpa only [nf, inf, Bool.and_eq_true] using k
  have n := args_ok (.cons ha (se_of hi)) (allK2 k'.1.1 k'.1.2 k'.2) st (evs2 e1 e2)
  have go : ∀ {v1 v2 : V} {H2 : Hp}, PoL X.K C.ms [nf C a, nf C i] σ H W ρ2 [d1, d2] [v1, v2] H2 → ∃ W2 A B, Evo C.ms (nf C (.idx a i)).T H W H2 W2 ∧ Sts X.K H2 C.ms σ ρ2 W2 ∧ Rp X.K H2 v1 d1 A ∧ Rp X.K H2 v2 d2 B ∧ Vt C.ms (nf C (.idx a i)).T false (nf C a).s H W W2 A ∧ ∀ a ∈ A, (∃ k, a ∈ W k) ∨ H a = none := by
    intro v1 v2 H2 hp
    obtain ⟨W2, A, B, ev2, st2, r1, r2, t1, t2⟩ := all2v hp
    obtain ⟨_, _, _, _, _, _, _, _, ov⟩ := all2 hp
    obtain ⟨W2', As, ev2', st2', l⟩ := hp
    cases l with
    | cons r t o m l a1 a2 =>
      cases l with
      | cons rr tt oo mm ll a3 a4 =>
        rw [show allT [nf C a, nf C i] = (nf C a).T ++ (nf C i).T from allT2] at ev2' t
        exact ⟨W2', _, _, ev2', st2', r, rr, t.weak, o⟩
  by_cases hd : ∃ ks vs, d1 = .dct ks vs
  · obtain ⟨ks, vs, rfl⟩ := hd
    simp only [idxD] at e3
    split at e3
    · rename_i hk
      refine of_pe (pe_dget (hu1_of G) (pe X x) (pe X y) (noSl hs)) (nest2 n fun v1 v2 H2 hp => ?_)
      obtain ⟨W2, A, B, ev2, st2, r1, r2, t1, ov⟩ := go hp
      obtain ⟨p, rfl, g⟩ := dget_rel r1 r2 hk
      rcases g with ⟨o, g, hg⟩ | ⟨hn, _⟩
      · rcases hg with ⟨d', v, B', q1, rfl, q3, q4⟩ | ⟨q1, _⟩
        · rw [q1] at e3
          cases e3
          exact ⟨p, v, rfl, g, po_view (I := nf C (.idx a i)) ev2 st2 t1 ov (.old' q3 q4) rfl rfl⟩
        · rw [q1] at e3; cases e3
      · rw [hn] at e3; cases e3
    · cases e3
  · refine of_pe (pe_ix (ixR X) (pe X x) (pe X y) (plainIx hs)) (nest2 n fun v1 v2 H2 hp => ?_)
    obtain ⟨W2, A, B, ev2, st2, r1, r2, t1, ov⟩ := go hp
    exact idx_sem r1 r2 (fun ks vs e => hd ⟨ks, vs, e⟩) e3 fun v H' pr => po_view (I := nf C (.idx a i)) ev2 st2 t1 ov pr rfl rfl
/-- a slice's part -/
theorem part_ok {lo : Option E} {l : Option Expr} (h : match lo, l with | none, none => True | some e, some x => SE C cf gl X e x | _, _ => False) {σ : St} {H : Hp} {W : Own} {ρ ρ' : Env} {o : Option Int}
    (k : (info C.ms C.pm lo).ok = true) (st : Sts X.K H C.ms σ ρ W) (e : evo cf gl lo ρ = some (o, ρ')) : wpO X l σ H fun o' H' => o' = o ∧ ∃ W', Evo C.ms (info C.ms C.pm lo).T H W H' W' ∧ Sts X.K H' C.ms σ ρ' W' := by
  cases lo with
  | none =>
    cases l with
    | none =>
      simp only [evo, Option.some.injEq, Prod.mk.injEq] at e
      obtain ⟨rfl, rfl⟩ := e
      exact of_po po_none ⟨rfl, W, .refl, st⟩
    | some _ => exact h.elim
  | some a =>
    cases l with
    | none => exact h.elim
    | some x =>
      have h : SE C cf gl X a x := h
      simp only [evo, Option.bind_eq_some_iff, Option.map_eq_some_iff, Prod.exists, Prod.mk.injEq] at e
      obtain ⟨d, ρ1, e1, i, e2, rfl, rfl⟩ := e
      refine of_po (po_some (pe X x)) (wpE_mono (h σ H W ρ _ _ k st e1) fun v H' ⟨W', A, ev, st', r, _⟩ => ?_)
      cases r with
      | int j => cases e2; exact ⟨_, rfl, rfl, W', ev, st'⟩
      | _ => cases e2
theorem info_own' (e : Option E) (h : (info C.ms C.pm e).ok = true) : ∀ j ∈ (info C.ms C.pm e).T, owns C.ms j = true := info_own e h
theorem n_slc {a : E} {lo hi : Option E} {x : Expr} {l h : Option Expr} {p2 pos : Pos} (ha : SE C cf gl X a x) (hl : match lo, l with | none, none => True | some e, some x => SE C cf gl X e x | _, _ => False)
    (hh : match hi, h with | none, none => True | some e, some x => SE C cf gl X e x | _, _ => False) : SE C cf gl X (.slc a lo hi) (.Subscript x (.Slice l h none p2) pos) := by
  intro σ H W ρ d ρ' k st h2
  simp only [ev, ofV, Option.bind_eq_some_iff, Option.map_eq_some_iff, Prod.exists, Prod.mk.injEq] at h2
  obtain ⟨d1, ρ1, e1, o1, ρ2, e2, o2, ρ3, e3, d3, e4, rfl, rfl⟩ := h2
  have k' : (((nf C a).ok = true ∧ (info C.ms C.pm lo).ok = true) ∧ (info C.ms C.pm hi).ok = true) ∧ dis (nf C a).s ((info C.ms C.pm lo).T ++ (info C.ms C.pm hi).T) = true := by simpa only [nf, inf, Bool.and_eq_true] using k
  refine of_pe (pe_slice (slR X) (pe X x) (po X l) (po X h)) (wpE_mono (ha σ H W ρ _ _ k'.1.1.1 st e1) fun v H1 ⟨W1, A, ev1, st1, r, t, ov, _⟩ => ?_)
  refine wpO_mono (part_ok hl k'.1.1.2 st1 e2) fun o H2 ⟨eo, W2, ev2, st2⟩ => wpO_mono (part_ok hh k'.1.2 st2 e3) fun o' H3 ⟨eo', W3, ev3, st3⟩ => ?_
  subst eo; subst eo'
  have ev23 := ev2.trans ev3
  have hd := dis_of k'.2
  have own23 := mem2 (info_own' lo k'.1.1.2) (info_own' hi k'.1.2)
  have r3 := r.evo ev23 (t.out hd)
  have t3 := t.evo (alive_ne r) ev23 hd own23
  exact slc_sem r3 e4 fun v H' pr => po_view (I := nf C (.slc a lo hi)) (ev1.trans ev23) st3 ((t3.weak).conv (fun j hj => List.mem_append_left _ hj) ft (fun _ h => h) ft) ov pr rfl rfl
theorem n_rev {a : E} {x : Expr} {k0 : Nat} {p1 p2 p3 pos : Pos} (ha : SE C cf gl X a x) : SE C cf gl X (.rev a) (.Subscript x (.Slice none none (some (.UnaryOp .USub (.Constant (.int 1) k0 p1) p2)) p3) pos) := by
  intro σ H W ρ d ρ' k st h2
  simp only [ev, ofV, Option.bind_eq_some_iff, Option.map_eq_some_iff, Prod.exists, Prod.mk.injEq] at h2
  obtain ⟨d1, ρ1, e1, d3, e4, rfl, rfl⟩ := h2
  refine of_pe (pe_revA (pe X x)) (wpE_mono (ha σ H W ρ _ _ k st e1) fun v H1 ⟨W1, A, ev1, st1, r, t, ov, _⟩ => ?_)
  cases r with
  | lst ea rs =>
    cases e4
    refine ⟨_, _, rfl, .inl ⟨.of ea, fun p hp => ?_⟩⟩
    obtain ⟨B, rb, sub⟩ := rs.reverse
    exact po_view (I := nf C (.rev a)) ev1 st1 t.weak ov (.lst hp rb fun a ha => List.mem_cons_of_mem _ (sub a ha)) rfl rfl
  | tup ea rs =>
    cases e4
    refine ⟨_, _, rfl, .inr ⟨.of ea, fun p hp => ?_⟩⟩
    obtain ⟨B, rb, sub⟩ := rs.reverse
    exact po_view (I := nf C (.rev a)) ev1 st1 t.weak ov (.tup hp rb sub) rfl rfl
  | _ => cases e4
theorem glo_of {sc : Scope} {x y : Str} (h : gloIs sc x y = true) : x = y ∧ sc.names.lookup x = some .globalImplicit ∧ (x == ("__debug__" : Str)) = false := by
  simp only [gloIs, Bool.and_eq_true, decide_eq_true_eq] at h
  refine ⟨h.1.1, ?_, okName1 h.2⟩
  have := h.1.2
  unfold isGlo at this
  split at this
  · assumption
  · cases this
theorem bi_boot (b : Bi) : bootBuiltins (biName b) = some (biVal b) := by cases b <;> decide +kernel
theorem bi_nn (b : Bi) : biName b ≠ "__name__" := by cases b <;> decide
theorem bi_used (b : Bi) : biName b ∈ usedB := by cases b <;> decide
theorem all_cons {e : Expr} {es : List Expr} (h : (e :: es).all notStar = true) : notStar e = true ∧ es.all notStar = true := by simpa only [List.all_cons, Bool.and_eq_true] using h
theorem pe_fn (G : Good C cf gl X) (b : Bi) {f : Str} {p pos : Pos} {e : Expr} {es : List Expr} (h : gloIs X.env.scope f (biName b) = true) (hs : (e :: es).all notStar = true) : PE X (.Call (.Name f p) (e :: es) [] pos) (tCB (wCall X (biVal b)) (wpA X (e :: es))) := by
  obtain ⟨rfl, hg, hd⟩ := glo_of h
  have hs' := all_cons hs
  have hm := G.bl _ (bi_used b)
  have hv := bi_boot b
  have hn := bi_nn b
  cases b with
  | int => exact pe_callTy (callR X _) hg hm hv (pa X _) hn hd (star_cons hs'.1 es X.env) (star_all hs'.2 X.env pos)
  | tuple => exact pe_callTy (callR X _) hg hm hv (pa X _) hn hd (star_cons hs'.1 es X.env) (star_all hs'.2 X.env pos)
  | list => exact pe_callTy (callR X _) hg hm hv (pa X _) hn hd (star_cons hs'.1 es X.env) (star_all hs'.2 X.env pos)
  | _ => exact pe_callB (callR X _) hg hm hv (pa X _) hn hd (star_cons hs'.1 es X.env) (star_all hs'.2 X.env pos)
theorem scal_pure {b : Bi} {ds : List D} {d : D} (h : fnD b ds = some d) (hs : scalB b = true) : d.pure = true := by
  unfold fnD at h
  split at h <;> first
    | (cases hs; done)
    | (cases h; rfl)
    | (cases h; done)
    | skip
  · rename_i xs
    obtain ⟨ns, e1, e2⟩ := Option.bind_eq_some_iff.mp h
    cases ns with
    | nil => cases e2
    | cons => cases e2; rfl
  · rename_i xs
    obtain ⟨ns, e1, e2⟩ := Option.bind_eq_some_iff.mp h
    cases ns with
    | nil => cases e2
    | cons => cases e2; rfl
  · rename_i x
    cases e1 : items x with
    | none => simp [e1] at h
    | some xs =>
      cases e2 : tupInts xs with
      | none => simp [e1, e2] at h
      | some ns => simp [e1, e2] at h; subst h; rfl
  · rename_i xs
    cases e1 : boolsD xs with
    | none => simp [e1] at h
    | some bs => simp [e1] at h; subst h; rfl
  · rename_i xs
    cases e1 : boolsD xs with
    | none => simp [e1] at h
    | some bs => simp [e1] at h; subst h; rfl
theorem Pr.f_mono {K : PySem.W.Frag} {H : Hp} {As : List Addr} {d : D} {v : V} {H' : Hp} (f : Bool) (p : Pr K H As true d v H') : Pr K H As f d v H' := let ⟨e, A, r, q, g⟩ := p; ⟨e, A, r, q, fun _ => g rfl⟩
theorem n_fn (G : Good C cf gl X) {b : Bi} {es : List E} {f : Str} {p pos : Pos} {xs : List Expr} (h : gloIs X.env.scope f (biName b) = true) (hne : (!xs.isEmpty) = true) (hs : xs.all notStar = true) (he : SEs C cf gl X es xs) : SE C cf gl X (.fn b es) (.Call (.Name f p) xs [] pos) := by
  intro σ H W ρ d ρ' k st h2
  simp only [ev, ofV, Option.bind_eq_some_iff, Option.map_eq_some_iff, Prod.exists, Prod.mk.injEq] at h2
  obtain ⟨ds, ρ1, e1, d3, e3, rfl, rfl⟩ := h2
  cases xs with
  | nil => cases hne
  | cons e0 es0 =>
    refine of_pe (pe_fn G b h hs) (nest_args hs (nest_mono (args_ok he k st e1) fun vs H2 hp => ?_))
    obtain ⟨W2, As, ev2, st2, l⟩ := hp
    obtain ⟨t1, t2, ov⟩ := l.vt
    refine fn_sem G.calm b l.rps e3 fun v H' pr => ?_
    by_cases hsc : scalB b = true
    · exact po_pure (S := []) (I := nf C (.fn b es)) ev2 st2 (pr.f_mono _) (scal_pure e3 hsc) (inf_os (.fn b es)) rfl
    · refine po_view (I := nf C (.fn b es)) ev2 st2 ?_ ov (pr.f_mono _) (Bool.eq_false_iff.mpr hsc) rfl
      have : (nf C (.fn b es)).s = allS (nfs C es) := by
        show (if scalB b = true then [] else _) = _
        rw [if_neg hsc]
      rw [this]
      exact t1
theorem ty_boot (t : Ty) : bootBuiltins (tyName t) = some (.type (tyStr t)) := by cases t <;> decide +kernel
theorem n_isi (G : Good C cf gl X) {a : E} {t : Ty} {x : Expr} {f y : Str} {p p2 pos : Pos} (h : gloIs X.env.scope f "isinstance" = true) (hy : gloIs X.env.scope y (tyName t) = true) (hs : notStar x = true) (ha : SE C cf gl X a x) : SE C cf gl X (.isi a t) (.Call (.Name f p) [x, .Name y p2] [] pos) := by
  intro σ H W ρ d ρ' k st h2
  simp only [ev, ofV, Option.bind_eq_some_iff, Option.map_eq_some_iff, Prod.exists, Prod.mk.injEq] at h2
  obtain ⟨d1, ρ1, e1, b, e3, rfl, rfl⟩ := h2
  obtain ⟨rfl, hg, hd⟩ := glo_of h
  obtain ⟨rfl, hg2, hd2⟩ := glo_of hy
  have ty : PE X (.Name (tyName t) p2) (tC (.ty (tyStr t))) := pe_bltn hg2 (G.bl _ (by cases t <;> decide)) (ty_boot t) rfl (by cases t <;> decide) hd2
  refine of_pe (pe_callB (callR X (.builtin "isinstance")) hg (G.bl _ (by decide)) (by decide +kernel) (pa_cons (pe X x) (pa_cons ty pa_nil) (star_cons hs _ X.env)) (by decide) hd (star_cons hs _ X.env)) (wpE_mono (ha σ H W ρ _ _ k st e1) fun v H1 ⟨W1, A, ev1, st1, r, t', ov, _⟩ => ?_)
  exact isi_sem t b r e3 (po_pure (S := [0]) (I := nf C (.isi a t)) ev1 st1 (.bl (As := []) _) rfl (fun _ => rfl) rfl)
theorem few_ok {es : List Expr} (hs : es.all notStar = true) (hn : es.length < 30) (cpos : Pos) : ((backTo cpos (starEach es X.env)).all (fun x => !x.1) && (backToKw cpos (keywordEach [] X.env)).all (fun x => x.1.isSome)
      && decide (es.length + ([] : List Keyword).length + (if ([] : List Keyword).isEmpty then 0 else 1) < 30)) = true := by
  have h1 : (backTo cpos (starEach es X.env)).all (fun x => !x.1) = true := by
    have := star_all hs X.env cpos
    rw [List.any_eq_false] at this
    exact List.all_eq_true.mpr fun x hx => by simpa using this x hx
  have h2 : (backToKw cpos (keywordEach [] X.env)).all (fun x => x.1.isSome) = true := rfl
  rw [h1, h2]
  have h3 : es.length + ([] : List Keyword).length + (if ([] : List Keyword).isEmpty then 0 else 1) < 30 := by simpa using hn
  rw [decide_eq_true h3]; rfl
theorem n_index (G : Good C cf gl X) {o x : E} {ox xx : Expr} {apos cpos : Pos} (hc : notCall ox = true) (hl : (apos.endLine == cpos.line) = true) (hs : notStar xx = true) (ho : SE C cf gl X o ox) (hx : SE C cf gl X x xx) :
    SE C cf gl X (.mth .index o [x]) (.Call (.Attribute ox "index" apos) [xx] [] cpos) := by
  intro σ H W ρ d ρ' k st h2
  simp only [ev, ofV, evs, Option.bind_eq_some_iff, Option.map_eq_some_iff, Prod.exists, Prod.mk.injEq] at h2
  obtain ⟨d1, ρ1, e1, ds, ρ2, ⟨d2, ρ3, e2, ds0, ρ4, ⟨rfl, rfl⟩, rfl, rfl⟩, d3, e3, rfl, rfl⟩ := h2
  have k' : ((nf C o).ok = true ∧ allK [nf C x] = true) ∧ dis (nf C o).s (allT [nf C x]) = true := by simpa only [nf, nfs, infs, inf, Bool.and_eq_true] using k
  have kx : (nf C x).ok = true := by
    have := k'.1.2
    simp [allK, seqOk] at this
    exact this
  have aT : allT [nf C x] = (nf C x).T := allT1
  rw [aT] at k'
  cases d1 <;> try (cases e3; done)
  rename_i xs
  simp only [mthD] at e3
  split at e3
  · rename_i hsh
    obtain ⟨j, e4, rfl⟩ := Option.map_eq_some_iff.mp e3
    refine of_pe (pe_bm PySem.F.plainAttrs_list PySem.F.slot_list_index PySem.F.type_list_index (mtR X "list.index") (pe X ox) (pa X [xx]) (base_eq hc _ X.env) (few_ok (by simp [hs]) (by simp) cpos) hl (star_cons hs [] X.env)) (wpE_mono (ho σ H W ρ _ _ k'.1.1 st e1) fun v H1 ⟨W1, A, ev1, st1, r, t, ov, _⟩ => ?_)
    have ty : tyV X.K "list" v H1 := by
      cases r with
      | lst ea _ => exact .inl ⟨rfl, _, .of ea⟩
    refine ⟨ty, nest_args (by simp [hs]) (nest_mono (args_ok (se_of hx) (allK1 kx) st1 (evs1 e2)) fun vs H2 hp => ?_)⟩
    obtain ⟨W2, As, ev2, st2, l⟩ := hp
    obtain ⟨w, rfl, r2⟩ := Rps.one_inv l.rps
    have ev2 : Evo C.ms (nf C x).T H1 W1 H2 W2 := by
      have e : allT (infs C.ms C.pm [x]) = (nf C x).T := allT1
      rw [e] at ev2; exact ev2
    refine index_sem (hu65_of G) (r.evo ev2 (t.out (dis_of k'.2))) r2 hsh e4 (po_pure (S := [0]) (I := nf C (.mth .index o [x])) ?_ st2 (.int (As := []) _) rfl (fun _ => rfl) rfl)
    have : (nf C (.mth .index o [x])).T = (nf C o).T ++ (nf C x).T := by
      show (nf C o).T ++ allT [nf C x] = _
      rw [aT]
    rw [this]
    exact ev1.trans ev2
  · cases e3
end
end Vi

set_option Elab.async false
set_option linter.all false
set_option maxRecDepth 100000
set_option maxHeartbeats 4000000
/-! Methods that change a list. -/
namespace Vi
open PySem L2

section
variable {K : PySem.W.Frag} {ms : List Bool} {Ta : List Nat} {σ : St} {H H1 H2 : Hp} {W W1 : Own} {ρ1 : Env} {A : List Addr} {d : D} {v : V} {i : Nat}
/-- an object outside of them is written -/
theorem Rps.upd {a : Addr} {u o : HO} {vs : List V} {ds : List D} (r : Rps K H vs ds A) (hu : H a = some u) (hm : mutO u = true) (hn : a ∉ A) : Rps K (L2.upd H a o) vs ds A :=
  r.keep (fun b x e m => by
    rw [upd_ne]; exact e
    intro z; subst z; rw [hu] at e; cases e; rw [hm] at m; cases m) fun b hb x e => by
    rw [upd_ne]; exact e
    intro z; subst z; exact hn hb
/-- an owning slot's object is written -/
theorem po_mut {a : Addr} {u o : HO} {B B' : List Addr} {d' : D} (ev1 : Evo ms Ta H W H1 W1) (hTa : ∀ j ∈ Ta, owns ms j = true) (st1 : Sts K H1 ms σ ρ1 W1) (oi : owns ms i = true) (hi : i ∉ Ta) (hv : σ[i]? = some (some (.ref a))) (hl : i < ρ1.length)
    (hW : W1 i = a :: B) (hu : H1 a = some u) (hm : mutO u = true) (hmo : mutO o = true) (r : Rp K (L2.upd H1 a o) (.ref a) d' (a :: B')) (nd : (a :: B').Nodup)
    (hB : ∀ b ∈ B', b ∈ B ∨ (∀ j, b ∉ W1 j) ∧ ((∃ k ∈ Ta, owns ms k = true ∧ b ∈ W k) ∨ H b = none)) :
    Evo ms (i :: Ta) H W (L2.upd H1 a o) (W1.put i (a :: B')) ∧ Sts K (L2.upd H1 a o) ms σ (ρ1.set i (some d')) (W1.put i (a :: B')) := by
  have aW : a ∈ W1 i := by rw [hW]; exact List.mem_cons_self ..
  have keepI : ∀ b x, H1 b = some x → mutO x = false → L2.upd H1 a o b = some x := fun b x e m => by
    rw [upd_ne]; exact e
    intro z; subst z; rw [hu] at e; cases e; rw [hm] at m; cases m
  have sub : ∀ b ∈ a :: B', b ∈ W1 i ∨ (∀ j, b ∉ W1 j) ∧ ((∃ k ∈ Ta, owns ms k = true ∧ b ∈ W k) ∨ H b = none) := fun b hb => by
    rcases List.mem_cons.mp hb with rfl | hb
    · exact .inl aW
    · rcases hB b hb with q | q
      · left; rw [hW]; exact List.mem_cons_of_mem _ q
      · exact .inr q
  have Wi : W1 i = W i := ev1.un i hi
  refine ⟨⟨fun b x e m => keepI b x (ev1.imm b x e m) m, fun b x e k => ?_, fun j hj => ?_, fun j hj oj b hb => ?_, fun b e => ev1.dom b ?_⟩, ⟨fun j e' e => ?_, fun j e => ?_, ?_, st1.lm, fun j oj => ?_, fun j k b oj ne h1 h2 => ?_, st1.tb.imm keepI⟩⟩
  · rw [upd_ne]
    · exact ev1.kp b x e fun j hj => k j (List.mem_cons_of_mem _ hj)
    · intro z; subst z
      exact k i (List.mem_cons_self ..) oi (by rw [← Wi]; exact aW)
  · have ne : j ≠ i := fun z => hj (by subst z; exact List.mem_cons_self ..)
    rw [Own.put_ne ne, ev1.un j fun z => hj (List.mem_cons_of_mem _ z)]
  · by_cases ne : j = i
    · subst ne
      rw [Own.put_same] at hb
      rcases sub b hb with q | ⟨_, ⟨k, hk, q⟩ | q⟩
      · exact .inl ⟨j, List.mem_cons_self .., oi, by rw [← Wi]; exact q⟩
      · exact .inl ⟨k, List.mem_cons_of_mem _ hk, q⟩
      · exact .inr q
    · rw [Own.put_ne ne] at hb
      rcases List.mem_cons.mp hj with z | hj
      · exact absurd z ne
      · rcases ev1.nw j hj oj b hb with ⟨k, hk, q⟩ | q
        · exact .inl ⟨k, List.mem_cons_of_mem _ hk, q⟩
        · exact .inr q
  · by_cases z : b = a
    · subst z; rw [upd_same] at e; cases e
    · rwa [upd_ne z] at e
  · rw [getS_set] at e
    by_cases z : i = j ∧ i < ρ1.length
    · rw [if_pos z] at e; cases e
      obtain ⟨rfl, _⟩ := z
      exact ⟨_, hv, by rw [Own.put_same]; exact r⟩
    · rw [if_neg z] at e
      have ne : j ≠ i := fun y => by subst y; exact z ⟨rfl, hl⟩
      obtain ⟨w, e1, r1⟩ := st1.sl j e' e
      refine ⟨w, e1, ?_⟩
      rw [Own.put_ne ne]
      exact r1.keep keepI fun b hb x e => by
        rw [upd_ne]; exact e
        intro z; subst z; exact st1.dj i j b oi ne aW hb
  · by_cases z : j = i
    · subst z
      rw [getS_set, if_pos ⟨rfl, hl⟩] at e; cases e
    · rw [Own.put_ne z]
      refine st1.em j ?_
      rw [getS_set, if_neg (fun y => z y.1.symm)] at e
      exact e
  · rw [List.length_set]; exact st1.ln
  · by_cases z : j = i
    · subst z; rw [Own.put_same]; exact nd
    · rw [Own.put_ne z]; exact st1.nd j oj
  · by_cases z : j = i
    · subst z
      rw [Own.put_same] at h1
      rw [Own.put_ne ne] at h2
      rcases sub b h1 with q | ⟨q, _⟩
      · exact st1.dj j k b oi ne q h2
      · exact q k h2
    · rw [Own.put_ne z] at h1
      by_cases y : k = i
      · subst y
        rw [Own.put_same] at h2
        rcases sub b h2 with q | ⟨q, _⟩
        · exact st1.dj k j b oi (fun w => z w) q h1
        · exact q j h1
      · rw [Own.put_ne y] at h2; exact st1.dj j k b oj ne h1 h2
theorem Rps.eraseS : ∀ {vs : List V} {ds : List D} {A : List Addr} (n : Nat), Rps K H vs ds A → ∃ B, Rps K H (vs.eraseIdx n) (ds.eraseIdx n) B ∧ B.Sublist A
  | _, _, _, _, .nil => ⟨[], by simpa using .nil, List.Sublist.refl _⟩
  | _, _, _, 0, .cons (A := A0) (B := B) h r => ⟨B, r, List.sublist_append_right A0 B⟩
  | _, _, _, n + 1, .cons (A := A0) h r => by
    obtain ⟨B, h1, s⟩ := Rps.eraseS n r
    exact ⟨A0 ++ B, .cons h h1, s.append_left A0⟩
theorem erase_last {α : Type} : ∀ (xs : List α), xs.eraseIdx (xs.length - 1) = xs.dropLast
  | [] => rfl
  | [x] => rfl
  | x :: y :: r => by
    have := erase_last (y :: r)
    simp only [List.length_cons, Nat.add_sub_cancel] at this ⊢
    rw [List.eraseIdx_cons_succ, this]; rfl
end

section
variable {C : Cfg} {cf : Fns} {gl : Nat → Option D} {X : Cx}
theorem isL_some {d : D} {x : Unit} (h : isL d = some x) : ∃ xs, d = .lst xs := by
  cases d <;> first | exact ⟨_, rfl⟩ | cases h
theorem ty_list {H : Hp} {a : Addr} {xs : List V} (h : H a = some (.lst xs)) : tyV X.K "list" (.ref a) H := .inl ⟨rfl, xs, .of h⟩
theorem not_mem_of {l : List Nat} {i : Nat} (h : (!l.contains i) = true) : i ∉ l := fun z => by simp [z] at h
/-- the parts of a change -/
theorem mut_parts {m : Mu} {i : Nat} {es : List E} {σ : St} {H : Hp} {W : Own} {ρ ρ' : Env} {d : D} (k : (nf C (.mut m i es)).ok = true) (st : Sts X.K H C.ms σ ρ W) (h2 : (ev cf gl (.mut m i es)).v ρ = some (d, ρ')) :
    ∃ a ds ρ2 dl dl' xs0, σ[i]? = some (some (.ref a)) ∧ H a = some (.lst xs0) ∧ evs cf gl es ρ = some (ds, ρ2) ∧ getS ρ2 i = some dl ∧ mutD m dl ds = some (d, dl') ∧ ρ' = ρ2.set i (some dl') ∧ owns C.ms i = true ∧ allK (nfs C es) = true ∧ allO (nfs C es) = true ∧ i ∉ allT (nfs C es) := by
  simp only [ev, ofV, Option.bind_eq_some_iff, Option.map_eq_some_iff, Prod.exists, Prod.mk.injEq] at h2
  obtain ⟨_, ⟨d0, e0, e1⟩, ds, ρ2, e2, dl, e3, d', dl', e4, rfl, rfl⟩ := h2
  obtain ⟨xs, rfl⟩ := isL_some e1
  obtain ⟨v, hv, r⟩ := st.sl i _ e0
  have k' : ((owns C.ms i = true ∧ allK (nfs C es) = true) ∧ allO (nfs C es) = true) ∧ (!(allT (nfs C es)).contains i) = true := by simpa only [nf, nfs, inf, Bool.and_eq_true] using k
  generalize hA : W i = A at r
  cases r with
  | lst ea t => exact ⟨_, ds, ρ2, dl, dl', _, hv, ea, e2, e3, e4, rfl, k'.1.1.1, k'.1.1.2, k'.1.2, not_mem_of k'.2⟩
theorem inf_mutT {m : Mu} {i : Nat} {es : List E} : (nf C (.mut m i es)).T = i :: allT (nfs C es) := rfl
/-- behind a change: the value is pure -/
theorem mut_po {m : Mu} {i : Nat} {es : List E} {σ : St} {H H2 H3 : Hp} {W W2 W3 : Own} {ρ' : Env} {d : D} {v : V} (ev : Evo C.ms (i :: allT (nfs C es)) H W H3 W3) (st : Sts X.K H3 C.ms σ ρ' W3) (r : Rp X.K H3 v d []) : Po X.K C.ms (nf C (.mut m i es)) σ H W ρ' d v H3 :=
  ⟨W3, [], ev, st, r, .nil, fun _ h => (nomatch h), fun z => (nomatch z), fun _ z => (nomatch z)⟩
theorem inv_lst {K : PySem.W.Frag} {H : Hp} {v : V} {xs : List D} {A : List Addr} (r : Rp K H v (.lst xs) A) : ∃ a vs B, v = .ref a ∧ A = a :: B ∧ H a = some (.lst vs) ∧ Rps K H vs xs B := by
  cases r with
  | lst e t => exact ⟨_, _, _, rfl, rfl, e, t⟩
theorem n_append (G : Good C cf gl X) {i : Nat} {x : E} {n : Str} {xx : Expr} {p apos cpos : Pos} (hsl : slotIs C.N X.env.scope i n = true) (hl : (apos.endLine == cpos.line) = true) (hs : notStar xx = true) (hx : SE C cf gl X x xx) :
    SE C cf gl X (.mut .append i [x]) (.Call (.Attribute (.Name n p) "append" apos) [xx] [] cpos) := by
  intro σ H W ρ d ρ' k st h2
  obtain ⟨a, ds, ρ2, dl, dl', xs0, hv, ha, e2, e3, e4, rfl, oi, kk, ko, hi⟩ := mut_parts k st h2
  refine of_pe (pe_bm PySem.F.plainAttrs_list PySem.F.slot_list_append PySem.F.type_list_append (mtR X "list.append") (slot_pe G hsl) (pa X [xx]) (base_eq rfl _ X.env) (few_ok (by simp [hs]) (by simp) cpos) hl (star_cons hs [] X.env)) ⟨_, hv, ty_list ha, ?_⟩
  refine nest_args (by simp [hs]) (nest_mono (args_ok (se_of hx) kk st e2) fun vs H2 hp => ?_)
  obtain ⟨W2, As, ev2, st2, l⟩ := hp
  obtain ⟨t1, t2, ov⟩ := l.vt
  have t3 := t2 ko
  cases dl <;> try (cases e4; done)
  rename_i xs
  obtain ⟨v', hv', r0⟩ := st2.sl i _ e3
  rw [hv] at hv'
  cases hv'
  obtain ⟨a', vs0, B, eq1, hW, ea, rs⟩ := inv_lst r0
  cases eq1
  match ds, e4, l with
  | [d1], e4, l =>
    simp only [mutD] at e4
    split at e4
    · rename_i hlen
      cases e4
      obtain ⟨w, rfl, r2⟩ := Rps.one_inv l.rps
      have aB : ∀ b ∈ As.flatten, b ≠ a := fun b hb z => by subst z; exact t3.al rfl b hb i (by rw [hW]; exact List.mem_cons_self ..)
      have nd0 := st2.nd i oi
      rw [hW] at nd0
      have nd1 := List.nodup_cons.mp nd0
      have ndB : (a :: (B ++ As.flatten)).Nodup := by
        refine List.nodup_cons.mpr ⟨fun z => ?_, List.nodup_append.mpr ⟨nd1.2, t3.nd rfl, fun b hb c hc e => ?_⟩⟩
        · rcases List.mem_append.mp z with z | z
          · exact nd1.1 z
          · exact aB a z rfl
        · subst e; exact t3.al rfl b hc i (by rw [hW]; exact List.mem_cons_of_mem _ hb)
      have rr : Rps X.K H2 (vs0 ++ [w]) (xs ++ [d1]) (B ++ As.flatten) := rs.append (.one r2)
      have hna : a ∉ B ++ As.flatten := (List.nodup_cons.mp ndB).1
      obtain ⟨evF, stF⟩ := po_mut (K := X.K) (o := .lst (vs0 ++ [w])) ev2 (infs_own [x] (Bool.and_eq_true_iff.mp kk).1) st2 oi hi hv (getS_lt e3) hW ea rfl rfl (.lst upd_same (rr.upd ea rfl hna)) ndB fun b hb => (List.mem_append.mp hb).imp id fun z => ⟨t3.al rfl b z, t3.og rfl b z⟩
      exact of_mt mt_append ⟨a, vs0, w, rfl, rfl, ea, by rw [rs.length, sz_eq]; exact hlen, mut_po (H2 := H2) (W2 := W2) evF stF .non⟩
    · cases e4
  | [], e4, _ => cases e4
  | _ :: _ :: _, e4, _ => simp [mutD] at e4
theorem n_extend (G : Good C cf gl X) {i : Nat} {x : E} {n : Str} {xx : Expr} {p apos cpos : Pos} (hsl : slotIs C.N X.env.scope i n = true) (hl : (apos.endLine == cpos.line) = true) (hs : notStar xx = true) (hx : SE C cf gl X x xx) :
    SE C cf gl X (.mut .extend i [x]) (.Call (.Attribute (.Name n p) "extend" apos) [xx] [] cpos) := by
  intro σ H W ρ d ρ' k st h2
  obtain ⟨a, ds, ρ2, dl, dl', xs0, hv, ha, e2, e3, e4, rfl, oi, kk, ko, hi⟩ := mut_parts k st h2
  refine of_pe (pe_bm PySem.F.plainAttrs_list PySem.F.slot_list_extend PySem.F.type_list_extend (mtR X "list.extend") (slot_pe G hsl) (pa X [xx]) (base_eq rfl _ X.env) (few_ok (by simp [hs]) (by simp) cpos) hl (star_cons hs [] X.env)) ⟨_, hv, ty_list ha, ?_⟩
  refine nest_args (by simp [hs]) (nest_mono (args_ok (se_of hx) kk st e2) fun vs H2 hp => ?_)
  obtain ⟨W2, As, ev2, st2, l⟩ := hp
  obtain ⟨t1, t2, ov⟩ := l.vt
  have t3 := t2 ko
  cases dl <;> try (cases e4; done)
  rename_i xs
  obtain ⟨v', hv', r0⟩ := st2.sl i _ e3
  rw [hv] at hv'
  cases hv'
  obtain ⟨a', vs0, B, eq1, hW, ea, rs⟩ := inv_lst r0
  cases eq1
  match ds, e4, l with
  | [.lst ys], e4, l =>
    simp only [mutD] at e4
    split at e4
    · rename_i hlen
      cases e4
      obtain ⟨w, rfl, r2⟩ := Rps.one_inv l.rps
      obtain ⟨b0, ws, B2, rfl, hA, eb, rs2⟩ := inv_lst r2
      have aB : ∀ b ∈ As.flatten, b ≠ a := fun b hb z => by subst z; exact t3.al rfl b hb i (by rw [hW]; exact List.mem_cons_self ..)
      have nd0 := st2.nd i oi
      rw [hW] at nd0
      have nd1 := List.nodup_cons.mp nd0
      have inA : ∀ b ∈ B2, b ∈ As.flatten := fun b hb => by rw [hA]; exact List.mem_cons_of_mem _ hb
      have ndA := t3.nd rfl
      rw [hA] at ndA
      have ndB : (a :: (B ++ B2)).Nodup := by
        refine List.nodup_cons.mpr ⟨fun z => ?_, List.nodup_append.mpr ⟨nd1.2, (List.nodup_cons.mp ndA).2, fun b hb c hc e => ?_⟩⟩
        · rcases List.mem_append.mp z with z | z
          · exact nd1.1 z
          · exact aB a (inA a z) rfl
        · subst e; exact t3.al rfl b (inA b hc) i (by rw [hW]; exact List.mem_cons_of_mem _ hb)
      have rr : Rps X.K H2 (vs0 ++ ws) (xs ++ ys) (B ++ B2) := rs.append rs2
      have hna : a ∉ B ++ B2 := (List.nodup_cons.mp ndB).1
      obtain ⟨evF, stF⟩ := po_mut (K := X.K) (o := .lst (vs0 ++ ws)) ev2 (infs_own [x] (Bool.and_eq_true_iff.mp kk).1) st2 oi hi hv (getS_lt e3) hW ea rfl rfl (.lst upd_same (rr.upd ea rfl hna)) ndB fun b hb => (List.mem_append.mp hb).imp id fun z => ⟨t3.al rfl b (inA b z), t3.og rfl b (inA b z)⟩
      have hlen' : xs.length + ys.length ≤ sz := by simpa [catLen] using hlen
      exact of_mt mt_extend ⟨a, b0, vs0, ws, rfl, rfl, ea, eb, by rw [rs.length, rs2.length, sz_eq]; exact hlen', mut_po (H2 := H2) (W2 := W2) evF stF .non⟩
    · cases e4
  | [], e4, _ => cases e4
  | _ :: _ :: _, e4, _ => simp [mutD] at e4
  | [.non], e4, _ => cases e4
  | [.bl _], e4, _ => cases e4
  | [.int _], e4, _ => cases e4
  | [.str _], e4, _ => cases e4
  | [.tup _], e4, _ => cases e4
  | [.dct _ _], e4, _ => cases e4
  | [.scr _], e4, _ => cases e4
theorem n_pop (G : Good C cf gl X) {i : Nat} {n : Str} {p apos cpos : Pos} (hsl : slotIs C.N X.env.scope i n = true) (hl : (apos.endLine == cpos.line) = true) :
    SE C cf gl X (.mut .pop i []) (.Call (.Attribute (.Name n p) "pop" apos) [] [] cpos) := by
  intro σ H W ρ d ρ' k st h2
  obtain ⟨a, ds, ρ2, dl, dl', xs0, hv, ha, e2, e3, e4, rfl, oi, kk, ko, hi⟩ := mut_parts k st h2
  refine of_pe (pe_bm0 PySem.F.plainAttrs_list PySem.F.slot_list_pop PySem.F.type_list_pop (mtR X "list.pop") (slot_pe G hsl) (base_eq rfl _ X.env) hl) ⟨_, hv, ty_list ha, ?_⟩
  simp only [evs, Option.some.injEq, Prod.mk.injEq] at e2
  obtain ⟨rfl, rfl⟩ := e2
  cases dl <;> try (cases e4; done)
  rename_i xs
  obtain ⟨v', hv', r0⟩ := st.sl i _ e3
  rw [hv] at hv'
  cases hv'
  obtain ⟨a', vs0, B, eq1, hW, ea, rs⟩ := inv_lst r0
  cases eq1
  simp only [mutD, Option.bind_eq_some_iff] at e4
  obtain ⟨x, e5, e6⟩ := e4
  split at e6
  · rename_i hp
    cases e6
    obtain ⟨w, Bw, hw, rw', _⟩ := rs.get e5
    obtain ⟨B', r', sb⟩ := rs.eraseS (xs.length - 1)
    have nd0 := st.nd i oi
    rw [hW] at nd0
    have nd1 := List.nodup_cons.mp nd0
    have e0 := rw'.pure hp
    subst e0
    have hna : a ∉ B' := fun z => nd1.1 (sb.subset z)
    have er : vs0.eraseIdx (xs.length - 1) = vs0.dropLast := by rw [← rs.length]; exact erase_last vs0
    rw [er] at r'
    obtain ⟨evF, stF⟩ := po_mut (K := X.K) (H := H) (W := W) (Ta := []) (o := .lst vs0.dropLast) Evo.refl mem0 st oi (fun z => nomatch z) hv (getS_lt e3) hW ea rfl rfl (.lst upd_same (r'.upd ea rfl hna)) (List.nodup_cons.mpr ⟨hna, nd1.2.sublist sb⟩) fun b hb => .inl (sb.subset hb)
    refine of_mt mt_pop ⟨a, vs0, w, rfl, rfl, ea, by rw [rs.length]; exact hw, mut_po (H2 := H) (W2 := W) evF stF (rw'.keep (fun b o e m => ?_) fun _ z => nomatch z)⟩
    rw [upd_ne]; exact e
    intro z; subst z; rw [ea] at e; cases e; cases m
  · cases e6
theorem n_popAt (G : Good C cf gl X) {i : Nat} {x0 : E} {n : Str} {xx : Expr} {p apos cpos : Pos} (hsl : slotIs C.N X.env.scope i n = true) (hl : (apos.endLine == cpos.line) = true) (hs : notStar xx = true) (hx : SE C cf gl X x0 xx) :
    SE C cf gl X (.mut .popAt i [x0]) (.Call (.Attribute (.Name n p) "pop" apos) [xx] [] cpos) := by
  intro σ H W ρ d ρ' k st h2
  obtain ⟨a, ds, ρ2, dl, dl', xs0, hv, ha, e2, e3, e4, rfl, oi, kk, ko, hi⟩ := mut_parts k st h2
  refine of_pe (pe_bm PySem.F.plainAttrs_list PySem.F.slot_list_pop PySem.F.type_list_pop (mtR X "list.pop") (slot_pe G hsl) (pa X [xx]) (base_eq rfl _ X.env) (few_ok (by simp [hs]) (by simp) cpos) hl (star_cons hs [] X.env)) ⟨_, hv, ty_list ha, ?_⟩
  refine nest_args (by simp [hs]) (nest_mono (args_ok (se_of hx) kk st e2) fun vs H2 hp => ?_)
  obtain ⟨W2, As, ev2, st2, l⟩ := hp
  cases dl <;> try (cases e4; done)
  rename_i xs
  obtain ⟨v', hv', r0⟩ := st2.sl i _ e3
  rw [hv] at hv'
  cases hv'
  obtain ⟨a', vs0, B, eq1, hW, ea, rs⟩ := inv_lst r0
  cases eq1
  match ds, e4, l with
  | [.int j], e4, l =>
    simp only [mutD] at e4
    split at e4
    · rename_i hlen
      simp only [Option.bind_eq_some_iff] at e4
      obtain ⟨q, e7, x, e5, e6⟩ := e4
      split at e6
      · rename_i hp
        cases e6
        obtain ⟨w1, rfl, r2⟩ := Rps.one_inv l.rps
        obtain rfl : w1 = .int j := by
          generalize As.flatten = A0 at r2
          cases r2; rfl
        obtain ⟨w, Bw, hw, rw', _⟩ := rs.get e5
        obtain ⟨B', r', sb⟩ := rs.eraseS q
        have nd0 := st2.nd i oi
        rw [hW] at nd0
        have nd1 := List.nodup_cons.mp nd0
        have e0 := rw'.pure hp
        subst e0
        have hna : a ∉ B' := fun z => nd1.1 (sb.subset z)
        have hix : ixN vs0.length j = some q := by rw [rs.length]; exact e7
        obtain ⟨g1, g2, g3, g4⟩ := ixN_seq hix
        have hz : vs0.length ≤ 16777216 := by rw [rs.length]; exact hlen
        obtain ⟨evF, stF⟩ := po_mut (K := X.K) (o := .lst (vs0.eraseIdx q)) ev2 (infs_own [x0] (Bool.and_eq_true_iff.mp kk).1) st2 oi hi hv (getS_lt e3) hW ea rfl rfl (.lst upd_same (r'.upd ea rfl hna)) (List.nodup_cons.mpr ⟨hna, nd1.2.sublist sb⟩) fun b hb => .inl (sb.subset hb)
        refine of_mt mt_popAt ⟨a, vs0, j, q, w, rfl, rfl, ea, by omega, by omega, g1, hw, mut_po (H2 := H2) (W2 := W2) evF stF (rw'.keep (fun b o e m => ?_) fun _ z => nomatch z)⟩
        rw [upd_ne]; exact e
        intro z; subst z; rw [ea] at e; cases e; cases m
      · cases e6
    · cases e4
  | [], e4, _ => cases e4
  | _ :: _ :: _, e4, _ => simp [mutD] at e4
  | [.non], e4, _ => cases e4
  | [.bl _], e4, _ => cases e4
  | [.lst _], e4, _ => cases e4
  | [.str _], e4, _ => cases e4
  | [.tup _], e4, _ => cases e4
  | [.dct _ _], e4, _ => cases e4
  | [.scr _], e4, _ => cases e4
end
end Vi

set_option Elab.async false
set_option linter.all false
set_option maxRecDepth 100000
set_option maxHeartbeats 4000000
/-! The place of a number in a tuple that is written out. -/
namespace Vi
open PySem L2 PySem.Spec PyProof.Rows

theorem ixI_spec {x : Int} : ∀ {xs : List Int} {n j : Nat}, ixI x n xs = some j → ∃ k, j = n + k ∧ xs[k]? = some x ∧ ∀ m, m < k → xs[m]? ≠ some x
  | [], _, _, h => by cases h
  | y :: r, n, j, h => by
    unfold ixI at h
    split at h
    · rename_i e
      cases h
      subst e
      exact ⟨0, rfl, rfl, fun m hm => by omega⟩
    · rename_i e
      obtain ⟨k, e1, e2, e3⟩ := ixI_spec h
      refine ⟨k + 1, by omega, by simpa using e2, fun m hm => ?_⟩
      cases m with
      | zero => simpa using e
      | succ m => simpa using e3 m (by omega)
theorem flat_intsV (ys : List Int) : (ys.map V.int).all flatV = true := by
  rw [List.all_map]
  exact List.all_eq_true.mpr fun _ _ => rfl
theorem mt_tup_indexI {X : Cx} : MtR X "tuple.index" (fun x xs H Q => ∃ p, ∃ ys : List Int, ∃ z j, x = .ref p ∧ xs = [.int z] ∧ SqT X.K H p (ys.map V.int) ∧ ys[j]? = some z ∧ (∀ m, m < j → ys[m]? ≠ some z) ∧ Q (.int (j : Nat)) H) := by
  intro pins s σ H x xs v us Q I rx rs h
  obtain ⟨p, ys, z, j, rfl, rfl, hq, hy, hno, q⟩ := h
  cases rx
  obtain ⟨u, rfl, t, rfl⟩ := vals1 rs
  obtain ⟨its, r, pl, hz⟩ := I.tuple hq
  obtain ⟨⟨cls, dd, dt, sl⟩, ho, hc, n, hd⟩ := pl
  simp only at hc hd
  subst hc
  subst hd
  have hl : its.toArray.size = ys.length := by rw [List.size_toArray, ← r.length, List.length_map]
  have hj : j < its.toArray.size := by rw [hl]; exact (List.getElem?_eq_some_iff.mp hy).1
  have place : ∀ (m : Nat) (hm : m < its.toArray.size), ∃ y t', ys[m]? = some y ∧ its.toArray[m] = Value.int y t' := fun m hm => by
    have hm' : m < ys.length := by rw [← hl]; exact hm
    obtain ⟨w, hw, t', hw'⟩ := r.get (i := m) (x := .int ys[m]) (by simp [hm'])
    refine ⟨ys[m], t', List.getElem?_eq_getElem hm', ?_⟩
    have e := (List.getElem?_eq_some_iff.mp hw).2
    rw [← hw', ← e]
    simp
  refine call_meets PySem.F.slot_tuple_index ⟨_, ho, rfl⟩ PySem.F.entry_tuple_index (PySem.F.args_tuple_index_2 _ _) (TI.tuple_indexAt p its.toArray n dd sl (.int z t) (eqU (.int z)) j hj ?_ ?_)
    ⟨ho, fun w hw => mem_eqAt (x := .int z) ⟨t, rfl⟩ rfl r (flat_intsV ys) w (by simpa using hw), ⟨.int (j : Nat), H, I.tok _, ⟨_, rfl⟩, q⟩⟩
  · obtain ⟨y, t', h1, h2⟩ := place j hj
    rw [hy] at h1
    cases h1
    rw [h2]
    show eqV (.int z) (.int z) = true
    simp [eqV]
  · intro m hm hmj
    obtain ⟨y, t', h1, h2⟩ := place m hm
    rw [h2]
    show eqV (.int y) (.int z) = false
    have : y ≠ z := fun e => hno m hmj (e ▸ h1)
    simp [eqV, this]
section
variable {C : Cfg} {cf : Fns} {gl : Nat → Option D} {X : Cx}
theorem n_tindex (G : Good C cf gl X) {es : List E} {x : E} {xs : List Expr} {xx : Expr} {k0 : Nat} {tp apos cpos : Pos} (hl : (apos.endLine == cpos.line) = true) (hs : notStar xx = true) (hss : xs.all notStar = true) (hn : es.length < 1000) (ho : SEs C cf gl X es xs) (hx : SE C cf gl X x xx) :
    SE C cf gl X (.mth .tindex (.tup es) [x]) (.Call (.Attribute (.Tuple xs k0 tp) "index" apos) [xx] [] cpos) := by
  intro σ H W ρ d ρ' k st h2
  simp only [ev, ofV, evs, Option.bind_eq_some_iff, Option.map_eq_some_iff, Prod.exists, Prod.mk.injEq] at h2
  obtain ⟨d1, ρ1, ⟨dd, ρ1', e1, rfl, rfl⟩, ds, ρ2, ⟨d2, ρ3, e2, ds0, ρ4, ⟨rfl, rfl⟩, rfl, rfl⟩, d3, e3, rfl, rfl⟩ := h2
  have k' : ((nf C (.tup es)).ok = true ∧ allK [nf C x] = true) ∧ dis (nf C (.tup es)).s (allT [nf C x]) = true := by simpa only [nf, nfs, infs, inf, Bool.and_eq_true] using k
  have kx : (nf C x).ok = true := by
    have := k'.1.2
    simp [allK, seqOk] at this
    exact this
  have ke : allK (nfs C es) = true := k'.1.1
  have aT : allT [nf C x] = (nf C x).T := allT1
  obtain ⟨ii, rfl⟩ : ∃ ii, d2 = .int ii := by cases d2 <;> first | exact ⟨_, rfl⟩ | cases e3
  simp only [mthD, Option.bind_eq_some_iff, Option.map_eq_some_iff] at e3
  obtain ⟨ns, e4, j, e5, rfl⟩ := e3
  obtain ⟨j', ej, hit, hno⟩ := ixI_spec e5
  have ej : j = j' := by omega
  subst ej
  intro pins s I
  refine wpAny_Call_method_late (base_eq (o := .Tuple xs k0 tp) rfl _ X.env) (few_ok (es := [xx]) (by simp [hs]) (by simp) cpos) hl rfl ?_
  have na : wpA X xs σ H (PoL X.K C.ms (nfs C es) σ H W ρ1' dd) := nest_args hss (args_ok ho ke st e1)
  refine wpAny_Tuple_spliced (thn (na tp pins s I) fun us s1 ⟨vs, H1, I1, r, hp⟩ => ?_)
  obtain ⟨W1, As, ev1, st1, l⟩ := hp
  obtain ⟨l1, l2, l3⟩ := l.len
  have el : (nfs C es).length = es.length := by
    have : ∀ es : List E, (nfs C es).length = es.length := fun es => by induction es with | nil => rfl | cons e r ih => exact congrArg (· + 1) ih
    exact this es
  have hz : us.length ≤ sizeLine := by rw [← r.length]; exact lenOk (by omega)
  refine ⟨hz, ?_⟩
  have rr := l.rps
  rw [tupInts_eq e4] at rr
  obtain ⟨rv, eA⟩ := rr.ints
  subst rv
  have hf : H1 s1.heap.objs.size = none := I1.hok.fresh (Nat.le_refl _)
  generalize hp0 : s1.heap.objs.size = p at hf
  have I2 : Inv X pins σ (upd H1 p (.tup (ns.map V.int))) { s1 with heap := s1.heap.push { cls := .type "tuple", data := .seq us.toArray } } := by
    rw [← hp0]
    refine I1.laid (t' := s1.toks) (fun b u e => Heap.get?_push_of_some _ e) (Nat.le_refl _) ?_
    exact ⟨by rw [r.length]; exact hz, us, r, ⟨_, Heap.get?_push_size _ rfl, rfl, _, rfl⟩⟩
  have ext := ext_new (o := .tup (ns.map V.int)) hf
  have st2 := st1.ext ext
  have ob : ({ s1 with heap := s1.heap.push { cls := .type "tuple", data := .seq us.toArray } } : Shared).heap.get? p = some { cls := .type "tuple", data := .seq us.toArray } := by rw [← hp0]; exact Heap.get?_push_size _ rfl
  refine ⟨"tuple", "tuple.index", PySem.F.plainAttrs_tuple, PySem.F.slot_tuple_index, PySem.F.type_tuple_index, ⟨_, ob, rfl⟩, fun a e => ?_, ?_⟩
  · cases e
    exact ⟨_, ob, rfl⟩
  · have hA : wpA X [xx] σ (upd H1 p (.tup (ns.map V.int))) _ := nest_args (by simp [hs]) (args_ok (se_of hx) (allK1 kx) st2 (evs1 e2))
    have hA2 := hA cpos pins _ I2
    rw [star_cons hs] at hA2 ⊢
    refine Calls.callWith_builtin (by rfl) (Calls.evalArgs_plain ?_)
    refine thn hA2 fun us2 s2 ⟨vs2, H2, I3, r3, hp2⟩ => ?_
    obtain ⟨W2, As2, ev2, st3, l4⟩ := hp2
    obtain ⟨w, rfl, r4⟩ := Rps.one_inv l4.rps
    generalize As2.flatten = A2 at r4
    cases r4
    have ev2' : Evo C.ms (nf C x).T (upd H1 p (.tup (ns.map V.int))) W1 H2 W2 := by
      have e : allT (infs C.ms C.pm [x]) = (nf C x).T := allT1
      rw [e] at ev2; exact ev2
    have hp3 : H2 p = some (.tup (ns.map V.int)) := ev2.imm p _ upd_same rfl
    refine mt_tup_indexI pins s2 σ H2 (.ref p) [.int ii] (.ref p) us2 _ I3 rfl r3 ⟨p, ns, ii, j, rfl, rfl, .of hp3, hit, hno, ?_⟩
    refine po_pure (S := [0]) (I := nf C (.mth .tindex (.tup es) [x])) ?_ st3 (.int (As := []) _) rfl (fun _ => rfl) rfl
    have eT : (nf C (.mth .tindex (.tup es) [x])).T = allT (nfs C es) ++ (nf C x).T := by
      show allT (nfs C es) ++ allT [nf C x] = _
      rw [aT]
    rw [eT]
    exact (ev1.then ext).trans ev2'
end
end Vi

set_option Elab.async false
set_option linter.all false
set_option maxRecDepth 100000
set_option maxHeartbeats 4000000
/-! Calls of the program's own defs. -/
namespace Vi
open PySem L2

section
variable {K : PySem.W.Frag} {ms : List Bool} {T : List Nat} {σ : St} {H H1 H' : Hp} {W W1 W' : Own} {ρ : Env} {Is : List Inf} {vs : List V} {ds : List D} {As : List (List Addr)}
/-- objects of others may change -/
theorem Sts.frame (st : Sts K H ms σ ρ W) (imm : ∀ a o, H a = some o → mutO o = false → H' a = some o) (kp : ∀ j, ∀ a ∈ W j, ∀ o, H a = some o → H' a = some o) : Sts K H' ms σ ρ W :=
  ⟨fun i d e => by obtain ⟨v, e1, r⟩ := st.sl i d e; exact ⟨v, e1, r.keep imm (kp i)⟩, st.em, st.ln, st.lm, st.nd, st.dj, st.tb.imm imm⟩
def asW (As : List (List Addr)) : Own := fun j => (As[j]?).getD []
theorem Vl.at (h : Vl K ms T σ H W H' W' Is vs ds As) {j : Nat} {I : Inf} (hI : Is[j]? = some I) : ∃ v d A, vs[j]? = some v ∧ ds[j]? = some d ∧ As[j]? = some A ∧ Rp K H' v d A ∧ Vt ms T I.o I.s H W W' A ∧ (∀ i, I.mv = some i → σ[i]? = some (some v)) := by
  induction h generalizing j with
  | nil => simp at hI
  | cons r t o m l a1 a2 ih =>
    cases j with
    | zero => simp at hI; subst hI; exact ⟨_, _, _, rfl, rfl, rfl, r, t, m⟩
    | succ j => exact ih (by simpa using hI)
theorem Vl.apart (h : Vl K ms T σ H W H' W' Is vs ds As) {j k : Nat} {I : Inf} {A B : List Addr} (hI : Is[j]? = some I) (ho : I.o = true) (hA : As[j]? = some A) (hB : As[k]? = some B) (ne : k ≠ j) : ∀ a ∈ A, a ∉ B := by
  induction h generalizing j k with
  | nil => simp at hI
  | @cons I0 v d A0 Is vs ds As r t o m l a1 a2 ih =>
    cases j with
    | zero =>
      simp at hI hA; subst hI; subst hA
      cases k with
      | zero => exact absurd rfl ne
      | succ k => exact a1 ho B (List.mem_of_getElem? (by simpa using hB))
    | succ j =>
      cases k with
      | zero =>
        simp at hB; subst hB
        intro a ha hb
        exact a2 j I A (by simpa using hI) (by simpa using hA) ho a hb ha
      | succ k => exact ih (by simpa using hI) (by simpa using hA) (by simpa using hB) (fun z => ne (congrArg (· + 1) z))
theorem parOk_len : ∀ {p : List Bool} {is : List Inf}, parOk p is = true → p.length = is.length
  | [], [], _ => rfl
  | m :: r, x :: is, h => congrArg (· + 1) (parOk_len (Bool.and_eq_true_iff.mp h).2)
  | [], _ :: _, h => by cases h
  | _ :: _, [], h => by cases h
theorem parOk_at : ∀ {p : List Bool} {is : List Inf} {j : Nat} {I : Inf}, parOk p is = true → p.getD j false = true → is[j]? = some I → I.o = true
  | m :: r, x :: is, 0, I, h, h1, h2 => by
    simp at h1 h2; subst h1; subst h2
    simpa [parOk] using (Bool.and_eq_true_iff.mp h).1
  | m :: r, x :: is, j + 1, I, h, h1, h2 => parOk_at (p := r) (is := is) (j := j) (Bool.and_eq_true_iff.mp h).2 (by simpa using h1) (by simpa using h2)
  | [], [], _, _, _, _, h2 => by simp at h2
  | [], _ :: _, _, _, h, _, _ => by cases h
  | _ :: _, [], _, _, h, _, _ => by cases h
theorem getS_start {n j : Nat} {ds : List D} : getS (startE n ds) j = ds[j]? := by
  unfold getS startE
  rw [List.getElem?_append]
  by_cases h : j < ds.length
  · simp [h]
  · have h' : ds.length ≤ j := by omega
    rw [if_neg (by simpa using h')]
    simp only [List.length_map, List.getElem?_replicate]
    rw [List.getElem?_eq_none h']
    split <;> rfl
/-- a callee's state at its start -/
theorem Vl.start {fms : List Bool} {np : Nat} (h : Vl K ms T σ H W H' W' Is vs ds As) (hp : parOk (fms.take np) Is = true) (hle : np ≤ fms.length) (tb : Tabs K H') :
    vs.length = np ∧ ds.length = np ∧ Sts K H' fms (vs.map some ++ List.replicate (fms.length - vs.length) none) (startE fms.length ds) (asW As) := by
  obtain ⟨l1, l2, l3⟩ := h.len
  have l4 := parOk_len hp
  rw [List.length_take, Nat.min_eq_left hle] at l4
  have hv : vs.length = np := by omega
  have hd : ds.length = np := by omega
  have own_lt : ∀ j, owns fms j = true → asW As j ≠ [] → ∃ I A, Is[j]? = some I ∧ As[j]? = some A ∧ asW As j = A ∧ I.o = true := fun j oj hne => by
    cases eA : As[j]? with
    | none => exact absurd (by unfold asW; rw [eA]; rfl) hne
    | some A =>
      have jl : j < As.length := (List.getElem?_eq_some_iff.mp eA).1
      have jl2 : j < Is.length := by omega
      refine ⟨Is[j], A, by simp [jl2], rfl, by unfold asW; rw [eA]; rfl, parOk_at hp (j := j) ?_ (by simp [jl2])⟩
      unfold owns at oj
      have : j < np := by omega
      simpa [List.getD_eq_getElem?_getD, List.getElem?_take, this] using oj
  refine ⟨hv, hd, ⟨fun j d e => ?_, fun j e => ?_, ?_, ?_, fun j oj => ?_, fun j k a oj ne h1 h2 => ?_, tb⟩⟩
  · rw [getS_start] at e
    have jl : j < ds.length := (List.getElem?_eq_some_iff.mp e).1
    have jl2 : j < Is.length := by omega
    obtain ⟨v, d', A, e1, e2, e3, r, t, m⟩ := h.at (j := j) (I := Is[j]) (by simp [jl2])
    rw [e] at e2; cases e2
    refine ⟨v, ?_, ?_⟩
    · rw [List.getElem?_append, if_pos (by rw [List.length_map]; omega), List.getElem?_map, e1]; rfl
    · have : asW As j = A := by unfold asW; rw [e3]; rfl
      rw [this]; exact r
  · rw [getS_start] at e
    unfold asW
    have : ds.length ≤ j := by
      rcases Nat.lt_or_ge j ds.length with z | z
      · rw [List.getElem?_eq_getElem z] at e; cases e
      · exact z
    rw [List.getElem?_eq_none (by omega)]; rfl
  · unfold startE
    simp only [List.length_append, List.length_map, List.length_replicate]
    omega
  · simp only [List.length_append, List.length_map, List.length_replicate]
    omega
  · by_cases hne : asW As j = []
    · rw [hne]; exact List.nodup_nil
    · obtain ⟨I, A, e1, e2, e3, ho⟩ := own_lt j oj hne
      obtain ⟨v, d', A', f1, f2, f3, r, t, m⟩ := h.at e1
      rw [e2] at f3; cases f3
      rw [e3]; exact t.nd ho
  · have hne : asW As j ≠ [] := fun z => by rw [z] at h1; cases h1
    obtain ⟨I, A, e1, e2, e3, ho⟩ := own_lt j oj hne
    rw [e3] at h1
    unfold asW at h2
    cases eB : As[k]? with
    | none => rw [eB] at h2; cases h2
    | some B =>
      rw [eB] at h2
      exact h.apart e1 ho e2 eB ne a h1 h2
/-- what a callee owned is the call's own -/
theorem Vl.ownOf {fms : List Bool} {np : Nat} (h : Vl K ms T σ H W H' W' Is vs ds As) (hp : parOk (fms.take np) Is = true) (hle : np ≤ fms.length) {j : Nat} {a : Addr} (oj : owns fms j = true) (ha : a ∈ asW As j) :
    (∀ i, a ∉ W' i) ∧ ((∃ k ∈ T, owns ms k = true ∧ a ∈ W k) ∨ H a = none) := by
  obtain ⟨l1, l2, l3⟩ := h.len
  have l4 := parOk_len hp
  rw [List.length_take, Nat.min_eq_left hle] at l4
  unfold asW at ha
  cases eA : As[j]? with
  | none => rw [eA] at ha; cases ha
  | some A =>
    rw [eA] at ha
    have jl : j < As.length := (List.getElem?_eq_some_iff.mp eA).1
    have jl2 : j < Is.length := by omega
    have jl3 : j < np := by omega
    obtain ⟨v, d', A', f1, f2, f3, r, t, m⟩ := h.at (j := j) (I := Is[j]) (by simp [jl2])
    rw [eA] at f3; cases f3
    have ho : Is[j].o = true := parOk_at hp (j := j) (by
      unfold owns at oj
      simpa [List.getD_eq_getElem?_getD, List.getElem?_take, jl3] using oj) (by simp [jl2])
    exact ⟨t.al ho a ha, t.og ho a ha⟩
/-- the slots that are given back -/
theorem backs_ok {fms : List Bool} {We : Own} {oe : Env} (hW : ∀ j k a, owns fms j = true → k ≠ j → a ∈ We j → a ∉ We k) (hn : ∀ j, owns fms j = true → (We j).Nodup) {ve : List V}
    : ∀ (bk : List (Option Nat)) (j : Nat) (ρc ρ2 : Env) (Wc : Own), (∀ k i, bk[k]? = some (some i) → owns fms (j + k) = true ∧ owns ms i = true ∧ ∃ v, σ[i]? = some (some v) ∧ ∀ d, getS oe (j + k) = some d → Rp K H v d (We (j + k))) →
      Sts K H ms σ ρc Wc → (∀ k i, bk[k]? = some (some i) → ∀ a ∈ We (j + k), ∀ i', a ∉ Wc i') → (∀ k, j + k < oe.length ∨ True) → backs bk (oe.drop j) ρc = some ρ2 →
      ∃ W2, Sts K H ms σ ρ2 W2 ∧ (∀ i, i ∉ someS bk → W2 i = Wc i) ∧ ∀ i ∈ someS bk, W2 i = Wc i ∨ ∃ k i0, bk[k]? = some (some i0) ∧ W2 i = We (j + k)
  | [], j, ρc, ρ2, Wc, _, st, _, _, h => by
    cases h
    exact ⟨Wc, st, fun _ _ => rfl, fun i hi => nomatch hi⟩
  | none :: r, j, ρc, ρ2, Wc, hk, st, hf, hl, h => by
      have h : backs r (oe.drop j).tail ρc = some ρ2 := h
      rw [List.tail_drop] at h
      obtain ⟨W2, s2, u2, g2⟩ := backs_ok hW hn (ve := ve) r (j + 1) ρc ρ2 Wc (fun k i q => by have := hk (k + 1) i (by simpa using q); rwa [show j + (k + 1) = j + 1 + k by omega] at this) st (fun k i q => by have := hf (k + 1) i (by simpa using q); rwa [show j + (k + 1) = j + 1 + k by omega] at this) (fun _ => .inr trivial) h
      exact ⟨W2, s2, u2, fun i hi => (g2 i hi).imp id fun ⟨k, i0, q1, q2⟩ => ⟨k + 1, i0, by simpa using q1, by rw [show j + (k + 1) = j + 1 + k by omega]; exact q2⟩⟩
  | some i :: r, j, ρc, ρ2, Wc, hk, st, hf, hl, h => by
    cases e : oe.drop j with
    | nil => rw [e] at h; cases h
    | cons x o =>
      rw [e] at h
      cases x with
      | none => cases h
      | some d =>
        have e2 : oe.drop (j + 1) = o := by
          have := congrArg List.tail e
          rwa [List.tail_drop, List.tail_cons] at this
        have ed : getS oe j = some d := by
          have := congrArg (fun l => l[0]?) e
          simp at this
          unfold getS
          rw [this]; rfl
        have hk0 := hk 0 i rfl
        rw [Nat.add_zero] at hk0
        obtain ⟨oj, oi, v, hv, hr⟩ := hk0
        have il : i < ms.length := by
          have := st.lm
          have := (List.getElem?_eq_some_iff.mp hv).1
          omega
        have hf0 := hf 0 i rfl
        rw [Nat.add_zero] at hf0
        have st1 := (st.store (i := i) il (hr d ed) (fun a ha j' _ => hf0 a ha j') (fun _ => hf0) (fun _ => hn j oj)).weakσ (σ' := σ) (by rw [List.length_set]) fun k d' v' e1 e2 => by
          by_cases z : i = k
          · subst z
            rw [List.getElem?_set_self (by have := st.lm; omega)] at e2
            cases e2; exact hv
          · rwa [List.getElem?_set_ne z] at e2
        obtain ⟨W2, s2, u2, g2⟩ := backs_ok hW hn (ve := ve) r (j + 1) (ρc.set i (some d)) ρ2 (Wc.put i (We j)) (fun k i q => by have := hk (k + 1) i (by simpa using q); rwa [show j + (k + 1) = j + 1 + k by omega] at this) st1 (fun k i' q a ha i'' q2 => by
          have h3 := hf (k + 1) i' (by simpa using q)
          rw [show j + (k + 1) = j + 1 + k by omega] at h3
          by_cases z : i'' = i
          · subst z
            rw [Own.put_same] at q2
            exact hW j (j + 1 + k) a oj (by omega) q2 ha
          · rw [Own.put_ne z] at q2; exact h3 a ha i'' q2) (fun _ => .inr trivial) (by rw [e2]; exact h)
        refine ⟨W2, s2, fun i' hi' => ?_, fun i' hi' => ?_⟩
        · have n1 : i' ≠ i := fun z => hi' (by subst z; exact List.mem_cons_self ..)
          rw [u2 i' fun z => hi' (List.mem_cons_of_mem _ z), Own.put_ne n1]
        · by_cases z : i' ∈ someS r
          · rcases g2 i' z with q | ⟨k, i0, q1, q2⟩
            · by_cases y : i' = i
              · subst y
                rw [Own.put_same] at q
                exact .inr ⟨0, i', rfl, by rw [Nat.add_zero]; exact q⟩
              · rw [Own.put_ne y] at q; exact .inl q
            · exact .inr ⟨k + 1, i0, by simpa using q1, by rw [show j + (k + 1) = j + 1 + k by omega]; exact q2⟩
          · have := u2 i' z
            rcases List.mem_cons.mp hi' with y | y
            · subst y
              rw [Own.put_same] at this
              exact .inr ⟨0, i', rfl, by rw [Nat.add_zero]; exact this⟩
            · exact absurd y z
theorem bkOk_at : ∀ {bk : List (Option Nat)} {is : List Inf} {k i : Nat}, bkOk ms bk is = true → bk[k]? = some (some i) → ∃ I, is[k]? = some I ∧ I.mv = some i ∧ owns ms i = true
  | none :: r, _ :: is, 0, i, h, q => by simp at q
  | none :: r, x :: is, k + 1, i, h, q => by
    obtain ⟨I, h1, h2⟩ := bkOk_at (bk := r) (is := is) (k := k) h (by simpa using q)
    exact ⟨I, by simpa using h1, h2⟩
  | some j :: r, x :: is, 0, i, h, q => by
    have h' : (owns ms j = true ∧ decide (x.mv = some j) = true) ∧ bkOk ms r is = true := by simpa only [bkOk, Bool.and_eq_true] using h
    simp at q; subst q
    exact ⟨x, rfl, of_decide_eq_true h'.1.2, h'.1.1⟩
  | some j :: r, x :: is, k + 1, i, h, q => by
    have h' : (owns ms j = true ∧ decide (x.mv = some j) = true) ∧ bkOk ms r is = true := by simpa only [bkOk, Bool.and_eq_true] using h
    obtain ⟨I, h1, h2⟩ := bkOk_at (bk := r) (is := is) (k := k) h'.2 (by simpa using q)
    exact ⟨I, by simpa using h1, h2⟩
  | [], _, _, _, _, q => by simp at q
  | none :: r, [], _, _, h, _ => by cases h
  | some j :: r, [], _, _, h, _ => by cases h
theorem bkIn_at : ∀ {pm : List Bool} {bk : List (Option Nat)} {k i : Nat}, bkIn pm bk = true → bk[k]? = some (some i) → pm.getD k false = true
  | m :: r, b :: s, 0, i, h, q => by
    simp at q; subst q
    have := (Bool.and_eq_true_iff.mp h).1
    simpa using this
  | m :: r, b :: s, k + 1, i, h, q => by
    simpa using bkIn_at (pm := r) (bk := s) (k := k) (Bool.and_eq_true_iff.mp h).2 (by simpa using q)
  | [], [], _, _, _, q => by simp at q
  | [], _ :: _, _, _, h, _ => by cases h
  | _ :: _, [], _, _, _, q => by simp at q
end

section
variable {C : Cfg} {cf : Fns} {gl : Nat → Option D} {X : Cx}
theorem isGlo_of {sc : Scope} {x : Str} (h : isGlo sc x = true) : sc.names.lookup x = some .globalImplicit := by
  unfold isGlo at h
  split at h
  · assumption
  · cases h
theorem n_call (G : Good C cf gl X) {f : Nat} {es : List E} {bk : List (Option Nat)} {g : Str} {p pos : Pos} {xs : List Expr} (hf : C.fns f = some g) (hg : isGlo X.env.scope g = true) (hgn : okName g = true) (hne : (!xs.isEmpty) = true) (hs : xs.all notStar = true) (he : SEs C cf gl X es xs) :
    SE C cf gl X (.call f es bk) (.Call (.Name g p) xs [] pos) := by
  intro σ H W ρ d ρ' k st h2
  simp only [ev, ofV, Option.bind_eq_some_iff, Option.map_eq_some_iff, Prod.exists, Prod.mk.injEq] at h2
  obtain ⟨ds, ρ1, e1, d3, o, e3, ρ2, e4, rfl, rfl⟩ := h2
  have k' : (((allK (nfs C es) = true ∧ parOk (C.pm f) (nfs C es) = true) ∧ bkOk C.ms bk (nfs C es) = true) ∧ bkIn (C.pm f) bk = true) ∧ decide (someS bk).Nodup = true := by simpa only [nf, nfs, inf, Bool.and_eq_true] using k
  obtain ⟨⟨⟨⟨kk, kp⟩, kb⟩, ki⟩, _⟩ := k'
  obtain ⟨j0, hr0, G0⟩ := G.fn
  obtain ⟨a, fd, ps, F, FO, hm, hkeep, hb, hpm, hnp, _⟩ := G0 f g hf
  have hr : Room j0 X.A := hr0.mono (Nat.le_add_right ..)
  rw [hpm] at kp ki
  cases xs with
  | nil => cases hne
  | cons x0 xr =>
    have hs' := all_cons hs
    refine of_pe (pe_call FO hr (isGlo_of hg) hm hkeep hb .nil pass0 (pa X (x0 :: xr)) (okName1 hgn) (star_cons hs'.1 xr X.env) (star_all hs'.2 X.env pos)) ?_
    refine nest_args hs (nest_mono (args_ok he kk st e1) fun vs H1 hp => ?_)
    obtain ⟨W1, As, ev1, st1, l⟩ := hp
    obtain ⟨hv, hd, st0⟩ := l.start kp hnp st1.tb
    rw [List.append_nil]
    refine ⟨hv, ds, asW As, d3, o, hd, st0, e3, fun v H' W' A σe evc ste hsl r nd al og => ?_⟩
    have ownA := fun (j : Nat) (a : Addr) (oj : owns F.ms j = true) (ha : a ∈ asW As j) => l.ownOf kp hnp oj ha
    -- the caller's state behind the call
    have kpW : ∀ j, ∀ a ∈ W1 j, ∀ o, H1 a = some o → H' a = some o := fun j a ha o q => evc.kp a o q fun k _ ok hk => (ownA k a ok hk).1 j ha
    have st2 : Sts X.K H' C.ms σ ρ1 W1 := st1.frame evc.imm kpW
    have hTa := infs_own es (Bool.and_eq_true_iff.mp kk).1
    have fromE : ∀ k, owns F.ms k = true → ∀ a ∈ W' k, (∀ i, a ∉ W1 i) ∧ ((∃ k ∈ allT (nfs C es), owns C.ms k = true ∧ a ∈ W k) ∨ H a = none) := fun k ok a ha => by
      have kl : k < F.ms.length := by
        unfold owns at ok
        rcases Nat.lt_or_ge k F.ms.length with z | z
        · exact z
        · rw [List.getD_eq_getElem?_getD, List.getElem?_eq_none z] at ok; cases ok
      rcases evc.nw k (List.mem_range.mpr kl) ok a ha with ⟨k', _, ok', q⟩ | q
      · exact ownA k' a ok' q
      · refine ⟨fun i z => st1.alive z q, .inr (ev1.dom a q)⟩
    have bkF : ∀ k i, bk[k]? = some (some i) → k < F.np ∧ owns F.ms (0 + k) = true ∧ owns C.ms i = true ∧ ∃ v, vs[k]? = some v ∧ σ[i]? = some (some v) := fun k i q => by
      obtain ⟨I, h1, h2, h3⟩ := bkOk_at kb q
      obtain ⟨v0, d0, A0, f1, f2, f3, r0, t0, m0⟩ := l.at h1
      have kl : k < vs.length := (List.getElem?_eq_some_iff.mp f1).1
      have hpk := bkIn_at ki q
      refine ⟨by omega, ?_, h3, v0, f1, m0 i h2⟩
      rw [Nat.zero_add]
      unfold owns
      have : k < F.np := by omega
      simpa [List.getD_eq_getElem?_getD, List.getElem?_take, this] using hpk
    obtain ⟨W2, st3, u3, g3⟩ := backs_ok (K := X.K) (H := H') (ms := C.ms) (σ := σ) (fms := F.ms) (We := W') (oe := o) (fun j k a oj ne h1 h2 => ste.dj j k a oj ne h1 h2) (fun j oj => ste.nd j oj) (ve := vs) bk 0 ρ1 ρ2 W1
      (fun k i q => by
        obtain ⟨kl, ok, oi, v0, f1, f2⟩ := bkF k i q
        refine ⟨ok, oi, v0, f2, fun dd ed => ?_⟩
        rw [Nat.zero_add] at ok ed ⊢
        obtain ⟨v1, e5, r5⟩ := ste.sl k dd ed
        have := hsl k kl ok
        rw [f1, e5] at this
        cases this
        exact r5) st2
      (fun k i q a ha i' => by
        obtain ⟨kl, ok, _⟩ := bkF k i q
        exact (fromE _ ok a ha).1 i') (fun _ => .inr trivial) (by simpa using e4)
    have og2 : ∀ a ∈ A, (∃ k ∈ allT (nfs C es), owns C.ms k = true ∧ a ∈ W k) ∨ H a = none := fun a ha => by
      rcases og a ha with ⟨k, ok, q⟩ | q
      · exact (ownA k a ok q).2
      · exact .inr (ev1.dom a q)
    have al1 : ∀ a ∈ A, ∀ j, a ∉ W1 j := fun a ha j z => by
      rcases og a ha with ⟨k, ok, q⟩ | q
      · exact (ownA k a ok q).1 j z
      · exact st1.alive z q
    have al2 : ∀ a ∈ A, ∀ j, a ∉ W2 j := fun a ha j z => by
      by_cases y : j ∈ someS bk
      · rcases g3 j y with q | ⟨k, i0, q1, q2⟩
        · rw [q] at z; exact al1 a ha j z
        · rw [q2] at z
          obtain ⟨_, ok, _⟩ := bkF k i0 q1
          exact al a ha _ ok z
      · rw [u3 j y] at z; exact al1 a ha j z
    refine ⟨W2, A, ⟨fun b x e m => evc.imm b x (ev1.imm b x e m) m, fun b x e q => ?_, fun j hj => ?_, fun j hj oj b hb => ?_, fun b e => ev1.dom b (evc.dom b e)⟩, st3, r, ⟨fun a ha j _ _ => al2 a ha j, fun _ => al2, fun _ => nd, fun _ a ha => (og2 a ha).imp_left fun ⟨k, hk, q⟩ => ⟨k, List.mem_append_left _ hk, q⟩, fun _ => rfl⟩, fun a ha => (og2 a ha).imp_left fun ⟨k, _, _, q⟩ => ⟨k, q⟩, ft, fun i e => nomatch e⟩
    · refine evc.kp b x (ev1.kp b x e fun j hj => q j (List.mem_append_left _ hj)) fun k _ ok hk => ?_
      rcases (ownA k b ok hk).2 with ⟨k', hk', ok', z⟩ | z
      · exact q k' (List.mem_append_left _ hk') ok' z
      · rw [e] at z; cases z
    · rw [u3 j fun z => hj (List.mem_append_right _ z), ev1.un j fun z => hj (List.mem_append_left _ z)]
    · have fromW1 : b ∈ W1 j → (∃ k ∈ allT (nfs C es) ++ someS bk, owns C.ms k = true ∧ b ∈ W k) ∨ H b = none := fun hb => by
        by_cases y : j ∈ allT (nfs C es)
        · exact (ev1.nw j y oj b hb).imp_left fun ⟨k, hk, q⟩ => ⟨k, List.mem_append_left _ hk, q⟩
        · rw [ev1.un j y] at hb
          exact .inl ⟨j, hj, oj, hb⟩
      by_cases y : j ∈ someS bk
      · rcases g3 j y with q | ⟨k, i0, q1, q2⟩
        · rw [q] at hb; exact fromW1 hb
        · rw [q2] at hb
          obtain ⟨_, ok, _⟩ := bkF k i0 q1
          exact (fromE _ ok b hb).2.imp_left fun ⟨k, hk, q⟩ => ⟨k, List.mem_append_left _ hk, q⟩
      · rw [u3 j y] at hb; exact fromW1 hb
end
end Vi

set_option Elab.async false
set_option linter.all false
set_option maxRecDepth 100000
set_option maxHeartbeats 4000000
/-! Targets. -/
namespace Vi
open PySem L2

/-- names of this scope may be stored -/
def AsgOk (X : Cx) (sc : Scope) : Prop := ∀ x, isLoc sc x = true → Loc X.env.scope x ∧ (X.fn x = true ∨ X.env.scope.names.lookup x = some .local)
theorem isLoc_of {sc : Scope} {x : Str} (h : isLoc sc x = true) : Loc sc x := by
  unfold isLoc at h
  split at h
  · exact .inl (by assumption)
  · exact .inr (by assumption)
  · cases h
theorem asg_cons {e : Expr} (h : notStar e = true) (es : List Expr) (env : PySem.Env) : assignEach (e :: es) env = (false, assign e env) :: assignEach es env := by
  cases e <;> first | rfl | cases h
theorem asg_len : ∀ {es : List Expr} (_ : es.all notStar = true) (env : PySem.Env), (assignEach es env).length = es.length ∧ (assignEach es env).findIdx? (·.1) = none
  | [], _, _ => ⟨rfl, rfl⟩
  | e :: es, h, env => by
    have h' := all_cons h
    rw [asg_cons h'.1]
    obtain ⟨h1, h2⟩ := asg_len h'.2 env
    refine ⟨congrArg (· + 1) h1, ?_⟩
    rw [List.findIdx?_cons, h2]; rfl
theorem matT_nm {N : List Str} {sc : Scope} {i : Nat} {e : Expr} (h : matT N sc (.nm i) e = true) : ∃ x pos, e = .Name x pos ∧ N[i]? = some x ∧ isLoc sc x = true := by
  unfold matT at h
  split at h
  · rename_i e1
    cases e1
    simp only [Bool.and_eq_true, decide_eq_true_eq] at h
    exact ⟨_, _, rfl, h.1, h.2⟩
  · rename_i e1; cases e1
  · cases h
theorem matT_tup {N : List Str} {sc : Scope} {ts : List Tg} {e : Expr} (h : matT N sc (.tup ts) e = true) : ∃ es k pos, e = .Tuple es k pos ∧ matTs N sc ts es = true := by
  unfold matT at h
  split at h
  · rename_i e1; cases e1
  · rename_i e1; cases e1; exact ⟨_, _, _, rfl, h⟩
  · cases h
theorem matTs_cons {N : List Str} {sc : Scope} {t : Tg} {ts : List Tg} {es : List Expr} (h : matTs N sc (t :: ts) es = true) : ∃ e r, es = e :: r ∧ notStar e = true ∧ matT N sc t e = true ∧ matTs N sc ts r = true := by
  unfold matTs at h
  split at h
  · rename_i e1; cases e1
  · rename_i e1
    cases e1
    simp only [Bool.and_eq_true] at h
    exact ⟨_, _, rfl, h.1.1, h.1.2, h.2⟩
  · cases h
theorem matTs_nil {N : List Str} {sc : Scope} {es : List Expr} (h : matTs N sc [] es = true) : es = [] := by
  cases es with
  | nil => rfl
  | cons => cases h
theorem matTs_star {N : List Str} {sc : Scope} : ∀ {ts : List Tg} {es : List Expr}, matTs N sc ts es = true → es.all notStar = true ∧ ts.length = es.length
  | [], es, h => by rw [matTs_nil h]; exact ⟨rfl, rfl⟩
  | t :: ts, es, h => by
    obtain ⟨e, r, rfl, h1, _, h3⟩ := matTs_cons h
    obtain ⟨h4, h5⟩ := matTs_star h3
    exact ⟨by rw [List.all_cons, h1, h4]; rfl, congrArg (· + 1) h5⟩
theorem binds_len : ∀ {ts : List Tg} {ds : List D} {ρ ρ' : Env}, bindTs ts ds ρ = some ρ' → ds.length = ts.length
  | [], [], _, _, _ => rfl
  | t :: ts, d :: ds, ρ, ρ', h => by
    simp only [bindTs, Option.bind_eq_some_iff] at h
    obtain ⟨ρ1, _, h2⟩ := h
    exact congrArg (· + 1) (binds_len h2)
  | [], _ :: _, _, _, h => by cases h
  | _ :: _, [], _, _, h => by cases h
section
variable {X : Cx} {N : List Str} {sc : Scope} {ms : List Bool}
/-- behind the binding of a target -/
def BindPo (X : Cx) (ms : List Bool) (T : List Nat) (σ : St) (H : Hp) (W : Own) (A : List Addr) (ρ' : Env) (σ' : St) (H' : Hp) : Prop :=
  H' = H ∧ (∀ j, j ∉ T → σ'[j]? = σ[j]?) ∧ σ'.length = σ.length ∧ ∃ W', Sts X.K H ms σ' ρ' W' ∧ (∀ j, j ∉ T → W' j = W j) ∧ ∀ j ∈ T, ∀ a ∈ W' j, a ∈ A
mutual
theorem bind_ok (hN : X.N = N) (hnd : N.Nodup) (hc : X.calm = true) (ha : AsgOk X sc) (P : Prop) : ∀ (t : Tg) (e : Expr), matT N sc t e = true → ∀ {v : V} {d : D} {A : List Addr} {σ : St} {ρ ρ' : Env} {W : Own} {H : Hp}, Rp X.K H v d A → Sts X.K H ms σ ρ W →
    (∀ j ∈ slotsT t, j < ms.length) → (slotsT t).Nodup → (∀ a ∈ A, ∀ j, owns ms j = true → a ∉ W j) → (P → (∀ a ∈ A, ∀ j, a ∉ W j) ∧ A.Nodup) → (∀ j ∈ slotsT t, owns ms j = true → P) → bindT t d ρ = some ρ' →
    wpG X e v σ H (BindPo X ms (slotsT t) σ H W A ρ')
  | .nm i, e, hm, v, d, A, σ, ρ, ρ', W, H, r, st, hl, _, ap, al, hp, h => by
    obtain ⟨x, pos, rfl, hi, hx⟩ := matT_nm hm
    obtain ⟨l1, l2⟩ := ha x hx
    simp only [bindT, Option.some.injEq] at h
    subst h
    have mi : i ∈ slotsT (.nm i) := List.mem_singleton.mpr rfl
    have hil : i < ms.length := hl i mi
    refine of_pg (pg_name (by rw [hN]; exact hnd) (by rw [hN]; exact hi) l1 l2) ⟨rfl, fun j hj => ?_, by rw [List.length_set], W.put i A, st.store hil r ap (fun oi => (al (hp i mi oi)).1) (fun oi => (al (hp i mi oi)).2), fun j hj => Own.put_ne fun z => hj (by subst z; exact mi), fun j hj a q => ?_⟩
    · rw [List.getElem?_set_ne fun z => hj (by subst z; exact mi)]
    · have z : j = i := List.mem_singleton.mp hj
      subst z
      rwa [Own.put_same] at q
  | .tup ts, e, hm, v, d, A, σ, ρ, ρ', W, H, r, st, hl, nd, ap, al, hp, h => by
    obtain ⟨es, k0, pos, rfl, hm⟩ := matT_tup hm
    cases r with
    | tup ea rs =>
      obtain ⟨s1, s2⟩ := matTs_star hm
      obtain ⟨n1, n2⟩ := asg_len s1 X.env
      have hlen := binds_len (show bindTs ts _ ρ = some ρ' from h)
      exact of_pg (pg_tup hc (pgs X es) n1 n2) ⟨_, _, rfl, .of ea, by rw [rs.length]; omega, binds_ok hN hnd hc ha P ts es hm rs st hl nd ap al hp h⟩
    | lst ea rs =>
      obtain ⟨s1, s2⟩ := matTs_star hm
      obtain ⟨n1, n2⟩ := asg_len s1 X.env
      have hlen := binds_len (show bindTs ts _ ρ = some ρ' from h)
      refine of_pg (pg_unl hc (pgs X es) n1 n2) ⟨_, _, rfl, .of ea, by rw [rs.length]; omega, wpGs_mono (binds_ok hN hnd hc ha P ts es hm rs st hl nd (fun a ha => ap a (List.mem_cons_of_mem _ ha)) (fun p => ⟨fun a ha => (al p).1 a (List.mem_cons_of_mem _ ha), (List.nodup_cons.mp (al p).2).2⟩) hp h) fun σ' H' ⟨eH, z1, z2, W', st', u, g⟩ => ⟨eH, z1, z2, W', st', u, fun j hj a ha => List.mem_cons_of_mem _ (g j hj a ha)⟩⟩
    | _ => cases h
theorem binds_ok (hN : X.N = N) (hnd : N.Nodup) (hc : X.calm = true) (ha : AsgOk X sc) (P : Prop) : ∀ (ts : List Tg) (es : List Expr), matTs N sc ts es = true → ∀ {vs : List V} {ds : List D} {A : List Addr} {σ : St} {ρ ρ' : Env} {W : Own} {H : Hp}, Rps X.K H vs ds A → Sts X.K H ms σ ρ W →
    (∀ j ∈ slotsTs ts, j < ms.length) → (slotsTs ts).Nodup → (∀ a ∈ A, ∀ j, owns ms j = true → a ∉ W j) → (P → (∀ a ∈ A, ∀ j, a ∉ W j) ∧ A.Nodup) → (∀ j ∈ slotsTs ts, owns ms j = true → P) → bindTs ts ds ρ = some ρ' →
    wpGs X es vs σ H (BindPo X ms (slotsTs ts) σ H W A ρ')
  | [], es, hm, vs, ds, A, σ, ρ, ρ', W, H, r, st, hl, nd, ap, al, hp, h => by
    rw [matTs_nil hm]
    cases r with
    | nil =>
      cases h
      exact of_pgs pgs_nil ⟨rfl, rfl, fun _ _ => rfl, rfl, W, st, fun _ _ => rfl, fun j hj => nomatch hj⟩
    | cons => cases h
  | t :: ts, es, hm, vs, ds, A, σ, ρ, ρ', W, H, r, st, hl, nd, ap, al, hp, h => by
    obtain ⟨e, es', rfl, hs, m1, m2⟩ := matTs_cons hm
    cases r with
    | nil => cases h
    | cons r1 r2 =>
      rename_i v d A1 vs ds A2
      simp only [bindTs, Option.bind_eq_some_iff] at h
      obtain ⟨ρ1, b1, b2⟩ := h
      have nd' : (slotsT t ++ slotsTs ts).Nodup := nd
      obtain ⟨nd1, nd2, nd3⟩ := List.nodup_append.mp nd'
      have in1 : ∀ j ∈ slotsT t, j ∈ slotsTs (t :: ts) := fun j hj => List.mem_append_left _ hj
      have in2 : ∀ j ∈ slotsTs ts, j ∈ slotsTs (t :: ts) := fun j hj => List.mem_append_right _ hj
      refine of_pgs (pgs_cons (pg X e) (pgs X es') (by rw [asg_cons hs]; rfl)) ⟨v, vs, rfl, wpG_mono (bind_ok hN hnd hc ha P t e m1 r1 st (fun j hj => hl j (in1 j hj)) nd1 (fun a ha => ap a (List.mem_append_left _ ha)) (fun p => ⟨fun a ha => (al p).1 a (List.mem_append_left _ ha), (List.nodup_append.mp (al p).2).1⟩) (fun j hj => hp j (in1 j hj)) b1) fun σ1 H1 ⟨eH, s1, len1, W1, st1, u1, g1⟩ => ?_⟩
      subst eH
      have key : P → ∀ a ∈ A2, ∀ j, a ∉ W1 j := fun p a ha j q => by
        by_cases z : j ∈ slotsT t
        · exact (List.nodup_append.mp (al p).2).2.2 a (g1 j z a q) a ha rfl
        · rw [u1 j z] at q; exact (al p).1 a (List.mem_append_right _ ha) j q
      refine wpGs_mono (binds_ok hN hnd hc ha P ts es' m2 r2 st1 (fun j hj => hl j (in2 j hj)) nd2 (fun a ha j oj q => ?_) (fun p => ⟨key p, (List.nodup_append.mp (al p).2).2.1⟩) (fun j hj => hp j (in2 j hj)) b2) fun σ2 H2 ⟨eH, s2, len2, W2, st2, u2, g2⟩ => ?_
      · by_cases z : j ∈ slotsT t
        · exact key (hp j (in1 j z) oj) a ha j q
        · rw [u1 j z] at q; exact ap a (List.mem_append_right _ ha) j oj q
      · subst eH
        refine ⟨rfl, fun j hj => ?_, len2.trans len1, W2, st2, fun j hj => ?_, fun j hj a q => ?_⟩
        · rw [s2 j fun z => hj (in2 j z), s1 j fun z => hj (in1 j z)]
        · rw [u2 j fun z => hj (in2 j z), u1 j fun z => hj (in1 j z)]
        · by_cases z : j ∈ slotsTs ts
          · exact List.mem_append_right _ (g2 j z a q)
          · rw [u2 j z] at q
            rcases List.mem_append.mp (show j ∈ slotsT t ++ slotsTs ts from hj) with y | y
            · exact List.mem_append_left _ (g1 j y a q)
            · exact absurd y z
end
end
end Vi

set_option Elab.async false
set_option linter.all false
set_option maxRecDepth 100000
set_option maxHeartbeats 4000000
/-! What is walked. -/
namespace Vi
open PySem L2 RT RZ

def Keeps (H H2 : Hp) (A0 : List Addr) : Prop := (∀ a o, H a = some o → mutO o = false → H2 a = some o) ∧ ∀ a ∈ A0, ∀ o, H a = some o → H2 a = some o
/-- what the turns give -/
structure ItOk (K : PySem.W.Frag) (H' : Hp) (A0 : List Addr) (xs : List D) (G : Hp → Prop) (Y : Nat → Hp → V → Hp → Prop) : Prop where
  keep : ∀ H2, Keeps H' H2 A0 → G H2
  item : ∀ i H2 x H3, Keeps H' H2 A0 → i < xs.length → Y i H2 x H3 → ∃ d A, xs[i]? = some d ∧ Rp K H3 x d A ∧ (∀ a o, H2 a = some o → H3 a = some o) ∧ ∀ a ∈ A, a ∈ A0
def PoI (K : PySem.W.Frag) (ms : List Bool) (I : Inf) (σ : St) (H : Hp) (W : Own) (ρ' : Env) (xs : List D) (J : It) (H' : Hp) : Prop :=
  ∃ (W' : Own) (A0 : List Addr) (G : Hp → Prop) (Y : Nat → Hp → V → Hp → Prop), Evo ms I.T H W H' W' ∧ Sts K H' ms σ ρ' W' ∧ Walk J xs.length G Y ∧ ItOk K H' A0 xs G Y ∧ (∀ a ∈ A0, H' a ≠ none) ∧ Vt ms I.T false I.s H W W' A0 ∧ (I.p = true → D.pures xs = true) ∧ ∀ a ∈ A0, (∃ k, a ∈ W k) ∨ H a = none
def SI (C : Cfg) (cf : Fns) (gl : Nat → Option D) (X : Cx) (ir : E) (e : Expr) : Prop :=
  ∀ tg σ H W ρ xs ρ', (needT ir = true → isTupE tg = true) → (inf C.ms C.pm ir).ok = true → Sts X.K H C.ms σ ρ W → (ev cf gl ir).i ρ = some (xs, ρ') → wpI X tg e σ H (PoI X.K C.ms (inf C.ms C.pm ir) σ H W ρ' xs)
section
variable {K : PySem.W.Frag} {H H2 : Hp} {A0 B : List Addr} {vs : List V} {ds : List D} {a : Addr}
theorem Keeps.rps (k : Keeps H H2 A0) (r : Rps K H vs ds B) (h : ∀ a ∈ B, a ∈ A0) : Rps K H2 vs ds B := r.keep k.1 fun a ha => k.2 a (h a ha)
theorem Keeps.rp {v : V} {d : D} (k : Keeps H H2 A0) (r : Rp K H v d B) (h : ∀ a ∈ B, a ∈ A0) : Rp K H2 v d B := r.keep k.1 fun a ha => k.2 a (h a ha)
theorem ItOk.at {G : Hp → Prop} (r : Rps K H vs ds B) (h : ∀ a ∈ B, a ∈ A0) (hg : ∀ H2, Keeps H H2 A0 → G H2) : ItOk K H A0 ds G (YAt vs) :=
  ⟨hg, fun i H2 x H3 k hi ⟨e, y⟩ => by
    subst e
    obtain ⟨d, B', e1, r1, s⟩ := r.getV y
    exact ⟨d, B', e1, k.rp r1 fun a ha => h a (s a ha), fun _ _ e => e, fun a ha => h a (s a ha)⟩⟩
theorem ItOk.rev {G : Hp → Prop} (r : Rps K H vs ds B) (h : ∀ a ∈ B, a ∈ A0) (hg : ∀ H2, Keeps H H2 A0 → G H2) : ItOk K H A0 ds.reverse G (fun i H x H' => H' = H ∧ vs[vs.length - 1 - i]? = some x) :=
  ⟨hg, fun i H2 x H3 k hi ⟨e, y⟩ => by
    subst e
    obtain ⟨d, B', e1, r1, s⟩ := r.getV y
    rw [List.length_reverse] at hi
    refine ⟨d, B', ?_, k.rp r1 fun a ha => h a (s a ha), fun _ _ e => e, fun a ha => h a (s a ha)⟩
    rw [List.getElem?_reverse hi, ← r.length]
    exact e1⟩
theorem ItOk.fn {f : Nat → Int} {n : Nat} : ItOk K H [] ((List.range n).map fun i => D.int (f i)) (fun _ => True) (YFn fun i => .int (f i)) :=
  ⟨fun _ _ => trivial, fun i H2 x H3 k hi ⟨e, y⟩ => by
    subst e; subst y
    rw [List.length_map, List.length_range] at hi
    exact ⟨.int (f i), [], by simp [hi], .int _, fun _ _ e => e, fun _ h => nomatch h⟩⟩
theorem enumD_get : ∀ (xs : List D) (n i : Nat), (enumD n xs)[i]? = (xs[i]?).map fun x => .tup [.int ((n + i : Nat) : Int), x]
  | [], _, _ => by simp [enumD]
  | x :: r, n, 0 => by simp [enumD]
  | x :: r, n, i + 1 => by
    have := enumD_get r (n + 1) i
    simp only [enumD, List.getElem?_cons_succ]
    rw [this, show n + 1 + i = n + (i + 1) by omega]
theorem enumD_len : ∀ (xs : List D) (n : Nat), (enumD n xs).length = xs.length
  | [], _ => rfl
  | x :: r, n => congrArg (· + 1) (enumD_len r (n + 1))
theorem zipD_get : ∀ (xs ys : List D) (i : Nat) (x y : D), xs[i]? = some x → ys[i]? = some y → (zipD xs ys)[i]? = some (.tup [x, y])
  | x :: r, y :: s, 0, _, _, h1, h2 => by simp at h1 h2; subst h1; subst h2; rfl
  | x :: r, y :: s, i + 1, _, _, h1, h2 => by
    have := zipD_get r s i _ _ (by simpa using h1) (by simpa using h2)
    simpa [zipD] using this
  | [], _, _, _, _, h1, _ => by simp at h1
  | _ :: _, [], _, _, _, _, h2 => by simp at h2
theorem zipD_len : ∀ (xs ys : List D), (zipD xs ys).length = min xs.length ys.length
  | x :: r, y :: s => by simp only [zipD, List.length_cons, zipD_len r s]; omega
  | [], _ => by simp [zipD]
  | _ :: _, [] => by simp [zipD]
theorem tup2 {p : Addr} {v w : V} {d e : D} {B2 : List Addr} (hp : H p = none) (r1 : Rp K H v d B) (r2 : Rp K H w e B2) : Rp K (upd H p (.tup [v, w])) (.ref p) (.tup [d, e]) (B ++ B2) :=
  .tup upd_same (.cons (r1.ext (ext_new hp)) (.one (r2.ext (ext_new hp))))
theorem ItOk.enum {G : Hp → Prop} (r : Rps K H vs ds B) (h : ∀ a ∈ B, a ∈ A0) (hg : ∀ H2, Keeps H H2 A0 → G H2) : ItOk K H A0 (enumD 0 ds) G (YPair (fun i => some (.int (i : Nat))) (fun i => vs[i]?)) :=
  ⟨hg, fun i H2 x H3 k hi y => by
    obtain ⟨T, x1, y1, rfl, hT, rfl, e1, e2⟩ := y
    cases e1
    obtain ⟨d, B', e3, r1, s⟩ := r.getV e2
    refine ⟨.tup [.int (i : Nat), d], [] ++ B', ?_, tup2 hT (.int _) (k.rp r1 fun a ha => h a (s a ha)), ext_new hT, fun a ha => h a (s a (by simpa using ha))⟩
    rw [enumD_get, e3, Nat.zero_add]; rfl⟩
theorem ItOk.zip {G : Hp → Prop} {ws : List V} {es : List D} {B2 : List Addr} (r : Rps K H vs ds B) (r2 : Rps K H ws es B2) (h : ∀ a ∈ B, a ∈ A0) (h2 : ∀ a ∈ B2, a ∈ A0) (hg : ∀ H2, Keeps H H2 A0 → G H2) : ItOk K H A0 (zipD ds es) G (YPair (fun i => vs[i]?) (fun i => ws[i]?)) :=
  ⟨hg, fun i H2 x H3 k hi y => by
    obtain ⟨T, x1, y1, rfl, hT, rfl, e1, e2⟩ := y
    obtain ⟨d, B', e3, q1, s⟩ := r.getV e1
    obtain ⟨d', B'', e4, q2, s'⟩ := r2.getV e2
    exact ⟨.tup [d, d'], B' ++ B'', zipD_get _ _ _ _ _ e3 e4, tup2 hT (k.rp q1 fun a ha => h a (s a ha)) (k.rp q2 fun a ha => h2 a (s' a ha)), ext_new hT, fun a ha => by
      rcases List.mem_append.mp ha with q | q
      · exact h a (s a q)
      · exact h2 a (s' a q)⟩⟩
theorem walk_revT : Walk (ItvT K a vs.length) vs.length (fun H => SqT K H a vs) (fun i H x H' => H' = H ∧ vs[vs.length - 1 - i]? = some x) :=
  ⟨fun i _ hi q => ⟨hi, vs, vs[vs.length - 1 - i]'(by omega), q, by simp [show vs.length - 1 - i < vs.length by omega]⟩, fun _ _ => Nat.le_refl _, fun _ _ _ _ _ q y => ⟨y.1, y.2 vs q⟩⟩
theorem walk_zipT {b : Addr} {ws : List V} {n : Nat} (hn : n = min vs.length ws.length) : Walk (ItzT K a b) n (fun H => SqT K H a vs ∧ SqT K H b ws) (YPair (fun i => vs[i]?) (fun i => ws[i]?)) := by
  subst hn
  refine ⟨fun i _ hi q => ?_, fun _ q => ⟨vs, ws, q.1, q.2, by omega⟩, fun i H v H' _ q y => ?_⟩
  · have h1 : i < vs.length := by omega
    have h2 : i < ws.length := by omega
    exact ⟨vs, ws, vs[i], ws[i], q.1, q.2, by simp [h1], by simp [h2]⟩
  · obtain ⟨T, x, z, h1, h2, h3, h4, h5⟩ := y
    exact ⟨T, x, z, h1, h2, h3, h4 vs q.1, h5 ws q.2⟩
end

section
variable {C : Cfg} {cf : Fns} {gl : Nat → Option D} {X : Cx}
/-- a value that is walked -/
theorem i_val {ir : E} {e : Expr} (h : SE C cf gl X ir e) (hi : (ev cf gl ir).i = iOf (ev cf gl ir).v) (hp : (nf C ir).p = false) : SI C cf gl X ir e := by
  intro tg σ H W ρ xs ρ' _ k st h2
  rw [hi] at h2
  simp only [iOf, Option.bind_eq_some_iff, Option.map_eq_some_iff, Prod.exists, Prod.mk.injEq] at h2
  obtain ⟨d, ρ1, e1, xs', e2, rfl, rfl⟩ := h2
  have q := h σ H W ρ _ _ k st e1
  cases d <;> try (cases e2; done)
  · cases e2
    refine of_pi (pi_tup (pe X e)) (wpE_mono q fun v H1 ⟨W1, A, ev1, st1, r, t, ov, _⟩ => ?_)
    have al := alive_ne r
    cases r with
    | tup ea rs =>
      exact ⟨_, rfl, ⟨_, .of ea⟩, W1, A, _, _, ev1, st1, rs.length ▸ walk_tup, .at rs (fun _ h => h) (fun H2 kk => .of (kk.1 _ _ ea rfl)), al, t.weak, fun z => absurd z (by rw [hp]; decide), ov⟩
  · cases e2
    refine of_pi (pi_list (pe X e)) (wpE_mono q fun v H1 ⟨W1, A, ev1, st1, r, t, ov, _⟩ => ?_)
    have al := alive_ne r
    cases r with
    | lst ea rs =>
      exact ⟨_, rfl, ⟨_, .of ea⟩, W1, _, _, _, ev1, st1, rs.length ▸ walk_list, .at rs (fun _ h => List.mem_cons_of_mem _ h) (fun H2 kk => .of (kk.2 _ (List.mem_cons_self ..) _ ea)), al, t.weak, fun z => absurd z (by rw [hp]; decide), ov⟩
theorem i_chk {ir : E} {e : Expr} (h : SI C cf gl X ir e) : SI C cf gl X (.ichk ir) e := by
  intro tg σ H W ρ xs ρ' hn k st h2
  simp only [ev, ofI, Option.bind_eq_some_iff, Prod.exists] at h2
  obtain ⟨ys, ρ1, e1, e2⟩ := h2
  split at e2
  · rename_i hp
    simp only [Option.some.injEq, Prod.mk.injEq] at e2
    obtain ⟨rfl, rfl⟩ := e2
    exact wpI_mono (h tg σ H W ρ _ _ hn k st e1) fun J H1 ⟨W1, A0, G, Y, ev1, st1, w, it, al, t, _, ov⟩ => ⟨W1, A0, G, Y, ev1, st1, w, it, al, t, fun _ => hp, ov⟩
  · cases e2
theorem pures_ints (f : Nat → Int) : ∀ l : List Nat, D.pures (l.map fun i => D.int (f i)) = true
  | [] => rfl
  | x :: r => pures_ints f r
theorem small_of {i : Int} (h : small i = true) : -(2 ^ 62) ≤ i ∧ i < 2 ^ 62 := by
  unfold small at h
  have := of_decide_eq_true h
  omega
theorem isI_of {d : D} {i : Int} (h : isI d = some i) : d = .int i := by
  cases d <;> cases h; rfl
theorem i_rng1 (G : Good C cf gl X) {a : E} {x : Expr} {f : Str} {p pos : Pos} (hf : gloIs X.env.scope f "range" = true) (hs : notStar x = true) (ha : SE C cf gl X a x) : SI C cf gl X (.irng1 a) (.Call (.Name f p) [x] [] pos) := by
  intro tg σ H W ρ xs ρ' _ k st h2
  simp only [ev, ofI, Option.bind_eq_some_iff, Option.map_eq_some_iff, Prod.exists, Prod.mk.injEq] at h2
  obtain ⟨d, ρ1, e1, ys, e2, rfl, rfl⟩ := h2
  obtain ⟨n, e3, e4⟩ := Option.bind_eq_some_iff.mp e2
  split at e4
  · rename_i hsm
    cases e4
    obtain ⟨rfl, hg, hd⟩ := glo_of hf
    refine of_pi (pi_range1 hg (G.bl _ (by decide)) (pa X [x]) (by rw [star_cons hs]; rfl)) (nest_args (by simp [hs]) (wpE_mono (ha σ H W ρ _ _ k st e1) fun v H1 ⟨W1, A, ev1, st1, r, t, ov, _⟩ => ?_))
    rw [isI_of e3] at r
    cases r
    obtain ⟨b1, b2⟩ := small_of hsm
    refine ⟨n, rfl, b1, b2, W1, [], _, _, ev1, st1, ?_, .fn (f := fun i => 0 + (i : Int)), fun _ h => (nomatch h), .nilS, fun _ => pures_ints _ _, fun _ h => (nomatch h)⟩
    have : (rngUp 0 n.toNat).length = n.toNat := by unfold rngUp; rw [List.length_map, List.length_range]
    show Walk _ (rngUp 0 n.toNat).length _ _
    rw [this]; exact walk_range
  · cases e4
theorem i_rng2 (G : Good C cf gl X) {a b : E} {x y : Expr} {f : Str} {p pos : Pos} (hf : gloIs X.env.scope f "range" = true) (hs : notStar x = true) (hs2 : notStar y = true) (ha : SE C cf gl X a x) (hb : SE C cf gl X b y) : SI C cf gl X (.irng2 a b) (.Call (.Name f p) [x, y] [] pos) := by
  intro tg σ H W ρ xs ρ' _ k st h2
  simp only [ev, ofI, Option.bind_eq_some_iff, Option.map_eq_some_iff, Prod.exists, Prod.mk.injEq] at h2
  obtain ⟨d, ρ1, e1, d', ρ2, e2, ys, e3, rfl, rfl⟩ := h2
  have k' : ((nf C a).ok = true ∧ (nf C b).ok = true) ∧ dis (nf C a).s (nf C b).T = true := by simpa only [nf, inf, Bool.and_eq_true] using k
  obtain ⟨i, e4, e5⟩ := Option.bind_eq_some_iff.mp e3
  obtain ⟨j, e6, e7⟩ := Option.bind_eq_some_iff.mp e5
  split at e7
  · rename_i hsm
    cases e7
    have hsm' := Bool.and_eq_true_iff.mp hsm
    obtain ⟨rfl, hg, hd⟩ := glo_of hf
    refine of_pi (pi_range2 hg (G.bl _ (by decide)) (pa X [x, y]) (by rw [star_cons hs, star_cons hs2]; rfl) (by rw [star_cons hs2]; rfl)) (nest_args (by simp [hs, hs2]) (nest_mono (args_ok (.cons ha (se_of hb)) (allK2 k'.1.1 k'.1.2 k'.2) st (evs2 e1 e2)) fun vs H2 hp => ?_))
    obtain ⟨W2, As, ev2, st2, l⟩ := hp
    obtain ⟨v1, v2, B, D', rfl, r1, r2, _⟩ := Rps.two_inv l.rps
    rw [isI_of e4] at r1
    rw [isI_of e6] at r2
    cases r1; cases r2
    obtain ⟨b1, b2⟩ := small_of hsm'.1
    obtain ⟨b3, b4⟩ := small_of hsm'.2
    rw [show allT (infs C.ms C.pm [a, b]) = (nf C a).T ++ (nf C b).T from allT2] at ev2
    refine ⟨i, j, rfl, ⟨b1, b2, b3, b4⟩, W2, [], _, _, ev2, st2, ?_, .fn (f := fun k => i + (k : Int)), fun _ h => (nomatch h), .nilS, fun _ => pures_ints _ _, fun _ h => (nomatch h)⟩
    have : (rngUp i (j - i).toNat).length = (j - i).toNat := by unfold rngUp; rw [List.length_map, List.length_range]
    show Walk _ (rngUp i (j - i).toNat).length _ _
    rw [this]; exact walk_range
  · cases e7
theorem i_rng3 (G : Good C cf gl X) {a b c : E} {x y z : Expr} {f : Str} {p pos : Pos} (hf : gloIs X.env.scope f "range" = true) (hs : notStar x = true) (hs2 : notStar y = true) (hs3 : notStar z = true) (ha : SE C cf gl X a x) (hb : SE C cf gl X b y) (hc : SE C cf gl X c z)
    : SI C cf gl X (.irng3 a b c) (.Call (.Name f p) [x, y, z] [] pos) := by
  intro tg σ H W ρ xs ρ' _ k st h2
  simp only [ev, ofI, Option.bind_eq_some_iff, Option.map_eq_some_iff, Prod.exists, Prod.mk.injEq] at h2
  obtain ⟨d, ρ1, e1, d', ρ2, e2, d'', ρ3, e3, ys, e4, rfl, rfl⟩ := h2
  obtain ⟨i, e5, e6⟩ := Option.bind_eq_some_iff.mp e4
  obtain ⟨j, e7, e8⟩ := Option.bind_eq_some_iff.mp e6
  obtain ⟨c', e9, e10⟩ := Option.bind_eq_some_iff.mp e8
  have k' : allK [nf C a, nf C b, nf C c] = true := k
  split at e10
  · rename_i hsm
    cases e10
    simp only [Bool.and_eq_true, bne_iff_ne, decide_eq_true_eq] at hsm
    obtain ⟨⟨⟨s1, s2⟩, s3⟩, s4⟩ := hsm
    obtain ⟨rfl, hg, hd⟩ := glo_of hf
    refine of_pi (pi_range3 hg (G.bl _ (by decide)) (pa X [x, y, z]) (by rw [star_cons hs]) (star_all (by simp [hs2, hs3]) X.env pos)) (nest_args (by simp [hs, hs2, hs3]) (nest_mono (args_ok (.cons ha (.cons hb (se_of hc))) k' st (evs3 e1 e2 e3)) fun vs H2 hp => ?_))
    obtain ⟨W2, As, ev2, st2, l⟩ := hp
    rw [show allT (infs C.ms C.pm [a, b, c]) = (nf C a).T ++ ((nf C b).T ++ (nf C c).T) from allT3] at ev2
    have rr := l.rps
    generalize As.flatten = B at rr
    rw [isI_of e5, isI_of e7, isI_of e9] at rr
    cases rr with
    | cons q1 rr =>
      cases rr with
      | cons q2 rr =>
        cases rr with
        | cons q3 rr =>
          cases rr
          cases q1; cases q2; cases q3
          refine ⟨i, j, c', rngLen i j c', rfl, ⟨s1, of_decide_eq_true s2, s3, s4⟩, W2, [], _, _, ev2, st2, ?_, .fn (f := fun k => i + (k : Int) * c'), fun _ h => (nomatch h), .nilS, fun _ => pures_ints _ _, fun _ h => (nomatch h)⟩
          have : (rngStep i c' (rngLen i j c')).length = rngLen i j c' := by unfold rngStep; rw [List.length_map, List.length_range]
          show Walk _ (rngStep i c' (rngLen i j c')).length _ _
          rw [this]; exact walk_rangeC
  · cases e10
theorem i_enum (G : Good C cf gl X) {a : E} {x : Expr} {f : Str} {p pos : Pos} (hf : gloIs X.env.scope f "enumerate" = true) (hs : notStar x = true) (ha : SE C cf gl X a x) : SI C cf gl X (.ienum a) (.Call (.Name f p) [x] [] pos) := by
  intro tg σ H W ρ xs ρ' hn k st h2
  simp only [ev, ofI, Option.bind_eq_some_iff, Option.map_eq_some_iff, Prod.exists, Prod.mk.injEq] at h2
  obtain ⟨d, ρ1, e1, ys, e2, rfl, rfl⟩ := h2
  have ht := hn rfl
  cases tg <;> try (cases ht; done)
  obtain ⟨rfl, hg, hd⟩ := glo_of hf
  refine of_pi (pi_enumA hg (G.bl _ (by decide)) (pa X [x]) (by rw [star_cons hs]; rfl)) (nest_args (by simp [hs]) (wpE_mono (ha σ H W ρ _ _ k st e1) fun v H1 ⟨W1, A, ev1, st1, r, t, ov, _⟩ => ?_))
  have al := alive_ne r
  cases r with
  | lst ea rs =>
    cases e2
    refine ⟨_, _, rfl, .inl ⟨.of ea, W1, _, _, _, ev1, st1, ?_, .enum rs (fun _ h => List.mem_cons_of_mem _ h) (fun H2 kk => (SqL.of (kk.2 _ (List.mem_cons_self ..) _ ea) : SqL X.K H2 _ _)), al, t.weak, ft, ov⟩⟩
    rw [enumD_len, ← rs.length]
    exact walk_enum
  | tup ea rs =>
    cases e2
    refine ⟨_, _, rfl, .inr ⟨.of ea, W1, _, _, _, ev1, st1, ?_, .enum rs (fun _ h => h) (fun H2 kk => (SqT.of (kk.1 _ _ ea rfl) : SqT X.K H2 _ _)), al, t.weak, ft, ov⟩⟩
    rw [enumD_len, ← rs.length]
    exact walk_enumT
  | _ => cases e2
theorem i_rev (G : Good C cf gl X) {a : E} {x : Expr} {f : Str} {p pos : Pos} (hf : gloIs X.env.scope f "reversed" = true) (hs : notStar x = true) (ha : SE C cf gl X a x) : SI C cf gl X (.irev a) (.Call (.Name f p) [x] [] pos) := by
  intro tg σ H W ρ xs ρ' _ k st h2
  simp only [ev, ofI, Option.bind_eq_some_iff, Option.map_eq_some_iff, Prod.exists, Prod.mk.injEq] at h2
  obtain ⟨d, ρ1, e1, ys, e2, rfl, rfl⟩ := h2
  obtain ⟨rfl, hg, hd⟩ := glo_of hf
  refine of_pi (pi_revA hg (G.bl _ (by decide)) (pe X x) (by rw [star_cons hs])) (wpE_mono (ha σ H W ρ _ _ k st e1) fun v H1 ⟨W1, A, ev1, st1, r, t, ov, _⟩ => ?_)
  have al := alive_ne r
  cases r with
  | lst ea rs =>
    cases e2
    refine ⟨_, _, rfl, .inl ⟨.of ea, W1, _, _, _, ev1, st1, ?_, .rev rs (fun _ h => List.mem_cons_of_mem _ h) (fun H2 kk => (SqL.of (kk.2 _ (List.mem_cons_self ..) _ ea) : SqL X.K H2 _ _)), al, t.weak, ft, ov⟩⟩
    rw [List.length_reverse, ← rs.length]
    exact walk_rev
  | tup ea rs =>
    cases e2
    refine ⟨_, _, rfl, .inr ⟨.of ea, W1, _, _, _, ev1, st1, ?_, .rev rs (fun _ h => h) (fun H2 kk => (SqT.of (kk.1 _ _ ea rfl) : SqT X.K H2 _ _)), al, t.weak, ft, ov⟩⟩
    rw [List.length_reverse, ← rs.length]
    exact walk_revT
  | _ => cases e2
theorem i_zip (G : Good C cf gl X) {a b : E} {x y : Expr} {f : Str} {p pos : Pos} (hf : gloIs X.env.scope f "zip" = true) (hs : notStar x = true) (hs2 : notStar y = true) (ha : SE C cf gl X a x) (hb : SE C cf gl X b y) : SI C cf gl X (.izip a b) (.Call (.Name f p) [x, y] [] pos) := by
  intro tg σ H W ρ xs ρ' hn k st h2
  simp only [ev, ofI, Option.bind_eq_some_iff, Option.map_eq_some_iff, Prod.exists, Prod.mk.injEq] at h2
  obtain ⟨d, ρ1, e1, d', ρ2, e2, xs1, ys1, e3, rfl, rfl⟩ := h2
  have k' : ((nf C a).ok = true ∧ (nf C b).ok = true) ∧ dis (nf C a).s (nf C b).T = true := by simpa only [nf, inf, Bool.and_eq_true] using k
  have ht := hn rfl
  cases tg <;> try (cases ht; done)
  obtain ⟨rfl, hg, hd⟩ := glo_of hf
  refine of_pi (pi_zipA hg (G.bl _ (by decide)) (pa X [x, y]) (by rw [star_cons hs]) (star_all (by simp [hs2]) X.env pos)) (nest_args (by simp [hs, hs2]) (nest_mono (args_ok (.cons ha (se_of hb)) (allK2 k'.1.1 k'.1.2 k'.2) st (evs2 e1 e2)) fun vs H2 hp => ?_))
  obtain ⟨W2, As, ev2, st2, l⟩ := hp
  obtain ⟨t1, t2, ov⟩ := l.vt
  have al := alives_ne l.rps
  obtain ⟨v1, v2, B, D', rfl, r1, r2, eA⟩ := Rps.two_inv l.rps
  rw [show allT (infs C.ms C.pm [a, b]) = (nf C a).T ++ (nf C b).T from allT2] at ev2 t1
  rw [show allS (infs C.ms C.pm [a, b]) = (nf C a).s ++ (nf C b).s from allS2] at t1
  rw [eA] at t1 al ov
  have hl : ∀ {vs1 vs2 : List V} {ds1 ds2 : List D} {B1 B2 : List Addr}, Rps X.K H2 vs1 ds1 B1 → Rps X.K H2 vs2 ds2 B2 → (zipD ds1 ds2).length = min vs1.length vs2.length := fun q1 q2 => by rw [zipD_len, q1.length, q2.length]
  cases r1 with
  | lst ea rs =>
    cases d' <;> try (cases e3; done)
    cases e3
    cases r2 with
    | lst eb rs2 =>
      exact ⟨_, _, _, _, rfl, .inl ⟨.of ea, .of eb, W2, _, _, _, ev2, st2, walk_zip (hl rs rs2), .zip rs rs2 (fun _ h => List.mem_append_left _ (List.mem_cons_of_mem _ h)) (fun _ h => List.mem_append_right _ (List.mem_cons_of_mem _ h)) (fun H2 kk => (⟨SqL.of (kk.2 _ (List.mem_append_left _ (List.mem_cons_self ..)) _ ea), SqL.of (kk.2 _ (List.mem_append_right _ (List.mem_cons_self ..)) _ eb)⟩ : SqL X.K H2 _ _ ∧ SqL X.K H2 _ _)), al, t1, ft, ov⟩⟩
  | tup ea rs =>
    cases d' <;> try (cases e3; done)
    cases e3
    cases r2 with
    | tup eb rs2 =>
      exact ⟨_, _, _, _, rfl, .inr ⟨.of ea, .of eb, W2, _, _, _, ev2, st2, walk_zipT (hl rs rs2), .zip rs rs2 (fun _ h => List.mem_append_left _ h) (fun _ h => List.mem_append_right _ h) (fun H2 kk => (⟨SqT.of (kk.1 _ _ ea rfl), SqT.of (kk.1 _ _ eb rfl)⟩ : SqT X.K H2 _ _ ∧ SqT X.K H2 _ _)), al, t1, ft, ov⟩⟩
  | _ => cases d' <;> cases e3
end
end Vi

set_option Elab.async false
set_option linter.all false
set_option maxRecDepth 100000
set_option maxHeartbeats 4000000
/-! List comprehensions. -/
namespace Vi
open PySem L2

theorem wipe_get (σ : St) (j : Nat) : ∀ (vs : List Nat), (wipe σ vs)[j]? = if j ∈ vs ∧ j < σ.length then some none else σ[j]?
  | [] => by simp [wipe]; try exact fun h => nomatch h
  | v :: vs => by
    unfold wipe
    rw [List.getElem?_set, wipe_length, wipe_get σ j vs]
    by_cases h : v = j
    · subst h
      by_cases h2 : v < σ.length
      · simp [h2]
      · simp [h2]
    · simp [h, Ne.symm h]
theorem wipeE_length (ρ : Env) : ∀ vs : List Nat, (wipeE ρ vs).length = ρ.length
  | [] => rfl
  | v :: vs => by unfold wipeE; rw [List.length_set, wipeE_length ρ vs]
theorem restE_length (ρ1 ρ : Env) : ∀ vs : List Nat, (restE ρ1 ρ vs).length = ρ.length
  | [] => rfl
  | v :: vs => by unfold restE; rw [List.length_set, restE_length ρ1 ρ vs]
theorem getS_none_of {ρ : Env} {j : Nat} (h : ρ.length ≤ j) : getS ρ j = none := by unfold getS; rw [List.getElem?_eq_none h]; rfl
theorem getS_wipe (ρ : Env) (j : Nat) : ∀ (vs : List Nat), getS (wipeE ρ vs) j = if j ∈ vs then none else getS ρ j
  | [] => by simp [wipeE]
  | v :: vs => by
    unfold wipeE
    rw [getS_set, wipeE_length, getS_wipe ρ j vs]
    by_cases h : v = j
    · subst h
      by_cases h2 : v < ρ.length
      · simp [h2]
      · have := getS_none_of (ρ := ρ) (j := v) (by omega)
        simp [h2, this]
    · simp [h, Ne.symm h]
theorem getS_rest (ρ1 ρ : Env) (hl : ρ1.length = ρ.length) (j : Nat) : ∀ (vs : List Nat), getS (restE ρ1 ρ vs) j = if j ∈ vs then getS ρ1 j else getS ρ j
  | [] => by simp [restE]
  | v :: vs => by
    unfold restE
    rw [getS_set, restE_length, getS_rest ρ1 ρ hl j vs]
    by_cases h : v = j
    · subst h
      by_cases h2 : v < ρ.length
      · simp [h2]
      · have h3 := getS_none_of (ρ := ρ) (j := v) (by omega)
        have h4 := getS_none_of (ρ := ρ1) (j := v) (by omega)
        simp [h2, h3, h4]
    · simp [h, Ne.symm h]
def offs (vs : List Nat) (W : Own) : Own := fun j => if j ∈ vs then [] else W j
def onto (vs : List Nat) (W1 W : Own) : Own := fun j => if j ∈ vs then W1 j else W j
section
variable {K : PySem.W.Frag} {ms : List Bool} {T S : List Nat} {σ : St} {H H1 H2 H' : Hp} {W W1 W2 W' U U' : Own} {ρ ρ1 ρe : Env} {A : List Addr} {vs : List Nat} {o : Bool} {s : List Nat}
theorem offs_in {j : Nat} (h : j ∈ vs) : offs vs W j = [] := if_pos h
theorem offs_out {j : Nat} (h : j ∉ vs) : offs vs W j = W j := if_neg h
theorem onto_in {j : Nat} (h : j ∈ vs) : onto vs W1 W j = W1 j := if_pos h
theorem onto_out {j : Nat} (h : j ∉ vs) : onto vs W1 W j = W j := if_neg h
theorem offs_sub {j : Nat} {a : Addr} (h : a ∈ offs vs W j) : a ∈ W j := by
  by_cases z : j ∈ vs
  · rw [offs_in z] at h; cases h
  · rwa [offs_out z] at h
theorem Sts.wipe (st : Sts K H ms σ ρ W) : Sts K H ms (L2.wipe σ vs) (wipeE ρ vs) (offs vs W) where
  sl := fun j d e => by
    rw [getS_wipe] at e
    by_cases z : j ∈ vs
    · rw [if_pos z] at e; cases e
    · rw [if_neg z] at e
      obtain ⟨v, e1, r⟩ := st.sl j d e
      exact ⟨v, by rw [wipe_get, if_neg (fun y => z y.1)]; exact e1, by rw [offs_out z]; exact r⟩
  em := fun j e => by
    rw [getS_wipe] at e
    by_cases z : j ∈ vs
    · exact offs_in z
    · rw [if_neg z] at e; rw [offs_out z]; exact st.em j e
  ln := by rw [wipeE_length, wipe_length]; exact st.ln
  lm := by rw [wipe_length]; exact st.lm
  nd := fun j oj => by
    by_cases z : j ∈ vs
    · rw [offs_in z]; exact List.nodup_nil
    · rw [offs_out z]; exact st.nd j oj
  tb := st.tb
  dj := fun j k a oj ne h1 h2 => st.dj j k a oj ne (offs_sub h1) (offs_sub h2)
theorem Evo.congr (e : Evo ms T H W H' W') (h : ∀ j, owns ms j = true → U j = W j) (h' : ∀ j, owns ms j = true → U' j = W' j) (u : ∀ j, j ∉ T → U' j = U j) : Evo ms T H U H' U' :=
  ⟨e.imm, fun a o q k => e.kp a o q fun j hj oj => by rw [← h j oj]; exact k j hj oj, u, fun j hj oj a ha => by
    rw [h' j oj] at ha
    exact (e.nw j hj oj a ha).imp_left fun ⟨k, hk, ok, q⟩ => ⟨k, hk, ok, by rw [h k ok]; exact q⟩, e.dom⟩
theorem Vt.congr (t : Vt ms T o s H W W' A) (h : ∀ j, owns ms j = true → U j = W j) (h' : ∀ j a, a ∈ U' j → a ∈ W' j) : Vt ms T o s H U U' A :=
  ⟨fun a ha j oj hj q => t.ap a ha j oj hj (h' j a q), fun z a ha j q => t.al z a ha j (h' j a q), t.nd, fun z a ha => (t.og z a ha).imp_left fun ⟨k, hk, ok, q⟩ => ⟨k, hk, ok, by rw [h k ok]; exact q⟩, t.os⟩
/-- it stays out of what the owning slots have -/
theorem Evo.notin (e : Evo ms T H W H' W') {a : Addr} (h : ∀ j, owns ms j = true → a ∉ W j) (ha : H a ≠ none) : ∀ j, owns ms j = true → a ∉ W' j := fun j oj q => by
  by_cases z : j ∈ T
  · rcases e.nw j z oj a q with ⟨k, _, ok, q⟩ | q
    · exact h k ok q
    · exact ha q
  · rw [e.un j z] at q; exact h j oj q
theorem Evo.notinAll (e : Evo ms T H W H' W') (hT : ∀ j ∈ T, owns ms j = true) {a : Addr} (h : ∀ j, a ∉ W j) (ha : H a ≠ none) : ∀ j, a ∉ W' j := fun j q => by
  by_cases z : j ∈ T
  · rcases e.nw j z (hT j z) a q with ⟨k, _, ok, q⟩ | q
    · exact h k q
    · exact ha q
  · rw [e.un j z] at q; exact h j q
/-- the block's slots stand again -/
theorem Sts.rest (st1 : Sts K H1 ms σ ρ1 W1) (hvs : ∀ j ∈ vs, owns ms j = false) (stE : Sts K H2 ms (L2.wipe σ vs) (wipeE ρe vs) W2) (ev : Evo ms T H1 (offs vs W1) H2 W2) (hT : ∀ j ∈ T, owns ms j = true) : Sts K H2 ms σ (restE ρ1 ρe vs) (onto vs W1 W2) := by
  have le : ρe.length = σ.length := by have := stE.ln; rwa [wipeE_length, wipe_length] at this
  have lr : ρ1.length = ρe.length := by rw [le]; exact st1.ln
  have ow : ∀ j, owns ms j = true → j ∉ vs := fun j oj z => by rw [hvs j z] at oj; cases oj
  have cross : ∀ j k a, owns ms j = true → k ∈ vs → a ∈ W2 j → a ∉ W1 k := fun j k a oj hk q1 q2 => by
    have nj := ow j oj
    by_cases z : j ∈ T
    · rcases ev.nw j z oj a q1 with ⟨k', _, ok', q⟩ | q
      · exact st1.dj k' k a ok' (fun e => ow k' ok' (e ▸ hk)) (offs_sub q) q2
      · exact st1.alive q2 q
    · rw [ev.un j z, offs_out nj] at q1
      exact st1.dj j k a oj (fun e => nj (e ▸ hk)) q1 q2
  refine ⟨fun j d e => ?_, fun j e => ?_, by rw [restE_length]; exact le, st1.lm, fun j oj => ?_, fun j k a oj ne h1 h2 => ?_, stE.tb⟩
  · rw [getS_rest ρ1 ρe lr] at e
    by_cases z : j ∈ vs
    · rw [if_pos z] at e
      obtain ⟨v, e1, r⟩ := st1.sl j d e
      refine ⟨v, e1, ?_⟩
      rw [onto_in z]
      exact r.evo ev fun a ha k hk ok q => st1.dj k j a ok (fun y => ow k ok (y ▸ z)) (offs_sub q) ha
    · rw [if_neg z] at e
      obtain ⟨v, e1, r⟩ := stE.sl j d (by rw [getS_wipe, if_neg z]; exact e)
      rw [wipe_get, if_neg (fun y => z y.1)] at e1
      exact ⟨v, e1, by rw [onto_out z]; exact r⟩
  · rw [getS_rest ρ1 ρe lr] at e
    by_cases z : j ∈ vs
    · rw [if_pos z] at e; rw [onto_in z]; exact st1.em j e
    · rw [if_neg z] at e; rw [onto_out z]; exact stE.em j (by rw [getS_wipe, if_neg z]; exact e)
  · rw [onto_out (ow j oj)]; exact stE.nd j oj
  · rw [onto_out (ow j oj)] at h1
    by_cases z : k ∈ vs
    · rw [onto_in z] at h2; exact cross j k a oj z h1 h2
    · rw [onto_out z] at h2; exact stE.dj j k a oj ne h1 h2

/-- in the turns: the list at D shows acc -/
structure LcInv (K : PySem.W.Frag) (ms : List Bool) (T : List Nat) (o : Bool) (s : List Nat) (σ : St) (vs : List Nat) (H1 : Hp) (W1 : Own) (P : Addr → Prop) (D : Addr) (ρ : Env) (acc : List Vi.D) (H : Hp) (W : Own) (accV : List V) (A : List Addr) : Prop where
  st : Sts K H ms (L2.wipe σ vs) (wipeE ρ vs) W
  ev : Evo ms T H1 W1 H W
  hD : H D = some (.lst accV)
  rs : Rps K H accV acc A
  nD : ∀ j, D ∉ W j
  nA : D ∉ A
  vt : Vt ms T o s H1 W1 W A
  ov : ∀ a ∈ A, P a
abbrev LcI (K : PySem.W.Frag) (ms : List Bool) (T : List Nat) (o : Bool) (s : List Nat) (σ : St) (vs : List Nat) (H1 : Hp) (W1 : Own) (P : Addr → Prop) (D : Addr) (ρ : Env) (acc : List Vi.D) (H : Hp) : Prop := ∃ W accV A, LcInv K ms T o s σ vs H1 W1 P D ρ acc H W accV A
theorem wipe_again {σ2 : St} (hl : σ2.length = (L2.wipe σ vs).length) (h : ∀ j, j ∉ vs → σ2[j]? = (L2.wipe σ vs)[j]?) : L2.wipe σ2 vs = L2.wipe σ vs := by
  apply List.ext_getElem?
  intro j
  rw [wipe_get]
  by_cases z : j ∈ vs
  · rw [wipe_length] at hl
    rw [wipe_get, hl]
    by_cases y : j < σ.length
    · simp [z, y]
    · rw [if_neg (fun w => y w.2), if_neg (fun w => y w.2), List.getElem?_eq_none (by omega), List.getElem?_eq_none (by omega)]
  · rw [if_neg (fun y => z y.1)]; exact h j z
theorem Evo.written {D : Addr} {u : HO} (e : Evo ms T H W H' W') (hn : H D = none) : Evo ms T H W (upd H' D u) W' :=
  ⟨fun a x q m => by rw [upd_ne (ne_of_none q hn)]; exact e.imm a x q m, fun a x q k => by rw [upd_ne (ne_of_none q hn)]; exact e.kp a x q k, e.un, e.nw, fun a q => e.dom a (by
    by_cases z : a = D
    · subst z; rw [upd_same] at q; cases q
    · rwa [upd_ne z] at q)⟩
end

section
variable {C : Cfg} {cf : Fns} {gl : Nat → Option D}
def lcB (cf : Fns) (gl : Nat → Option D) (x : Tg) (c : Option E) (elt : E) : D → Env → Option (Option D × Env) := fun d ρ => (bindT x d (wipeE ρ (slotsT x))).bind fun ρ1 => (evc cf gl c ρ1).bind fun (b, ρ2) => if b then ((ev cf gl elt).v ρ2).map fun (y, ρ3) => (some y, ρ3) else some (none, ρ2)
variable {K : PySem.W.Frag} {x : Tg} {c : Option E} {elt : E} {g : TG} {tt : TT} {te : TE}
/-- what the parts of a block do -/
structure BlkSem (C : Cfg) (cf : Fns) (gl : Nat → Option D) (K : PySem.W.Frag) (x : Tg) (c : Option E) (g : TG) (tt : TT) : Prop where
  hg : ∀ {v : V} {d : D} {A : List Addr} {σ : St} {ρ ρ' : Env} {W : Own} {H : Hp} {Q : St → Hp → Prop}, Rp K H v d A → Sts K H C.ms σ ρ W → (∀ a ∈ A, ∀ j, owns C.ms j = true → a ∉ W j) → bindT x d ρ = some ρ' →
    (∀ σ' H', H' = H → (∀ j, j ∉ slotsT x → σ'[j]? = σ[j]?) → σ'.length = σ.length → ∀ W', Sts K H C.ms σ' ρ' W' → (∀ j, j ∉ slotsT x → W' j = W j) → (∀ j ∈ slotsT x, ∀ a ∈ W' j, a ∈ A) → Q σ' H') → g v σ H Q
  ht : ∀ {σ : St} {H : Hp} {W : Own} {ρ ρ' : Env} {b : Bool} {Q : Bool → Hp → Prop}, Sts K H C.ms σ ρ W → evc cf gl c ρ = some (b, ρ') → (∀ H' W', Evo C.ms (infc C.ms C.pm c).T H W H' W' → Sts K H' C.ms σ ρ' W' → Q b H') → tt σ H Q
def EltSem (C : Cfg) (cf : Fns) (gl : Nat → Option D) (K : PySem.W.Frag) (elt : E) (te : TE) : Prop :=
  ∀ {σ : St} {H : Hp} {W : Own} {ρ ρ' : Env} {d : D} {Q : VK}, Sts K H C.ms σ ρ W → (ev cf gl elt).v ρ = some (d, ρ') → (∀ v H', Po K C.ms (nf C elt) σ H W ρ' d v H' → Q v H') → te σ H Q
theorem lc_turn (B : BlkSem C cf gl K x c g tt) (he : EltSem C cf gl K elt te) {σ : St} {H1 : Hp} {W1 : Own} {P : Addr → Prop} {D : Addr} (hP : ∀ a, (∃ k, a ∈ W1 k) ∨ H1 a = none → P a) (hD1 : H1 D = none)
    (kc : (infc C.ms C.pm c).ok = true) (ke : (nf C elt).ok = true) (hvs : ∀ j ∈ slotsT x, owns C.ms j = false) (hds : dis (nf C elt).s ((infc C.ms C.pm c).T ++ (nf C elt).T) = true) (hW1 : ∀ j ∈ slotsT x, W1 j = [])
    {ρ ρ' : Env} {acc : List Vi.D} {H H' : Hp} {v : V} {d : Vi.D} {A0 : List Addr} {o : Option Vi.D} {N : Hp → Prop}
    (inv : LcI K C.ms ((infc C.ms C.pm c).T ++ (nf C elt).T) (nf C elt).o (nf C elt).s σ (slotsT x) H1 W1 P D ρ acc H)
    (rx : Rp K H' v d A0) (ext : ∀ a o, H a = some o → H' a = some o) (hx : ∀ a ∈ A0, (∀ j, owns C.ms j = true → a ∉ W1 j) ∧ H1 a ≠ none) (hxP : ∀ a ∈ A0, P a) (hb : lcB cf gl x c elt d ρ = some (o, ρ'))
    (kN : o = none → ∀ H3, LcI K C.ms ((infc C.ms C.pm c).T ++ (nf C elt).T) (nf C elt).o (nf C elt).s σ (slotsT x) H1 W1 P D ρ' acc H3 → N H3)
    (kS : ∀ yd, o = some yd → acc.length < sz ∧ ∀ H5, LcI K C.ms ((infc C.ms C.pm c).T ++ (nf C elt).T) (nf C elt).o (nf C elt).s σ (slotsT x) H1 W1 P D ρ' (acc ++ [yd]) H5 → N H5) :
    g v (L2.wipe σ (slotsT x)) H' fun σ2 H2 => L2.wipe σ2 (slotsT x) = L2.wipe σ (slotsT x) ∧ tt σ2 H2 fun b H3 =>
      if b = true then te σ2 H3 fun y H4 => ∃ acc, H4 D = some (.lst acc) ∧ acc.length < sizeLine ∧ N (upd H4 D (.lst (acc ++ [y]))) else N H3 := by
  obtain ⟨W, accV, A, I⟩ := inv
  have hTc := infc_own c kc
  have hTe := inf_own elt ke
  have hT := mem2 hTc hTe
  have ow : ∀ j, owns C.ms j = true → j ∉ slotsT x := fun j oj z => by rw [hvs j z] at oj; cases oj
  simp only [lcB, Option.bind_eq_some_iff, Prod.exists] at hb
  obtain ⟨ρa, b1, b, ρb, b2, b3⟩ := hb
  have stX := I.st.ext ext
  refine B.hg rx stX (fun a ha j oj => I.ev.notin (hx a ha).1 (hx a ha).2 j oj) b1 fun σ2 H2 eH hσ hl W2 st2 u2 g2 => ?_
  subst eH
  have hwip : L2.wipe σ2 (slotsT x) = L2.wipe σ (slotsT x) := wipe_again hl hσ
  refine ⟨hwip, B.ht st2 b2 fun H3 W3 ev3 st3 => ?_⟩
  -- the owning slots' view of the way so far
  have WE : ∀ j ∈ slotsT x, W j = [] := fun j hj => I.st.em j (by rw [getS_wipe, if_pos hj])
  have evH2 : Evo C.ms ((infc C.ms C.pm c).T ++ (nf C elt).T) H1 W1 H2 W := I.ev.then ext
  have same : ∀ j, owns C.ms j = true → W2 j = W j := fun j oj => u2 j (ow j oj)
  have ev3' : Evo C.ms (infc C.ms C.pm c).T H2 W H3 (offs (slotsT x) W3) := ev3.congr (fun j oj => (same j oj).symm) (fun j oj => offs_out (ow j oj)) fun j hj => by
    by_cases z : j ∈ slotsT x
    · rw [offs_in z, WE j z]
    · rw [offs_out z, ev3.un j hj, u2 j z]
  have ev13 : Evo C.ms ((infc C.ms C.pm c).T ++ (nf C elt).T) H1 W1 H3 (offs (slotsT x) W3) := (evH2.trans ev3').mono fun j hj => by
    rcases List.mem_append.mp hj with q | q
    · exact q
    · exact List.mem_append_left _ q
  have hD2 : H2 D = some (.lst accV) := ext _ _ I.hD
  have hdsc : ∀ j ∈ (nf C elt).s, j ∉ (infc C.ms C.pm c).T := fun j hj z => dis_of hds j hj (List.mem_append_left _ z)
  have hdse : ∀ j ∈ (nf C elt).s, j ∉ (nf C elt).T := fun j hj z => dis_of hds j hj (List.mem_append_right _ z)
  have rs2 : Rps K H2 accV acc A := I.rs.ext ext
  have rs3 : Rps K H3 accV acc A := rs2.evo ev3' (I.vt.out hdsc)
  have vt3 : Vt C.ms ((infc C.ms C.pm c).T ++ (nf C elt).T) (nf C elt).o (nf C elt).s H1 W1 (offs (slotsT x) W3) A := I.vt.evo (alives_ne rs2) ev3' hdsc hTc
  have nD3 : ∀ j, D ∉ offs (slotsT x) W3 j := ev3'.notinAll hTc I.nD (by rw [hD2]; exact fun z => nomatch z)
  have hD3 : H3 D = some (.lst accV) := ev3'.kp D _ hD2 fun j _ _ => I.nD j
  have st3w : Sts K H3 C.ms (L2.wipe σ (slotsT x)) (wipeE ρb (slotsT x)) (offs (slotsT x) W3) := by
    have := st3.wipe (vs := slotsT x)
    rwa [hwip] at this
  cases b with
  | false =>
    simp only [Bool.false_eq_true, if_false, Option.some.injEq, Prod.mk.injEq] at b3 ⊢
    obtain ⟨rfl, rfl⟩ := b3
    exact kN rfl H3 ⟨offs (slotsT x) W3, accV, A, st3w, ev13, hD3, rs3, nD3, I.nA, vt3, I.ov⟩
  | true =>
    simp only [if_true, Option.map_eq_some_iff, Prod.exists, Prod.mk.injEq] at b3 ⊢
    obtain ⟨yd, ρc, e5, rfl, rfl⟩ := b3
    obtain ⟨hlen, kS⟩ := kS yd rfl
    refine he st3 e5 fun y H4 ⟨W4, An, ev4, st4, r4, t4, ov4, _⟩ => ?_
    have ev4' : Evo C.ms (nf C elt).T H3 (offs (slotsT x) W3) H4 (offs (slotsT x) W4) := ev4.congr (fun j oj => offs_out (ow j oj)) (fun j oj => offs_out (ow j oj)) fun j hj => by
      by_cases z : j ∈ slotsT x
      · rw [offs_in z, offs_in z]
      · rw [offs_out z, offs_out z, ev4.un j hj]
    have hD4 : H4 D = some (.lst accV) := ev4'.kp D _ hD3 fun j _ _ => nD3 j
    have rs4 : Rps K H4 accV acc A := rs3.evo ev4' (vt3.out hdse)
    have vt4 := vt3.evo (alives_ne rs3) ev4' hdse hTe
    have nD4 : ∀ j, D ∉ offs (slotsT x) W4 j := ev4'.notinAll hTe nD3 (by rw [hD3]; exact fun z => nomatch z)
    have ev14 : Evo C.ms ((infc C.ms C.pm c).T ++ (nf C elt).T) H1 W1 H4 (offs (slotsT x) W4) := (ev13.trans ev4').mono fun j hj => by
      rcases List.mem_append.mp hj with q | q
      · exact q
      · exact List.mem_append_right _ q
    -- what W3 has at the block's slots comes from the item
    have D3 : ∀ j, D ∉ W3 j := fun j q => by
      by_cases z : j ∈ slotsT x
      · by_cases y : j ∈ (infc C.ms C.pm c).T
        · exact ow j (hTc j y) z
        · rw [ev3.un j y] at q
          exact (hx D (g2 j z D q)).2 hD1
      · exact nD3 j (by rw [offs_out z]; exact q)
    have nAn : D ∉ An := fun q => by
      rcases ov4 D q with ⟨k, z⟩ | z
      · exact D3 k z
      · rw [hD3] at z; cases z
    have tn : Vt C.ms ((infc C.ms C.pm c).T ++ (nf C elt).T) (nf C elt).o (nf C elt).s H1 W1 (offs (slotsT x) W4) An := by
      have t5 : Vt C.ms (nf C elt).T (nf C elt).o (nf C elt).s H3 (offs (slotsT x) W3) (offs (slotsT x) W4) An := t4.congr (fun j oj => offs_out (ow j oj)) fun j a q => offs_sub q
      exact (t5.back ev13).monoT fun j hj => by
        rcases List.mem_append.mp hj with q | q
        · exact q
        · exact List.mem_append_right _ q
    have ovn : ∀ a ∈ An, P a := fun a ha => by
      rcases ov4 a ha with ⟨k, q⟩ | q
      · by_cases z : k ∈ slotsT x
        · have y : k ∉ (infc C.ms C.pm c).T := fun y => ow k (hTc k y) z
          rw [ev3.un k y] at q
          exact hxP a (g2 k z a q)
        · have q2 : a ∈ offs (slotsT x) W3 k := by rw [offs_out z]; exact q
          exact hP a (ov_back (A := [a]) ev13 hT (fun b hb => by rw [List.mem_singleton.mp hb]; exact .inl ⟨k, q2⟩) a (List.mem_singleton.mpr rfl))
      · exact hP a (.inr (ev13.dom a q))
    have st4w : Sts K H4 C.ms (L2.wipe σ (slotsT x)) (wipeE ρc (slotsT x)) (offs (slotsT x) W4) := by
      have := st4.wipe (vs := slotsT x)
      rwa [hwip] at this
    have kI : ∀ b u, H4 b = some u → mutO u = false → upd H4 D (.lst (accV ++ [y])) b = some u := fun b u e m => by
      rw [upd_ne]; exact e
      intro z; subst z; rw [hD4] at e; cases e; cases m
    have nAA : D ∉ A ++ An := fun z => (List.mem_append.mp z).elim I.nA nAn
    have rs5 : Rps K H4 (accV ++ [y]) (acc ++ [yd]) (A ++ An) := rs4.append (.one r4)
    refine ⟨accV, hD4, by rw [rs4.length, sz_eq]; exact hlen, kS _ ⟨offs (slotsT x) W4, accV ++ [y], A ++ An, st4w.frame kI fun j a ha u e => ?_, ev14.written hD1, upd_same, rs5.upd hD4 rfl nAA, nD4, nAA, ⟨fun a ha j oj hj => ?_, fun ho a ha j => ?_, fun ho => ?_, fun ho a ha => ?_, fun ho => inf_os elt ho⟩, fun a ha => ?_⟩⟩
    · rw [upd_ne]; exact e
      intro z; subst z; exact nD4 j ha
    · rcases List.mem_append.mp ha with q | q
      · exact vt4.ap a q j oj hj
      · exact tn.ap a q j oj hj
    · rcases List.mem_append.mp ha with q | q
      · exact vt4.al ho a q j
      · exact tn.al ho a q j
    · refine List.nodup_append.mpr ⟨vt4.nd ho, tn.nd ho, fun a ha b hb e => ?_⟩
      subst e
      rcases t4.og ho a hb with ⟨k, _, ok, q⟩ | q
      · exact vt3.al ho a ha k (by rw [offs_out (ow k ok)]; exact q)
      · exact alives_ne rs3 a ha q
    · rcases List.mem_append.mp ha with q | q
      · exact vt4.og ho a q
      · exact tn.og ho a q
    · rcases List.mem_append.mp ha with q | q
      · exact I.ov a q
      · exact ovn a q
end
end Vi

set_option Elab.async false
set_option linter.all false
set_option maxRecDepth 100000
set_option maxHeartbeats 4000000
/-! List comprehensions, as a whole; lists and tuples of ranges. -/
namespace Vi
open PySem L2 RT RZ

section
variable {C : Cfg} {cf : Fns} {gl : Nat → Option D} {X : Cx}
theorem ok_lc {elt : E} {x : Tg} {it : E} {c : Option E} (k : (nf C (.lc elt x it c)).ok = true) :
    (nf C it).ok = true ∧ (nf C elt).ok = true ∧ (infc C.ms C.pm c).ok = true ∧ (∀ i ∈ slotsT x, owns C.ms i = false ∧ i < C.ms.length) ∧ (slotsT x).Nodup ∧ dis (nf C it).s ((infc C.ms C.pm c).T ++ (nf C elt).T) = true ∧ ((nf C it).s = [] ∨ (nf C it).p = true) ∧ dis (nf C elt).s ((infc C.ms C.pm c).T ++ (nf C elt).T) = true := by
  have k' : ((((((((nf C it).ok = true ∧ (nf C elt).ok = true) ∧ (infc C.ms C.pm c).ok = true) ∧ ((slotsT x).all fun i => !owns C.ms i && decide (i < C.ms.length)) = true) ∧ decide (slotsT x).Nodup = true) ∧ dis (nf C it).s ((infc C.ms C.pm c).T ++ (nf C elt).T) = true) ∧ ((nf C it).s.isEmpty || (nf C it).p) = true) ∧ dis (nf C elt).s ((infc C.ms C.pm c).T ++ (nf C elt).T) = true) := by simpa only [nf, inf, Bool.and_eq_true] using k
  obtain ⟨⟨⟨⟨⟨⟨⟨k1, k2⟩, k3⟩, k4⟩, k5⟩, k6⟩, k7⟩, k8⟩ := k'
  refine ⟨k1, k2, k3, fun i hi => ?_, of_decide_eq_true k5, k6, ?_, k8⟩
  · have := List.all_eq_true.mp k4 i hi
    simp only [Bool.and_eq_true, Bool.not_eq_true', decide_eq_true_eq] at this
    exact this
  · rcases Bool.or_eq_true_iff.mp k7 with q | q
    · exact .inl (List.isEmpty_iff.mp q)
    · exact .inr q
theorem lc_read {elt : E} {x : Tg} {it : E} {c : Option E} {tg iter : Expr} {g : TG} {tt : TT} {te : TE} (B : BlkSem C cf gl X.K x c g tt) (he : EltSem C cf gl X.K elt te) (hi : SI C cf gl X it iter) (hn : needT it = true → isTupE tg = true)
    {σ : St} {H : Hp} {W : Own} {ρ ρ' : Env} {d : D} (k : (nf C (.lc elt x it c)).ok = true) (st : Sts X.K H C.ms σ ρ W) (h2 : (ev cf gl (.lc elt x it c)).v ρ = some (d, ρ')) {Q : VK} (q : ∀ v H', Po X.K C.ms (nf C (.lc elt x it c)) σ H W ρ' d v H' → Q v H') :
    tLc (wpI X tg iter) g tt te (slotsT x) σ H Q := by
  obtain ⟨ki, ke, kc, kx, knd, kd, kp, kde⟩ := ok_lc k
  have hvs : ∀ j ∈ slotsT x, owns C.ms j = false := fun j hj => (kx j hj).1
  have ow : ∀ j, owns C.ms j = true → j ∉ slotsT x := fun j oj z => by rw [hvs j z] at oj; cases oj
  have hTb := mem2 (infc_own c kc) (inf_own elt ke)
  simp only [ev, ofV, Option.bind_eq_some_iff, Option.map_eq_some_iff, Prod.exists, Prod.mk.injEq] at h2
  obtain ⟨xs, ρ1, e1, ys, ρe, e2, rfl, rfl⟩ := h2
  have e2 : lcL (lcB cf gl x c elt) xs ρ1 [] = some (ys, ρe) := e2
  refine wpI_mono (hi tg σ H W ρ xs ρ1 hn ki st e1) fun J H1 ⟨W1, A0, G, Y, ev1, st1, w, itok, al, t, hpp, ov0⟩ D hD => ?_
  have nD1 : ∀ j, D ∉ W1 j := fun j z => st1.alive z hD
  have hP : ∀ a, (∃ k, a ∈ offs (slotsT x) W1 k) ∨ H1 a = none → (∃ k, a ∈ W k) ∨ H a = none := fun a h => ov_back (A := [a]) ev1 (inf_own it ki) (fun b hb => by
    rw [List.mem_singleton.mp hb]
    exact h.imp_left fun ⟨k, q⟩ => ⟨k, offs_sub q⟩) a (List.mem_singleton.mpr rfl)
  have keeps : ∀ {H' : Hp} {W' : Own}, Evo C.ms ((infc C.ms C.pm c).T ++ (nf C elt).T) H1 (offs (slotsT x) W1) H' W' → Keeps H1 H' A0 := fun e => ⟨e.imm, fun a ha o hq => e.kp a o hq fun j hj oj z => t.ap a ha j oj (fun y => dis_of kd j y hj) (offs_sub z)⟩
  refine lc_it w (fun i H' => ∃ ρc acc, lcL (lcB cf gl x c elt) (xs.drop i) ρc acc = some (ys, ρe) ∧ LcI X.K C.ms ((infc C.ms C.pm c).T ++ (nf C elt).T) (nf C elt).o (nf C elt).s σ (slotsT x) H1 (offs (slotsT x) W1) (fun a => (∃ k, a ∈ W k) ∨ H a = none) D ρc acc H') ?_ ?_ ?_ ?_
  · refine ⟨ρ1, [], e2, offs (slotsT x) W1, [], [], (st1.wipe).ext (ext_new hD), Evo.new hD, upd_same, .nil, fun j z => nD1 j (offs_sub z), fun z => (nomatch z), ⟨fun _ h => (nomatch h), fun _ _ h => (nomatch h), fun _ => List.nodup_nil, fun _ _ h => (nomatch h), inf_os elt⟩, fun _ h => (nomatch h)⟩
  · rintro i H' _ ⟨ρc, acc, _, Wc, accV, A, I⟩
    exact itok.keep H' (keeps I.ev)
  · rintro i v H2 H3 hil ⟨ρc, acc, e3, inv⟩ hy
    obtain ⟨Wc, accV, A, I⟩ := inv
    obtain ⟨dx, Ax, f1, rx, ext, sub⟩ := itok.item i H2 v H3 (keeps I.ev) hil hy
    have ed : xs.drop i = dx :: xs.drop (i + 1) := by
      rw [List.drop_eq_getElem_cons hil]
      congr 1
      rw [List.getElem?_eq_getElem hil] at f1
      exact Option.some.inj f1
    rw [ed] at e3
    simp only [lcL, Option.bind_eq_some_iff, Prod.exists] at e3
    obtain ⟨o, ρn, hb, e4⟩ := e3
    refine lc_turn B he (P := fun a => (∃ k, a ∈ W k) ∨ H a = none) hP hD kc ke hvs kde (fun j hj => offs_in hj) ⟨Wc, accV, A, I⟩ rx ext (fun a ha => ⟨fun j oj z => ?_, al a (sub a ha)⟩) (fun a ha => ov0 a (sub a ha)) hb (fun eo H4 inv4 => ?_) fun yd eo => ?_
    · rcases kp with q | q
      · exact t.ap a (sub a ha) j oj (by rw [q]; exact fun h => nomatch h) (offs_sub z)
      · rw [rx.pure (pures_get (hpp q) f1)] at ha; cases ha
    · subst eo
      exact ⟨ρn, acc, e4, inv4⟩
    · subst eo
      simp only at e4
      split at e4
      · rename_i hl
        exact ⟨hl, fun H5 inv5 => ⟨ρn, acc ++ [yd], e4, inv5⟩⟩
      · cases e4
  · rintro H' ⟨ρc, acc, e3, Wl, accV, A, I⟩
    rw [List.drop_length] at e3
    simp only [lcL, Option.some.injEq, Prod.mk.injEq] at e3
    obtain ⟨rfl, rfl⟩ := e3
    have ont : ∀ j, owns C.ms j = true → onto (slotsT x) W1 Wl j = Wl j := fun j oj => onto_out (ow j oj)
    have evl : Evo C.ms ((infc C.ms C.pm c).T ++ (nf C elt).T) H1 W1 H' (onto (slotsT x) W1 Wl) := I.ev.congr (fun j oj => (offs_out (ow j oj)).symm) ont fun j hj => by
      by_cases z : j ∈ slotsT x
      · exact onto_in z
      · rw [onto_out z, I.ev.un j hj, offs_out z]
    have nDl : ∀ j, D ∉ onto (slotsT x) W1 Wl j := fun j z => by
      by_cases y : j ∈ slotsT x
      · rw [onto_in y] at z; exact nD1 j z
      · rw [onto_out y] at z; exact I.nD j z
    have vt1 : Vt C.ms ((infc C.ms C.pm c).T ++ (nf C elt).T) (nf C elt).o (nf C elt).s H1 W1 (onto (slotsT x) W1 Wl) A := by
      have og : (nf C elt).o = true → ∀ a ∈ A, (∃ k ∈ (infc C.ms C.pm c).T ++ (nf C elt).T, owns C.ms k = true ∧ a ∈ W1 k) ∨ H1 a = none := fun z a ha => (I.vt.og z a ha).imp_left fun ⟨k, hk, ok, q⟩ => ⟨k, hk, ok, offs_sub q⟩
      refine ⟨fun a ha j oj hj z => ?_, fun ho a ha j z => ?_, I.vt.nd, og, I.vt.os⟩
      · rw [ont j oj] at z; exact I.vt.ap a ha j oj hj z
      · by_cases y : j ∈ slotsT x
        · rw [onto_in y] at z
          rcases og ho a ha with ⟨k, _, ok, q⟩ | q
          · exact st1.dj k j a ok (fun e => ow k ok (e ▸ y)) q z
          · exact st1.alive z q
        · rw [onto_out y] at z; exact I.vt.al ho a ha j z
    have vt2 := vt1.back ev1
    have pH := ev1.dom D hD
    refine q _ _ ⟨onto (slotsT x) W1 Wl, D :: A, ev1.trans evl, st1.rest hvs I.st I.ev hTb, .lst I.hD I.rs, ⟨fun a ha j oj hj => ?_, fun ho a ha j => ?_, fun ho => List.nodup_cons.mpr ⟨I.nA, I.vt.nd ho⟩, fun ho a ha => ?_, inf_os (.lc elt x it c)⟩, fun a ha => ?_, fun _ xs' p B _ e => ?_, fun i e => nomatch e⟩
    · rcases List.mem_cons.mp ha with rfl | ha
      · exact nDl j
      · exact vt2.ap a ha j oj hj
    · rcases List.mem_cons.mp ha with rfl | ha
      · exact nDl j
      · exact vt2.al ho a ha j
    · rcases List.mem_cons.mp ha with rfl | ha
      · exact .inr pH
      · exact vt2.og ho a ha
    · rcases List.mem_cons.mp ha with rfl | ha
      · exact .inr pH
      · exact I.ov a ha
    · injection e with e _; subst e; exact ⟨pH, nDl⟩

/-! in the block's context -/
abbrev bX (X : Cx) (scope : Scope) (s : Shared) (H : Hp) (C0 : Addr) (cl : List (Str × Addr)) (fp : List Addr) : Cx := X.blk s H scope (compEnvC scope cl C0 X.env) fp
theorem Good.blk (G : Good C cf gl X) (scope : Scope) (s : Shared) (H : Hp) (C0 : Addr) (cl : List (Str × Addr)) (fp : List Addr) : Good C cf gl (bX X scope s H C0 cl fp) := ⟨G.calm, G.N, G.nd, G.len, G.bl, G.room, G.fn, G.tab⟩
theorem blk_scope (scope : Scope) (s : Shared) (H : Hp) (C0 : Addr) (cl : List (Str × Addr)) (fp : List Addr) : (bX X scope s H C0 cl fp).env.scope = relS scope X.env.scope := rfl
theorem blk_asg (scope : Scope) (s : Shared) (H : Hp) (C0 : Addr) (cl : List (Str × Addr)) (fp : List Addr) : AsgOk (bX X scope s H C0 cl fp) scope := fun x h => by
  rcases isLoc_of h with q | q
  · have := lookup_relS_keep (sc := X.env.scope) (by decide) q
    exact ⟨.inl this, .inr this⟩
  · have := lookup_relS_keep (sc := X.env.scope) (by decide) q
    exact ⟨.inr this, .inl (by show (scope.names.lookup x == some NameKind.cell) = true; rw [q]; rfl)⟩
def gAll (X : Cx) (scope : Scope) (tg : Expr) : TG := fun v σ H Q => ∀ s H0 C0 cl fp, wpG (bX X scope s H0 C0 cl fp) tg v σ H Q
def tAll (X : Cx) (scope : Scope) (e : Expr) : TT := fun σ H Q => ∀ s H0 C0 cl fp, wpT (bX X scope s H0 C0 cl fp) e σ H Q
def eAll (X : Cx) (scope : Scope) (e : Expr) : TE := fun σ H Q => ∀ s H0 C0 cl fp, wpE (bX X scope s H0 C0 cl fp) e σ H Q
/-- a block's expression -/
def BE (C : Cfg) (cf : Fns) (gl : Nat → Option D) (X : Cx) (scope : Scope) (ir : E) (e : Expr) : Prop := ∀ s H0 C0 cl fp, SE C cf gl (bX X scope s H0 C0 cl fp) ir e
def BT (C : Cfg) (cf : Fns) (gl : Nat → Option D) (X : Cx) (scope : Scope) (ir : E) (e : Expr) : Prop := ∀ s H0 C0 cl fp, ST C cf gl (bX X scope s H0 C0 cl fp) ir e
def BC (C : Cfg) (cf : Fns) (gl : Nat → Option D) (X : Cx) (scope : Scope) : Option E → List Expr → Prop
  | none, [] => True
  | some e, [y] => BT C cf gl X scope e y
  | _, _ => False
def tIfs (X : Cx) (scope : Scope) : List Expr → TT
  | [e] => tAll X scope e
  | _ => tYes
theorem blk_sem (G : Good C cf gl X) {scope : Scope} {x : Tg} {c : Option E} {tg : Expr} {ifs : List Expr} (hm : matT C.N scope x tg = true) (hx : ∀ i ∈ slotsT x, owns C.ms i = false ∧ i < C.ms.length) (nd : (slotsT x).Nodup) (kc : (infc C.ms C.pm c).ok = true)
    (hc : BC C cf gl X scope c ifs) : BlkSem C cf gl X.K x c (gAll X scope tg) (tIfs X scope ifs) where
  hg := fun {v d A σ ρ ρ' W H Q} r st ap hb k s H0 C0 cl fp =>
    have G' := G.blk scope s H0 C0 cl fp
    wpG_mono (bind_ok (X := bX X scope s H0 C0 cl fp) (ms := C.ms) G'.N G'.nd G'.calm (blk_asg scope s H0 C0 cl fp) False x tg hm r st (fun j hj => (hx j hj).2) nd ap (fun z => z.elim) (fun j hj oj => by rw [(hx j hj).1] at oj; cases oj) hb) fun σ' H' ⟨eH, h1, h2, W', st', u, g⟩ => k σ' H' eH h1 h2 W' (eH ▸ st') u g
  ht := fun {σ H W ρ ρ' b Q} st e k => by
    cases c with
    | none =>
      cases ifs with
      | nil =>
        simp only [evc, Option.some.injEq, Prod.mk.injEq] at e
        obtain ⟨rfl, rfl⟩ := e
        exact k H W .refl st
      | cons => exact hc.elim
    | some e0 =>
      cases ifs with
      | nil => exact hc.elim
      | cons y r =>
        cases r with
        | nil =>
          have hc : BT C cf gl X scope e0 y := hc
          exact fun s H0 C0 cl fp => wpT_mono (hc s H0 C0 cl fp σ H W ρ b ρ' kc st e) fun b' H' ⟨eb, W', ev', st'⟩ => eb ▸ k H' W' ev' st'
        | cons => exact hc.elim
theorem elt_sem {scope : Scope} {elt : E} {e : Expr} (ke : (nf C elt).ok = true) (h : BE C cf gl X scope elt e) : EltSem C cf gl X.K elt (eAll X scope e) := fun st e1 k s H0 C0 cl fp => wpE_mono (h s H0 C0 cl fp _ _ _ _ _ _ ke st e1) k
theorem n_lc (G : Good C cf gl X) {elt : E} {x : Tg} {it : E} {c : Option E} {tg iter ex : Expr} {ifs : List Expr} {scope : Scope} {pos : Pos} (hi : SI C cf gl X it iter) (hn : needT it = true → isTupE tg = true)
    (hb : blkC C.N X.env.scope scope (ownOf C.N (slotsT x)) = true) (ho : (ownOf C.N (slotsT x)).map (·.2) = slotsT x) (hm : matT C.N scope x tg = true) (hse : notSet iter = true) (he : BE C cf gl X scope elt ex)
    (hc : BC C cf gl X scope c ifs) : SE C cf gl X (.lc elt x it c) (.ListComp ex [⟨tg, iter, ifs, 0⟩] scope pos) := by
  intro σ H W ρ d ρ' k st h2
  obtain ⟨ki, ke, kc, kx, knd, kd, kp, kde⟩ := ok_lc k
  have ok : BlkOk X.N X.env.scope scope (ownOf C.N (slotsT x)) := by rw [G.N]; exact blkOk_by hb
  refine of_pe (pe_lc (g := gAll X scope tg) (tt := tIfs X scope ifs) (te := eAll X scope ex) G.calm (by rw [G.N]; exact G.nd) (pi X tg iter) ok (fun s H0 C0 cl fp => ⟨fun pins s' σ H v u Q I r h => h s H0 C0 cl fp pins s' u I r⟩) (fun s H0 C0 cl fp => ?_) (fun s H0 C0 cl fp => ⟨fun pins s' σ H Q I h => h s H0 C0 cl fp pins s' I⟩) (noFold hse X.env)) ?_
  · match ifs with
    | [] => exact pts_nil
    | [e] => exact pts_one ⟨fun pins s' σ H Q I h => h s H0 C0 cl fp pins s' I⟩
    | _ :: _ :: _ => cases c <;> exact hc.elim
  · rw [ho]
    exact lc_read (blk_sem G hm kx knd kc hc) (elt_sem ke he) hi hn k st h2 fun v H' p => p
end
end Vi

set_option Elab.async false
set_option linter.all false
set_option maxRecDepth 100000
set_option maxHeartbeats 4000000
/-! any, all of a generator expression: the reading. -/
namespace Vi
open PySem L2 RT RZ

def geB (cf : Fns) (gl : Nat → Option D) (x : Tg) (c : Option E) (elt : E) : D → Env → Option (Option Bool × Env) := fun d ρ => (bindT x d (wipeE ρ (slotsT x))).bind fun ρ1 => (evc cf gl c ρ1).bind fun (b, ρ2) => if b then ((ev cf gl elt).v ρ2).bind fun (y, ρ3) => (isB y).map fun y => (some y, ρ3) else some (none, ρ2)
section
variable {C : Cfg} {cf : Fns} {gl : Nat → Option D} {X : Cx}
theorem ok_ge {kk : Bool} {elt : E} {x : Tg} {it : E} {c : Option E} (k : (nf C (.ge kk elt x it c)).ok = true) :
    (nf C it).ok = true ∧ (nf C elt).ok = true ∧ (infc C.ms C.pm c).ok = true ∧ (∀ i ∈ slotsT x, owns C.ms i = false ∧ i < C.ms.length) ∧ (slotsT x).Nodup ∧ dis (nf C it).s ((infc C.ms C.pm c).T ++ (nf C elt).T) = true ∧ ((nf C it).s = [] ∨ (nf C it).p = true) := by
  have k' : (((((((nf C it).ok = true ∧ (nf C elt).ok = true) ∧ (infc C.ms C.pm c).ok = true) ∧ ((slotsT x).all fun i => !owns C.ms i && decide (i < C.ms.length)) = true) ∧ decide (slotsT x).Nodup = true) ∧ dis (nf C it).s ((infc C.ms C.pm c).T ++ (nf C elt).T) = true) ∧ ((nf C it).s.isEmpty || (nf C it).p) = true) := by simpa only [nf, inf, Bool.and_eq_true] using k
  obtain ⟨⟨⟨⟨⟨⟨k1, k2⟩, k3⟩, k4⟩, k5⟩, k6⟩, k7⟩ := k'
  refine ⟨k1, k2, k3, fun i hi => ?_, of_decide_eq_true k5, k6, ?_⟩
  · have := List.all_eq_true.mp k4 i hi
    simp only [Bool.and_eq_true, Bool.not_eq_true', decide_eq_true_eq] at this
    exact this
  · rcases Bool.or_eq_true_iff.mp k7 with q | q
    · exact .inl (List.isEmpty_iff.mp q)
    · exact .inr q
theorem ge_read {kk : Bool} {elt : E} {x : Tg} {it : E} {c : Option E} {tg iter : Expr} {g : TG} {tt : TT} {te : TE} {tc P : Addr} (htab : (tc, P) ∈ tabsK X.K) (B : BlkSem C.no cf gl X.K x c g tt) (he : EltSem C.no cf gl X.K elt te) (hi : SI C cf gl X it iter) (hn : needT it = true → isTupE tg = true)
    {σ : St} {H : Hp} {W : Own} {ρ ρ' : Env} {d : D} (k : (nf C (.ge kk elt x it c)).ok = true) (st : Sts X.K H C.ms σ ρ W) (h2 : (ev cf gl (.ge kk elt x it c)).v ρ = some (d, ρ')) {Q : VK} (q : ∀ v H', Po X.K C.ms (nf C (.ge kk elt x it c)) σ H W ρ' d v H' → Q v H') :
    tGe P kk (slotsT x) (wpI X tg iter) g tt te σ H Q := by
  obtain ⟨ki, ke, kc, kx, knd, kd, kp⟩ := ok_ge k
  have hvs : ∀ j ∈ slotsT x, owns C.ms j = false := fun j hj => (kx j hj).1
  have ow : ∀ j, owns C.ms j = true → j ∉ slotsT x := fun j oj z => by rw [hvs j z] at oj; cases oj
  have hTc := infc_own c kc
  have hTe := inf_own elt ke
  have hTb := mem2 hTc hTe
  simp only [ev, ofV, Option.bind_eq_some_iff, Option.map_eq_some_iff, Prod.exists, Prod.mk.injEq] at h2
  obtain ⟨xs, ρ1, e1, br, ρe, e2, rfl, rfl⟩ := h2
  have e2 : geL kk (geB cf gl x c elt) xs ρ1 = some (br, ρe) := e2
  refine wpI_mono (hi tg σ H W ρ xs ρ1 hn ki st e1) fun J H1 ⟨W1, A0, G, Y, ev1, st1, w, itok, al, t, hpp, ov0⟩ => ?_
  have keeps : ∀ {H' : Hp} {W' : Own}, Evo C.ms ((infc C.ms C.pm c).T ++ (nf C elt).T) H1 (offs (slotsT x) W1) H' W' → Keeps H1 H' A0 := fun e => ⟨e.imm, fun a ha o hq => e.kp a o hq fun j hj oj z => t.ap a ha j oj (fun y => dis_of kd j y hj) (offs_sub z)⟩
  -- the end
  have fin : ∀ {b : Bool} {ρ2 : Env} {H' : Hp} {Wl : Own}, b = br → ρ2 = ρe → Sts X.K H' C.ms (L2.wipe σ (slotsT x)) (wipeE ρ2 (slotsT x)) Wl → Evo C.ms ((infc C.ms C.pm c).T ++ (nf C elt).T) H1 (offs (slotsT x) W1) H' Wl → Q (.bl b) H' := fun {b ρ2 H' Wl} eb er stl evl0 => by
    subst eb; subst er
    have ont : ∀ j, owns C.ms j = true → onto (slotsT x) W1 Wl j = Wl j := fun j oj => onto_out (ow j oj)
    have evl : Evo C.ms ((infc C.ms C.pm c).T ++ (nf C elt).T) H1 W1 H' (onto (slotsT x) W1 Wl) := evl0.congr (fun j oj => (offs_out (ow j oj)).symm) ont fun j hj => by
      by_cases z : j ∈ slotsT x
      · exact onto_in z
      · rw [onto_out z, evl0.un j hj, offs_out z]
    exact q _ _ ⟨onto (slotsT x) W1 Wl, [], ev1.trans evl, st1.rest hvs stl evl0 hTb, .bl b, .nil, fun _ h => (nomatch h), fun _ _ _ _ e => (nomatch e), fun i e => nomatch e⟩
  refine ⟨st1.tb _ htab, fun i m σ' H' => m = xs.length - i ∧ i ≤ xs.length ∧ ∃ ρc, geL kk (geB cf gl x c elt) (xs.drop i) ρc = some (br, ρe) ∧ L2.wipe σ' (slotsT x) = L2.wipe σ (slotsT x) ∧ ∃ Wc, Sts X.K H' C.ms (L2.wipe σ (slotsT x)) (wipeE ρc (slotsT x)) Wc ∧ Evo C.ms ((infc C.ms C.pm c).T ++ (nf C elt).T) H1 (offs (slotsT x) W1) H' Wc, ⟨_, rfl, Nat.zero_le _, ρ1, e2, ?_, offs (slotsT x) W1, st1.wipe, .refl⟩, ?_⟩
  · apply List.ext_getElem?
    intro j
    rw [wipe_get, wipe_length]
    by_cases z : j ∈ slotsT x ∧ j < σ.length
    · rw [if_pos z, wipe_get, if_pos z]
    · rw [if_neg z]
  rintro i m σ' H' ⟨rfl, hil, ρc, e3, hw, Wc, stc, evc0⟩
  have hG := itok.keep H' (keeps evc0)
  by_cases hlt : i < xs.length
  · refine .inr ⟨w.goes i H' hlt hG, _, fun σ2 H2 p2 => ⟨xs.length - (i + 1), by omega, rfl, hlt, p2⟩, fun v H2 hy => ?_⟩
    obtain ⟨dx, Ax, f1, rx, ext, sub⟩ := itok.item i H' v H2 (keeps evc0) hlt (w.yields i H' v H2 hlt hG hy)
    have ed : xs.drop i = dx :: xs.drop (i + 1) := by
      rw [List.drop_eq_getElem_cons hlt]
      congr 1
      rw [List.getElem?_eq_getElem hlt] at f1
      exact Option.some.inj f1
    rw [ed] at e3
    simp only [geL, Option.bind_eq_some_iff, Prod.exists] at e3
    obtain ⟨o, ρn, hb, e4⟩ := e3
    simp only [geB, Option.bind_eq_some_iff, Prod.exists] at hb
    obtain ⟨ρa, b1, b, ρb, b2, b3⟩ := hb
    have stX := stc.ext ext
    have hlen : σ'.length = σ.length := by have := congrArg List.length hw; rwa [wipe_length, wipe_length] at this
    have hat : ∀ j, j ∉ slotsT x → σ'[j]? = (L2.wipe σ (slotsT x))[j]? := fun j hj => by
      rw [← hw, wipe_get, if_neg (fun z => hj z.1)]
    have stX' : Sts X.K H2 C.ms σ' (wipeE ρc (slotsT x)) Wc := stX.weakσ (by rw [wipe_length]; exact hlen) fun j dd vv e e' => by
      by_cases z : j ∈ slotsT x
      · rw [getS_wipe, if_pos z] at e; cases e
      · rw [hat j z]; exact e'
    have hx : ∀ a ∈ Ax, (∀ j, owns C.ms j = true → a ∉ offs (slotsT x) W1 j) ∧ H1 a ≠ none := fun a ha => by
      refine ⟨fun j oj z => ?_, al a (sub a ha)⟩
      rcases kp with q | q
      · exact t.ap a (sub a ha) j oj (by rw [q]; exact fun h => nomatch h) (offs_sub z)
      · rw [rx.pure (pures_get (hpp q) f1)] at ha; cases ha
    refine B.hg rx stX' (fun a ha j oj => evc0.notin (hx a ha).1 (hx a ha).2 j oj) b1 fun σ2 H3 eH hσ hl W2 st2 u2 g2 => ?_
    subst eH
    have hwip : L2.wipe σ2 (slotsT x) = L2.wipe σ (slotsT x) := wipe_again (by rw [hl, wipe_length]; exact hlen) fun j hj => by rw [hσ j hj]; exact hat j hj
    refine B.ht st2 b2 fun H4 W3 ev3 st3 => ?_
    have ev3 : Evo C.ms (infc C.ms C.pm c).T H3 W2 H4 W3 := ev3
    have WE : ∀ j ∈ slotsT x, Wc j = [] := fun j hj => stc.em j (by rw [getS_wipe, if_pos hj])
    have evH2 : Evo C.ms ((infc C.ms C.pm c).T ++ (nf C elt).T) H1 (offs (slotsT x) W1) H3 Wc := evc0.then ext
    have same : ∀ j, owns C.ms j = true → W2 j = Wc j := fun j oj => u2 j (ow j oj)
    have ev3' : Evo C.ms (infc C.ms C.pm c).T H3 Wc H4 (offs (slotsT x) W3) := ev3.congr (fun j oj => (same j oj).symm) (fun j oj => offs_out (ow j oj)) fun j hj => by
      by_cases z : j ∈ slotsT x
      · rw [offs_in z, WE j z]
      · rw [offs_out z, ev3.un j hj, u2 j z]
    have ev13 : Evo C.ms ((infc C.ms C.pm c).T ++ (nf C elt).T) H1 (offs (slotsT x) W1) H4 (offs (slotsT x) W3) := (evH2.trans ev3').mono fun j hj => by
      rcases List.mem_append.mp hj with q | q
      · exact q
      · exact List.mem_append_left _ q
    have st3w : Sts X.K H4 C.ms (L2.wipe σ (slotsT x)) (wipeE ρb (slotsT x)) (offs (slotsT x) W3) := by
      have := st3.wipe (vs := slotsT x)
      rwa [hwip] at this
    cases b with
    | false =>
      simp only [Bool.false_eq_true, if_false, Option.some.injEq, Prod.mk.injEq] at b3 ⊢
      obtain ⟨rfl, rfl⟩ := b3
      exact ⟨ρb, e4, hwip, _, st3w, ev13⟩
    | true =>
      simp only [if_true, Option.bind_eq_some_iff, Option.map_eq_some_iff, Prod.exists, Prod.mk.injEq] at b3 ⊢
      obtain ⟨yd, ρ5, e5, rr, e6, rfl, rfl⟩ := b3
      have ey : yd = .bl rr := by
        cases yd <;> simp [isB] at e6
        rw [e6]
      subst ey
      refine he st3 e5 fun y H5 ⟨W4, An, ev4, st4, r4, _⟩ => ?_
      have ev4 : Evo C.ms (nf C elt).T H4 W3 H5 W4 := ev4
      cases r4
      have ev4' : Evo C.ms (nf C elt).T H4 (offs (slotsT x) W3) H5 (offs (slotsT x) W4) := ev4.congr (fun j oj => offs_out (ow j oj)) (fun j oj => offs_out (ow j oj)) fun j hj => by
        by_cases z : j ∈ slotsT x
        · rw [offs_in z, offs_in z]
        · rw [offs_out z, offs_out z, ev4.un j hj]
      have ev14 : Evo C.ms ((infc C.ms C.pm c).T ++ (nf C elt).T) H1 (offs (slotsT x) W1) H5 (offs (slotsT x) W4) := (ev13.trans ev4').mono fun j hj => by
        rcases List.mem_append.mp hj with q | q
        · exact q
        · exact List.mem_append_right _ q
      have st4w : Sts X.K H5 C.ms (L2.wipe σ (slotsT x)) (wipeE ρ5 (slotsT x)) (offs (slotsT x) W4) := by
        have := st4.wipe (vs := slotsT x)
        rwa [hwip] at this
      refine ⟨rr, rfl, ?_⟩
      by_cases er : rr = kk
      · subst er
        simp only [beq_self_eq_true, if_true, Option.some.injEq, Prod.mk.injEq] at e4 ⊢
        exact fin e4.1 e4.2 st4w ev14
      · rw [if_neg er]
        have er' : (rr == kk) = false := by simpa using er
        simp only [er', Bool.false_eq_true, if_false] at e4
        exact ⟨ρ5, e4, hwip, _, st4w, ev14⟩
  · have ei : i = xs.length := by omega
    subst ei
    rw [List.drop_length] at e3
    simp only [geL, Option.some.injEq, Prod.mk.injEq] at e3
    exact .inl ⟨w.stops H' hG, fin e3.1 e3.2 stc evc0⟩

/-! in the frame's context -/
def gGe (X : Cx) (j : Nat) (scope : Scope) (tg : Expr) : TG := fun v σ H Q => ∀ A' s H0 e fp pn, Room j A' → e.scope = scope → wpG (gx X A' s H0 e fp pn) tg v σ H Q
def tGeT (X : Cx) (j : Nat) (scope : Scope) (e : Expr) : TT := fun σ H Q => ∀ A' s H0 en fp pn, Room j A' → en.scope = scope → wpT (gx X A' s H0 en fp pn) e σ H Q
def eGe (X : Cx) (j : Nat) (scope : Scope) (e : Expr) : TE := fun σ H Q => ∀ A' s H0 en fp pn, Room j A' → en.scope = scope → wpE (gx X A' s H0 en fp pn) e σ H Q
def tGeIfs (X : Cx) (j : Nat) (scope : Scope) : List Expr → TT
  | [e] => tGeT X j scope e
  | _ => tYes
def FE (C : Cfg) (cf : Fns) (gl : Nat → Option D) (X : Cx) (j : Nat) (scope : Scope) (ir : E) (e : Expr) : Prop := ∀ A' s H0 en fp pn, Room j A' → en.scope = scope → SE C cf gl (gx X A' s H0 en fp pn) ir e
def FT (C : Cfg) (cf : Fns) (gl : Nat → Option D) (X : Cx) (j : Nat) (scope : Scope) (ir : E) (e : Expr) : Prop := ∀ A' s H0 en fp pn, Room j A' → en.scope = scope → ST C cf gl (gx X A' s H0 en fp pn) ir e
def FC (C : Cfg) (cf : Fns) (gl : Nat → Option D) (X : Cx) (j : Nat) (scope : Scope) : Option E → List Expr → Prop
  | none, [] => True
  | some e, [y] => FT C cf gl X j scope e y
  | _, _ => False
theorem fr_asg {A' : Around} {s : Shared} {H : Hp} {e : PySem.Env} {fp : List Addr} {pn : List (Addr × Obj)} {scope : Scope} (he : e.scope = scope) : AsgOk (gx X A' s H e fp pn) scope := fun x h => by
  rcases isLoc_of h with q | q
  · exact ⟨.inl (by show e.scope.names.lookup x = _; rw [he]; exact q), .inr (by show e.scope.names.lookup x = _; rw [he]; exact q)⟩
  · exact ⟨.inr (by show e.scope.names.lookup x = _; rw [he]; exact q), .inl (by show (e.scope.names.lookup x == some NameKind.cell) = true; rw [he, q]; rfl)⟩
theorem fr_sem (hN : X.N = C.N) (nd0 : C.N.Nodup) (calm : X.calm = true) {j : Nat} {scope : Scope} {x : Tg} {c : Option E} {tg : Expr} {ifs : List Expr} (hm : matT C.N scope x tg = true) (hx : ∀ i ∈ slotsT x, owns C.ms i = false ∧ i < C.ms.length) (nd : (slotsT x).Nodup) (kc : (infc C.ms C.pm c).ok = true)
    (hc : FC C cf gl X j scope c ifs) : BlkSem C cf gl X.K x c (gGe X j scope tg) (tGeIfs X j scope ifs) where
  hg := fun {v d A σ ρ ρ' W H Q} r st ap hb k A' s H0 e fp pn hr hs =>
    wpG_mono (bind_ok (X := gx X A' s H0 e fp pn) (ms := C.ms) hN nd0 calm (fr_asg hs) False x tg hm r st (fun j hj => (hx j hj).2) nd ap (fun z => z.elim) (fun j hj oj => by rw [(hx j hj).1] at oj; cases oj) hb) fun σ' H' ⟨eH, h1, h2, W', st', u, g⟩ => k σ' H' eH h1 h2 W' (eH ▸ st') u g
  ht := fun {σ H W ρ ρ' b Q} st e k => by
    cases c with
    | none =>
      cases ifs with
      | nil =>
        simp only [evc, Option.some.injEq, Prod.mk.injEq] at e
        obtain ⟨rfl, rfl⟩ := e
        exact k H W .refl st
      | cons => exact hc.elim
    | some e0 =>
      cases ifs with
      | nil => exact hc.elim
      | cons y r =>
        cases r with
        | nil =>
          have hc : FT C cf gl X j scope e0 y := hc
          exact fun A' s H0 en fp pn hr hs => wpT_mono (hc A' s H0 en fp pn hr hs σ H W ρ b ρ' kc st e) fun b' H' ⟨eb, W', ev', st'⟩ => eb ▸ k H' W' ev' st'
        | cons => exact hc.elim
theorem fr_elt {j : Nat} {scope : Scope} {elt : E} {e : Expr} (ke : (nf C elt).ok = true) (h : FE C cf gl X j scope elt e) : EltSem C cf gl X.K elt (eGe X j scope e) := fun st e1 k A' s H0 en fp pn hr hs => wpE_mono (h A' s H0 en fp pn hr hs _ _ _ _ _ _ ke st e1) k
/-- what stands in the frame of a generator expression -/
theorem Good.fr (G : Good C cf gl X) {j : Nat} (hj : ∀ f g, C.fns f = some g → ∃ (a : Addr) (fd : FuncData) (ps : List Str) (F : Fn), FnOk X.prog X.w X.K X.mg X.base CX0 j a fd ps (spF X.K cf f F) ∧ X.mg g = some (.ref a) ∧
    PySem.W.keepIn X.K (.ref a) = true ∧ Binds X.K fd ps [] ∧ C.pm f = F.ms.take F.np ∧ F.np ≤ F.ms.length ∧ ∀ j, F.np ≤ j → owns F.ms j = true → True)
    (A' : Around) (s : Shared) (H : Hp) (e : PySem.Env) (fp : List Addr) (pn : List (Addr × Obj)) (hr : Room j A') : Good C.no cf gl (gx X A' s H e fp pn) :=
  ⟨G.calm, G.N, G.nd, G.len, G.bl, ⟨j, hr⟩, ⟨j, hr, hj⟩, fun z => nomatch z⟩
theorem n_ge (G : Good C cf gl X) (hge : C.ge = true) {kk : Bool} {elt : E} {x : Tg} {it : E} {c : Option E} {tg iter ex : Expr} {ifs : List Expr} {scope : Scope} {f : Str} {p pos gpos : Pos} (hf : gloIs X.env.scope f (geName kk) = true) (hi : SI C cf gl X it iter) (hn : needT it = true → isTupE tg = true)
    (hb : blkC C.N X.env.scope scope (ownOf C.N (slotsT x)) = true) (ho : (ownOf C.N (slotsT x)).map (·.2) = slotsT x) (hm : matT C.N scope x tg = true) (hse : notSet iter = true) (hls : notLst iter = true) (hgc : genC scope = true) (hdot : (".0" : Str) ∉ C.N)
    (he : ∀ j, (∀ A' s H0 en fp pn, Room j A' → Good C.no cf gl (gx X A' s H0 en fp pn)) → FE C.no cf gl X j scope elt ex) (hc : ∀ j, (∀ A' s H0 en fp pn, Room j A' → Good C.no cf gl (gx X A' s H0 en fp pn)) → FC C.no cf gl X j scope c ifs) :
    SE C cf gl X (.ge kk elt x it c) (.Call (.Name f p) [.GeneratorExp ex [⟨tg, iter, ifs, 0⟩] scope gpos] [] pos) := by
  intro σ H W ρ d ρ' k st h2
  obtain ⟨ki, ke, kc, kx, knd, kd, kp⟩ := ok_ge k
  obtain ⟨tc, P, htab, hcode, TB⟩ := G.tab hge
  obtain ⟨j, hr, hj⟩ := G.fn
  rw [hge] at hr
  simp only [if_true] at hr
  have GF := fun A' s H0 en fp pn hr' => G.fr (j := j) hj A' s H0 en fp pn hr'
  have hge' : f = geName kk ∧ isGlo X.env.scope f = true ∧ okName f = true := by
    simp only [gloIs, Bool.and_eq_true, decide_eq_true_eq] at hf
    exact ⟨hf.1.1, hf.1.2, hf.2⟩
  obtain ⟨rfl, hglo, _⟩ := hge'
  have hgc' : scope.isCoroutine = false ∧ scope.names.lookup (".0" : Str) = some NameKind.local := by
    simp only [genC, Bool.and_eq_true, Bool.not_eq_true'] at hgc
    refine ⟨hgc.1, ?_⟩
    have := hgc.2
    split at this
    · assumption
    · cases this
  have ok : BlkOk X.N X.env.scope scope (ownOf C.N (slotsT x)) := by rw [G.N]; exact blkOk_by hb
  have hfold : ∀ v, genFold iter X.env v = pure v := fun v => by
    have := noFold hse X.env v
    cases iter <;> first | exact this | cases hls
  refine of_pe (pe_ge (g := gGe X j scope tg) (tt := tGeIfs X j scope ifs) (te := eGe X j scope ex) hr G.calm (by rw [G.N]; exact G.nd) (by rw [G.N]; exact hdot) (isGlo_of hglo) (G.bl _ (by cases kk <;> decide)) TB hcode hgc'.1 hgc'.2 ok (pi X tg iter)
    (fun A' s H0 e fp pn h1 h3 => ⟨fun pins s' σ H v u Q I r h => h A' s H0 e fp pn h1 h3 pins s' u I r⟩) (fun A' s H0 e fp pn h1 h3 => ?_) (fun A' s H0 e fp pn h1 h3 => ⟨fun pins s' σ H Q I h => h A' s H0 e fp pn h1 h3 pins s' I⟩) hfold) ?_
  · match ifs, hc j GF with
    | [], _ => exact pts_nil
    | [e0], _ => exact pts_one ⟨fun pins s' σ H Q I h => h A' s H0 e fp pn h1 h3 pins s' I⟩
    | _ :: _ :: _, hc => cases c <;> exact hc.elim
  · rw [ho]
    exact ge_read htab (fr_sem (C := C.no) G.N G.nd G.calm hm kx knd kc (hc j GF)) (fr_elt (C := C.no) ke (he j GF)) hi hn k st h2 fun v H' p => p
end
end Vi

set_option Elab.async false
set_option linter.all false
set_option maxRecDepth 100000
set_option maxHeartbeats 4000000
/-! Lists and tuples of ranges. -/
namespace Vi
open PySem L2 PySem.Spec PyProof.Rows

def wpR (X : Cx) (e : Expr) (σ : L2.St) (H : Hp) (Q : Int → Int → Int → Hp → Prop) : Prop := ∀ pins s, Inv X pins σ H s →
  wpAny (model X.prog X.w) X.A (eval e X.env) (fun x s' => ∃ r a b c t u v H', x = .ref r ∧ IsRange s'.heap r a b c t u v ∧ Inv X pins σ H' s' ∧ Q a b c H') X.xe s
def RgPo (K : PySem.W.Frag) (ms : List Bool) (T : List Nat) (σ : L2.St) (H : Hp) (W : Own) (ρ' : Env) (xs : List D) (a b c : Int) (H' : Hp) : Prop :=
  xs = rngStep a c xs.length ∧ Builtin.Range.small a b c = true ∧ Builtin.Range.rangeSize a b c = xs.length ∧ ∃ W', Evo ms T H W H' W' ∧ Sts K H' ms σ ρ' W'
def SR (C : Cfg) (cf : Fns) (gl : Nat → Option D) (X : Cx) (ir : E) (e : Expr) : Prop :=
  ∀ σ H W ρ xs ρ', (inf C.ms C.pm ir).ok = true → Sts X.K H C.ms σ ρ W → (ev cf gl ir).i ρ = some (xs, ρ') → wpR X e σ H (RgPo X.K C.ms (inf C.ms C.pm ir).T σ H W ρ' xs)
theorem rngUp_len (a : Int) (n : Nat) : (rngUp a n).length = n := by unfold rngUp; rw [List.length_map, List.length_range]
theorem rngStep_len (a c : Int) (n : Nat) : (rngStep a c n).length = n := by unfold rngStep; rw [List.length_map, List.length_range]
theorem rngUp_step (a : Int) (n : Nat) : rngUp a n = rngStep a 1 n := by
  unfold rngUp rngStep
  exact List.map_congr_left fun i _ => by rw [Int.mul_one]
section
variable {C : Cfg} {cf : Fns} {gl : Nat → Option D} {X : Cx}
theorem r_rng1 (G : Good C cf gl X) {a : E} {x : Expr} {f : Str} {p pos : Pos} (hf : gloIs X.env.scope f "range" = true) (hs : notStar x = true) (ha : SE C cf gl X a x) : SR C cf gl X (.irng1 a) (.Call (.Name f p) [x] [] pos) := by
  intro σ H W ρ xs ρ' k st h2
  simp only [ev, ofI, Option.bind_eq_some_iff, Option.map_eq_some_iff, Prod.exists, Prod.mk.injEq] at h2
  obtain ⟨d, ρ1, e1, ys, e2, rfl, rfl⟩ := h2
  obtain ⟨n, e3, e4⟩ := Option.bind_eq_some_iff.mp e2
  split at e4
  · rename_i hsm
    cases e4
    obtain ⟨rfl, hg, hd⟩ := glo_of hf
    intro pins s I
    refine thn (prg_1 hg (G.bl _ (by decide)) (pe X x) (star_cons hs [] X.env) pins s σ H (fun i j H' => RgPo X.K C.ms (nf C (.irng1 a)).T σ H W ρ1 (rngUp 0 n.toNat) i j 1 H') I (wpE_mono (ha σ H W ρ _ _ k st e1) fun v H1 ⟨W1, A, ev1, st1, r, _⟩ => ?_)) fun x s' ⟨r, i, j, t, u, v, H', ex, ir, I', q⟩ => ⟨r, i, j, 1, t, u, v, H', ex, ir, I', q⟩
    rw [isI_of e3] at r
    cases r
    obtain ⟨b1, b2⟩ := small_of hsm
    refine ⟨n, rfl, ?_, small_one (by omega) (by omega) b1 b2, ?_, W1, ev1, st1⟩
    · rw [rngUp_len]; exact rngUp_step _ _
    · rw [rngUp_len]; have := rangeSize_nat 0 n; simpa using this
  · cases e4
theorem r_rng2 (G : Good C cf gl X) {a b : E} {x y : Expr} {f : Str} {p pos : Pos} (hf : gloIs X.env.scope f "range" = true) (hs : notStar x = true) (hs2 : notStar y = true) (ha : SE C cf gl X a x) (hb : SE C cf gl X b y) : SR C cf gl X (.irng2 a b) (.Call (.Name f p) [x, y] [] pos) := by
  intro σ H W ρ xs ρ' k st h2
  simp only [ev, ofI, Option.bind_eq_some_iff, Option.map_eq_some_iff, Prod.exists, Prod.mk.injEq] at h2
  obtain ⟨d, ρ1, e1, d', ρ2, e2, ys, e3, rfl, rfl⟩ := h2
  have k' : ((nf C a).ok = true ∧ (nf C b).ok = true) ∧ dis (nf C a).s (nf C b).T = true := by simpa only [nf, inf, Bool.and_eq_true] using k
  obtain ⟨i, e4, e5⟩ := Option.bind_eq_some_iff.mp e3
  obtain ⟨j, e6, e7⟩ := Option.bind_eq_some_iff.mp e5
  split at e7
  · rename_i hsm
    cases e7
    have hsm' := Bool.and_eq_true_iff.mp hsm
    obtain ⟨rfl, hg, hd⟩ := glo_of hf
    intro pins s I
    refine thn (prg_2 hg (G.bl _ (by decide)) (pe X x) (pe X y) (star_cons hs _ X.env) (star_cons hs2 _ X.env) (star_all (by simp [hs2]) X.env pos) pins s σ H (fun i' j' H' => RgPo X.K C.ms (nf C (.irng2 a b)).T σ H W ρ2 (rngUp i (j - i).toNat) i' j' 1 H') I (nest2 (args_ok (.cons ha (se_of hb)) (allK2 k'.1.1 k'.1.2 k'.2) st (evs2 e1 e2)) fun v1 v2 H2 hp => ?_)) fun x s' ⟨r, i, j, t, u, v, H', ex, ir, I', q⟩ => ⟨r, i, j, 1, t, u, v, H', ex, ir, I', q⟩
    obtain ⟨W2, A, B, ev2, st2, r1, r2, _⟩ := all2 hp
    rw [isI_of e4] at r1
    rw [isI_of e6] at r2
    cases r1; cases r2
    obtain ⟨b1, b2⟩ := small_of hsm'.1
    obtain ⟨b3, b4⟩ := small_of hsm'.2
    refine ⟨i, j, rfl, rfl, ?_, small_one b1 b2 b3 b4, ?_, W2, ev2, st2⟩
    · rw [rngUp_len]; exact rngUp_step _ _
    · rw [rngUp_len]; exact rangeSize_nat i j
  · cases e7
theorem r_rng3 (G : Good C cf gl X) {a b c : E} {x y z : Expr} {f : Str} {p pos : Pos} (hf : gloIs X.env.scope f "range" = true) (hs : notStar x = true) (hs2 : notStar y = true) (hs3 : notStar z = true) (ha : SE C cf gl X a x) (hb : SE C cf gl X b y) (hc : SE C cf gl X c z)
    : SR C cf gl X (.irng3 a b c) (.Call (.Name f p) [x, y, z] [] pos) := by
  intro σ H W ρ xs ρ' k st h2
  simp only [ev, ofI, Option.bind_eq_some_iff, Option.map_eq_some_iff, Prod.exists, Prod.mk.injEq] at h2
  obtain ⟨d, ρ1, e1, d', ρ2, e2, d'', ρ3, e3, ys, e4, rfl, rfl⟩ := h2
  obtain ⟨i, e5, e6⟩ := Option.bind_eq_some_iff.mp e4
  obtain ⟨j, e7, e8⟩ := Option.bind_eq_some_iff.mp e6
  obtain ⟨c', e9, e10⟩ := Option.bind_eq_some_iff.mp e8
  have k' : allK [nf C a, nf C b, nf C c] = true := k
  split at e10
  · rename_i hsm
    cases e10
    simp only [Bool.and_eq_true, bne_iff_ne, decide_eq_true_eq] at hsm
    obtain ⟨⟨⟨z1, z2⟩, z3⟩, z4⟩ := hsm
    obtain ⟨rfl, hg, hd⟩ := glo_of hf
    intro pins s I
    have n : wpA X [x, y, z] σ H _ := nest_args (by simp [hs, hs2, hs3]) (args_ok (.cons ha (.cons hb (se_of hc))) k' st (evs3 e1 e2 e3))
    refine Call_ (ld_blt I hg (G.bl _ (by decide)) boot_range (PyProof.Rows.callWith_type1 (thn (n pos pins s I) fun us s1 ⟨vs, H2, I1, r1, hp⟩ => ?_) (by rw [star_cons hs]) (star_all (by simp [hs2, hs3]) X.env pos)))
    obtain ⟨W2, As, ev2, st2, l⟩ := hp
    rw [show allT (infs C.ms C.pm [a, b, c]) = (nf C a).T ++ ((nf C b).T ++ (nf C c).T) from allT3] at ev2
    have rr := l.rps
    generalize As.flatten = B at rr
    rw [isI_of e5, isI_of e7, isI_of e9] at rr
    cases rr with
    | cons q1 rr =>
      cases rr with
      | cons q2 rr =>
        cases rr with
        | cons q3 rr =>
          cases rr
          cases q1; cases q2; cases q3
          cases r1 with
          | cons r rr =>
            cases rr with
            | cons r' rr =>
              cases rr with
              | cons r'' rr =>
                cases rr
                obtain ⟨t, rfl⟩ := r
                obtain ⟨t', rfl⟩ := r'
                obtain ⟨t'', rfl⟩ := r''
                refine call_range_3 z1 ?_ (.inl (PyProof.noPylong_small (of_decide_eq_true z2)))
                refine ⟨_, i, j, c', t, t', t'', H2, rfl, IsRange.new _ _ _ _ _ _ _, I1.kept (t' := s1.toks) fun b o e => Heap.get?_push_of_some _ e, ?_, z3, ?_, W2, ev2, st2⟩
                · rw [rngStep_len]
                · rw [rngStep_len]; exact z4
  · cases e10
theorem vals_rngC {a c : Int} {n : Nat} {acc : Array Value} (h : ItemsOf (fun i v => ∃ t, v = .int (a + i * c) t) acc n) : Vals ((List.range n).map fun (i : Nat) => V.int (a + i * c)) acc.toList := by
  have e : acc.toList.length = n := by rw [Array.length_toList]; exact h.1
  rw [← e]
  refine vals_of_get acc.toList _ fun j u hj => ?_
  obtain ⟨t, rfl⟩ := h.2 j u (by rw [← hj, Array.getElem?_toList])
  exact ⟨t, rfl⟩
theorem rps_rng {K : PySem.W.Frag} {H : Hp} {a c : Int} : ∀ l : List Nat, Rps K H (l.map fun (i : Nat) => V.int (a + i * c)) (l.map fun (i : Nat) => D.int (a + i * c)) []
  | [] => .nil
  | x :: r => .cons (.int _) (rps_rng r)
theorem n_lofL (G : Good C cf gl X) {it : E} {x : Expr} {f : Str} {p pos : Pos} (hf : gloIs X.env.scope f "list" = true) (hs : notStar x = true) (h : SR C cf gl X it x) : SE C cf gl X (.lof .list it) (.Call (.Name f p) [x] [] pos) := by
  intro σ H W ρ d ρ' k st h2
  simp only [ev, ofV, Option.bind_eq_some_iff, Option.map_eq_some_iff, Prod.exists, Prod.mk.injEq] at h2
  obtain ⟨xs, ρ1, e1, d', e2, rfl, rfl⟩ := h2
  simp only [lofD] at e2
  split at e2
  · rename_i hl
    cases e2
    obtain ⟨rfl, hg, hd⟩ := glo_of hf
    intro pins s I
    refine Call_ (ld_blt I hg (G.bl _ (by decide)) boot_list (PyProof.Rows.callWith_type1 (args_cons (thn (h σ H W ρ xs ρ1 k st e1 pins s I) fun v s1 ⟨r, a, b, c, t, u, w, H1, ex, hr, I1, q⟩ => args_nil ?_) (star_cons hs [] X.env)) (star_cons hs [] X.env) rfl))
    subst ex
    obtain ⟨eq, hsm, hsz, W1, ev1, st1⟩ := q
    refine call_list_range (n := xs.length) (I1.ok.hd G.calm) hr hsm hsz hl fun h' tk acc c' hk e' hi => ?_
    have hn := I1.hok.fresh (Nat.le_refl _)
    refine ⟨.ref s1.heap.objs.size, upd H1 s1.heap.objs.size (.lst ((List.range xs.length).map fun (i : Nat) => V.int (a + i * c))), I1.laid hk (Nat.le_refl _) (show ObjOk X.prog X.w _ _ _ (.lst _) from ⟨?_, acc.toList, c', vals_rngC hi, ?_⟩), rfl, ?_⟩
    · rw [List.length_map, List.length_range, sz_eq]; exact hl
    · rw [Array.toArray_toList]; exact e'
    · exact po_view (I := nf C (.lof .list it)) (A0 := []) ev1 st1 .nilS (fun _ h => nomatch h) (by rw [eq]; unfold rngStep; rw [List.length_map, List.length_range]; exact .lst hn (rps_rng _) fun _ h => h) rfl rfl
  · cases e2
theorem n_lofT (G : Good C cf gl X) {it : E} {x : Expr} {f : Str} {p pos : Pos} (hf : gloIs X.env.scope f "tuple" = true) (hs : notStar x = true) (h : SR C cf gl X it x) : SE C cf gl X (.lof .tuple it) (.Call (.Name f p) [x] [] pos) := by
  intro σ H W ρ d ρ' k st h2
  simp only [ev, ofV, Option.bind_eq_some_iff, Option.map_eq_some_iff, Prod.exists, Prod.mk.injEq] at h2
  obtain ⟨xs, ρ1, e1, d', e2, rfl, rfl⟩ := h2
  simp only [lofD] at e2
  split at e2
  · rename_i hl
    cases e2
    obtain ⟨rfl, hg, hd⟩ := glo_of hf
    intro pins s I
    refine Call_ (ld_blt I hg (G.bl _ (by decide)) boot_tuple (PyProof.Rows.callWith_type1 (args_cons (thn (h σ H W ρ xs ρ1 k st e1 pins s I) fun v s1 ⟨r, a, b, c, t, u, w, H1, ex, hr, I1, q⟩ => args_nil ?_) (star_cons hs [] X.env)) (star_cons hs [] X.env) rfl))
    subst ex
    obtain ⟨eq, hsm, hsz, W1, ev1, st1⟩ := q
    refine call_tuple_range (n := xs.length) (I1.ok.hd G.calm) hr hsm hsz hl fun h' tk acc hk hi => ?_
    have I2 : Inv X pins σ H1 { s1 with heap := h', toks := tk } := I1.kept hk
    have hn := I2.hok.fresh (Nat.le_refl _)
    refine ⟨.ref h'.objs.size, upd H1 h'.objs.size (.tup ((List.range xs.length).map fun (i : Nat) => V.int (a + i * c))), I2.laid (t' := tk) (fun c o e => Heap.get?_push_of_some _ e) (Nat.le_refl _) (show ObjOk X.prog X.w _ _ _ (.tup _) from ⟨?_, acc.toList, vals_rngC hi, ?_⟩), rfl, ?_⟩
    · rw [List.length_map, List.length_range, sz_eq]; exact hl
    · rw [Array.toArray_toList]; exact IsTup.new _ _
    · exact po_view (I := nf C (.lof .tuple it)) (A0 := []) ev1 st1 .nilS (fun _ h => nomatch h) (by rw [eq]; unfold rngStep; rw [List.length_map, List.length_range]; exact .tup hn (rps_rng _) fun _ h => h) rfl rfl
  · cases e2
end
end Vi

set_option Elab.async false
set_option linter.all false
set_option maxRecDepth 100000
set_option maxHeartbeats 4000000
/-! Expressions: every reading holds. -/
namespace Vi
open PySem L2

section
variable {C : Cfg} {cf : Fns} {gl : Nat → Option D}
structure AllE (C : Cfg) (cf : Fns) (gl : Nat → Option D) (X : Cx) (ir : E) (e : Expr) : Prop where
  se : SE C cf gl X ir e
  st : tst ir = true → ST C cf gl X ir e
  si : SI C cf gl X ir e
  sr : isRg ir = true → SR C cf gl X ir e
variable {X : Cx}
theorem no_se {ir : E} {e : Expr} (h : (ev cf gl ir).v = fun _ => none) : SE C cf gl X ir e := by
  intro σ H W ρ d ρ' _ _ h2
  rw [h] at h2; cases h2
theorem no_st {ir : E} {e : Expr} (h : (ev cf gl ir).t = fun _ => none) : ST C cf gl X ir e := by
  intro σ H W ρ d ρ' _ _ h2
  rw [h] at h2; cases h2
/-- a node that is a value -/
theorem allV {ir : E} {e : Expr} (h : SE C cf gl X ir e) (hp : plainT e = true) (ht : (ev cf gl ir).t = tOf (ev cf gl ir).v) (hi : (ev cf gl ir).i = iOf (ev cf gl ir).v) (hq : (nf C ir).p = false) (hr : isRg ir = false) : AllE C cf gl X ir e :=
  ⟨h, fun _ => st_plain h hp ht, i_val h hi hq, fun z => by rw [hr] at z; cases z⟩
/-- a node that is a value, its test told apart -/
theorem allVT {ir : E} {e : Expr} (h : SE C cf gl X ir e) (ht : tst ir = true → ST C cf gl X ir e) (hi : (ev cf gl ir).i = iOf (ev cf gl ir).v) (hq : (nf C ir).p = false) (hr : isRg ir = false) : AllE C cf gl X ir e :=
  ⟨h, ht, i_val h hi hq, fun z => by rw [hr] at z; cases z⟩
/-- a node that is walked alone -/
theorem allI {ir : E} {e : Expr} (h : SI C cf gl X ir e) (hv : (ev cf gl ir).v = fun _ => none) (ht : (ev cf gl ir).t = fun _ => none) (hr : isRg ir = true → SR C cf gl X ir e) : AllE C cf gl X ir e :=
  ⟨no_se hv, fun _ => no_st ht, h, hr⟩
theorem lit_ok {d : D} {e : Expr} (h : litIs d e = true) (G : Good C cf gl X) : AllE C cf gl X (.lit d) e := by
  unfold litIs at h
  split at h
  · have := of_decide_eq_true h; subst this
    exact allV (n_lit rfl pe_int fun H => .int _) rfl rfl rfl rfl rfl
  · have := of_decide_eq_true h; subst this
    exact allV (n_lit rfl pe_bl fun H => .bl _) rfl rfl rfl rfl rfl
  · exact allV (n_lit rfl pe_non fun H => .non) rfl rfl rfl rfl rfl
  · have := of_decide_eq_true h; subst this
    exact allV (n_lit rfl pe_str fun H => .str _) rfl rfl rfl rfl rfl
  · cases h
def PartOk (C : Cfg) (cf : Fns) (gl : Nat → Option D) (X : Cx) (lo : Option E) (l : Option Expr) : Prop := match lo, l with | none, none => True | some e, some x => SE C cf gl X e x | _, _ => False
mutual
theorem sem : ∀ (ir : E) {C : Cfg} {X : Cx} (_ : Good C cf gl X) (e : Expr), mat C X.env.scope ir e = true → AllE C cf gl X ir e
  | .own a, C, X, G, e, h => by
    simp only [mat] at h
    have s := sem a G e h
    exact allVT (n_own s.se) (fun z => nomatch z) rfl rfl rfl
  | .chk a, C, X, G, e, h => by
    simp only [mat] at h
    have s := sem a G e h
    exact allVT (n_chk s.se) (fun z => nomatch z) rfl rfl rfl
  | .ichk a, C, X, G, e, h => by
    simp only [mat] at h
    have s := sem a G e h
    exact allI (i_chk s.si) rfl rfl fun z => nomatch z
  | .lit d, C, X, G, e, h => by
    simp only [mat] at h
    exact lit_ok h G
  | .var i, C, X, G, e, h => by
    simp only [mat] at h
    split at h
    · exact allV (n_var G h) rfl rfl rfl rfl rfl
    · cases h
  | .mov i, C, X, G, e, h => by
    simp only [mat] at h
    split at h
    · exact allV (n_mov G h) rfl rfl rfl rfl rfl
    · cases h
  | .glb _, C, X, G, e, h => by simp only [mat] at h; cases h
  | .bin o a b, C, X, G, e, h => by
    simp only [mat] at h
    split at h
    · simp only [Bool.and_eq_true] at h
      exact allV (n_bin h.1.1 (sem a G _ h.1.2).se (sem b G _ h.2).se) rfl rfl rfl rfl rfl
    · cases h
  | .neg a, C, X, G, e, h => by
    simp only [mat] at h
    split at h
    · exact allV (n_neg (sem a G _ h).se) rfl rfl rfl rfl rfl
    · cases h
  | .cmp o a b, C, X, G, e, h => by
    simp only [mat] at h
    split at h
    · simp only [Bool.and_eq_true, Bool.not_eq_true'] at h
      have sa := (sem a G _ h.1.2).se
      have sb := (sem b G _ h.2).se
      exact allVT (n_cmp G h.1.1.1 h.1.1.2 sa sb) (fun _ => st_cmp G h.1.1.1 h.1.1.2 sa sb) rfl rfl rfl
    · cases h
  | .cmp2 o p a b c, C, X, G, e, h => by
    simp only [mat] at h
    split at h
    · simp only [Bool.and_eq_true, Bool.not_eq_true'] at h
      obtain ⟨⟨⟨⟨⟨h1, h2⟩, h3⟩, h4⟩, h5⟩, h6⟩ := h
      have sa := (sem a G _ h4).se
      have sb := (sem b G _ h5).se
      have sc := (sem c G _ h6).se
      exact allVT (n_cmp2 G h1 h2 h3 sa sb sc) (fun _ => st_cmp2 G h1 h2 h3 sa sb sc) rfl rfl rfl
    · cases h
  | .band a b, C, X, G, e, h => by
    simp only [mat] at h
    split at h
    · simp only [Bool.and_eq_true] at h
      have sa := sem a G _ h.1
      have sb := sem b G _ h.2
      exact allVT (n_band_t sa.se (n_one sb.se)) (fun z => by
        have z' : tst a = true ∧ tst b = true := Bool.and_eq_true_iff.mp z
        exact st_band_t (sa.st z'.1) (st_one_and (sb.st z'.2))) rfl rfl rfl
    · simp only [Bool.and_eq_true] at h
      have sa := sem a G _ h.1
      have sb := sem b G _ h.2
      exact allVT (n_band_t sa.se sb.se) (fun z => by
        have z' : tst a = true ∧ tst b = true := Bool.and_eq_true_iff.mp z
        exact st_band_t (sa.st z'.1) (sb.st z'.2)) rfl rfl rfl
    · cases h
  | .bor a b, C, X, G, e, h => by
    simp only [mat] at h
    split at h
    · simp only [Bool.and_eq_true] at h
      have sa := sem a G _ h.1
      have sb := sem b G _ h.2
      exact allVT (n_bor_t sa.se (n_one sb.se)) (fun z => by
        have z' : tst a = true ∧ tst b = true := Bool.and_eq_true_iff.mp z
        exact st_bor_t (sa.st z'.1) (st_one_or (sb.st z'.2))) rfl rfl rfl
    · simp only [Bool.and_eq_true] at h
      have sa := sem a G _ h.1
      have sb := sem b G _ h.2
      exact allVT (n_bor_t sa.se sb.se) (fun z => by
        have z' : tst a = true ∧ tst b = true := Bool.and_eq_true_iff.mp z
        exact st_bor_t (sa.st z'.1) (sb.st z'.2)) rfl rfl rfl
    · cases h
  | .bnot a, C, X, G, e, h => by
    simp only [mat] at h
    split at h
    · have sa := sem a G _ h
      exact allVT (n_not sa.se) (fun z => st_not (sa.st z)) rfl rfl rfl
    · cases h
  | .ite c a b, C, X, G, e, h => by
    simp only [mat] at h
    split at h
    · simp only [Bool.and_eq_true] at h
      exact allVT (n_ite ((sem c G _ h.1.1.2).st h.1.1.1) (sem a G _ h.1.2).se (sem b G _ h.2).se) (fun z => nomatch z) rfl rfl rfl
    · cases h
  | .tup es, C, X, G, e, h => by
    simp only [mat] at h
    split at h
    · simp only [Bool.and_eq_true, decide_eq_true_eq] at h
      obtain ⟨h1, h2⟩ := sems es G _ h.1
      exact allV (n_tup h2 h.2 h1) rfl rfl rfl rfl rfl
    · cases h
  | .lst es, C, X, G, e, h => by
    simp only [mat] at h
    split at h
    · simp only [Bool.and_eq_true, decide_eq_true_eq] at h
      obtain ⟨h1, h2⟩ := sems es G _ h.1
      exact allV (n_lst h2 h.2 h1) rfl rfl rfl rfl rfl
    · cases h
  | .dct0, C, X, G, e, h => by
    simp only [mat] at h
    split at h
    · exact allV n_dct0 rfl rfl rfl rfl rfl
    · cases h
  | .idx a i, C, X, G, e, h => by
    simp only [mat] at h
    split at h
    · simp only [Bool.and_eq_true] at h
      exact allV (n_idx G h.1.1 (sem a G _ h.1.2).se (sem i G _ h.2).se) rfl rfl rfl rfl rfl
    · cases h
  | .slc a lo hi, C, X, G, e, h => by
    simp only [mat] at h
    split at h
    · simp only [Bool.and_eq_true] at h
      exact allV (n_slc (sem a G _ h.1.1).se (semo lo G _ h.1.2) (semo hi G _ h.2)) rfl rfl rfl rfl rfl
    · cases h
  | .rev a, C, X, G, e, h => by
    simp only [mat] at h
    split at h
    · simp only [Bool.and_eq_true, decide_eq_true_eq] at h
      obtain ⟨rfl, h⟩ := h
      exact allV (n_rev (sem a G _ h).se) rfl rfl rfl rfl rfl
    · cases h
  | .fn b es, C, X, G, e, h => by
    simp only [mat] at h
    split at h
    · simp only [Bool.and_eq_true] at h
      obtain ⟨h1, h2⟩ := sems es G _ h.2
      exact allV (n_fn G h.1.1 h.1.2 h2 h1) rfl rfl rfl rfl rfl
    · cases h
  | .isi a t, C, X, G, e, h => by
    simp only [mat] at h
    split at h
    · simp only [Bool.and_eq_true] at h
      exact allV (n_isi G h.1.1.1 h.1.1.2 h.1.2 (sem a G _ h.2).se) rfl rfl rfl rfl rfl
    · cases h
  | .mth m o es, C, X, G, e, h => by
    unfold mat at h
    split at h
    · simp only [Bool.and_eq_true, decide_eq_true_eq] at h
      obtain ⟨⟨⟨⟨⟨rfl, h2⟩, h3⟩, h4⟩, h5⟩, h6⟩ := h
      match es, h6 with
      | [a], h6 =>
        have sa := (sem a G _ h6).se
        have so := (sem o G _ h5).se
        cases m with
        | get => cases h4
        | index => exact allV (n_index G h4 h2 h3 so sa) rfl rfl rfl rfl rfl
        | tindex =>
          cases o with
          | tup es0 =>
            unfold mat at h5
            split at h5
            · simp only [Bool.and_eq_true, decide_eq_true_eq] at h5
              obtain ⟨g1, g2⟩ := sems es0 G _ h5.1
              exact allV (n_tindex G h2 h3 g2 h5.2 g1 sa) rfl rfl rfl rfl rfl
            · cases h5
          | _ => cases h4
      | [], h6 => cases h6
      | _ :: _ :: _, h6 => cases h6
    · cases h
  | .mut m i es, C, X, G, e, h => by
    cases e with
    | Call f xs ks cpos =>
      cases f with
      | Attribute x f apos =>
        cases x with
        | Name n p =>
          cases ks with
          | cons => simp only [mat] at h; cases h
          | nil =>
            unfold mat at h
            simp only [Bool.and_eq_true, decide_eq_true_eq] at h
            obtain ⟨⟨⟨rfl, h2⟩, h3⟩, h4⟩ := h
            match m, es, xs, h4 with
            | .append, [a], [x], h4 =>
              simp only [Bool.and_eq_true] at h4
              exact allV (n_append G h3 h2 h4.1 (sem a G _ h4.2).se) rfl rfl rfl rfl rfl
            | .extend, [a], [x], h4 =>
              simp only [Bool.and_eq_true] at h4
              exact allV (n_extend G h3 h2 h4.1 (sem a G _ h4.2).se) rfl rfl rfl rfl rfl
            | .pop, [], [], _ => exact allV (n_pop G h3 h2) rfl rfl rfl rfl rfl
            | .popAt, [a], [x], h4 =>
              simp only [Bool.and_eq_true] at h4
              exact allV (n_popAt G h3 h2 h4.1 (sem a G _ h4.2).se) rfl rfl rfl rfl rfl
        | _ => simp only [mat] at h; cases h
      | _ => simp only [mat] at h; cases h
    | _ => simp only [mat] at h; cases h
  | .call f es bk, C, X, G, e, h => by
    simp only [mat] at h
    split at h
    · simp only [Bool.and_eq_true, decide_eq_true_eq] at h
      obtain ⟨h1, h2⟩ := sems es G _ h.2
      exact allV (n_call G h.1.1.1.1 h.1.1.1.2 h.1.1.2 h.1.2 h2 h1) rfl rfl rfl rfl rfl
    · cases h
  | .lc elt x it c, C, X, G, e, h => by
    simp only [mat] at h
    split at h
    · simp only [Bool.and_eq_true, decide_eq_true_eq] at h
      obtain ⟨⟨⟨⟨⟨⟨⟨⟨rfl, h2⟩, h3⟩, h4⟩, h5⟩, h6⟩, h7⟩, h8⟩, h9⟩ := h
      exact allV (n_lc G (sem it G _ h4).si (fun z => by rw [z] at h3; simpa using h3) h5 h6 h7 h2 (fun s H0 C0 cl fp => (sem elt (G.blk _ s H0 C0 cl fp) _ h8).se) (semc c G _ _ h9)) rfl rfl rfl rfl rfl
    · cases h
  | .ge k elt x it c, C, X, G, e, h => by
    simp only [mat] at h
    split at h
    · simp only [Bool.and_eq_true, decide_eq_true_eq] at h
      obtain ⟨⟨⟨⟨⟨⟨⟨⟨⟨⟨⟨⟨⟨h1, h2⟩, rfl⟩, h4⟩, h5⟩, h6⟩, h7⟩, h8⟩, h9⟩, h10⟩, h11⟩, h12⟩, h13⟩, h14⟩ := h
      exact allV (n_ge G h1 h2 (sem it G _ h7).si (fun z => by rw [z] at h6; simpa using h6) h8 h9 h10 h4 h5 h11 h12 (fun j GF A' s H0 en fp pn hr hs => (sem elt (GF A' s H0 en fp pn hr) _ (by show mat C.no en.scope elt _ = true; rw [hs]; exact h13)).se)
        (fun j GF => semf c j GF _ _ h14)) rfl rfl rfl rfl rfl
    · cases h
  | .lof b it, C, X, G, e, h => by
    simp only [mat] at h
    split at h
    · simp only [Bool.and_eq_true, Bool.or_eq_true, beq_iff_eq] at h
      obtain ⟨⟨⟨⟨h1, h2⟩, h3⟩, h4⟩, h5⟩ := h
      have s := (sem it G _ h5).sr h4
      rcases h1 with rfl | rfl
      · exact allV (n_lofL G h2 h3 s) rfl rfl rfl rfl rfl
      · exact allV (n_lofT G h2 h3 s) rfl rfl rfl rfl rfl
    · cases h
  | .irng1 a, C, X, G, e, h => by
    simp only [mat] at h
    split at h
    · simp only [Bool.and_eq_true] at h
      have sa := (sem a G _ h.2).se
      exact allI (i_rng1 G h.1.1 h.1.2 sa) rfl rfl fun _ => r_rng1 G h.1.1 h.1.2 sa
    · cases h
  | .irng2 a b, C, X, G, e, h => by
    simp only [mat] at h
    split at h
    · simp only [Bool.and_eq_true] at h
      obtain ⟨⟨⟨⟨h1, h2⟩, h3⟩, h4⟩, h5⟩ := h
      have sa := (sem a G _ h4).se
      have sb := (sem b G _ h5).se
      exact allI (i_rng2 G h1 h2 h3 sa sb) rfl rfl fun _ => r_rng2 G h1 h2 h3 sa sb
    · cases h
  | .irng3 a b c, C, X, G, e, h => by
    simp only [mat] at h
    split at h
    · simp only [Bool.and_eq_true] at h
      obtain ⟨⟨⟨⟨⟨⟨h1, h2⟩, h3⟩, h4⟩, h5⟩, h6⟩, h7⟩ := h
      have sa := (sem a G _ h5).se
      have sb := (sem b G _ h6).se
      have sc := (sem c G _ h7).se
      exact allI (i_rng3 G h1 h2 h3 h4 sa sb sc) rfl rfl fun _ => r_rng3 G h1 h2 h3 h4 sa sb sc
    · cases h
  | .ienum a, C, X, G, e, h => by
    simp only [mat] at h
    split at h
    · simp only [Bool.and_eq_true] at h
      exact allI (i_enum G h.1.1 h.1.2 (sem a G _ h.2).se) rfl rfl fun z => nomatch z
    · cases h
  | .izip a b, C, X, G, e, h => by
    simp only [mat] at h
    split at h
    · simp only [Bool.and_eq_true] at h
      obtain ⟨⟨⟨⟨h1, h2⟩, h3⟩, h4⟩, h5⟩ := h
      exact allI (i_zip G h1 h2 h3 (sem a G _ h4).se (sem b G _ h5).se) rfl rfl fun z => nomatch z
    · cases h
  | .irev a, C, X, G, e, h => by
    simp only [mat] at h
    split at h
    · simp only [Bool.and_eq_true] at h
      exact allI (i_rev G h.1.1 h.1.2 (sem a G _ h.2).se) rfl rfl fun z => nomatch z
    · cases h
theorem sems : ∀ (irs : List E) {C : Cfg} {X : Cx} (_ : Good C cf gl X) (es : List Expr), mats C X.env.scope irs es = true → SEs C cf gl X irs es ∧ es.all notStar = true
  | [], C, X, G, es, h => by
    simp only [mats] at h
    split at h
    · exact ⟨.nil, rfl⟩
    · cases h
  | a :: irs, C, X, G, es, h => by
    simp only [mats] at h
    split at h
    · simp only [Bool.and_eq_true] at h
      obtain ⟨h1, h2⟩ := sems irs G _ h.2
      exact ⟨.cons (sem a G _ h.1.2).se h1, by rw [List.all_cons, h.1.1, h2]; rfl⟩
    · cases h
theorem semo : ∀ (o : Option E) {C : Cfg} {X : Cx} (_ : Good C cf gl X) (e : Option Expr), mato C X.env.scope o e = true → PartOk C cf gl X o e
  | none, C, X, G, e, h => by
    simp only [mato] at h
    split at h
    · trivial
    · cases h
  | some a, C, X, G, e, h => by
    simp only [mato] at h
    split at h
    · exact (sem a G _ h).se
    · cases h
theorem semf : ∀ (o : Option E) {C : Cfg} {X : Cx} (j : Nat) (_ : ∀ A' s H0 en fp pn, Room j A' → Good C cf gl (gx X A' s H0 en fp pn)) (scope : Scope) (es : List Expr), matc C scope o es = true → FC C cf gl X j scope o es
  | none, C, X, j, GF, scope, es, h => by
    simp only [matc] at h
    split at h
    · trivial
    · cases h
  | some a, C, X, j, GF, scope, es, h => by
    simp only [matc] at h
    split at h
    · simp only [Bool.and_eq_true] at h
      exact fun A' s H0 en fp pn hr hs => (sem a (GF A' s H0 en fp pn hr) _ (by show mat C en.scope a _ = true; rw [hs]; exact h.2)).st h.1
    · cases h
theorem semc : ∀ (o : Option E) {C : Cfg} {X : Cx} (_ : Good C cf gl X) (scope : Scope) (es : List Expr), matc C (relS scope X.env.scope) o es = true → BC C cf gl X scope o es
  | none, C, X, G, scope, es, h => by
    simp only [matc] at h
    split at h
    · trivial
    · cases h
  | some a, C, X, G, scope, es, h => by
    simp only [matc] at h
    split at h
    · simp only [Bool.and_eq_true] at h
      exact fun s H0 C0 cl fp => (sem a (G.blk scope s H0 C0 cl fp) _ h.2).st h.1
    · cases h
end
end
end Vi

set_option Elab.async false
set_option linter.all false
set_option maxRecDepth 100000
set_option maxHeartbeats 4000000
/-! Statements. -/
namespace Vi
open PySem L2

def noTup (tg x : Expr) : Bool := match tg, x with
  | .Tuple _ _ _, .Tuple _ _ _ => false
  | .List _ _, .Tuple _ _ _ => false
  | _, _ => true
mutual
def matS (C : Cfg) (sc : Scope) : S → Stmt → Bool
  | .set t e, s => (match s with
    | .Assign [tg] x _ => notStar tg && matT C.N sc t tg && mat C sc e x && (match tg, x, e with
      | .Name _ _, .ListComp _ _ _ _, .lc _ _ _ _ => true
      | .Tuple ts _ _, .Tuple vs _ _, .tup _ => !swTells sc ts vs || !(vs.all (constantsAlone 8))
      | _, _, _ => noLc x && noTup tg x)
    | _ => false)
  | .par _ _ _ _, _ => false
  | .aug i o e, s => (match s with | .AugAssign (.Name y _) op x _ => (o == .add || o == .sub) && binOf o op && decide (C.N[i]? = some y) && isLoc sc y && mat C sc e x | _ => false)
  | .put i k e, s => (match s with | .Assign [.Subscript (.Name y _) k' _] x _ => slotIs C.N sc i y && notSlice k' && noLc x && mat C sc k k' && mat C sc e x | _ => false)
  | .augput _ _ _ _, _ => false
  | .ex e, s => (match s with | .Expr x _ => noLc x && mat C sc e x | _ => false)
  | .ret e, s => (match s with | .Return (some x) _ => mat C sc e x | _ => false)
  | .ret0, s => (match s with | .Return none _ => true | _ => false)
  | .iff c t f, s => (match s with | .If x a b _ => tst c && mat C sc c x && matSs C sc t a && matSs C sc f b | _ => false)
  | .whl c b, s => (match s with | .While x a [] _ => tst c && mat C sc c x && matSs C sc b a | _ => false)
  | .for_ t it b, s => (match s with | .For tg ix a [] _ => notSet ix && (!needT it || isTupE tg) && matT C.N sc t tg && mat C sc it ix && matSs C sc b a | _ => false)
  | .brk, s => (match s with | .Break _ => true | _ => false)
  | .cnt, s => (match s with | .Continue _ => true | _ => false)
  | .pas, s => (match s with | .Pass _ => true | _ => false)
  | .doc, s => (match s with | .Expr (.Constant (.str _) _ _) _ => true | _ => false)
def matSs (C : Cfg) (sc : Scope) : List S → List Stmt → Bool
  | [], ss => (match ss with | [] => true | _ => false)
  | s :: r, ss => (match ss with | x :: xs => matS C sc s x && matSs C sc r xs | _ => false)
end

section
variable {K : PySem.W.Frag} {ms : List Bool} {T T1 T2 : List Nat} {Am A1 A2 : List Nat} {σ σ' σ1 : St} {H H' H1 : Hp} {W W' W1 W2 : Own} {ρ ρ' ρ1 : Env} {out : Out} {D : Ends}
/-- a state behind some statements -/
structure Fin (K : PySem.W.Frag) (ms : List Bool) (T Am : List Nat) (σ : St) (H : Hp) (W : Own) (ρ' : Env) (σ' : St) (H' : Hp) (W' : Own) : Prop where
  ev : Evo ms T H W H' W'
  st : Sts K H' ms σ' ρ' W'
  sl : ∀ j, j ∉ Am → σ'[j]? = σ[j]?
def EndOk (K : PySem.W.Frag) (ms : List Bool) (T Am : List Nat) (σ : St) (H : Hp) (W : Own) (D : Ends) : Out → Prop
  | .nx ρ' => ∀ σ' H' W', Fin K ms T Am σ H W ρ' σ' H' W' → D.nx σ' H'
  | .bk ρ' => ∀ σ' H' W', Fin K ms T Am σ H W ρ' σ' H' W' → D.bk σ' H'
  | .ct ρ' => ∀ σ' H' W', Fin K ms T Am σ H W ρ' σ' H' W' → D.ct σ' H'
  | .rt d ρ' => ∀ v σ' H' W' Av, Fin K ms T Am σ H W ρ' σ' H' W' → Rp K H' v d Av → Vt ms T true [] H W W' Av → D.rt v H'
theorem Fin.refl (st : Sts K H ms σ ρ W) : Fin K ms T Am σ H W ρ σ H W := ⟨.refl, st, fun _ _ => rfl⟩
theorem Fin.after {σ2 : St} {H2 : Hp} {ρ2 : Env} (f : Fin K ms T1 A1 σ H W ρ1 σ1 H1 W1) (g : Fin K ms T2 A2 σ1 H1 W1 ρ2 σ2 H2 W2) (hT : ∀ j ∈ T1 ++ T2, j ∈ T) (hA : ∀ j ∈ A1 ++ A2, j ∈ Am) : Fin K ms T Am σ H W ρ2 σ2 H2 W2 :=
  ⟨(f.ev.trans g.ev).mono hT, g.st, fun j hj => (g.sl j fun z => hj (hA j (List.mem_append_right _ z))).trans (f.sl j fun z => hj (hA j (List.mem_append_left _ z)))⟩
theorem EndOk.after (f : Fin K ms T1 A1 σ H W ρ1 σ1 H1 W1) (hT : ∀ j ∈ T1 ++ T2, j ∈ T) (hA : ∀ j ∈ A1 ++ A2, j ∈ Am) (h : EndOk K ms T Am σ H W D out) : EndOk K ms T2 A2 σ1 H1 W1 D out := by
  cases out with
  | nx ρ' => exact fun σ' H' W' g => h σ' H' W' (f.after g hT hA)
  | bk ρ' => exact fun σ' H' W' g => h σ' H' W' (f.after g hT hA)
  | ct ρ' => exact fun σ' H' W' g => h σ' H' W' (f.after g hT hA)
  | rt d ρ' => exact fun v σ' H' W' Av g r t => h v σ' H' W' Av (f.after g hT hA) r ((t.back f.ev).monoT hT)
theorem EndOk.mono (hT : ∀ j ∈ T2, j ∈ T) (hA : ∀ j ∈ A2, j ∈ Am) (h : EndOk K ms T Am σ H W D out) (st : Sts K H ms σ ρ W) : EndOk K ms T2 A2 σ H W D out :=
  h.after (T1 := []) (A1 := []) (Fin.refl st) (fun j hj => hT j (by simpa using hj)) fun j hj => hA j (by simpa using hj)
/-- slots take parts of a value -/
theorem Evo.bind {S : List Nat} {A : List Addr} (e : Evo ms T H W H1 W1) (u : ∀ j, j ∉ S → W2 j = W1 j) (g : ∀ j ∈ S, ∀ a ∈ W2 j, a ∈ A) (og : ∀ j ∈ S, owns ms j = true → ∀ a ∈ A, (∃ k ∈ T, owns ms k = true ∧ a ∈ W k) ∨ H a = none) : Evo ms (T ++ S) H W H1 W2 :=
  ⟨e.imm, fun a o q k => e.kp a o q fun j hj => k j (List.mem_append_left _ hj), fun j hj => by
    rw [u j fun z => hj (List.mem_append_right _ z), e.un j fun z => hj (List.mem_append_left _ z)], fun j hj oj a ha => by
    have up : (∃ k ∈ T, owns ms k = true ∧ a ∈ W k) ∨ H a = none → (∃ k ∈ T ++ S, owns ms k = true ∧ a ∈ W k) ∨ H a = none := fun z => z.imp_left fun ⟨k, hk, q⟩ => ⟨k, List.mem_append_left _ hk, q⟩
    by_cases z : j ∈ S
    · exact up (og j z oj a (g j z a ha))
    · rw [u j z] at ha
      rcases List.mem_append.mp hj with y | y
      · exact up (e.nw j y oj a ha)
      · exact absurd y z, e.dom⟩
end

section
variable {C : Cfg} {cf : Fns} {gl : Nat → Option D} {w : Nat} {X : Cx}
abbrev nS (C : Cfg) (s : S) : InfS := infS C.ms C.pm s
abbrev nSs (C : Cfg) (s : List S) : InfS := infSs C.ms C.pm s
/-- a statement's reading holds of the machine -/
def SS (C : Cfg) (cf : Fns) (gl : Nat → Option D) (w : Nat) (X : Cx) (s : S) (t : Stmt) : Prop :=
  ∀ σ H W ρ out D, (nS C s).ok = true → Sts X.K H C.ms σ ρ W → execS cf gl w s ρ = some out → EndOk X.K C.ms (nS C s).T (nS C s).A σ H W D out → wpS X t D σ H
def SSs (C : Cfg) (cf : Fns) (gl : Nat → Option D) (w : Nat) (X : Cx) (s : List S) (t : List Stmt) : Prop :=
  ∀ σ H W ρ out D, (nSs C s).ok = true → Sts X.K H C.ms σ ρ W → execSs cf gl w s ρ = some out → EndOk X.K C.ms (nSs C s).T (nSs C s).A σ H W D out → wpSs X t D σ H
theorem ss_nil : SSs C cf gl w X [] [] := by
  intro σ H W ρ out D _ st h q
  simp only [execSs, Option.some.injEq] at h
  subst h
  exact of_pss pss_nil (q σ H W (Fin.refl st))
theorem ss_cons {s : S} {r : List S} {t : Stmt} {ts : List Stmt} (h1 : SS C cf gl w X s t) (h2 : SSs C cf gl w X r ts) : SSs C cf gl w X (s :: r) (t :: ts) := by
  intro σ H W ρ out D k st h q
  have k' : (nS C s).ok = true ∧ (nSs C r).ok = true := Bool.and_eq_true_iff.mp k
  simp only [execSs, Option.bind_eq_some_iff] at h
  obtain ⟨o, e1, e2⟩ := h
  refine of_pss (pss_cons (ps X t) (pss X ts)) (h1 σ H W ρ o _ k'.1 st e1 ?_)
  cases o with
  | nx ρ1 => exact fun σ1 H1 W1 f => h2 σ1 H1 W1 ρ1 out D k'.2 f.st e2 (q.after f (fun _ h => h) fun _ h => h)
  | bk ρ1 =>
    simp only [Option.some.injEq] at e2
    subst e2
    exact fun σ1 H1 W1 f => q σ1 H1 W1 (f.after (T2 := []) (A2 := []) (Fin.refl f.st) (fun j hj => List.mem_append_left _ (by simpa using hj)) fun j hj => List.mem_append_left _ (by simpa using hj))
  | ct ρ1 =>
    simp only [Option.some.injEq] at e2
    subst e2
    exact fun σ1 H1 W1 f => q σ1 H1 W1 (f.after (T2 := []) (A2 := []) (Fin.refl f.st) (fun j hj => List.mem_append_left _ (by simpa using hj)) fun j hj => List.mem_append_left _ (by simpa using hj))
  | rt d ρ1 =>
    simp only [Option.some.injEq] at e2
    subst e2
    exact fun v σ1 H1 W1 Av f r t => q v σ1 H1 W1 Av (f.after (T2 := []) (A2 := []) (Fin.refl f.st) (fun j hj => List.mem_append_left _ (by simpa using hj)) fun j hj => List.mem_append_left _ (by simpa using hj)) r (t.monoT fun j hj => List.mem_append_left _ hj)
theorem tg_ok {t : Tg} {I : Inf} (h : tgOk C.ms t I = true) : (slotsT t).Nodup ∧ (∀ i ∈ slotsT t, i < C.ms.length) ∧ (I.o = true ∨ (I.s = [] ∧ ∀ i ∈ slotsT t, owns C.ms i = false)) := by
  simp only [tgOk, Bool.and_eq_true, decide_eq_true_eq, Bool.or_eq_true, List.all_eq_true, List.isEmpty_iff, Bool.not_eq_true'] at h
  exact ⟨h.1.1, h.1.2, h.2⟩
/-- the store behind a value -/
theorem set_end {t : Tg} {e : E} {tg : Expr} {σ : St} {H : Hp} {W : Own} {ρ1 ρ' : Env} {d : D} {v : V} {H1 : Hp} {D : Ends} (G : Good C cf gl X) (ha : AsgOk X X.env.scope) (hm : matT C.N X.env.scope t tg = true) (k : tgOk C.ms t (nf C e) = true)
    (p : Po X.K C.ms (nf C e) σ H W ρ1 d v H1) (hb : bindT t d ρ1 = some ρ') (q : EndOk X.K C.ms ((nf C e).T ++ slotsT t) (slotsT t) σ H W D (.nx ρ')) : wpG X tg v σ H1 D.nx := by
  obtain ⟨k1, k2, k3⟩ := tg_ok k
  obtain ⟨W1, A, ev1, st1, r, tt, ov, _⟩ := p
  have ap : ∀ a ∈ A, ∀ j, owns C.ms j = true → a ∉ W1 j := fun a ha j oj => by
    rcases k3 with z | ⟨z, _⟩
    · exact tt.al z a ha j
    · exact tt.ap a ha j oj (by rw [z]; exact fun h => nomatch h)
  refine wpG_mono (bind_ok (ms := C.ms) G.N G.nd G.calm ha ((nf C e).o = true) t tg hm r st1 k2 k1 ap (fun z => ⟨tt.al z, tt.nd z⟩) (fun j hj oj => k3.elim id fun z => by rw [z.2 j hj] at oj; cases oj) hb) fun σ' H' ⟨eH, h1, h2, W2, st2, u, g⟩ => ?_
  subst eH
  exact q σ' H' W2 ⟨ev1.bind u g fun j hj oj a ha => tt.og (k3.elim id fun z => by rw [z.2 j hj] at oj; cases oj) a ha, st2, h1⟩
theorem swapSt_none {tg x : Expr} (h : noTup tg x = true) (env : PySem.Env) : swappedStores [tg] x env = pure none := by
  unfold swappedStores
  cases tg <;> cases x <;> first | rfl | cases h
theorem s_set (G : Good C cf gl X) (ha : AsgOk X X.env.scope) {t : Tg} {e : E} {tg x : Expr} {pos : Pos} (hs : notStar tg = true) (hm : matT C.N X.env.scope t tg = true) (he : SE C cf gl X e x) (hl : noLc x = true) (ht : noTup tg x = true) : SS C cf gl w X (.set t e) (.Assign [tg] x pos) := by
  intro σ H W ρ out D k st h q
  have k' : (nf C e).ok = true ∧ tgOk C.ms t (nf C e) = true := Bool.and_eq_true_iff.mp k
  simp only [execS, evalE, Option.bind_eq_some_iff, Option.map_eq_some_iff, Prod.exists] at h
  obtain ⟨d, ρ1, e1, ρ', e2, rfl⟩ := h
  exact of_ps (ps_asg (pe X x) (pg X tg) (swaps_no hl _ _ X.env) (swapSt_none ht X.env) (by rw [asg_cons hs]; rfl)) (wpE_mono (he σ H W ρ _ _ k'.1 st e1) fun v H1 p => set_end G ha hm k'.2 p e2 q)
theorem s_setLc (G : Good C cf gl X) (ha : AsgOk X X.env.scope) {i : Nat} {y : Str} {py : Pos} {elt : E} {x : Tg} {it : E} {c : Option E} {tg iter ex : Expr} {ifs : List Expr} {scope : Scope} {pos spos : Pos} (hm0 : matT C.N X.env.scope (.nm i) (.Name y py) = true) (hi : SI C cf gl X it iter) (hn : needT it = true → isTupE tg = true)
    (hb : blkC C.N X.env.scope scope (ownOf C.N (slotsT x)) = true) (ho : (ownOf C.N (slotsT x)).map (·.2) = slotsT x) (hm : matT C.N scope x tg = true) (hse : notSet iter = true) (he : BE C cf gl X scope elt ex)
    (hc : BC C cf gl X scope c ifs) : SS C cf gl w X (.set (.nm i) (.lc elt x it c)) (.Assign [.Name y py] (.ListComp ex [⟨tg, iter, ifs, 0⟩] scope pos) spos) := by
  intro σ H W ρ out D k st h q
  have k' : (nf C (.lc elt x it c)).ok = true ∧ tgOk C.ms (.nm i) (nf C (.lc elt x it c)) = true := Bool.and_eq_true_iff.mp k
  simp only [execS, evalE, Option.bind_eq_some_iff, Option.map_eq_some_iff, Prod.exists] at h
  obtain ⟨d, ρ1, e1, ρ', e2, rfl⟩ := h
  by_cases hsw : (X.env.blockKind == .function && X.env.kindOf y == some .local && py.line == pos.line && !(scope.names.any fun (n, k) => n == y && (k == .local || k == .cell))) = true
  · obtain ⟨ki, ke, kc, kx, knd, kd, kp, kde⟩ := ok_lc k'.1
    have ok : BlkOk X.N X.env.scope scope (ownOf C.N (slotsT x)) := by rw [G.N]; exact blkOk_by hb
    have sw : swapsWith (.ListComp ex [⟨tg, iter, ifs, 0⟩] scope pos) (some (.Name y py)) spos.line X.env = pure true := by
      unfold swapsWith
      simp only [Expr.pos]
      exact congrArg pure hsw
    have hyl : X.env.scope.names.lookup y = some .local := by
      simp only [Bool.and_eq_true, beq_iff_eq] at hsw
      exact hsw.1.1.2
    obtain ⟨_, _, ee, hi0, _⟩ := matT_nm hm0
    cases ee
    refine of_ps (ps_setLc (g := gAll X scope tg) (tt := tIfs X scope ifs) (te := eAll X scope ex) G.calm (by rw [G.N]; exact G.nd) (by rw [G.N]; exact hi0) hyl sw (pi X tg iter) ok (fun s H0 C0 cl fp => ⟨fun pins s' σ H v u Q I r h => h s H0 C0 cl fp pins s' u I r⟩) (fun s H0 C0 cl fp => ?_) (fun s H0 C0 cl fp => ⟨fun pins s' σ H Q I h => h s H0 C0 cl fp pins s' I⟩) (noFold hse X.env)) ?_
    · match ifs with
      | [] => exact pts_nil
      | [e] => exact pts_one ⟨fun pins s' σ H Q I h => h s H0 C0 cl fp pins s' I⟩
      | _ :: _ :: _ => cases c <;> exact hc.elim
    · rw [ho]
      refine lc_read (blk_sem G hm kx knd kc hc) (elt_sem ke he) hi hn k'.1 st e1 fun v H1 p => ?_
      -- the store, told by its reading
      obtain ⟨k1, k2, k3⟩ := tg_ok k'.2
      obtain ⟨W1, A, ev1, st1, r, tt, ov, _⟩ := p
      have mi : i ∈ slotsT (.nm i) := List.mem_singleton.mpr rfl
      simp only [bindT, Option.some.injEq] at e2
      subst e2
      have own : owns C.ms i = true → (nf C (.lc elt x it c)).o = true := fun oi => k3.elim id fun z => by rw [z.2 i mi] at oi; cases oi
      have st2 := st1.store (k2 i mi) r (fun a ha j oj => by
        rcases k3 with z | ⟨z, _⟩
        · exact tt.al z a ha j
        · exact tt.ap a ha j oj (by rw [z]; exact fun h => nomatch h)) (fun oi => tt.al (own oi)) fun oi => tt.nd (own oi)
      refine q _ H1 (W1.put i A) ⟨ev1.bind (A := A) (fun j hj => Own.put_ne fun z => hj (by subst z; exact mi)) (fun j hj a ha => ?_) fun j hj oj a ha => ?_, st2, fun j hj => ?_⟩
      · have z : j = i := List.mem_singleton.mp hj
        subst z
        rwa [Own.put_same] at ha
      · have z : j = i := List.mem_singleton.mp hj
        subst z
        exact tt.og (own oj) a ha
      · rw [List.getElem?_set_ne fun z => hj (by subst z; exact mi)]
  · have sw : swapsWith (.ListComp ex [⟨tg, iter, ifs, 0⟩] scope pos) (some (.Name y py)) spos.line X.env = pure false := by
      unfold swapsWith
      simp only [Expr.pos]
      exact congrArg pure (Bool.eq_false_iff.mpr hsw)
    have se := n_lc G hi hn hb ho hm hse he hc (pos := pos)
    exact of_ps (ps_asg (pe X _) (pg X (.Name y py)) sw (swapSt_none rfl X.env) rfl) (wpE_mono (se σ H W ρ _ _ k'.1 st e1) fun v H1 p => set_end G ha hm0 k'.2 p e2 q)
theorem s_ex (G : Good C cf gl X) {e : E} {x : Expr} {pos : Pos} (he : SE C cf gl X e x) (hl : noLc x = true) : SS C cf gl w X (.ex e) (.Expr x pos) := by
  intro σ H W ρ out D k st h q
  simp only [execS, evalE, Option.map_eq_some_iff, Prod.exists] at h
  obtain ⟨d, ρ1, e1, rfl⟩ := h
  exact of_ps (ps_expr (pe X x) (swaps_no hl _ _ X.env)) (wpE_mono (he σ H W ρ _ _ k st e1) fun v H1 ⟨W1, A, ev1, st1, _⟩ => q σ H1 W1 ⟨ev1, st1, fun _ _ => rfl⟩)
theorem s_ret {e : E} {x : Expr} {pos : Pos} (he : SE C cf gl X e x) : SS C cf gl w X (.ret e) (.Return (some x) pos) := by
  intro σ H W ρ out D k st h q
  have k' : (nf C e).ok = true ∧ (nf C e).o = true := Bool.and_eq_true_iff.mp k
  simp only [execS, evalE, Option.map_eq_some_iff, Prod.exists] at h
  obtain ⟨d, ρ1, e1, rfl⟩ := h
  refine of_ps (ps_ret (pe X x)) (wpE_mono (he σ H W ρ _ _ k'.1 st e1) fun v H1 ⟨W1, A, ev1, st1, r, t, _⟩ => q v σ H1 W1 A ⟨ev1, st1, fun _ _ => rfl⟩ r ?_)
  have := t.os k'.2
  rw [k'.2] at t
  rw [this] at t
  exact t
theorem s_ret0 {pos : Pos} : SS C cf gl w X .ret0 (.Return none pos) := by
  intro σ H W ρ out D k st h q
  simp only [execS, Option.some.injEq] at h
  subst h
  exact of_ps ps_retN (q .non σ H W [] (Fin.refl st) .non .nil)
theorem s_brk {pos : Pos} : SS C cf gl w X .brk (.Break pos) := by
  intro σ H W ρ out D k st h q
  simp only [execS, Option.some.injEq] at h
  subst h
  exact of_ps ps_break (q σ H W (Fin.refl st))
theorem s_cnt {pos : Pos} : SS C cf gl w X .cnt (.Continue pos) := by
  intro σ H W ρ out D k st h q
  simp only [execS, Option.some.injEq] at h
  subst h
  exact of_ps ps_continue (q σ H W (Fin.refl st))
theorem s_pas {pos : Pos} : SS C cf gl w X .pas (.Pass pos) := by
  intro σ H W ρ out D k st h q
  simp only [execS, Option.some.injEq] at h
  subst h
  exact of_ps ps_pass (q σ H W (Fin.refl st))
theorem s_doc {x : Str} {j : Nat} {p pos : Pos} : SS C cf gl w X .doc (.Expr (.Constant (.str x) j p) pos) := by
  intro σ H W ρ out D k st h q
  simp only [execS, Option.some.injEq] at h
  subst h
  exact of_ps ps_doc (q σ H W (Fin.refl st))
theorem s_iff {c : E} {t f : List S} {x : Expr} {a b : List Stmt} {pos : Pos} (hc : ST C cf gl X c x) (ht : SSs C cf gl w X t a) (hf : SSs C cf gl w X f b) : SS C cf gl w X (.iff c t f) (.If x a b pos) := by
  intro σ H W ρ out D k st h q
  have k' : ((nf C c).ok = true ∧ (nSs C t).ok = true) ∧ (nSs C f).ok = true := by simpa only [nS, nSs, nf, infS, Bool.and_eq_true] using k
  simp only [execS, evalT, Option.bind_eq_some_iff, Prod.exists] at h
  obtain ⟨b0, ρ1, e1, e2⟩ := h
  refine of_ps (ps_if (pt X x) (pss X a) (pss X b)) (wpT_mono (hc σ H W ρ _ _ k'.1.1 st e1) fun b1 H1 ⟨eb, W1, ev1, st1⟩ => ?_)
  subst eb
  have f1 : Fin X.K C.ms (nf C c).T [] σ H W ρ1 σ H1 W1 := ⟨ev1, st1, fun _ _ => rfl⟩
  cases b1 with
  | true =>
    simp only [if_true] at e2 ⊢
    exact ht σ H1 W1 ρ1 out D k'.1.2 st1 e2 (q.after f1 (fun j hj => by
      rcases List.mem_append.mp hj with z | z
      · exact List.mem_append_left _ z
      · exact List.mem_append_right _ (List.mem_append_left _ z)) fun j hj => List.mem_append_left _ (by simpa using hj))
  | false =>
    simp only [Bool.false_eq_true, if_false] at e2 ⊢
    exact hf σ H1 W1 ρ1 out D k'.2 st1 e2 (q.after f1 (fun j hj => by
      rcases List.mem_append.mp hj with z | z
      · exact List.mem_append_left _ z
      · exact List.mem_append_right _ (List.mem_append_right _ z)) fun j hj => List.mem_append_right _ (by simpa using hj))
theorem s_whl (hp : PassesOwn (model X.prog X.w) X.A X.env X.xe) {c : E} {b : List S} {x : Expr} {a : List Stmt} {pos : Pos} (hc : ST C cf gl X c x) (hb : SSs C cf gl w X b a) : SS C cf gl w X (.whl c b) (.While x a [] pos) := by
  intro σ H W ρ out D k st h q
  have k' : (nf C c).ok = true ∧ (nSs C b).ok = true := Bool.and_eq_true_iff.mp k
  simp only [execS] at h
  refine of_ps (ps_while hp (pt X x) (pss X a)) ⟨fun m σ' H' => ∃ ρ' W', whlL (evalT cf gl c) (execSs cf gl w b) m ρ' = some out ∧ Fin X.K C.ms ((nf C c).T ++ (nSs C b).T) (nSs C b).A σ H W ρ' σ' H' W', ⟨w, ρ, W, h, Fin.refl st⟩, ?_⟩
  rintro m σ1 H1 ⟨ρ1, W1, h1, f1⟩
  cases m with
  | zero => cases h1
  | succ m =>
    simp only [whlL, evalT, Option.bind_eq_some_iff, Prod.exists] at h1
    obtain ⟨b0, ρ2, e1, e2⟩ := h1
    refine wpT_mono (hc σ1 H1 W1 ρ1 _ _ k'.1 f1.st e1) fun b1 H2 ⟨eb, W2, ev2, st2⟩ => ?_
    subst eb
    have f2 : Fin X.K C.ms ((nf C c).T ++ (nSs C b).T) (nSs C b).A σ H W ρ2 σ1 H2 W2 := f1.after (T2 := (nf C c).T) (A2 := []) ⟨ev2, st2, fun _ _ => rfl⟩ (fun j hj => by
      rcases List.mem_append.mp hj with z | z
      · exact z
      · exact List.mem_append_left _ z) fun j hj => by simpa using hj
    cases b1 with
    | false =>
      simp only [Bool.false_eq_true, if_false, Option.some.injEq] at e2 ⊢
      subst e2
      exact q σ1 H2 W2 f2
    | true =>
      simp only [if_true, Option.bind_eq_some_iff] at e2 ⊢
      obtain ⟨o, e3, e4⟩ := e2
      refine ⟨fun σ' H' => ∃ ρ' W', whlL (evalT cf gl c) (execSs cf gl w b) m ρ' = some out ∧ Fin X.K C.ms ((nf C c).T ++ (nSs C b).T) (nSs C b).A σ H W ρ' σ' H' W', fun σ' H' ⟨ρ', W', z1, z2⟩ => ⟨m, Nat.lt_succ_self m, ρ', W', z1, z2⟩, hb σ1 H2 W2 ρ2 o _ k'.2 st2 e3 ?_⟩
      have go : ∀ {ρ3 σ3 H3 W3}, Fin X.K C.ms (nSs C b).T (nSs C b).A σ1 H2 W2 ρ3 σ3 H3 W3 → Fin X.K C.ms ((nf C c).T ++ (nSs C b).T) (nSs C b).A σ H W ρ3 σ3 H3 W3 := fun g => f2.after g (fun j hj => by
        rcases List.mem_append.mp hj with z | z
        · exact z
        · exact List.mem_append_right _ z) fun j hj => by simpa using hj
      cases o with
      | nx ρ3 => exact fun σ3 H3 W3 g => ⟨ρ3, W3, e4, go g⟩
      | ct ρ3 => exact fun σ3 H3 W3 g => ⟨ρ3, W3, e4, go g⟩
      | bk ρ3 =>
        simp only [Option.some.injEq] at e4
        subst e4
        exact fun σ3 H3 W3 g => q σ3 H3 W3 (go g)
      | rt d ρ3 =>
        simp only [Option.some.injEq] at e4
        subst e4
        exact fun v σ3 H3 W3 Av g r t => q v σ3 H3 W3 Av (go g) r ((t.back f2.ev).monoT fun j hj => by
          rcases List.mem_append.mp hj with z | z
          · exact z
          · exact List.mem_append_right _ z)
theorem s_for (G : Good C cf gl X) (ha : AsgOk X X.env.scope) (hp : PassesOwn (model X.prog X.w) X.A X.env X.xe) {t : Tg} {it : E} {b : List S} {tg ix : Expr} {a : List Stmt} {pos : Pos} (hs : notSet ix = true) (hn : needT it = true → isTupE tg = true) (hm : matT C.N X.env.scope t tg = true)
    (hi : SI C cf gl X it ix) (hb : SSs C cf gl w X b a) : SS C cf gl w X (.for_ t it b) (.For tg ix a [] pos) := by
  intro σ H W ρ out D k st h q
  have k' : (((((nf C it).ok = true ∧ (nSs C b).ok = true) ∧ decide (slotsT t).Nodup = true) ∧ ((slotsT t).all fun i => !owns C.ms i && decide (i < C.ms.length)) = true) ∧ dis (nf C it).s (slotsT t ++ (nSs C b).T) = true) ∧ ((nf C it).s.isEmpty || (nf C it).p) = true := by simpa only [nS, nSs, nf, infS, Bool.and_eq_true] using k
  obtain ⟨⟨⟨⟨⟨k1, k2⟩, k3⟩, k4⟩, k5⟩, k6⟩ := k'
  have k3 := of_decide_eq_true k3
  have kx : ∀ i ∈ slotsT t, owns C.ms i = false ∧ i < C.ms.length := fun i hi => by
    have := List.all_eq_true.mp k4 i hi
    simp only [Bool.and_eq_true, Bool.not_eq_true', decide_eq_true_eq] at this
    exact this
  have k6 : (nf C it).s = [] ∨ (nf C it).p = true := (Bool.or_eq_true_iff.mp k6).imp_left List.isEmpty_iff.mp
  simp only [execS, evalI, Option.bind_eq_some_iff, Prod.exists] at h
  obtain ⟨xs, ρ1, e1, e2⟩ := h
  refine of_ps (ps_for hp G.calm (pi X tg ix) (pg X tg) (pss X a) (noFold hs X.env)) (wpI_mono (hi tg σ H W ρ xs ρ1 hn k1 st e1) fun J H1 ⟨W1, A0, Gg, Y, ev1, st1, wk, itok, al, tt, hpp, ov0⟩ => ?_)
  have q1 : EndOk X.K C.ms (slotsT t ++ (nSs C b).T) (slotsT t ++ (nSs C b).A) σ H1 W1 D out := q.after (A1 := []) ⟨ev1, st1, fun _ _ => rfl⟩ (fun _ h => h) fun _ h => h
  have keeps : ∀ {H' : Hp} {W' : Own}, Evo C.ms (slotsT t ++ (nSs C b).T) H1 W1 H' W' → Keeps H1 H' A0 := fun e => ⟨e.imm, fun a ha o hq => e.kp a o hq fun j hj oj z => tt.ap a ha j oj (fun y => dis_of k5 j y hj) z⟩
  refine for_it wk (fun i σ' H' => ∃ ρ' W', forL (fun d ρ => (bindT t d ρ).bind fun ρ1 => execSs cf gl w b ρ1) (xs.drop i) ρ' = some out ∧ Fin X.K C.ms (slotsT t ++ (nSs C b).T) (slotsT t ++ (nSs C b).A) σ H1 W1 ρ' σ' H' W') ?_ ?_ ?_ ?_
  · exact ⟨ρ1, W1, e2, Fin.refl st1⟩
  · rintro i σ' H' _ ⟨ρ', W', _, f⟩
    exact itok.keep H' (keeps f.ev)
  · rintro i v σ2 H2 H3 hil ⟨ρ2, W2, e3, f⟩ hy
    obtain ⟨dx, Ax, g1, rx, ext, sub⟩ := itok.item i H2 v H3 (keeps f.ev) hil hy
    have ed : xs.drop i = dx :: xs.drop (i + 1) := by
      rw [List.drop_eq_getElem_cons hil]
      congr 1
      rw [List.getElem?_eq_getElem hil] at g1
      exact Option.some.inj g1
    rw [ed] at e3
    simp only [forL, Option.bind_eq_some_iff] at e3
    obtain ⟨o, ⟨ρ3, b1, b2⟩, e4⟩ := e3
    have f3 : Fin X.K C.ms (slotsT t ++ (nSs C b).T) (slotsT t ++ (nSs C b).A) σ H1 W1 ρ2 σ2 H3 W2 := ⟨f.ev.then ext, f.st.ext ext, f.sl⟩
    have base : ∀ a ∈ Ax, ∀ j, owns C.ms j = true → a ∉ W2 j := fun a ha j oj => by
      rcases k6 with z | z
      · exact f3.ev.notin (fun j' oj' => tt.ap a (sub a ha) j' oj' (by rw [z]; exact fun h => nomatch h)) (al a (sub a ha)) j oj
      · rw [rx.pure (pures_get (hpp z) g1)] at ha; cases ha
    refine wpG_mono (bind_ok (ms := C.ms) G.N G.nd G.calm ha False t tg hm rx f3.st (fun j hj => (kx j hj).2) k3 base (fun z => z.elim) (fun j hj oj => by rw [(kx j hj).1] at oj; cases oj) b1) fun σ4 H4 ⟨eH, s1, s2, W4, st4, u, g⟩ => ?_
    subst eH
    have fb : Fin X.K C.ms (slotsT t) (slotsT t) σ2 H4 W2 ρ3 σ4 H4 W4 := ⟨by
      have := (Evo.refl (ms := C.ms) (T := []) (H := H4) (W := W2)).bind (S := slotsT t) u g fun j hj oj => by rw [(kx j hj).1] at oj; cases oj
      simpa using this, st4, s1⟩
    have f4 : Fin X.K C.ms (slotsT t ++ (nSs C b).T) (slotsT t ++ (nSs C b).A) σ H1 W1 ρ3 σ4 H4 W4 := f3.after fb (fun j hj => by
      rcases List.mem_append.mp hj with z | z
      · exact z
      · exact List.mem_append_left _ z) fun j hj => by
      rcases List.mem_append.mp hj with z | z
      · exact z
      · exact List.mem_append_left _ z
    have go : ∀ {ρ5 σ5 H5 W5}, Fin X.K C.ms (nSs C b).T (nSs C b).A σ4 H4 W4 ρ5 σ5 H5 W5 → Fin X.K C.ms (slotsT t ++ (nSs C b).T) (slotsT t ++ (nSs C b).A) σ H1 W1 ρ5 σ5 H5 W5 := fun g => f4.after g (fun j hj => by
        rcases List.mem_append.mp hj with z | z
        · exact z
        · exact List.mem_append_right _ z) fun j hj => by
        rcases List.mem_append.mp hj with z | z
        · exact z
        · exact List.mem_append_right _ z
    refine hb σ4 H4 W4 ρ3 o _ k2 st4 b2 ?_
    cases o with
    | nx ρ5 => exact fun σ5 H5 W5 g => ⟨ρ5, W5, e4, go g⟩
    | ct ρ5 => exact fun σ5 H5 W5 g => ⟨ρ5, W5, e4, go g⟩
    | bk ρ5 =>
      simp only [Option.some.injEq] at e4
      subst e4
      exact fun σ5 H5 W5 g => q1 σ5 H5 W5 (go g)
    | rt d ρ5 =>
      simp only [Option.some.injEq] at e4
      subst e4
      exact fun v σ5 H5 W5 Av g r t => q1 v σ5 H5 W5 Av (go g) r ((t.back f4.ev).monoT fun j hj => by
        rcases List.mem_append.mp hj with z | z
        · exact z
        · exact List.mem_append_right _ z)
  · rintro σ' H' ⟨ρ', W', e3, f⟩
    rw [List.drop_length] at e3
    simp only [forL, Option.some.injEq] at e3
    subst e3
    exact q1 σ' H' W' f
end
end Vi

set_option Elab.async false
set_option linter.all false
set_option maxRecDepth 100000
set_option maxHeartbeats 4000000
/-! Names stored in parallel. -/
namespace Vi
open PySem L2

theorem swap_eq {env : PySem.Env} {ts vs : List Expr} {k k2 : Nat} {p p2 : Pos} (hb : env.blockKind = .function) (hc : swTells env.scope ts vs = true → vs.all (constantsAlone 8) = false) :
    swappedStores [.Tuple ts k p] (.Tuple vs k2 p2) env = pure (if swTells env.scope ts vs then some (swNames env.scope ts) else none) := by
  unfold swappedStores
  unfold swTells at hc ⊢
  simp only [hb]
  show (if (!(ts.length == 2 || ts.length == 3) || !(vs.length == ts.length) || !(ScopeKind.function == ScopeKind.function)) = true then pure none else if vs.any isStar = true then pure none else
    if (!((swNames env.scope ts).length == ts.length) || !((swNames env.scope ts).eraseDups.length == (swNames env.scope ts).length)) = true then pure none else if vs.all (foldedForSure 8) = true then pure none else
      if vs.all (constantsAlone 8) = true then _ else pure (some (swNames env.scope ts))) = _
  rw [show (ScopeKind.function == ScopeKind.function) = true from rfl]
  generalize (ts.length == 2 || ts.length == 3) = b1 at hc ⊢
  generalize (vs.length == ts.length) = b2 at hc ⊢
  generalize (vs.any isStar) = b3 at hc ⊢
  generalize ((swNames env.scope ts).length == ts.length) = b4 at hc ⊢
  generalize ((swNames env.scope ts).eraseDups.length == (swNames env.scope ts).length) = b5 at hc ⊢
  generalize (vs.all (foldedForSure 8)) = b6 at hc ⊢
  generalize (vs.all (constantsAlone 8)) = b7 at hc ⊢
  cases b1 <;> cases b2 <;> cases b3 <;> cases b4 <;> cases b5 <;> cases b6 <;> cases b7 <;> first | rfl | (exact absurd (hc rfl) (by decide))

def putS : List Nat → List V → St → St
  | i :: is, v :: vs, σ => putS is vs (σ.set i (some v))
  | _, _, σ => σ
theorem stores_ok {K : PySem.W.Frag} {ms : List Bool} {H : Hp} (P : Prop) : ∀ (is : List Nat) {vs : List V} {ds : List D} {A : List Addr} {σ : St} {ρ ρ' : Env} {W : Own}, Rps K H vs ds A → Sts K H ms σ ρ W →
    (∀ j ∈ is, j < ms.length) → is.Nodup → (∀ a ∈ A, ∀ j, owns ms j = true → a ∉ W j) → (P → (∀ a ∈ A, ∀ j, a ∉ W j) ∧ A.Nodup) → (∀ j ∈ is, owns ms j = true → P) → bindTs (is.map Tg.nm) ds ρ = some ρ' →
    ∃ W', Sts K H ms (putS is vs σ) ρ' W' ∧ (∀ j, j ∉ is → W' j = W j) ∧ (∀ j ∈ is, ∀ a ∈ W' j, a ∈ A) ∧ ∀ j, j ∉ is → (putS is vs σ)[j]? = σ[j]?
  | [], vs, ds, A, σ, ρ, ρ', W, r, st, _, _, _, _, _, h => by
    cases r with
    | nil =>
      cases h
      exact ⟨W, st, fun _ _ => rfl, fun _ h => (nomatch h), fun _ _ => rfl⟩
    | cons => cases h
  | i :: is, vs, ds, A, σ, ρ, ρ', W, r, st, hl, nd, ap, al, hp, h => by
    cases r with
    | nil => cases h
    | cons r1 r2 =>
      rename_i v d A1 vs ds A2
      simp only [List.map_cons, bindTs, bindT, Option.bind_some] at h
      obtain ⟨nd1, nd2⟩ := List.nodup_cons.mp nd
      have mi : i ∈ i :: is := List.mem_cons_self ..
      have st1 := st.store (i := i) (hl i mi) r1 (fun a ha => ap a (List.mem_append_left _ ha)) (fun oi a ha => (al (hp i mi oi)).1 a (List.mem_append_left _ ha)) fun oi => (List.nodup_append.mp (al (hp i mi oi)).2).1
      have key : P → ∀ a ∈ A2, ∀ j, a ∉ W.put i A1 j := fun p a ha j q => by
        by_cases z : j = i
        · subst z
          rw [Own.put_same] at q
          exact (List.nodup_append.mp (al p).2).2.2 a q a ha rfl
        · rw [Own.put_ne z] at q; exact (al p).1 a (List.mem_append_right _ ha) j q
      obtain ⟨W', s1, s2, s3, s4⟩ := stores_ok P is r2 st1 (fun j hj => hl j (List.mem_cons_of_mem _ hj)) nd2 (fun a ha j oj q => by
        by_cases z : j = i
        · subst z; exact key (hp j mi oj) a ha j q
        · rw [Own.put_ne z] at q; exact ap a (List.mem_append_right _ ha) j oj q) (fun p => ⟨key p, (List.nodup_append.mp (al p).2).2.1⟩) (fun j hj => hp j (List.mem_cons_of_mem _ hj)) h
      refine ⟨W', s1, fun j hj => ?_, fun j hj a q => ?_, fun j hj => ?_⟩
      · rw [s2 j fun z => hj (List.mem_cons_of_mem _ z), Own.put_ne fun z => hj (by subst z; exact mi)]
      · by_cases z : j ∈ is
        · exact List.mem_append_right _ (s3 j z a q)
        · rcases List.mem_cons.mp hj with rfl | y
          · rw [s2 j z, Own.put_same] at q; exact List.mem_append_left _ q
          · exact absurd y z
      · show (putS is vs (σ.set i (some v)))[j]? = _
        rw [s4 j fun z => hj (List.mem_cons_of_mem _ z), List.getElem?_set_ne fun z => hj (by subst z; exact mi)]
section
variable {C : Cfg} {cf : Fns} {gl : Nat → Option D} {w : Nat} {X : Cx}
theorem args_len : ∀ {es : List E} {xs : List Expr}, SEs C cf gl X es xs → es.length = xs.length
  | _, _, .nil => rfl
  | _, _, .cons _ h => congrArg (· + 1) (args_len h)
theorem infs_len {ms : List Bool} {pm : Nat → List Bool} : ∀ (es : List E), (infs ms pm es).length = es.length
  | [] => rfl
  | e :: r => congrArg (· + 1) (infs_len r)
theorem sw_name {sc : Scope} {l : Nat} {t : Expr} {x : Str} (h : swOne sc l t = some x) : ∃ p, t = .Name x p ∧ sc.names.lookup x = some .local := by
  cases t with
  | Name id pos =>
    have h : (if (sc.names.lookup id == some .local && pos.line == l) = true then some id else none) = some x := h
    by_cases hc : (sc.names.lookup id == some .local && pos.line == l) = true
    · rw [if_pos hc] at h
      have h : id = x := Option.some.inj h
      subst h
      simp only [Bool.and_eq_true, beq_iff_eq] at hc
      exact ⟨pos, rfl, hc.1⟩
    · rw [if_neg hc] at h; cases h
  | _ => cases h
theorem fm_full {α β : Type} {f : α → Option β} : ∀ {l : List α}, (l.filterMap f).length = l.length → ∀ a ∈ l, ∃ b, f a = some b
  | [], _, _, h => nomatch h
  | x :: r, h, a, ha => by
    cases e : f x with
    | none =>
      rw [List.filterMap_cons, e] at h
      have := List.length_filterMap_le f r
      simp only [List.length_cons] at h
      omega
    | some y =>
      rw [List.filterMap_cons, e] at h
      rcases List.mem_cons.mp ha with rfl | ha
      · exact ⟨y, e⟩
      · exact fm_full (by simpa using h) a ha
theorem tg_names {N : List Str} {sc : Scope} : ∀ {tgs : List Tg} {xs : List Str} {ts : List Expr}, matTs N sc tgs ts = true → (∀ t ∈ ts, ∃ x p, t = .Name x p) → ∃ is : List Nat, tgs = is.map Tg.nm ∧ slotsTs tgs = is
  | [], _, ts, h, _ => by rw [matTs_nil h] at *; exact ⟨[], rfl, rfl⟩
  | t :: tgs, xs, ts, h, hn => by
    obtain ⟨e, r, rfl, _, h2, h3⟩ := matTs_cons h
    obtain ⟨x, p, rfl⟩ := hn e (List.mem_cons_self ..)
    obtain ⟨is, e1, e2⟩ := tg_names (xs := xs) h3 fun t ht => hn t (List.mem_cons_of_mem _ ht)
    cases t with
    | tup _ => obtain ⟨_, _, _, ee, _⟩ := matT_tup h2; cases ee
    | nm i => exact ⟨i :: is, by rw [e1]; rfl, by show [i] ++ slotsTs tgs = _; rw [e2]; rfl⟩
/-- behind the stores -/
theorem par_end {tgs : List Tg} {is : List Nat} {es : List E} {σ : St} {H : Hp} {W : Own} {ρ1 ρ' : Env} {ds : List D} {vs : List V} {H1 : Hp} {D : Ends} (e1 : tgs = is.map Tg.nm) (e2 : slotsTs tgs = is) (k : tgOk C.ms (.tup tgs) (nf C (.tup es)) = true)
    (p : PoL X.K C.ms (nfs C es) σ H W ρ1 ds vs H1) (hb : bindTs tgs ds ρ1 = some ρ') (q : EndOk X.K C.ms ((nf C (.tup es)).T ++ slotsT (.tup tgs)) (slotsT (.tup tgs)) σ H W D (.nx ρ')) : D.nx (putS is vs σ) H1 := by
  obtain ⟨k1, k2, k3⟩ := tg_ok k
  have e3 : slotsT (.tup tgs) = is := e2
  rw [e3] at k1 k2 k3 q
  obtain ⟨W1, As, ev1, st1, l⟩ := p
  obtain ⟨t1, t2, ov⟩ := l.vt
  have ap : ∀ a ∈ As.flatten, ∀ j, owns C.ms j = true → a ∉ W1 j := fun a ha j oj => by
    rcases k3 with z | ⟨z, _⟩
    · exact (t2 z).al rfl a ha j
    · refine t1.ap a ha j oj ?_
      have z' : allS (nfs C es) = [] := z
      rw [z']; exact fun h => nomatch h
  rw [e1] at hb
  obtain ⟨W', s1, s2, s3, s4⟩ := stores_ok (K := X.K) (ms := C.ms) ((nf C (.tup es)).o = true) is l.rps st1 k2 k1 ap (fun z => ⟨(t2 z).al rfl, (t2 z).nd rfl⟩) (fun j hj oj => k3.elim id fun z => by rw [z.2 j hj] at oj; cases oj) hb
  exact q _ H1 W' ⟨ev1.bind s2 s3 fun j hj oj a ha => (t2 (k3.elim id fun z => by rw [z.2 j hj] at oj; cases oj)).og rfl a ha, s1, s4⟩
theorem s_setPar (G : Good C cf gl X) (ha : AsgOk X X.env.scope) {tgs : List Tg} {es : List E} {ts xs : List Expr} {k k2 : Nat} {p p2 pos : Pos} (hm : matTs C.N X.env.scope tgs ts = true) (he : SEs C cf gl X es xs) (hs : xs.all notStar = true) (hn : es.length < 1000)
    (hc : swTells X.env.scope ts xs = true → xs.all (constantsAlone 8) = false) : SS C cf gl w X (.set (.tup tgs) (.tup es)) (.Assign [.Tuple ts k p] (.Tuple xs k2 p2) pos) := by
  intro σ H W ρ out D kk st h q pins s I
  have hb : X.env.blockKind = .function := by unfold Env.blockKind; rw [I.ok.kind]; rfl
  have sw := swap_eq (ts := ts) (vs := xs) (k := k) (k2 := k2) (p := p) (p2 := p2) hb hc
  have kk' : (nf C (.tup es)).ok = true ∧ tgOk C.ms (.tup tgs) (nf C (.tup es)) = true := Bool.and_eq_true_iff.mp kk
  have h0 := h
  simp only [execS, evalE, Option.bind_eq_some_iff, Option.map_eq_some_iff, Prod.exists] at h
  obtain ⟨d, ρ1, e1, ρ', e2, rfl⟩ := h
  have se := n_tup (pos := p2) (k0 := k2) hs hn he
  by_cases hsw : swTells X.env.scope ts xs = true
  · rw [if_pos hsw] at sw
    simp only [ev, ofV, Option.map_eq_some_iff, Prod.exists, Prod.mk.injEq] at e1
    obtain ⟨ds, ρ2, e3, rfl, rfl⟩ := e1
    have e2 : bindTs tgs ds ρ2 = some ρ' := e2
    have hsw' := hsw
    simp only [swTells, Bool.and_eq_true, Bool.or_eq_true, beq_iff_eq] at hsw'
    obtain ⟨⟨⟨⟨hl, hl2⟩, _⟩, hl3, hl4⟩, _⟩ := hsw'
    have nm := fm_full hl3
    have nm' : ∀ t ∈ ts, ∃ x p, t = .Name x p := fun t ht => by
      obtain ⟨x, ex⟩ := nm t ht
      obtain ⟨p, ep, _⟩ := sw_name ex
      exact ⟨x, p, ep⟩
    obtain ⟨is, g1, g2⟩ := tg_names (xs := []) hm nm'
    have knd := (tg_ok kk'.2).1
    have g3 : slotsT (.tup tgs) = is := g2
    rw [g3] at knd
    subst g1
    have nest := args_ok he kk'.1 st e3
    have fin : ∀ vs H1, PoL X.K C.ms (nfs C es) σ H W ρ2 ds vs H1 → D.nx (putS is vs σ) H1 := fun vs H1 pl => par_end rfl g2 kk'.2 pl e2 q
    rcases hl with hl | hl
    · match ts, hl, xs, hl2, is, hm, nm, knd, nest, fin with
      | [t1, t2], _, [x1, x2], _, is, hm, nm, knd, nest, fin =>
        match is, hm, knd, fin with
        | [i, j], hm, knd, fin =>
          obtain ⟨y1, f1⟩ := nm t1 (by simp)
          obtain ⟨y2, f2⟩ := nm t2 (by simp)
          obtain ⟨q1, rfl, l1⟩ := sw_name f1
          obtain ⟨q2, rfl, l2⟩ := sw_name f2
          have m1 : matT C.N X.env.scope (.nm i) (.Name y1 q1) = true ∧ matT C.N X.env.scope (.nm j) (.Name y2 q2) = true := by
            simp only [List.map_cons, List.map_nil, matTs, Bool.and_eq_true] at hm
            exact ⟨hm.1.2, hm.2.1.2⟩
          obtain ⟨_, _, z1, n1, _⟩ := matT_nm m1.1
          obtain ⟨_, _, z2, n2, _⟩ := matT_nm m1.2
          cases z1; cases z2
          have sn : swNames X.env.scope [.Name y1 q1, .Name y2 q2] = [y1, y2] := by
            unfold swNames
            simp only [List.filterMap_cons, List.filterMap_nil, f1, f2]
          rw [sn] at sw
          have hij : i ≠ j := by simp at knd; exact knd
          exact of_ps (ps_par G.calm (by rw [G.N]; exact G.nd) (by rw [G.N]; exact n1) (by rw [G.N]; exact n2) hij l1 l2 (pa X [x1, x2]) sw rfl) (nest_args hs (nest_mono nest fun vs H1 pl => by
            obtain ⟨W1, As, _, _, l⟩ := pl
            have hv := l.len
            match vs, l, hv, fin vs H1 ⟨W1, As, ‹_›, ‹_›, l⟩ with
            | [v1, v2], _, _, f => exact ⟨v1, v2, rfl, f⟩
            | [], l, hv, _ => exact (by exfalso; have h9 := hv.1; rw [infs_len] at h9; have h10 := args_len he; simp only [List.length_cons, List.length_nil] at h9 h10; omega)
            | [_], l, hv, _ => exact (by exfalso; have h9 := hv.1; rw [infs_len] at h9; have h10 := args_len he; simp only [List.length_cons, List.length_nil] at h9 h10; omega)
            | _ :: _ :: _ :: _, l, hv, _ => exact (by exfalso; have h9 := hv.1; rw [infs_len] at h9; have h10 := args_len he; simp only [List.length_cons, List.length_nil] at h9 h10; omega))) pins s I
        | [], hm, _, _ => exact absurd hm (by simp [matTs])
        | [_], hm, _, _ => exact absurd hm (by simp [matTs])
        | _ :: _ :: _ :: _, hm, _, _ => exact absurd hm (by simp [matTs])
    · match ts, hl, xs, hl2, is, hm, nm, knd, nest, fin with
      | [t1, t2, t3], _, [x1, x2, x3], _, is, hm, nm, knd, nest, fin =>
        match is, hm, knd, fin with
        | [i, j, l3], hm, knd, fin =>
          obtain ⟨y1, f1⟩ := nm t1 (by simp)
          obtain ⟨y2, f2⟩ := nm t2 (by simp)
          obtain ⟨y3, f3⟩ := nm t3 (by simp)
          obtain ⟨q1, rfl, l1⟩ := sw_name f1
          obtain ⟨q2, rfl, l2⟩ := sw_name f2
          obtain ⟨q3, rfl, l4⟩ := sw_name f3
          have m1 : matT C.N X.env.scope (.nm i) (.Name y1 q1) = true ∧ matT C.N X.env.scope (.nm j) (.Name y2 q2) = true ∧ matT C.N X.env.scope (.nm l3) (.Name y3 q3) = true := by
            simp only [List.map_cons, List.map_nil, matTs, Bool.and_eq_true] at hm
            exact ⟨hm.1.2, hm.2.1.2, hm.2.2.1.2⟩
          obtain ⟨_, _, z1, n1, _⟩ := matT_nm m1.1
          obtain ⟨_, _, z2, n2, _⟩ := matT_nm m1.2.1
          obtain ⟨_, _, z3, n3, _⟩ := matT_nm m1.2.2
          cases z1; cases z2; cases z3
          have sn : swNames X.env.scope [.Name y1 q1, .Name y2 q2, .Name y3 q3] = [y1, y2, y3] := by
            unfold swNames
            simp only [List.filterMap_cons, List.filterMap_nil, f1, f2, f3]
          rw [sn] at sw
          have hd : (i ≠ j ∧ i ≠ l3) ∧ j ≠ l3 := by simpa using knd
          exact of_ps (ps_par3 G.calm (by rw [G.N]; exact G.nd) (by rw [G.N]; exact n1) (by rw [G.N]; exact n2) (by rw [G.N]; exact n3) hd.1.1 hd.1.2 hd.2 l1 l2 l4 (pa X [x1, x2, x3]) sw rfl) (nest_args hs (nest_mono nest fun vs H1 pl => by
            obtain ⟨W1, As, _, _, l⟩ := pl
            have hv := l.len
            match vs, l, hv, fin vs H1 ⟨W1, As, ‹_›, ‹_›, l⟩ with
            | [v1, v2, v3], _, _, f => exact ⟨v1, v2, v3, rfl, f⟩
            | [], l, hv, _ => exact (by exfalso; have h9 := hv.1; rw [infs_len] at h9; have h10 := args_len he; simp only [List.length_cons, List.length_nil] at h9 h10; omega)
            | [_], l, hv, _ => exact (by exfalso; have h9 := hv.1; rw [infs_len] at h9; have h10 := args_len he; simp only [List.length_cons, List.length_nil] at h9 h10; omega)
            | [_, _], l, hv, _ => exact (by exfalso; have h9 := hv.1; rw [infs_len] at h9; have h10 := args_len he; simp only [List.length_cons, List.length_nil] at h9 h10; omega)
            | _ :: _ :: _ :: _ :: _, l, hv, _ => exact (by exfalso; have h9 := hv.1; rw [infs_len] at h9; have h10 := args_len he; simp only [List.length_cons, List.length_nil] at h9 h10; omega))) pins s I
        | [], hm, _, _ => exact absurd hm (by simp [matTs])
        | [_], hm, _, _ => exact absurd hm (by simp [matTs])
        | [_, _], hm, _, _ => exact absurd hm (by simp [matTs])
        | _ :: _ :: _ :: _ :: _, hm, _, _ => exact absurd hm (by simp [matTs])
  · rw [if_neg hsw] at sw
    exact of_ps (ps_asg (pe X _) (pg X (.Tuple ts k p)) rfl sw rfl) (wpE_mono (se σ H W ρ _ _ kk'.1 st e1) fun v H1 p1 => set_end G ha (t := .tup tgs) (tg := .Tuple ts k p) (by show matTs C.N X.env.scope tgs ts = true; exact hm) kk'.2 p1 e2 q) pins s I
end
end Vi

set_option Elab.async false
set_option linter.all false
set_option maxRecDepth 100000
set_option maxHeartbeats 4000000
/-! Statements, all of them. -/
namespace Vi
open PySem L2

section
variable {K : PySem.W.Frag} {H : Hp}
theorem Rps.setS {v : V} {d : D} {A : List Addr} (r : Rp K H v d A) : ∀ {vs : List V} {ds : List D} {B : List Addr} (j : Nat), Rps K H vs ds B → ∃ B', Rps K H (vs.set j v) (ds.set j d) B' ∧ (∀ b ∈ B', b ∈ B ∨ b ∈ A) ∧ ((B ++ A).Nodup → B'.Nodup)
  | _, _, _, _, .nil => ⟨[], .nil, fun _ h => (nomatch h), fun _ => List.nodup_nil⟩
  | _, _, _, 0, .cons (A := A0) (B := B) h s => ⟨A ++ B, .cons r s, fun b hb => (List.mem_append.mp hb).elim .inr fun z => .inl (List.mem_append_right _ z), fun n => by
    rw [List.append_assoc] at n
    have n2 := (List.nodup_append.mp n).2.1
    exact (List.perm_append_comm.nodup_iff).mp n2⟩
  | _, _, _, j + 1, .cons (A := A0) (B := B) h s => by
    obtain ⟨B', h1, h2, h3⟩ := Rps.setS r j s
    refine ⟨A0 ++ B', .cons h h1, fun b hb => ?_, fun n => ?_⟩
    · rcases List.mem_append.mp hb with z | z
      · exact .inl (List.mem_append_left _ z)
      · exact (h2 b z).imp_left (List.mem_append_right _)
    · rw [List.append_assoc] at n
      obtain ⟨n1, n2, n3⟩ := List.nodup_append.mp n
      exact List.nodup_append.mpr ⟨n1, h3 n2, fun a ha b hb => n3 a ha b ((h2 b hb).elim (List.mem_append_left _) (List.mem_append_right _))⟩
end
section
variable {C : Cfg} {cf : Fns} {gl : Nat → Option D} {w : Nat} {X : Cx}
def wIp (X : Cx) (op : Operator) : TIp := fun x y H Q => ∀ pins s σ v u, Inv X pins σ H s → RelV x v → RelV y u → wpAny (model X.prog X.w) X.A (inplaceOp op v u) (EP X pins σ Q) X.xe s
theorem ipR (X : Cx) (op : Operator) : PIp X op (wIp X op) := fun pins s σ _ _ _ v u _ I rx ry h => h pins s σ v u I rx ry
theorem of_ip {X : Cx} {op : Operator} {t : TIp} {x y : V} {H : Hp} {Q : VK} (h : PIp X op t) (q : t x y H Q) : wIp X op x y H Q := fun pins s σ v u I rx ry => h pins s σ H x y v u Q I rx ry q
theorem aug_sem {X : Cx} {o : BinO} {op : Operator} {H : Hp} {v1 v2 : V} {x y d : D} {A1 A2 : List Addr} (ho : (o == .add || o == .sub) = true) (hb : binOf o op = true) (r1 : Rp X.K H v1 x A1) (r2 : Rp X.K H v2 y A2) (h : augD o x y = some d) {Q : VK} (q : ∀ v, Rp X.K H v d [] → Q v H) : wIp X op v1 v2 H Q := by
  have := binO_of hb
  subst this
  cases o <;> try (cases ho; done)
  · cases r1 <;> cases r2 <;> try (cases h; done)
    · cases h
      exact of_ip ip_add ⟨_, _, rfl, rfl, q _ (.int _)⟩
    · simp only [augD] at h
      split at h
      · rename_i hz
        cases h
        exact of_ip (fun pins s σ H x y v u Q I rx ry h => iop_add_str pins s σ H x y v u Q I rx ry h) ⟨_, _, rfl, rfl, by rw [sz_eq]; exact hz, q _ (.str _)⟩
      · cases h
  · cases r1 <;> cases r2 <;> try (cases h; done)
    cases h
    exact of_ip ip_sub ⟨_, _, rfl, rfl, q _ (.int _)⟩
theorem s_aug (G : Good C cf gl X) (ha : AsgOk X X.env.scope) {i : Nat} {o : BinO} {e : E} {y : Str} {op : Operator} {x : Expr} {py pos : Pos} (ho : (o == .add || o == .sub) = true) (hb : binOf o op = true) (hi : C.N[i]? = some y) (hl : isLoc X.env.scope y = true) (he : SE C cf gl X e x) :
    SS C cf gl w X (.aug i o e) (.AugAssign (.Name y py) op x pos) := by
  intro σ H W ρ out D k st h q
  have k' : (nf C e).ok = true ∧ i < C.ms.length := by
    have : (nf C e).ok = true ∧ decide (i < C.ms.length) = true := Bool.and_eq_true_iff.mp k
    exact ⟨this.1, of_decide_eq_true this.2⟩
  simp only [execS, evalE, Option.bind_eq_some_iff, Option.map_eq_some_iff, Prod.exists] at h
  obtain ⟨dx, e0, dy, ρ1, e2, d, e4, rfl⟩ := h
  obtain ⟨v, hv, r⟩ := st.sl i _ e0
  have r' : ∃ A0, Rp X.K H v dx A0 ∧ A0 = [] := by
    generalize W i = A0 at r
    refine ⟨A0, r, ?_⟩
    cases o <;> cases r <;> first | rfl | cases e4
  obtain ⟨A0, r', rfl⟩ := r'
  obtain ⟨l1, l2⟩ := ha y hl
  refine of_ps (ps_aug (by rw [G.N]; exact G.nd) (by rw [G.N]; exact hi) l1 (pe X x) (ipR X op) l2) ⟨_, hv, wpE_mono (he σ H W ρ _ _ k'.1 st e2) fun v H1 ⟨W1, A, ev1, st1, r, tt, ov, _⟩ => ?_⟩
  refine aug_sem ho hb (r'.evo ev1 fun _ h => nomatch h) r e4 fun z rz => ?_
  refine q _ H1 (W1.put i []) ⟨ev1.bind (A := []) (S := [i]) (fun j hj => Own.put_ne fun z => hj (by subst z; exact List.mem_singleton.mpr rfl)) (fun j hj a ha => ?_) (fun _ _ _ _ h => nomatch h), st1.store k'.2 rz (fun _ h => nomatch h) (fun _ _ h => nomatch h) fun _ => List.nodup_nil, fun j hj => ?_⟩
  · have z : j = i := List.mem_singleton.mp hj
    subst z
    rwa [Own.put_same] at ha
  · rw [List.getElem?_set_ne fun z => hj (by subst z; exact List.mem_singleton.mpr rfl)]
theorem put_vals {κ : Type} [DecidableEq κ] {K : PySem.W.Frag} {H : Hp} (enc : κ → D) (he : ∀ a b, eqD (enc a) (enc b) = decide (a = b)) (k : κ) {v : V} {d : D} (rv : Rp K H v d []) : ∀ {kvs : List (κ × V)} {vs : List D}, Rps K H (kvs.map (·.2)) vs [] →
    Rps K H ((kvs.map fun kv => if kv.1 = k then (kv.1, v) else kv).map (·.2)) (putV (enc k) d (kvs.map fun p => enc p.1) vs) []
  | [], vs, r => by cases r; exact .nil
  | (k', v') :: r, vs, h => by
    generalize hA : ([] : List Addr) = A at h
    cases h with
    | cons h1 h2 =>
      rename_i d' A1 ds A2
      obtain ⟨rfl, rfl⟩ := List.append_eq_nil_iff.mp hA.symm
      have ih := put_vals enc he k rv h2
      by_cases e : k' = k
      · subst e
        have := Rps.cons rv ih
        simpa [putV, he] using this
      · have := Rps.cons h1 ih
        simpa [putV, he, e] using this
theorem put_rel {κ : Type} [DecidableEq κ] {K : PySem.W.Frag} {H : Hp} (enc : κ → D) (he : ∀ a b, eqD (enc a) (enc b) = decide (a = b)) (k : κ) {v : V} {d : D} (rv : Rp K H v d []) {kvs : List (κ × V)} {vs : List D} (r : Rps K H (kvs.map (·.2)) vs []) :
    ∃ vs', putD (enc k) d (kvs.map fun p => enc p.1) vs = .dct ((L2.putK kvs k v).map fun p => enc p.1) vs' ∧ Rps K H ((L2.putK kvs k v).map (·.2)) vs' [] := by
  have hany := L2.valV_any k kvs
  unfold putD L2.putK
  rcases find_rel enc he k kvs r with ⟨d', v', B, q1, q2, _, _⟩ | ⟨q1, q2⟩
  · rw [q2] at hany
    rw [q1, hany]
    simp only [Option.isSome_some, if_true]
    refine ⟨_, ?_, put_vals enc he k rv r⟩
    congr 1
    rw [List.map_map]
    refine List.map_congr_left fun kv _ => ?_
    show enc kv.1 = enc (if kv.1 = k then (kv.1, v) else kv).1
    split <;> rfl
  · rw [q2] at hany
    rw [q1, hany]
    simp only [Option.isSome_none, Bool.false_eq_true, if_false]
    refine ⟨vs ++ [d], ?_, ?_⟩
    · rw [List.map_append]; rfl
    · rw [List.map_append]
      have := r.append (.one rv)
      simpa using this
def wSet (X : Cx) : TSet := fun o i v H Q => ∀ pins s σ ov iv u, Inv X pins σ H s → RelV o ov → RelV i iv → RelV v u → wpAny (model X.prog X.w) X.A (setItem ov iv u) (fun _ s' => ∃ H', Inv X pins σ H' s' ∧ Q H') X.xe s
theorem setR (X : Cx) : PSet X (wSet X) := fun pins s σ _ _ _ _ ov iv u _ I ro ri rv h => h pins s σ ov iv u I ro ri rv
theorem of_set {X : Cx} {t : TSet} {o i v : V} {H : Hp} {Q : Hp → Prop} (h : PSet X t) (q : t o i v H Q) : wSet X o i v H Q := fun pins s σ ov iv u I ro ri rv => h pins s σ H o i v ov iv u Q I ro ri rv q
/-- a dict's new item, in a place of its own -/
theorem dput_sem {X : Cx} (hu : X.A.units + 1 < cLine) {H : Hp} {a : Addr} {B : List Addr} {v1 v2 : V} {ks vs : List D} {dk d d' : D} {A2 : List Addr} (r1 : Rp X.K H (.ref a) (.dct ks vs) (a :: B)) (r2 : Rp X.K H v1 dk A2) (rv : Rp X.K H v2 d [])
    (h : putAt (.dct ks vs) dk d = some d') {Q : Hp → Prop} (q : ∀ u o, H a = some u → mutO u = true → mutO o = true → B = [] → Rp X.K (L2.upd H a o) (.ref a) d' [a] → Q (L2.upd H a o)) : wSet X (.ref a) v1 v2 H Q := by
  simp only [putAt] at h
  split at h
  · rename_i hc
    simp only [Bool.and_eq_true, decide_eq_true_eq] at hc
    obtain ⟨⟨⟨c1, c2⟩, c3⟩, c4⟩ := hc
    have hk' := Bool.and_eq_true_iff.mp c1
    cases h
    generalize hv0 : V.ref a = v0 at r1
    cases r1 with
    | @dK a' kvs vs A ea rs =>
      cases hv0
      have eB := rs.pure c4
      subst eB
      have hl : kvs.length < sizeLine := by rw [sz_eq]; simpa using c2
      rcases key_int r2 hk'.1 with ⟨k, rfl, rfl⟩ | ⟨k, b, rfl, rfl, eb⟩
      · obtain ⟨vs', e1, r'⟩ := put_rel keyOf eqD_key k rv rs
        rw [e1] at q
        exact of_set (set_dict hu) ⟨a, _, rfl, DPut.k ea hl, q _ _ ea rfl rfl rfl (.dK L2.upd_same (r'.upd ea rfl fun h => nomatch h))⟩
      · have e := same_nil_T hk'.2
        subst e
        cases rs
        obtain ⟨vs', e1, r'⟩ := put_rel (κ := List Key) tupKey eqD_tupKey k (kvs := []) (vs := []) rv .nil
        rw [show ((([] : List (Key × V)).map fun p => keyOf p.1) : List D) = ([] : List (List Key × V)).map fun p => tupKey p.1 from rfl, e1] at q
        intro pins s σ ov iv u I ro ri rv'
        have I2 := Inv.toT I ea
        have neb : b ≠ a := ne_of eb ea (by intro z; cases z)
        refine set_dict hu pins s σ _ _ _ _ ov iv u _ I2 ro ri rv' ⟨a, _, rfl, DPut.t L2.upd_same (by rw [L2.upd_ne neb]; exact eb) (by decide), ?_⟩
        rw [L2.upd_upd]
        exact q _ _ ea rfl rfl rfl (.dT L2.upd_same (r'.upd ea rfl fun h => nomatch h))
    | @dT a' kvs vs A ea rs =>
      cases hv0
      have eB := rs.pure c4
      subst eB
      have hl : kvs.length < sizeLine := by rw [sz_eq]; simpa using c2
      rcases key_int r2 hk'.1 with ⟨k, rfl, rfl⟩ | ⟨k, b, rfl, rfl, eb⟩
      · have e := same_nil_K hk'.2
        subst e
        cases rs
        obtain ⟨vs', e1, r'⟩ := put_rel keyOf eqD_key k (kvs := []) (vs := []) rv .nil
        rw [show ((([] : List (List Key × V)).map fun p => D.tup (p.1.map keyOf)) : List D) = ([] : List (Key × V)).map fun p => keyOf p.1 from rfl, e1] at q
        intro pins s σ ov iv u I ro ri rv'
        have I2 := Inv.toK I ea
        refine set_dict hu pins s σ _ _ _ _ ov iv u _ I2 ro ri rv' ⟨a, _, rfl, DPut.k L2.upd_same (by decide), ?_⟩
        rw [L2.upd_upd]
        exact q _ _ ea rfl rfl rfl (.dK L2.upd_same (r'.upd ea rfl fun h => nomatch h))
      · obtain ⟨vs', e1, r'⟩ := put_rel tupKey eqD_tupKey k rv rs
        have e1 : putD (tupKey k) d (kvs.map fun p => D.tup (p.1.map keyOf)) vs = _ := e1
        rw [e1] at q
        exact of_set (set_dict hu) ⟨a, _, rfl, DPut.t ea eb hl, q _ _ ea rfl rfl rfl (.dT L2.upd_same (r'.upd ea rfl fun h => nomatch h))⟩
  · cases h
theorem s_put (G : Good C cf gl X) {i : Nat} {k e : E} {y : Str} {k' x : Expr} {py p1 pos : Pos} (hsl : slotIs C.N X.env.scope i y = true) (hs : notSlice k' = true) (hl : noLc x = true) (hk : SE C cf gl X k k') (he : SE C cf gl X e x) :
    SS C cf gl w X (.put i k e) (.Assign [.Subscript (.Name y py) k' p1] x pos) := by
  intro σ H W ρ out D kk st h q
  have kk' : ((((owns C.ms i = true ∧ (nf C e).ok = true) ∧ (nf C e).o = true) ∧ (nf C k).ok = true) ∧ (nf C k).T.isEmpty = true) ∧ (!(nf C e).T.contains i) = true := by simpa only [nS, nf, infS, Bool.and_eq_true] using kk
  obtain ⟨⟨⟨⟨⟨oi, k1⟩, k2⟩, k3⟩, k4⟩, k5⟩ := kk'
  have k4 := List.isEmpty_iff.mp k4
  simp only [execS, evalE, Option.bind_eq_some_iff, Option.map_eq_some_iff, Prod.exists] at h
  obtain ⟨dv, ρ1, e1, d0, e2, kd, ρ2, e3, d, e4, d', e5, rfl⟩ := h
  have as : ∀ v, assign (.Subscript (.Name y py) k' p1) X.env v = (do
      let ov ← holding [v] (eval (.Name y py) X.env)
      let iv ← holding [v, ov] (eval k' X.env)
      standAt p1
      holding [v, ov, iv] (setItem ov iv v)
      release [v, ov, iv] []) := by
    intro v
    cases k' <;> first | rfl | cases hs
  have swn : swappedStores [.Subscript (.Name y py) k' p1] x X.env = pure none := by
    unfold swappedStores
    cases x <;> rfl
  have sw : swapsWithSole [.Subscript (.Name y py) k' p1] x pos.line X.env = pure false := swaps_no hl (some (.Subscript (.Name y py) k' p1)) pos.line X.env
  refine of_ps (ps_asg (pe X x) (pg_sub (slot_pe G hsl) (pe X k') (setR X) as) sw swn rfl) (wpE_mono (he σ H W ρ _ _ k1 st e1) fun v H1 ⟨W1, A, ev1, st1, r, tt, ov, _⟩ => ?_)
  obtain ⟨v0, hv, _⟩ := st1.sl i _ e2
  refine ⟨v0, hv, wpE_mono (hk σ H1 W1 ρ1 _ _ k3 st1 e3) fun iv H2 ⟨W2, B0, ev2, st2, r2, _⟩ => ?_⟩
  have ev2' : Evo C.ms [] H1 W1 H2 W2 := by
    have : (nf C k).T = [] := k4
    rw [← this]; exact ev2
  have rv2 : Rp X.K H2 v dv A := r.evo ev2' (fun _ _ _ h => nomatch h)
  have W12 : W2 = W1 := funext fun j => ev2'.un j (fun h => nomatch h)
  have al2 : ∀ b ∈ A, ∀ j, b ∉ W2 j := fun b hb j => by rw [W12]; exact tt.al k2 b hb j
  have hiT : i ∉ (nf C e).T ++ [] := by rw [List.append_nil]; exact not_mem_of k5
  have hT : ∀ j ∈ (nf C e).T ++ [], owns C.ms j = true := by rw [List.append_nil]; exact inf_own e k1
  have inT : ∀ j ∈ i :: ((nf C e).T ++ []), j ∈ (nf C e).T ++ [i] := fun j hj => by
    rcases List.mem_cons.mp hj with rfl | z
    · exact List.mem_append_right _ (List.mem_singleton.mpr rfl)
    · exact List.mem_append_left _ (by simpa using z)
  by_cases hdct : ∃ ks vs, d = .dct ks vs
  · obtain ⟨ks, vs, rfl⟩ := hdct
    obtain ⟨v1, hv1, r0⟩ := st2.sl i _ e4
    rw [hv] at hv1
    cases hv1
    have hp : dv.pure = true := by
      simp only [putAt] at e5
      split at e5
      · rename_i hc
        simp only [Bool.and_eq_true] at hc
        exact hc.1.2
      · cases e5
    have eA := rv2.pure hp
    subst eA
    obtain ⟨a, B, rfl, hW⟩ : ∃ a B, v0 = .ref a ∧ W2 i = a :: B := by
      generalize hA : W2 i = A0 at r0
      cases r0 with
      | dK => exact ⟨_, _, rfl, rfl⟩
      | dT => exact ⟨_, _, rfl, rfl⟩
    rw [hW] at r0
    refine dput_sem (hu1_of G) r0 r2 rv2 e5 fun u o hu hm hmo eB rr => ?_
    obtain ⟨evF, stF⟩ := po_mut (K := X.K) (B' := []) (ev1.trans ev2') hT st2 oi hiT hv (getS_lt e4) hW hu hm hmo rr (List.nodup_cons.mpr ⟨(fun h => nomatch h), List.nodup_nil⟩) fun b hb => nomatch hb
    exact q σ _ _ ⟨evF.mono inT, stF, fun _ _ => rfl⟩
  cases d <;> try (first | (cases e5; done) | exact absurd ⟨_, _, rfl⟩ hdct)
  rename_i xs
  obtain ⟨ii, rfl⟩ : ∃ ii, kd = .int ii := by cases kd <;> first | exact ⟨_, rfl⟩ | cases e5
  simp only [putAt, Option.map_eq_some_iff] at e5
  obtain ⟨j, e6, rfl⟩ := e5
  cases r2
  obtain ⟨v1, hv1, r0⟩ := st2.sl i _ e4
  rw [hv] at hv1
  cases hv1
  obtain ⟨a, vs0, B, rfl, hW, ea, rs⟩ := inv_lst r0
  obtain ⟨B', rs', sub, nd'⟩ := rs.setS rv2 j
  have nd0 := st2.nd i oi
  rw [hW] at nd0
  have nd1 := List.nodup_cons.mp nd0
  have aA : a ∉ A := fun z => al2 a z i (by rw [hW]; exact List.mem_cons_self ..)
  have ndBA : (B ++ A).Nodup := List.nodup_append.mpr ⟨nd1.2, tt.nd k2, fun b hb c hc e => by subst e; exact al2 b hc i (by rw [hW]; exact List.mem_cons_of_mem _ hb)⟩
  have hna : a ∉ B' := fun z => (sub a z).elim nd1.1 aA
  obtain ⟨evF, stF⟩ := po_mut (K := X.K) (o := .lst (vs0.set j v)) (ev1.trans ev2') hT st2 oi hiT hv (getS_lt e4) hW ea rfl rfl (.lst upd_same (rs'.upd ea rfl hna)) (List.nodup_cons.mpr ⟨hna, nd' ndBA⟩) fun b hb => (sub b hb).imp id fun z => ⟨al2 b z, by rw [List.append_nil]; exact tt.og k2 b z⟩
  refine of_set set_list ?_
  exact ⟨a, vs0, ii, j, rfl, rfl, ea, (by rw [rs.length]; exact e6), q σ _ _ ⟨evF.mono inT, stF, fun _ _ => rfl⟩⟩

/-! all -/
variable (cf gl w) in
theorem mat_lc {sc : Scope} {elt : E} {x : Tg} {it : E} {c : Option E} {ex : Expr} {gs : List Comprehension} {scope : Scope} {pos : Pos} (h : mat C sc (.lc elt x it c) (.ListComp ex gs scope pos) = true) :
    ∃ tg ix ifs, gs = [⟨tg, ix, ifs, 0⟩] ∧ notSet ix = true ∧ (!needT it || isTupE tg) = true ∧ mat C sc it ix = true ∧ blkC C.N sc scope (ownOf C.N (slotsT x)) = true ∧ (ownOf C.N (slotsT x)).map (·.2) = slotsT x ∧ matT C.N scope x tg = true ∧ mat C (relS scope sc) elt ex = true ∧ matc C (relS scope sc) c ifs = true := by
  simp only [mat] at h
  split at h
  · rename_i e1
    cases e1
    simp only [Bool.and_eq_true, decide_eq_true_eq] at h
    obtain ⟨⟨⟨⟨⟨⟨⟨⟨rfl, h2⟩, h3⟩, h4⟩, h5⟩, h6⟩, h7⟩, h8⟩, h9⟩ := h
    exact ⟨_, _, _, rfl, h2, h3, h4, h5, h6, h7, h8, h9⟩
  · cases h
theorem need_of {it : E} {tg : Expr} (h : (!needT it || isTupE tg) = true) (z : needT it = true) : isTupE tg = true := by
  rw [z] at h; simpa using h
mutual
theorem semS : ∀ (s : S) {X : Cx} (_ : Good C cf gl X) (_ : AsgOk X X.env.scope) (_ : PassesOwn (model X.prog X.w) X.A X.env X.xe) (t : Stmt), matS C X.env.scope s t = true → SS C cf gl w X s t
  | .set tg0 e, X, G, ha, hp, t, h => by
    simp only [matS] at h
    split at h
    · rename_i tg x pos
      simp only [Bool.and_eq_true] at h
      obtain ⟨⟨⟨h1, h2⟩, h3⟩, h4⟩ := h
      split at h4
      · rename_i y py ex gs scope lpos elt xx it c
        obtain ⟨tg2, ix, ifs, rfl, m1, m2, m3, m4, m5, m6, m7, m8⟩ := mat_lc h3
        cases tg0 with
        | tup ts => obtain ⟨_, _, _, ee, _⟩ := matT_tup h2; cases ee
        | nm i => exact s_setLc G ha h2 (sem it G _ m3).si (need_of m2) m4 m5 m6 m1 (fun s H0 C0 cl fp => (sem elt (G.blk _ s H0 C0 cl fp) _ m7).se) (semc c G _ _ m8)
      · rename_i ts kt pt vs kv pv es
        obtain ⟨tgs, rfl⟩ : ∃ tgs, tg0 = .tup tgs := by
          cases tg0 with
          | nm i => obtain ⟨_, _, ee, _⟩ := matT_nm h2; cases ee
          | tup ts => exact ⟨ts, rfl⟩
        obtain ⟨_, _, _, ee, hm⟩ := matT_tup h2
        cases ee
        unfold mat at h3
        simp only [Bool.and_eq_true, decide_eq_true_eq] at h3
        obtain ⟨g1, g2⟩ := sems es G _ h3.1
        refine s_setPar G ha hm g1 g2 h3.2 fun z => ?_
        rw [z] at h4
        simpa using h4
      · simp only [Bool.and_eq_true] at h4
        exact s_set G ha h1 h2 (sem e G _ h3).se h4.1 h4.2
    · cases h
  | .par _ _ _ _, X, G, ha, hp, t, h => by simp only [matS] at h; cases h
  | .aug i o e, X, G, ha, hp, t, h => by
    simp only [matS] at h
    split at h
    · simp only [Bool.and_eq_true, decide_eq_true_eq] at h
      obtain ⟨⟨⟨⟨h1, h2⟩, h3⟩, h4⟩, h5⟩ := h
      exact s_aug G ha h1 h2 h3 h4 (sem e G _ h5).se
    · cases h
  | .put i k e, X, G, ha, hp, t, h => by
    simp only [matS] at h
    split at h
    · simp only [Bool.and_eq_true] at h
      obtain ⟨⟨⟨⟨h1, h2⟩, h3⟩, h4⟩, h5⟩ := h
      exact s_put G h1 h2 h3 (sem k G _ h4).se (sem e G _ h5).se
    · cases h
  | .augput _ _ _ _, X, G, ha, hp, t, h => by simp only [matS] at h; cases h
  | .ex e, X, G, ha, hp, t, h => by
    simp only [matS] at h
    split at h
    · simp only [Bool.and_eq_true] at h
      exact s_ex G (sem e G _ h.2).se h.1
    · cases h
  | .ret e, X, G, ha, hp, t, h => by
    simp only [matS] at h
    split at h
    · exact s_ret (sem e G _ h).se
    · cases h
  | .ret0, X, G, ha, hp, t, h => by
    simp only [matS] at h
    split at h
    · exact s_ret0
    · cases h
  | .iff c a b, X, G, ha, hp, t, h => by
    simp only [matS] at h
    split at h
    · simp only [Bool.and_eq_true] at h
      obtain ⟨⟨⟨h1, h2⟩, h3⟩, h4⟩ := h
      exact s_iff ((sem c G _ h2).st h1) (semSs a G ha hp _ h3) (semSs b G ha hp _ h4)
    · cases h
  | .whl c b, X, G, ha, hp, t, h => by
    simp only [matS] at h
    split at h
    · simp only [Bool.and_eq_true] at h
      obtain ⟨⟨h1, h2⟩, h3⟩ := h
      exact s_whl hp ((sem c G _ h2).st h1) (semSs b G ha hp _ h3)
    · cases h
  | .for_ x it b, X, G, ha, hp, t, h => by
    simp only [matS] at h
    split at h
    · simp only [Bool.and_eq_true] at h
      obtain ⟨⟨⟨⟨h1, h2⟩, h3⟩, h4⟩, h5⟩ := h
      exact s_for G ha hp h1 (need_of h2) h3 (sem it G _ h4).si (semSs b G ha hp _ h5)
    · cases h
  | .brk, X, G, ha, hp, t, h => by
    simp only [matS] at h
    split at h
    · exact s_brk
    · cases h
  | .cnt, X, G, ha, hp, t, h => by
    simp only [matS] at h
    split at h
    · exact s_cnt
    · cases h
  | .pas, X, G, ha, hp, t, h => by
    simp only [matS] at h
    split at h
    · exact s_pas
    · cases h
  | .doc, X, G, ha, hp, t, h => by
    simp only [matS] at h
    split at h
    · exact s_doc
    · cases h
theorem semSs : ∀ (s : List S) {X : Cx} (_ : Good C cf gl X) (_ : AsgOk X X.env.scope) (_ : PassesOwn (model X.prog X.w) X.A X.env X.xe) (t : List Stmt), matSs C X.env.scope s t = true → SSs C cf gl w X s t
  | [], X, G, ha, hp, t, h => by
    simp only [matSs] at h
    split at h
    · exact ss_nil
    · cases h
  | s :: r, X, G, ha, hp, t, h => by
    simp only [matSs] at h
    split at h
    · simp only [Bool.and_eq_true] at h
      exact ss_cons (semS s G ha hp _ h.1) (semSs r G ha hp _ h.2)
    · cases h
end
end
end Vi

set_option Elab.async false
set_option linter.all false
set_option maxRecDepth 100000
set_option maxHeartbeats 4000000
/-! Programs: every def keeps its reading. -/
namespace Vi
open PySem L2

/-- a def: its name, its text, its slots' names, its parameters, its reading -/
structure Df where
  name : Str
  st : Stmt
  N : List Str
  ps : List Str
  fn : Fn
def fsOf (tab : List Df) : Nat → Option Fn := fun i => (tab[i]?).map (·.fn)
def cfgOf (tab : List Df) (d : Df) : Cfg where
  N := d.N
  ms := d.fn.ms
  fns := fun i => (tab[i]?).map (·.name)
  pm := fun i => match tab[i]? with
    | some e => e.fn.ms.take e.fn.np
    | none => []
/-- all that is asked of a def -/
def ckDf (tab : List Df) (d : Df) : Bool :=
  matSs (cfgOf tab d) (defScope d.st) d.fn.body (defBody d.st) && (infSs d.fn.ms (cfgOf tab d).pm d.fn.body).ok && decide (d.N.length = d.fn.ms.length) && decide (d.ps.length = d.fn.np) && decide (d.fn.np ≤ d.fn.ms.length) &&
  ((List.range d.fn.np).all fun j => !owns d.fn.ms j || !(infSs d.fn.ms (cfgOf tab d).pm d.fn.body).A.contains j)
structure PEnv (K : PySem.W.Frag) (mg : Str → Option Value) (tab : List Df) (ad : Nat → Addr) (fd : Nat → FuncData) : Prop where
  tb : ∀ i d, tab[i]? = some d → ∃ c P, (fd i).code = .ref c ∧ (c, P) ∈ tabsK K ∧ PySem.W.codeHdIn K c P = true
  F : ∀ i d, tab[i]? = some d → Fun K d.name d.name d.st (ad i) (fd i)
  S : ∀ d ∈ tab, FnScope d.N d.ps (defScope d.st)
  g : ∀ i d, tab[i]? = some d → mg d.name = some (.ref (ad i))
  b : ∀ i d, tab[i]? = some d → Binds K (fd i) d.ps []
  bl : ∀ x ∈ usedB, mg x = none
  ck : tab.all (ckDf tab) = true
theorem owns_lt {ms : List Bool} {j : Nat} (h : owns ms j = true) : j < ms.length := by
  unfold owns at h
  rcases Nat.lt_or_ge j ms.length with z | z
  · exact z
  · rw [List.getD_eq_getElem?_getD, List.getElem?_eq_none z] at h; cases h
theorem Evo.range {K : PySem.W.Frag} {ms : List Bool} {T : List Nat} {H H' : Hp} {W W' : Own} {σ σ' : St} {ρ ρ' : Env} (e : Evo ms T H W H' W') (st : Sts K H ms σ ρ W) (st' : Sts K H' ms σ' ρ' W') : Evo ms (List.range ms.length) H W H' W' :=
  ⟨e.imm, fun a o q k => e.kp a o q fun j _ oj => k j (List.mem_range.mpr (owns_lt oj)) oj, fun j hj => by
    have z : ms.length ≤ j := by
      rcases Nat.lt_or_ge j ms.length with z | z
      · exact absurd (List.mem_range.mpr z) hj
      · exact z
    rw [st'.em j (getS_none_of (by rw [st'.ln, st'.lm]; exact z)), st.em j (getS_none_of (by rw [st.ln, st.lm]; exact z))], fun j hj oj a ha => by
    by_cases z : j ∈ T
    · exact (e.nw j z oj a ha).imp_left fun ⟨k, _, ok, q⟩ => ⟨k, List.mem_range.mpr (owns_lt ok), ok, q⟩
    · rw [e.un j z] at ha; exact .inl ⟨j, hj, oj, ha⟩, e.dom⟩
theorem fn_ok {P : Program} {w : World} {K : PySem.W.Frag} {mg : Str → Option Value} {base : Heap} {tab : List Df} {ad : Nat → Addr} {fd : Nat → FuncData} (E : PEnv K mg tab ad fd) (hKb : K.In base) (hbm : ∀ p ∈ tabsK K, base.BuiltinsAt mg p.2 ∧ mainGlobals ≠ p.2) (gl : Nat → Option D) (wh : Nat) :
    ∀ (k i : Nat) (d : Df), tab[i]? = some d → FnOk P w K mg base CX0 (2 * k) (ad i) (fd i) d.ps (spF K (run (fsOf tab) gl wh k) i d.fn) := by
  intro k
  have ckOf : ∀ d ∈ tab, ckDf tab d = true := fun d hd => List.all_eq_true.mp E.ck d hd
  induction k with
  | zero =>
    intro i d hi
    have lenE : d.ps.length = d.fn.np := by
      have := ckOf d (List.mem_of_getElem? hi)
      simp only [ckDf, Bool.and_eq_true, decide_eq_true_eq] at this
      exact this.1.1.2
    exact ⟨fun vs H Q E' h => by rw [lenE]; exact h.1, fun A outer s H args us vs Q E' _ _ _ _ h => by
      obtain ⟨_, ds, W, d', ρe, _, _, e, _⟩ := h
      cases e⟩
  | succ k ih =>
    intro i d hi
    have hd := List.mem_of_getElem? hi
    have ck := ckOf d hd
    simp only [ckDf, Bool.and_eq_true, decide_eq_true_eq] at ck
    obtain ⟨⟨⟨⟨⟨c1, c2⟩, c3⟩, c4⟩, c5⟩, c6⟩ := ck
    obtain ⟨tc, tP, hcd1, hmem, hhd⟩ := E.tb i d hi
    obtain ⟨oc, od, kV, doc, pm, an, cdv, ct, osl, hfd, lk, hcd⟩ := (E.F i d hi).ex
    rw [hfd] at hcd1 lk ⊢
    have hcd1 : cdv = .ref tc := hcd1
    show FnOk P w K mg base CX0 (2 * k + 1 + 1) _ _ _ _
    refine fn_of lk hcd (E.S d hd) (fun vs H Q E' h => by rw [c4]; exact h.1) fun A outer s H vs Q E' hr h => ?_
    obtain ⟨hv, ds, W, dr, ρe, hds, st, e, q⟩ := h
    refine ⟨wpSs _ (defBody d.st), (pss _ _).nox, ?_⟩
    generalize hX : (cxOf CX0 P w K mg base d.N d.name (defScope d.st) (ad i) cdv A outer s H E').nox = X
    have XK : X.K = K := by subst hX; rfl
    have Xs : X.env.scope = defScope d.st := by subst hX; rfl
    have G : Good (cfgOf tab d) (run (fsOf tab) gl wh k) gl X := by
      subst hX
      refine ⟨rfl, rfl, (E.S d hd).nd, c3, E.bl, ⟨_, hr⟩, ⟨2 * k, hr, fun f g hf => ?_⟩, fun _ => ⟨tc, tP, hmem, hcd1, PySem.W.codeHd_of_K hKb hhd, (hbm _ hmem).1, (hbm _ hmem).2⟩⟩
      obtain ⟨d2, h2, rfl⟩ := Option.map_eq_some_iff.mp (show (tab[f]?).map (·.name) = some g from hf)
      have ck2 := ckOf d2 (List.mem_of_getElem? h2)
      simp only [ckDf, Bool.and_eq_true, decide_eq_true_eq] at ck2
      refine ⟨ad f, fd f, d2.ps, d2.fn, ih f d2 h2, E.g f d2 h2, (E.F f d2 h2).kp, E.b f d2 h2, ?_, ck2.1.2, fun _ _ _ => trivial⟩
      show (match tab[f]? with | some e => e.fn.ms.take e.fn.np | none => []) = _
      rw [h2]
    have ha : AsgOk X X.env.scope := fun x hx => ⟨isLoc_of hx, .inl (by subst hX; rfl)⟩
    have hp : PassesOwn (model X.prog X.w) X.A X.env X.xe := by subst hX; exact PassesOwn.never
    have hm : matSs (cfgOf tab d) X.env.scope d.fn.body (defBody d.st) = true := by rw [Xs]; exact c1
    have ss := semSs (gl := gl) (w := wh) d.fn.body G ha hp (defBody d.st) hm
    have hstart : L2.start d.N vs = vs.map some ++ List.replicate (d.fn.ms.length - vs.length) none := by unfold L2.start; rw [c3]
    have st0 : Sts X.K H (cfgOf tab d).ms (L2.start d.N vs) (startE d.fn.ms.length ds) W := by rw [XK, hstart]; exact st
    have e' : (fsOf tab i).bind (fun fn => if ds.length = fn.np then (execSs (run (fsOf tab) gl wh k) gl wh fn.body (startE fn.ms.length ds)).bind fun o => match o with
        | .nx ρ => some (.non, ρ)
        | .rt d ρ => some (d, ρ)
        | _ => none
      else none) = some (dr, ρe) := e
    have hfs : fsOf tab i = some d.fn := by unfold fsOf; rw [hi]; rfl
    rw [hfs] at e'
    simp only [Option.bind_some, if_pos hds] at e'
    obtain ⟨o, eo, e2⟩ := Option.bind_eq_some_iff.mp e'
    refine ss _ H W _ o _ c2 st0 eo ?_
    have keepP : ∀ {ρ' σ' H' W'}, Fin X.K (cfgOf tab d).ms (nSs (cfgOf tab d) d.fn.body).T (nSs (cfgOf tab d) d.fn.body).A (L2.start d.N vs) H W ρ' σ' H' W' → ∀ j, j < d.fn.np → owns d.fn.ms j = true → σ'[j]? = (vs[j]?).map some := fun f j hj oj => by
      have z := List.all_eq_true.mp c6 j (List.mem_range.mpr hj)
      rw [oj] at z
      have z2 : j ∉ (nSs (cfgOf tab d) d.fn.body).A := fun y => by
        have y' : j ∈ (infSs d.fn.ms (cfgOf tab d).pm d.fn.body).A := y
        simp [y'] at z
      rw [f.sl j z2, hstart, List.getElem?_append, if_pos (by rw [List.length_map]; omega), List.getElem?_map]
    cases o with
    | nx ρ' =>
      simp only [Option.some.injEq, Prod.mk.injEq] at e2
      obtain ⟨rfl, rfl⟩ := e2
      intro σ' H' W' f
      have f1 : Sts K H' d.fn.ms σ' ρ' W' := by have := f.st; rwa [XK] at this
      exact q .non H' W' [] σ' (f.ev.range st f1) f1 (keepP f) .non List.nodup_nil (fun _ h => nomatch h) fun _ h => nomatch h
    | rt d' ρ' =>
      simp only [Option.some.injEq, Prod.mk.injEq] at e2
      obtain ⟨rfl, rfl⟩ := e2
      intro v σ' H' W' Av f r t
      have f1 : Sts K H' d.fn.ms σ' ρ' W' := by have := f.st; rwa [XK] at this
      exact q v H' W' Av σ' (f.ev.range st f1) f1 (keepP f) (by rwa [XK] at r) (t.nd rfl) (fun a ha j oj => t.al rfl a ha j) fun a ha => (t.og rfl a ha).imp_left fun ⟨k, _, ok, q⟩ => ⟨k, ok, q⟩
    | bk _ => cases e2
    | ct _ => cases e2
theorem scr_of {K : PySem.W.Frag} {H : Hp} {a : Addr} {ns : List Int} (hO : Only H) (h : SqL K H a (ns.map V.int)) : ScrAt K H a ns := by
  rcases h with (h | ⟨o, h⟩) | h
  · rcases hO a with e | ⟨o, xs, e⟩
    · rw [h] at e; cases e
    · rw [h] at e; cases e
  · exact .inl ⟨o, h⟩
  · exact .inr h
/-- a law's promise -/
def spLaw (K : PySem.W.Frag) : Sp := fun vs H Q _ => ∃ (a : Addr) (ns : List Int), vs = [.ref a] ∧ ScrAt K H a ns ∧ Tabs K H ∧ ns.length ≤ 63 ∧ ∀ H', Tabs K H' → Q (.bl true) H'
theorem law_ok {P : Program} {w : World} {K : PySem.W.Frag} {mg : Str → Option Value} {base : Heap} {tab : List Df} {ad : Nat → Addr} {fd : Nat → FuncData} (E : PEnv K mg tab ad fd) (hKb : K.In base) (hbm : ∀ p ∈ tabsK K, base.BuiltinsAt mg p.2 ∧ mainGlobals ≠ p.2) (gl : Nat → Option D) (wh k i : Nat) (d : Df) (hi : tab[i]? = some d) (hn : d.fn.np = 1) (hps : d.ps = [("script" : Str)]) (hms : d.fn.ms.getD 0 false = false)
    (law : ∀ ns : List Int, ns.length ≤ 63 → ∃ ρe, run (fsOf tab) gl wh k i [.scr ns] = some (.bl true, ρe)) : FnOk P w K mg base CX0 (2 * k) (ad i) (fd i) [("script" : Str)] (spLaw K) := by
  have F := fn_ok (P := P) (w := w) (base := base) E hKb hbm gl wh k i d hi
  rw [hps] at F
  refine F.imp fun vs H Q E' h => ?_
  obtain ⟨a, ns, rfl, hS, hTb, hl, q⟩ := h
  obtain ⟨ρe, e⟩ := law ns hl
  have ck := List.all_eq_true.mp E.ck d (List.mem_of_getElem? hi)
  simp only [ckDf, Bool.and_eq_true, decide_eq_true_eq] at ck
  have hle := ck.1.2
  rw [hn] at hle
  have hln : d.fn.ms.length = d.fn.ms.length - 1 + 1 := by omega
  refine ⟨by rw [hn]; rfl, [.scr ns], fun _ => [], .bl true, ρe, by rw [hn]; rfl, ⟨fun j dd ej => ?_, fun _ _ => rfl, ?_, ?_, fun _ _ => List.nodup_nil, fun _ _ _ _ _ h => (nomatch h), hTb⟩, e, fun v H' W' A σe _ ste _ r _ _ _ => ?_⟩
  · rw [getS_start] at ej
    cases j with
    | zero =>
      simp at ej
      subst ej
      exact ⟨.ref a, rfl, .scr hS⟩
    | succ j => simp at ej
  · unfold startE
    simp
  · simp only [List.length_append, List.length_map, List.length_replicate, List.length_singleton]; omega
  · cases r
    exact q H' ste.tb
end Vi

set_option Elab.async false
set_option linter.all false
set_option maxRecDepth 100000
set_option maxHeartbeats 4000000
/-! A law's end, with the defs' tables of code objects. -/
namespace Vi
open PySem PySem.Spec PyProof.Rows L2

def tabChk (K : PySem.W.Frag) (names : List Str) : Bool := (tabsK K).all fun p => PySem.W.codeHdIn K p.1 p.2 && (K.lookup p.2).isNone && names.any fun x => match PySem.W.tabIn K x with
  | some q => q.1 == p.1 && q.2 == p.2
  | none => false
def defChk (K : PySem.W.Frag) (names : List Str) : Bool := names.all fun x => match PySem.W.tabIn K x with
  | some q => PySem.W.codeHdIn K q.1 q.2 && (tabsK K).any fun p => q.1 == p.1 && q.2 == p.2
  | none => false
theorem tab_code {K : PySem.W.Frag} {x : Str} {f c P : Addr} {oc : Value} {od : Option Addr} {fd : FuncData} {sl : Array (Option Value)} (a : PySem.W.nsIn K mainGlobals x = some (some (.ref f))) (l : K.lookup f = some ⟨oc, od, .func fd, sl⟩) (t : PySem.W.tabIn K x = some (c, P)) : fd.code = .ref c := by
  unfold PySem.W.tabIn at t
  rw [a] at t
  simp only [l] at t
  split at t
  · rename_i c2 e
    split at t
    · split at t
      · cases t; exact e
      · cases t
    · cases t
  · cases t
theorem defChk_at {K : PySem.W.Frag} {names : List Str} (h : defChk K names = true) {x : Str} (hx : x ∈ names) {f : Addr} {oc : Value} {od : Option Addr} {fd : FuncData} {sl : Array (Option Value)} (a : PySem.W.nsIn K mainGlobals x = some (some (.ref f))) (l : K.lookup f = some ⟨oc, od, .func fd, sl⟩) :
    ∃ c P, fd.code = .ref c ∧ (c, P) ∈ tabsK K ∧ PySem.W.codeHdIn K c P = true := by
  have q := List.all_eq_true.mp h x hx
  split at q
  · rename_i r e
    obtain ⟨c, P⟩ := r
    simp only [Bool.and_eq_true, List.any_eq_true, beq_iff_eq] at q
    obtain ⟨q1, p, hp, q2, q3⟩ := q
    refine ⟨c, P, tab_code a l e, ?_, q1⟩
    rw [q2, q3]; exact hp
  · cases q
theorem tabChk_at {K : PySem.W.Frag} {names : List Str} (h : tabChk K names = true) {p : Addr × Addr} (hp : p ∈ tabsK K) : PySem.W.codeHdIn K p.1 p.2 = true ∧ K.lookup p.2 = none ∧ ∃ x ∈ names, PySem.W.tabIn K x = some (p.1, p.2) := by
  have q := List.all_eq_true.mp h p hp
  simp only [Bool.and_eq_true, Option.isNone_iff_eq_none, List.any_eq_true] at q
  obtain ⟨⟨q1, q2⟩, x, hx, q3⟩ := q
  refine ⟨q1, q2, x, hx, ?_⟩
  split at q3
  · rename_i r e
    simp only [Bool.and_eq_true, beq_iff_eq] at q3
    rw [e, ← q3.1, ← q3.2]
  · cases q3

theorem law_tab {P : Program} {w : World} {K : PySem.W.Frag} {mg mb : Str → Option Value} {k : Nat} {fa a : Addr} {fd : FuncData} {x : Str} {sp : Sp} {s₁ : Shared} {vs : List Value} {ns : List Int}
    (KX : K.In s₁.heap) (hns : s₁.heap.Ns mainGlobals mg) (hb : s₁.heap.Ns builtinsNs mb) (hbb : ∀ x : Str, x ≠ "__name__" → mb x = bootBuiltins x) (hlim : s₁.heap.NoLimit) (hg : s₁.gens = #[])
    (hT : ∀ p ∈ tabsK K, s₁.heap.get? p.2 = some { cls := .none, data := .fields #[] }) (nT : ∀ p ∈ tabsK K, K.lookup p.2 = none) (hC : ∀ p ∈ tabsK K, PySem.W.CodeHd s₁.heap p.1 p.2)
    (hbm : ∃ (bm : Addr) (ob : Obj), mg "__builtins__" = some (.ref bm) ∧ bm ≠ builtinsNs ∧ s₁.heap.get? bm = some ob ∧ ob.cls = .type "module" ∧ ob.dict = some builtinsNs ∧ ob.data = .plain)
    (ha : s₁.heap.get? a = some { cls := .type "list", data := .seq vs.toArray }) (hi : IntsAre vs ns) (hl : ns.length ≤ sizeLine) (hr : Room k callerA)
    (F : ∀ base : Heap, K.In base → base.Ns mainGlobals mg → (∀ p ∈ tabsK K, base.BuiltinsAt mg p.2 ∧ mainGlobals ≠ p.2) → FnOk P w K mg base CX0 k fa fd [x] sp) (hbind : ∀ (s : Shared) (u : Value), BindsTo s fd ⟨[u], []⟩ [(x, u)])
    (hsp : ∀ H : Hp, Tabs K H → ScrAt K H a ns → sp [.ref a] H (fun v H' => v = .bl true ∧ Tabs K H') fun _ _ _ => False) :
    codeAny (model P w) callerA (.call (.ref fa) ⟨[.ref a], []⟩) (fun r s' => r = .ok (.ret (.bool true)) ∧ OldK s₁.heap s'.heap ∧ s'.os = s₁.os ∧ AllBare s'.gens) s₁ := by
  have rv := vals_ints hi
  have lenV := hi.length
  -- the tables' addresses
  have atT : ∀ {b : Addr}, b ∈ (tabsK K).map (·.2) → s₁.heap.get? b = some { cls := .none, data := .fields #[] } := fun {b} hb => by
    obtain ⟨p, hp, rfl⟩ := List.mem_map.mp hb
    exact hT p hp
  have inT : ∀ {p : Addr × Addr}, p ∈ tabsK K → p.2 ∈ (tabsK K).map (·.2) := fun hp => List.mem_map.mpr ⟨_, hp, rfl⟩
  have notA : a ∉ (tabsK K).map (·.2) := fun z => by
    have q := atT z
    rw [ha] at q
    have q2 := congrArg Obj.data (Option.some.inj q)
    cases q2
  let Hs : Hp := fun b => if b ∈ (tabsK K).map (·.2) then some (TabO b) else if b = a ∧ K.lookup a = none then some (.frz { cls := .type "list", data := .seq vs.toArray } (.lst (ns.map V.int))) else none
  have HsT : ∀ {b}, b ∈ (tabsK K).map (·.2) → Hs b = some (TabO b) := fun h => if_pos h
  have HsN : ∀ {b}, b ∉ (tabsK K).map (·.2) → b ≠ a → Hs b = none := fun h h2 => (if_neg h).trans (if_neg fun z => h2 z.1)
  have HsA : Hs a = if K.lookup a = none then some (.frz { cls := .type "list", data := .seq vs.toArray } (.lst (ns.map V.int))) else none := by
    refine (if_neg notA).trans ?_
    by_cases z : K.lookup a = none
    · rw [if_pos ⟨rfl, z⟩, if_pos z]
    · rw [if_neg (fun q => z q.2), if_neg z]
  have hok : HOk P w Hs s₁.heap := fun b u e => by
    by_cases hb : b ∈ (tabsK K).map (·.2)
    · rw [HsT hb] at e
      cases e
      exact tabO_ok ⟨#[], atT hb, trivial⟩
    · by_cases h2 : b = a
      · subst h2
        rw [HsA] at e
        split at e
        · cases e
          exact ⟨ha, by rw [List.length_map]; exact hl, vs, _, rv, ha⟩
        · cases e
      · rw [HsN hb h2] at e; cases e
  have scr : ScrAt K Hs a ns := by
    cases hk : K.lookup a with
    | none => exact .inl ⟨_, by rw [HsA, if_pos hk]⟩
    | some o =>
      have e := KX a o hk
      rw [ha] at e; cases e
      exact .inr ⟨_, vs.toArray, _, hk, rfl, rfl, rfl, by rw [List.size_toArray, lenV]; exact hl, by simpa using rv⟩
  -- what is no list and no table is untracked
  have free : ∀ {b : Addr} {o : Obj}, s₁.heap.get? b = some o → (∀ us n, o.data ≠ .seq us n) → o.data ≠ .fields #[] → Hs b = none := fun {b o} e h1 h2 => by
    refine HsN (fun z => ?_) fun z => ?_
    · rw [atT z] at e; cases e; exact h2 rfl
    · rw [z, ha] at e; cases e; exact h1 _ _ rfl
  have down : ∀ {b : Addr} {o : Obj}, s₁.heap.get? b = some o → Hs b = none → (hidT s₁.heap Hs).get? b = some o := fun e n => hidT_get e n
  have nsD : ∀ {b : Addr} {m : Str → Option Value}, s₁.heap.Ns b m → (hidT s₁.heap Hs).Ns b m := fun {b m} ⟨o, es, ep, e, d, r⟩ =>
    ⟨o, es, ep, down e (free e (fun us n z => by rw [d] at z; cases z) fun z => by rw [d] at z; cases z), d, r⟩
  have KB : K.In (hidT s₁.heap Hs) := fun b o e => down (KX b o e) (by
    by_cases hb : b ∈ (tabsK K).map (·.2)
    · obtain ⟨p, hp, rfl⟩ := List.mem_map.mp hb
      rw [nT p hp] at e; cases e
    · by_cases h2 : b = a
      · subst h2
        rw [HsA, if_neg (by rw [e]; exact fun z => nomatch z)]
      · exact HsN hb h2)
  have M : L2.Mod K mg (hidT s₁.heap Hs) := ⟨KB, nsD hns, ⟨mb, nsD hb, hbb⟩, let ⟨mc, h1, h2⟩ := hlim; ⟨mc, nsD h1, h2⟩⟩
  have TB : ∀ p ∈ tabsK K, (hidT s₁.heap Hs).BuiltinsAt mg p.2 ∧ mainGlobals ≠ p.2 := fun p hp => by
    have hTp := hT p hp
    refine ⟨?_, fun z => ?_⟩
    · obtain ⟨bm, ob, b1, b2, b3, b4, b5, b6⟩ := hbm
      refine ⟨bm, ob, b1, b2, fun z => ?_, fun z => ?_, down b3 (free b3 (fun us n z => by rw [b6] at z; cases z) fun z => by rw [b6] at z; cases z), b4, b5, b6⟩
      · obtain ⟨o, es, ep, e, hd, _⟩ := hns
        rw [z, e] at b3; cases b3
        rw [hd] at b6; cases b6
      · rw [z, hTp] at b3; cases b3; cases b6
    · obtain ⟨o, es, ep, e, hd, _⟩ := hns
      rw [z, hTp] at e; cases e; cases hd
  have e0 : Env0 P w K mg (hidT s₁.heap Hs) callerA [] s₁ Hs := ⟨rfl, M, fun b o e => of_hidT e, Nat.le_of_eq (hidT_size _ _), trivial, fun b hb => (nomatch hb), hok, .of_eq hg⟩
  refine codeAny_mono ((F _ KB (nsD hns) TB).run callerA [] s₁ Hs ⟨[.ref a], []⟩ [.ref a] [.ref a] _ _ hr e0 (hbind s₁ (.ref a)) (.cons rfl .nil) (hsp Hs (fun p hp => HsT (inT hp)) scr)) fun r s' h => ?_
  cases r with
  | error e => exact False.elim h
  | ok fl =>
    cases fl with
    | next => exact False.elim h
    | brk => exact False.elim h
    | cont => exact False.elim h
    | ret u =>
      obtain ⟨v, H', os, bare, un, hok', r', q⟩ := h
      obtain ⟨q, qT⟩ := (show v = .bl true ∧ Tabs K H' from q)
      subst q
      have grown : ∀ p ∈ tabsK K, ∃ more : Array Value, s'.heap.get? p.2 = some { cls := .none, data := .fields more } := fun p hp => by
        obtain ⟨more, e, _⟩ := tabO_at hok' (qT p hp)
        exact ⟨more, e⟩
      obtain rfl : u = Value.bool true := r'
      have kept : ∀ b o, b ∉ (tabsK K).map (·.2) → s₁.heap.get? b = some o → s'.heap.get? b = some o := fun b o nb e => by
        cases z : Hs b with
        | none => exact un.keep b o e z (fun z => nomatch z) (by simp)
        | some u =>
          by_cases h2 : b = a
          · subst h2
            rw [HsA] at z
            split at z
            · rename_i hk
              cases z
              have z2 := un.frzs b _ _ (show Hs b = _ by rw [HsA, if_pos hk])
              obtain ⟨e2, _⟩ := hok' b _ z2
              rw [ha] at e; cases e
              exact e2
            · cases z
          · rw [HsN nb h2] at z; cases z
      refine ⟨rfl, ⟨fun b o e => ?_, fun b o e => ?_⟩, os, bare⟩
      · by_cases hb : b ∈ (tabsK K).map (·.2)
        · obtain ⟨p, hp, rfl⟩ := List.mem_map.mp hb
          obtain ⟨more, hm⟩ := grown p hp
          rw [hT p hp] at e; cases e
          exact .inr (.inl ⟨((hC p hp).tab (hT p hp)).isCodeTable, rfl, #[], more, rfl, by rw [Array.empty_append]; exact hm⟩)
        · exact .inl (kept b o hb e)
      · by_cases hb : b ∈ (tabsK K).map (·.2)
        · obtain ⟨p, hp, rfl⟩ := List.mem_map.mp hb
          obtain ⟨more, hm⟩ := grown p hp
          exact ⟨_, hm⟩
        · exact ⟨o, kept b o hb e⟩

theorem walk_tab {l : PySem.W.OpenLaw} {n k : Nat} {q : Program} {loose : List Str} {XP : (Str → Option Value) → Heap → Prop} {YP : World → Heap → Prop} {d : DefRec} {K : Params → PySem.W.Frag} {x : Str} (names : List Str)
    (hn : l.most = some n) (hn2 : n ≤ sizeLine) (hdf : d.params.defaults = []) (hr : Room k callerA) (hrec : names.all (fun x => (recsOf q).any fun e => e.name == x) = true) (hck : ∀ P : Params, tabChk (K P) names = true) (hdf2 : ∀ P : Params, defChk (K P) names = true) (hY : ∀ (w : World) (h : Heap), YP w h → (K w.params).In h)
    (F : ∀ (w : World) (mg : Str → Option Value) (fa : Addr) (h : Heap), defChk (K w.params) names = true → (K w.params).In h → h.Ns mainGlobals mg → mg d.name = some (.ref fa) → ∃ fd : FuncData, (∀ (s : Shared) (u : Value), BindsTo s fd ⟨[u], []⟩ [(x, u)]) ∧
      ∀ base : Heap, (K w.params).In base → base.Ns mainGlobals mg → (∀ p ∈ tabsK (K w.params), base.BuiltinsAt mg p.2 ∧ mainGlobals ≠ p.2) → FnOk l.prog w (K w.params) mg base CX0 k fa fd [x] (spLaw (K w.params)))
    (h63 : n ≤ 63) : PySem.W.WalkO q loose XP YP l.row.toRowW d [] (fun f vs => PySem.call f vs) := by
  refine Att.attach_callB hn hdf fun w s₀ s₁ mg mb fa o pm cd doc a vs ns G Y ho hd hcd hmg hobj hints hlen hbits hg => ?_
  have KX := hY w _ Y
  have tabs : ∀ p ∈ tabsK (K w.params), PySem.W.CodeHd s₁.heap p.1 p.2 ∧ s₁.heap.get? p.2 = some { cls := .none, data := .fields #[] } := fun p hp => by
    obtain ⟨_, _, x, hx, e⟩ := tabChk_at (hck w.params) hp
    have hx2 := List.all_eq_true.mp hrec x hx
    cases hf : (recsOf q).find? fun e => e.name == x with
    | none =>
      rw [List.find?_eq_none] at hf
      obtain ⟨e', he, hq⟩ := List.any_eq_true.mp hx2
      exact absurd hq (hf e' he)
    | some dd => exact PySem.W.tab_of G.T KX hf e
  obtain ⟨fd, hb, hF⟩ := F w mg fa _ (hdf2 w.params) KX G.T.g hmg
  exact law_tab KX G.T.g G.T.b G.T.builtins G.T.nolimit hg (fun p hp => (tabs p hp).2) (fun p hp => (tabChk_at (hck w.params) hp).2.1) (fun p hp => (tabs p hp).1) G.T.bmain hobj hints (Nat.le_trans hlen hn2) hr hF hb fun H t hS => ⟨a, ns, rfl, hS, t, Nat.le_trans hlen h63, fun _ t => ⟨rfl, t⟩⟩
end Vi

set_option Elab.async false
set_option linter.all false
set_option maxRecDepth 100000
set_option maxHeartbeats 4000000
/-! Reckoning with readings: one equation a step; what comes behind a step has a name of its own, so that a simp goes from the left. -/
namespace Vi
open PySem L2

section
variable {cf : Fns} {gl : Nat → Option D} {w : Nat} {ρ : Env} {d x y : D}
/-! slots -/
theorem g_0 {a : Option D} {r : Env} : getS (a :: r) 0 = a := by unfold getS; rfl
theorem g_s {a : Option D} {r : Env} {i : Nat} : getS (a :: r) (i + 1) = getS r i := rfl
/-! what comes behind -/
def kP (ρ : Env) (d : D) : D × Env := (d, ρ)
def kM (i : Nat) (ρ : Env) (d : D) : D × Env := (d, ρ.set i none)
def kPI (ρ : Env) (i : Int) : D × Env := (.int (-i), ρ)
def kPB (ρ : Env) (b : Bool) : D × Env := (.bl b, ρ)
def kPN (ρ : Env) (b : Bool) : D × Env := (.bl (!b), ρ)
def kPO (ρ : Env) (i : Int) : Option Int × Env := (some i, ρ)
def kPT (ρ : Env) (b : Bool) : Bool × Env := (b, ρ)
def kPL (ρ : Env) (xs : List D) : List D × Env := (xs, ρ)
def kPE (ρ : Env) (xs : List D) : List D × Env := (enumD 0 xs, ρ)
def kPV (ρ : Env) (xs : List D) : List D × Env := (xs.reverse, ρ)
def kPZ (ρ : Env) : List D × List D → List D × Env | (xs, ys) => (zipD xs ys, ρ)
def kOwn : D × Env → Option (D × Env) | (d, ρ) => (ownD d).map (kP ρ)
def kChk : D × Env → Option (D × Env) | (d, ρ) => if d.pure then some (d, ρ) else none
def kBin2 (o : BinO) (x : D) : D × Env → Option (D × Env) | (y, ρ) => (opD o x y).map (kP ρ)
def kBin (cf : Fns) (gl : Nat → Option D) (o : BinO) (b : E) : D × Env → Option (D × Env) | (x, ρ) => ((ev cf gl b).v ρ).bind (kBin2 o x)
def kNeg : D × Env → Option (D × Env) | (d, ρ) => (isI d).map (kPI ρ)
def kCmpB (o : CmpO) (x : D) : D × Env → Option (D × Env) | (y, ρ) => (cmpD o x y).map (kP ρ)
def kCmp (cf : Fns) (gl : Nat → Option D) (o : CmpO) (b : E) : D × Env → Option (D × Env) | (x, ρ) => ((ev cf gl b).v ρ).bind (kCmpB o x)
def kChA (cf : Fns) (gl : Nat → Option D) (p : CmpO) (c : E) (y : D) (ρ : Env) : Bool → Option (D × Env)
  | true => ((ev cf gl c).v ρ).bind (kCmpB p y)
  | false => some (.bl false, ρ)
def kCh2 (cf : Fns) (gl : Nat → Option D) (o p : CmpO) (c : E) (x : D) : D × Env → Option (D × Env) | (y, ρ) => ((cmpD o x y).bind isB).bind (kChA cf gl p c y ρ)
def kCh (cf : Fns) (gl : Nat → Option D) (o p : CmpO) (b c : E) : D × Env → Option (D × Env) | (x, ρ) => ((ev cf gl b).v ρ).bind (kCh2 cf gl o p c x)
def kAnd2 (cf : Fns) (gl : Nat → Option D) (b : E) (ρ : Env) : Bool → Option (D × Env)
  | true => (ev cf gl b).v ρ
  | false => some (.bl false, ρ)
def kAnd (cf : Fns) (gl : Nat → Option D) (b : E) : D × Env → Option (D × Env) | (x, ρ) => (isB x).bind (kAnd2 cf gl b ρ)
def kOr2 (cf : Fns) (gl : Nat → Option D) (b : E) (ρ : Env) : Bool → Option (D × Env)
  | true => some (.bl true, ρ)
  | false => (ev cf gl b).v ρ
def kOr (cf : Fns) (gl : Nat → Option D) (b : E) : D × Env → Option (D × Env) | (x, ρ) => (isB x).bind (kOr2 cf gl b ρ)
def kNot : D × Env → Option (D × Env) | (x, ρ) => (truD x).map (kPN ρ)
def kIte (cf : Fns) (gl : Nat → Option D) (a b : E) : Bool × Env → Option (D × Env)
  | (true, ρ) => (ev cf gl a).v ρ
  | (false, ρ) => (ev cf gl b).v ρ
def kTup : List D × Env → D × Env | (ds, ρ) => (.tup ds, ρ)
def kLst : List D × Env → D × Env | (ds, ρ) => (.lst ds, ρ)
def kIdx2 (x : D) : D × Env → Option (D × Env) | (y, ρ) => (idxD x y).map (kP ρ)
def kIdx (cf : Fns) (gl : Nat → Option D) (b : E) : D × Env → Option (D × Env) | (x, ρ) => ((ev cf gl b).v ρ).bind (kIdx2 x)
def kSl3 (x : D) (l : Option Int) : Option Int × Env → Option (D × Env) | (h, ρ) => (slcD x l h).map (kP ρ)
def kSl2 (cf : Fns) (gl : Nat → Option D) (hi : Option E) (x : D) : Option Int × Env → Option (D × Env) | (l, ρ) => (evo cf gl hi ρ).bind (kSl3 x l)
def kSl (cf : Fns) (gl : Nat → Option D) (lo hi : Option E) : D × Env → Option (D × Env) | (x, ρ) => (evo cf gl lo ρ).bind (kSl2 cf gl hi x)
def kRev : D × Env → Option (D × Env) | (x, ρ) => (revD x).map (kP ρ)
def kFn (b : Bi) : List D × Env → Option (D × Env) | (ds, ρ) => (fnD b ds).map (kP ρ)
def kIsi (t : Ty) : D × Env → Option (D × Env) | (x, ρ) => (isiD x t).map (kPB ρ)
def kMth2 (m : Mt) (x : D) : List D × Env → Option (D × Env) | (ds, ρ) => (mthD m x ds).map (kP ρ)
def kMth (cf : Fns) (gl : Nat → Option D) (m : Mt) (es : List E) : D × Env → Option (D × Env) | (x, ρ) => (evs cf gl es ρ).bind (kMth2 m x)
def kMu3 (i : Nat) (ρ : Env) : D × D → D × Env | (r, d') => (r, ρ.set i (some d'))
def kMu2 (m : Mu) (i : Nat) (ds : List D) (ρ : Env) (d : D) : Option (D × Env) := (mutD m d ds).map (kMu3 i ρ)
def kMu1 (m : Mu) (i : Nat) : List D × Env → Option (D × Env) | (ds, ρ) => (getS ρ i).bind (kMu2 m i ds ρ)
def kMu (cf : Fns) (gl : Nat → Option D) (m : Mu) (i : Nat) (es : List E) (ρ : Env) : Unit → Option (D × Env) | _ => (evs cf gl es ρ).bind (kMu1 m i)
def kCa3 (d : D) (ρ : Env) : D × Env := (d, ρ)
def kCa2 (bk : List (Option Nat)) (ρ : Env) : D × Env → Option (D × Env) | (d, o) => (backs bk o ρ).map (kCa3 d)
def kCa (cf : Fns) (f : Nat) (bk : List (Option Nat)) : List D × Env → Option (D × Env) | (ds, ρ) => (cf f ds).bind (kCa2 bk ρ)
def kLc2 (x : Tg) (ρ1 : Env) : List D × Env → D × Env | (ys, ρ2) => (.lst ys, restE ρ1 ρ2 (slotsT x))
def lcK (o : Option D) : D × Env → Option D × Env | (y, ρ) => (some y, ρ)
def lcT (cf : Fns) (gl : Nat → Option D) (elt : E) : Bool × Env → Option (Option D × Env)
  | (true, ρ) => ((ev cf gl elt).v ρ).map (lcK none)
  | (false, ρ) => some (none, ρ)
def lcC (cf : Fns) (gl : Nat → Option D) (c : Option E) (elt : E) (ρ : Env) : Option (Option D × Env) := (evc cf gl c ρ).bind (lcT cf gl elt)
def lcF (cf : Fns) (gl : Nat → Option D) (x : Tg) (c : Option E) (elt : E) (d : D) (ρ : Env) : Option (Option D × Env) := (bindT x d (wipeE ρ (slotsT x))).bind (lcC cf gl c elt)
def kLc (cf : Fns) (gl : Nat → Option D) (x : Tg) (c : Option E) (elt : E) : List D × Env → Option (D × Env) | (xs, ρ) => (lcL (lcF cf gl x c elt) xs ρ []).map (kLc2 x ρ)
def kGe2 (x : Tg) (ρ1 : Env) : Bool × Env → D × Env | (b, ρ2) => (.bl b, restE ρ1 ρ2 (slotsT x))
def gnY (ρ : Env) (b : Bool) : Option Bool × Env := (some b, ρ)
def gnK : D × Env → Option (Option Bool × Env) | (y, ρ) => (isB y).map (gnY ρ)
def gnT (cf : Fns) (gl : Nat → Option D) (elt : E) : Bool × Env → Option (Option Bool × Env)
  | (true, ρ) => ((ev cf gl elt).v ρ).bind gnK
  | (false, ρ) => some (none, ρ)
def gnC (cf : Fns) (gl : Nat → Option D) (c : Option E) (elt : E) (ρ : Env) : Option (Option Bool × Env) := (evc cf gl c ρ).bind (gnT cf gl elt)
def gnF (cf : Fns) (gl : Nat → Option D) (x : Tg) (c : Option E) (elt : E) (d : D) (ρ : Env) : Option (Option Bool × Env) := (bindT x d (wipeE ρ (slotsT x))).bind (gnC cf gl c elt)
def kGe (cf : Fns) (gl : Nat → Option D) (k : Bool) (x : Tg) (c : Option E) (elt : E) : List D × Env → Option (D × Env) | (xs, ρ) => (geL k (gnF cf gl x c elt) xs ρ).map (kGe2 x ρ)
def kLof (b : Bi) : List D × Env → Option (D × Env) | (xs, ρ) => (lofD b xs).map (kP ρ)
def kT : D × Env → Option (Bool × Env) | (d, ρ) => (truD d).map (kPT ρ)
def kAndT (cf : Fns) (gl : Nat → Option D) (b : E) : Bool × Env → Option (Bool × Env)
  | (true, ρ) => (ev cf gl b).t ρ
  | (false, ρ) => some (false, ρ)
def kOrT (cf : Fns) (gl : Nat → Option D) (b : E) : Bool × Env → Option (Bool × Env)
  | (true, ρ) => some (true, ρ)
  | (false, ρ) => (ev cf gl b).t ρ
def kNotT : Bool × Env → Bool × Env | (b, ρ) => (!b, ρ)
def kI : D × Env → Option (List D × Env) | (d, ρ) => (walkedD d).map (kPL ρ)
def kCk : List D × Env → Option (List D × Env) | (xs, ρ) => if D.pures xs then some (xs, ρ) else none
def kR1 : D × Env → Option (List D × Env) | (x, ρ) => (rng1D x).map (kPL ρ)
def kR2b (x : D) : D × Env → Option (List D × Env) | (y, ρ) => (rng2D x y).map (kPL ρ)
def kR2 (cf : Fns) (gl : Nat → Option D) (b : E) : D × Env → Option (List D × Env) | (x, ρ) => ((ev cf gl b).v ρ).bind (kR2b x)
def kR3c (x y : D) : D × Env → Option (List D × Env) | (z, ρ) => (rng3D x y z).map (kPL ρ)
def kR3b (cf : Fns) (gl : Nat → Option D) (c : E) (x : D) : D × Env → Option (List D × Env) | (y, ρ) => ((ev cf gl c).v ρ).bind (kR3c x y)
def kR3 (cf : Fns) (gl : Nat → Option D) (b c : E) : D × Env → Option (List D × Env) | (x, ρ) => ((ev cf gl b).v ρ).bind (kR3b cf gl c x)
def kEn : D × Env → Option (List D × Env) | (x, ρ) => (items x).map (kPE ρ)
def kZp2 (x : D) : D × Env → Option (List D × Env) | (y, ρ) => (items2 x y).map (kPZ ρ)
def kZp (cf : Fns) (gl : Nat → Option D) (b : E) : D × Env → Option (List D × Env) | (x, ρ) => ((ev cf gl b).v ρ).bind (kZp2 x)
def kRv : D × Env → Option (List D × Env) | (x, ρ) => (items x).map (kPV ρ)
def kA2 (d : D) : List D × Env → List D × Env | (ds, ρ) => (d :: ds, ρ)
def kA (cf : Fns) (gl : Nat → Option D) (es : List E) : D × Env → Option (List D × Env) | (d, ρ) => (evs cf gl es ρ).map (kA2 d)
def kO : D × Env → Option (Option Int × Env) | (d, ρ) => (isI d).map (kPO ρ)
/-! values -/
theorem v_lit : (ev cf gl (.lit d)).v ρ = some (d, ρ) := rfl
theorem v_var {i : Nat} : (ev cf gl (.var i)).v ρ = (getS ρ i).map (kP ρ) := rfl
theorem v_mov {i : Nat} : (ev cf gl (.mov i)).v ρ = (getS ρ i).map (kM i ρ) := rfl
theorem v_own {e : E} : (ev cf gl (.own e)).v ρ = ((ev cf gl e).v ρ).bind kOwn := rfl
theorem v_chk {e : E} : (ev cf gl (.chk e)).v ρ = ((ev cf gl e).v ρ).bind kChk := rfl
theorem v_bin {o : BinO} {a b : E} : (ev cf gl (.bin o a b)).v ρ = ((ev cf gl a).v ρ).bind (kBin cf gl o b) := rfl
theorem v_neg {a : E} : (ev cf gl (.neg a)).v ρ = ((ev cf gl a).v ρ).bind kNeg := rfl
theorem v_cmp {o : CmpO} {a b : E} : (ev cf gl (.cmp o a b)).v ρ = ((ev cf gl a).v ρ).bind (kCmp cf gl o b) := rfl
theorem v_cmp2 {o p : CmpO} {a b c : E} : (ev cf gl (.cmp2 o p a b c)).v ρ = ((ev cf gl a).v ρ).bind (kCh cf gl o p b c) := by
  show ((ev cf gl a).v ρ).bind _ = _
  congr 1; funext p1; obtain ⟨x, ρ1⟩ := p1
  show ((ev cf gl b).v ρ1).bind _ = ((ev cf gl b).v ρ1).bind _
  congr 1; funext p2; obtain ⟨y, ρ2⟩ := p2
  show ((cmpD o x y).bind isB).bind _ = ((cmpD o x y).bind isB).bind _
  congr 1; funext t; cases t <;> rfl
theorem v_band {a b : E} : (ev cf gl (.band a b)).v ρ = ((ev cf gl a).v ρ).bind (kAnd cf gl b) := by
  show ((ev cf gl a).v ρ).bind _ = _
  congr 1; funext p1; obtain ⟨x, ρ1⟩ := p1
  show (isB x).bind _ = (isB x).bind _
  congr 1; funext t; cases t <;> rfl
theorem v_bor {a b : E} : (ev cf gl (.bor a b)).v ρ = ((ev cf gl a).v ρ).bind (kOr cf gl b) := by
  show ((ev cf gl a).v ρ).bind _ = _
  congr 1; funext p1; obtain ⟨x, ρ1⟩ := p1
  show (isB x).bind _ = (isB x).bind _
  congr 1; funext t; cases t <;> rfl
theorem v_bnot {a : E} : (ev cf gl (.bnot a)).v ρ = ((ev cf gl a).v ρ).bind kNot := rfl
theorem v_ite {c a b : E} : (ev cf gl (.ite c a b)).v ρ = ((ev cf gl c).t ρ).bind (kIte cf gl a b) := by
  show ((ev cf gl c).t ρ).bind _ = _
  congr 1; funext p1; obtain ⟨t, ρ1⟩ := p1; cases t <;> rfl
theorem v_tup {es : List E} : (ev cf gl (.tup es)).v ρ = (evs cf gl es ρ).map kTup := rfl
theorem v_lst {es : List E} : (ev cf gl (.lst es)).v ρ = (evs cf gl es ρ).map kLst := rfl
theorem v_dct : (ev cf gl .dct0).v ρ = some (.dct [] [], ρ) := rfl
theorem v_idx {a b : E} : (ev cf gl (.idx a b)).v ρ = ((ev cf gl a).v ρ).bind (kIdx cf gl b) := rfl
theorem v_slc {a : E} {lo hi : Option E} : (ev cf gl (.slc a lo hi)).v ρ = ((ev cf gl a).v ρ).bind (kSl cf gl lo hi) := rfl
theorem v_rev {a : E} : (ev cf gl (.rev a)).v ρ = ((ev cf gl a).v ρ).bind kRev := rfl
theorem v_fn {b : Bi} {es : List E} : (ev cf gl (.fn b es)).v ρ = (evs cf gl es ρ).bind (kFn b) := rfl
theorem v_isi {a : E} {t : Ty} : (ev cf gl (.isi a t)).v ρ = ((ev cf gl a).v ρ).bind (kIsi t) := rfl
theorem v_mth {m : Mt} {o : E} {es : List E} : (ev cf gl (.mth m o es)).v ρ = ((ev cf gl o).v ρ).bind (kMth cf gl m es) := rfl
theorem v_mut {m : Mu} {i : Nat} {es : List E} : (ev cf gl (.mut m i es)).v ρ = ((getS ρ i).bind isL).bind (kMu cf gl m i es ρ) := rfl
theorem v_call {f : Nat} {es : List E} {bk : List (Option Nat)} : (ev cf gl (.call f es bk)).v ρ = (evs cf gl es ρ).bind (kCa cf f bk) := rfl
theorem v_lc {elt it : E} {x : Tg} {c : Option E} : (ev cf gl (.lc elt x it c)).v ρ = ((ev cf gl it).i ρ).bind (kLc cf gl x c elt) := by
  show ((ev cf gl it).i ρ).bind _ = _
  congr 1; funext p1; obtain ⟨xs, ρ1⟩ := p1
  have e : (fun (d : D) (ρ : Env) => (bindT x d (wipeE ρ (slotsT x))).bind fun ρ1 => (evc cf gl c ρ1).bind fun (b, ρ2) => if b then ((ev cf gl elt).v ρ2).map fun (y, ρ3) => (some y, ρ3) else some (none, ρ2)) = lcF cf gl x c elt := by
    funext d ρ
    show (bindT x d (wipeE ρ (slotsT x))).bind _ = (bindT x d (wipeE ρ (slotsT x))).bind _
    congr 1; funext ρ1
    show (evc cf gl c ρ1).bind _ = (evc cf gl c ρ1).bind _
    congr 1; funext p2; obtain ⟨t, ρ2⟩ := p2; cases t <;> rfl
  show (lcL _ xs ρ1 []).map _ = (lcL (lcF cf gl x c elt) xs ρ1 []).map _
  rw [← e]; rfl
theorem v_ge {k : Bool} {elt it : E} {x : Tg} {c : Option E} : (ev cf gl (.ge k elt x it c)).v ρ = ((ev cf gl it).i ρ).bind (kGe cf gl k x c elt) := by
  show ((ev cf gl it).i ρ).bind _ = _
  congr 1; funext p1; obtain ⟨xs, ρ1⟩ := p1
  have e : (fun (d : D) (ρ : Env) => (bindT x d (wipeE ρ (slotsT x))).bind fun ρ1 => (evc cf gl c ρ1).bind fun (b, ρ2) => if b then ((ev cf gl elt).v ρ2).bind fun (y, ρ3) => (isB y).map fun y => (some y, ρ3) else some (none, ρ2)) = gnF cf gl x c elt := by
    funext d ρ
    show (bindT x d (wipeE ρ (slotsT x))).bind _ = (bindT x d (wipeE ρ (slotsT x))).bind _
    congr 1; funext ρ1
    show (evc cf gl c ρ1).bind _ = (evc cf gl c ρ1).bind _
    congr 1; funext p2; obtain ⟨t, ρ2⟩ := p2; cases t <;> rfl
  show (geL k _ xs ρ1).map _ = (geL k (gnF cf gl x c elt) xs ρ1).map _
  rw [← e]; rfl
theorem v_lof {b : Bi} {it : E} : (ev cf gl (.lof b it)).v ρ = ((ev cf gl it).i ρ).bind (kLof b) := rfl
/-! tests -/
theorem t_lit : (ev cf gl (.lit d)).t ρ = ((ev cf gl (.lit d)).v ρ).bind kT := rfl
theorem t_var {i : Nat} : (ev cf gl (.var i)).t ρ = ((ev cf gl (.var i)).v ρ).bind kT := rfl
theorem t_cmp {o : CmpO} {a b : E} : (ev cf gl (.cmp o a b)).t ρ = ((ev cf gl (.cmp o a b)).v ρ).bind kT := rfl
theorem t_cmp2 {o p : CmpO} {a b c : E} : (ev cf gl (.cmp2 o p a b c)).t ρ = ((ev cf gl (.cmp2 o p a b c)).v ρ).bind kT := rfl
theorem t_bin {o : BinO} {a b : E} : (ev cf gl (.bin o a b)).t ρ = ((ev cf gl (.bin o a b)).v ρ).bind kT := rfl
theorem t_idx {a b : E} : (ev cf gl (.idx a b)).t ρ = ((ev cf gl (.idx a b)).v ρ).bind kT := rfl
theorem t_fn {b : Bi} {es : List E} : (ev cf gl (.fn b es)).t ρ = ((ev cf gl (.fn b es)).v ρ).bind kT := rfl
theorem t_isi {a : E} {t : Ty} : (ev cf gl (.isi a t)).t ρ = ((ev cf gl (.isi a t)).v ρ).bind kT := rfl
theorem t_call {f : Nat} {es : List E} {bk : List (Option Nat)} : (ev cf gl (.call f es bk)).t ρ = ((ev cf gl (.call f es bk)).v ρ).bind kT := rfl
theorem t_ge {k : Bool} {elt it : E} {x : Tg} {c : Option E} : (ev cf gl (.ge k elt x it c)).t ρ = ((ev cf gl (.ge k elt x it c)).v ρ).bind kT := rfl
theorem t_slc {a : E} {lo hi : Option E} : (ev cf gl (.slc a lo hi)).t ρ = ((ev cf gl (.slc a lo hi)).v ρ).bind kT := rfl
theorem t_mth {m : Mt} {o : E} {es : List E} : (ev cf gl (.mth m o es)).t ρ = ((ev cf gl (.mth m o es)).v ρ).bind kT := rfl
theorem t_band {a b : E} : (ev cf gl (.band a b)).t ρ = ((ev cf gl a).t ρ).bind (kAndT cf gl b) := by
  show ((ev cf gl a).t ρ).bind _ = _
  congr 1; funext p1; obtain ⟨t, ρ1⟩ := p1; cases t <;> rfl
theorem t_bor {a b : E} : (ev cf gl (.bor a b)).t ρ = ((ev cf gl a).t ρ).bind (kOrT cf gl b) := by
  show ((ev cf gl a).t ρ).bind _ = _
  congr 1; funext p1; obtain ⟨t, ρ1⟩ := p1; cases t <;> rfl
theorem t_bnot {a : E} : (ev cf gl (.bnot a)).t ρ = ((ev cf gl a).t ρ).map kNotT := rfl
/-! what is walked -/
theorem i_var {i : Nat} : (ev cf gl (.var i)).i ρ = ((ev cf gl (.var i)).v ρ).bind kI := rfl
theorem i_call {f : Nat} {es : List E} {bk : List (Option Nat)} : (ev cf gl (.call f es bk)).i ρ = ((ev cf gl (.call f es bk)).v ρ).bind kI := rfl
theorem i_idx {a b : E} : (ev cf gl (.idx a b)).i ρ = ((ev cf gl (.idx a b)).v ρ).bind kI := rfl
theorem i_bin {o : BinO} {a b : E} : (ev cf gl (.bin o a b)).i ρ = ((ev cf gl (.bin o a b)).v ρ).bind kI := rfl
theorem i_fn {b : Bi} {es : List E} : (ev cf gl (.fn b es)).i ρ = ((ev cf gl (.fn b es)).v ρ).bind kI := rfl
theorem i_tup {es : List E} : (ev cf gl (.tup es)).i ρ = ((ev cf gl (.tup es)).v ρ).bind kI := rfl
theorem i_lst {es : List E} : (ev cf gl (.lst es)).i ρ = ((ev cf gl (.lst es)).v ρ).bind kI := rfl
theorem i_slc {a : E} {lo hi : Option E} : (ev cf gl (.slc a lo hi)).i ρ = ((ev cf gl (.slc a lo hi)).v ρ).bind kI := rfl
theorem i_lce {elt it : E} {x : Tg} {c : Option E} : (ev cf gl (.lc elt x it c)).i ρ = ((ev cf gl (.lc elt x it c)).v ρ).bind kI := rfl
theorem i_ck {e : E} : (ev cf gl (.ichk e)).i ρ = ((ev cf gl e).i ρ).bind kCk := rfl
theorem i_r1 {a : E} : (ev cf gl (.irng1 a)).i ρ = ((ev cf gl a).v ρ).bind kR1 := rfl
theorem i_r2 {a b : E} : (ev cf gl (.irng2 a b)).i ρ = ((ev cf gl a).v ρ).bind (kR2 cf gl b) := rfl
theorem i_r3 {a b c : E} : (ev cf gl (.irng3 a b c)).i ρ = ((ev cf gl a).v ρ).bind (kR3 cf gl b c) := rfl
theorem i_en {e : E} : (ev cf gl (.ienum e)).i ρ = ((ev cf gl e).v ρ).bind kEn := rfl
theorem i_zp {a b : E} : (ev cf gl (.izip a b)).i ρ = ((ev cf gl a).v ρ).bind (kZp cf gl b) := rfl
theorem i_rv {e : E} : (ev cf gl (.irev e)).i ρ = ((ev cf gl e).v ρ).bind kRv := rfl
theorem a_nil : evs cf gl [] ρ = some ([], ρ) := rfl
theorem a_cons {e : E} {es : List E} : evs cf gl (e :: es) ρ = ((ev cf gl e).v ρ).bind (kA cf gl es) := rfl
theorem o_none : evo cf gl none ρ = some (none, ρ) := rfl
theorem o_some {e : E} : evo cf gl (some e) ρ = ((ev cf gl e).v ρ).bind kO := rfl
theorem c_none : evc cf gl none ρ = some (true, ρ) := rfl
theorem c_some {e : E} : evc cf gl (some e) ρ = (ev cf gl e).t ρ := rfl
/-! statements -/
def forF (cf : Fns) (gl : Nat → Option D) (w : Nat) (x : Tg) (b : List S) (d : D) (ρ : Env) : Option Out := (bindT x d ρ).bind (execSs cf gl w b)
def thenS (cf : Fns) (gl : Nat → Option D) (w : Nat) (r : List S) : Out → Option Out
  | .nx ρ => execSs cf gl w r ρ
  | .bk ρ => some (.bk ρ)
  | .ct ρ => some (.ct ρ)
  | .rt d ρ => some (.rt d ρ)
def kSet (t : Tg) : D × Env → Option Out | (d, ρ) => (bindT t d ρ).map .nx
def kNx : D × Env → Out | (_, ρ) => .nx ρ
def kRt : D × Env → Out | (d, ρ) => .rt d ρ
def kSt (i : Nat) (ρ : Env) (d : D) : Out := .nx (ρ.set i (some d))
def kAu2 (i : Nat) (o : BinO) (x : D) : D × Env → Option Out | (y, ρ) => (augD o x y).map (kSt i ρ)
def kAu (cf : Fns) (gl : Nat → Option D) (i : Nat) (o : BinO) (e : E) (ρ : Env) (x : D) : Option Out := ((ev cf gl e).v ρ).bind (kAu2 i o x)
def kPu3 (i : Nat) (kd v : D) (ρ : Env) (d : D) : Option Out := (putAt d kd v).map (kSt i ρ)
def kPu2 (i : Nat) (v : D) : D × Env → Option Out | (kd, ρ) => (getS ρ i).bind (kPu3 i kd v ρ)
def kPu1 (cf : Fns) (gl : Nat → Option D) (i : Nat) (k : E) (v : D) (ρ : Env) (_ : D) : Option Out := ((ev cf gl k).v ρ).bind (kPu2 i v)
def kPu (cf : Fns) (gl : Nat → Option D) (i : Nat) (k : E) : D × Env → Option Out | (v, ρ) => (getS ρ i).bind (kPu1 cf gl i k v ρ)
def kIf (cf : Fns) (gl : Nat → Option D) (w : Nat) (t f : List S) : Bool × Env → Option Out
  | (true, ρ) => execSs cf gl w t ρ
  | (false, ρ) => execSs cf gl w f ρ
def kFor (cf : Fns) (gl : Nat → Option D) (w : Nat) (x : Tg) (b : List S) : List D × Env → Option Out | (xs, ρ) => forL (forF cf gl w x b) xs ρ
theorem s_nil : execSs cf gl w [] ρ = some (.nx ρ) := rfl
theorem s_cons {s : S} {r : List S} : execSs cf gl w (s :: r) ρ = (execS cf gl w s ρ).bind (thenS cf gl w r) := by
  show (execS cf gl w s ρ).bind _ = _
  congr 1
theorem x_set {t : Tg} {e : E} : execS cf gl w (.set t e) ρ = ((ev cf gl e).v ρ).bind (kSet t) := rfl
theorem x_aug {i : Nat} {o : BinO} {e : E} : execS cf gl w (.aug i o e) ρ = (getS ρ i).bind (kAu cf gl i o e ρ) := rfl
theorem x_put {i : Nat} {k e : E} : execS cf gl w (.put i k e) ρ = ((ev cf gl e).v ρ).bind (kPu cf gl i k) := rfl
theorem x_ex {e : E} : execS cf gl w (.ex e) ρ = ((ev cf gl e).v ρ).map kNx := rfl
theorem x_ret {e : E} : execS cf gl w (.ret e) ρ = ((ev cf gl e).v ρ).map kRt := rfl
theorem x_ret0 : execS cf gl w .ret0 ρ = some (.rt .non ρ) := rfl
theorem x_iff {c : E} {t f : List S} : execS cf gl w (.iff c t f) ρ = ((ev cf gl c).t ρ).bind (kIf cf gl w t f) := by
  show ((ev cf gl c).t ρ).bind _ = _
  congr 1; funext p1; obtain ⟨t, ρ1⟩ := p1; cases t <;> rfl
theorem x_whl {c : E} {b : List S} : execS cf gl w (.whl c b) ρ = whlL (ev cf gl c).t (execSs cf gl w b) w ρ := rfl
theorem x_for {x : Tg} {it : E} {b : List S} : execS cf gl w (.for_ x it b) ρ = ((ev cf gl it).i ρ).bind (kFor cf gl w x b) := rfl
theorem x_brk : execS cf gl w .brk ρ = some (.bk ρ) := rfl
theorem x_cnt : execS cf gl w .cnt ρ = some (.ct ρ) := rfl
theorem x_pas : execS cf gl w .pas ρ = some (.nx ρ) := rfl
theorem x_doc : execS cf gl w .doc ρ = some (.nx ρ) := rfl
theorem b_nm {i : Nat} : bindT (.nm i) d ρ = some (ρ.set i (some d)) := rfl
theorem b_tup {ts : List Tg} {ds : List D} : bindT (.tup ts) (.tup ds) ρ = bindTs ts ds ρ := rfl
theorem b_lst {ts : List Tg} {ds : List D} : bindT (.tup ts) (.lst ds) ρ = bindTs ts ds ρ := rfl
theorem b_nil : bindTs [] [] ρ = some ρ := rfl
def kBt (ts : List Tg) (ds : List D) (ρ : Env) : Option Env := bindTs ts ds ρ
theorem b_cons {t : Tg} {ts : List Tg} {ds : List D} : bindTs (t :: ts) (d :: ds) ρ = (bindT t d ρ).bind (kBt ts ds) := rfl
theorem k_nil {o : Env} : backs [] o ρ = some ρ := rfl
theorem k_none {r : List (Option Nat)} {o : Env} : backs (none :: r) o ρ = backs r o.tail ρ := rfl
end
end Vi

set_option Elab.async false
set_option linter.all false
set_option maxRecDepth 100000
set_option maxHeartbeats 4000000
/-! Operators, one equation a case; loops by invariants. -/
namespace Vi
open PySem L2

section
variable {i j : Int} {x y : D} {xs ys ks vs : List D} {ns : List Int} {s s' : Str} {a b : Bool}
theorem p_add : opD .add (.int i) (.int j) = some (.int (i + j)) := rfl
theorem p_sub : opD .sub (.int i) (.int j) = some (.int (i - j)) := rfl
theorem p_mul : opD .mul (.int i) (.int j) = if mulOk i j then some (.int (i * j)) else none := rfl
theorem p_fdiv : opD .fdiv (.int i) (.int j) = if j ≠ 0 ∧ j.natAbs < 1073741824 then some (.int (i.fdiv j)) else if j ≠ 0 ∧ j.natAbs < 18446744073709551616 then some (.int (i.fdiv j)) else none := rfl
theorem p_mod : opD .mod (.int i) (.int j) = if j ≠ 0 then some (.int (i.fmod j)) else none := rfl
theorem p_pow : opD .pow (.int i) (.int j) = if 0 ≤ j ∧ j ≤ 1000000 ∧ i.natAbs < 18446744073709551616 then some (.int (i ^ j.toNat)) else none := rfl
theorem p_addL : opD .add (.lst xs) (.lst ys) = if catLen xs ys then some (.lst (xs ++ ys)) else none := rfl
theorem p_addT : opD .add (.tup xs) (.tup ys) = if catLen xs ys then some (.tup (xs ++ ys)) else none := rfl
theorem p_mulL : opD .mul (.lst xs) (.int i) = if repOk i xs then some (.lst (rep i xs)) else none := rfl
theorem q_lt : cmpD .lt (.int i) (.int j) = some (.bl (decide (i < j))) := rfl
theorem q_le : cmpD .le (.int i) (.int j) = some (.bl (decide (i ≤ j))) := rfl
theorem q_gt : cmpD .gt (.int i) (.int j) = some (.bl (decide (j < i))) := rfl
theorem q_ge : cmpD .ge (.int i) (.int j) = some (.bl (decide (j ≤ i))) := rfl
theorem q_eq : cmpD .eq (.int i) (.int j) = some (.bl (i == j)) := rfl
theorem q_ne : cmpD .ne (.int i) (.int j) = some (.bl (!(i == j))) := rfl
theorem q_eqT : cmpD .eq (.tup xs) y = if shp 64 (.tup xs) && shp 64 y then some (.bl (eqD (.tup xs) y)) else none := rfl
theorem q_neT : cmpD .ne (.tup xs) y = if shp 64 (.tup xs) && shp 64 y then some (.bl (!eqD (.tup xs) y)) else none := rfl
theorem q_eqL : cmpD .eq (.lst xs) y = if shp 64 (.lst xs) && shp 64 y then some (.bl (eqD (.lst xs) y)) else none := rfl
theorem q_neL : cmpD .ne (.lst xs) y = if shp 64 (.lst xs) && shp 64 y then some (.bl (!eqD (.lst xs) y)) else none := rfl
theorem q_eqB : cmpD .eq (.bl a) y = if shp 64 (.bl a) && shp 64 y then some (.bl (eqD (.bl a) y)) else none := rfl
theorem q_eqS : cmpD .eq (.str s) y = if shp 64 (.str s) && shp 64 y then some (.bl (eqD (.str s) y)) else none := rfl
theorem q_is : cmpD .is x .non = some (.bl (isNon x)) := by cases x <;> rfl
theorem q_isnot : cmpD .isnot x .non = some (.bl (!isNon x)) := by cases x <;> rfl
theorem q_inL : cmpD .inn x (.lst ys) = if shp 63 x && shps 63 ys then some (.bl (memD x ys)) else none := by cases x <;> rfl
theorem q_niL : cmpD .notin x (.lst ys) = if shp 63 x && shps 63 ys then some (.bl (!memD x ys)) else none := by cases x <;> rfl
theorem q_inT : cmpD .inn x (.tup ys) = if shp 63 x && shps 63 ys then some (.bl (memD x ys)) else none := by cases x <;> rfl
theorem q_niT : cmpD .notin x (.tup ys) = if shp 63 x && shps 63 ys then some (.bl (!memD x ys)) else none := by cases x <;> rfl
theorem u_non : truD .non = some false := rfl
theorem u_bl : truD (.bl b) = some b := rfl
theorem u_int : truD (.int i) = some (i != 0) := rfl
theorem u_lst : truD (.lst xs) = some (!xs.isEmpty) := rfl
theorem u_tup : truD (.tup xs) = some (!xs.isEmpty) := rfl
theorem d_L : idxD (.lst xs) (.int i) = (ixn xs.length i).bind (xs[·]?) := rfl
theorem d_G : idxD (.scr ns) (.int i) = (ixn ns.length i).bind fun j => (ns[j]?).map D.int := rfl
theorem d_T : idxD (.tup xs) (.int i) = (ixn xs.length i).bind (xs[·]?) := rfl
theorem n_n : isNon .non = true := rfl
theorem n_i : isNon (.int i) = false := rfl
theorem n_b : isNon (.bl b) = false := rfl
theorem n_s : isNon (.str s) = false := rfl
theorem n_t : isNon (.tup xs) = false := rfl
theorem n_l : isNon (.lst xs) = false := rfl
theorem l_lenL : fnD .len [.lst xs] = some (.int xs.length) := rfl
theorem l_lenT : fnD .len [.tup xs] = some (.int xs.length) := rfl
theorem l_lenS : fnD .len [.scr ns] = some (.int ns.length) := rfl
theorem l_abs : fnD .abs [.int i] = some (.int (if i < 0 then -i else i)) := rfl
theorem l_int : fnD .int [.int i] = some (.int i) := rfl
theorem l_min : fnD .min [.int i, .int j] = some (.int (if j < i then j else i)) := rfl
theorem l_max : fnD .max [.int i, .int j] = some (.int (if j > i then j else i)) := rfl
theorem l_tupL : fnD .tuple [.lst xs] = some (.tup xs) := rfl
theorem l_tupT : fnD .tuple [.tup xs] = some (.tup xs) := rfl
theorem l_lstL : fnD .list [.lst xs] = some (.lst xs) := rfl
theorem l_lstT : fnD .list [.tup xs] = some (.lst xs) := rfl
theorem l_minL : fnD .min [.lst xs] = (tupInts xs).bind minL := rfl
theorem l_maxL : fnD .max [.lst xs] = (tupInts xs).bind maxL := rfl
theorem au_add : augD .add (.int i) (.int j) = some (.int (i + j)) := rfl
theorem au_sub : augD .sub (.int i) (.int j) = some (.int (i - j)) := rfl
theorem au_str : augD .add (.str s) (.str s') = if s.length + s'.length ≤ sz then some (.str (s ++ s')) else none := rfl
theorem l_all : fnD .all [.lst xs] = (boolsD xs).map fun bs => .bl (bs.all id) := rfl
theorem l_any : fnD .any [.lst xs] = (boolsD xs).map fun bs => .bl (bs.any id) := rfl
theorem l_sum : fnD .sum [x] = (items x).bind fun xs => (tupInts xs).map fun ns => .int ns.sum := by cases x <;> rfl
theorem l_srtL : fnD .sorted [.lst xs] = sortD xs := rfl
theorem l_srtT : fnD .sorted [.tup xs] = (tupInts xs).map fun ns => .lst ((sortI ns).map D.int) := rfl
theorem w_ints : ∀ ns : List Int, tupInts (ns.map D.int) = some ns
  | [] => rfl
  | n :: r => by simp [tupInts, w_ints r]
theorem w_pures : ∀ ns : List Int, D.pures (ns.map D.int) = true
  | [] => rfl
  | n :: r => by simp [D.pures, D.pure, w_pures r]
theorem w_bools : ∀ bs : List Bool, boolsD (bs.map D.bl) = some bs
  | [] => rfl
  | n :: r => by simp [boolsD, w_bools r]
theorem w_sort : sortD (ns.map D.int) = some (.lst ((sortI ns).map D.int)) := by simp only [sortD, w_ints]
theorem w_shps : ∀ (n : Nat) (ns : List Int), shps n (ns.map D.int) = true
  | n, [] => by cases n <;> rfl
  | n, x :: r => by
    have := w_shps n r
    cases n <;> simp [shps, shp, this]
theorem w_shpI (n : Nat) : shp n (.int i) = true := by cases n <;> rfl
theorem w_shpB (n : Nat) : shp n (.bl b) = true := by cases n <;> rfl
theorem w_shpN (n : Nat) : shp n .non = true := by cases n <;> rfl
theorem w_shpT (n : Nat) (ns : List Int) : shp (n + 1) (.tup (ns.map D.int)) = true := w_shps n ns
theorem w_shpL (n : Nat) (ns : List Int) : shp (n + 1) (.lst (ns.map D.int)) = true := w_shps n ns
theorem w_eqs : ∀ ms ns : List Int, eqDs (ms.map D.int) (ns.map D.int) = decide (ms = ns)
  | [], [] => rfl
  | [], _ :: _ => rfl
  | _ :: _, [] => rfl
  | a :: r, b :: s => by
    simp only [List.map_cons, eqDs, eqD, w_eqs r s, List.cons.injEq]
    by_cases h : a = b <;> simp [h]
theorem w_eqT (ms ns : List Int) : eqD (.tup (ms.map D.int)) (.tup (ns.map D.int)) = decide (ms = ns) := w_eqs ms ns
theorem w_eqL (ms ns : List Int) : eqD (.lst (ms.map D.int)) (.lst (ns.map D.int)) = decide (ms = ns) := w_eqs ms ns
theorem m_app : mutD .append (.lst xs) [x] = if xs.length < sz then some (.non, .lst (xs ++ [x])) else none := rfl
theorem y_n_int : isiD .non .int = some false := rfl
theorem y_n_bool : isiD .non .bool = some false := rfl
theorem y_n_str : isiD .non .str = some false := rfl
theorem y_n_tuple : isiD .non .tuple = some false := rfl
theorem y_n_list : isiD .non .list = some false := rfl
theorem y_b_int : isiD (.bl b) .int = some true := rfl
theorem y_b_bool : isiD (.bl b) .bool = some true := rfl
theorem y_b_str : isiD (.bl b) .str = some false := rfl
theorem y_b_tuple : isiD (.bl b) .tuple = some false := rfl
theorem y_b_list : isiD (.bl b) .list = some false := rfl
theorem y_i_int : isiD (.int i) .int = some true := rfl
theorem y_i_bool : isiD (.int i) .bool = some false := rfl
theorem y_i_str : isiD (.int i) .str = some false := rfl
theorem y_i_tuple : isiD (.int i) .tuple = some false := rfl
theorem y_i_list : isiD (.int i) .list = some false := rfl
theorem y_s_int : isiD (.str s) .int = some false := rfl
theorem y_s_bool : isiD (.str s) .bool = some false := rfl
theorem y_s_str : isiD (.str s) .str = some true := rfl
theorem y_s_tuple : isiD (.str s) .tuple = some false := rfl
theorem y_s_list : isiD (.str s) .list = some false := rfl
theorem y_t_int : isiD (.tup xs) .int = some false := rfl
theorem y_t_bool : isiD (.tup xs) .bool = some false := rfl
theorem y_t_str : isiD (.tup xs) .str = some false := rfl
theorem y_t_tuple : isiD (.tup xs) .tuple = some true := rfl
theorem y_t_list : isiD (.tup xs) .list = some false := rfl
theorem y_l_int : isiD (.lst xs) .int = some false := rfl
theorem y_l_bool : isiD (.lst xs) .bool = some false := rfl
theorem y_l_str : isiD (.lst xs) .str = some false := rfl
theorem y_l_tuple : isiD (.lst xs) .tuple = some false := rfl
theorem y_l_list : isiD (.lst xs) .list = some true := rfl
theorem r_T : revD (.tup xs) = some (.tup xs.reverse) := rfl
theorem r_L : revD (.lst xs) = some (.lst xs.reverse) := rfl
theorem sl_L {lo hi : Option Int} : slcD (.lst xs) lo hi = some (.lst (cut xs lo hi)) := rfl
theorem sl_T {lo hi : Option Int} : slcD (.tup xs) lo hi = some (.tup (cut xs lo hi)) := rfl
theorem wk_L : walkedD (.lst xs) = some xs := rfl
theorem wk_T : walkedD (.tup xs) = some xs := rfl
theorem ix_L : mthD .index (.lst xs) [x] = if shp 63 x && shps 63 xs then (findIx x 0 xs).map fun j => .int (j : Nat) else none := rfl
theorem lo_L : lofD .list xs = if xs.length ≤ sz then some (.lst xs) else none := rfl
theorem lo_T : lofD .tuple xs = if xs.length ≤ sz then some (.tup xs) else none := rfl
theorem isL_l : isL (.lst xs) = some () := rfl
theorem isI_i : isI (.int i) = some i := rfl
theorem isB_b : isB (.bl b) = some b := rfl
theorem pu_i : D.pure (.int i) = true := rfl
theorem pu_b : D.pure (.bl b) = true := rfl
theorem pu_s : D.pure (.str s) = true := rfl
theorem pu_n : D.pure .non = true := rfl
theorem pu_t : D.pure (.tup xs) = D.pures xs := rfl
theorem ow_i : ownD (.int i) = some (.int i) := rfl
theorem ow_b : ownD (.bl b) = some (.bl b) := rfl
theorem ow_l : ownD (.lst xs) = if D.pures xs then some (.lst xs) else none := rfl
theorem ow_t : ownD (.tup xs) = if D.pures xs then some (.tup xs) else none := rfl
end
section
variable {fs : Nat → Option Fn} {gl : Nat → Option D} {w : Nat}
theorem run_rt {k i : Nat} {ds : List D} {fn : Fn} {d : D} {ρ : Env} (hf : fs i = some fn) (hn : ds.length = fn.np) (h : execSs (run fs gl w k) gl w fn.body (startE fn.ms.length ds) = some (.rt d ρ)) : run fs gl w (k + 1) i ds = some (d, ρ) := by
  show (fs i).bind _ = _
  rw [hf]
  show (if ds.length = fn.np then _ else none) = _
  rw [if_pos hn, h]; rfl
theorem forL_inv {f : D → Env → Option Out} {xs : List D} (P : Nat → Env → Prop) {ρ0 : Env} (h0 : P 0 ρ0) (hs : ∀ i x ρ, xs[i]? = some x → P i ρ → ∃ ρ', (f x ρ = some (.nx ρ') ∨ f x ρ = some (.ct ρ')) ∧ P (i + 1) ρ') :
    ∃ ρ', forL f xs ρ0 = some (.nx ρ') ∧ P xs.length ρ' := by
  induction xs generalizing P ρ0 with
  | nil => exact ⟨ρ0, rfl, h0⟩
  | cons x r ih =>
    obtain ⟨ρ1, e, h1⟩ := hs 0 x ρ0 rfl h0
    obtain ⟨ρ2, e2, h2⟩ := ih (fun i => P (i + 1)) h1 fun i y ρ hy hp => hs (i + 1) y ρ (by simpa using hy) hp
    refine ⟨ρ2, ?_, h2⟩
    rcases e with e | e
    · simp only [forL, e, Option.bind_some]; exact e2
    · simp only [forL, e, Option.bind_some]; exact e2
theorem whlL_inv {c : Env → Option (Bool × Env)} {b : Env → Option Out} (P : Nat → Env → Prop) {ρ0 : Env} (m : Nat) (h0 : P 0 ρ0) (hs : ∀ i ρ, i < m → P i ρ → ∃ ρ1 ρ2, c ρ = some (true, ρ1) ∧ (b ρ1 = some (.nx ρ2) ∨ b ρ1 = some (.ct ρ2)) ∧ P (i + 1) ρ2) (he : ∀ ρ, P m ρ → c ρ = some (false, ρ)) :
    ∀ n, m < n → ∃ ρ', whlL c b n ρ0 = some (.nx ρ') ∧ P m ρ' := by
  induction m generalizing P ρ0 with
  | zero =>
    intro n hn
    obtain ⟨n, rfl⟩ : ∃ k, n = k + 1 := ⟨n - 1, by omega⟩
    exact ⟨ρ0, by simp only [whlL, he ρ0 h0, Option.bind_some]; rfl, h0⟩
  | succ m ih =>
    intro n hn
    obtain ⟨n, rfl⟩ : ∃ k, n = k + 1 := ⟨n - 1, by omega⟩
    obtain ⟨ρ1, ρ2, e1, e2, h2⟩ := hs 0 ρ0 (by omega) h0
    obtain ⟨ρ', e3, h3⟩ := ih (fun i => P (i + 1)) h2 (fun i ρ hi hp => hs (i + 1) ρ (by omega) hp) he n (by omega)
    refine ⟨ρ', ?_, h3⟩
    rcases e2 with e2 | e2 <;> (simp only [whlL, e1, Option.bind_some, if_true, e2]; exact e3)
theorem lcL_inv {f : D → Env → Option (Option D × Env)} {I : Env → Prop} {g : D → Option D} : ∀ (xs : List D) (ρ : Env) (acc : List D), I ρ → (∀ x ∈ xs, ∀ ρ, I ρ → ∃ ρ', f x ρ = some (g x, ρ') ∧ I ρ') → acc.length + xs.length ≤ sz →
    ∃ ρ', lcL f xs ρ acc = some (acc ++ xs.filterMap g, ρ') ∧ I ρ'
  | [], ρ, acc, hi, _, _ => ⟨ρ, by simp [lcL], hi⟩
  | x :: r, ρ, acc, hi, h, hl => by
    obtain ⟨ρ1, e1, h1⟩ := h x (List.mem_cons_self ..) ρ hi
    rw [List.length_cons] at hl
    cases eg : g x with
    | none =>
      rw [eg] at e1
      obtain ⟨ρ', e2, h2⟩ := lcL_inv r ρ1 acc h1 (fun y hy => h y (List.mem_cons_of_mem _ hy)) (by omega)
      exact ⟨ρ', by simp only [lcL, e1, Option.bind_some, e2, List.filterMap_cons, eg], h2⟩
    | some d =>
      rw [eg] at e1
      obtain ⟨ρ', e2, h2⟩ := lcL_inv r ρ1 (acc ++ [d]) h1 (fun y hy => h y (List.mem_cons_of_mem _ hy)) (by rw [List.length_append, List.length_singleton]; omega)
      refine ⟨ρ', ?_, h2⟩
      simp only [lcL, e1, Option.bind_some, List.filterMap_cons, eg]
      rw [if_pos (show acc.length < sz by omega), e2]
      simp
/-! loops over a row of things, with a state -/
theorem forL_st {σ α : Type} {F : D → Env → Option Out} (f : α → D) (mk : σ → Env) (step : σ → α → σ) (I : Nat → σ → Prop) : ∀ (xs : List α) (j : Nat) (s : σ), I j s → (∀ i x s, xs[i]? = some x → I (j + i) s → F (f x) (mk s) = some (.nx (mk (step s x))) ∧ I (j + i + 1) (step s x)) → forL F (xs.map f) (mk s) = some (.nx (mk (xs.foldl step s))) ∧ I (j + xs.length) (xs.foldl step s)
  | [], j, s, h0, _ => ⟨rfl, h0⟩
  | x :: r, j, s, h0, h => by
    obtain ⟨e1, h1⟩ := h 0 x s rfl h0
    obtain ⟨e2, h2⟩ := forL_st f mk step I r (j + 1) (step s x) h1 fun i y t hy ht => by
      have := h (i + 1) y t (by simpa using hy) (by rw [show j + (i + 1) = j + 1 + i by omega]; exact ht)
      rw [show j + (i + 1) = j + 1 + i by omega] at this
      exact this
    refine ⟨?_, by rw [List.length_cons, show j + (r.length + 1) = j + 1 + r.length by omega]; exact h2⟩
    rw [List.map_cons, List.foldl_cons]
    show (F (f x) (mk s)).bind _ = _
    rw [e1]
    exact e2
theorem forL_fd {σ α : Type} {F : D → Env → Option Out} (f : α → D) (mk : σ → Env) (step : σ → α → σ) (xs : List α) (s : σ) (h : ∀ x ∈ xs, ∀ s, F (f x) (mk s) = some (.nx (mk (step s x)))) : forL F (xs.map f) (mk s) = some (.nx (mk (xs.foldl step s))) :=
  (forL_st f mk step (fun _ _ => True) xs 0 s trivial fun i x s hx _ => ⟨h x (List.mem_of_getElem? hx) s, trivial⟩).1
theorem lcL_st {α : Type} {F : D → Env → Option (Option D × Env)} {I : Env → Prop} (f : α → D) (g : α → Option D) (xs : List α) (ρ : Env) (hI : I ρ) (h : ∀ x ∈ xs, ∀ ρ, I ρ → ∃ ρ', F (f x) ρ = some (g x, ρ') ∧ I ρ') (hl : xs.length ≤ sz) : ∃ ρ', lcL F (xs.map f) ρ [] = some (xs.filterMap g, ρ') ∧ I ρ' := by
  have key : ∀ (xs : List α) (ρ : Env) (acc : List D), I ρ → (∀ x ∈ xs, ∀ ρ, I ρ → ∃ ρ', F (f x) ρ = some (g x, ρ') ∧ I ρ') → acc.length + xs.length ≤ sz → ∃ ρ', lcL F (xs.map f) ρ acc = some (acc ++ xs.filterMap g, ρ') ∧ I ρ' := by
    intro xs
    induction xs with
    | nil => intro ρ acc hi _ _; exact ⟨ρ, by simp [lcL], hi⟩
    | cons x r ih =>
      intro ρ acc hi h hl
      rw [List.length_cons] at hl
      obtain ⟨ρ1, e1, h1⟩ := h x (List.mem_cons_self ..) ρ hi
      cases eg : g x with
      | none =>
        rw [eg] at e1
        obtain ⟨ρ', e2, h2⟩ := ih ρ1 acc h1 (fun y hy => h y (List.mem_cons_of_mem _ hy)) (by omega)
        exact ⟨ρ', by simp only [List.map_cons, lcL, e1, Option.bind_some, e2, List.filterMap_cons, eg], h2⟩
      | some d =>
        rw [eg] at e1
        obtain ⟨ρ', e2, h2⟩ := ih ρ1 (acc ++ [d]) h1 (fun y hy => h y (List.mem_cons_of_mem _ hy)) (by rw [List.length_append, List.length_singleton]; omega)
        refine ⟨ρ', ?_, h2⟩
        simp only [List.map_cons, lcL, e1, Option.bind_some, List.filterMap_cons, eg]
        rw [if_pos (show acc.length < sz by omega), e2]
        simp
  exact key xs ρ [] hI h (by simpa using hl)
theorem geL_any {α : Type} {F : D → Env → Option (Option Bool × Env)} {I : Env → Prop} (f : α → D) (p : α → Bool) : ∀ (xs : List α) (ρ : Env), I ρ → (∀ x ∈ xs, ∀ ρ, I ρ → ∃ ρ', F (f x) ρ = some (some (p x), ρ') ∧ I ρ') → ∃ ρ', geL true F (xs.map f) ρ = some (xs.any p, ρ') ∧ I ρ'
  | [], ρ, hi, _ => ⟨ρ, rfl, hi⟩
  | x :: r, ρ, hi, h => by
    obtain ⟨ρ1, e1, h1⟩ := h x (List.mem_cons_self ..) ρ hi
    obtain ⟨ρ', e2, h2⟩ := geL_any f p r ρ1 h1 fun y hy => h y (List.mem_cons_of_mem _ hy)
    cases hp : p x with
    | true => exact ⟨ρ1, by rw [hp] at e1; simp only [List.map_cons, geL, e1, Option.bind_some, List.any_cons, hp]; rfl, h1⟩
    | false => exact ⟨ρ', by rw [hp] at e1; simp only [List.map_cons, geL, e1, Option.bind_some, List.any_cons, hp]; exact e2, h2⟩
theorem geL_all {α : Type} {F : D → Env → Option (Option Bool × Env)} {I : Env → Prop} (f : α → D) (p : α → Bool) : ∀ (xs : List α) (ρ : Env), I ρ → (∀ x ∈ xs, ∀ ρ, I ρ → ∃ ρ', F (f x) ρ = some (some (p x), ρ') ∧ I ρ') → ∃ ρ', geL false F (xs.map f) ρ = some (xs.all p, ρ') ∧ I ρ'
  | [], ρ, hi, _ => ⟨ρ, rfl, hi⟩
  | x :: r, ρ, hi, h => by
    obtain ⟨ρ1, e1, h1⟩ := h x (List.mem_cons_self ..) ρ hi
    obtain ⟨ρ', e2, h2⟩ := geL_all f p r ρ1 h1 fun y hy => h y (List.mem_cons_of_mem _ hy)
    cases hp : p x with
    | false => exact ⟨ρ1, by rw [hp] at e1; simp only [List.map_cons, geL, e1, Option.bind_some, List.all_cons, hp]; rfl, h1⟩
    | true => exact ⟨ρ', by rw [hp] at e1; simp only [List.map_cons, geL, e1, Option.bind_some, List.all_cons, hp]; exact e2, h2⟩
theorem rng_map (lo : Int) (n : Nat) : rngUp lo n = (List.range n).map fun (i : Nat) => D.int (lo + i) := rfl
theorem rng_get (lo : Int) {n i : Nat} {x : D} (h : (rngUp lo n)[i]? = some x) : x = .int (lo + i) ∧ i < n := by
  unfold rngUp at h
  simp only [List.getElem?_map, Option.map_eq_some_iff] at h
  obtain ⟨j, h1, rfl⟩ := h
  obtain ⟨h2, h3⟩ := List.getElem?_eq_some_iff.mp h1
  rw [List.length_range] at h2
  rw [List.getElem_range] at h3
  subst h3
  exact ⟨rfl, h2⟩
theorem rng_len (lo : Int) (n : Nat) : (rngUp lo n).length = n := by unfold rngUp; rw [List.length_map, List.length_range]
theorem rng1_of {n : Nat} (h : n < 1073741824) : rng1D (.int (n : Nat)) = some (rngUp 0 n) := by
  have : small (n : Int) = true := by unfold small; simp; omega
  simp only [rng1D, isI, Option.bind_some, this, if_true, Int.toNat_natCast]
theorem mul_ok1 (i : Int) {j : Int} (h : j.natAbs < 18446744073709551616) : mulOk i j = true := by unfold mulOk; simp [h]
theorem mul_ok2 {i : Int} (j : Int) (h : i.natAbs < 18446744073709551616) : mulOk i j = true := by unfold mulOk; simp [h]
theorem fmod_lt {a b : Int} (h : 0 < b) : 0 ≤ a.fmod b ∧ a.fmod b < b := by
  rw [Int.fmod_eq_emod_of_nonneg _ (by omega)]
  exact ⟨Int.emod_nonneg _ (by omega), Int.emod_lt_of_pos _ h⟩
end
end Vi

set_option Elab.async false
set_option linter.all false
set_option maxRecDepth 100000
set_option maxHeartbeats 4000000
/-! The laws' own helpers, reckoned. -/
namespace Vi
open PySem L2

section
variable {fs : Nat → Option Fn} {gl : Nat → Option D} {w : Nat}
def fnCell : Fn := { np := 2, ms := [false, false], body := [
    .iff (.cmp .lt (.var 1) (.fn .len [(.var 0)])) [.ret (.chk (.idx (.var 0) (.var 1)))] [],
    .ret (.own (.bin .add (.bin .mul (.lit (.int 5)) (.var 1)) (.lit (.int 3))))] }
theorem d_S {ns : List Int} {i : Int} : idxD (.scr ns) (.int i) = (ixn ns.length i).bind fun j => (ns[j]?).map D.int := rfl
theorem cell_run {k i : Nat} (hf : fs i = some fnCell) (ns : List Int) (j : Nat) (hj : j < 1000) : ∃ (z : Int) (ρ : Env), run fs gl w (k + 1) i [.scr ns, .int (j : Nat)] = some (.int z, ρ) := by
  by_cases h : j < ns.length
  · refine ⟨ns[j], [some (.scr ns), some (.int (j : Nat))], run_rt hf rfl ?_⟩
    have h1 : (j : Int) < (ns.length : Int) := by omega
    have h2 : ixn ns.length (j : Int) = some j := by unfold ixn; rw [if_pos (by omega), if_pos (by omega)]; simp
    have h3 : ns[j]? = some ns[j] := List.getElem?_eq_getElem h
    simp only [g_0, g_s, v_lit, v_var, v_mov, v_own, v_chk, v_bin, v_neg, v_cmp, v_cmp2, v_band, v_bor, v_bnot, v_ite, v_tup, v_lst, v_dct, v_idx, v_slc, v_rev, v_fn, v_isi, v_mth, v_mut, v_call, v_lc, v_ge, v_lof, t_lit, t_var, t_cmp, t_cmp2, t_bin, t_idx, t_fn, t_isi, t_call, t_ge, t_slc, t_mth, t_band, t_bor, t_bnot, i_var, i_call, i_idx, i_bin, i_fn, i_tup, i_lst, i_slc, i_lce, i_ck, i_r1, i_r2, i_r3, i_en, i_zp, i_rv, a_nil, a_cons, o_none, o_some, c_none, c_some, s_nil, s_cons, x_set, x_aug, x_put, x_ex, x_ret, x_ret0, x_iff, x_whl, x_for, x_brk, x_cnt, x_pas, x_doc, b_nm, b_tup, b_lst, b_nil, b_cons, k_nil, k_none, kP, kM, kPI, kPB, kPN, kPO, kPT, kPL, kPE, kPV, kPZ, kOwn, kChk, kBin2, kBin, kNeg, kCmpB, kCmp, kChA, kCh2, kCh, kAnd2, kAnd, kOr2, kOr, kNot, kIte, kTup, kLst, kIdx2, kIdx, kSl3, kSl2, kSl, kRev, kFn, kIsi, kMth2, kMth, kMu3, kMu2, kMu1, kMu, kCa3, kCa2, kCa, kLc2, kLc, kGe2, kGe, kLof, kT, kAndT, kOrT, kNotT, kI, kCk, kR1, kR2b, kR2, kR3c, kR3b, kR3, kEn, kZp2, kZp, kRv, kA2, kA, kO, kSet, kNx, kRt, kSt, kAu2, kAu, kPu3, kPu2, kPu1, kPu, kIf, kFor, kBt, p_add, p_sub, p_mul, p_fdiv, p_mod, p_pow, p_addL, p_addT, p_mulL, q_lt, q_le, q_gt, q_ge, q_eq, q_ne, q_eqT, q_neT, q_eqL, q_neL, q_eqB, q_eqS, q_is, q_isnot, q_inL, q_niL, q_inT, q_niT, u_non, u_bl, u_int, u_lst, u_tup, d_L, d_T, n_n, n_i, n_b, n_s, n_t, n_l, l_lenL, l_lenT, l_lenS, l_abs, l_int, l_min, l_max, l_tupL, l_tupT, l_lstL, l_lstT, l_minL, l_maxL, au_add, au_sub, au_str, l_all, l_any, l_sum, l_srtL, l_srtT, w_ints, w_pures, w_bools, w_sort, w_shps, w_shpI, w_shpB, w_shpN, w_shpT, w_shpL, w_eqs, w_eqT, w_eqL, m_app, y_n_int, y_n_bool, y_n_str, y_n_tuple, y_n_list, y_b_int, y_b_bool, y_b_str, y_b_tuple, y_b_list, y_i_int, y_i_bool, y_i_str, y_i_tuple, y_i_list, y_s_int, y_s_bool, y_s_str, y_s_tuple, y_s_list, y_t_int, y_t_bool, y_t_str, y_t_tuple, y_t_list, y_l_int, y_l_bool, y_l_str, y_l_tuple, y_l_list, r_T, r_L, sl_L, sl_T, wk_L, wk_T, ix_L, lo_L, lo_T, isL_l, isI_i, isB_b, pu_i, pu_b, pu_s, pu_n, pu_t, ow_i, ow_b, ow_l, ow_t, thenS, startE, List.map_cons, List.map_nil, List.cons_append, List.nil_append, List.length_cons, List.length_nil, List.length_replicate, List.replicate, List.set_cons_zero, List.set_cons_succ, List.set_nil, Option.bind_some, Option.map_some, Option.bind_none, Option.map_none, Nat.sub_zero, Nat.reduceSub, Nat.reduceAdd, Bool.not_true, Bool.not_false, if_true, if_false, reduceIte, Bool.false_eq_true, Bool.true_and, Bool.and_true, Bool.false_and, Bool.and_false, decide_true, decide_false, List.tail_cons, List.isEmpty_cons, List.isEmpty_nil, ne_eq, not_true_eq_false, not_false_eq_true, reduceCtorEq, List.append_nil, List.singleton_append, fnCell, h1, h2, h3, d_S]
  · refine ⟨5 * j + 3, [some (.scr ns), some (.int (j : Nat))], run_rt hf rfl ?_⟩
    have h1 : ¬ (j : Int) < (ns.length : Int) := by omega
    have h2 : mulOk 5 (j : Int) = true := mul_ok2 _ (by decide)
    simp only [g_0, g_s, v_lit, v_var, v_mov, v_own, v_chk, v_bin, v_neg, v_cmp, v_cmp2, v_band, v_bor, v_bnot, v_ite, v_tup, v_lst, v_dct, v_idx, v_slc, v_rev, v_fn, v_isi, v_mth, v_mut, v_call, v_lc, v_ge, v_lof, t_lit, t_var, t_cmp, t_cmp2, t_bin, t_idx, t_fn, t_isi, t_call, t_ge, t_slc, t_mth, t_band, t_bor, t_bnot, i_var, i_call, i_idx, i_bin, i_fn, i_tup, i_lst, i_slc, i_lce, i_ck, i_r1, i_r2, i_r3, i_en, i_zp, i_rv, a_nil, a_cons, o_none, o_some, c_none, c_some, s_nil, s_cons, x_set, x_aug, x_put, x_ex, x_ret, x_ret0, x_iff, x_whl, x_for, x_brk, x_cnt, x_pas, x_doc, b_nm, b_tup, b_lst, b_nil, b_cons, k_nil, k_none, kP, kM, kPI, kPB, kPN, kPO, kPT, kPL, kPE, kPV, kPZ, kOwn, kChk, kBin2, kBin, kNeg, kCmpB, kCmp, kChA, kCh2, kCh, kAnd2, kAnd, kOr2, kOr, kNot, kIte, kTup, kLst, kIdx2, kIdx, kSl3, kSl2, kSl, kRev, kFn, kIsi, kMth2, kMth, kMu3, kMu2, kMu1, kMu, kCa3, kCa2, kCa, kLc2, kLc, kGe2, kGe, kLof, kT, kAndT, kOrT, kNotT, kI, kCk, kR1, kR2b, kR2, kR3c, kR3b, kR3, kEn, kZp2, kZp, kRv, kA2, kA, kO, kSet, kNx, kRt, kSt, kAu2, kAu, kPu3, kPu2, kPu1, kPu, kIf, kFor, kBt, p_add, p_sub, p_mul, p_fdiv, p_mod, p_pow, p_addL, p_addT, p_mulL, q_lt, q_le, q_gt, q_ge, q_eq, q_ne, q_eqT, q_neT, q_eqL, q_neL, q_eqB, q_eqS, q_is, q_isnot, q_inL, q_niL, q_inT, q_niT, u_non, u_bl, u_int, u_lst, u_tup, d_L, d_T, n_n, n_i, n_b, n_s, n_t, n_l, l_lenL, l_lenT, l_lenS, l_abs, l_int, l_min, l_max, l_tupL, l_tupT, l_lstL, l_lstT, l_minL, l_maxL, au_add, au_sub, au_str, l_all, l_any, l_sum, l_srtL, l_srtT, w_ints, w_pures, w_bools, w_sort, w_shps, w_shpI, w_shpB, w_shpN, w_shpT, w_shpL, w_eqs, w_eqT, w_eqL, m_app, y_n_int, y_n_bool, y_n_str, y_n_tuple, y_n_list, y_b_int, y_b_bool, y_b_str, y_b_tuple, y_b_list, y_i_int, y_i_bool, y_i_str, y_i_tuple, y_i_list, y_s_int, y_s_bool, y_s_str, y_s_tuple, y_s_list, y_t_int, y_t_bool, y_t_str, y_t_tuple, y_t_list, y_l_int, y_l_bool, y_l_str, y_l_tuple, y_l_list, r_T, r_L, sl_L, sl_T, wk_L, wk_T, ix_L, lo_L, lo_T, isL_l, isI_i, isB_b, pu_i, pu_b, pu_s, pu_n, pu_t, ow_i, ow_b, ow_l, ow_t, thenS, startE, List.map_cons, List.map_nil, List.cons_append, List.nil_append, List.length_cons, List.length_nil, List.length_replicate, List.replicate, List.set_cons_zero, List.set_cons_succ, List.set_nil, Option.bind_some, Option.map_some, Option.bind_none, Option.map_none, Nat.sub_zero, Nat.reduceSub, Nat.reduceAdd, Bool.not_true, Bool.not_false, if_true, if_false, reduceIte, Bool.false_eq_true, Bool.true_and, Bool.and_true, Bool.false_and, Bool.and_false, decide_true, decide_false, List.tail_cons, List.isEmpty_cons, List.isEmpty_nil, ne_eq, not_true_eq_false, not_false_eq_true, reduceCtorEq, List.append_nil, List.singleton_append, fnCell, h1, h2]
def drB : List S := [.iff (.band (.var 3) (.cmp .gt (.var 2) (.lit (.int 0)))) [.ex (.mut .append 5 [(.own (.bin .mod (.fn .int [(.var 2)]) (.lit (.int 5040))))]), .set (.nm 2) (.bin .fdiv (.var 2) (.lit (.int 5040)))] [.set (.nm 7) (.bin .mod (.fn .int [(.bin .add (.bin .add (.bin .mul (.var 4) (.lit (.int 48271))) (.bin .mul (.bin .add (.var 6) (.lit (.int 1))) (.lit (.int 69621)))) (.lit (.int 11)))]) (.lit (.int 2147483647))), .set (.nm 7) (.bin .mod (.fn .int [(.bin .add (.bin .mul (.var 7) (.var 7)) (.bin .mul (.lit (.int 40692)) (.bin .add (.var 6) (.lit (.int 3)))))]) (.lit (.int 2147483399))), .ex (.mut .append 5 [(.own (.bin .mod (.fn .int [(.bin .fdiv (.var 7) (.lit (.int 64)))]) (.lit (.int 5040))))])]]
def fnDraws : Fn := { np := 2, ms := [false, false, false, false, false, true, false, false], body := [
    .set (.nm 2) (.fn .abs [(.fn .int [(.var 0)])]),
    .set (.nm 3) (.cmp .ge (.var 2) (.bin .pow (.lit (.int 10)) (.lit (.int 18)))),
    .set (.nm 4) (.var 2),
    .set (.nm 5) (.lst []),
    .for_ (.nm 6) (.irng1 (.var 1)) drB,
    .ret (.mov 5)] }
def drP (cell r0 : Int) (n j : Nat) (ρ : Env) : Prop := ∃ (rest : Int) (ds : List Int) (a b : Option D), ρ = [some (.int cell), some (.int (n : Nat)), some (.int rest), some (.bl (decide (10 ^ 18 ≤ r0))), some (.int r0), some (.lst (ds.map D.int)), a, b] ∧ 0 ≤ rest ∧ ds.length = j ∧ ∀ d ∈ ds, 0 ≤ d ∧ d < 5040
theorem fdiv_nonneg {a b : Int} (h : 0 ≤ a) (hb : 0 < b) : 0 ≤ a.fdiv b := by
  rw [Int.fdiv_eq_ediv_of_nonneg _ (by omega)]
  exact Int.ediv_nonneg h (by omega)
theorem dr_turn {k : Nat} {cell r0 : Int} {n j : Nat} {ρ : Env} (hj : j < 1000) (h : drP cell r0 n j ρ) : ∃ ρ', forF (run fs gl w k) gl w (.nm 6) drB (.int (0 + (j : Nat))) ρ = some (.nx ρ') ∧ drP cell r0 n (j + 1) ρ' := by
  obtain ⟨rest, ds, a, b, rfl, hr, hl, hd⟩ := h
  have hsz : (ds.map D.int).length < sz := by rw [List.length_map, hl]; unfold sz; omega
  have e1 : ∀ z : Int, ds.map D.int ++ [D.int z] = (ds ++ [z]).map D.int := fun z => by simp
  have n1 : ¬ (5040 : Int) = 0 := by decide
  have n2 : ¬ (2147483647 : Int) = 0 := by decide
  have n3 : ¬ (2147483399 : Int) = 0 := by decide
  have n4 : ¬ (64 : Int) = 0 := by decide
  have n5 : (5040 : Int).natAbs < 1073741824 := by decide
  have n6 : (64 : Int).natAbs < 1073741824 := by decide
  by_cases hb : 10 ^ 18 ≤ r0 ∧ 0 < rest
  · have m1 := fmod_lt (a := rest) (b := 5040) (by decide)
    refine ⟨[some (.int cell), some (.int (n : Nat)), some (.int (rest.fdiv 5040)), some (.bl (decide (10 ^ 18 ≤ r0))), some (.int r0), some (.lst ((ds ++ [rest.fmod 5040]).map D.int)), some (.int (0 + (j : Nat))), b], ?_, rest.fdiv 5040, ds ++ [rest.fmod 5040], _, b, rfl, fdiv_nonneg hr (by decide), by rw [List.length_append, hl]; rfl, fun d hdm => ?_⟩
    · simp only [g_0, g_s, v_lit, v_var, v_mov, v_own, v_chk, v_bin, v_neg, v_cmp, v_cmp2, v_band, v_bor, v_bnot, v_ite, v_tup, v_lst, v_dct, v_idx, v_slc, v_rev, v_fn, v_isi, v_mth, v_mut, v_call, v_lc, v_ge, v_lof, t_lit, t_var, t_cmp, t_cmp2, t_bin, t_idx, t_fn, t_isi, t_call, t_ge, t_slc, t_mth, t_band, t_bor, t_bnot, i_var, i_call, i_idx, i_bin, i_fn, i_tup, i_lst, i_slc, i_lce, i_ck, i_r1, i_r2, i_r3, i_en, i_zp, i_rv, a_nil, a_cons, o_none, o_some, c_none, c_some, s_nil, s_cons, x_set, x_aug, x_put, x_ex, x_ret, x_ret0, x_iff, x_whl, x_for, x_brk, x_cnt, x_pas, x_doc, b_nm, b_tup, b_lst, b_nil, b_cons, k_nil, k_none, kP, kM, kPI, kPB, kPN, kPO, kPT, kPL, kPE, kPV, kPZ, kOwn, kChk, kBin2, kBin, kNeg, kCmpB, kCmp, kChA, kCh2, kCh, kAnd2, kAnd, kOr2, kOr, kNot, kIte, kTup, kLst, kIdx2, kIdx, kSl3, kSl2, kSl, kRev, kFn, kIsi, kMth2, kMth, kMu3, kMu2, kMu1, kMu, kCa3, kCa2, kCa, kLc2, kLc, kGe2, kGe, kLof, kT, kAndT, kOrT, kNotT, kI, kCk, kR1, kR2b, kR2, kR3c, kR3b, kR3, kEn, kZp2, kZp, kRv, kA2, kA, kO, kSet, kNx, kRt, kSt, kAu2, kAu, kPu3, kPu2, kPu1, kPu, kIf, kFor, kBt, p_add, p_sub, p_mul, p_fdiv, p_mod, p_pow, p_addL, p_addT, p_mulL, q_lt, q_le, q_gt, q_ge, q_eq, q_ne, q_eqT, q_neT, q_eqL, q_neL, q_eqB, q_eqS, q_is, q_isnot, q_inL, q_niL, q_inT, q_niT, u_non, u_bl, u_int, u_lst, u_tup, d_L, d_T, n_n, n_i, n_b, n_s, n_t, n_l, l_lenL, l_lenT, l_lenS, l_abs, l_int, l_min, l_max, l_tupL, l_tupT, l_lstL, l_lstT, l_minL, l_maxL, au_add, au_sub, au_str, l_all, l_any, l_sum, l_srtL, l_srtT, w_ints, w_pures, w_bools, w_sort, w_shps, w_shpI, w_shpB, w_shpN, w_shpT, w_shpL, w_eqs, w_eqT, w_eqL, m_app, y_n_int, y_n_bool, y_n_str, y_n_tuple, y_n_list, y_b_int, y_b_bool, y_b_str, y_b_tuple, y_b_list, y_i_int, y_i_bool, y_i_str, y_i_tuple, y_i_list, y_s_int, y_s_bool, y_s_str, y_s_tuple, y_s_list, y_t_int, y_t_bool, y_t_str, y_t_tuple, y_t_list, y_l_int, y_l_bool, y_l_str, y_l_tuple, y_l_list, r_T, r_L, sl_L, sl_T, wk_L, wk_T, ix_L, lo_L, lo_T, isL_l, isI_i, isB_b, pu_i, pu_b, pu_s, pu_n, pu_t, ow_i, ow_b, ow_l, ow_t, thenS, startE, List.map_cons, List.map_nil, List.cons_append, List.nil_append, List.length_cons, List.length_nil, List.length_replicate, List.replicate, List.set_cons_zero, List.set_cons_succ, List.set_nil, Option.bind_some, Option.map_some, Option.bind_none, Option.map_none, Nat.sub_zero, Nat.reduceSub, Nat.reduceAdd, Bool.not_true, Bool.not_false, if_true, if_false, reduceIte, Bool.false_eq_true, Bool.true_and, Bool.and_true, Bool.false_and, Bool.and_false, decide_true, decide_false, List.tail_cons, List.isEmpty_cons, List.isEmpty_nil, ne_eq, not_true_eq_false, not_false_eq_true, reduceCtorEq, List.append_nil, List.singleton_append, forF, drB, hb.1, hb.2, hsz, n1, n5, and_self, e1]
    · rcases List.mem_append.mp hdm with z | z
      · exact hd d z
      · rw [List.mem_singleton.mp z]; exact m1
  · have mA := fmod_lt (a := r0 * 48271 + (0 + (j : Nat) + 1) * 69621 + 11) (b := 2147483647) (by decide)
    generalize hm1 : (r0 * 48271 + (0 + (j : Nat) + 1) * 69621 + 11).fmod 2147483647 = m1 at mA
    generalize hm2 : (m1 * m1 + 40692 * (0 + (j : Nat) + 3)).fmod 2147483399 = m2
    have mC := fmod_lt (a := m2.fdiv 64) (b := 5040) (by decide)
    have o1 : mulOk r0 48271 = true := mul_ok1 _ (by decide)
    have o2 : mulOk (0 + (j : Nat) + 1) 69621 = true := mul_ok1 _ (by decide)
    have o3 : mulOk m1 m1 = true := mul_ok1 _ (by omega)
    have o4 : mulOk 40692 (0 + (j : Nat) + 3) = true := mul_ok2 _ (by decide)
    refine ⟨[some (.int cell), some (.int (n : Nat)), some (.int rest), some (.bl (decide (10 ^ 18 ≤ r0))), some (.int r0), some (.lst ((ds ++ [(m2.fdiv 64).fmod 5040]).map D.int)), some (.int (0 + (j : Nat))), some (.int m2)], ?_, rest, ds ++ [(m2.fdiv 64).fmod 5040], _, _, rfl, hr, by rw [List.length_append, hl]; rfl, fun d hdm => ?_⟩
    · by_cases hr0 : 10 ^ 18 ≤ r0
      · have hr1 : ¬ 0 < rest := fun z => hb ⟨hr0, z⟩
        simp only [g_0, g_s, v_lit, v_var, v_mov, v_own, v_chk, v_bin, v_neg, v_cmp, v_cmp2, v_band, v_bor, v_bnot, v_ite, v_tup, v_lst, v_dct, v_idx, v_slc, v_rev, v_fn, v_isi, v_mth, v_mut, v_call, v_lc, v_ge, v_lof, t_lit, t_var, t_cmp, t_cmp2, t_bin, t_idx, t_fn, t_isi, t_call, t_ge, t_slc, t_mth, t_band, t_bor, t_bnot, i_var, i_call, i_idx, i_bin, i_fn, i_tup, i_lst, i_slc, i_lce, i_ck, i_r1, i_r2, i_r3, i_en, i_zp, i_rv, a_nil, a_cons, o_none, o_some, c_none, c_some, s_nil, s_cons, x_set, x_aug, x_put, x_ex, x_ret, x_ret0, x_iff, x_whl, x_for, x_brk, x_cnt, x_pas, x_doc, b_nm, b_tup, b_lst, b_nil, b_cons, k_nil, k_none, kP, kM, kPI, kPB, kPN, kPO, kPT, kPL, kPE, kPV, kPZ, kOwn, kChk, kBin2, kBin, kNeg, kCmpB, kCmp, kChA, kCh2, kCh, kAnd2, kAnd, kOr2, kOr, kNot, kIte, kTup, kLst, kIdx2, kIdx, kSl3, kSl2, kSl, kRev, kFn, kIsi, kMth2, kMth, kMu3, kMu2, kMu1, kMu, kCa3, kCa2, kCa, kLc2, kLc, kGe2, kGe, kLof, kT, kAndT, kOrT, kNotT, kI, kCk, kR1, kR2b, kR2, kR3c, kR3b, kR3, kEn, kZp2, kZp, kRv, kA2, kA, kO, kSet, kNx, kRt, kSt, kAu2, kAu, kPu3, kPu2, kPu1, kPu, kIf, kFor, kBt, p_add, p_sub, p_mul, p_fdiv, p_mod, p_pow, p_addL, p_addT, p_mulL, q_lt, q_le, q_gt, q_ge, q_eq, q_ne, q_eqT, q_neT, q_eqL, q_neL, q_eqB, q_eqS, q_is, q_isnot, q_inL, q_niL, q_inT, q_niT, u_non, u_bl, u_int, u_lst, u_tup, d_L, d_T, n_n, n_i, n_b, n_s, n_t, n_l, l_lenL, l_lenT, l_lenS, l_abs, l_int, l_min, l_max, l_tupL, l_tupT, l_lstL, l_lstT, l_minL, l_maxL, au_add, au_sub, au_str, l_all, l_any, l_sum, l_srtL, l_srtT, w_ints, w_pures, w_bools, w_sort, w_shps, w_shpI, w_shpB, w_shpN, w_shpT, w_shpL, w_eqs, w_eqT, w_eqL, m_app, y_n_int, y_n_bool, y_n_str, y_n_tuple, y_n_list, y_b_int, y_b_bool, y_b_str, y_b_tuple, y_b_list, y_i_int, y_i_bool, y_i_str, y_i_tuple, y_i_list, y_s_int, y_s_bool, y_s_str, y_s_tuple, y_s_list, y_t_int, y_t_bool, y_t_str, y_t_tuple, y_t_list, y_l_int, y_l_bool, y_l_str, y_l_tuple, y_l_list, r_T, r_L, sl_L, sl_T, wk_L, wk_T, ix_L, lo_L, lo_T, isL_l, isI_i, isB_b, pu_i, pu_b, pu_s, pu_n, pu_t, ow_i, ow_b, ow_l, ow_t, thenS, startE, List.map_cons, List.map_nil, List.cons_append, List.nil_append, List.length_cons, List.length_nil, List.length_replicate, List.replicate, List.set_cons_zero, List.set_cons_succ, List.set_nil, Option.bind_some, Option.map_some, Option.bind_none, Option.map_none, Nat.sub_zero, Nat.reduceSub, Nat.reduceAdd, Bool.not_true, Bool.not_false, if_true, if_false, reduceIte, Bool.false_eq_true, Bool.true_and, Bool.and_true, Bool.false_and, Bool.and_false, decide_true, decide_false, List.tail_cons, List.isEmpty_cons, List.isEmpty_nil, ne_eq, not_true_eq_false, not_false_eq_true, reduceCtorEq, List.append_nil, List.singleton_append, forF, drB, hr0, hr1, hsz, n1, n2, n3, n4, n6, and_self, e1, o1, o2, o3, o4, hm1, hm2]
      · simp only [g_0, g_s, v_lit, v_var, v_mov, v_own, v_chk, v_bin, v_neg, v_cmp, v_cmp2, v_band, v_bor, v_bnot, v_ite, v_tup, v_lst, v_dct, v_idx, v_slc, v_rev, v_fn, v_isi, v_mth, v_mut, v_call, v_lc, v_ge, v_lof, t_lit, t_var, t_cmp, t_cmp2, t_bin, t_idx, t_fn, t_isi, t_call, t_ge, t_slc, t_mth, t_band, t_bor, t_bnot, i_var, i_call, i_idx, i_bin, i_fn, i_tup, i_lst, i_slc, i_lce, i_ck, i_r1, i_r2, i_r3, i_en, i_zp, i_rv, a_nil, a_cons, o_none, o_some, c_none, c_some, s_nil, s_cons, x_set, x_aug, x_put, x_ex, x_ret, x_ret0, x_iff, x_whl, x_for, x_brk, x_cnt, x_pas, x_doc, b_nm, b_tup, b_lst, b_nil, b_cons, k_nil, k_none, kP, kM, kPI, kPB, kPN, kPO, kPT, kPL, kPE, kPV, kPZ, kOwn, kChk, kBin2, kBin, kNeg, kCmpB, kCmp, kChA, kCh2, kCh, kAnd2, kAnd, kOr2, kOr, kNot, kIte, kTup, kLst, kIdx2, kIdx, kSl3, kSl2, kSl, kRev, kFn, kIsi, kMth2, kMth, kMu3, kMu2, kMu1, kMu, kCa3, kCa2, kCa, kLc2, kLc, kGe2, kGe, kLof, kT, kAndT, kOrT, kNotT, kI, kCk, kR1, kR2b, kR2, kR3c, kR3b, kR3, kEn, kZp2, kZp, kRv, kA2, kA, kO, kSet, kNx, kRt, kSt, kAu2, kAu, kPu3, kPu2, kPu1, kPu, kIf, kFor, kBt, p_add, p_sub, p_mul, p_fdiv, p_mod, p_pow, p_addL, p_addT, p_mulL, q_lt, q_le, q_gt, q_ge, q_eq, q_ne, q_eqT, q_neT, q_eqL, q_neL, q_eqB, q_eqS, q_is, q_isnot, q_inL, q_niL, q_inT, q_niT, u_non, u_bl, u_int, u_lst, u_tup, d_L, d_T, n_n, n_i, n_b, n_s, n_t, n_l, l_lenL, l_lenT, l_lenS, l_abs, l_int, l_min, l_max, l_tupL, l_tupT, l_lstL, l_lstT, l_minL, l_maxL, au_add, au_sub, au_str, l_all, l_any, l_sum, l_srtL, l_srtT, w_ints, w_pures, w_bools, w_sort, w_shps, w_shpI, w_shpB, w_shpN, w_shpT, w_shpL, w_eqs, w_eqT, w_eqL, m_app, y_n_int, y_n_bool, y_n_str, y_n_tuple, y_n_list, y_b_int, y_b_bool, y_b_str, y_b_tuple, y_b_list, y_i_int, y_i_bool, y_i_str, y_i_tuple, y_i_list, y_s_int, y_s_bool, y_s_str, y_s_tuple, y_s_list, y_t_int, y_t_bool, y_t_str, y_t_tuple, y_t_list, y_l_int, y_l_bool, y_l_str, y_l_tuple, y_l_list, r_T, r_L, sl_L, sl_T, wk_L, wk_T, ix_L, lo_L, lo_T, isL_l, isI_i, isB_b, pu_i, pu_b, pu_s, pu_n, pu_t, ow_i, ow_b, ow_l, ow_t, thenS, startE, List.map_cons, List.map_nil, List.cons_append, List.nil_append, List.length_cons, List.length_nil, List.length_replicate, List.replicate, List.set_cons_zero, List.set_cons_succ, List.set_nil, Option.bind_some, Option.map_some, Option.bind_none, Option.map_none, Nat.sub_zero, Nat.reduceSub, Nat.reduceAdd, Bool.not_true, Bool.not_false, if_true, if_false, reduceIte, Bool.false_eq_true, Bool.true_and, Bool.and_true, Bool.false_and, Bool.and_false, decide_true, decide_false, List.tail_cons, List.isEmpty_cons, List.isEmpty_nil, ne_eq, not_true_eq_false, not_false_eq_true, reduceCtorEq, List.append_nil, List.singleton_append, forF, drB, hr0, hsz, n1, n2, n3, n4, n6, and_self, e1, o1, o2, o3, o4, hm1, hm2]
    · rcases List.mem_append.mp hdm with z | z
      · exact hd d z
      · rw [List.mem_singleton.mp z]; exact mC
theorem draws_run {k i : Nat} (hf : fs i = some fnDraws) (cell : Int) (n : Nat) (hn : n ≤ 1000) :
    ∃ (ds : List Int) (ρ : Env), ds.length = n ∧ (∀ d ∈ ds, 0 ≤ d ∧ d < 5040) ∧ run fs gl w (k + 1) i [.int cell, .int (n : Nat)] = some (.lst (ds.map D.int), ρ) := by
  generalize hc : (if cell < 0 then -cell else cell) = r0
  have h0 : 0 ≤ r0 := by subst hc; split <;> omega
  obtain ⟨ρ', e, rest, ds, a, b, rfl, _, hl, hd⟩ := forL_inv (f := forF (run fs gl w k) gl w (.nm 6) drB) (xs := rngUp 0 n) (drP cell r0 n) (ρ0 := [some (.int cell), some (.int (n : Nat)), some (.int r0), some (.bl (decide (10 ^ 18 ≤ r0))), some (.int r0), some (.lst []), none, none])
    ⟨r0, [], none, none, rfl, h0, rfl, fun _ h => nomatch h⟩ (fun j x ρ hx h => by
      obtain ⟨rfl, hj⟩ := rng_get 0 hx
      obtain ⟨ρ', e, h'⟩ := dr_turn (fs := fs) (gl := gl) (w := w) (k := k) (by omega) h
      exact ⟨ρ', .inl e, h'⟩)
  rw [rng_len] at hl
  refine ⟨ds, [some (.int cell), some (.int (n : Nat)), some (.int rest), some (.bl (decide (10 ^ 18 ≤ r0))), some (.int r0), none, a, b], hl, hd, run_rt hf rfl ?_⟩
  have hp : (10 : Int) ^ (18 : Int).toNat = 10 ^ 18 := rfl
  have hq : (0 : Int) ≤ 18 ∧ (18 : Int) ≤ 1000000 ∧ (10 : Int).natAbs < 18446744073709551616 := by decide
  simp only [g_0, g_s, v_lit, v_var, v_mov, v_own, v_chk, v_bin, v_neg, v_cmp, v_cmp2, v_band, v_bor, v_bnot, v_ite, v_tup, v_lst, v_dct, v_idx, v_slc, v_rev, v_fn, v_isi, v_mth, v_mut, v_call, v_lc, v_ge, v_lof, t_lit, t_var, t_cmp, t_cmp2, t_bin, t_idx, t_fn, t_isi, t_call, t_ge, t_slc, t_mth, t_band, t_bor, t_bnot, i_var, i_call, i_idx, i_bin, i_fn, i_tup, i_lst, i_slc, i_lce, i_ck, i_r1, i_r2, i_r3, i_en, i_zp, i_rv, a_nil, a_cons, o_none, o_some, c_none, c_some, s_nil, s_cons, x_set, x_aug, x_put, x_ex, x_ret, x_ret0, x_iff, x_whl, x_for, x_brk, x_cnt, x_pas, x_doc, b_nm, b_tup, b_lst, b_nil, b_cons, k_nil, k_none, kP, kM, kPI, kPB, kPN, kPO, kPT, kPL, kPE, kPV, kPZ, kOwn, kChk, kBin2, kBin, kNeg, kCmpB, kCmp, kChA, kCh2, kCh, kAnd2, kAnd, kOr2, kOr, kNot, kIte, kTup, kLst, kIdx2, kIdx, kSl3, kSl2, kSl, kRev, kFn, kIsi, kMth2, kMth, kMu3, kMu2, kMu1, kMu, kCa3, kCa2, kCa, kLc2, kLc, kGe2, kGe, kLof, kT, kAndT, kOrT, kNotT, kI, kCk, kR1, kR2b, kR2, kR3c, kR3b, kR3, kEn, kZp2, kZp, kRv, kA2, kA, kO, kSet, kNx, kRt, kSt, kAu2, kAu, kPu3, kPu2, kPu1, kPu, kIf, kFor, kBt, p_add, p_sub, p_mul, p_fdiv, p_mod, p_pow, p_addL, p_addT, p_mulL, q_lt, q_le, q_gt, q_ge, q_eq, q_ne, q_eqT, q_neT, q_eqL, q_neL, q_eqB, q_eqS, q_is, q_isnot, q_inL, q_niL, q_inT, q_niT, u_non, u_bl, u_int, u_lst, u_tup, d_L, d_T, n_n, n_i, n_b, n_s, n_t, n_l, l_lenL, l_lenT, l_lenS, l_abs, l_int, l_min, l_max, l_tupL, l_tupT, l_lstL, l_lstT, l_minL, l_maxL, au_add, au_sub, au_str, l_all, l_any, l_sum, l_srtL, l_srtT, w_ints, w_pures, w_bools, w_sort, w_shps, w_shpI, w_shpB, w_shpN, w_shpT, w_shpL, w_eqs, w_eqT, w_eqL, m_app, y_n_int, y_n_bool, y_n_str, y_n_tuple, y_n_list, y_b_int, y_b_bool, y_b_str, y_b_tuple, y_b_list, y_i_int, y_i_bool, y_i_str, y_i_tuple, y_i_list, y_s_int, y_s_bool, y_s_str, y_s_tuple, y_s_list, y_t_int, y_t_bool, y_t_str, y_t_tuple, y_t_list, y_l_int, y_l_bool, y_l_str, y_l_tuple, y_l_list, r_T, r_L, sl_L, sl_T, wk_L, wk_T, ix_L, lo_L, lo_T, isL_l, isI_i, isB_b, pu_i, pu_b, pu_s, pu_n, pu_t, ow_i, ow_b, ow_l, ow_t, thenS, startE, List.map_cons, List.map_nil, List.cons_append, List.nil_append, List.length_cons, List.length_nil, List.length_replicate, List.replicate, List.set_cons_zero, List.set_cons_succ, List.set_nil, Option.bind_some, Option.map_some, Option.bind_none, Option.map_none, Nat.sub_zero, Nat.reduceSub, Nat.reduceAdd, Bool.not_true, Bool.not_false, if_true, if_false, reduceIte, Bool.false_eq_true, Bool.true_and, Bool.and_true, Bool.false_and, Bool.and_false, decide_true, decide_false, List.tail_cons, List.isEmpty_cons, List.isEmpty_nil, ne_eq, not_true_eq_false, not_false_eq_true, reduceCtorEq, List.append_nil, List.singleton_append, fnDraws, hc, hp, hq, and_self, rng1_of (show n < 1073741824 by omega), e, List.map_nil]

def fnIsInt : Fn := { np := 1, ms := [false], body := [
    .ret (.band (.isi (.var 0) .int) (.bnot (.isi (.var 0) .bool)))] }
theorem isInt_run {k i : Nat} (hf : fs i = some fnIsInt) (z : Int) : run fs gl w (k + 1) i [.int z] = some (.bl true, [some (.int z)]) := by
  refine run_rt hf rfl ?_
  simp only [g_0, g_s, v_lit, v_var, v_mov, v_own, v_chk, v_bin, v_neg, v_cmp, v_cmp2, v_band, v_bor, v_bnot, v_ite, v_tup, v_lst, v_dct, v_idx, v_slc, v_rev, v_fn, v_isi, v_mth, v_mut, v_call, v_lc, v_ge, v_lof, t_lit, t_var, t_cmp, t_cmp2, t_bin, t_idx, t_fn, t_isi, t_call, t_ge, t_slc, t_mth, t_band, t_bor, t_bnot, i_var, i_call, i_idx, i_bin, i_fn, i_tup, i_lst, i_slc, i_lce, i_ck, i_r1, i_r2, i_r3, i_en, i_zp, i_rv, a_nil, a_cons, o_none, o_some, c_none, c_some, s_nil, s_cons, x_set, x_aug, x_put, x_ex, x_ret, x_ret0, x_iff, x_whl, x_for, x_brk, x_cnt, x_pas, x_doc, b_nm, b_tup, b_lst, b_nil, b_cons, k_nil, k_none, kP, kM, kPI, kPB, kPN, kPO, kPT, kPL, kPE, kPV, kPZ, kOwn, kChk, kBin2, kBin, kNeg, kCmpB, kCmp, kChA, kCh2, kCh, kAnd2, kAnd, kOr2, kOr, kNot, kIte, kTup, kLst, kIdx2, kIdx, kSl3, kSl2, kSl, kRev, kFn, kIsi, kMth2, kMth, kMu3, kMu2, kMu1, kMu, kCa3, kCa2, kCa, kLc2, kLc, kGe2, kGe, kLof, kT, kAndT, kOrT, kNotT, kI, kCk, kR1, kR2b, kR2, kR3c, kR3b, kR3, kEn, kZp2, kZp, kRv, kA2, kA, kO, kSet, kNx, kRt, kSt, kAu2, kAu, kPu3, kPu2, kPu1, kPu, kIf, kFor, kBt, p_add, p_sub, p_mul, p_fdiv, p_mod, p_pow, p_addL, p_addT, p_mulL, q_lt, q_le, q_gt, q_ge, q_eq, q_ne, q_eqT, q_neT, q_eqL, q_neL, q_eqB, q_eqS, q_is, q_isnot, q_inL, q_niL, q_inT, q_niT, u_non, u_bl, u_int, u_lst, u_tup, d_L, d_T, n_n, n_i, n_b, n_s, n_t, n_l, l_lenL, l_lenT, l_lenS, l_abs, l_int, l_min, l_max, l_tupL, l_tupT, l_lstL, l_lstT, l_minL, l_maxL, au_add, au_sub, au_str, l_all, l_any, l_sum, l_srtL, l_srtT, w_ints, w_pures, w_bools, w_sort, w_shps, w_shpI, w_shpB, w_shpN, w_shpT, w_shpL, w_eqs, w_eqT, w_eqL, m_app, y_n_int, y_n_bool, y_n_str, y_n_tuple, y_n_list, y_b_int, y_b_bool, y_b_str, y_b_tuple, y_b_list, y_i_int, y_i_bool, y_i_str, y_i_tuple, y_i_list, y_s_int, y_s_bool, y_s_str, y_s_tuple, y_s_list, y_t_int, y_t_bool, y_t_str, y_t_tuple, y_t_list, y_l_int, y_l_bool, y_l_str, y_l_tuple, y_l_list, r_T, r_L, sl_L, sl_T, wk_L, wk_T, ix_L, lo_L, lo_T, isL_l, isI_i, isB_b, pu_i, pu_b, pu_s, pu_n, pu_t, ow_i, ow_b, ow_l, ow_t, thenS, startE, List.map_cons, List.map_nil, List.cons_append, List.nil_append, List.length_cons, List.length_nil, List.length_replicate, List.replicate, List.set_cons_zero, List.set_cons_succ, List.set_nil, Option.bind_some, Option.map_some, Option.bind_none, Option.map_none, Nat.sub_zero, Nat.reduceSub, Nat.reduceAdd, Bool.not_true, Bool.not_false, if_true, if_false, reduceIte, Bool.false_eq_true, Bool.true_and, Bool.and_true, Bool.false_and, Bool.and_false, decide_true, decide_false, List.tail_cons, List.isEmpty_cons, List.isEmpty_nil, ne_eq, not_true_eq_false, not_false_eq_true, reduceCtorEq, List.append_nil, List.singleton_append, fnIsInt]
def fnIs (a b : Nat) : Fn := { np := 2, ms := [false, false, false], body := [
    .iff (.cmp .is (.var 1) (.lit .non)) [.ret (.cmp .is (.var 0) (.lit .non))] [],
    .iff (.isi (.var 1) .bool) [.ret (.band (.isi (.var 0) .bool) (.cmp .eq (.var 0) (.var 1)))] [],
    .iff (.isi (.var 1) .int) [.ret (.band (.call a [(.var 0)] [none]) (.cmp .eq (.var 0) (.var 1)))] [],
    .iff (.isi (.var 1) .str) [.ret (.band (.isi (.var 0) .str) (.cmp .eq (.var 0) (.var 1)))] [],
    .iff (.bor (.bnot (.isi (.var 0) .tuple)) (.cmp .ne (.fn .len [(.var 0)]) (.fn .len [(.var 1)]))) [.ret (.lit (.bl false))] [],
    .ret (.fn .all [(.lc (.call b [(.idx (.var 0) (.var 2)), (.idx (.var 1) (.var 2))] [none, none]) (.nm 2) (.irng1 (.fn .len [(.var 1)])) none)])] }
/- what a law compares: no lists, n deep -/
mutual
def okD : Nat → D → Bool
  | _, .non => true
  | _, .bl _ => true
  | _, .int _ => true
  | _, .str s => PyData.strOk s
  | n + 1, .tup xs => decide (xs.length ≤ 1000) && okDs n xs
  | _, _ => false
def okDs : Nat → List D → Bool
  | _, [] => true
  | n, x :: xs => okD n x && okDs n xs
end
theorem okDs_get : ∀ {n : Nat} {xs : List D} {j : Nat} {x : D}, okDs n xs = true → xs[j]? = some x → okD n x = true
  | _, [], _, _, _, h => by simp at h
  | n, y :: r, j, x, h, e => by
    have h' : okD n y = true ∧ okDs n r = true := by cases n <;> exact Bool.and_eq_true_iff.mp h
    cases j with
    | zero => simp at e; subst e; exact h'.1
    | succ j => exact okDs_get h'.2 (by simpa using e)
theorem okDs_ints : ∀ (n : Nat) (ns : List Int), okDs n (ns.map D.int) = true
  | n, [] => by cases n <;> rfl
  | n, x :: r => by
    have := okDs_ints n r
    cases n <;> simp [okDs, okD, this]
theorem eqB_self (b : Bool) : eqD (.bl b) (.bl b) = true := by cases b <;> rfl
theorem eqS_self (s : Str) : eqD (.str s) (.str s) = true := beq_self_eq_true s
theorem shS {n : Nat} {s : Str} (h : PyData.strOk s = true) : shp n (.str s) = true := by cases n <;> exact h
theorem ixn_of {n j : Nat} (h : j < n) : ixn n (j : Int) = some j := by unfold ixn; rw [if_pos (by omega), if_pos (by omega)]; simp
theorem allT_true : ∀ xs : List D, boolsD (xs.filterMap fun _ => some (D.bl true)) = some (xs.map fun _ => true)
  | [] => rfl
  | x :: r => by simp only [List.filterMap_cons, boolsD, allT_true r, List.map_cons, Option.map_some]
theorem all_id_true : ∀ xs : List D, (xs.map fun _ => true).all id = true
  | [] => rfl
  | x :: r => by simp
theorem is_run {a b : Nat} (hb : fs b = some (fnIs a b)) (ha : fs a = some fnIsInt) : ∀ (n : Nat) (d : D), okD n d = true → ∀ k, n < k → ∃ ρ, run fs gl w (k + 1) b [d, d] = some (.bl true, ρ) := by
  intro n
  induction n with
  | zero =>
    intro d hd k hk
    obtain ⟨k, rfl⟩ : ∃ j, k = j + 1 := ⟨k - 1, by omega⟩
    cases d with
    | non => exact ⟨[some .non, some .non, none], run_rt hb rfl (by simp only [g_0, g_s, v_lit, v_var, v_mov, v_own, v_chk, v_bin, v_neg, v_cmp, v_cmp2, v_band, v_bor, v_bnot, v_ite, v_tup, v_lst, v_dct, v_idx, v_slc, v_rev, v_fn, v_isi, v_mth, v_mut, v_call, v_lc, v_ge, v_lof, t_lit, t_var, t_cmp, t_cmp2, t_bin, t_idx, t_fn, t_isi, t_call, t_ge, t_slc, t_mth, t_band, t_bor, t_bnot, i_var, i_call, i_idx, i_bin, i_fn, i_tup, i_lst, i_slc, i_lce, i_ck, i_r1, i_r2, i_r3, i_en, i_zp, i_rv, a_nil, a_cons, o_none, o_some, c_none, c_some, s_nil, s_cons, x_set, x_aug, x_put, x_ex, x_ret, x_ret0, x_iff, x_whl, x_for, x_brk, x_cnt, x_pas, x_doc, b_nm, b_tup, b_lst, b_nil, b_cons, k_nil, k_none, kP, kM, kPI, kPB, kPN, kPO, kPT, kPL, kPE, kPV, kPZ, kOwn, kChk, kBin2, kBin, kNeg, kCmpB, kCmp, kChA, kCh2, kCh, kAnd2, kAnd, kOr2, kOr, kNot, kIte, kTup, kLst, kIdx2, kIdx, kSl3, kSl2, kSl, kRev, kFn, kIsi, kMth2, kMth, kMu3, kMu2, kMu1, kMu, kCa3, kCa2, kCa, kLc2, kLc, kGe2, kGe, kLof, kT, kAndT, kOrT, kNotT, kI, kCk, kR1, kR2b, kR2, kR3c, kR3b, kR3, kEn, kZp2, kZp, kRv, kA2, kA, kO, kSet, kNx, kRt, kSt, kAu2, kAu, kPu3, kPu2, kPu1, kPu, kIf, kFor, kBt, p_add, p_sub, p_mul, p_fdiv, p_mod, p_pow, p_addL, p_addT, p_mulL, q_lt, q_le, q_gt, q_ge, q_eq, q_ne, q_eqT, q_neT, q_eqL, q_neL, q_eqB, q_eqS, q_is, q_isnot, q_inL, q_niL, q_inT, q_niT, u_non, u_bl, u_int, u_lst, u_tup, d_L, d_T, n_n, n_i, n_b, n_s, n_t, n_l, l_lenL, l_lenT, l_lenS, l_abs, l_int, l_min, l_max, l_tupL, l_tupT, l_lstL, l_lstT, l_minL, l_maxL, au_add, au_sub, au_str, l_all, l_any, l_sum, l_srtL, l_srtT, w_ints, w_pures, w_bools, w_sort, w_shps, w_shpI, w_shpB, w_shpN, w_shpT, w_shpL, w_eqs, w_eqT, w_eqL, m_app, y_n_int, y_n_bool, y_n_str, y_n_tuple, y_n_list, y_b_int, y_b_bool, y_b_str, y_b_tuple, y_b_list, y_i_int, y_i_bool, y_i_str, y_i_tuple, y_i_list, y_s_int, y_s_bool, y_s_str, y_s_tuple, y_s_list, y_t_int, y_t_bool, y_t_str, y_t_tuple, y_t_list, y_l_int, y_l_bool, y_l_str, y_l_tuple, y_l_list, r_T, r_L, sl_L, sl_T, wk_L, wk_T, ix_L, lo_L, lo_T, isL_l, isI_i, isB_b, pu_i, pu_b, pu_s, pu_n, pu_t, ow_i, ow_b, ow_l, ow_t, thenS, startE, List.map_cons, List.map_nil, List.cons_append, List.nil_append, List.length_cons, List.length_nil, List.length_replicate, List.replicate, List.set_cons_zero, List.set_cons_succ, List.set_nil, Option.bind_some, Option.map_some, Option.bind_none, Option.map_none, Nat.sub_zero, Nat.reduceSub, Nat.reduceAdd, Bool.not_true, Bool.not_false, if_true, if_false, reduceIte, Bool.false_eq_true, Bool.true_and, Bool.and_true, Bool.false_and, Bool.and_false, decide_true, decide_false, List.tail_cons, List.isEmpty_cons, List.isEmpty_nil, ne_eq, not_true_eq_false, not_false_eq_true, reduceCtorEq, List.append_nil, List.singleton_append, fnIs])⟩
    | bl c => exact ⟨[some (.bl c), some (.bl c), none], run_rt hb rfl (by simp only [g_0, g_s, v_lit, v_var, v_mov, v_own, v_chk, v_bin, v_neg, v_cmp, v_cmp2, v_band, v_bor, v_bnot, v_ite, v_tup, v_lst, v_dct, v_idx, v_slc, v_rev, v_fn, v_isi, v_mth, v_mut, v_call, v_lc, v_ge, v_lof, t_lit, t_var, t_cmp, t_cmp2, t_bin, t_idx, t_fn, t_isi, t_call, t_ge, t_slc, t_mth, t_band, t_bor, t_bnot, i_var, i_call, i_idx, i_bin, i_fn, i_tup, i_lst, i_slc, i_lce, i_ck, i_r1, i_r2, i_r3, i_en, i_zp, i_rv, a_nil, a_cons, o_none, o_some, c_none, c_some, s_nil, s_cons, x_set, x_aug, x_put, x_ex, x_ret, x_ret0, x_iff, x_whl, x_for, x_brk, x_cnt, x_pas, x_doc, b_nm, b_tup, b_lst, b_nil, b_cons, k_nil, k_none, kP, kM, kPI, kPB, kPN, kPO, kPT, kPL, kPE, kPV, kPZ, kOwn, kChk, kBin2, kBin, kNeg, kCmpB, kCmp, kChA, kCh2, kCh, kAnd2, kAnd, kOr2, kOr, kNot, kIte, kTup, kLst, kIdx2, kIdx, kSl3, kSl2, kSl, kRev, kFn, kIsi, kMth2, kMth, kMu3, kMu2, kMu1, kMu, kCa3, kCa2, kCa, kLc2, kLc, kGe2, kGe, kLof, kT, kAndT, kOrT, kNotT, kI, kCk, kR1, kR2b, kR2, kR3c, kR3b, kR3, kEn, kZp2, kZp, kRv, kA2, kA, kO, kSet, kNx, kRt, kSt, kAu2, kAu, kPu3, kPu2, kPu1, kPu, kIf, kFor, kBt, p_add, p_sub, p_mul, p_fdiv, p_mod, p_pow, p_addL, p_addT, p_mulL, q_lt, q_le, q_gt, q_ge, q_eq, q_ne, q_eqT, q_neT, q_eqL, q_neL, q_eqB, q_eqS, q_is, q_isnot, q_inL, q_niL, q_inT, q_niT, u_non, u_bl, u_int, u_lst, u_tup, d_L, d_T, n_n, n_i, n_b, n_s, n_t, n_l, l_lenL, l_lenT, l_lenS, l_abs, l_int, l_min, l_max, l_tupL, l_tupT, l_lstL, l_lstT, l_minL, l_maxL, au_add, au_sub, au_str, l_all, l_any, l_sum, l_srtL, l_srtT, w_ints, w_pures, w_bools, w_sort, w_shps, w_shpI, w_shpB, w_shpN, w_shpT, w_shpL, w_eqs, w_eqT, w_eqL, m_app, y_n_int, y_n_bool, y_n_str, y_n_tuple, y_n_list, y_b_int, y_b_bool, y_b_str, y_b_tuple, y_b_list, y_i_int, y_i_bool, y_i_str, y_i_tuple, y_i_list, y_s_int, y_s_bool, y_s_str, y_s_tuple, y_s_list, y_t_int, y_t_bool, y_t_str, y_t_tuple, y_t_list, y_l_int, y_l_bool, y_l_str, y_l_tuple, y_l_list, r_T, r_L, sl_L, sl_T, wk_L, wk_T, ix_L, lo_L, lo_T, isL_l, isI_i, isB_b, pu_i, pu_b, pu_s, pu_n, pu_t, ow_i, ow_b, ow_l, ow_t, thenS, startE, List.map_cons, List.map_nil, List.cons_append, List.nil_append, List.length_cons, List.length_nil, List.length_replicate, List.replicate, List.set_cons_zero, List.set_cons_succ, List.set_nil, Option.bind_some, Option.map_some, Option.bind_none, Option.map_none, Nat.sub_zero, Nat.reduceSub, Nat.reduceAdd, Bool.not_true, Bool.not_false, if_true, if_false, reduceIte, Bool.false_eq_true, Bool.true_and, Bool.and_true, Bool.false_and, Bool.and_false, decide_true, decide_false, List.tail_cons, List.isEmpty_cons, List.isEmpty_nil, ne_eq, not_true_eq_false, not_false_eq_true, reduceCtorEq, List.append_nil, List.singleton_append, fnIs, eqB_self])⟩
    | int z => exact ⟨[some (.int z), some (.int z), none], run_rt hb rfl (by simp only [g_0, g_s, v_lit, v_var, v_mov, v_own, v_chk, v_bin, v_neg, v_cmp, v_cmp2, v_band, v_bor, v_bnot, v_ite, v_tup, v_lst, v_dct, v_idx, v_slc, v_rev, v_fn, v_isi, v_mth, v_mut, v_call, v_lc, v_ge, v_lof, t_lit, t_var, t_cmp, t_cmp2, t_bin, t_idx, t_fn, t_isi, t_call, t_ge, t_slc, t_mth, t_band, t_bor, t_bnot, i_var, i_call, i_idx, i_bin, i_fn, i_tup, i_lst, i_slc, i_lce, i_ck, i_r1, i_r2, i_r3, i_en, i_zp, i_rv, a_nil, a_cons, o_none, o_some, c_none, c_some, s_nil, s_cons, x_set, x_aug, x_put, x_ex, x_ret, x_ret0, x_iff, x_whl, x_for, x_brk, x_cnt, x_pas, x_doc, b_nm, b_tup, b_lst, b_nil, b_cons, k_nil, k_none, kP, kM, kPI, kPB, kPN, kPO, kPT, kPL, kPE, kPV, kPZ, kOwn, kChk, kBin2, kBin, kNeg, kCmpB, kCmp, kChA, kCh2, kCh, kAnd2, kAnd, kOr2, kOr, kNot, kIte, kTup, kLst, kIdx2, kIdx, kSl3, kSl2, kSl, kRev, kFn, kIsi, kMth2, kMth, kMu3, kMu2, kMu1, kMu, kCa3, kCa2, kCa, kLc2, kLc, kGe2, kGe, kLof, kT, kAndT, kOrT, kNotT, kI, kCk, kR1, kR2b, kR2, kR3c, kR3b, kR3, kEn, kZp2, kZp, kRv, kA2, kA, kO, kSet, kNx, kRt, kSt, kAu2, kAu, kPu3, kPu2, kPu1, kPu, kIf, kFor, kBt, p_add, p_sub, p_mul, p_fdiv, p_mod, p_pow, p_addL, p_addT, p_mulL, q_lt, q_le, q_gt, q_ge, q_eq, q_ne, q_eqT, q_neT, q_eqL, q_neL, q_eqB, q_eqS, q_is, q_isnot, q_inL, q_niL, q_inT, q_niT, u_non, u_bl, u_int, u_lst, u_tup, d_L, d_T, n_n, n_i, n_b, n_s, n_t, n_l, l_lenL, l_lenT, l_lenS, l_abs, l_int, l_min, l_max, l_tupL, l_tupT, l_lstL, l_lstT, l_minL, l_maxL, au_add, au_sub, au_str, l_all, l_any, l_sum, l_srtL, l_srtT, w_ints, w_pures, w_bools, w_sort, w_shps, w_shpI, w_shpB, w_shpN, w_shpT, w_shpL, w_eqs, w_eqT, w_eqL, m_app, y_n_int, y_n_bool, y_n_str, y_n_tuple, y_n_list, y_b_int, y_b_bool, y_b_str, y_b_tuple, y_b_list, y_i_int, y_i_bool, y_i_str, y_i_tuple, y_i_list, y_s_int, y_s_bool, y_s_str, y_s_tuple, y_s_list, y_t_int, y_t_bool, y_t_str, y_t_tuple, y_t_list, y_l_int, y_l_bool, y_l_str, y_l_tuple, y_l_list, r_T, r_L, sl_L, sl_T, wk_L, wk_T, ix_L, lo_L, lo_T, isL_l, isI_i, isB_b, pu_i, pu_b, pu_s, pu_n, pu_t, ow_i, ow_b, ow_l, ow_t, thenS, startE, List.map_cons, List.map_nil, List.cons_append, List.nil_append, List.length_cons, List.length_nil, List.length_replicate, List.replicate, List.set_cons_zero, List.set_cons_succ, List.set_nil, Option.bind_some, Option.map_some, Option.bind_none, Option.map_none, Nat.sub_zero, Nat.reduceSub, Nat.reduceAdd, Bool.not_true, Bool.not_false, if_true, if_false, reduceIte, Bool.false_eq_true, Bool.true_and, Bool.and_true, Bool.false_and, Bool.and_false, decide_true, decide_false, List.tail_cons, List.isEmpty_cons, List.isEmpty_nil, ne_eq, not_true_eq_false, not_false_eq_true, reduceCtorEq, List.append_nil, List.singleton_append, fnIs, isInt_run ha, beq_self_eq_true])⟩
    | str s => exact ⟨[some (.str s), some (.str s), none], run_rt hb rfl (by simp only [g_0, g_s, v_lit, v_var, v_mov, v_own, v_chk, v_bin, v_neg, v_cmp, v_cmp2, v_band, v_bor, v_bnot, v_ite, v_tup, v_lst, v_dct, v_idx, v_slc, v_rev, v_fn, v_isi, v_mth, v_mut, v_call, v_lc, v_ge, v_lof, t_lit, t_var, t_cmp, t_cmp2, t_bin, t_idx, t_fn, t_isi, t_call, t_ge, t_slc, t_mth, t_band, t_bor, t_bnot, i_var, i_call, i_idx, i_bin, i_fn, i_tup, i_lst, i_slc, i_lce, i_ck, i_r1, i_r2, i_r3, i_en, i_zp, i_rv, a_nil, a_cons, o_none, o_some, c_none, c_some, s_nil, s_cons, x_set, x_aug, x_put, x_ex, x_ret, x_ret0, x_iff, x_whl, x_for, x_brk, x_cnt, x_pas, x_doc, b_nm, b_tup, b_lst, b_nil, b_cons, k_nil, k_none, kP, kM, kPI, kPB, kPN, kPO, kPT, kPL, kPE, kPV, kPZ, kOwn, kChk, kBin2, kBin, kNeg, kCmpB, kCmp, kChA, kCh2, kCh, kAnd2, kAnd, kOr2, kOr, kNot, kIte, kTup, kLst, kIdx2, kIdx, kSl3, kSl2, kSl, kRev, kFn, kIsi, kMth2, kMth, kMu3, kMu2, kMu1, kMu, kCa3, kCa2, kCa, kLc2, kLc, kGe2, kGe, kLof, kT, kAndT, kOrT, kNotT, kI, kCk, kR1, kR2b, kR2, kR3c, kR3b, kR3, kEn, kZp2, kZp, kRv, kA2, kA, kO, kSet, kNx, kRt, kSt, kAu2, kAu, kPu3, kPu2, kPu1, kPu, kIf, kFor, kBt, p_add, p_sub, p_mul, p_fdiv, p_mod, p_pow, p_addL, p_addT, p_mulL, q_lt, q_le, q_gt, q_ge, q_eq, q_ne, q_eqT, q_neT, q_eqL, q_neL, q_eqB, q_eqS, q_is, q_isnot, q_inL, q_niL, q_inT, q_niT, u_non, u_bl, u_int, u_lst, u_tup, d_L, d_T, n_n, n_i, n_b, n_s, n_t, n_l, l_lenL, l_lenT, l_lenS, l_abs, l_int, l_min, l_max, l_tupL, l_tupT, l_lstL, l_lstT, l_minL, l_maxL, au_add, au_sub, au_str, l_all, l_any, l_sum, l_srtL, l_srtT, w_ints, w_pures, w_bools, w_sort, w_shps, w_shpI, w_shpB, w_shpN, w_shpT, w_shpL, w_eqs, w_eqT, w_eqL, m_app, y_n_int, y_n_bool, y_n_str, y_n_tuple, y_n_list, y_b_int, y_b_bool, y_b_str, y_b_tuple, y_b_list, y_i_int, y_i_bool, y_i_str, y_i_tuple, y_i_list, y_s_int, y_s_bool, y_s_str, y_s_tuple, y_s_list, y_t_int, y_t_bool, y_t_str, y_t_tuple, y_t_list, y_l_int, y_l_bool, y_l_str, y_l_tuple, y_l_list, r_T, r_L, sl_L, sl_T, wk_L, wk_T, ix_L, lo_L, lo_T, isL_l, isI_i, isB_b, pu_i, pu_b, pu_s, pu_n, pu_t, ow_i, ow_b, ow_l, ow_t, thenS, startE, List.map_cons, List.map_nil, List.cons_append, List.nil_append, List.length_cons, List.length_nil, List.length_replicate, List.replicate, List.set_cons_zero, List.set_cons_succ, List.set_nil, Option.bind_some, Option.map_some, Option.bind_none, Option.map_none, Nat.sub_zero, Nat.reduceSub, Nat.reduceAdd, Bool.not_true, Bool.not_false, if_true, if_false, reduceIte, Bool.false_eq_true, Bool.true_and, Bool.and_true, Bool.false_and, Bool.and_false, decide_true, decide_false, List.tail_cons, List.isEmpty_cons, List.isEmpty_nil, ne_eq, not_true_eq_false, not_false_eq_true, reduceCtorEq, List.append_nil, List.singleton_append, fnIs, eqS_self, shS (show PyData.strOk s = true from hd)])⟩
    | _ => cases hd
  | succ n ih =>
    intro d hd k hk
    obtain ⟨k, rfl⟩ : ∃ j, k = j + 1 := ⟨k - 1, by omega⟩
    cases d with
    | non => exact ⟨[some .non, some .non, none], run_rt hb rfl (by simp only [g_0, g_s, v_lit, v_var, v_mov, v_own, v_chk, v_bin, v_neg, v_cmp, v_cmp2, v_band, v_bor, v_bnot, v_ite, v_tup, v_lst, v_dct, v_idx, v_slc, v_rev, v_fn, v_isi, v_mth, v_mut, v_call, v_lc, v_ge, v_lof, t_lit, t_var, t_cmp, t_cmp2, t_bin, t_idx, t_fn, t_isi, t_call, t_ge, t_slc, t_mth, t_band, t_bor, t_bnot, i_var, i_call, i_idx, i_bin, i_fn, i_tup, i_lst, i_slc, i_lce, i_ck, i_r1, i_r2, i_r3, i_en, i_zp, i_rv, a_nil, a_cons, o_none, o_some, c_none, c_some, s_nil, s_cons, x_set, x_aug, x_put, x_ex, x_ret, x_ret0, x_iff, x_whl, x_for, x_brk, x_cnt, x_pas, x_doc, b_nm, b_tup, b_lst, b_nil, b_cons, k_nil, k_none, kP, kM, kPI, kPB, kPN, kPO, kPT, kPL, kPE, kPV, kPZ, kOwn, kChk, kBin2, kBin, kNeg, kCmpB, kCmp, kChA, kCh2, kCh, kAnd2, kAnd, kOr2, kOr, kNot, kIte, kTup, kLst, kIdx2, kIdx, kSl3, kSl2, kSl, kRev, kFn, kIsi, kMth2, kMth, kMu3, kMu2, kMu1, kMu, kCa3, kCa2, kCa, kLc2, kLc, kGe2, kGe, kLof, kT, kAndT, kOrT, kNotT, kI, kCk, kR1, kR2b, kR2, kR3c, kR3b, kR3, kEn, kZp2, kZp, kRv, kA2, kA, kO, kSet, kNx, kRt, kSt, kAu2, kAu, kPu3, kPu2, kPu1, kPu, kIf, kFor, kBt, p_add, p_sub, p_mul, p_fdiv, p_mod, p_pow, p_addL, p_addT, p_mulL, q_lt, q_le, q_gt, q_ge, q_eq, q_ne, q_eqT, q_neT, q_eqL, q_neL, q_eqB, q_eqS, q_is, q_isnot, q_inL, q_niL, q_inT, q_niT, u_non, u_bl, u_int, u_lst, u_tup, d_L, d_T, n_n, n_i, n_b, n_s, n_t, n_l, l_lenL, l_lenT, l_lenS, l_abs, l_int, l_min, l_max, l_tupL, l_tupT, l_lstL, l_lstT, l_minL, l_maxL, au_add, au_sub, au_str, l_all, l_any, l_sum, l_srtL, l_srtT, w_ints, w_pures, w_bools, w_sort, w_shps, w_shpI, w_shpB, w_shpN, w_shpT, w_shpL, w_eqs, w_eqT, w_eqL, m_app, y_n_int, y_n_bool, y_n_str, y_n_tuple, y_n_list, y_b_int, y_b_bool, y_b_str, y_b_tuple, y_b_list, y_i_int, y_i_bool, y_i_str, y_i_tuple, y_i_list, y_s_int, y_s_bool, y_s_str, y_s_tuple, y_s_list, y_t_int, y_t_bool, y_t_str, y_t_tuple, y_t_list, y_l_int, y_l_bool, y_l_str, y_l_tuple, y_l_list, r_T, r_L, sl_L, sl_T, wk_L, wk_T, ix_L, lo_L, lo_T, isL_l, isI_i, isB_b, pu_i, pu_b, pu_s, pu_n, pu_t, ow_i, ow_b, ow_l, ow_t, thenS, startE, List.map_cons, List.map_nil, List.cons_append, List.nil_append, List.length_cons, List.length_nil, List.length_replicate, List.replicate, List.set_cons_zero, List.set_cons_succ, List.set_nil, Option.bind_some, Option.map_some, Option.bind_none, Option.map_none, Nat.sub_zero, Nat.reduceSub, Nat.reduceAdd, Bool.not_true, Bool.not_false, if_true, if_false, reduceIte, Bool.false_eq_true, Bool.true_and, Bool.and_true, Bool.false_and, Bool.and_false, decide_true, decide_false, List.tail_cons, List.isEmpty_cons, List.isEmpty_nil, ne_eq, not_true_eq_false, not_false_eq_true, reduceCtorEq, List.append_nil, List.singleton_append, fnIs])⟩
    | bl c => exact ⟨[some (.bl c), some (.bl c), none], run_rt hb rfl (by simp only [g_0, g_s, v_lit, v_var, v_mov, v_own, v_chk, v_bin, v_neg, v_cmp, v_cmp2, v_band, v_bor, v_bnot, v_ite, v_tup, v_lst, v_dct, v_idx, v_slc, v_rev, v_fn, v_isi, v_mth, v_mut, v_call, v_lc, v_ge, v_lof, t_lit, t_var, t_cmp, t_cmp2, t_bin, t_idx, t_fn, t_isi, t_call, t_ge, t_slc, t_mth, t_band, t_bor, t_bnot, i_var, i_call, i_idx, i_bin, i_fn, i_tup, i_lst, i_slc, i_lce, i_ck, i_r1, i_r2, i_r3, i_en, i_zp, i_rv, a_nil, a_cons, o_none, o_some, c_none, c_some, s_nil, s_cons, x_set, x_aug, x_put, x_ex, x_ret, x_ret0, x_iff, x_whl, x_for, x_brk, x_cnt, x_pas, x_doc, b_nm, b_tup, b_lst, b_nil, b_cons, k_nil, k_none, kP, kM, kPI, kPB, kPN, kPO, kPT, kPL, kPE, kPV, kPZ, kOwn, kChk, kBin2, kBin, kNeg, kCmpB, kCmp, kChA, kCh2, kCh, kAnd2, kAnd, kOr2, kOr, kNot, kIte, kTup, kLst, kIdx2, kIdx, kSl3, kSl2, kSl, kRev, kFn, kIsi, kMth2, kMth, kMu3, kMu2, kMu1, kMu, kCa3, kCa2, kCa, kLc2, kLc, kGe2, kGe, kLof, kT, kAndT, kOrT, kNotT, kI, kCk, kR1, kR2b, kR2, kR3c, kR3b, kR3, kEn, kZp2, kZp, kRv, kA2, kA, kO, kSet, kNx, kRt, kSt, kAu2, kAu, kPu3, kPu2, kPu1, kPu, kIf, kFor, kBt, p_add, p_sub, p_mul, p_fdiv, p_mod, p_pow, p_addL, p_addT, p_mulL, q_lt, q_le, q_gt, q_ge, q_eq, q_ne, q_eqT, q_neT, q_eqL, q_neL, q_eqB, q_eqS, q_is, q_isnot, q_inL, q_niL, q_inT, q_niT, u_non, u_bl, u_int, u_lst, u_tup, d_L, d_T, n_n, n_i, n_b, n_s, n_t, n_l, l_lenL, l_lenT, l_lenS, l_abs, l_int, l_min, l_max, l_tupL, l_tupT, l_lstL, l_lstT, l_minL, l_maxL, au_add, au_sub, au_str, l_all, l_any, l_sum, l_srtL, l_srtT, w_ints, w_pures, w_bools, w_sort, w_shps, w_shpI, w_shpB, w_shpN, w_shpT, w_shpL, w_eqs, w_eqT, w_eqL, m_app, y_n_int, y_n_bool, y_n_str, y_n_tuple, y_n_list, y_b_int, y_b_bool, y_b_str, y_b_tuple, y_b_list, y_i_int, y_i_bool, y_i_str, y_i_tuple, y_i_list, y_s_int, y_s_bool, y_s_str, y_s_tuple, y_s_list, y_t_int, y_t_bool, y_t_str, y_t_tuple, y_t_list, y_l_int, y_l_bool, y_l_str, y_l_tuple, y_l_list, r_T, r_L, sl_L, sl_T, wk_L, wk_T, ix_L, lo_L, lo_T, isL_l, isI_i, isB_b, pu_i, pu_b, pu_s, pu_n, pu_t, ow_i, ow_b, ow_l, ow_t, thenS, startE, List.map_cons, List.map_nil, List.cons_append, List.nil_append, List.length_cons, List.length_nil, List.length_replicate, List.replicate, List.set_cons_zero, List.set_cons_succ, List.set_nil, Option.bind_some, Option.map_some, Option.bind_none, Option.map_none, Nat.sub_zero, Nat.reduceSub, Nat.reduceAdd, Bool.not_true, Bool.not_false, if_true, if_false, reduceIte, Bool.false_eq_true, Bool.true_and, Bool.and_true, Bool.false_and, Bool.and_false, decide_true, decide_false, List.tail_cons, List.isEmpty_cons, List.isEmpty_nil, ne_eq, not_true_eq_false, not_false_eq_true, reduceCtorEq, List.append_nil, List.singleton_append, fnIs, eqB_self])⟩
    | int z => exact ⟨[some (.int z), some (.int z), none], run_rt hb rfl (by simp only [g_0, g_s, v_lit, v_var, v_mov, v_own, v_chk, v_bin, v_neg, v_cmp, v_cmp2, v_band, v_bor, v_bnot, v_ite, v_tup, v_lst, v_dct, v_idx, v_slc, v_rev, v_fn, v_isi, v_mth, v_mut, v_call, v_lc, v_ge, v_lof, t_lit, t_var, t_cmp, t_cmp2, t_bin, t_idx, t_fn, t_isi, t_call, t_ge, t_slc, t_mth, t_band, t_bor, t_bnot, i_var, i_call, i_idx, i_bin, i_fn, i_tup, i_lst, i_slc, i_lce, i_ck, i_r1, i_r2, i_r3, i_en, i_zp, i_rv, a_nil, a_cons, o_none, o_some, c_none, c_some, s_nil, s_cons, x_set, x_aug, x_put, x_ex, x_ret, x_ret0, x_iff, x_whl, x_for, x_brk, x_cnt, x_pas, x_doc, b_nm, b_tup, b_lst, b_nil, b_cons, k_nil, k_none, kP, kM, kPI, kPB, kPN, kPO, kPT, kPL, kPE, kPV, kPZ, kOwn, kChk, kBin2, kBin, kNeg, kCmpB, kCmp, kChA, kCh2, kCh, kAnd2, kAnd, kOr2, kOr, kNot, kIte, kTup, kLst, kIdx2, kIdx, kSl3, kSl2, kSl, kRev, kFn, kIsi, kMth2, kMth, kMu3, kMu2, kMu1, kMu, kCa3, kCa2, kCa, kLc2, kLc, kGe2, kGe, kLof, kT, kAndT, kOrT, kNotT, kI, kCk, kR1, kR2b, kR2, kR3c, kR3b, kR3, kEn, kZp2, kZp, kRv, kA2, kA, kO, kSet, kNx, kRt, kSt, kAu2, kAu, kPu3, kPu2, kPu1, kPu, kIf, kFor, kBt, p_add, p_sub, p_mul, p_fdiv, p_mod, p_pow, p_addL, p_addT, p_mulL, q_lt, q_le, q_gt, q_ge, q_eq, q_ne, q_eqT, q_neT, q_eqL, q_neL, q_eqB, q_eqS, q_is, q_isnot, q_inL, q_niL, q_inT, q_niT, u_non, u_bl, u_int, u_lst, u_tup, d_L, d_T, n_n, n_i, n_b, n_s, n_t, n_l, l_lenL, l_lenT, l_lenS, l_abs, l_int, l_min, l_max, l_tupL, l_tupT, l_lstL, l_lstT, l_minL, l_maxL, au_add, au_sub, au_str, l_all, l_any, l_sum, l_srtL, l_srtT, w_ints, w_pures, w_bools, w_sort, w_shps, w_shpI, w_shpB, w_shpN, w_shpT, w_shpL, w_eqs, w_eqT, w_eqL, m_app, y_n_int, y_n_bool, y_n_str, y_n_tuple, y_n_list, y_b_int, y_b_bool, y_b_str, y_b_tuple, y_b_list, y_i_int, y_i_bool, y_i_str, y_i_tuple, y_i_list, y_s_int, y_s_bool, y_s_str, y_s_tuple, y_s_list, y_t_int, y_t_bool, y_t_str, y_t_tuple, y_t_list, y_l_int, y_l_bool, y_l_str, y_l_tuple, y_l_list, r_T, r_L, sl_L, sl_T, wk_L, wk_T, ix_L, lo_L, lo_T, isL_l, isI_i, isB_b, pu_i, pu_b, pu_s, pu_n, pu_t, ow_i, ow_b, ow_l, ow_t, thenS, startE, List.map_cons, List.map_nil, List.cons_append, List.nil_append, List.length_cons, List.length_nil, List.length_replicate, List.replicate, List.set_cons_zero, List.set_cons_succ, List.set_nil, Option.bind_some, Option.map_some, Option.bind_none, Option.map_none, Nat.sub_zero, Nat.reduceSub, Nat.reduceAdd, Bool.not_true, Bool.not_false, if_true, if_false, reduceIte, Bool.false_eq_true, Bool.true_and, Bool.and_true, Bool.false_and, Bool.and_false, decide_true, decide_false, List.tail_cons, List.isEmpty_cons, List.isEmpty_nil, ne_eq, not_true_eq_false, not_false_eq_true, reduceCtorEq, List.append_nil, List.singleton_append, fnIs, isInt_run ha, beq_self_eq_true])⟩
    | str s => exact ⟨[some (.str s), some (.str s), none], run_rt hb rfl (by simp only [g_0, g_s, v_lit, v_var, v_mov, v_own, v_chk, v_bin, v_neg, v_cmp, v_cmp2, v_band, v_bor, v_bnot, v_ite, v_tup, v_lst, v_dct, v_idx, v_slc, v_rev, v_fn, v_isi, v_mth, v_mut, v_call, v_lc, v_ge, v_lof, t_lit, t_var, t_cmp, t_cmp2, t_bin, t_idx, t_fn, t_isi, t_call, t_ge, t_slc, t_mth, t_band, t_bor, t_bnot, i_var, i_call, i_idx, i_bin, i_fn, i_tup, i_lst, i_slc, i_lce, i_ck, i_r1, i_r2, i_r3, i_en, i_zp, i_rv, a_nil, a_cons, o_none, o_some, c_none, c_some, s_nil, s_cons, x_set, x_aug, x_put, x_ex, x_ret, x_ret0, x_iff, x_whl, x_for, x_brk, x_cnt, x_pas, x_doc, b_nm, b_tup, b_lst, b_nil, b_cons, k_nil, k_none, kP, kM, kPI, kPB, kPN, kPO, kPT, kPL, kPE, kPV, kPZ, kOwn, kChk, kBin2, kBin, kNeg, kCmpB, kCmp, kChA, kCh2, kCh, kAnd2, kAnd, kOr2, kOr, kNot, kIte, kTup, kLst, kIdx2, kIdx, kSl3, kSl2, kSl, kRev, kFn, kIsi, kMth2, kMth, kMu3, kMu2, kMu1, kMu, kCa3, kCa2, kCa, kLc2, kLc, kGe2, kGe, kLof, kT, kAndT, kOrT, kNotT, kI, kCk, kR1, kR2b, kR2, kR3c, kR3b, kR3, kEn, kZp2, kZp, kRv, kA2, kA, kO, kSet, kNx, kRt, kSt, kAu2, kAu, kPu3, kPu2, kPu1, kPu, kIf, kFor, kBt, p_add, p_sub, p_mul, p_fdiv, p_mod, p_pow, p_addL, p_addT, p_mulL, q_lt, q_le, q_gt, q_ge, q_eq, q_ne, q_eqT, q_neT, q_eqL, q_neL, q_eqB, q_eqS, q_is, q_isnot, q_inL, q_niL, q_inT, q_niT, u_non, u_bl, u_int, u_lst, u_tup, d_L, d_T, n_n, n_i, n_b, n_s, n_t, n_l, l_lenL, l_lenT, l_lenS, l_abs, l_int, l_min, l_max, l_tupL, l_tupT, l_lstL, l_lstT, l_minL, l_maxL, au_add, au_sub, au_str, l_all, l_any, l_sum, l_srtL, l_srtT, w_ints, w_pures, w_bools, w_sort, w_shps, w_shpI, w_shpB, w_shpN, w_shpT, w_shpL, w_eqs, w_eqT, w_eqL, m_app, y_n_int, y_n_bool, y_n_str, y_n_tuple, y_n_list, y_b_int, y_b_bool, y_b_str, y_b_tuple, y_b_list, y_i_int, y_i_bool, y_i_str, y_i_tuple, y_i_list, y_s_int, y_s_bool, y_s_str, y_s_tuple, y_s_list, y_t_int, y_t_bool, y_t_str, y_t_tuple, y_t_list, y_l_int, y_l_bool, y_l_str, y_l_tuple, y_l_list, r_T, r_L, sl_L, sl_T, wk_L, wk_T, ix_L, lo_L, lo_T, isL_l, isI_i, isB_b, pu_i, pu_b, pu_s, pu_n, pu_t, ow_i, ow_b, ow_l, ow_t, thenS, startE, List.map_cons, List.map_nil, List.cons_append, List.nil_append, List.length_cons, List.length_nil, List.length_replicate, List.replicate, List.set_cons_zero, List.set_cons_succ, List.set_nil, Option.bind_some, Option.map_some, Option.bind_none, Option.map_none, Nat.sub_zero, Nat.reduceSub, Nat.reduceAdd, Bool.not_true, Bool.not_false, if_true, if_false, reduceIte, Bool.false_eq_true, Bool.true_and, Bool.and_true, Bool.false_and, Bool.and_false, decide_true, decide_false, List.tail_cons, List.isEmpty_cons, List.isEmpty_nil, ne_eq, not_true_eq_false, not_false_eq_true, reduceCtorEq, List.append_nil, List.singleton_append, fnIs, eqS_self, shS (show PyData.strOk s = true from hd)])⟩
    | tup xs =>
      have hd' : decide (xs.length ≤ 1000) = true ∧ okDs n xs = true := Bool.and_eq_true_iff.mp hd
      have hl := of_decide_eq_true hd'.1
      obtain ⟨ρ', e, c, rfl⟩ := lcL_inv (f := lcF (run fs gl w (k + 1)) gl (.nm 2) none (.call b [(.idx (.var 0) (.var 2)), (.idx (.var 1) (.var 2))] [none, none])) (I := fun ρ => ∃ c, ρ = [some (.tup xs), some (.tup xs), c]) (g := fun _ => some (.bl true)) (rngUp 0 xs.length) [some (.tup xs), some (.tup xs), none] [] ⟨none, rfl⟩ (fun x hx ρ hI => by
        obtain ⟨c, rfl⟩ := hI
        obtain ⟨j, hj⟩ := List.getElem?_of_mem hx
        obtain ⟨rfl, hjl⟩ := rng_get 0 hj
        rw [Int.zero_add]
        obtain ⟨ρr, er⟩ := ih xs[j] (okDs_get hd'.2 (List.getElem?_eq_getElem hjl)) k (by omega)
        exact ⟨[some (.tup xs), some (.tup xs), some (.int (j : Nat))], by simp only [g_0, g_s, v_lit, v_var, v_mov, v_own, v_chk, v_bin, v_neg, v_cmp, v_cmp2, v_band, v_bor, v_bnot, v_ite, v_tup, v_lst, v_dct, v_idx, v_slc, v_rev, v_fn, v_isi, v_mth, v_mut, v_call, v_lc, v_ge, v_lof, t_lit, t_var, t_cmp, t_cmp2, t_bin, t_idx, t_fn, t_isi, t_call, t_ge, t_slc, t_mth, t_band, t_bor, t_bnot, i_var, i_call, i_idx, i_bin, i_fn, i_tup, i_lst, i_slc, i_lce, i_ck, i_r1, i_r2, i_r3, i_en, i_zp, i_rv, a_nil, a_cons, o_none, o_some, c_none, c_some, s_nil, s_cons, x_set, x_aug, x_put, x_ex, x_ret, x_ret0, x_iff, x_whl, x_for, x_brk, x_cnt, x_pas, x_doc, b_nm, b_tup, b_lst, b_nil, b_cons, k_nil, k_none, kP, kM, kPI, kPB, kPN, kPO, kPT, kPL, kPE, kPV, kPZ, kOwn, kChk, kBin2, kBin, kNeg, kCmpB, kCmp, kChA, kCh2, kCh, kAnd2, kAnd, kOr2, kOr, kNot, kIte, kTup, kLst, kIdx2, kIdx, kSl3, kSl2, kSl, kRev, kFn, kIsi, kMth2, kMth, kMu3, kMu2, kMu1, kMu, kCa3, kCa2, kCa, kLc2, kLc, kGe2, kGe, kLof, kT, kAndT, kOrT, kNotT, kI, kCk, kR1, kR2b, kR2, kR3c, kR3b, kR3, kEn, kZp2, kZp, kRv, kA2, kA, kO, kSet, kNx, kRt, kSt, kAu2, kAu, kPu3, kPu2, kPu1, kPu, kIf, kFor, kBt, p_add, p_sub, p_mul, p_fdiv, p_mod, p_pow, p_addL, p_addT, p_mulL, q_lt, q_le, q_gt, q_ge, q_eq, q_ne, q_eqT, q_neT, q_eqL, q_neL, q_eqB, q_eqS, q_is, q_isnot, q_inL, q_niL, q_inT, q_niT, u_non, u_bl, u_int, u_lst, u_tup, d_L, d_T, n_n, n_i, n_b, n_s, n_t, n_l, l_lenL, l_lenT, l_lenS, l_abs, l_int, l_min, l_max, l_tupL, l_tupT, l_lstL, l_lstT, l_minL, l_maxL, au_add, au_sub, au_str, l_all, l_any, l_sum, l_srtL, l_srtT, w_ints, w_pures, w_bools, w_sort, w_shps, w_shpI, w_shpB, w_shpN, w_shpT, w_shpL, w_eqs, w_eqT, w_eqL, m_app, y_n_int, y_n_bool, y_n_str, y_n_tuple, y_n_list, y_b_int, y_b_bool, y_b_str, y_b_tuple, y_b_list, y_i_int, y_i_bool, y_i_str, y_i_tuple, y_i_list, y_s_int, y_s_bool, y_s_str, y_s_tuple, y_s_list, y_t_int, y_t_bool, y_t_str, y_t_tuple, y_t_list, y_l_int, y_l_bool, y_l_str, y_l_tuple, y_l_list, r_T, r_L, sl_L, sl_T, wk_L, wk_T, ix_L, lo_L, lo_T, isL_l, isI_i, isB_b, pu_i, pu_b, pu_s, pu_n, pu_t, ow_i, ow_b, ow_l, ow_t, thenS, startE, List.map_cons, List.map_nil, List.cons_append, List.nil_append, List.length_cons, List.length_nil, List.length_replicate, List.replicate, List.set_cons_zero, List.set_cons_succ, List.set_nil, Option.bind_some, Option.map_some, Option.bind_none, Option.map_none, Nat.sub_zero, Nat.reduceSub, Nat.reduceAdd, Bool.not_true, Bool.not_false, if_true, if_false, reduceIte, Bool.false_eq_true, Bool.true_and, Bool.and_true, Bool.false_and, Bool.and_false, decide_true, decide_false, List.tail_cons, List.isEmpty_cons, List.isEmpty_nil, ne_eq, not_true_eq_false, not_false_eq_true, reduceCtorEq, List.append_nil, List.singleton_append, lcF, lcC, lcT, lcK, slotsT, wipeE, ixn_of hjl, List.getElem?_eq_getElem hjl, er], _, rfl⟩) (by rw [rng_len]; show 0 + xs.length ≤ sz; unfold sz; omega)
      rw [List.nil_append] at e
      exact ⟨[some (.tup xs), some (.tup xs), none], run_rt hb rfl (by simp only [g_0, g_s, v_lit, v_var, v_mov, v_own, v_chk, v_bin, v_neg, v_cmp, v_cmp2, v_band, v_bor, v_bnot, v_ite, v_tup, v_lst, v_dct, v_idx, v_slc, v_rev, v_fn, v_isi, v_mth, v_mut, v_call, v_lc, v_ge, v_lof, t_lit, t_var, t_cmp, t_cmp2, t_bin, t_idx, t_fn, t_isi, t_call, t_ge, t_slc, t_mth, t_band, t_bor, t_bnot, i_var, i_call, i_idx, i_bin, i_fn, i_tup, i_lst, i_slc, i_lce, i_ck, i_r1, i_r2, i_r3, i_en, i_zp, i_rv, a_nil, a_cons, o_none, o_some, c_none, c_some, s_nil, s_cons, x_set, x_aug, x_put, x_ex, x_ret, x_ret0, x_iff, x_whl, x_for, x_brk, x_cnt, x_pas, x_doc, b_nm, b_tup, b_lst, b_nil, b_cons, k_nil, k_none, kP, kM, kPI, kPB, kPN, kPO, kPT, kPL, kPE, kPV, kPZ, kOwn, kChk, kBin2, kBin, kNeg, kCmpB, kCmp, kChA, kCh2, kCh, kAnd2, kAnd, kOr2, kOr, kNot, kIte, kTup, kLst, kIdx2, kIdx, kSl3, kSl2, kSl, kRev, kFn, kIsi, kMth2, kMth, kMu3, kMu2, kMu1, kMu, kCa3, kCa2, kCa, kLc2, kLc, kGe2, kGe, kLof, kT, kAndT, kOrT, kNotT, kI, kCk, kR1, kR2b, kR2, kR3c, kR3b, kR3, kEn, kZp2, kZp, kRv, kA2, kA, kO, kSet, kNx, kRt, kSt, kAu2, kAu, kPu3, kPu2, kPu1, kPu, kIf, kFor, kBt, p_add, p_sub, p_mul, p_fdiv, p_mod, p_pow, p_addL, p_addT, p_mulL, q_lt, q_le, q_gt, q_ge, q_eq, q_ne, q_eqT, q_neT, q_eqL, q_neL, q_eqB, q_eqS, q_is, q_isnot, q_inL, q_niL, q_inT, q_niT, u_non, u_bl, u_int, u_lst, u_tup, d_L, d_T, n_n, n_i, n_b, n_s, n_t, n_l, l_lenL, l_lenT, l_lenS, l_abs, l_int, l_min, l_max, l_tupL, l_tupT, l_lstL, l_lstT, l_minL, l_maxL, au_add, au_sub, au_str, l_all, l_any, l_sum, l_srtL, l_srtT, w_ints, w_pures, w_bools, w_sort, w_shps, w_shpI, w_shpB, w_shpN, w_shpT, w_shpL, w_eqs, w_eqT, w_eqL, m_app, y_n_int, y_n_bool, y_n_str, y_n_tuple, y_n_list, y_b_int, y_b_bool, y_b_str, y_b_tuple, y_b_list, y_i_int, y_i_bool, y_i_str, y_i_tuple, y_i_list, y_s_int, y_s_bool, y_s_str, y_s_tuple, y_s_list, y_t_int, y_t_bool, y_t_str, y_t_tuple, y_t_list, y_l_int, y_l_bool, y_l_str, y_l_tuple, y_l_list, r_T, r_L, sl_L, sl_T, wk_L, wk_T, ix_L, lo_L, lo_T, isL_l, isI_i, isB_b, pu_i, pu_b, pu_s, pu_n, pu_t, ow_i, ow_b, ow_l, ow_t, thenS, startE, List.map_cons, List.map_nil, List.cons_append, List.nil_append, List.length_cons, List.length_nil, List.length_replicate, List.replicate, List.set_cons_zero, List.set_cons_succ, List.set_nil, Option.bind_some, Option.map_some, Option.bind_none, Option.map_none, Nat.sub_zero, Nat.reduceSub, Nat.reduceAdd, Bool.not_true, Bool.not_false, if_true, if_false, reduceIte, Bool.false_eq_true, Bool.true_and, Bool.and_true, Bool.false_and, Bool.and_false, decide_true, decide_false, List.tail_cons, List.isEmpty_cons, List.isEmpty_nil, ne_eq, not_true_eq_false, not_false_eq_true, reduceCtorEq, List.append_nil, List.singleton_append, fnIs, beq_self_eq_true, rng1_of (show xs.length < 1073741824 by omega), e, allT_true, all_id_true, slotsT, restE])⟩
    | _ => cases hd
end
end Vi

set_option Elab.async false
set_option linter.all false
set_option maxRecDepth 100000
set_option maxHeartbeats 4000000
/-! What a run does with less known, it does with more known: slots that are not known may hold anything. -/
namespace Vi
open PySem L2

/-- what is known of the slots -/
inductive Le : Env → Env → Prop
  | nil : Le [] []
  | cons {a b : Option D} {r s : Env} : (a = none ∨ a = b) → Le r s → Le (a :: r) (b :: s)
theorem Le.refl : ∀ ρ, Le ρ ρ
  | [] => .nil
  | _ :: r => .cons (.inr rfl) (Le.refl r)
theorem Le.trans {a b c : Env} (h : Le a b) (h' : Le b c) : Le a c := by
  induction h generalizing c with
  | nil => exact h'
  | cons e _ ih =>
    cases h' with
    | cons e' h2 =>
      refine .cons ?_ (ih h2)
      rcases e with e | e
      · exact .inl e
      · subst e; exact e'
theorem Le.len {a b : Env} (h : Le a b) : a.length = b.length := by
  induction h with
  | nil => rfl
  | cons _ _ ih => simp [ih]
theorem Le.get {a b : Env} (h : Le a b) {i : Nat} {d : D} (e : getS a i = some d) : getS b i = some d := by
  induction h generalizing i with
  | nil => exact e
  | cons e' _ ih =>
    cases i with
    | zero =>
      rcases e' with e' | e'
      · subst e'; cases e
      · subst e'; exact e
    | succ i => exact ih (i := i) e
theorem Le.set {a b : Env} (h : Le a b) (i : Nat) (v : Option D) : Le (a.set i v) (b.set i v) := by
  induction h generalizing i with
  | nil => exact .nil
  | cons e' h' ih =>
    cases i with
    | zero => exact .cons (.inr rfl) h'
    | succ i => exact .cons e' (ih i)
theorem Le.setN {a b : Env} (h : Le a b) (i : Nat) (v : Option D) : Le (a.set i none) (b.set i v) := by
  induction h generalizing i with
  | nil => exact .nil
  | cons e' h' ih =>
    cases i with
    | zero => exact .cons (.inl rfl) h'
    | succ i => exact .cons e' (ih i)
theorem Le.setG {a b a' b' : Env} (h : Le a b) (h' : Le a' b') (i : Nat) : Le (a.set i (getS a' i)) (b.set i (getS b' i)) := by
  cases e : getS a' i with
  | none => exact h.setN i _
  | some d => rw [h'.get e]; exact h.set i _
theorem Le.wipe {a b : Env} (h : Le a b) : ∀ vs, Le (wipeE a vs) (wipeE b vs)
  | [] => h
  | v :: vs => (Le.wipe h vs).set v none
theorem Le.rest {a b a' b' : Env} (h : Le a b) (h' : Le a' b') : ∀ vs, Le (restE a a' vs) (restE b b' vs)
  | [] => h'
  | v :: vs => (Le.rest h h' vs).setG h v

/-- less known, the same -/
def Mo {α : Type} (f g : Env → Option (α × Env)) : Prop := ∀ ρ0 ρ x ρ1, Le ρ0 ρ → f ρ0 = some (x, ρ1) → ∃ ρ', g ρ = some (x, ρ') ∧ Le ρ1 ρ'
section
variable {α β : Type} {f g : Env → Option (α × Env)}
theorem Mo.bind {F G : α → Env → Option (β × Env)} (h : Mo f g) (h' : ∀ x, Mo (F x) (G x)) : Mo (fun ρ => (f ρ).bind fun p => F p.1 p.2) (fun ρ => (g ρ).bind fun p => G p.1 p.2) := by
  intro ρ0 ρ x ρ1 hl e
  obtain ⟨⟨y, ρ2⟩, e1, e2⟩ := Option.bind_eq_some_iff.mp e
  obtain ⟨ρ3, e3, hl2⟩ := h _ _ _ _ hl e1
  obtain ⟨ρ4, e4, hl4⟩ := h' y _ _ _ _ hl2 e2
  exact ⟨ρ4, by show (g ρ).bind _ = _; rw [e3]; exact e4, hl4⟩
theorem Mo.pure (x : α) : Mo (fun ρ => some (x, ρ)) (fun ρ => some (x, ρ)) := by
  intro ρ0 ρ y ρ1 hl e
  cases e
  exact ⟨ρ, rfl, hl⟩
theorem Mo.none {g : Env → Option (α × Env)} : Mo (fun _ => none) g := fun _ _ _ _ _ e => nomatch e
theorem Mo.optm {γ : Type} (o : Option γ) (h : γ → α) : Mo (fun ρ => o.map fun d => (h d, ρ)) (fun ρ => o.map fun d => (h d, ρ)) := by
  intro ρ0 ρ y ρ1 hl e
  obtain ⟨d, rfl, e2⟩ := Option.map_eq_some_iff.mp e
  cases e2
  exact ⟨ρ, rfl, hl⟩
theorem Mo.mapm {γ : Type} {f g : Env → Option (α × Env)} (hf : Mo f g) (h : α → γ) : Mo (fun ρ => (f ρ).map fun p => (h p.1, p.2)) (fun ρ => (g ρ).map fun p => (h p.1, p.2)) := by
  intro ρ0 ρ y ρ1 hl e
  obtain ⟨⟨d, ρ2⟩, e1, e2⟩ := Option.map_eq_some_iff.mp e
  cases e2
  obtain ⟨ρ', e3, h3⟩ := hf _ _ _ _ hl e1
  exact ⟨ρ', by show (g ρ).map _ = _; rw [e3]; rfl, h3⟩
theorem Mo.opt (o : Option α) : Mo (fun ρ => o.map fun d => (d, ρ)) (fun ρ => o.map fun d => (d, ρ)) := by
  intro ρ0 ρ y ρ1 hl e
  obtain ⟨d, rfl, e2⟩ := Option.map_eq_some_iff.mp e
  cases e2
  exact ⟨ρ, rfl, hl⟩
theorem Mo.optb (o : Option α) {F G : α → Env → Option (β × Env)} (h : ∀ x, Mo (F x) (G x)) : Mo (fun ρ => o.bind fun d => F d ρ) (fun ρ => o.bind fun d => G d ρ) := by
  intro ρ0 ρ y ρ1 hl e
  obtain ⟨d, rfl, e2⟩ := Option.bind_eq_some_iff.mp e
  obtain ⟨ρ', e3, h3⟩ := h d _ _ _ _ hl e2
  exact ⟨ρ', e3, h3⟩
theorem Mo.ite {f' g' : Env → Option (α × Env)} (c : Bool) (h : Mo f g) (h' : Mo f' g') : Mo (fun ρ => if c then f ρ else f' ρ) (fun ρ => if c then g ρ else g' ρ) := by
  cases c
  · exact h'
  · exact h
theorem Mo.ifs {c : Prop} [Decidable c] (x : α) : Mo (fun ρ => if c then some (x, ρ) else Option.none) (fun ρ => if c then some (x, ρ) else Option.none) := by
  by_cases hc : c
  · simp only [hc, if_true]; exact Mo.pure x
  · simp only [hc, if_false]; exact Mo.none
theorem Mo.gets (i : Nat) : Mo (fun ρ => (Vi.getS ρ i).map fun d => (d, ρ)) (fun ρ => (Vi.getS ρ i).map fun d => (d, ρ)) := by
  intro ρ0 ρ y ρ1 hl e
  obtain ⟨d, e1, e2⟩ := Option.map_eq_some_iff.mp e
  cases e2
  exact ⟨ρ, by show (Vi.getS ρ i).map _ = _; rw [hl.get e1]; rfl, hl⟩
theorem Mo.mov (i : Nat) : Mo (fun ρ => (getS ρ i).map fun d => (d, ρ.set i .none)) (fun ρ => (getS ρ i).map fun d => (d, ρ.set i .none)) := by
  intro ρ0 ρ y ρ1 hl e
  obtain ⟨d, e1, e2⟩ := Option.map_eq_some_iff.mp e
  cases e2
  exact ⟨_, by show (Vi.getS ρ i).map _ = _; rw [hl.get e1]; rfl, hl.set i _⟩
theorem Mo.got (i : Nat) {F G : D → Env → Option (β × Env)} (h : ∀ x, Mo (F x) (G x)) : Mo (fun ρ => (getS ρ i).bind fun d => F d ρ) (fun ρ => (getS ρ i).bind fun d => G d ρ) := by
  intro ρ0 ρ y ρ1 hl e
  obtain ⟨d, e1, e2⟩ := Option.bind_eq_some_iff.mp e
  obtain ⟨ρ', e3, h3⟩ := h d _ _ _ _ hl e2
  exact ⟨ρ', by show (Vi.getS ρ i).bind _ = _; rw [hl.get e1]; exact e3, h3⟩
theorem Mo.st (i : Nat) (v : Option D) (x : α) : Mo (fun ρ => some (x, ρ.set i v)) (fun ρ => some (x, ρ.set i v)) := by
  intro ρ0 ρ y ρ1 hl e
  cases e
  exact ⟨_, rfl, hl.set i v⟩
end
/-- binding -/
def MoT (f g : Env → Option Env) : Prop := ∀ ρ0 ρ ρ1, Le ρ0 ρ → f ρ0 = some ρ1 → ∃ ρ', g ρ = some ρ' ∧ Le ρ1 ρ'
mutual
theorem mo_bindT : ∀ (t : Tg) (d : D), MoT (bindT t d) (bindT t d)
  | .nm i, d => fun ρ0 ρ ρ1 hl e => by
    cases (show some (ρ0.set i (some d)) = some ρ1 from e)
    exact ⟨_, rfl, hl.set i _⟩
  | .tup ts, .tup ds => mo_bindTs ts ds
  | .tup ts, .lst ds => mo_bindTs ts ds
  | .tup _, .non => fun _ _ _ _ e => nomatch e
  | .tup _, .bl _ => fun _ _ _ _ e => nomatch e
  | .tup _, .int _ => fun _ _ _ _ e => nomatch e
  | .tup _, .str _ => fun _ _ _ _ e => nomatch e
  | .tup _, .dct _ _ => fun _ _ _ _ e => nomatch e
  | .tup _, .scr _ => fun _ _ _ _ e => nomatch e
theorem mo_bindTs : ∀ (ts : List Tg) (ds : List D), MoT (bindTs ts ds) (bindTs ts ds)
  | [], [] => fun ρ0 ρ ρ1 hl e => by
    cases (show some ρ0 = some ρ1 from e)
    exact ⟨_, rfl, hl⟩
  | [], _ :: _ => fun _ _ _ _ e => nomatch e
  | _ :: _, [] => fun _ _ _ _ e => nomatch e
  | t :: ts, d :: ds => fun ρ0 ρ ρ1 hl e => by
    obtain ⟨ρ2, e1, e2⟩ := Option.bind_eq_some_iff.mp (show (bindT t d ρ0).bind _ = some ρ1 from e)
    obtain ⟨ρ3, e3, h3⟩ := mo_bindT t d _ _ _ hl e1
    obtain ⟨ρ4, e4, h4⟩ := mo_bindTs ts ds _ _ _ h3 e2
    exact ⟨ρ4, by show (bindT t d ρ).bind _ = _; rw [e3]; exact e4, h4⟩
end
theorem Le.tail {a b : Env} (h : Le a b) : Le a.tail b.tail := by
  cases h with
  | nil => exact .nil
  | cons _ h => exact h
theorem backs_nil (o ρ : Env) : backs [] o ρ = some ρ := by cases o <;> rfl
theorem backs_none (r : List (Option Nat)) (o ρ : Env) : backs (none :: r) o ρ = backs r o.tail ρ := by cases o <;> rfl
theorem mo_backs : ∀ (bk : List (Option Nat)) (o o' : Env), Le o o' → MoT (backs bk o) (backs bk o')
  | [], o, o', _ => fun ρ0 ρ ρ1 hl e => by
    rw [backs_nil] at e
    cases e
    exact ⟨ρ, backs_nil _ _, hl⟩
  | none :: r, o, o', ho => fun ρ0 ρ ρ1 hl e => by
    rw [backs_none] at e
    obtain ⟨ρ', e1, h1⟩ := mo_backs r o.tail o'.tail ho.tail ρ0 ρ ρ1 hl e
    exact ⟨ρ', by rw [backs_none]; exact e1, h1⟩
  | some i :: r, some d :: o, o', ho => fun ρ0 ρ ρ1 hl e => by
    cases ho with
    | cons h1 h2 =>
      rcases h1 with h1 | h1
      · cases h1
      · subst h1
        exact mo_backs r o _ h2 _ _ _ (hl.set i (some d)) e
  | some _ :: _, [], _, _ => fun _ _ _ _ e => nomatch e
  | some _ :: _, none :: _, _, _ => fun _ _ _ _ e => nomatch e
theorem Mo.bt {α : Type} {fb gb : Env → Option Env} {f g : Env → Option (α × Env)} (h : MoT fb gb) (h' : Mo f g) : Mo (fun ρ => (fb ρ).bind f) (fun ρ => (gb ρ).bind g) := by
  intro ρ0 ρ x ρ1 hl e
  obtain ⟨ρ2, e1, e2⟩ := Option.bind_eq_some_iff.mp e
  obtain ⟨ρ3, e3, hl2⟩ := h _ _ _ hl e1
  obtain ⟨ρ4, e4, hl4⟩ := h' _ _ _ _ hl2 e2
  exact ⟨ρ4, by show (gb ρ).bind _ = _; rw [e3]; exact e4, hl4⟩
theorem mo_lcL {f g : D → Env → Option (Option D × Env)} (h : ∀ d, Mo (f d) (g d)) : ∀ (xs : List D) (acc : List D), Mo (fun ρ => lcL f xs ρ acc) (fun ρ => lcL g xs ρ acc)
  | [], acc => Mo.pure acc
  | x :: r, acc => by
    refine Mo.bind (F := fun o ρ' => match o with | none => lcL f r ρ' acc | some d => if acc.length < sz then lcL f r ρ' (acc ++ [d]) else none) (G := fun o ρ' => match o with | none => lcL g r ρ' acc | some d => if acc.length < sz then lcL g r ρ' (acc ++ [d]) else none) (h x) fun o => ?_
    cases o with
    | none => exact mo_lcL h r acc
    | some d =>
      by_cases hc : acc.length < sz
      · simp only [hc, if_true]; exact mo_lcL h r (acc ++ [d])
      · simp only [hc, if_false]; exact Mo.none
theorem mo_geL {k : Bool} {f g : D → Env → Option (Option Bool × Env)} (h : ∀ d, Mo (f d) (g d)) : ∀ (xs : List D), Mo (fun ρ => geL k f xs ρ) (fun ρ => geL k g xs ρ)
  | [] => Mo.pure _
  | x :: r => by
    refine Mo.bind (F := fun o ρ' => match o with | none => geL k f r ρ' | some b => if b == k then some (k, ρ') else geL k f r ρ') (G := fun o ρ' => match o with | none => geL k g r ρ' | some b => if b == k then some (k, ρ') else geL k g r ρ') (h x) fun o => ?_
    cases o with
    | none => exact mo_geL h r
    | some d => exact Mo.ite _ (Mo.pure _) (mo_geL h r)
/-- defs that answer more -/
def FLe (cf cf' : Fns) : Prop := ∀ f ds d o, cf f ds = some (d, o) → ∃ o', cf' f ds = some (d, o') ∧ Le o o'
structure Mo3 (p q : R3) : Prop where
  v : Mo p.v q.v
  t : Mo p.t q.t
  i : Mo p.i q.i
theorem Mo3.ofV {f g : Env → Option (D × Env)} (h : Mo f g) : Mo3 (ofV f) (ofV g) :=
  ⟨h, Mo.bind (F := fun d ρ1 => (truD d).map fun b => (b, ρ1)) (G := fun d ρ1 => (truD d).map fun b => (b, ρ1)) h fun d => Mo.opt _, Mo.bind (F := fun d ρ1 => (walkedD d).map fun b => (b, ρ1)) (G := fun d ρ1 => (walkedD d).map fun b => (b, ρ1)) h fun d => Mo.opt _⟩
theorem Mo3.ofI {f g : Env → Option (List D × Env)} (h : Mo f g) : Mo3 (ofI f) (ofI g) := ⟨Mo.none, Mo.none, h⟩
theorem Mo3.wt {p q : R3} {t t' : Env → Option (Bool × Env)} (h : Mo3 p q) (ht : Mo t t') : Mo3 { p with t := t } { q with t := t' } := ⟨h.v, ht, h.i⟩
section
variable {cf cf' : Fns} (gl : Nat → Option D)
mutual
theorem mo_ev (hc : FLe cf cf') : ∀ e : E, Mo3 (ev cf gl e) (ev cf' gl e)
  | .lit d => Mo3.ofV (Mo.pure d)
  | .var i => Mo3.ofV (Mo.gets i)
  | .mov i => Mo3.ofV (Mo.mov i)
  | .own e => Mo3.ofV (Mo.bind (mo_ev hc e).v fun x => Mo.opt (ownD x))
  | .chk e => Mo3.ofV (Mo.bind (mo_ev hc e).v fun x => Mo.ifs (c := x.pure = true) x)
  | .glb g => Mo3.ofV (Mo.opt (gl g))
  | .bin o a b => Mo3.ofV (Mo.bind (mo_ev hc a).v fun x => Mo.bind (mo_ev hc b).v fun y => Mo.opt (opD o x y))
  | .neg a => Mo3.ofV (Mo.bind (mo_ev hc a).v fun x => Mo.optm (isI x) (fun i => D.int (-i)))
  | .cmp o a b => Mo3.ofV (Mo.bind (mo_ev hc a).v fun x => Mo.bind (mo_ev hc b).v fun y => Mo.opt (cmpD o x y))
  | .cmp2 o p a b c => Mo3.ofV (Mo.bind (mo_ev hc a).v fun x => Mo.bind (mo_ev hc b).v fun y => Mo.optb ((cmpD o x y).bind isB) fun t => Mo.ite t (Mo.bind (mo_ev hc c).v fun z => Mo.opt (cmpD p y z)) (Mo.pure _))
  | .band a b => Mo3.wt (Mo3.ofV (Mo.bind (mo_ev hc a).v fun x => Mo.optb (isB x) fun t => Mo.ite t (mo_ev hc b).v (Mo.pure _))) (Mo.bind (mo_ev hc a).t fun x => Mo.ite x (mo_ev hc b).t (Mo.pure _))
  | .bor a b => Mo3.wt (Mo3.ofV (Mo.bind (mo_ev hc a).v fun x => Mo.optb (isB x) fun t => Mo.ite t (Mo.pure _) (mo_ev hc b).v)) (Mo.bind (mo_ev hc a).t fun x => Mo.ite x (Mo.pure _) (mo_ev hc b).t)
  | .bnot a => Mo3.wt (Mo3.ofV (Mo.bind (mo_ev hc a).v fun x => Mo.optm (truD x) (fun b => D.bl (!b)))) (Mo.mapm (mo_ev hc a).t (fun b => !b))
  | .ite c a b => Mo3.ofV (Mo.bind (mo_ev hc c).t fun t => Mo.ite t (mo_ev hc a).v (mo_ev hc b).v)
  | .tup es => Mo3.ofV (Mo.mapm (mo_evs hc es) D.tup)
  | .lst es => Mo3.ofV (Mo.mapm (mo_evs hc es) D.lst)
  | .dct0 => Mo3.ofV (Mo.pure _)
  | .idx a i => Mo3.ofV (Mo.bind (mo_ev hc a).v fun x => Mo.bind (mo_ev hc i).v fun y => Mo.opt (idxD x y))
  | .slc a lo hi => Mo3.ofV (Mo.bind (mo_ev hc a).v fun x => Mo.bind (mo_evo hc lo) fun l => Mo.bind (mo_evo hc hi) fun h => Mo.opt (slcD x l h))
  | .rev a => Mo3.ofV (Mo.bind (mo_ev hc a).v fun x => Mo.opt (revD x))
  | .fn b es => Mo3.ofV (Mo.bind (mo_evs hc es) fun ds => Mo.opt (fnD b ds))
  | .isi e t => Mo3.ofV (Mo.bind (mo_ev hc e).v fun x => Mo.optm (isiD x t) (D.bl))
  | .mth m o es => Mo3.ofV (Mo.bind (mo_ev hc o).v fun x => Mo.bind (mo_evs hc es) fun ds => Mo.opt (mthD m x ds))
  | .mut m i es => Mo3.ofV (by
      intro ρ0 ρ y ρ1 hl e
      obtain ⟨u, e1, e2⟩ := Option.bind_eq_some_iff.mp e
      obtain ⟨d0, e3, e4⟩ := Option.bind_eq_some_iff.mp e1
      obtain ⟨⟨ds, ρ2⟩, e5, e6⟩ := Option.bind_eq_some_iff.mp e2
      obtain ⟨d, e7, e8⟩ := Option.bind_eq_some_iff.mp e6
      obtain ⟨⟨r, d'⟩, e9, e10⟩ := Option.map_eq_some_iff.mp e8
      cases e10
      obtain ⟨ρ', e11, h3⟩ := mo_evs hc es _ _ _ _ hl e5
      refine ⟨ρ'.set i (some d'), ?_, h3.set i _⟩
      show ((getS ρ i).bind isL).bind _ = _
      rw [hl.get e3, Option.bind_some, e4, Option.bind_some, e11, Option.bind_some]
      show (getS ρ' i).bind _ = _
      rw [h3.get e7, Option.bind_some, e9]; rfl)
  | .call f es bk => Mo3.ofV (Mo.bind (F := fun ds ρ1 => (cf f ds).bind fun (d, o) => (backs bk o ρ1).map fun ρ2 => (d, ρ2)) (G := fun ds ρ1 => (cf' f ds).bind fun (d, o) => (backs bk o ρ1).map fun ρ2 => (d, ρ2)) (mo_evs hc es) fun ds => by
      intro ρ0 ρ y ρ1 hl e
      obtain ⟨⟨d, o⟩, e1, e2⟩ := Option.bind_eq_some_iff.mp e
      obtain ⟨ρ2, e3, e4⟩ := Option.map_eq_some_iff.mp e2
      cases e4
      obtain ⟨o', e6, h6⟩ := hc _ _ _ _ e1
      obtain ⟨ρ', e5, h5⟩ := mo_backs bk o o' h6 _ _ _ hl e3
      exact ⟨ρ', by show (cf' f ds).bind _ = _; rw [e6]; show (backs bk o' ρ).map _ = _; rw [e5]; rfl, h5⟩)
  | .lc elt x it c => Mo3.ofV (Mo.bind (F := fun xs ρ1 => (lcL (fun d ρ => (bindT x d (wipeE ρ (slotsT x))).bind fun ρ1 => (evc cf gl c ρ1).bind fun (b, ρ2) => if b then ((ev cf gl elt).v ρ2).map fun (y, ρ3) => (some y, ρ3) else some (none, ρ2)) xs ρ1 []).map fun (ys, ρ2) => (D.lst ys, restE ρ1 ρ2 (slotsT x))) (G := fun xs ρ1 => (lcL (fun d ρ => (bindT x d (wipeE ρ (slotsT x))).bind fun ρ1 => (evc cf' gl c ρ1).bind fun (b, ρ2) => if b then ((ev cf' gl elt).v ρ2).map fun (y, ρ3) => (some y, ρ3) else some (none, ρ2)) xs ρ1 []).map fun (ys, ρ2) => (D.lst ys, restE ρ1 ρ2 (slotsT x))) (mo_ev hc it).i fun xs => by
      intro ρ0 ρ y ρ1 hl e
      obtain ⟨⟨ys, ρ2⟩, e1, e2⟩ := Option.map_eq_some_iff.mp e
      cases e2
      have hb : ∀ d, MoT (fun ρ => bindT x d (wipeE ρ (slotsT x))) (fun ρ => bindT x d (wipeE ρ (slotsT x))) := fun d ρ0 ρ ρ1 hl e => mo_bindT x d _ _ _ (hl.wipe _) e
      obtain ⟨ρ', e3, h3⟩ := mo_lcL (fun d => Mo.bt (hb d) (Mo.bind (F := fun b ρ2 => if b then ((ev cf gl elt).v ρ2).map fun (y, ρ3) => (some y, ρ3) else some (none, ρ2)) (G := fun b ρ2 => if b then ((ev cf' gl elt).v ρ2).map fun (y, ρ3) => (some y, ρ3) else some (none, ρ2)) (mo_evc hc c) fun b => Mo.ite b (by
          intro ρ0 ρ y ρ1 hl e
          obtain ⟨⟨d, ρ2⟩, e1, e2⟩ := Option.map_eq_some_iff.mp e
          cases e2
          obtain ⟨ρ', e3, h3⟩ := (mo_ev hc elt).v _ _ _ _ hl e1
          exact ⟨ρ', by show ((ev cf' gl elt).v ρ).map _ = _; rw [e3]; rfl, h3⟩) (Mo.pure _))) xs [] _ _ _ _ hl e1
      exact ⟨restE ρ ρ' (slotsT x), Option.map_eq_some_iff.mpr ⟨(ys, ρ'), e3, rfl⟩, hl.rest h3 _⟩)
  | .ge k elt x it c => Mo3.ofV (Mo.bind (F := fun xs ρ1 => (geL k (fun d ρ => (bindT x d (wipeE ρ (slotsT x))).bind fun ρ1 => (evc cf gl c ρ1).bind fun (b, ρ2) => if b then ((ev cf gl elt).v ρ2).bind fun (y, ρ3) => (isB y).map fun y => (some y, ρ3) else some (none, ρ2)) xs ρ1).map fun (b, ρ2) => (D.bl b, restE ρ1 ρ2 (slotsT x))) (G := fun xs ρ1 => (geL k (fun d ρ => (bindT x d (wipeE ρ (slotsT x))).bind fun ρ1 => (evc cf' gl c ρ1).bind fun (b, ρ2) => if b then ((ev cf' gl elt).v ρ2).bind fun (y, ρ3) => (isB y).map fun y => (some y, ρ3) else some (none, ρ2)) xs ρ1).map fun (b, ρ2) => (D.bl b, restE ρ1 ρ2 (slotsT x))) (mo_ev hc it).i fun xs => by
      intro ρ0 ρ y ρ1 hl e
      obtain ⟨⟨ys, ρ2⟩, e1, e2⟩ := Option.map_eq_some_iff.mp e
      cases e2
      have hb : ∀ d, MoT (fun ρ => bindT x d (wipeE ρ (slotsT x))) (fun ρ => bindT x d (wipeE ρ (slotsT x))) := fun d ρ0 ρ ρ1 hl e => mo_bindT x d _ _ _ (hl.wipe _) e
      obtain ⟨ρ', e3, h3⟩ := mo_geL (k := k) (fun d => Mo.bt (hb d) (Mo.bind (F := fun b ρ2 => if b then ((ev cf gl elt).v ρ2).bind fun (y, ρ3) => (isB y).map fun y => (some y, ρ3) else some (none, ρ2)) (G := fun b ρ2 => if b then ((ev cf' gl elt).v ρ2).bind fun (y, ρ3) => (isB y).map fun y => (some y, ρ3) else some (none, ρ2)) (mo_evc hc c) fun b => Mo.ite b (Mo.bind (mo_ev hc elt).v fun x => Mo.optm (isB x) some) (Mo.pure _))) xs _ _ _ _ hl e1
      exact ⟨restE ρ ρ' (slotsT x), Option.map_eq_some_iff.mpr ⟨(ys, ρ'), e3, rfl⟩, hl.rest h3 _⟩)
  | .lof b it => Mo3.ofV (Mo.bind (mo_ev hc it).i fun xs => Mo.opt (lofD b xs))
  | .ichk e => Mo3.ofI (Mo.bind (mo_ev hc e).i fun xs => Mo.ifs (c := D.pures xs = true) xs)
  | .irng1 a => Mo3.ofI (Mo.bind (mo_ev hc a).v fun x => Mo.opt (rng1D x))
  | .irng2 a b => Mo3.ofI (Mo.bind (mo_ev hc a).v fun x => Mo.bind (mo_ev hc b).v fun y => Mo.opt (rng2D x y))
  | .irng3 a b c => Mo3.ofI (Mo.bind (mo_ev hc a).v fun x => Mo.bind (mo_ev hc b).v fun y => Mo.bind (mo_ev hc c).v fun z => Mo.opt (rng3D x y z))
  | .ienum e => Mo3.ofI (Mo.bind (mo_ev hc e).v fun x => Mo.optm (items x) (enumD 0))
  | .izip a b => Mo3.ofI (Mo.bind (mo_ev hc a).v fun x => Mo.bind (mo_ev hc b).v fun z => Mo.optm (items2 x z) (fun p => zipD p.1 p.2))
  | .irev e => Mo3.ofI (Mo.bind (mo_ev hc e).v fun x => Mo.optm (items x) List.reverse)
theorem mo_evc (hc : FLe cf cf') : ∀ c : Option E, Mo (evc cf gl c) (evc cf' gl c)
  | none => Mo.pure true
  | some c => (mo_ev hc c).t
theorem mo_evo (hc : FLe cf cf') : ∀ c : Option E, Mo (evo cf gl c) (evo cf' gl c)
  | none => Mo.pure none
  | some c => Mo.bind (mo_ev hc c).v fun x => Mo.optm (isI x) some
theorem mo_evs (hc : FLe cf cf') : ∀ es : List E, Mo (evs cf gl es) (evs cf' gl es)
  | [] => Mo.pure []
  | e :: es => Mo.bind (mo_ev hc e).v fun x => Mo.mapm (mo_evs hc es) (fun ds => x :: ds)
end
end
/-! statements -/
inductive LeO : Out → Out → Prop
  | nx {a b} : Le a b → LeO (.nx a) (.nx b)
  | rt {d a b} : Le a b → LeO (.rt d a) (.rt d b)
  | bk {a b} : Le a b → LeO (.bk a) (.bk b)
  | ct {a b} : Le a b → LeO (.ct a) (.ct b)
def MoO (f g : Env → Option Out) : Prop := ∀ ρ0 ρ o, Le ρ0 ρ → f ρ0 = some o → ∃ o', g ρ = some o' ∧ LeO o o'
theorem mo_whlL {c c' : Env → Option (Bool × Env)} {b b' : Env → Option Out} (hc : Mo c c') (hb : MoO b b') : ∀ n n', n ≤ n' → MoO (whlL c b n) (whlL c' b' n')
  | 0, _, _ => fun _ _ _ _ e => nomatch e
  | n + 1, 0, h => absurd h (by omega)
  | n + 1, n' + 1, h => by
    intro ρ0 ρ o hl e
    obtain ⟨⟨t, ρ1⟩, e1, e2⟩ := Option.bind_eq_some_iff.mp (show (c ρ0).bind _ = some o from e)
    obtain ⟨ρ2, e3, h3⟩ := hc _ _ _ _ hl e1
    cases t with
    | false =>
      cases (show some (Out.nx ρ1) = some o from e2)
      exact ⟨.nx ρ2, by show (c' ρ).bind _ = _; rw [e3]; rfl, .nx h3⟩
    | true =>
      obtain ⟨o1, e4, e5⟩ := Option.bind_eq_some_iff.mp (show (b ρ1).bind _ = some o from e2)
      obtain ⟨o2, e6, h6⟩ := hb _ _ _ h3 e4
      have e7 : whlL c' b' (n' + 1) ρ = (some o2).bind fun o => match o with
        | .nx ρ2 => whlL c' b' n' ρ2
        | .ct ρ2 => whlL c' b' n' ρ2
        | .bk ρ2 => some (.nx ρ2)
        | .rt d ρ2 => some (.rt d ρ2) := by
        show (c' ρ).bind _ = _; rw [e3]; show (b' ρ2).bind _ = _; rw [e6] <;> rfl
      rw [e7]
      cases h6 with
      | nx h7 => exact mo_whlL hc hb n n' (by omega) _ _ _ h7 e5
      | ct h7 => exact mo_whlL hc hb n n' (by omega) _ _ _ h7 e5
      | bk h7 => cases e5; exact ⟨_, rfl, .nx h7⟩
      | rt h7 => cases e5; exact ⟨_, rfl, .rt h7⟩
theorem mo_forL {b b' : D → Env → Option Out} (hb : ∀ d, MoO (b d) (b' d)) : ∀ xs, MoO (forL b xs) (forL b' xs)
  | [] => fun ρ0 ρ o hl e => by
    cases (show some (Out.nx ρ0) = some o from e)
    exact ⟨_, rfl, .nx hl⟩
  | x :: r => by
    intro ρ0 ρ o hl e
    obtain ⟨o1, e4, e5⟩ := Option.bind_eq_some_iff.mp (show (b x ρ0).bind _ = some o from e)
    obtain ⟨o2, e6, h6⟩ := hb x _ _ _ hl e4
    have e7 : forL b' (x :: r) ρ = (some o2).bind fun o => match o with
        | .nx ρ2 => forL b' r ρ2
        | .ct ρ2 => forL b' r ρ2
        | .bk ρ2 => some (.nx ρ2)
        | .rt d ρ2 => some (.rt d ρ2) := by
        show (b' x ρ).bind _ = _; rw [e6] <;> rfl
    rw [e7]
    cases h6 with
    | nx h7 => exact mo_forL hb r _ _ _ h7 e5
    | ct h7 => exact mo_forL hb r _ _ _ h7 e5
    | bk h7 => cases e5; exact ⟨_, rfl, .nx h7⟩
    | rt h7 => cases e5; exact ⟨_, rfl, .rt h7⟩
section
variable {cf cf' : Fns} (gl : Nat → Option D) {w w' : Nat}
theorem MoO.of {α : Type} {f g : Env → Option (α × Env)} (h : Mo f g) {F G : α → Env → Option Out} (h' : ∀ x, MoO (F x) (G x)) : MoO (fun ρ => (f ρ).bind fun p => F p.1 p.2) (fun ρ => (g ρ).bind fun p => G p.1 p.2) := by
  intro ρ0 ρ o hl e
  obtain ⟨⟨y, ρ2⟩, e1, e2⟩ := Option.bind_eq_some_iff.mp e
  obtain ⟨ρ3, e3, hl2⟩ := h _ _ _ _ hl e1
  obtain ⟨ρ4, e4, hl4⟩ := h' y _ _ _ hl2 e2
  exact ⟨ρ4, by show (g ρ).bind _ = _; rw [e3]; exact e4, hl4⟩
theorem MoO.got (i : Nat) {F G : D → Env → Option Out} (h : ∀ x, MoO (F x) (G x)) : MoO (fun ρ => (getS ρ i).bind fun d => F d ρ) (fun ρ => (getS ρ i).bind fun d => G d ρ) := by
  intro ρ0 ρ y hl e
  obtain ⟨d, e1, e2⟩ := Option.bind_eq_some_iff.mp e
  obtain ⟨ρ', e3, h3⟩ := h d _ _ _ hl e2
  exact ⟨ρ', by show (Vi.getS ρ i).bind _ = _; rw [hl.get e1]; exact e3, h3⟩
theorem MoO.opt {α : Type} (o : Option α) {F G : α → Env → Option Out} (h : ∀ x, MoO (F x) (G x)) : MoO (fun ρ => o.bind fun d => F d ρ) (fun ρ => o.bind fun d => G d ρ) := by
  intro ρ0 ρ y hl e
  obtain ⟨d, rfl, e2⟩ := Option.bind_eq_some_iff.mp e
  exact h d _ _ _ hl e2
theorem MoO.bt {fb gb : Env → Option Env} {f g : Env → Option Out} (h : MoT fb gb) (h' : MoO f g) : MoO (fun ρ => (fb ρ).bind f) (fun ρ => (gb ρ).bind g) := by
  intro ρ0 ρ x hl e
  obtain ⟨ρ2, e1, e2⟩ := Option.bind_eq_some_iff.mp e
  obtain ⟨ρ3, e3, hl2⟩ := h _ _ _ hl e1
  obtain ⟨ρ4, e4, hl4⟩ := h' _ _ _ hl2 e2
  exact ⟨ρ4, by show (gb ρ).bind _ = _; rw [e3]; exact e4, hl4⟩
theorem MoO.nx {fb gb : Env → Option Env} (h : MoT fb gb) : MoO (fun ρ => (fb ρ).map Out.nx) (fun ρ => (gb ρ).map Out.nx) := by
  intro ρ0 ρ x hl e
  obtain ⟨ρ2, e1, e2⟩ := Option.map_eq_some_iff.mp e
  cases e2
  obtain ⟨ρ3, e3, hl2⟩ := h _ _ _ hl e1
  exact ⟨.nx ρ3, by show (gb ρ).map _ = _; rw [e3]; rfl, .nx hl2⟩
theorem MoO.map {α : Type} {f g : Env → Option (α × Env)} (h : Mo f g) (F : α → Env → Env) (h' : ∀ x a b, Le a b → Le (F x a) (F x b)) : MoO (fun ρ => (f ρ).map fun p => Out.nx (F p.1 p.2)) (fun ρ => (g ρ).map fun p => Out.nx (F p.1 p.2)) := by
  intro ρ0 ρ o hl e
  obtain ⟨⟨y, ρ2⟩, e1, e2⟩ := Option.map_eq_some_iff.mp e
  cases e2
  obtain ⟨ρ3, e3, hl2⟩ := h _ _ _ _ hl e1
  exact ⟨.nx (F y ρ3), Option.map_eq_some_iff.mpr ⟨(y, ρ3), e3, rfl⟩, .nx (h' _ _ _ hl2)⟩
theorem MoO.ite {f g f' g' : Env → Option Out} (c : Bool) (h : MoO f g) (h' : MoO f' g') : MoO (fun ρ => if c then f ρ else f' ρ) (fun ρ => if c then g ρ else g' ρ) := by
  cases c
  · exact h'
  · exact h
theorem MoO.set (i : Nat) (o : Option D) : MoO (fun ρ => o.map fun d => Out.nx (ρ.set i (some d))) (fun ρ => o.map fun d => Out.nx (ρ.set i (some d))) := by
  intro ρ0 ρ y hl e
  obtain ⟨d, e1, e2⟩ := Option.map_eq_some_iff.mp e
  cases e2
  exact ⟨.nx (ρ.set i (some d)), by rw [e1]; rfl, .nx (hl.set _ _)⟩
mutual
theorem mo_execS (hc : FLe cf cf') (hw : w ≤ w') : ∀ s : S, MoO (execS cf gl w s) (execS cf' gl w' s)
  | .set t e => MoO.of (F := fun d ρ1 => (bindT t d ρ1).map Out.nx) (G := fun d ρ1 => (bindT t d ρ1).map Out.nx) (mo_ev gl hc e).v fun d => MoO.nx (mo_bindT t d)
  | .par i j a b => MoO.of (mo_ev gl hc a).v fun x => MoO.map (mo_ev gl hc b).v (fun y ρ2 => (ρ2.set i (some x)).set j (some y)) fun y _ _ h => (h.set _ _).set _ _
  | .aug i o e => MoO.got i fun x => MoO.of (mo_ev gl hc e).v fun y => MoO.set i (augD o x y)
  | .put i k e => MoO.of (mo_ev gl hc e).v fun v => MoO.got i fun _ => MoO.of (mo_ev gl hc k).v fun kd => MoO.got i fun d => MoO.set i (putAt d kd v)
  | .augput i k o e => MoO.got i fun _ => MoO.of (mo_ev gl hc k).v fun kd => MoO.got i fun d => MoO.opt ((idxD d kd).bind isI) fun old => MoO.of (mo_ev gl hc e).v fun v => MoO.opt (isI v) fun v => MoO.opt (opD o (.int old) (.int v)) fun nw => MoO.got i fun d2 => MoO.set i (putAt d2 kd nw)
  | .ex e => by
      intro ρ0 ρ o hl h
      obtain ⟨⟨d, ρ1⟩, e1, e2⟩ := Option.map_eq_some_iff.mp h
      cases e2
      obtain ⟨ρ3, e3, hl2⟩ := (mo_ev gl hc e).v _ _ _ _ hl e1
      exact ⟨.nx ρ3, by show (evalE cf' gl e ρ).map _ = _; rw [show evalE cf' gl e ρ = _ from e3]; rfl, .nx hl2⟩
  | .ret e => by
      intro ρ0 ρ o hl h
      obtain ⟨⟨d, ρ1⟩, e1, e2⟩ := Option.map_eq_some_iff.mp h
      cases e2
      obtain ⟨ρ3, e3, hl2⟩ := (mo_ev gl hc e).v _ _ _ _ hl e1
      exact ⟨.rt d ρ3, by show (evalE cf' gl e ρ).map _ = _; rw [show evalE cf' gl e ρ = _ from e3]; rfl, .rt hl2⟩
  | .ret0 => fun ρ0 ρ o hl e => by cases e; exact ⟨_, rfl, .rt hl⟩
  | .iff c t f => MoO.of (mo_ev gl hc c).t fun b => MoO.ite b (mo_execSs hc hw t) (mo_execSs hc hw f)
  | .whl c b => mo_whlL (mo_ev gl hc c).t (mo_execSs hc hw b) w w' hw
  | .for_ x it b => MoO.of (mo_ev gl hc it).i fun xs => mo_forL (fun d => MoO.bt (mo_bindT x d) (mo_execSs hc hw b)) xs
  | .brk => fun ρ0 ρ o hl e => by cases e; exact ⟨_, rfl, .bk hl⟩
  | .cnt => fun ρ0 ρ o hl e => by cases e; exact ⟨_, rfl, .ct hl⟩
  | .pas => fun ρ0 ρ o hl e => by cases e; exact ⟨_, rfl, .nx hl⟩
  | .doc => fun ρ0 ρ o hl e => by cases e; exact ⟨_, rfl, .nx hl⟩
theorem mo_execSs (hc : FLe cf cf') (hw : w ≤ w') : ∀ ss : List S, MoO (execSs cf gl w ss) (execSs cf' gl w' ss)
  | [] => fun ρ0 ρ o hl e => by cases e; exact ⟨_, rfl, .nx hl⟩
  | s :: r => by
    intro ρ0 ρ o hl e
    obtain ⟨o1, e4, e5⟩ := Option.bind_eq_some_iff.mp (show (execS cf gl w s ρ0).bind _ = some o from e)
    obtain ⟨o2, e6, h6⟩ := mo_execS hc hw s _ _ _ hl e4
    have e7 : execSs cf' gl w' (s :: r) ρ = (some o2).bind fun o => match o with
      | .nx ρ1 => execSs cf' gl w' r ρ1
      | .bk ρ1 => some (.bk ρ1)
      | .ct ρ1 => some (.ct ρ1)
      | .rt d ρ1 => some (.rt d ρ1) := by
        show (execS cf' gl w' s ρ).bind _ = _; rw [e6] <;> rfl
    rw [e7]
    cases h6 with
    | nx h7 => exact mo_execSs hc hw r _ _ _ h7 e5
    | ct h7 => cases e5; exact ⟨_, rfl, .ct h7⟩
    | bk h7 => cases e5; exact ⟨_, rfl, .bk h7⟩
    | rt h7 => cases e5; exact ⟨_, rfl, .rt h7⟩
end
end
theorem FLe.refl (cf : Fns) : FLe cf cf := fun _ _ _ o e => ⟨o, e, Le.refl o⟩
/-- deeper runs and longer loops: the same value -/
theorem run_mono {fs : Nat → Option Fn} {gl : Nat → Option D} {w w' : Nat} (hw : w ≤ w') : ∀ {k k' : Nat}, k ≤ k' → FLe (run fs gl w k) (run fs gl w' k') := by
  intro k
  induction k with
  | zero => intro k' _ f ds d o e; cases e
  | succ k ih =>
    intro k' hk f ds d o e
    obtain ⟨k', rfl⟩ : ∃ j, k' = j + 1 := ⟨k' - 1, by omega⟩
    have hc := ih (k' := k') (by omega)
    obtain ⟨fn, e1, e2⟩ := Option.bind_eq_some_iff.mp (show (fs f).bind _ = some (d, o) from e)
    have e9 : run fs gl w' (k' + 1) f ds = (some fn).bind fun fn => if ds.length = fn.np then
      (execSs (run fs gl w' k') gl w' fn.body (startE fn.ms.length ds)).bind fun o => match o with
        | .nx ρ => some (.non, ρ)
        | .rt d ρ => some (d, ρ)
        | _ => none
      else none := by rw [← e1]; rfl
    rw [e9, Option.bind_some]
    by_cases hn : ds.length = fn.np
    · rw [if_pos hn] at e2 ⊢
      obtain ⟨o1, e3, e4⟩ := Option.bind_eq_some_iff.mp e2
      obtain ⟨o2, e5, h5⟩ := mo_execSs gl hc hw fn.body _ _ _ (Le.refl _) e3
      rw [e5]
      cases h5 with
      | nx h => cases e4; exact ⟨_, rfl, h⟩
      | rt h => cases e4; exact ⟨_, rfl, h⟩
      | bk h => cases e4
      | ct h => cases e4
    · rw [if_neg hn] at e2; cases e2
theorem LeO_refl : ∀ o, LeO o o
  | .nx ρ => .nx (Le.refl ρ)
  | .rt _ ρ => .rt (Le.refl ρ)
  | .bk ρ => .bk (Le.refl ρ)
  | .ct ρ => .ct (Le.refl ρ)

/-! ### what is not stored stays -/
mutual
/-- may it change slot i -/
def tE (i : Nat) : E → Bool
  | .lit _ => false
  | .var _ => false
  | .mov j => j == i
  | .own e => tE i e
  | .chk e => tE i e
  | .glb _ => false
  | .bin _ a b => tE i a || tE i b
  | .neg a => tE i a
  | .cmp _ a b => tE i a || tE i b
  | .cmp2 _ _ a b c => tE i a || tE i b || tE i c
  | .band a b => tE i a || tE i b
  | .bor a b => tE i a || tE i b
  | .bnot a => tE i a
  | .ite c a b => tE i c || tE i a || tE i b
  | .tup es => tEs i es
  | .lst es => tEs i es
  | .dct0 => false
  | .idx a b => tE i a || tE i b
  | .slc a lo hi => tE i a || tEo i lo || tEo i hi
  | .rev a => tE i a
  | .fn _ es => tEs i es
  | .isi e _ => tE i e
  | .mth _ o es => tE i o || tEs i es
  | .mut _ j es => j == i || tEs i es
  | .call _ es bk => tEs i es || bk.contains (some i)
  | .lc elt x it c => tE i elt || tE i it || tEo i c || (slotsT x).contains i
  | .ge _ elt x it c => tE i elt || tE i it || tEo i c || (slotsT x).contains i
  | .lof _ it => tE i it
  | .ichk e => tE i e
  | .irng1 a => tE i a
  | .irng2 a b => tE i a || tE i b
  | .irng3 a b c => tE i a || tE i b || tE i c
  | .ienum e => tE i e
  | .izip a b => tE i a || tE i b
  | .irev e => tE i e
def tEo (i : Nat) : Option E → Bool
  | none => false
  | some e => tE i e
def tEs (i : Nat) : List E → Bool
  | [] => false
  | e :: es => tE i e || tEs i es
end
mutual
def tS (i : Nat) : S → Bool
  | .set t e => (slotsT t).contains i || tE i e
  | .par j k a b => j == i || k == i || tE i a || tE i b
  | .aug j _ e => j == i || tE i e
  | .put j k e => j == i || tE i k || tE i e
  | .augput j k _ e => j == i || tE i k || tE i e
  | .ex e => tE i e
  | .ret e => tE i e
  | .ret0 => false
  | .iff c t f => tE i c || tSs i t || tSs i f
  | .whl c b => tE i c || tSs i b
  | .for_ x it b => (slotsT x).contains i || tE i it || tSs i b
  | .brk => false
  | .cnt => false
  | .pas => false
  | .doc => false
def tSs (i : Nat) : List S → Bool
  | [] => false
  | s :: r => tS i s || tSs i r
end
theorem get_set_ne {ρ : Env} {i j : Nat} {v : Option D} (h : (j == i) = false) : getS (ρ.set j v) i = getS ρ i := by
  have h : j ≠ i := fun z => by subst z; simp at h
  unfold getS
  rw [List.getElem?_set_ne h]
def Fr {α : Type} (i : Nat) (f : Env → Option (α × Env)) : Prop := ∀ ρ x ρ1, f ρ = some (x, ρ1) → getS ρ1 i = getS ρ i
def FrT (i : Nat) (f : Env → Option Env) : Prop := ∀ ρ ρ1, f ρ = some ρ1 → getS ρ1 i = getS ρ i
theorem or_f {a b : Bool} (h : (a || b) = false) : a = false ∧ b = false := by cases a <;> cases b <;> simp_all
theorem con_f {i : Nat} {a : Nat} {r : List Nat} (h : (a :: r).contains i = false) : (a == i) = false ∧ r.contains i = false := by
  rw [List.contains_cons] at h
  obtain ⟨h1, h2⟩ := or_f h
  refine ⟨?_, h2⟩
  rw [Bool.eq_false_iff] at h1 ⊢
  intro z
  exact h1 (by rw [beq_iff_eq] at z ⊢; exact z.symm)
section
variable {α β : Type} {i : Nat} {f : Env → Option (α × Env)}
theorem Fr.bind {F : α → Env → Option (β × Env)} (h : Fr i f) (h' : ∀ x, Fr i (F x)) : Fr i (fun ρ => (f ρ).bind fun p => F p.1 p.2) := by
  intro ρ x ρ1 e
  obtain ⟨⟨y, ρ2⟩, e1, e2⟩ := Option.bind_eq_some_iff.mp e
  rw [h' y _ _ _ e2, h _ _ _ e1]
theorem Fr.pure (x : α) : Fr i (fun ρ => some (x, ρ)) := by
  intro ρ y ρ1 e; cases e; rfl
theorem Fr.none : Fr (α := α) i (fun _ => none) := fun _ _ _ e => nomatch e
theorem Fr.optm {γ : Type} (o : Option γ) (h : γ → α) : Fr i (fun ρ => o.map fun d => (h d, ρ)) := by
  intro ρ y ρ1 e
  obtain ⟨d, rfl, e2⟩ := Option.map_eq_some_iff.mp e
  cases e2; rfl
theorem Fr.mapm {γ : Type} (hf : Fr i f) (h : α → γ) : Fr i (fun ρ => (f ρ).map fun p => (h p.1, p.2)) := by
  intro ρ y ρ1 e
  obtain ⟨⟨d, ρ2⟩, e1, e2⟩ := Option.map_eq_some_iff.mp e
  cases e2
  exact hf _ _ _ e1
theorem Fr.opt (o : Option α) : Fr i (fun ρ => o.map fun d => (d, ρ)) := Fr.optm o id
theorem Fr.optb (o : Option α) {F : α → Env → Option (β × Env)} (h : ∀ x, Fr i (F x)) : Fr i (fun ρ => o.bind fun d => F d ρ) := by
  intro ρ y ρ1 e
  obtain ⟨d, rfl, e2⟩ := Option.bind_eq_some_iff.mp e
  exact h d _ _ _ e2
theorem Fr.ite {f' : Env → Option (α × Env)} (c : Bool) (h : Fr i f) (h' : Fr i f') : Fr i (fun ρ => if c then f ρ else f' ρ) := by
  cases c
  · exact h'
  · exact h
theorem Fr.ifs {c : Prop} [Decidable c] (x : α) : Fr i (fun ρ => if c then some (x, ρ) else Option.none) := by
  by_cases hc : c
  · simp only [hc, if_true]; exact Fr.pure x
  · simp only [hc, if_false]; exact Fr.none
theorem Fr.gets (j : Nat) : Fr i (fun ρ => (Vi.getS ρ j).map fun d => (d, ρ)) := by
  intro ρ y ρ1 e
  obtain ⟨d, e1, e2⟩ := Option.map_eq_some_iff.mp e
  cases e2; rfl
theorem Fr.mov {j : Nat} (h : (j == i) = false) : Fr i (fun ρ => (Vi.getS ρ j).map fun d => (d, ρ.set j .none)) := by
  intro ρ y ρ1 e
  obtain ⟨d, e1, e2⟩ := Option.map_eq_some_iff.mp e
  cases e2
  exact get_set_ne h
theorem Fr.bt {fb : Env → Option Env} (h : FrT i fb) (h' : Fr i f) : Fr i (fun ρ => (fb ρ).bind f) := by
  intro ρ x ρ1 e
  obtain ⟨ρ2, e1, e2⟩ := Option.bind_eq_some_iff.mp e
  rw [h' _ _ _ e2, h _ _ e1]
end
theorem slTs (t : Tg) (ts : List Tg) : slotsTs (t :: ts) = slotsT t ++ slotsTs ts := rfl
theorem con_app {i : Nat} {a b : List Nat} (h : (a ++ b).contains i = false) : a.contains i = false ∧ b.contains i = false := by
  rw [Bool.eq_false_iff] at h
  constructor <;> (rw [Bool.eq_false_iff]; intro z; apply h; rw [List.contains_iff_mem] at z ⊢)
  · exact List.mem_append_left _ z
  · exact List.mem_append_right _ z
mutual
theorem fr_bindT {i : Nat} : ∀ (t : Tg) (d : D), (slotsT t).contains i = false → FrT i (bindT t d)
  | .nm j, d, h => fun ρ ρ1 e => by
    cases (show some (ρ.set j (some d)) = some ρ1 from e)
    exact get_set_ne (con_f (show [j].contains i = false from h)).1
  | .tup ts, .tup ds, h => fr_bindTs ts ds h
  | .tup ts, .lst ds, h => fr_bindTs ts ds h
  | .tup _, .non, _ => fun _ _ e => nomatch e
  | .tup _, .bl _, _ => fun _ _ e => nomatch e
  | .tup _, .int _, _ => fun _ _ e => nomatch e
  | .tup _, .str _, _ => fun _ _ e => nomatch e
  | .tup _, .dct _ _, _ => fun _ _ e => nomatch e
  | .tup _, .scr _, _ => fun _ _ e => nomatch e
theorem fr_bindTs {i : Nat} : ∀ (ts : List Tg) (ds : List D), (slotsTs ts).contains i = false → FrT i (bindTs ts ds)
  | [], [], _ => fun ρ ρ1 e => by cases (show some ρ = some ρ1 from e); rfl
  | [], _ :: _, _ => fun _ _ e => nomatch e
  | _ :: _, [], _ => fun _ _ e => nomatch e
  | t :: ts, d :: ds, h => fun ρ ρ1 e => by
    obtain ⟨ρ2, e1, e2⟩ := Option.bind_eq_some_iff.mp (show (bindT t d ρ).bind _ = some ρ1 from e)
    rw [slTs] at h
    rw [fr_bindTs ts ds (con_app h).2 _ _ e2, fr_bindT t d (con_app h).1 _ _ e1]
end
theorem fr_wipe {i : Nat} (ρ : Env) : ∀ vs : List Nat, vs.contains i = false → getS (wipeE ρ vs) i = getS ρ i
  | [], _ => rfl
  | v :: vs, h => by
    show getS ((wipeE ρ vs).set v none) i = _
    rw [get_set_ne (con_f h).1, fr_wipe ρ vs (con_f h).2]
theorem fr_rest {i : Nat} (ρ1 ρ : Env) : ∀ vs : List Nat, vs.contains i = false → getS (restE ρ1 ρ vs) i = getS ρ i
  | [], _ => rfl
  | v :: vs, h => by
    show getS ((restE ρ1 ρ vs).set v _) i = _
    rw [get_set_ne (con_f h).1, fr_rest ρ1 ρ vs (con_f h).2]
theorem conO_f {i : Nat} {a : Option Nat} {r : List (Option Nat)} (h : (a :: r).contains (some i) = false) : a ≠ some i ∧ r.contains (some i) = false := by
  rw [List.contains_cons] at h
  obtain ⟨h1, h2⟩ := or_f h
  refine ⟨fun z => ?_, h2⟩
  subst z
  simp at h1
theorem fr_backs {i : Nat} : ∀ (bk : List (Option Nat)) (o : Env), bk.contains (some i) = false → FrT i (backs bk o)
  | [], o, _ => fun ρ ρ1 e => by
    rw [backs_nil] at e
    cases e; rfl
  | none :: r, o, h => fun ρ ρ1 e => by
    rw [backs_none] at e
    exact fr_backs r o.tail (conO_f h).2 _ _ e
  | some j :: r, some d :: o, h => fun ρ ρ1 e => by
    rw [fr_backs r o (conO_f h).2 _ _ e, get_set_ne]
    have := (conO_f h).1
    rw [beq_eq_false_iff_ne]
    exact fun z => this (by rw [z])
  | some _ :: _, [], _ => fun _ _ e => nomatch e
  | some _ :: _, none :: _, _ => fun _ _ e => nomatch e
theorem fr_lcL {i : Nat} {f : D → Env → Option (Option D × Env)} (h : ∀ d, Fr i (f d)) : ∀ (xs : List D) (acc : List D), Fr i (fun ρ => lcL f xs ρ acc)
  | [], acc => Fr.pure acc
  | x :: r, acc => by
    refine Fr.bind (F := fun o ρ' => match o with | none => lcL f r ρ' acc | some d => if acc.length < sz then lcL f r ρ' (acc ++ [d]) else none) (h x) fun o => ?_
    cases o with
    | none => exact fr_lcL h r acc
    | some d =>
      by_cases hc : acc.length < sz
      · simp only [hc, if_true]; exact fr_lcL h r (acc ++ [d])
      · simp only [hc, if_false]; exact Fr.none
theorem fr_geL {i : Nat} {k : Bool} {f : D → Env → Option (Option Bool × Env)} (h : ∀ d, Fr i (f d)) : ∀ (xs : List D), Fr i (fun ρ => geL k f xs ρ)
  | [] => Fr.pure _
  | x :: r => by
    refine Fr.bind (F := fun o ρ' => match o with | none => geL k f r ρ' | some b => if b == k then some (k, ρ') else geL k f r ρ') (h x) fun o => ?_
    cases o with
    | none => exact fr_geL h r
    | some d => exact Fr.ite _ (Fr.pure _) (fr_geL h r)
structure Fr3 (i : Nat) (p : R3) : Prop where
  v : Fr i p.v
  t : Fr i p.t
  i : Fr i p.i
section
variable {i : Nat}
theorem Fr3.ofV {f : Env → Option (D × Env)} (h : Fr i f) : Fr3 i (ofV f) :=
  ⟨h, Fr.bind (F := fun d ρ1 => (truD d).map fun b => (b, ρ1)) h fun d => Fr.opt _, Fr.bind (F := fun d ρ1 => (walkedD d).map fun b => (b, ρ1)) h fun d => Fr.opt _⟩
theorem Fr3.ofI {f : Env → Option (List D × Env)} (h : Fr i f) : Fr3 i (ofI f) := ⟨Fr.none, Fr.none, h⟩
theorem Fr3.wt {p : R3} {t : Env → Option (Bool × Env)} (h : Fr3 i p) (ht : Fr i t) : Fr3 i { p with t := t } := ⟨h.v, ht, h.i⟩
variable (cf : Fns) (gl : Nat → Option D)
mutual
theorem fr_ev : ∀ e : E, tE i e = false → Fr3 i (ev cf gl e)
  | .lit d, _ => Fr3.ofV (Fr.pure d)
  | .var j, _ => Fr3.ofV (Fr.gets j)
  | .mov j, h => Fr3.ofV (Fr.mov h)
  | .own e, h => Fr3.ofV (Fr.bind (fr_ev e h).v fun x => Fr.opt (ownD x))
  | .chk e, h => Fr3.ofV (Fr.bind (fr_ev e h).v fun x => Fr.ifs (c := x.pure = true) x)
  | .glb g, _ => Fr3.ofV (Fr.opt (gl g))
  | .bin o a b, h => Fr3.ofV (Fr.bind (fr_ev a (or_f h).1).v fun x => Fr.bind (fr_ev b (or_f h).2).v fun y => Fr.opt (opD o x y))
  | .neg a, h => Fr3.ofV (Fr.bind (fr_ev a h).v fun x => Fr.optm (isI x) (fun i => D.int (-i)))
  | .cmp o a b, h => Fr3.ofV (Fr.bind (fr_ev a (or_f h).1).v fun x => Fr.bind (fr_ev b (or_f h).2).v fun y => Fr.opt (cmpD o x y))
  | .cmp2 o p a b c, h => Fr3.ofV (Fr.bind (fr_ev a (or_f (or_f h).1).1).v fun x => Fr.bind (fr_ev b (or_f (or_f h).1).2).v fun y => Fr.optb ((cmpD o x y).bind isB) fun t => Fr.ite t (Fr.bind (fr_ev c (or_f h).2).v fun z => Fr.opt (cmpD p y z)) (Fr.pure _))
  | .band a b, h => Fr3.wt (Fr3.ofV (Fr.bind (fr_ev a (or_f h).1).v fun x => Fr.optb (isB x) fun t => Fr.ite t (fr_ev b (or_f h).2).v (Fr.pure _))) (Fr.bind (fr_ev a (or_f h).1).t fun x => Fr.ite x (fr_ev b (or_f h).2).t (Fr.pure _))
  | .bor a b, h => Fr3.wt (Fr3.ofV (Fr.bind (fr_ev a (or_f h).1).v fun x => Fr.optb (isB x) fun t => Fr.ite t (Fr.pure _) (fr_ev b (or_f h).2).v)) (Fr.bind (fr_ev a (or_f h).1).t fun x => Fr.ite x (Fr.pure _) (fr_ev b (or_f h).2).t)
  | .bnot a, h => Fr3.wt (Fr3.ofV (Fr.bind (fr_ev a h).v fun x => Fr.optm (truD x) (fun b => D.bl (!b)))) (Fr.mapm (fr_ev a h).t (fun b => !b))
  | .ite c a b, h => Fr3.ofV (Fr.bind (fr_ev c (or_f (or_f h).1).1).t fun t => Fr.ite t (fr_ev a (or_f (or_f h).1).2).v (fr_ev b (or_f h).2).v)
  | .tup es, h => Fr3.ofV (Fr.mapm (fr_evs es h) D.tup)
  | .lst es, h => Fr3.ofV (Fr.mapm (fr_evs es h) D.lst)
  | .dct0, _ => Fr3.ofV (Fr.pure _)
  | .idx a b, h => Fr3.ofV (Fr.bind (fr_ev a (or_f h).1).v fun x => Fr.bind (fr_ev b (or_f h).2).v fun y => Fr.opt (idxD x y))
  | .slc a lo hi, h => Fr3.ofV (Fr.bind (fr_ev a (or_f (or_f h).1).1).v fun x => Fr.bind (fr_evo lo (or_f (or_f h).1).2) fun l => Fr.bind (fr_evo hi (or_f h).2) fun h => Fr.opt (slcD x l h))
  | .rev a, h => Fr3.ofV (Fr.bind (fr_ev a h).v fun x => Fr.opt (revD x))
  | .fn b es, h => Fr3.ofV (Fr.bind (fr_evs es h) fun ds => Fr.opt (fnD b ds))
  | .isi e t, h => Fr3.ofV (Fr.bind (fr_ev e h).v fun x => Fr.optm (isiD x t) D.bl)
  | .mth m o es, h => Fr3.ofV (Fr.bind (fr_ev o (or_f h).1).v fun x => Fr.bind (fr_evs es (or_f h).2) fun ds => Fr.opt (mthD m x ds))
  | .mut m j es, h => Fr3.ofV (by
      intro ρ y ρ1 e
      obtain ⟨u, e1, e2⟩ := Option.bind_eq_some_iff.mp e
      obtain ⟨⟨ds, ρ2⟩, e5, e6⟩ := Option.bind_eq_some_iff.mp e2
      obtain ⟨d, e7, e8⟩ := Option.bind_eq_some_iff.mp e6
      obtain ⟨⟨r, d'⟩, e9, e10⟩ := Option.map_eq_some_iff.mp e8
      cases e10
      rw [get_set_ne (or_f h).1]
      exact fr_evs es (or_f h).2 _ _ _ e5)
  | .call f es bk, h => Fr3.ofV (Fr.bind (F := fun ds ρ1 => (cf f ds).bind fun (d, o) => (backs bk o ρ1).map fun ρ2 => (d, ρ2)) (fr_evs es (or_f h).1) fun ds => by
      intro ρ y ρ1 e
      obtain ⟨⟨d, o⟩, e1, e2⟩ := Option.bind_eq_some_iff.mp e
      obtain ⟨ρ2, e3, e4⟩ := Option.map_eq_some_iff.mp e2
      cases e4
      exact fr_backs bk o (or_f h).2 _ _ e3)
  | .lc elt x it c, h => Fr3.ofV (Fr.bind (F := fun xs ρ1 => (lcL (fun d ρ => (bindT x d (wipeE ρ (slotsT x))).bind fun ρ1 => (evc cf gl c ρ1).bind fun (b, ρ2) => if b then ((ev cf gl elt).v ρ2).map fun (y, ρ3) => (some y, ρ3) else some (none, ρ2)) xs ρ1 []).map fun (ys, ρ2) => (D.lst ys, restE ρ1 ρ2 (slotsT x))) (fr_ev it (or_f (or_f (or_f h).1).1).2).i fun xs => by
      intro ρ y ρ1 e
      obtain ⟨⟨ys, ρ2⟩, e1, e2⟩ := Option.map_eq_some_iff.mp e
      cases e2
      rw [fr_rest _ _ _ (or_f h).2]
      have hb : ∀ d, FrT i (fun ρ => bindT x d (wipeE ρ (slotsT x))) := fun d ρ ρ1 e => by rw [fr_bindT x d (or_f h).2 _ _ e, fr_wipe _ _ (or_f h).2]
      exact fr_lcL (fun d => Fr.bt (hb d) (Fr.bind (F := fun b ρ2 => if b then ((ev cf gl elt).v ρ2).map fun (y, ρ3) => (some y, ρ3) else some (none, ρ2)) (fr_evc c (or_f (or_f h).1).2) fun b => Fr.ite b (Fr.mapm (fr_ev elt (or_f (or_f (or_f h).1).1).1).v some) (Fr.pure _))) xs [] _ _ _ e1)
  | .ge k elt x it c, h => Fr3.ofV (Fr.bind (F := fun xs ρ1 => (geL k (fun d ρ => (bindT x d (wipeE ρ (slotsT x))).bind fun ρ1 => (evc cf gl c ρ1).bind fun (b, ρ2) => if b then ((ev cf gl elt).v ρ2).bind fun (y, ρ3) => (isB y).map fun y => (some y, ρ3) else some (none, ρ2)) xs ρ1).map fun (b, ρ2) => (D.bl b, restE ρ1 ρ2 (slotsT x))) (fr_ev it (or_f (or_f (or_f h).1).1).2).i fun xs => by
      intro ρ y ρ1 e
      obtain ⟨⟨ys, ρ2⟩, e1, e2⟩ := Option.map_eq_some_iff.mp e
      cases e2
      rw [fr_rest _ _ _ (or_f h).2]
      have hb : ∀ d, FrT i (fun ρ => bindT x d (wipeE ρ (slotsT x))) := fun d ρ ρ1 e => by rw [fr_bindT x d (or_f h).2 _ _ e, fr_wipe _ _ (or_f h).2]
      exact fr_geL (k := k) (fun d => Fr.bt (hb d) (Fr.bind (F := fun b ρ2 => if b then ((ev cf gl elt).v ρ2).bind fun (y, ρ3) => (isB y).map fun y => (some y, ρ3) else some (none, ρ2)) (fr_evc c (or_f (or_f h).1).2) fun b => Fr.ite b (Fr.bind (fr_ev elt (or_f (or_f (or_f h).1).1).1).v fun y => Fr.optm (isB y) some) (Fr.pure _))) xs _ _ _ e1)
  | .lof b it, h => Fr3.ofV (Fr.bind (fr_ev it h).i fun xs => Fr.opt (lofD b xs))
  | .ichk e, h => Fr3.ofI (Fr.bind (fr_ev e h).i fun xs => Fr.ifs (c := D.pures xs = true) xs)
  | .irng1 a, h => Fr3.ofI (Fr.bind (fr_ev a h).v fun x => Fr.opt (rng1D x))
  | .irng2 a b, h => Fr3.ofI (Fr.bind (fr_ev a (or_f h).1).v fun x => Fr.bind (fr_ev b (or_f h).2).v fun y => Fr.opt (rng2D x y))
  | .irng3 a b c, h => Fr3.ofI (Fr.bind (fr_ev a (or_f (or_f h).1).1).v fun x => Fr.bind (fr_ev b (or_f (or_f h).1).2).v fun y => Fr.bind (fr_ev c (or_f h).2).v fun z => Fr.opt (rng3D x y z))
  | .ienum e, h => Fr3.ofI (Fr.bind (fr_ev e h).v fun x => Fr.optm (items x) (enumD 0))
  | .izip a b, h => Fr3.ofI (Fr.bind (fr_ev a (or_f h).1).v fun x => Fr.bind (fr_ev b (or_f h).2).v fun z => Fr.optm (items2 x z) (fun p => zipD p.1 p.2))
  | .irev e, h => Fr3.ofI (Fr.bind (fr_ev e h).v fun x => Fr.optm (items x) List.reverse)
theorem fr_evc : ∀ c : Option E, tEo i c = false → Fr i (evc cf gl c)
  | none, _ => Fr.pure true
  | some c, h => (fr_ev c h).t
theorem fr_evo : ∀ c : Option E, tEo i c = false → Fr i (evo cf gl c)
  | none, _ => Fr.pure none
  | some c, h => Fr.bind (fr_ev c h).v fun x => Fr.optm (isI x) some
theorem fr_evs : ∀ es : List E, tEs i es = false → Fr i (evs cf gl es)
  | [], _ => Fr.pure []
  | e :: es, h => Fr.bind (fr_ev e (or_f h).1).v fun x => Fr.mapm (fr_evs es (or_f h).2) (fun ds => x :: ds)
end
end
def envO : Out → Env
  | .nx ρ => ρ
  | .rt _ ρ => ρ
  | .bk ρ => ρ
  | .ct ρ => ρ
def FrO (i : Nat) (f : Env → Option Out) : Prop := ∀ ρ o, f ρ = some o → getS (envO o) i = getS ρ i
section
variable {i : Nat}
theorem FrO.of {α : Type} {f : Env → Option (α × Env)} (h : Fr i f) {F : α → Env → Option Out} (h' : ∀ x, FrO i (F x)) : FrO i (fun ρ => (f ρ).bind fun p => F p.1 p.2) := by
  intro ρ o e
  obtain ⟨⟨y, ρ2⟩, e1, e2⟩ := Option.bind_eq_some_iff.mp e
  rw [h' y _ _ e2, h _ _ _ e1]
theorem FrO.opt {α : Type} (o : Option α) {F : α → Env → Option Out} (h : ∀ x, FrO i (F x)) : FrO i (fun ρ => o.bind fun d => F d ρ) := by
  intro ρ y e
  obtain ⟨d, rfl, e2⟩ := Option.bind_eq_some_iff.mp e
  exact h d _ _ e2
theorem FrO.got (j : Nat) {F : D → Env → Option Out} (h : ∀ x, FrO i (F x)) : FrO i (fun ρ => (getS ρ j).bind fun d => F d ρ) := by
  intro ρ y e
  obtain ⟨d, _, e2⟩ := Option.bind_eq_some_iff.mp e
  exact h d _ _ e2
theorem FrO.bt {fb : Env → Option Env} {f : Env → Option Out} (h : FrT i fb) (h' : FrO i f) : FrO i (fun ρ => (fb ρ).bind f) := by
  intro ρ x e
  obtain ⟨ρ2, e1, e2⟩ := Option.bind_eq_some_iff.mp e
  rw [h' _ _ e2, h _ _ e1]
theorem FrO.nx {fb : Env → Option Env} (h : FrT i fb) : FrO i (fun ρ => (fb ρ).map Out.nx) := by
  intro ρ x e
  obtain ⟨ρ2, e1, e2⟩ := Option.map_eq_some_iff.mp e
  cases e2
  exact h _ _ e1
theorem FrO.map {α : Type} {f : Env → Option (α × Env)} (h : Fr i f) (F : α → Env → Env) (h' : ∀ x a, getS (F x a) i = getS a i) : FrO i (fun ρ => (f ρ).map fun p => Out.nx (F p.1 p.2)) := by
  intro ρ o e
  obtain ⟨⟨y, ρ2⟩, e1, e2⟩ := Option.map_eq_some_iff.mp e
  cases e2
  show getS (F y ρ2) i = _
  rw [h', h _ _ _ e1]
theorem FrO.ite {f f' : Env → Option Out} (c : Bool) (h : FrO i f) (h' : FrO i f') : FrO i (fun ρ => if c then f ρ else f' ρ) := by
  cases c
  · exact h'
  · exact h
theorem FrO.set {j : Nat} (hj : (j == i) = false) (o : Option D) : FrO i (fun ρ => o.map fun d => Out.nx (ρ.set j (some d))) := by
  intro ρ y e
  obtain ⟨d, e1, e2⟩ := Option.map_eq_some_iff.mp e
  cases e2
  exact get_set_ne hj
theorem FrO.id (o : Env → Out) (h : ∀ ρ, envO (o ρ) = ρ) : FrO i (fun ρ => some (o ρ)) := by
  intro ρ y e
  cases e
  rw [h]
theorem fr_whlL {c : Env → Option (Bool × Env)} {b : Env → Option Out} (hc : Fr i c) (hb : FrO i b) : ∀ n, FrO i (whlL c b n)
  | 0 => fun _ _ e => nomatch e
  | n + 1 => by
    intro ρ o e
    obtain ⟨⟨t, ρ1⟩, e1, e2⟩ := Option.bind_eq_some_iff.mp (show (c ρ).bind _ = some o from e)
    rw [← hc _ _ _ e1]
    cases t with
    | false =>
      cases (show some (Out.nx ρ1) = some o from e2)
      rfl
    | true =>
      obtain ⟨o1, e4, e5⟩ := Option.bind_eq_some_iff.mp (show (b ρ1).bind _ = some o from e2)
      rw [← hb _ _ e4]
      cases o1 with
      | nx ρ2 => exact fr_whlL hc hb n _ _ e5
      | ct ρ2 => exact fr_whlL hc hb n _ _ e5
      | bk ρ2 => cases e5; rfl
      | rt d ρ2 => cases e5; rfl
theorem fr_forL {b : D → Env → Option Out} (hb : ∀ d, FrO i (b d)) : ∀ xs, FrO i (forL b xs)
  | [] => fun ρ o e => by cases (show some (Out.nx ρ) = some o from e); rfl
  | x :: r => by
    intro ρ o e
    obtain ⟨o1, e4, e5⟩ := Option.bind_eq_some_iff.mp (show (b x ρ).bind _ = some o from e)
    rw [← hb x _ _ e4]
    cases o1 with
    | nx ρ2 => exact fr_forL hb r _ _ e5
    | ct ρ2 => exact fr_forL hb r _ _ e5
    | bk ρ2 => cases e5; rfl
    | rt d ρ2 => cases e5; rfl
variable (cf : Fns) (gl : Nat → Option D) (w : Nat)
mutual
theorem fr_execS : ∀ s : S, tS i s = false → FrO i (execS cf gl w s)
  | .set t e, h => FrO.of (F := fun d ρ1 => (bindT t d ρ1).map Out.nx) (fr_ev cf gl e (or_f h).2).v fun d => FrO.nx (fr_bindT t d (or_f h).1)
  | .par j k a b, h => FrO.of (fr_ev cf gl a (or_f (or_f h).1).2).v fun x => FrO.map (fr_ev cf gl b (or_f h).2).v (fun y ρ2 => (ρ2.set j (some x)).set k (some y)) fun y ρ2 => by rw [get_set_ne (or_f (or_f (or_f h).1).1).2, get_set_ne (or_f (or_f (or_f h).1).1).1]
  | .aug j o e, h => FrO.got j fun x => FrO.of (fr_ev cf gl e (or_f h).2).v fun y => FrO.set (or_f h).1 (augD o x y)
  | .put j k e, h => FrO.of (fr_ev cf gl e (or_f h).2).v fun v => FrO.got j fun _ => FrO.of (fr_ev cf gl k (or_f (or_f h).1).2).v fun kd => FrO.got j fun d => FrO.set (or_f (or_f h).1).1 (putAt d kd v)
  | .augput j k o e, h => FrO.got j fun _ => FrO.of (fr_ev cf gl k (or_f (or_f h).1).2).v fun kd => FrO.got j fun d => FrO.opt ((idxD d kd).bind isI) fun old => FrO.of (fr_ev cf gl e (or_f h).2).v fun v => FrO.opt (isI v) fun v => FrO.opt (opD o (.int old) (.int v)) fun nw => FrO.got j fun d2 => FrO.set (or_f (or_f h).1).1 (putAt d2 kd nw)
  | .ex e, h => FrO.map (fr_ev cf gl e h).v (fun _ ρ => ρ) fun _ _ => rfl
  | .ret e, h => by
    intro ρ o e'
    obtain ⟨⟨d, ρ1⟩, e1, e2⟩ := Option.map_eq_some_iff.mp e'
    cases e2
    exact (fr_ev cf gl e h).v _ _ _ e1
  | .ret0, _ => FrO.id (Out.rt .non) fun _ => rfl
  | .iff c t f, h => FrO.of (fr_ev cf gl c (or_f (or_f h).1).1).t fun b => FrO.ite b (fr_execSs t (or_f (or_f h).1).2) (fr_execSs f (or_f h).2)
  | .whl c b, h => fr_whlL (fr_ev cf gl c (or_f h).1).t (fr_execSs b (or_f h).2) w
  | .for_ x it b, h => FrO.of (fr_ev cf gl it (or_f (or_f h).1).2).i fun xs => fr_forL (fun d => FrO.bt (fr_bindT x d (or_f (or_f h).1).1) (fr_execSs b (or_f h).2)) xs
  | .brk, _ => FrO.id Out.bk fun _ => rfl
  | .cnt, _ => FrO.id Out.ct fun _ => rfl
  | .pas, _ => FrO.id Out.nx fun _ => rfl
  | .doc, _ => FrO.id Out.nx fun _ => rfl
theorem fr_execSs : ∀ ss : List S, tSs i ss = false → FrO i (execSs cf gl w ss)
  | [], _ => FrO.id Out.nx fun _ => rfl
  | s :: r, h => by
    intro ρ o e
    obtain ⟨o1, e4, e5⟩ := Option.bind_eq_some_iff.mp (show (execS cf gl w s ρ).bind _ = some o from e)
    rw [← fr_execS s (or_f h).1 _ _ e4]
    cases o1 with
    | nx ρ2 => exact fr_execSs r (or_f h).2 _ _ e5
    | ct ρ2 => cases e5; rfl
    | bk ρ2 => cases e5; rfl
    | rt d ρ2 => cases e5; rfl
end
end
end Vi

set_option Elab.async false
set_option linter.all false
set_option maxRecDepth 100000
set_option maxHeartbeats 4000000
/-! What is known of the slots, as a row of facts. -/
namespace Vi
open PySem L2

mutual
/-- the same data -/
def D.eqb : D → D → Bool
  | .non, .non => true
  | .bl a, .bl b => a == b
  | .int a, .int b => a == b
  | .str a, .str b => a == b
  | .tup a, .tup b => D.eqbs a b
  | .lst a, .lst b => D.eqbs a b
  | .dct a b, .dct c d => D.eqbs a c && D.eqbs b d
  | .scr a, .scr b => a == b
  | _, _ => false
def D.eqbs : List D → List D → Bool
  | [], [] => true
  | x :: r, y :: s => D.eqb x y && D.eqbs r s
  | _, _ => false
end
mutual
theorem D.eqb_eq : ∀ {a b : D}, D.eqb a b = true → a = b
  | .non, .non, _ => rfl
  | .bl a, .bl b, h => by rw [eq_of_beq (show (a == b) = true from h)]
  | .int a, .int b, h => by rw [eq_of_beq (show (a == b) = true from h)]
  | .str a, .str b, h => by rw [eq_of_beq (show (a == b) = true from h)]
  | .tup a, .tup b, h => by rw [D.eqbs_eq (show D.eqbs a b = true from h)]
  | .lst a, .lst b, h => by rw [D.eqbs_eq (show D.eqbs a b = true from h)]
  | .dct a b, .dct c d, h => by
    have h := Bool.and_eq_true_iff.mp (show (D.eqbs a c && D.eqbs b d) = true from h)
    rw [D.eqbs_eq h.1, D.eqbs_eq h.2]
  | .scr a, .scr b, h => by rw [eq_of_beq (show (a == b) = true from h)]
theorem D.eqbs_eq : ∀ {a b : List D}, D.eqbs a b = true → a = b
  | [], [], _ => rfl
  | x :: r, y :: s, h => by
    have h := Bool.and_eq_true_iff.mp (show (D.eqb x y && D.eqbs r s) = true from h)
    rw [D.eqb_eq h.1, D.eqbs_eq h.2]
end
theorem six_n (n d p : Nat) : six n d (some (p : Nat)) = min p n := by
  show (if ((p : Nat) : Int) < 0 then (((p : Nat) : Int) + (n : Int)).toNat else min ((p : Nat) : Int).toNat n) = _
  rw [if_neg (by omega), Int.toNat_natCast]
theorem cut_to {α : Type} (xs : List α) (p : Nat) : cut xs none (some (p : Nat)) = xs.take p := by
  unfold cut
  rw [six_n]
  show List.take (min p xs.length - 0) (List.drop 0 xs) = _
  rw [List.drop_zero, Nat.sub_zero]
  by_cases h : p ≤ xs.length
  · rw [Nat.min_eq_left h]
  · rw [Nat.min_eq_right (by omega), List.take_of_length_le (Nat.le_refl _), List.take_of_length_le (by omega)]
theorem cut_from {α : Type} (xs : List α) (p : Nat) : cut xs (some (p : Nat)) none = xs.drop p := by
  unfold cut
  rw [six_n]
  show List.take (xs.length - min p xs.length) (List.drop (min p xs.length) xs) = _
  rw [List.take_of_length_le (by rw [List.length_drop]; omega)]
  by_cases h : p ≤ xs.length
  · rw [Nat.min_eq_left h]
  · rw [Nat.min_eq_right (by omega), List.drop_of_length_le (Nat.le_refl _), List.drop_of_length_le (by omega)]
theorem cut_mid {α : Type} (xs : List α) (p q : Nat) (hq : q ≤ xs.length) (hp : p ≤ q) : cut xs (some (p : Nat)) (some (q : Nat)) = (xs.drop p).take (q - p) := by
  unfold cut
  rw [six_n, six_n, Nat.min_eq_left (by omega), Nat.min_eq_left (by omega)]
abbrev Facts := List (Nat × D)
/-- these slots hold these -/
def Kn (n : Nat) (fs : Facts) (ρ : Env) : Prop := ρ.length = n ∧ ∀ p ∈ fs, getS ρ p.1 = some p.2
def mkE (n : Nat) : Facts → Env
  | [] => List.replicate n none
  | p :: r => (mkE n r).set p.1 (some p.2)
theorem Le.fact {a b : Env} (h : Le a b) {i : Nat} {d : D} (e : getS b i = some d) : Le (a.set i (some d)) b := by
  induction h generalizing i with
  | nil => exact .nil
  | cons e' h' ih =>
    cases i with
    | zero => exact .cons (.inr (show some d = _ from e.symm)) h'
    | succ i => exact .cons e' (ih (i := i) e)
theorem Le.bot : ∀ ρ : Env, Le (List.replicate ρ.length none) ρ
  | [] => .nil
  | a :: r => .cons (.inl rfl) (Le.bot r)
section
variable {n : Nat} {fs keep out : Facts} {ρ ρ1 : Env}
theorem Kn.len (h : Kn n fs ρ) : ρ.length = n := h.1
theorem Kn.cons {p : Nat × D} (h : Kn n fs ρ) (e : getS ρ p.1 = some p.2) : Kn n (p :: fs) ρ :=
  ⟨h.1, fun q hq => (List.mem_cons.mp hq).elim (fun z => z ▸ e) (h.2 q)⟩
theorem Kn.sub (h : Kn n fs ρ) (hs : ∀ p ∈ out, p ∈ fs) : Kn n out ρ := ⟨h.1, fun p hp => h.2 p (hs p hp)⟩
theorem Kn.nil (h : ρ.length = n) : Kn n [] ρ := ⟨h, fun _ h => nomatch h⟩
theorem Kn.le : ∀ {fs : Facts}, Kn n fs ρ → Le (mkE n fs) ρ
  | [], h => by
    have := Le.bot ρ
    rw [h.1] at this; exact this
  | p :: r, h => (Kn.le (fs := r) ⟨h.1, fun q hq => h.2 q (List.mem_cons_of_mem _ hq)⟩).fact (h.2 p (List.mem_cons_self ..))
theorem Kn.set {i : Nat} {d : D} (h : Kn n fs ρ) (hi : fs.all (fun p => !(i == p.1)) = true) (hn : i < n) : Kn n ((i, d) :: fs) (ρ.set i (some d)) := by
  refine ⟨by rw [List.length_set]; exact h.1, fun q hq => ?_⟩
  rcases List.mem_cons.mp hq with rfl | hq
  · show getS (ρ.set i (some d)) i = some d
    unfold getS
    rw [List.getElem?_set_self (by rw [h.1]; exact hn)]; rfl
  · have := List.all_eq_true.mp hi q hq
    rw [get_set_ne (by cases e : (i == q.1) <;> simp_all)]
    exact h.2 q hq
theorem Kn.of (hl : Le ρ1 ρ) (hn : ρ1.length = n) (ho : ∀ p ∈ out, getS ρ1 p.1 = some p.2) : Kn n out ρ := ⟨by rw [← hl.len, hn], fun p hp => hl.get (ho p hp)⟩
theorem Kn.left {a b : Facts} (h : Kn n (a ++ b) ρ) : Kn n a ρ := h.sub fun p hp => List.mem_append_left _ hp
theorem Kn.right {a b : Facts} (h : Kn n (a ++ b) ρ) : Kn n b ρ := h.sub fun p hp => List.mem_append_right _ hp
theorem Kn.app {a b : Facts} (h : Kn n a ρ) (h' : Kn n b ρ) : Kn n (a ++ b) ρ := ⟨h.1, fun p hp => (List.mem_append.mp hp).elim (h.2 p) (h'.2 p)⟩
variable {cf0 cf : Fns} {gl : Nat → Option D} {w0 w : Nat}
theorem kn_o {f0 f : Env → Option Out} (hm : MoO f0 f) (h : Kn n (fs ++ keep) ρ) {o : Out} (e : f0 (mkE n fs) = some o) (hf : ∀ p ∈ keep, FrO p.1 f) : ∃ o', f ρ = some o' ∧ LeO o o' ∧ ∀ p ∈ keep, getS (envO o') p.1 = some p.2 := by
  obtain ⟨o', e1, h1⟩ := hm _ _ _ h.left.le e
  exact ⟨o', e1, h1, fun p hp => by rw [hf p hp _ _ e1]; exact h.right.2 p hp⟩
theorem keepS {ss : List S} (ht : keep.all (fun p => !tSs p.1 ss) = true) : ∀ p ∈ keep, FrO p.1 (execSs cf gl w ss) := fun p hp => fr_execSs cf gl w ss (by have := List.all_eq_true.mp ht p hp; cases e : tSs p.1 ss <;> simp_all)
theorem keep1 {s : S} (ht : keep.all (fun p => !tS p.1 s) = true) : ∀ p ∈ keep, FrO p.1 (execS cf gl w s) := fun p hp => fr_execS cf gl w s (by have := List.all_eq_true.mp ht p hp; cases e : tS p.1 s <;> simp_all)
/-- statements: from what they need; the rest stays -/
theorem kn_ss {ss : List S} (hc : FLe cf0 cf) (hw : w0 ≤ w) (h : Kn n (fs ++ keep) ρ) (e : execSs cf0 gl w0 ss (mkE n fs) = some (.nx ρ1)) (hn : ρ1.length = n) (ho : ∀ p ∈ out, getS ρ1 p.1 = some p.2) (ht : keep.all (fun p => !tSs p.1 ss) = true) : ∃ ρ', execSs cf gl w ss ρ = some (.nx ρ') ∧ Kn n (out ++ keep) ρ' := by
  obtain ⟨o', e1, h1, h2⟩ := kn_o (mo_execSs gl hc hw ss) h e (keepS ht)
  cases h1 with
  | nx h3 => exact ⟨_, e1, (Kn.of h3 hn ho).app ⟨by rw [← h3.len, hn], h2⟩⟩
theorem kn_s {s : S} (hc : FLe cf0 cf) (hw : w0 ≤ w) (h : Kn n (fs ++ keep) ρ) (e : execS cf0 gl w0 s (mkE n fs) = some (.nx ρ1)) (hn : ρ1.length = n) (ho : ∀ p ∈ out, getS ρ1 p.1 = some p.2) (ht : keep.all (fun p => !tS p.1 s) = true) : ∃ ρ', execS cf gl w s ρ = some (.nx ρ') ∧ Kn n (out ++ keep) ρ' := by
  obtain ⟨o', e1, h1, h2⟩ := kn_o (mo_execS gl hc hw s) h e (keep1 ht)
  cases h1 with
  | nx h3 => exact ⟨_, e1, (Kn.of h3 hn ho).app ⟨by rw [← h3.len, hn], h2⟩⟩
theorem kn_m {α : Type} {f0 f : Env → Option (α × Env)} {x : α} (hm : Mo f0 f) (h : Kn n (fs ++ keep) ρ) (e : f0 (mkE n fs) = some (x, ρ1)) (hn : ρ1.length = n) (ho : ∀ p ∈ out, getS ρ1 p.1 = some p.2) (hf : ∀ p ∈ keep, Fr p.1 f) : ∃ ρ', f ρ = some (x, ρ') ∧ Kn n (out ++ keep) ρ' := by
  obtain ⟨ρ', e1, h1⟩ := hm _ _ _ _ h.left.le e
  exact ⟨ρ', e1, (Kn.of h1 hn ho).app ⟨by rw [← h1.len, hn], fun p hp => by rw [hf p hp _ _ _ e1]; exact h.right.2 p hp⟩⟩
theorem keepE {e : E} (ht : keep.all (fun p => !tE p.1 e) = true) : ∀ p ∈ keep, Fr3 p.1 (ev cf gl e) := fun p hp => fr_ev cf gl e (by have := List.all_eq_true.mp ht p hp; cases e' : tE p.1 e <;> simp_all)
theorem kn_v {e : E} {x : D} (hc : FLe cf0 cf) (h : Kn n (fs ++ keep) ρ) (h0 : (ev cf0 gl e).v (mkE n fs) = some (x, ρ1)) (hn : ρ1.length = n) (ho : ∀ p ∈ out, getS ρ1 p.1 = some p.2) (ht : keep.all (fun p => !tE p.1 e) = true) : ∃ ρ', (ev cf gl e).v ρ = some (x, ρ') ∧ Kn n (out ++ keep) ρ' :=
  kn_m (mo_ev gl hc e).v h h0 hn ho fun p hp => (keepE ht p hp).v
theorem kn_t {e : E} {x : Bool} (hc : FLe cf0 cf) (h : Kn n (fs ++ keep) ρ) (h0 : (ev cf0 gl e).t (mkE n fs) = some (x, ρ1)) (hn : ρ1.length = n) (ho : ∀ p ∈ out, getS ρ1 p.1 = some p.2) (ht : keep.all (fun p => !tE p.1 e) = true) : ∃ ρ', (ev cf gl e).t ρ = some (x, ρ') ∧ Kn n (out ++ keep) ρ' :=
  kn_m (mo_ev gl hc e).t h h0 hn ho fun p hp => (keepE ht p hp).t
theorem kn_i {e : E} {x : List D} (hc : FLe cf0 cf) (h : Kn n (fs ++ keep) ρ) (h0 : (ev cf0 gl e).i (mkE n fs) = some (x, ρ1)) (hn : ρ1.length = n) (ho : ∀ p ∈ out, getS ρ1 p.1 = some p.2) (ht : keep.all (fun p => !tE p.1 e) = true) : ∃ ρ', (ev cf gl e).i ρ = some (x, ρ') ∧ Kn n (out ++ keep) ρ' :=
  kn_m (mo_ev gl hc e).i h h0 hn ho fun p hp => (keepE ht p hp).i
/-! checks by reckoning -/
def hasB (ρ : Env) (p : Nat × D) : Bool := match getS ρ p.1 with
  | some d => D.eqb d p.2
  | none => false
theorem hasB_of {p : Nat × D} (h : hasB ρ p = true) : getS ρ p.1 = some p.2 := by
  unfold hasB at h
  split at h
  · rename_i d e; rw [e, D.eqb_eq h]
  · cases h
def ckN (cf : Fns) (gl : Nat → Option D) (w : Nat) (ss : List S) (n : Nat) (fs out : Facts) : Bool := match execSs cf gl w ss (mkE n fs) with
  | some (.nx ρ1) => ρ1.length == n && out.all (hasB ρ1)
  | _ => false
theorem ck_ss {ss : List S} (e : ckN cf0 gl w0 ss n fs out = true) (hc : FLe cf0 cf) (hw : w0 ≤ w) (h : Kn n (fs ++ keep) ρ) (ht : keep.all (fun p => !tSs p.1 ss) = true) : ∃ ρ', execSs cf gl w ss ρ = some (.nx ρ') ∧ Kn n (out ++ keep) ρ' := by
  unfold ckN at e
  split at e
  · rename_i ρ1 e1
    have e := Bool.and_eq_true_iff.mp e
    exact kn_ss hc hw h e1 (eq_of_beq e.1) (fun p hp => hasB_of (List.all_eq_true.mp e.2 p hp)) ht
  · cases e
def ckC (cf : Fns) (f : Nat) (ds : List D) (d : D) : Bool := match cf f ds with
  | some (r, _) => D.eqb r d
  | none => false
theorem ck_call {f : Nat} {ds : List D} {d : D} (e : ckC cf0 f ds d = true) (hc : FLe cf0 cf) : ∃ o, cf f ds = some (d, o) := by
  unfold ckC at e
  split at e
  · rename_i r o e1
    obtain ⟨o', e2, _⟩ := hc _ _ _ _ e1
    rw [D.eqb_eq e] at e2
    exact ⟨o', e2⟩
  · cases e
/-! rows of statements -/
theorem ss_nx {s : S} {r : List S} {ρ' : Env} (h : execS cf gl w s ρ = some (.nx ρ')) : execSs cf gl w (s :: r) ρ = execSs cf gl w r ρ' := by
  show (execS cf gl w s ρ).bind _ = _
  rw [h]; rfl
theorem ss_app {a b : List S} {ρ' : Env} (h : execSs cf gl w a ρ = some (.nx ρ')) : execSs cf gl w (a ++ b) ρ = execSs cf gl w b ρ' := by
  induction a generalizing ρ with
  | nil => cases (show some (Out.nx ρ) = some (.nx ρ') from h); rfl
  | cons s r ih =>
    obtain ⟨o, e1, e2⟩ := Option.bind_eq_some_iff.mp (show (execS cf gl w s ρ).bind _ = some (Out.nx ρ') from h)
    cases o with
    | nx ρ2 => rw [List.cons_append, ss_nx e1]; exact ih e2
    | rt d ρ2 => cases e2
    | bk ρ2 => cases e2
    | ct ρ2 => cases e2
theorem xs_for {x : Tg} {it : E} {b : List S} {xs : List D} {ρ2 : Env} (h : (ev cf gl it).i ρ = some (xs, ρ1)) (h' : forL (forF cf gl w x b) xs ρ1 = some (.nx ρ2)) : execS cf gl w (.for_ x it b) ρ = some (.nx ρ2) := by
  show ((ev cf gl it).i ρ).bind _ = _
  rw [h]; exact h'
theorem xs_whl {c : E} {b : List S} {ρ2 : Env} (h' : whlL ((ev cf gl c).t) (execSs cf gl w b) w ρ = some (.nx ρ2)) : execS cf gl w (.whl c b) ρ = some (.nx ρ2) := h'
theorem forF_nm {i : Nat} {b : List S} {d : D} : forF cf gl w (.nm i) b d ρ = execSs cf gl w b (ρ.set i (some d)) := rfl
/-- a for over a slot: each turn keeps these facts -/
theorem for_keep {i : Nat} {b : List S} {F : Facts} (hi : F.all (fun p => !(i == p.1)) = true) (hin : i < n) : ∀ (xs : List D) {ρ : Env}, Kn n F ρ → (∀ x ∈ xs, ∀ ρ, Kn n ((i, x) :: F) ρ → ∃ ρ', (execSs cf gl w b ρ = some (.nx ρ') ∨ execSs cf gl w b ρ = some (.ct ρ')) ∧ Kn n F ρ') → ∃ ρ', forL (forF cf gl w (.nm i) b) xs ρ = some (.nx ρ') ∧ Kn n F ρ'
  | [], ρ, h, _ => ⟨ρ, rfl, h⟩
  | x :: r, ρ, h, hs => by
    obtain ⟨ρ1, e1, h1⟩ := hs x (List.mem_cons_self ..) _ (h.set (d := x) hi hin)
    obtain ⟨ρ2, e2, h2⟩ := for_keep hi hin r h1 fun y hy => hs y (List.mem_cons_of_mem _ hy)
    refine ⟨ρ2, ?_, h2⟩
    rcases e1 with e1 | e1
    · show (execSs cf gl w b (ρ.set i (some x))).bind _ = _
      rw [e1]; exact e2
    · show (execSs cf gl w b (ρ.set i (some x))).bind _ = _
      rw [e1]; exact e2
end
/-- a for that is left by a break at turn m -/
theorem forL_brk {F : D → Env → Option Out} {Q : Env → Prop} : ∀ (xs : List D) (m : Nat) (P : Nat → Env → Prop) (ρ0 : Env), P 0 ρ0 → (∀ i x ρ, i < m → xs[i]? = some x → P i ρ → ∃ ρ', F x ρ = some (.nx ρ') ∧ P (i + 1) ρ') → m < xs.length → (∀ x ρ, xs[m]? = some x → P m ρ → ∃ ρ', F x ρ = some (.bk ρ') ∧ Q ρ') → ∃ ρ', forL F xs ρ0 = some (.nx ρ') ∧ Q ρ'
  | [], _, _, _, _, _, h, _ => absurd h (by simp)
  | x :: r, 0, P, ρ0, h0, _, _, hb => by
    obtain ⟨ρ', e, h⟩ := hb x ρ0 rfl h0
    refine ⟨ρ', ?_, h⟩
    show (F x ρ0).bind _ = _
    rw [e]; rfl
  | x :: r, m + 1, P, ρ0, h0, hs, hm, hb => by
    obtain ⟨ρ1, e1, h1⟩ := hs 0 x ρ0 (by omega) rfl h0
    obtain ⟨ρ', e2, h2⟩ := forL_brk r m (fun i => P (i + 1)) ρ1 h1 (fun i y ρ hi hy hp => hs (i + 1) y ρ (by omega) (by simpa using hy) hp) (by simpa using hm) (fun y ρ hy hp => hb y ρ (by simpa using hy) hp)
    refine ⟨ρ', ?_, h2⟩
    show (F x ρ0).bind _ = _
    rw [e1]; exact e2
theorem ixn_last (n : Nat) : ixn (n + 1) (-1) = some n := by
  unfold ixn
  rw [if_neg (by omega), if_pos (by omega)]
  congr 1; omega
end Vi

set_option Elab.async false
set_option linter.all false
set_option maxRecDepth 100000
set_option maxHeartbeats 4000000
/-! Rows of ints, and small things. -/
namespace Vi
open PySem L2
def tupI (bs : List Int) : D := .tup (bs.map D.int)
def lstI (bs : List Int) : D := .lst (bs.map D.int)
def gi (bs : List Int) (i : Nat) : Int := (bs[i]?).getD 0
theorem gi_get {bs : List Int} {i : Nat} (h : i < bs.length) : (bs.map D.int)[i]? = some (.int (gi bs i)) := by
  rw [List.getElem?_map, List.getElem?_eq_getElem h]
  unfold gi
  rw [List.getElem?_eq_getElem h]; rfl
theorem gi_elem {bs : List Int} {i : Nat} (h : i < bs.length) : gi bs i = bs[i] := by
  unfold gi
  rw [List.getElem?_eq_getElem h]; rfl
theorem gi_left {as bs : List Int} {i : Nat} (h : i < as.length) : gi (as ++ bs) i = gi as i := by
  unfold gi
  rw [List.getElem?_append_left h]
theorem gi_last (as : List Int) (x : Int) : gi (as ++ [x]) as.length = x := by
  unfold gi
  rw [List.getElem?_append_right (Nat.le_refl _), Nat.sub_self]; rfl
theorem it_T {xs : List D} : items (.tup xs) = some xs := rfl
theorem it_L {xs : List D} : items (.lst xs) = some xs := rfl
theorem fm_some {α : Type} (f : α → D) : ∀ xs : List α, xs.filterMap (fun x => some (f x)) = xs.map f
  | [] => rfl
  | x :: r => by rw [List.filterMap_cons, fm_some f r]; rfl
theorem fm_if {α : Type} (p : α → Bool) (f : α → Int) : ∀ xs : List α, xs.filterMap (fun x => if p x then some (D.int (f x)) else none) = ((xs.filter p).map f).map D.int
  | [] => rfl
  | x :: r => by
    rw [List.filterMap_cons, fm_if p f r, List.filter_cons]
    cases p x <;> rfl
theorem app_int (xs : List Int) (z : Int) : xs.map D.int ++ [D.int z] = (xs ++ [z]).map D.int := by simp
theorem len_int (xs : List Int) : (xs.map D.int).length = xs.length := List.length_map ..
theorem memD_int (p : Int) (xs : List Int) : memD (.int p) (xs.map D.int) = xs.any fun y => y == p := by
  unfold memD
  rw [List.any_map]; rfl
theorem fmod_nat {a : Int} {m : Nat} (h : 0 < m) : ∃ j : Nat, a.fmod (m : Nat) = (j : Nat) ∧ j < m := by
  have := fmod_lt (a := a) (b := (m : Nat)) (by omega)
  exact ⟨(a.fmod (m : Nat)).toNat, by omega, by omega⟩
theorem fdiv_nat (a b : Nat) : ((a : Nat) : Int).fdiv (b : Nat) = ((a / b : Nat) : Int) := by
  rw [Int.fdiv_eq_ediv_of_nonneg _ (by omega)]; rfl
theorem map_mid {α : Type} (g : Nat → α) (M p q : Nat) (hq : q ≤ M) (hp : p ≤ q) : (((List.range M).map g).drop p).take (q - p) = (List.range (q - p)).map fun i => g (p + i) := by
  apply List.ext_getElem
  · simp; omega
  · intro i h1 h2; simp
theorem map_rev {α : Type} (g : Nat → α) (m : Nat) : ((List.range m).map g).reverse = (List.range m).map fun i => g (m - 1 - i) := by
  apply List.ext_getElem
  · simp
  · intro i h1 h2; simp
theorem rng2_of {a b : Int} (ha : a.natAbs < 1073741824) (hb : b.natAbs < 1073741824) : rng2D (.int a) (.int b) = some (rngUp a (b - a).toNat) := by
  have s1 : small a = true := by unfold small; exact decide_eq_true ha
  have s2 : small b = true := by unfold small; exact decide_eq_true hb
  simp only [rng2D, isI, Option.bind_some, s1, s2, Bool.and_self, if_true]
theorem rng_nat (n : Nat) : rngUp 0 n = (List.range n).map fun i => D.int ((i : Nat) : Int) := by
  unfold rngUp
  apply List.map_congr_left
  intro i _
  rw [Int.zero_add]
theorem whlL_same {c : Env → Option (Bool × Env)} {b : Env → Option Out} (P : Nat → Env → Prop) {ρ0 : Env} (m : Nat) (h0 : P 0 ρ0) (hs : ∀ i ρ, i < m → P i ρ → c ρ = some (true, ρ) ∧ ∃ ρ2, b ρ = some (.nx ρ2) ∧ P (i + 1) ρ2) (he : ∀ ρ, P m ρ → c ρ = some (false, ρ)) (n : Nat) (hn : m < n) : ∃ ρ', whlL c b n ρ0 = some (.nx ρ') ∧ P m ρ' :=
  whlL_inv P m h0 (fun i ρ hi hp => by
    obtain ⟨e1, ρ2, e2, h2⟩ := hs i ρ hi hp
    exact ⟨ρ, ρ2, e1, .inl e2, h2⟩) he n hn
theorem i_rvs {cf : Fns} {gl : Nat → Option D} {ρ : Env} {a : E} : (ev cf gl (.rev a)).i ρ = ((ev cf gl (.rev a)).v ρ).bind kI := rfl
theorem q_neB {a : Bool} {y : D} : cmpD .ne (.bl a) y = if shp 64 (.bl a) && shp 64 y then some (.bl (!eqD (.bl a) y)) else none := rfl
theorem eqB_bl (a b : Bool) : eqD (.bl a) (.bl b) = (a == b) := rfl
/-- the first of a filtered range -/
theorem filt_first {q : Nat → Bool} {i0 : Nat} (h : q i0 = true) (hl : ∀ i, i < i0 → q i = false) : ∀ M, (List.range M).filter q = if i0 < M then i0 :: ((List.range M).filter q).tail else []
  | 0 => by rw [if_neg (by omega)]; rfl
  | M + 1 => by
    rw [List.range_succ, List.filter_append]
    have ih := filt_first h hl M
    by_cases hM : i0 < M
    · rw [if_pos hM] at ih
      rw [if_pos (by omega), ih]; rfl
    · rw [if_neg hM] at ih
      rw [ih]
      by_cases he : i0 = M
      · subst he
        rw [if_pos (by omega), List.filter_cons, h]; rfl
      · rw [if_neg (by omega), List.filter_cons, hl M (by omega)]; rfl
end Vi

set_option Elab.async false
set_option linter.all false
set_option maxRecDepth 100000
set_option maxHeartbeats 4000000
namespace Vi
open PySem L2
/-! quotients_of: 0 pair, 1 quotients, 2 less, 3 more -/
def c0_0 : E := (.cmp .gt (.var 2) (.lit (.int 0)))
def b0_1 : List S := [.ex (.mut .append 1 [(.own (.bin .fdiv (.var 3) (.var 2)))]), .set (.tup [(.nm 2), (.nm 3)]) (.tup [(.bin .mod (.var 3) (.var 2)), (.var 2)])]
def fn0 : Fn := { np := 1, ms := [false, true, false, false], body := [
    .set (.tup [(.nm 2), (.nm 3)]) (.fn .sorted [(.var 0)]),
    .set (.nm 1) (.lst []),
    .whl c0_0 b0_1,
    .ret (.chk (.fn .tuple [(.var 1)]))] }
/-! pair_of_quotients: 0 quotients, 1 quotient, 2 greater, 3 lesser -/
def b1_0 : List S := [.set (.tup [(.nm 2), (.nm 3)]) (.tup [(.bin .add (.bin .mul (.var 1) (.var 2)) (.var 3)), (.var 2)])]
def fn1 : Fn := { np := 1, ms := [false, false, false, false], body := [
    .set (.tup [(.nm 2), (.nm 3)]) (.tup [(.lit (.int 1)), (.lit (.int 0))]),
    .for_ (.nm 1) (.irev (.var 0)) b1_0,
    .ret (.chk (.tup [(.var 2), (.var 3)]))] }
/-! turning_quotient: 0 pair, 1 quotients, 2 at, 3 quotient -/
def b2_0 : List S := [.iff (.cmp .gt (.var 3) (.lit (.int 1))) [.ret (.chk (.var 2))] []]
def fn2 : Fn := { np := 1, ms := [false, false, false, false], body := [
    .set (.nm 1) (.call 0 [(.var 0)] [none]),
    .for_ (.tup [(.nm 2), (.nm 3)]) (.ienum (.var 1)) b2_0,
    .ret (.own (.bin .sub (.fn .len [(.var 1)]) (.lit (.int 1))))] }
/-! wins_euclid: 0 pair -/
def fn3 : Fn := { np := 1, ms := [false], body := [
    .ret (.cmp .eq (.bin .mod (.call 2 [(.var 0)] [none]) (.lit (.int 2))) (.lit (.int 0)))] }
/-! euclid_takes: 0 pair, 1 fine, 2 times, 3 less, 4 more, 5 left -/
def b4_0 : List S := [.set (.nm 5) (.bin .sub (.var 4) (.bin .mul (.var 2) (.var 3))), .iff (.bor (.cmp .eq (.var 5) (.lit (.int 0))) (.bnot (.call 3 [(.tup [(.var 5), (.var 3)])] [none]))) [.ex (.mut .append 1 [(.chk (.var 2))])] []]
def fn4 : Fn := { np := 1, ms := [false, true, false, false, false, false], body := [
    .set (.tup [(.nm 3), (.nm 4)]) (.fn .sorted [(.var 0)]),
    .set (.nm 1) (.lst []),
    .for_ (.nm 2) (.irng2 (.lit (.int 1)) (.bin .add (.bin .fdiv (.var 4) (.var 3)) (.lit (.int 1)))) b4_0,
    .ret (.chk (.fn .tuple [(.var 1)]))] }
/-! told_euclid: 0 pair, 1 fine -/
def fn5 : Fn := { np := 1, ms := [false, false], body := [
    .set (.nm 1) (.call 4 [(.var 0)] [none]),
    .ret (.ite (.var 1) (.chk (.idx (.var 1) (.lit (.int 0)))) (.lit .non))] }
/-! _law_cell: 0 script, 1 k -/
def fn6 : Fn := { np := 2, ms := [false, false], body := [
    .iff (.cmp .lt (.var 1) (.fn .len [(.var 0)])) [.ret (.chk (.idx (.var 0) (.var 1)))] [],
    .ret (.own (.bin .add (.bin .mul (.lit (.int 5)) (.var 1)) (.lit (.int 3))))] }
/-! _law_draws: 0 cell, 1 count, 2 rest, 3 digits, 4 seed, 5 draws, 6 k, 7 mixed -/
def b7_0 : List S := [.iff (.band (.var 3) (.cmp .gt (.var 2) (.lit (.int 0)))) [.ex (.mut .append 5 [(.own (.bin .mod (.fn .int [(.var 2)]) (.lit (.int 5040))))]), .set (.nm 2) (.bin .fdiv (.var 2) (.lit (.int 5040)))] [.set (.nm 7) (.bin .mod (.fn .int [(.bin .add (.bin .add (.bin .mul (.var 4) (.lit (.int 48271))) (.bin .mul (.bin .add (.var 6) (.lit (.int 1))) (.lit (.int 69621)))) (.lit (.int 11)))]) (.lit (.int 2147483647))), .set (.nm 7) (.bin .mod (.fn .int [(.bin .add (.bin .mul (.var 7) (.var 7)) (.bin .mul (.lit (.int 40692)) (.bin .add (.var 6) (.lit (.int 3)))))]) (.lit (.int 2147483399))), .ex (.mut .append 5 [(.own (.bin .mod (.fn .int [(.bin .fdiv (.var 7) (.lit (.int 64)))]) (.lit (.int 5040))))])]]
def fn7 : Fn := { np := 2, ms := [false, false, false, false, false, true, false, false], body := [
    .set (.nm 2) (.fn .abs [(.fn .int [(.var 0)])]),
    .set (.nm 3) (.cmp .ge (.var 2) (.bin .pow (.lit (.int 10)) (.lit (.int 18)))),
    .set (.nm 4) (.var 2),
    .set (.nm 5) (.lst []),
    .for_ (.nm 6) (.irng1 (.var 1)) b7_0,
    .ret (.mov 5)] }
/-! _law_is_integer: 0 value -/
def fn8 : Fn := { np := 1, ms := [false], body := [
    .ret (.band (.isi (.var 0) .int) (.bnot (.isi (.var 0) .bool)))] }
/-! _law_is: 0 value, 1 due, 2 at -/
def e9_0 : E := (.call 9 [(.idx (.var 0) (.var 2)), (.idx (.var 1) (.var 2))] [none, none])
def fn9 : Fn := { np := 2, ms := [false, false, false], body := [
    .iff (.cmp .is (.var 1) (.lit .non)) [.ret (.cmp .is (.var 0) (.lit .non))] [],
    .iff (.isi (.var 1) .bool) [.ret (.band (.isi (.var 0) .bool) (.cmp .eq (.var 0) (.var 1)))] [],
    .iff (.isi (.var 1) .int) [.ret (.band (.call 8 [(.var 0)] [none]) (.cmp .eq (.var 0) (.var 1)))] [],
    .iff (.isi (.var 1) .str) [.ret (.band (.isi (.var 0) .str) (.cmp .eq (.var 0) (.var 1)))] [],
    .iff (.bor (.bnot (.isi (.var 0) .tuple)) (.cmp .ne (.fn .len [(.var 0)]) (.fn .len [(.var 1)]))) [.ret (.lit (.bl false))] [],
    .ret (.fn .all [(.lc e9_0 (.nm 2) (.irng1 (.fn .len [(.var 1)])) none)])] }
/-! _law_gcd: 0 one, 1 other -/
def c10_0 : E := (.cmp .gt (.var 1) (.lit (.int 0)))
def b10_1 : List S := [.set (.tup [(.nm 0), (.nm 1)]) (.tup [(.var 1), (.bin .mod (.fn .int [(.var 0)]) (.var 1))])]
def fn10 : Fn := { np := 2, ms := [false, false], body := [
    .set (.nm 0) (.fn .abs [(.var 0)]),
    .set (.nm 1) (.fn .abs [(.var 1)]),
    .whl c10_0 b10_1,
    .ret (.chk (.var 0))] }
/-! _law_wins: 0 most, 1 wins, 2 more, 3 less -/
def b11_0 : List S := [.put 1 (.tup [(.var 3), (.var 2)]) (.cmp .gt (.fn .len [(.call 12 [(.var 1), (.tup [(.var 3), (.var 2)])] [none, none])]) (.lit (.int 0)))]
def b11_1 : List S := [.for_ (.nm 3) (.irng2 (.lit (.int 1)) (.bin .add (.var 2) (.lit (.int 1)))) b11_0]
def fn11 : Fn := { np := 1, ms := [false, true, false, false], body := [
    .set (.nm 1) .dct0,
    .for_ (.nm 2) (.irng2 (.lit (.int 1)) (.bin .add (.var 0) (.lit (.int 1)))) b11_1,
    .ret (.mov 1)] }
/-! _law_takes: 0 wins, 1 pair, 2 fine, 3 times, 4 less, 5 more, 6 left -/
def b12_0 : List S := [.set (.nm 6) (.bin .sub (.var 5) (.bin .mul (.var 3) (.var 4))), .iff (.bor (.cmp .eq (.var 6) (.lit (.int 0))) (.bnot (.idx (.var 0) (.tup [(.fn .min [(.var 6), (.var 4)]), (.fn .max [(.var 6), (.var 4)])])))) [.ex (.mut .append 2 [(.chk (.var 3))])] []]
def fn12 : Fn := { np := 2, ms := [false, false, true, false, false, false, false], body := [
    .set (.tup [(.nm 4), (.nm 5)]) (.fn .sorted [(.var 1)]),
    .set (.nm 2) (.lst []),
    .for_ (.nm 3) (.irng2 (.lit (.int 1)) (.bin .add (.bin .fdiv (.var 5) (.var 4)) (.lit (.int 1)))) b12_0,
    .ret (.chk (.fn .tuple [(.var 2)]))] }
/-! _law_quotients: 0 pair, 1 numbers, 2 less, 3 more -/
def c13_0 : E := (.cmp .gt (.var 2) (.lit (.int 0)))
def b13_1 : List S := [.set (.nm 1) (.bin .add (.var 1) (.tup [(.bin .fdiv (.var 3) (.var 2))])), .set (.tup [(.nm 2), (.nm 3)]) (.tup [(.bin .mod (.fn .int [(.var 3)]) (.var 2)), (.var 2)])]
def fn13 : Fn := { np := 1, ms := [false, false, false, false], body := [
    .set (.tup [(.nm 2), (.nm 3)]) (.fn .sorted [(.var 0)]),
    .set (.nm 1) (.tup []),
    .whl c13_0 b13_1,
    .ret (.chk (.var 1))] }
/-! _law_turning: 0 numbers, 1 great, 2 at, 3 number -/
def e14_0 : E := (.chk (.var 2))
def i14_1 : Option E := (some (.cmp .gt (.var 3) (.lit (.int 1))))
def fn14 : Fn := { np := 1, ms := [false, false, false, false], body := [
    .set (.nm 1) (.lc e14_0 (.tup [(.nm 2), (.nm 3)]) (.ienum (.var 0)) i14_1),
    .ret (.chk (.ite (.cmp .gt (.fn .len [(.var 1)]) (.lit (.int 0))) (.idx (.var 1) (.lit (.int 0))) (.bin .sub (.fn .len [(.var 0)]) (.lit (.int 1)))))] }
/-! _law_asked: 0 wins, 1 pair, 2 due, 3 numbers, 4 fine, 5 less, 6 more -/
def fn15 : Fn := { np := 2, ms := [false, false, false, false, false, false, false], body := [
    .set (.tup [(.nm 5), (.nm 6)]) (.fn .sorted [(.var 1)]),
    .set (.nm 2) (.call 12 [(.var 0), (.var 1)] [none, none]),
    .set (.nm 3) (.call 13 [(.var 1)] [none]),
    .iff (.bor (.bnot (.call 9 [(.call 0 [(.var 1)] [none]), (.var 3)] [none, none])) (.bnot (.call 9 [(.call 2 [(.var 1)] [none]), (.call 14 [(.var 3)] [none])] [none, none]))) [.ret (.lit (.bl false))] [],
    .set (.nm 4) (.cmp .gt (.fn .len [(.var 2)]) (.lit (.int 0))),
    .iff (.cmp .ne (.var 4) (.cmp .eq (.bin .mod (.fn .int [(.call 14 [(.var 3)] [none])]) (.lit (.int 2))) (.lit (.int 0)))) [.ret (.lit (.bl false))] [],
    .iff (.cmp .ne (.var 4) (.bor (.cmp .eq (.var 5) (.var 6)) (.cmp .gt (.bin .mul (.var 6) (.var 6)) (.bin .add (.bin .mul (.var 6) (.var 5)) (.bin .mul (.var 5) (.var 5)))))) [.ret (.lit (.bl false))] [],
    .iff (.bor (.bnot (.call 9 [(.call 3 [(.var 1)] [none]), (.var 4)] [none, none])) (.bnot (.call 9 [(.call 4 [(.var 1)] [none]), (.var 2)] [none, none]))) [.ret (.lit (.bl false))] [],
    .ret (.call 9 [(.call 5 [(.var 1)] [none]), (.ite (.var 4) (.chk (.idx (.var 2) (.lit (.int 0)))) (.lit .non))] [none, none])] }
/-! law: 0 script, 1 draws, 2 wins, 3 pair, 4 k, 5 cells, 6 one, 7 other, 8 near, 9 great, 10 numbers, 11 row, 12 told, 13 at, 14 number -/
def b16_0 : List S := [.iff (.bnot (.call 15 [(.var 2), (.var 3)] [none, none])) [.ret (.lit (.bl false))] []]
def e16_1 : E := (.own (.bin .add (.lit (.int 1)) (.bin .mod (.fn .int [(.idx (.var 5) (.bin .add (.lit (.int 8)) (.var 13)))]) (.idx (.tup [(.lit (.int 3)), (.lit (.int 20)), (.lit (.int 1))]) (.bin .mod (.fn .int [(.idx (.var 1) (.var 4))]) (.lit (.int 3)))))))
def e16_2 : E := (.call 8 [(.var 14)] [none])
def b16_3 : List S := [.set (.nm 5) (.call 7 [(.call 6 [(.var 0), (.bin .add (.lit (.int 1)) (.var 4))] [none, none]), (.lit (.int 20))] [none, none]), .set (.nm 6) (.bin .add (.lit (.int 1)) (.bin .mod (.fn .int [(.idx (.var 5) (.lit (.int 0)))]) (.lit (.int 60)))), .set (.nm 7) (.bin .add (.lit (.int 1)) (.bin .mod (.fn .int [(.idx (.var 5) (.lit (.int 1)))]) (.lit (.int 60)))), .set (.nm 8) (.fn .max [(.lit (.int 1)), (.fn .min [(.lit (.int 60)), (.bin .add (.bin .fdiv (.bin .mul (.var 6) (.lit (.int 8))) (.lit (.int 13))) (.bin .mod (.fn .int [(.idx (.var 5) (.lit (.int 2)))]) (.lit (.int 3))))])]), .for_ (.nm 3) (.tup [(.tup [(.var 6), (.var 7)]), (.tup [(.var 8), (.var 6)]), (.tup [(.var 6), (.var 8)]), (.tup [(.var 6), (.var 6)]), (.tup [(.fn .min [(.lit (.int 60)), (.bin .mul (.lit (.int 2)) (.var 8))]), (.var 8)])]) b16_0, .set (.nm 9) (.tup [(.bin .add (.bin .add (.lit (.int 1)) (.fn .int [(.idx (.var 5) (.lit (.int 3)))])) (.bin .mul (.bin .mul (.fn .int [(.idx (.var 5) (.lit (.int 4)))]) (.lit (.int 5040))) (.bin .mod (.fn .int [(.idx (.var 5) (.lit (.int 5)))]) (.lit (.int 39))))), (.bin .add (.lit (.int 1)) (.bin .mul (.fn .int [(.idx (.var 5) (.lit (.int 6)))]) (.bin .add (.lit (.int 1)) (.bin .mod (.fn .int [(.idx (.var 5) (.lit (.int 7)))]) (.lit (.int 5040))))))]), .set (.nm 10) (.call 13 [(.var 9)] [none]), .iff (.bor (.bnot (.call 9 [(.call 0 [(.var 9)] [none]), (.var 10)] [none, none])) (.bnot (.call 9 [(.call 2 [(.var 9)] [none]), (.call 14 [(.var 10)] [none])] [none, none]))) [.ret (.lit (.bl false))] [], .set (.nm 11) (.fn .tuple [(.lc e16_1 (.nm 13) (.irng1 (.bin .add (.lit (.int 1)) (.bin .mod (.fn .int [(.idx (.var 1) (.bin .add (.lit (.int 5)) (.var 4)))]) (.lit (.int 12))))) none)]), .iff (.band (.cmp .gt (.fn .len [(.var 11)]) (.lit (.int 1))) (.cmp .eq (.idx (.var 11) (.bin .sub (.fn .len [(.var 11)]) (.lit (.int 1)))) (.lit (.int 1)))) [.set (.nm 11) (.bin .add (.slc (.var 11) none (some (.bin .sub (.fn .len [(.var 11)]) (.lit (.int 1))))) (.tup [(.lit (.int 2))]))] [], .set (.nm 12) (.call 1 [(.var 11)] [none]), .iff (.bor (.bnot (.isi (.var 12) .tuple)) (.bor (.cmp .ne (.fn .len [(.var 12)]) (.lit (.int 2))) (.bnot (.fn .all [(.lc e16_2 (.nm 14) (.var 12) none)])))) [.ret (.lit (.bl false))] [], .iff (.bor (.cmp .lt (.idx (.var 12) (.lit (.int 1))) (.lit (.int 1))) (.bor (.cmp .lt (.idx (.var 12) (.lit (.int 0))) (.idx (.var 12) (.lit (.int 1)))) (.bor (.cmp .ne (.call 10 [(.idx (.var 12) (.lit (.int 0))), (.idx (.var 12) (.lit (.int 1)))] [none, none]) (.lit (.int 1))) (.cmp .ne (.call 13 [(.var 12)] [none]) (.var 11))))) [.ret (.lit (.bl false))] [], .iff (.band (.cmp .lt (.idx (.var 12) (.lit (.int 0))) (.bin .pow (.lit (.int 10)) (.lit (.int 9)))) (.bnot (.call 9 [(.call 0 [(.var 12)] [none]), (.var 11)] [none, none]))) [.ret (.lit (.bl false))] []]
def fn16 : Fn := { np := 1, ms := [false, false, false, false, false, false, false, false, false, false, false, false, false, false, false], body := [
    .set (.nm 1) (.call 7 [(.call 6 [(.var 0), (.lit (.int 0))] [none, none]), (.lit (.int 30))] [none, none]),
    .set (.nm 2) (.call 11 [(.lit (.int 60))] [none]),
    .for_ (.nm 3) (.tup [(.tup [(.lit (.int 3)), (.lit (.int 5))]), (.tup [(.lit (.int 13)), (.lit (.int 8))]), (.tup [(.lit (.int 1)), (.lit (.int 1))]), (.tup [(.lit (.int 2)), (.lit (.int 1))])]) b16_0,
    .for_ (.nm 4) (.irng1 (.lit (.int 5))) b16_3,
    .ret (.lit (.bl true))] }
def fns : List Fn := [fn0, fn1, fn2, fn3, fn4, fn5, fn6, fn7, fn8, fn9, fn10, fn11, fn12, fn13, fn14, fn15, fn16]
def fsL : Nat → Option Fn := fun i => fns[i]?
end Vi

set_option Elab.async false
set_option linter.all false
set_option maxRecDepth 100000
set_option maxHeartbeats 4000000
/-! The game of Euclid: plain. -/
namespace Vi
open PySem L2
def fbP : Nat → Nat × Nat
  | 0 => (1, 2)
  | n + 1 => ((fbP n).2, (fbP n).1 + (fbP n).2)
def fb (n : Nat) : Nat := (fbP n).1
theorem fb_two (n : Nat) : fb (n + 2) = fb n + fb (n + 1) := rfl
theorem fb43 : 1000000000 < fb 43 := by decide +kernel
def qf : Nat → Nat → Nat → List Nat
  | 0, _, _ => []
  | f + 1, l, m => if l = 0 then [] else m / l :: qf f (m % l) l
def Q (l m : Nat) : List Nat := qf (l + 1) l m
theorem qf_eq : ∀ (f l m : Nat), l < f → qf f l m = Q l m := by
  intro f
  induction f using Nat.strongRecOn with
  | ind f ih =>
    intro l m h
    obtain ⟨f, rfl⟩ : ∃ j, f = j + 1 := ⟨f - 1, by omega⟩
    by_cases h0 : l = 0
    · subst h0; rfl
    · have hm := Nat.mod_lt m (show 0 < l by omega)
      unfold Q
      show (if l = 0 then _ else m / l :: qf f (m % l) l) = (if l = 0 then _ else m / l :: qf l (m % l) l)
      rw [if_neg h0, if_neg h0, ih f (by omega) (m % l) l (by omega)]
      by_cases hl : l = f
      · subst hl
        rw [ih l (by omega) (m % l) l hm]
      · rw [ih l (by omega) (m % l) l hm]
theorem Q_zero (m : Nat) : Q 0 m = [] := rfl
theorem Q_pos {l m : Nat} (h : 0 < l) : Q l m = m / l :: Q (m % l) l := by
  have hm := Nat.mod_lt m h
  rw [← qf_eq l (m % l) l hm]
  unfold Q
  show (if l = 0 then _ else m / l :: qf l (m % l) l) = _
  rw [if_neg (by omega)]
theorem Q_len : ∀ (k l m : Nat), l < fb k → (Q l m).length ≤ k
  | 0, l, m, h => by
    have h : l < 1 := h
    have : l = 0 := by omega
    subst this; exact Nat.le_refl _
  | 1, l, m, h => by
    have h : l < 2 := h
    rcases (show l = 0 ∨ l = 1 by omega) with rfl | rfl
    · exact Nat.zero_le _
    · rw [Q_pos (by omega), Nat.mod_one, Q_zero]; exact Nat.le_refl _
  | k + 2, l, m, h => by
    rw [fb_two] at h
    by_cases h0 : l = 0
    · subst h0; exact Nat.zero_le _
    · rw [Q_pos (by omega), List.length_cons]
      have hm := Nat.mod_lt m (show 0 < l by omega)
      generalize m % l = r at hm
      by_cases hr : r < fb (k + 1)
      · have := Q_len (k + 1) r l hr; omega
      · by_cases hr0 : r = 0
        · subst hr0; rw [Q_zero]; show 0 + 1 ≤ _; omega
        · rw [Q_pos (by omega), List.length_cons]
          have e : l % r ≤ l - r := by rw [Nat.mod_eq_sub_mod (by omega)]; exact Nat.mod_le _ _
          have := Q_len k (l % r) r (by omega)
          omega
def toI (xs : List Nat) : List Int := xs.map fun x => ((x : Nat) : Int)
def QI (l m : Nat) : List Int := toI (Q l m)
theorem QI_pos {l m : Nat} (h : 0 < l) : QI l m = ((m / l : Nat) : Int) :: QI (m % l) l := by unfold QI toI; rw [Q_pos h]; rfl
def gsL : List Nat → Nat → List Int
  | [], _ => []
  | q :: r, j => if 1 < q then ((j : Nat) : Int) :: gsL r (j + 1) else gsL r (j + 1)
def tn (qs : List Nat) : Int := match gsL qs 0 with
  | [] => ((qs.length : Nat) : Int) - 1
  | x :: _ => x
def En (l m : Nat) : Bool := (tn (Q l m)).fmod 2 == 0
def lv (l m i : Nat) : Nat := m - (1 + i) * l
def fT (l m i : Nat) : Bool := lv l m i == 0 || !(En (min (lv l m i) l) (max (lv l m i) l))
def tkE (l m : Nat) : List Int := ((List.range (m / l)).filter fun i => fT l m i).map fun i => 1 + ((i : Nat) : Int)
def sqr (l m : Nat) : Bool := l == m || decide (m * l + l * l < m * m)
def allP (f : Nat → Nat → Bool) : Bool := (List.range 60).all fun m => (List.range (m + 1)).all fun l => f (l + 1) (m + 1)
theorem allP_of {f : Nat → Nat → Bool} (h : allP f = true) {l m : Nat} (h1 : 1 ≤ l) (h2 : l ≤ m) (h3 : m ≤ 60) : f l m = true := by
  have := List.all_eq_true.mp (List.all_eq_true.mp h (m - 1) (List.mem_range.mpr (by omega))) (l - 1) (List.mem_range.mpr (by omega))
  rw [show l - 1 + 1 = l by omega, show m - 1 + 1 = m by omega] at this
  exact this
theorem c_tk : allP (fun l m => En l m == !(tkE l m).isEmpty) = true := by decide +kernel
theorem c_sq : allP (fun l m => En l m == sqr l m) = true := by decide +kernel
/-! quotients and pairs -/
def pq : List Nat → Nat × Nat
  | [] => (1, 0)
  | q :: r => (q * (pq r).1 + (pq r).2, (pq r).1)
/-- the rows behind the first -/
def ok2 : List Nat → Prop
  | [] => False
  | [q] => 2 ≤ q
  | q :: r :: s => 1 ≤ q ∧ ok2 (r :: s)
def ok1 : List Nat → Prop
  | [] => False
  | [q] => 1 ≤ q
  | q :: r :: s => 1 ≤ q ∧ ok2 (r :: s)
theorem Q_step {q g l : Nat} (h : l < g) : Q g (q * g + l) = q :: Q l g := by
  rw [Q_pos (by omega)]
  have e1 : (q * g + l) / g = q := by
    rw [Nat.add_comm, Nat.mul_comm, Nat.add_mul_div_left _ _ (by omega), Nat.div_eq_of_lt h, Nat.zero_add]
  have e2 : (q * g + l) % g = l := by
    rw [Nat.add_comm, Nat.mul_comm, Nat.add_mul_mod_self_left, Nat.mod_eq_of_lt h]
  rw [e1, e2]
theorem pq2 : ∀ r, ok2 r → (pq r).2 < (pq r).1 ∧ 0 < (pq r).2 ∧ Q (pq r).2 (pq r).1 = r
  | [], h => h.elim
  | [q], h => by
    have h : 2 ≤ q := h
    show 1 < q * 1 + 0 ∧ 0 < 1 ∧ Q 1 (q * 1 + 0) = [q]
    refine ⟨by omega, by omega, ?_⟩
    rw [Q_step (by omega), Q_zero]
  | q :: r :: s, h => by
    obtain ⟨a, b, c⟩ := pq2 (r :: s) h.2
    have hq := h.1
    show (pq (r :: s)).1 < q * (pq (r :: s)).1 + (pq (r :: s)).2 ∧ 0 < (pq (r :: s)).1 ∧ Q (pq (r :: s)).1 (q * (pq (r :: s)).1 + (pq (r :: s)).2) = q :: r :: s
    generalize pq (r :: s) = p at a b c
    have := Nat.mul_le_mul_right p.1 hq
    refine ⟨by omega, by omega, ?_⟩
    rw [Q_step a, c]
theorem pq1 : ∀ r, ok1 r → (pq r).2 ≤ (pq r).1 ∧ 0 < (pq r).2 ∧ Q (pq r).2 (pq r).1 = r
  | [], h => h.elim
  | [q], h => by
    have h : 1 ≤ q := h
    show 1 ≤ q * 1 + 0 ∧ 0 < 1 ∧ Q 1 (q * 1 + 0) = [q]
    refine ⟨by omega, by omega, ?_⟩
    rw [Q_step (by omega), Q_zero]
  | q :: r :: s, h => by
    obtain ⟨a, b, c⟩ := pq2 (r :: s) h.2
    have hq := h.1
    show (pq (r :: s)).1 ≤ q * (pq (r :: s)).1 + (pq (r :: s)).2 ∧ 0 < (pq (r :: s)).1 ∧ Q (pq (r :: s)).1 (q * (pq (r :: s)).1 + (pq (r :: s)).2) = q :: r :: s
    generalize pq (r :: s) = p at a b c
    have := Nat.mul_le_mul_right p.1 hq
    refine ⟨by omega, by omega, ?_⟩
    rw [Q_step a, c]
theorem pq_gcd : ∀ r, Nat.gcd (pq r).1 (pq r).2 = 1
  | [] => rfl
  | q :: r => by
    have ih := pq_gcd r
    show Nat.gcd (q * (pq r).1 + (pq r).2) (pq r).1 = 1
    generalize pq r = p at ih
    rw [Nat.gcd_comm, Nat.gcd_rec, Nat.add_comm, Nat.mul_comm, Nat.add_mul_mod_self_left, ← Nat.gcd_rec]
    exact ih
theorem pq_le : ∀ r : List Nat, (∀ q ∈ r, 1 ≤ q ∧ q ≤ 20) → (pq r).2 ≤ (pq r).1 ∧ (pq r).1 ≤ 21 ^ r.length
  | [], _ => ⟨by decide, by decide⟩
  | q :: r, h => by
    obtain ⟨a, b⟩ := pq_le r fun x hx => h x (List.mem_cons_of_mem _ hx)
    obtain ⟨q1, q2⟩ := h q (List.mem_cons_self ..)
    show (pq r).1 ≤ q * (pq r).1 + (pq r).2 ∧ q * (pq r).1 + (pq r).2 ≤ 21 ^ (r.length + 1)
    rw [Nat.pow_succ]
    generalize pq r = p at a b
    have h1 := Nat.mul_le_mul_right p.1 q1
    have h2 := Nat.mul_le_mul_right p.1 q2
    omega
end Vi

set_option Elab.async false
set_option linter.all false
set_option maxRecDepth 100000
set_option maxHeartbeats 4000000
/-! The game of Euclid: what each def computes. -/
namespace Vi
open PySem L2
section
variable {gl : Nat → Option D} {w : Nat}
def nI (n : Nat) : D := .int ((n : Nat) : Int)
def prD (a b : Nat) : D := .tup [.int ((a : Nat) : Int), .int ((b : Nat) : Int)]
theorem sort2 (a b : Nat) : (tupInts [D.int ((a : Nat) : Int), .int ((b : Nat) : Int)]).map (fun ns => D.lst ((sortI ns).map D.int)) = some (.lst [.int ((min a b : Nat) : Int), .int ((max a b : Nat) : Int)]) := by
  show some (D.lst ((sortI [((a : Nat) : Int), ((b : Nat) : Int)]).map D.int)) = _
  have : sortI [((a : Nat) : Int), ((b : Nat) : Int)] = [((min a b : Nat) : Int), ((max a b : Nat) : Int)] := by
    show insI ((a : Nat) : Int) [((b : Nat) : Int)] = _
    show (if ((a : Nat) : Int) ≤ ((b : Nat) : Int) then _ else ((b : Nat) : Int) :: [((a : Nat) : Int)]) = _
    by_cases h : a ≤ b
    · rw [if_pos (by omega), Nat.min_eq_left h, Nat.max_eq_right h]
    · rw [if_neg (by omega), Nat.min_eq_right (by omega), Nat.max_eq_left (by omega)]
  rw [this]; rfl
theorem fmod_cast (m l : Nat) : ((m : Nat) : Int).fmod ((l : Nat) : Int) = ((m % l : Nat) : Int) := by
  rw [Int.fmod_eq_emod_of_nonneg _ (by omega)]; rfl
theorem quo_loop {cf : Fns} {p : Option D} : ∀ (l m : Nat) (acc : List Int) (n : Nat), (Q l m).length < n → acc.length + (Q l m).length ≤ 1000 → l < 2 ^ 64 → ∃ x, whlL ((ev cf gl c0_0).t) (execSs cf gl w b0_1) n [p, some (.lst (acc.map D.int)), some (.int (l : Nat)), some (.int (m : Nat))] = some (.nx [p, some (.lst ((acc ++ QI l m).map D.int)), some (.int 0), x]) := by
  intro l
  induction l using Nat.strongRecOn with
  | ind l ih =>
    intro m acc n hn hl h64
    obtain ⟨n, rfl⟩ : ∃ j, n = j + 1 := ⟨n - 1, by omega⟩
    by_cases h0 : l = 0
    · subst h0
      refine ⟨some (.int (m : Nat)), ?_⟩
      have z : ¬ (0 : Int) < ((0 : Nat) : Int) := by decide
      have h1 : (ev cf gl c0_0).t [p, some (.lst (acc.map D.int)), some (.int ((0 : Nat) : Int)), some (.int (m : Nat))] = some (false, [p, some (.lst (acc.map D.int)), some (.int ((0 : Nat) : Int)), some (.int (m : Nat))]) := by simp only [g_0, g_s, v_lit, v_var, v_mov, v_own, v_chk, v_bin, v_neg, v_cmp, v_cmp2, v_band, v_bor, v_bnot, v_ite, v_tup, v_lst, v_dct, v_idx, v_slc, v_rev, v_fn, v_isi, v_mth, v_mut, v_call, v_lc, v_ge, v_lof, t_lit, t_var, t_cmp, t_cmp2, t_bin, t_idx, t_fn, t_isi, t_call, t_ge, t_slc, t_mth, t_band, t_bor, t_bnot, i_var, i_call, i_idx, i_bin, i_fn, i_tup, i_lst, i_slc, i_lce, i_ck, i_r1, i_r2, i_r3, i_en, i_zp, i_rv, a_nil, a_cons, o_none, o_some, c_none, c_some, s_nil, s_cons, x_set, x_aug, x_put, x_ex, x_ret, x_ret0, x_iff, x_whl, x_for, x_brk, x_cnt, x_pas, x_doc, b_nm, b_tup, b_lst, b_nil, b_cons, k_nil, k_none, kP, kM, kPI, kPB, kPN, kPO, kPT, kPL, kPE, kPV, kPZ, kOwn, kChk, kBin2, kBin, kNeg, kCmpB, kCmp, kChA, kCh2, kCh, kAnd2, kAnd, kOr2, kOr, kNot, kIte, kTup, kLst, kIdx2, kIdx, kSl3, kSl2, kSl, kRev, kFn, kIsi, kMth2, kMth, kMu3, kMu2, kMu1, kMu, kCa3, kCa2, kCa, kLc2, kLc, kGe2, kGe, kLof, kT, kAndT, kOrT, kNotT, kI, kCk, kR1, kR2b, kR2, kR3c, kR3b, kR3, kEn, kZp2, kZp, kRv, kA2, kA, kO, kSet, kNx, kRt, kSt, kAu2, kAu, kPu3, kPu2, kPu1, kPu, kIf, kFor, kBt, p_add, p_sub, p_mul, p_fdiv, p_mod, p_pow, p_addL, p_addT, p_mulL, q_lt, q_le, q_gt, q_ge, q_eq, q_ne, q_eqT, q_neT, q_eqL, q_neL, q_eqB, q_eqS, q_is, q_isnot, q_inL, q_niL, q_inT, q_niT, u_non, u_bl, u_int, u_lst, u_tup, d_L, d_T, n_n, n_i, n_b, n_s, n_t, n_l, l_lenL, l_lenT, l_lenS, l_abs, l_int, l_min, l_max, l_tupL, l_tupT, l_lstL, l_lstT, l_minL, l_maxL, au_add, au_sub, au_str, l_all, l_any, l_sum, l_srtL, l_srtT, w_ints, w_pures, w_bools, w_sort, w_shps, w_shpI, w_shpB, w_shpN, w_shpT, w_shpL, w_eqs, w_eqT, w_eqL, m_app, y_n_int, y_n_bool, y_n_str, y_n_tuple, y_n_list, y_b_int, y_b_bool, y_b_str, y_b_tuple, y_b_list, y_i_int, y_i_bool, y_i_str, y_i_tuple, y_i_list, y_s_int, y_s_bool, y_s_str, y_s_tuple, y_s_list, y_t_int, y_t_bool, y_t_str, y_t_tuple, y_t_list, y_l_int, y_l_bool, y_l_str, y_l_tuple, y_l_list, r_T, r_L, sl_L, sl_T, wk_L, wk_T, ix_L, lo_L, lo_T, isL_l, isI_i, isB_b, pu_i, pu_b, pu_s, pu_n, pu_t, ow_i, ow_b, ow_l, ow_t, thenS, startE, List.map_cons, List.map_nil, List.cons_append, List.nil_append, List.length_cons, List.length_nil, List.length_replicate, List.replicate, List.set_cons_zero, List.set_cons_succ, List.set_nil, Option.bind_some, Option.map_some, Option.bind_none, Option.map_none, Nat.sub_zero, Nat.reduceSub, Nat.reduceAdd, Bool.not_true, Bool.not_false, if_true, if_false, reduceIte, Bool.false_eq_true, Bool.true_and, Bool.and_true, Bool.false_and, Bool.and_false, decide_true, decide_false, List.tail_cons, List.isEmpty_cons, List.isEmpty_nil, ne_eq, not_true_eq_false, not_false_eq_true, reduceCtorEq, List.append_nil, List.singleton_append, c0_0, z]
      have e : QI 0 m = [] := rfl
      rw [e, List.append_nil]
      simp only [whlL, h1, Option.bind_some, if_false, Bool.false_eq_true]
      rfl
    · have hm := Nat.mod_lt m (show 0 < l by omega)
      rw [Q_pos (by omega), List.length_cons] at hn hl
      obtain ⟨x, e⟩ := ih (m % l) hm l (acc ++ [((m / l : Nat) : Int)]) n (by omega) (by rw [List.length_append, List.length_singleton]; omega) (by omega)
      refine ⟨x, ?_⟩
      have z : (0 : Int) < ((l : Nat) : Int) := by omega
      have z0 : ¬ ((l : Nat) : Int) = 0 := by omega
      have hc : ((l : Nat) : Int).natAbs < 18446744073709551616 := by
        have : (2 : Nat) ^ 64 = 18446744073709551616 := by decide
        omega
      have hz : acc.length < sz := by unfold sz; omega
      have h1 : (ev cf gl c0_0).t [p, some (.lst (acc.map D.int)), some (.int (l : Nat)), some (.int (m : Nat))] = some (true, [p, some (.lst (acc.map D.int)), some (.int (l : Nat)), some (.int (m : Nat))]) := by simp only [g_0, g_s, v_lit, v_var, v_mov, v_own, v_chk, v_bin, v_neg, v_cmp, v_cmp2, v_band, v_bor, v_bnot, v_ite, v_tup, v_lst, v_dct, v_idx, v_slc, v_rev, v_fn, v_isi, v_mth, v_mut, v_call, v_lc, v_ge, v_lof, t_lit, t_var, t_cmp, t_cmp2, t_bin, t_idx, t_fn, t_isi, t_call, t_ge, t_slc, t_mth, t_band, t_bor, t_bnot, i_var, i_call, i_idx, i_bin, i_fn, i_tup, i_lst, i_slc, i_lce, i_ck, i_r1, i_r2, i_r3, i_en, i_zp, i_rv, a_nil, a_cons, o_none, o_some, c_none, c_some, s_nil, s_cons, x_set, x_aug, x_put, x_ex, x_ret, x_ret0, x_iff, x_whl, x_for, x_brk, x_cnt, x_pas, x_doc, b_nm, b_tup, b_lst, b_nil, b_cons, k_nil, k_none, kP, kM, kPI, kPB, kPN, kPO, kPT, kPL, kPE, kPV, kPZ, kOwn, kChk, kBin2, kBin, kNeg, kCmpB, kCmp, kChA, kCh2, kCh, kAnd2, kAnd, kOr2, kOr, kNot, kIte, kTup, kLst, kIdx2, kIdx, kSl3, kSl2, kSl, kRev, kFn, kIsi, kMth2, kMth, kMu3, kMu2, kMu1, kMu, kCa3, kCa2, kCa, kLc2, kLc, kGe2, kGe, kLof, kT, kAndT, kOrT, kNotT, kI, kCk, kR1, kR2b, kR2, kR3c, kR3b, kR3, kEn, kZp2, kZp, kRv, kA2, kA, kO, kSet, kNx, kRt, kSt, kAu2, kAu, kPu3, kPu2, kPu1, kPu, kIf, kFor, kBt, p_add, p_sub, p_mul, p_fdiv, p_mod, p_pow, p_addL, p_addT, p_mulL, q_lt, q_le, q_gt, q_ge, q_eq, q_ne, q_eqT, q_neT, q_eqL, q_neL, q_eqB, q_eqS, q_is, q_isnot, q_inL, q_niL, q_inT, q_niT, u_non, u_bl, u_int, u_lst, u_tup, d_L, d_T, n_n, n_i, n_b, n_s, n_t, n_l, l_lenL, l_lenT, l_lenS, l_abs, l_int, l_min, l_max, l_tupL, l_tupT, l_lstL, l_lstT, l_minL, l_maxL, au_add, au_sub, au_str, l_all, l_any, l_sum, l_srtL, l_srtT, w_ints, w_pures, w_bools, w_sort, w_shps, w_shpI, w_shpB, w_shpN, w_shpT, w_shpL, w_eqs, w_eqT, w_eqL, m_app, y_n_int, y_n_bool, y_n_str, y_n_tuple, y_n_list, y_b_int, y_b_bool, y_b_str, y_b_tuple, y_b_list, y_i_int, y_i_bool, y_i_str, y_i_tuple, y_i_list, y_s_int, y_s_bool, y_s_str, y_s_tuple, y_s_list, y_t_int, y_t_bool, y_t_str, y_t_tuple, y_t_list, y_l_int, y_l_bool, y_l_str, y_l_tuple, y_l_list, r_T, r_L, sl_L, sl_T, wk_L, wk_T, ix_L, lo_L, lo_T, isL_l, isI_i, isB_b, pu_i, pu_b, pu_s, pu_n, pu_t, ow_i, ow_b, ow_l, ow_t, thenS, startE, List.map_cons, List.map_nil, List.cons_append, List.nil_append, List.length_cons, List.length_nil, List.length_replicate, List.replicate, List.set_cons_zero, List.set_cons_succ, List.set_nil, Option.bind_some, Option.map_some, Option.bind_none, Option.map_none, Nat.sub_zero, Nat.reduceSub, Nat.reduceAdd, Bool.not_true, Bool.not_false, if_true, if_false, reduceIte, Bool.false_eq_true, Bool.true_and, Bool.and_true, Bool.false_and, Bool.and_false, decide_true, decide_false, List.tail_cons, List.isEmpty_cons, List.isEmpty_nil, ne_eq, not_true_eq_false, not_false_eq_true, reduceCtorEq, List.append_nil, List.singleton_append, c0_0, z]
      have h2 : execSs cf gl w b0_1 [p, some (.lst (acc.map D.int)), some (.int (l : Nat)), some (.int (m : Nat))] = some (.nx [p, some (.lst ((acc ++ [((m / l : Nat) : Int)]).map D.int)), some (.int ((m % l : Nat) : Int)), some (.int (l : Nat))]) := by
        by_cases hs : ((l : Nat) : Int).natAbs < 1073741824
        · simp only [g_0, g_s, v_lit, v_var, v_mov, v_own, v_chk, v_bin, v_neg, v_cmp, v_cmp2, v_band, v_bor, v_bnot, v_ite, v_tup, v_lst, v_dct, v_idx, v_slc, v_rev, v_fn, v_isi, v_mth, v_mut, v_call, v_lc, v_ge, v_lof, t_lit, t_var, t_cmp, t_cmp2, t_bin, t_idx, t_fn, t_isi, t_call, t_ge, t_slc, t_mth, t_band, t_bor, t_bnot, i_var, i_call, i_idx, i_bin, i_fn, i_tup, i_lst, i_slc, i_lce, i_ck, i_r1, i_r2, i_r3, i_en, i_zp, i_rv, a_nil, a_cons, o_none, o_some, c_none, c_some, s_nil, s_cons, x_set, x_aug, x_put, x_ex, x_ret, x_ret0, x_iff, x_whl, x_for, x_brk, x_cnt, x_pas, x_doc, b_nm, b_tup, b_lst, b_nil, b_cons, k_nil, k_none, kP, kM, kPI, kPB, kPN, kPO, kPT, kPL, kPE, kPV, kPZ, kOwn, kChk, kBin2, kBin, kNeg, kCmpB, kCmp, kChA, kCh2, kCh, kAnd2, kAnd, kOr2, kOr, kNot, kIte, kTup, kLst, kIdx2, kIdx, kSl3, kSl2, kSl, kRev, kFn, kIsi, kMth2, kMth, kMu3, kMu2, kMu1, kMu, kCa3, kCa2, kCa, kLc2, kLc, kGe2, kGe, kLof, kT, kAndT, kOrT, kNotT, kI, kCk, kR1, kR2b, kR2, kR3c, kR3b, kR3, kEn, kZp2, kZp, kRv, kA2, kA, kO, kSet, kNx, kRt, kSt, kAu2, kAu, kPu3, kPu2, kPu1, kPu, kIf, kFor, kBt, p_add, p_sub, p_mul, p_fdiv, p_mod, p_pow, p_addL, p_addT, p_mulL, q_lt, q_le, q_gt, q_ge, q_eq, q_ne, q_eqT, q_neT, q_eqL, q_neL, q_eqB, q_eqS, q_is, q_isnot, q_inL, q_niL, q_inT, q_niT, u_non, u_bl, u_int, u_lst, u_tup, d_L, d_T, n_n, n_i, n_b, n_s, n_t, n_l, l_lenL, l_lenT, l_lenS, l_abs, l_int, l_min, l_max, l_tupL, l_tupT, l_lstL, l_lstT, l_minL, l_maxL, au_add, au_sub, au_str, l_all, l_any, l_sum, l_srtL, l_srtT, w_ints, w_pures, w_bools, w_sort, w_shps, w_shpI, w_shpB, w_shpN, w_shpT, w_shpL, w_eqs, w_eqT, w_eqL, m_app, y_n_int, y_n_bool, y_n_str, y_n_tuple, y_n_list, y_b_int, y_b_bool, y_b_str, y_b_tuple, y_b_list, y_i_int, y_i_bool, y_i_str, y_i_tuple, y_i_list, y_s_int, y_s_bool, y_s_str, y_s_tuple, y_s_list, y_t_int, y_t_bool, y_t_str, y_t_tuple, y_t_list, y_l_int, y_l_bool, y_l_str, y_l_tuple, y_l_list, r_T, r_L, sl_L, sl_T, wk_L, wk_T, ix_L, lo_L, lo_T, isL_l, isI_i, isB_b, pu_i, pu_b, pu_s, pu_n, pu_t, ow_i, ow_b, ow_l, ow_t, thenS, startE, List.map_cons, List.map_nil, List.cons_append, List.nil_append, List.length_cons, List.length_nil, List.length_replicate, List.replicate, List.set_cons_zero, List.set_cons_succ, List.set_nil, Option.bind_some, Option.map_some, Option.bind_none, Option.map_none, Nat.sub_zero, Nat.reduceSub, Nat.reduceAdd, Bool.not_true, Bool.not_false, if_true, if_false, reduceIte, Bool.false_eq_true, Bool.true_and, Bool.and_true, Bool.false_and, Bool.and_false, decide_true, decide_false, List.tail_cons, List.isEmpty_cons, List.isEmpty_nil, ne_eq, not_true_eq_false, not_false_eq_true, reduceCtorEq, List.append_nil, List.singleton_append, b0_1, z0, hs, and_self, fdiv_nat, fmod_cast, len_int, hz, app_int]
        · simp only [g_0, g_s, v_lit, v_var, v_mov, v_own, v_chk, v_bin, v_neg, v_cmp, v_cmp2, v_band, v_bor, v_bnot, v_ite, v_tup, v_lst, v_dct, v_idx, v_slc, v_rev, v_fn, v_isi, v_mth, v_mut, v_call, v_lc, v_ge, v_lof, t_lit, t_var, t_cmp, t_cmp2, t_bin, t_idx, t_fn, t_isi, t_call, t_ge, t_slc, t_mth, t_band, t_bor, t_bnot, i_var, i_call, i_idx, i_bin, i_fn, i_tup, i_lst, i_slc, i_lce, i_ck, i_r1, i_r2, i_r3, i_en, i_zp, i_rv, a_nil, a_cons, o_none, o_some, c_none, c_some, s_nil, s_cons, x_set, x_aug, x_put, x_ex, x_ret, x_ret0, x_iff, x_whl, x_for, x_brk, x_cnt, x_pas, x_doc, b_nm, b_tup, b_lst, b_nil, b_cons, k_nil, k_none, kP, kM, kPI, kPB, kPN, kPO, kPT, kPL, kPE, kPV, kPZ, kOwn, kChk, kBin2, kBin, kNeg, kCmpB, kCmp, kChA, kCh2, kCh, kAnd2, kAnd, kOr2, kOr, kNot, kIte, kTup, kLst, kIdx2, kIdx, kSl3, kSl2, kSl, kRev, kFn, kIsi, kMth2, kMth, kMu3, kMu2, kMu1, kMu, kCa3, kCa2, kCa, kLc2, kLc, kGe2, kGe, kLof, kT, kAndT, kOrT, kNotT, kI, kCk, kR1, kR2b, kR2, kR3c, kR3b, kR3, kEn, kZp2, kZp, kRv, kA2, kA, kO, kSet, kNx, kRt, kSt, kAu2, kAu, kPu3, kPu2, kPu1, kPu, kIf, kFor, kBt, p_add, p_sub, p_mul, p_fdiv, p_mod, p_pow, p_addL, p_addT, p_mulL, q_lt, q_le, q_gt, q_ge, q_eq, q_ne, q_eqT, q_neT, q_eqL, q_neL, q_eqB, q_eqS, q_is, q_isnot, q_inL, q_niL, q_inT, q_niT, u_non, u_bl, u_int, u_lst, u_tup, d_L, d_T, n_n, n_i, n_b, n_s, n_t, n_l, l_lenL, l_lenT, l_lenS, l_abs, l_int, l_min, l_max, l_tupL, l_tupT, l_lstL, l_lstT, l_minL, l_maxL, au_add, au_sub, au_str, l_all, l_any, l_sum, l_srtL, l_srtT, w_ints, w_pures, w_bools, w_sort, w_shps, w_shpI, w_shpB, w_shpN, w_shpT, w_shpL, w_eqs, w_eqT, w_eqL, m_app, y_n_int, y_n_bool, y_n_str, y_n_tuple, y_n_list, y_b_int, y_b_bool, y_b_str, y_b_tuple, y_b_list, y_i_int, y_i_bool, y_i_str, y_i_tuple, y_i_list, y_s_int, y_s_bool, y_s_str, y_s_tuple, y_s_list, y_t_int, y_t_bool, y_t_str, y_t_tuple, y_t_list, y_l_int, y_l_bool, y_l_str, y_l_tuple, y_l_list, r_T, r_L, sl_L, sl_T, wk_L, wk_T, ix_L, lo_L, lo_T, isL_l, isI_i, isB_b, pu_i, pu_b, pu_s, pu_n, pu_t, ow_i, ow_b, ow_l, ow_t, thenS, startE, List.map_cons, List.map_nil, List.cons_append, List.nil_append, List.length_cons, List.length_nil, List.length_replicate, List.replicate, List.set_cons_zero, List.set_cons_succ, List.set_nil, Option.bind_some, Option.map_some, Option.bind_none, Option.map_none, Nat.sub_zero, Nat.reduceSub, Nat.reduceAdd, Bool.not_true, Bool.not_false, if_true, if_false, reduceIte, Bool.false_eq_true, Bool.true_and, Bool.and_true, Bool.false_and, Bool.and_false, decide_true, decide_false, List.tail_cons, List.isEmpty_cons, List.isEmpty_nil, ne_eq, not_true_eq_false, not_false_eq_true, reduceCtorEq, List.append_nil, List.singleton_append, b0_1, z0, hs, hc, and_self, and_false, fdiv_nat, fmod_cast, len_int, hz, app_int]
      rw [QI_pos (by omega)]
      simp only [whlL, h1, h2, Option.bind_some, if_true]
      simp only [List.append_assoc, List.singleton_append] at e
      exact e
theorem quo_run (k : Nat) {a b : Nat} (hq : (Q (min a b) (max a b)).length ≤ 100) (h64 : a < 2 ^ 64) (hw : 200 < w) : ∃ ρ, run fsL gl w (k + 1) 0 [prD a b] = some (tupI (QI (min a b) (max a b)), ρ) := by
  obtain ⟨x, e⟩ := quo_loop (gl := gl) (w := w) (cf := run fsL gl w k) (p := some (prD a b)) (min a b) (max a b) [] w (by omega) (by show 0 + _ ≤ _; omega) (by have := Nat.min_le_left a b; omega)
  have e5 : D.pures ((QI (min a b) (max a b)).map D.int) = true := w_pures _
  refine ⟨_, run_rt (fn := fn0) (ρ := [some (prD a b), some (.lst ((QI (min a b) (max a b)).map D.int)), some (.int 0), x]) rfl rfl ?_⟩
  rw [List.nil_append, List.map_nil] at e
  simp only [tupI, prD] at e ⊢
  simp only [g_0, g_s, v_lit, v_var, v_mov, v_own, v_chk, v_bin, v_neg, v_cmp, v_cmp2, v_band, v_bor, v_bnot, v_ite, v_tup, v_lst, v_dct, v_idx, v_slc, v_rev, v_fn, v_isi, v_mth, v_mut, v_call, v_lc, v_ge, v_lof, t_lit, t_var, t_cmp, t_cmp2, t_bin, t_idx, t_fn, t_isi, t_call, t_ge, t_slc, t_mth, t_band, t_bor, t_bnot, i_var, i_call, i_idx, i_bin, i_fn, i_tup, i_lst, i_slc, i_lce, i_ck, i_r1, i_r2, i_r3, i_en, i_zp, i_rv, a_nil, a_cons, o_none, o_some, c_none, c_some, s_nil, s_cons, x_set, x_aug, x_put, x_ex, x_ret, x_ret0, x_iff, x_whl, x_for, x_brk, x_cnt, x_pas, x_doc, b_nm, b_tup, b_lst, b_nil, b_cons, k_nil, k_none, kP, kM, kPI, kPB, kPN, kPO, kPT, kPL, kPE, kPV, kPZ, kOwn, kChk, kBin2, kBin, kNeg, kCmpB, kCmp, kChA, kCh2, kCh, kAnd2, kAnd, kOr2, kOr, kNot, kIte, kTup, kLst, kIdx2, kIdx, kSl3, kSl2, kSl, kRev, kFn, kIsi, kMth2, kMth, kMu3, kMu2, kMu1, kMu, kCa3, kCa2, kCa, kLc2, kLc, kGe2, kGe, kLof, kT, kAndT, kOrT, kNotT, kI, kCk, kR1, kR2b, kR2, kR3c, kR3b, kR3, kEn, kZp2, kZp, kRv, kA2, kA, kO, kSet, kNx, kRt, kSt, kAu2, kAu, kPu3, kPu2, kPu1, kPu, kIf, kFor, kBt, p_add, p_sub, p_mul, p_fdiv, p_mod, p_pow, p_addL, p_addT, p_mulL, q_lt, q_le, q_gt, q_ge, q_eq, q_ne, q_eqT, q_neT, q_eqL, q_neL, q_eqB, q_eqS, q_is, q_isnot, q_inL, q_niL, q_inT, q_niT, u_non, u_bl, u_int, u_lst, u_tup, d_L, d_T, n_n, n_i, n_b, n_s, n_t, n_l, l_lenL, l_lenT, l_lenS, l_abs, l_int, l_min, l_max, l_tupL, l_tupT, l_lstL, l_lstT, l_minL, l_maxL, au_add, au_sub, au_str, l_all, l_any, l_sum, l_srtL, l_srtT, w_ints, w_pures, w_bools, w_sort, w_shps, w_shpI, w_shpB, w_shpN, w_shpT, w_shpL, w_eqs, w_eqT, w_eqL, m_app, y_n_int, y_n_bool, y_n_str, y_n_tuple, y_n_list, y_b_int, y_b_bool, y_b_str, y_b_tuple, y_b_list, y_i_int, y_i_bool, y_i_str, y_i_tuple, y_i_list, y_s_int, y_s_bool, y_s_str, y_s_tuple, y_s_list, y_t_int, y_t_bool, y_t_str, y_t_tuple, y_t_list, y_l_int, y_l_bool, y_l_str, y_l_tuple, y_l_list, r_T, r_L, sl_L, sl_T, wk_L, wk_T, ix_L, lo_L, lo_T, isL_l, isI_i, isB_b, pu_i, pu_b, pu_s, pu_n, pu_t, ow_i, ow_b, ow_l, ow_t, thenS, startE, List.map_cons, List.map_nil, List.cons_append, List.nil_append, List.length_cons, List.length_nil, List.length_replicate, List.replicate, List.set_cons_zero, List.set_cons_succ, List.set_nil, Option.bind_some, Option.map_some, Option.bind_none, Option.map_none, Nat.sub_zero, Nat.reduceSub, Nat.reduceAdd, Bool.not_true, Bool.not_false, if_true, if_false, reduceIte, Bool.false_eq_true, Bool.true_and, Bool.and_true, Bool.false_and, Bool.and_false, decide_true, decide_false, List.tail_cons, List.isEmpty_cons, List.isEmpty_nil, ne_eq, not_true_eq_false, not_false_eq_true, reduceCtorEq, List.append_nil, List.singleton_append, fn0, sort2, e, e5]
theorem lquo_loop {cf : Fns} {p : Option D} : ∀ (l m : Nat) (acc : List Int) (n : Nat), (Q l m).length < n → acc.length + (Q l m).length ≤ 1000 → l < 2 ^ 64 → ∃ x, whlL ((ev cf gl c13_0).t) (execSs cf gl w b13_1) n [p, some (.tup (acc.map D.int)), some (.int (l : Nat)), some (.int (m : Nat))] = some (.nx [p, some (.tup ((acc ++ QI l m).map D.int)), some (.int 0), x]) := by
  intro l
  induction l using Nat.strongRecOn with
  | ind l ih =>
    intro m acc n hn hl h64
    obtain ⟨n, rfl⟩ : ∃ j, n = j + 1 := ⟨n - 1, by omega⟩
    by_cases h0 : l = 0
    · subst h0
      refine ⟨some (.int (m : Nat)), ?_⟩
      have z : ¬ (0 : Int) < ((0 : Nat) : Int) := by decide
      have h1 : (ev cf gl c13_0).t [p, some (.tup (acc.map D.int)), some (.int ((0 : Nat) : Int)), some (.int (m : Nat))] = some (false, [p, some (.tup (acc.map D.int)), some (.int ((0 : Nat) : Int)), some (.int (m : Nat))]) := by simp only [g_0, g_s, v_lit, v_var, v_mov, v_own, v_chk, v_bin, v_neg, v_cmp, v_cmp2, v_band, v_bor, v_bnot, v_ite, v_tup, v_lst, v_dct, v_idx, v_slc, v_rev, v_fn, v_isi, v_mth, v_mut, v_call, v_lc, v_ge, v_lof, t_lit, t_var, t_cmp, t_cmp2, t_bin, t_idx, t_fn, t_isi, t_call, t_ge, t_slc, t_mth, t_band, t_bor, t_bnot, i_var, i_call, i_idx, i_bin, i_fn, i_tup, i_lst, i_slc, i_lce, i_ck, i_r1, i_r2, i_r3, i_en, i_zp, i_rv, a_nil, a_cons, o_none, o_some, c_none, c_some, s_nil, s_cons, x_set, x_aug, x_put, x_ex, x_ret, x_ret0, x_iff, x_whl, x_for, x_brk, x_cnt, x_pas, x_doc, b_nm, b_tup, b_lst, b_nil, b_cons, k_nil, k_none, kP, kM, kPI, kPB, kPN, kPO, kPT, kPL, kPE, kPV, kPZ, kOwn, kChk, kBin2, kBin, kNeg, kCmpB, kCmp, kChA, kCh2, kCh, kAnd2, kAnd, kOr2, kOr, kNot, kIte, kTup, kLst, kIdx2, kIdx, kSl3, kSl2, kSl, kRev, kFn, kIsi, kMth2, kMth, kMu3, kMu2, kMu1, kMu, kCa3, kCa2, kCa, kLc2, kLc, kGe2, kGe, kLof, kT, kAndT, kOrT, kNotT, kI, kCk, kR1, kR2b, kR2, kR3c, kR3b, kR3, kEn, kZp2, kZp, kRv, kA2, kA, kO, kSet, kNx, kRt, kSt, kAu2, kAu, kPu3, kPu2, kPu1, kPu, kIf, kFor, kBt, p_add, p_sub, p_mul, p_fdiv, p_mod, p_pow, p_addL, p_addT, p_mulL, q_lt, q_le, q_gt, q_ge, q_eq, q_ne, q_eqT, q_neT, q_eqL, q_neL, q_eqB, q_eqS, q_is, q_isnot, q_inL, q_niL, q_inT, q_niT, u_non, u_bl, u_int, u_lst, u_tup, d_L, d_T, n_n, n_i, n_b, n_s, n_t, n_l, l_lenL, l_lenT, l_lenS, l_abs, l_int, l_min, l_max, l_tupL, l_tupT, l_lstL, l_lstT, l_minL, l_maxL, au_add, au_sub, au_str, l_all, l_any, l_sum, l_srtL, l_srtT, w_ints, w_pures, w_bools, w_sort, w_shps, w_shpI, w_shpB, w_shpN, w_shpT, w_shpL, w_eqs, w_eqT, w_eqL, m_app, y_n_int, y_n_bool, y_n_str, y_n_tuple, y_n_list, y_b_int, y_b_bool, y_b_str, y_b_tuple, y_b_list, y_i_int, y_i_bool, y_i_str, y_i_tuple, y_i_list, y_s_int, y_s_bool, y_s_str, y_s_tuple, y_s_list, y_t_int, y_t_bool, y_t_str, y_t_tuple, y_t_list, y_l_int, y_l_bool, y_l_str, y_l_tuple, y_l_list, r_T, r_L, sl_L, sl_T, wk_L, wk_T, ix_L, lo_L, lo_T, isL_l, isI_i, isB_b, pu_i, pu_b, pu_s, pu_n, pu_t, ow_i, ow_b, ow_l, ow_t, thenS, startE, List.map_cons, List.map_nil, List.cons_append, List.nil_append, List.length_cons, List.length_nil, List.length_replicate, List.replicate, List.set_cons_zero, List.set_cons_succ, List.set_nil, Option.bind_some, Option.map_some, Option.bind_none, Option.map_none, Nat.sub_zero, Nat.reduceSub, Nat.reduceAdd, Bool.not_true, Bool.not_false, if_true, if_false, reduceIte, Bool.false_eq_true, Bool.true_and, Bool.and_true, Bool.false_and, Bool.and_false, decide_true, decide_false, List.tail_cons, List.isEmpty_cons, List.isEmpty_nil, ne_eq, not_true_eq_false, not_false_eq_true, reduceCtorEq, List.append_nil, List.singleton_append, c13_0, z]
      have e : QI 0 m = [] := rfl
      rw [e, List.append_nil]
      simp only [whlL, h1, Option.bind_some, if_false, Bool.false_eq_true]
      rfl
    · have hm := Nat.mod_lt m (show 0 < l by omega)
      rw [Q_pos (by omega), List.length_cons] at hn hl
      obtain ⟨x, e⟩ := ih (m % l) hm l (acc ++ [((m / l : Nat) : Int)]) n (by omega) (by rw [List.length_append, List.length_singleton]; omega) (by omega)
      refine ⟨x, ?_⟩
      have z : (0 : Int) < ((l : Nat) : Int) := by omega
      have z0 : ¬ ((l : Nat) : Int) = 0 := by omega
      have hc : ((l : Nat) : Int).natAbs < 18446744073709551616 := by
        have : (2 : Nat) ^ 64 = 18446744073709551616 := by decide
        omega
      have ct : ∀ z : Int, catLen (acc.map D.int) [D.int z] = true := fun z => by unfold catLen sz; simp; omega
      have h1 : (ev cf gl c13_0).t [p, some (.tup (acc.map D.int)), some (.int (l : Nat)), some (.int (m : Nat))] = some (true, [p, some (.tup (acc.map D.int)), some (.int (l : Nat)), some (.int (m : Nat))]) := by simp only [g_0, g_s, v_lit, v_var, v_mov, v_own, v_chk, v_bin, v_neg, v_cmp, v_cmp2, v_band, v_bor, v_bnot, v_ite, v_tup, v_lst, v_dct, v_idx, v_slc, v_rev, v_fn, v_isi, v_mth, v_mut, v_call, v_lc, v_ge, v_lof, t_lit, t_var, t_cmp, t_cmp2, t_bin, t_idx, t_fn, t_isi, t_call, t_ge, t_slc, t_mth, t_band, t_bor, t_bnot, i_var, i_call, i_idx, i_bin, i_fn, i_tup, i_lst, i_slc, i_lce, i_ck, i_r1, i_r2, i_r3, i_en, i_zp, i_rv, a_nil, a_cons, o_none, o_some, c_none, c_some, s_nil, s_cons, x_set, x_aug, x_put, x_ex, x_ret, x_ret0, x_iff, x_whl, x_for, x_brk, x_cnt, x_pas, x_doc, b_nm, b_tup, b_lst, b_nil, b_cons, k_nil, k_none, kP, kM, kPI, kPB, kPN, kPO, kPT, kPL, kPE, kPV, kPZ, kOwn, kChk, kBin2, kBin, kNeg, kCmpB, kCmp, kChA, kCh2, kCh, kAnd2, kAnd, kOr2, kOr, kNot, kIte, kTup, kLst, kIdx2, kIdx, kSl3, kSl2, kSl, kRev, kFn, kIsi, kMth2, kMth, kMu3, kMu2, kMu1, kMu, kCa3, kCa2, kCa, kLc2, kLc, kGe2, kGe, kLof, kT, kAndT, kOrT, kNotT, kI, kCk, kR1, kR2b, kR2, kR3c, kR3b, kR3, kEn, kZp2, kZp, kRv, kA2, kA, kO, kSet, kNx, kRt, kSt, kAu2, kAu, kPu3, kPu2, kPu1, kPu, kIf, kFor, kBt, p_add, p_sub, p_mul, p_fdiv, p_mod, p_pow, p_addL, p_addT, p_mulL, q_lt, q_le, q_gt, q_ge, q_eq, q_ne, q_eqT, q_neT, q_eqL, q_neL, q_eqB, q_eqS, q_is, q_isnot, q_inL, q_niL, q_inT, q_niT, u_non, u_bl, u_int, u_lst, u_tup, d_L, d_T, n_n, n_i, n_b, n_s, n_t, n_l, l_lenL, l_lenT, l_lenS, l_abs, l_int, l_min, l_max, l_tupL, l_tupT, l_lstL, l_lstT, l_minL, l_maxL, au_add, au_sub, au_str, l_all, l_any, l_sum, l_srtL, l_srtT, w_ints, w_pures, w_bools, w_sort, w_shps, w_shpI, w_shpB, w_shpN, w_shpT, w_shpL, w_eqs, w_eqT, w_eqL, m_app, y_n_int, y_n_bool, y_n_str, y_n_tuple, y_n_list, y_b_int, y_b_bool, y_b_str, y_b_tuple, y_b_list, y_i_int, y_i_bool, y_i_str, y_i_tuple, y_i_list, y_s_int, y_s_bool, y_s_str, y_s_tuple, y_s_list, y_t_int, y_t_bool, y_t_str, y_t_tuple, y_t_list, y_l_int, y_l_bool, y_l_str, y_l_tuple, y_l_list, r_T, r_L, sl_L, sl_T, wk_L, wk_T, ix_L, lo_L, lo_T, isL_l, isI_i, isB_b, pu_i, pu_b, pu_s, pu_n, pu_t, ow_i, ow_b, ow_l, ow_t, thenS, startE, List.map_cons, List.map_nil, List.cons_append, List.nil_append, List.length_cons, List.length_nil, List.length_replicate, List.replicate, List.set_cons_zero, List.set_cons_succ, List.set_nil, Option.bind_some, Option.map_some, Option.bind_none, Option.map_none, Nat.sub_zero, Nat.reduceSub, Nat.reduceAdd, Bool.not_true, Bool.not_false, if_true, if_false, reduceIte, Bool.false_eq_true, Bool.true_and, Bool.and_true, Bool.false_and, Bool.and_false, decide_true, decide_false, List.tail_cons, List.isEmpty_cons, List.isEmpty_nil, ne_eq, not_true_eq_false, not_false_eq_true, reduceCtorEq, List.append_nil, List.singleton_append, c13_0, z]
      have h2 : execSs cf gl w b13_1 [p, some (.tup (acc.map D.int)), some (.int (l : Nat)), some (.int (m : Nat))] = some (.nx [p, some (.tup ((acc ++ [((m / l : Nat) : Int)]).map D.int)), some (.int ((m % l : Nat) : Int)), some (.int (l : Nat))]) := by
        by_cases hs : ((l : Nat) : Int).natAbs < 1073741824
        · simp only [g_0, g_s, v_lit, v_var, v_mov, v_own, v_chk, v_bin, v_neg, v_cmp, v_cmp2, v_band, v_bor, v_bnot, v_ite, v_tup, v_lst, v_dct, v_idx, v_slc, v_rev, v_fn, v_isi, v_mth, v_mut, v_call, v_lc, v_ge, v_lof, t_lit, t_var, t_cmp, t_cmp2, t_bin, t_idx, t_fn, t_isi, t_call, t_ge, t_slc, t_mth, t_band, t_bor, t_bnot, i_var, i_call, i_idx, i_bin, i_fn, i_tup, i_lst, i_slc, i_lce, i_ck, i_r1, i_r2, i_r3, i_en, i_zp, i_rv, a_nil, a_cons, o_none, o_some, c_none, c_some, s_nil, s_cons, x_set, x_aug, x_put, x_ex, x_ret, x_ret0, x_iff, x_whl, x_for, x_brk, x_cnt, x_pas, x_doc, b_nm, b_tup, b_lst, b_nil, b_cons, k_nil, k_none, kP, kM, kPI, kPB, kPN, kPO, kPT, kPL, kPE, kPV, kPZ, kOwn, kChk, kBin2, kBin, kNeg, kCmpB, kCmp, kChA, kCh2, kCh, kAnd2, kAnd, kOr2, kOr, kNot, kIte, kTup, kLst, kIdx2, kIdx, kSl3, kSl2, kSl, kRev, kFn, kIsi, kMth2, kMth, kMu3, kMu2, kMu1, kMu, kCa3, kCa2, kCa, kLc2, kLc, kGe2, kGe, kLof, kT, kAndT, kOrT, kNotT, kI, kCk, kR1, kR2b, kR2, kR3c, kR3b, kR3, kEn, kZp2, kZp, kRv, kA2, kA, kO, kSet, kNx, kRt, kSt, kAu2, kAu, kPu3, kPu2, kPu1, kPu, kIf, kFor, kBt, p_add, p_sub, p_mul, p_fdiv, p_mod, p_pow, p_addL, p_addT, p_mulL, q_lt, q_le, q_gt, q_ge, q_eq, q_ne, q_eqT, q_neT, q_eqL, q_neL, q_eqB, q_eqS, q_is, q_isnot, q_inL, q_niL, q_inT, q_niT, u_non, u_bl, u_int, u_lst, u_tup, d_L, d_T, n_n, n_i, n_b, n_s, n_t, n_l, l_lenL, l_lenT, l_lenS, l_abs, l_int, l_min, l_max, l_tupL, l_tupT, l_lstL, l_lstT, l_minL, l_maxL, au_add, au_sub, au_str, l_all, l_any, l_sum, l_srtL, l_srtT, w_ints, w_pures, w_bools, w_sort, w_shps, w_shpI, w_shpB, w_shpN, w_shpT, w_shpL, w_eqs, w_eqT, w_eqL, m_app, y_n_int, y_n_bool, y_n_str, y_n_tuple, y_n_list, y_b_int, y_b_bool, y_b_str, y_b_tuple, y_b_list, y_i_int, y_i_bool, y_i_str, y_i_tuple, y_i_list, y_s_int, y_s_bool, y_s_str, y_s_tuple, y_s_list, y_t_int, y_t_bool, y_t_str, y_t_tuple, y_t_list, y_l_int, y_l_bool, y_l_str, y_l_tuple, y_l_list, r_T, r_L, sl_L, sl_T, wk_L, wk_T, ix_L, lo_L, lo_T, isL_l, isI_i, isB_b, pu_i, pu_b, pu_s, pu_n, pu_t, ow_i, ow_b, ow_l, ow_t, thenS, startE, List.map_cons, List.map_nil, List.cons_append, List.nil_append, List.length_cons, List.length_nil, List.length_replicate, List.replicate, List.set_cons_zero, List.set_cons_succ, List.set_nil, Option.bind_some, Option.map_some, Option.bind_none, Option.map_none, Nat.sub_zero, Nat.reduceSub, Nat.reduceAdd, Bool.not_true, Bool.not_false, if_true, if_false, reduceIte, Bool.false_eq_true, Bool.true_and, Bool.and_true, Bool.false_and, Bool.and_false, decide_true, decide_false, List.tail_cons, List.isEmpty_cons, List.isEmpty_nil, ne_eq, not_true_eq_false, not_false_eq_true, reduceCtorEq, List.append_nil, List.singleton_append, b13_1, z0, hs, and_self, fdiv_nat, fmod_cast, ct, app_int]
        · simp only [g_0, g_s, v_lit, v_var, v_mov, v_own, v_chk, v_bin, v_neg, v_cmp, v_cmp2, v_band, v_bor, v_bnot, v_ite, v_tup, v_lst, v_dct, v_idx, v_slc, v_rev, v_fn, v_isi, v_mth, v_mut, v_call, v_lc, v_ge, v_lof, t_lit, t_var, t_cmp, t_cmp2, t_bin, t_idx, t_fn, t_isi, t_call, t_ge, t_slc, t_mth, t_band, t_bor, t_bnot, i_var, i_call, i_idx, i_bin, i_fn, i_tup, i_lst, i_slc, i_lce, i_ck, i_r1, i_r2, i_r3, i_en, i_zp, i_rv, a_nil, a_cons, o_none, o_some, c_none, c_some, s_nil, s_cons, x_set, x_aug, x_put, x_ex, x_ret, x_ret0, x_iff, x_whl, x_for, x_brk, x_cnt, x_pas, x_doc, b_nm, b_tup, b_lst, b_nil, b_cons, k_nil, k_none, kP, kM, kPI, kPB, kPN, kPO, kPT, kPL, kPE, kPV, kPZ, kOwn, kChk, kBin2, kBin, kNeg, kCmpB, kCmp, kChA, kCh2, kCh, kAnd2, kAnd, kOr2, kOr, kNot, kIte, kTup, kLst, kIdx2, kIdx, kSl3, kSl2, kSl, kRev, kFn, kIsi, kMth2, kMth, kMu3, kMu2, kMu1, kMu, kCa3, kCa2, kCa, kLc2, kLc, kGe2, kGe, kLof, kT, kAndT, kOrT, kNotT, kI, kCk, kR1, kR2b, kR2, kR3c, kR3b, kR3, kEn, kZp2, kZp, kRv, kA2, kA, kO, kSet, kNx, kRt, kSt, kAu2, kAu, kPu3, kPu2, kPu1, kPu, kIf, kFor, kBt, p_add, p_sub, p_mul, p_fdiv, p_mod, p_pow, p_addL, p_addT, p_mulL, q_lt, q_le, q_gt, q_ge, q_eq, q_ne, q_eqT, q_neT, q_eqL, q_neL, q_eqB, q_eqS, q_is, q_isnot, q_inL, q_niL, q_inT, q_niT, u_non, u_bl, u_int, u_lst, u_tup, d_L, d_T, n_n, n_i, n_b, n_s, n_t, n_l, l_lenL, l_lenT, l_lenS, l_abs, l_int, l_min, l_max, l_tupL, l_tupT, l_lstL, l_lstT, l_minL, l_maxL, au_add, au_sub, au_str, l_all, l_any, l_sum, l_srtL, l_srtT, w_ints, w_pures, w_bools, w_sort, w_shps, w_shpI, w_shpB, w_shpN, w_shpT, w_shpL, w_eqs, w_eqT, w_eqL, m_app, y_n_int, y_n_bool, y_n_str, y_n_tuple, y_n_list, y_b_int, y_b_bool, y_b_str, y_b_tuple, y_b_list, y_i_int, y_i_bool, y_i_str, y_i_tuple, y_i_list, y_s_int, y_s_bool, y_s_str, y_s_tuple, y_s_list, y_t_int, y_t_bool, y_t_str, y_t_tuple, y_t_list, y_l_int, y_l_bool, y_l_str, y_l_tuple, y_l_list, r_T, r_L, sl_L, sl_T, wk_L, wk_T, ix_L, lo_L, lo_T, isL_l, isI_i, isB_b, pu_i, pu_b, pu_s, pu_n, pu_t, ow_i, ow_b, ow_l, ow_t, thenS, startE, List.map_cons, List.map_nil, List.cons_append, List.nil_append, List.length_cons, List.length_nil, List.length_replicate, List.replicate, List.set_cons_zero, List.set_cons_succ, List.set_nil, Option.bind_some, Option.map_some, Option.bind_none, Option.map_none, Nat.sub_zero, Nat.reduceSub, Nat.reduceAdd, Bool.not_true, Bool.not_false, if_true, if_false, reduceIte, Bool.false_eq_true, Bool.true_and, Bool.and_true, Bool.false_and, Bool.and_false, decide_true, decide_false, List.tail_cons, List.isEmpty_cons, List.isEmpty_nil, ne_eq, not_true_eq_false, not_false_eq_true, reduceCtorEq, List.append_nil, List.singleton_append, b13_1, z0, hs, hc, and_self, and_false, fdiv_nat, fmod_cast, ct, app_int]
      rw [QI_pos (by omega)]
      simp only [whlL, h1, h2, Option.bind_some, if_true]
      simp only [List.append_assoc, List.singleton_append] at e
      exact e
theorem lquo_run (k : Nat) {a b : Nat} (hq : (Q (min a b) (max a b)).length ≤ 100) (h64 : a < 2 ^ 64) (hw : 200 < w) : ∃ ρ, run fsL gl w (k + 1) 13 [prD a b] = some (tupI (QI (min a b) (max a b)), ρ) := by
  obtain ⟨x, e⟩ := lquo_loop (gl := gl) (w := w) (cf := run fsL gl w k) (p := some (prD a b)) (min a b) (max a b) [] w (by omega) (by show 0 + _ ≤ _; omega) (by have := Nat.min_le_left a b; omega)
  have e5 : D.pures ((QI (min a b) (max a b)).map D.int) = true := w_pures _
  refine ⟨_, run_rt (fn := fn13) (ρ := [some (prD a b), some (.tup ((QI (min a b) (max a b)).map D.int)), some (.int 0), x]) rfl rfl ?_⟩
  rw [List.nil_append, List.map_nil] at e
  simp only [tupI, prD] at e ⊢
  simp only [g_0, g_s, v_lit, v_var, v_mov, v_own, v_chk, v_bin, v_neg, v_cmp, v_cmp2, v_band, v_bor, v_bnot, v_ite, v_tup, v_lst, v_dct, v_idx, v_slc, v_rev, v_fn, v_isi, v_mth, v_mut, v_call, v_lc, v_ge, v_lof, t_lit, t_var, t_cmp, t_cmp2, t_bin, t_idx, t_fn, t_isi, t_call, t_ge, t_slc, t_mth, t_band, t_bor, t_bnot, i_var, i_call, i_idx, i_bin, i_fn, i_tup, i_lst, i_slc, i_lce, i_ck, i_r1, i_r2, i_r3, i_en, i_zp, i_rv, a_nil, a_cons, o_none, o_some, c_none, c_some, s_nil, s_cons, x_set, x_aug, x_put, x_ex, x_ret, x_ret0, x_iff, x_whl, x_for, x_brk, x_cnt, x_pas, x_doc, b_nm, b_tup, b_lst, b_nil, b_cons, k_nil, k_none, kP, kM, kPI, kPB, kPN, kPO, kPT, kPL, kPE, kPV, kPZ, kOwn, kChk, kBin2, kBin, kNeg, kCmpB, kCmp, kChA, kCh2, kCh, kAnd2, kAnd, kOr2, kOr, kNot, kIte, kTup, kLst, kIdx2, kIdx, kSl3, kSl2, kSl, kRev, kFn, kIsi, kMth2, kMth, kMu3, kMu2, kMu1, kMu, kCa3, kCa2, kCa, kLc2, kLc, kGe2, kGe, kLof, kT, kAndT, kOrT, kNotT, kI, kCk, kR1, kR2b, kR2, kR3c, kR3b, kR3, kEn, kZp2, kZp, kRv, kA2, kA, kO, kSet, kNx, kRt, kSt, kAu2, kAu, kPu3, kPu2, kPu1, kPu, kIf, kFor, kBt, p_add, p_sub, p_mul, p_fdiv, p_mod, p_pow, p_addL, p_addT, p_mulL, q_lt, q_le, q_gt, q_ge, q_eq, q_ne, q_eqT, q_neT, q_eqL, q_neL, q_eqB, q_eqS, q_is, q_isnot, q_inL, q_niL, q_inT, q_niT, u_non, u_bl, u_int, u_lst, u_tup, d_L, d_T, n_n, n_i, n_b, n_s, n_t, n_l, l_lenL, l_lenT, l_lenS, l_abs, l_int, l_min, l_max, l_tupL, l_tupT, l_lstL, l_lstT, l_minL, l_maxL, au_add, au_sub, au_str, l_all, l_any, l_sum, l_srtL, l_srtT, w_ints, w_pures, w_bools, w_sort, w_shps, w_shpI, w_shpB, w_shpN, w_shpT, w_shpL, w_eqs, w_eqT, w_eqL, m_app, y_n_int, y_n_bool, y_n_str, y_n_tuple, y_n_list, y_b_int, y_b_bool, y_b_str, y_b_tuple, y_b_list, y_i_int, y_i_bool, y_i_str, y_i_tuple, y_i_list, y_s_int, y_s_bool, y_s_str, y_s_tuple, y_s_list, y_t_int, y_t_bool, y_t_str, y_t_tuple, y_t_list, y_l_int, y_l_bool, y_l_str, y_l_tuple, y_l_list, r_T, r_L, sl_L, sl_T, wk_L, wk_T, ix_L, lo_L, lo_T, isL_l, isI_i, isB_b, pu_i, pu_b, pu_s, pu_n, pu_t, ow_i, ow_b, ow_l, ow_t, thenS, startE, List.map_cons, List.map_nil, List.cons_append, List.nil_append, List.length_cons, List.length_nil, List.length_replicate, List.replicate, List.set_cons_zero, List.set_cons_succ, List.set_nil, Option.bind_some, Option.map_some, Option.bind_none, Option.map_none, Nat.sub_zero, Nat.reduceSub, Nat.reduceAdd, Bool.not_true, Bool.not_false, if_true, if_false, reduceIte, Bool.false_eq_true, Bool.true_and, Bool.and_true, Bool.false_and, Bool.and_false, decide_true, decide_false, List.tail_cons, List.isEmpty_cons, List.isEmpty_nil, ne_eq, not_true_eq_false, not_false_eq_true, reduceCtorEq, List.append_nil, List.singleton_append, fn13, sort2, e, e5]
/-! the turning place -/
theorem turn_loop {cf : Fns} {p q : Option D} : ∀ (qs : List Nat) (j : Nat) (a b : Option D), ∃ a' b', forL (forF cf gl w (.tup [.nm 2, .nm 3]) b2_0) (enumD j ((toI qs).map D.int)) [p, q, a, b] = some (match gsL qs j with
    | [] => .nx [p, q, a', b']
    | x :: _ => .rt (.int x) [p, q, a', b'])
  | [], j, a, b => ⟨a, b, rfl⟩
  | x :: r, j, a, b => by
    by_cases h : 1 < x
    · have h' : (1 : Int) < ((x : Nat) : Int) := by omega
      refine ⟨some (.int (j : Nat)), some (.int (x : Nat)), ?_⟩
      have h1 : forF cf gl w (.tup [.nm 2, .nm 3]) b2_0 (.tup [.int (j : Nat), .int ((x : Nat) : Int)]) [p, q, a, b] = some (.rt (.int (j : Nat)) [p, q, some (.int (j : Nat)), some (.int (x : Nat))]) := by simp only [g_0, g_s, v_lit, v_var, v_mov, v_own, v_chk, v_bin, v_neg, v_cmp, v_cmp2, v_band, v_bor, v_bnot, v_ite, v_tup, v_lst, v_dct, v_idx, v_slc, v_rev, v_fn, v_isi, v_mth, v_mut, v_call, v_lc, v_ge, v_lof, t_lit, t_var, t_cmp, t_cmp2, t_bin, t_idx, t_fn, t_isi, t_call, t_ge, t_slc, t_mth, t_band, t_bor, t_bnot, i_var, i_call, i_idx, i_bin, i_fn, i_tup, i_lst, i_slc, i_lce, i_ck, i_r1, i_r2, i_r3, i_en, i_zp, i_rv, a_nil, a_cons, o_none, o_some, c_none, c_some, s_nil, s_cons, x_set, x_aug, x_put, x_ex, x_ret, x_ret0, x_iff, x_whl, x_for, x_brk, x_cnt, x_pas, x_doc, b_nm, b_tup, b_lst, b_nil, b_cons, k_nil, k_none, kP, kM, kPI, kPB, kPN, kPO, kPT, kPL, kPE, kPV, kPZ, kOwn, kChk, kBin2, kBin, kNeg, kCmpB, kCmp, kChA, kCh2, kCh, kAnd2, kAnd, kOr2, kOr, kNot, kIte, kTup, kLst, kIdx2, kIdx, kSl3, kSl2, kSl, kRev, kFn, kIsi, kMth2, kMth, kMu3, kMu2, kMu1, kMu, kCa3, kCa2, kCa, kLc2, kLc, kGe2, kGe, kLof, kT, kAndT, kOrT, kNotT, kI, kCk, kR1, kR2b, kR2, kR3c, kR3b, kR3, kEn, kZp2, kZp, kRv, kA2, kA, kO, kSet, kNx, kRt, kSt, kAu2, kAu, kPu3, kPu2, kPu1, kPu, kIf, kFor, kBt, p_add, p_sub, p_mul, p_fdiv, p_mod, p_pow, p_addL, p_addT, p_mulL, q_lt, q_le, q_gt, q_ge, q_eq, q_ne, q_eqT, q_neT, q_eqL, q_neL, q_eqB, q_eqS, q_is, q_isnot, q_inL, q_niL, q_inT, q_niT, u_non, u_bl, u_int, u_lst, u_tup, d_L, d_T, n_n, n_i, n_b, n_s, n_t, n_l, l_lenL, l_lenT, l_lenS, l_abs, l_int, l_min, l_max, l_tupL, l_tupT, l_lstL, l_lstT, l_minL, l_maxL, au_add, au_sub, au_str, l_all, l_any, l_sum, l_srtL, l_srtT, w_ints, w_pures, w_bools, w_sort, w_shps, w_shpI, w_shpB, w_shpN, w_shpT, w_shpL, w_eqs, w_eqT, w_eqL, m_app, y_n_int, y_n_bool, y_n_str, y_n_tuple, y_n_list, y_b_int, y_b_bool, y_b_str, y_b_tuple, y_b_list, y_i_int, y_i_bool, y_i_str, y_i_tuple, y_i_list, y_s_int, y_s_bool, y_s_str, y_s_tuple, y_s_list, y_t_int, y_t_bool, y_t_str, y_t_tuple, y_t_list, y_l_int, y_l_bool, y_l_str, y_l_tuple, y_l_list, r_T, r_L, sl_L, sl_T, wk_L, wk_T, ix_L, lo_L, lo_T, isL_l, isI_i, isB_b, pu_i, pu_b, pu_s, pu_n, pu_t, ow_i, ow_b, ow_l, ow_t, thenS, startE, List.map_cons, List.map_nil, List.cons_append, List.nil_append, List.length_cons, List.length_nil, List.length_replicate, List.replicate, List.set_cons_zero, List.set_cons_succ, List.set_nil, Option.bind_some, Option.map_some, Option.bind_none, Option.map_none, Nat.sub_zero, Nat.reduceSub, Nat.reduceAdd, Bool.not_true, Bool.not_false, if_true, if_false, reduceIte, Bool.false_eq_true, Bool.true_and, Bool.and_true, Bool.false_and, Bool.and_false, decide_true, decide_false, List.tail_cons, List.isEmpty_cons, List.isEmpty_nil, ne_eq, not_true_eq_false, not_false_eq_true, reduceCtorEq, List.append_nil, List.singleton_append, forF, b2_0, h']
      have e : gsL (x :: r) j = ((j : Nat) : Int) :: gsL r (j + 1) := if_pos h
      rw [e]
      show (forF _ _ _ _ _ _ _).bind _ = _
      rw [h1]; rfl
    · have h' : ¬ (1 : Int) < ((x : Nat) : Int) := by omega
      obtain ⟨a', b', e⟩ := turn_loop (cf := cf) (p := p) (q := q) r (j + 1) (some (.int (j : Nat))) (some (.int (x : Nat)))
      refine ⟨a', b', ?_⟩
      have h1 : forF cf gl w (.tup [.nm 2, .nm 3]) b2_0 (.tup [.int (j : Nat), .int ((x : Nat) : Int)]) [p, q, a, b] = some (.nx [p, q, some (.int (j : Nat)), some (.int (x : Nat))]) := by simp only [g_0, g_s, v_lit, v_var, v_mov, v_own, v_chk, v_bin, v_neg, v_cmp, v_cmp2, v_band, v_bor, v_bnot, v_ite, v_tup, v_lst, v_dct, v_idx, v_slc, v_rev, v_fn, v_isi, v_mth, v_mut, v_call, v_lc, v_ge, v_lof, t_lit, t_var, t_cmp, t_cmp2, t_bin, t_idx, t_fn, t_isi, t_call, t_ge, t_slc, t_mth, t_band, t_bor, t_bnot, i_var, i_call, i_idx, i_bin, i_fn, i_tup, i_lst, i_slc, i_lce, i_ck, i_r1, i_r2, i_r3, i_en, i_zp, i_rv, a_nil, a_cons, o_none, o_some, c_none, c_some, s_nil, s_cons, x_set, x_aug, x_put, x_ex, x_ret, x_ret0, x_iff, x_whl, x_for, x_brk, x_cnt, x_pas, x_doc, b_nm, b_tup, b_lst, b_nil, b_cons, k_nil, k_none, kP, kM, kPI, kPB, kPN, kPO, kPT, kPL, kPE, kPV, kPZ, kOwn, kChk, kBin2, kBin, kNeg, kCmpB, kCmp, kChA, kCh2, kCh, kAnd2, kAnd, kOr2, kOr, kNot, kIte, kTup, kLst, kIdx2, kIdx, kSl3, kSl2, kSl, kRev, kFn, kIsi, kMth2, kMth, kMu3, kMu2, kMu1, kMu, kCa3, kCa2, kCa, kLc2, kLc, kGe2, kGe, kLof, kT, kAndT, kOrT, kNotT, kI, kCk, kR1, kR2b, kR2, kR3c, kR3b, kR3, kEn, kZp2, kZp, kRv, kA2, kA, kO, kSet, kNx, kRt, kSt, kAu2, kAu, kPu3, kPu2, kPu1, kPu, kIf, kFor, kBt, p_add, p_sub, p_mul, p_fdiv, p_mod, p_pow, p_addL, p_addT, p_mulL, q_lt, q_le, q_gt, q_ge, q_eq, q_ne, q_eqT, q_neT, q_eqL, q_neL, q_eqB, q_eqS, q_is, q_isnot, q_inL, q_niL, q_inT, q_niT, u_non, u_bl, u_int, u_lst, u_tup, d_L, d_T, n_n, n_i, n_b, n_s, n_t, n_l, l_lenL, l_lenT, l_lenS, l_abs, l_int, l_min, l_max, l_tupL, l_tupT, l_lstL, l_lstT, l_minL, l_maxL, au_add, au_sub, au_str, l_all, l_any, l_sum, l_srtL, l_srtT, w_ints, w_pures, w_bools, w_sort, w_shps, w_shpI, w_shpB, w_shpN, w_shpT, w_shpL, w_eqs, w_eqT, w_eqL, m_app, y_n_int, y_n_bool, y_n_str, y_n_tuple, y_n_list, y_b_int, y_b_bool, y_b_str, y_b_tuple, y_b_list, y_i_int, y_i_bool, y_i_str, y_i_tuple, y_i_list, y_s_int, y_s_bool, y_s_str, y_s_tuple, y_s_list, y_t_int, y_t_bool, y_t_str, y_t_tuple, y_t_list, y_l_int, y_l_bool, y_l_str, y_l_tuple, y_l_list, r_T, r_L, sl_L, sl_T, wk_L, wk_T, ix_L, lo_L, lo_T, isL_l, isI_i, isB_b, pu_i, pu_b, pu_s, pu_n, pu_t, ow_i, ow_b, ow_l, ow_t, thenS, startE, List.map_cons, List.map_nil, List.cons_append, List.nil_append, List.length_cons, List.length_nil, List.length_replicate, List.replicate, List.set_cons_zero, List.set_cons_succ, List.set_nil, Option.bind_some, Option.map_some, Option.bind_none, Option.map_none, Nat.sub_zero, Nat.reduceSub, Nat.reduceAdd, Bool.not_true, Bool.not_false, if_true, if_false, reduceIte, Bool.false_eq_true, Bool.true_and, Bool.and_true, Bool.false_and, Bool.and_false, decide_true, decide_false, List.tail_cons, List.isEmpty_cons, List.isEmpty_nil, ne_eq, not_true_eq_false, not_false_eq_true, reduceCtorEq, List.append_nil, List.singleton_append, forF, b2_0, h']
      have e2 : gsL (x :: r) j = gsL r (j + 1) := if_neg h
      rw [e2]
      show (forF _ _ _ _ _ _ _).bind _ = _
      rw [h1]; exact e
theorem turn_run (k : Nat) {a b : Nat} (hq : (Q (min a b) (max a b)).length ≤ 100) (h64 : a < 2 ^ 64) (hw : 200 < w) : ∃ ρ, run fsL gl w (k + 2) 2 [prD a b] = some (.int (tn (Q (min a b) (max a b))), ρ) := by
  obtain ⟨ρ1, e1⟩ := quo_run (gl := gl) (w := w) k hq h64 hw
  obtain ⟨x, y, e⟩ := turn_loop (gl := gl) (w := w) (cf := run fsL gl w (k + 1)) (p := some (prD a b)) (q := some (tupI (QI (min a b) (max a b)))) (Q (min a b) (max a b)) 0 none none
  have hl : (QI (min a b) (max a b)).length = (Q (min a b) (max a b)).length := by unfold QI toI; rw [List.length_map]
  refine ⟨[some (prD a b), some (tupI (QI (min a b) (max a b))), x, y], run_rt (fn := fn2) rfl rfl ?_⟩
  have e : forL (forF (run fsL gl w (k + 1)) gl w (.tup [.nm 2, .nm 3]) b2_0) (enumD 0 ((QI (min a b) (max a b)).map D.int)) [some (prD a b), some (tupI (QI (min a b) (max a b))), none, none] = _ := e
  unfold tn
  cases hg : gsL (Q (min a b) (max a b)) 0 with
  | nil =>
    rw [hg] at e
    simp only [tupI] at e e1 ⊢
    simp only [g_0, g_s, v_lit, v_var, v_mov, v_own, v_chk, v_bin, v_neg, v_cmp, v_cmp2, v_band, v_bor, v_bnot, v_ite, v_tup, v_lst, v_dct, v_idx, v_slc, v_rev, v_fn, v_isi, v_mth, v_mut, v_call, v_lc, v_ge, v_lof, t_lit, t_var, t_cmp, t_cmp2, t_bin, t_idx, t_fn, t_isi, t_call, t_ge, t_slc, t_mth, t_band, t_bor, t_bnot, i_var, i_call, i_idx, i_bin, i_fn, i_tup, i_lst, i_slc, i_lce, i_ck, i_r1, i_r2, i_r3, i_en, i_zp, i_rv, a_nil, a_cons, o_none, o_some, c_none, c_some, s_nil, s_cons, x_set, x_aug, x_put, x_ex, x_ret, x_ret0, x_iff, x_whl, x_for, x_brk, x_cnt, x_pas, x_doc, b_nm, b_tup, b_lst, b_nil, b_cons, k_nil, k_none, kP, kM, kPI, kPB, kPN, kPO, kPT, kPL, kPE, kPV, kPZ, kOwn, kChk, kBin2, kBin, kNeg, kCmpB, kCmp, kChA, kCh2, kCh, kAnd2, kAnd, kOr2, kOr, kNot, kIte, kTup, kLst, kIdx2, kIdx, kSl3, kSl2, kSl, kRev, kFn, kIsi, kMth2, kMth, kMu3, kMu2, kMu1, kMu, kCa3, kCa2, kCa, kLc2, kLc, kGe2, kGe, kLof, kT, kAndT, kOrT, kNotT, kI, kCk, kR1, kR2b, kR2, kR3c, kR3b, kR3, kEn, kZp2, kZp, kRv, kA2, kA, kO, kSet, kNx, kRt, kSt, kAu2, kAu, kPu3, kPu2, kPu1, kPu, kIf, kFor, kBt, p_add, p_sub, p_mul, p_fdiv, p_mod, p_pow, p_addL, p_addT, p_mulL, q_lt, q_le, q_gt, q_ge, q_eq, q_ne, q_eqT, q_neT, q_eqL, q_neL, q_eqB, q_eqS, q_is, q_isnot, q_inL, q_niL, q_inT, q_niT, u_non, u_bl, u_int, u_lst, u_tup, d_L, d_T, n_n, n_i, n_b, n_s, n_t, n_l, l_lenL, l_lenT, l_lenS, l_abs, l_int, l_min, l_max, l_tupL, l_tupT, l_lstL, l_lstT, l_minL, l_maxL, au_add, au_sub, au_str, l_all, l_any, l_sum, l_srtL, l_srtT, w_ints, w_pures, w_bools, w_sort, w_shps, w_shpI, w_shpB, w_shpN, w_shpT, w_shpL, w_eqs, w_eqT, w_eqL, m_app, y_n_int, y_n_bool, y_n_str, y_n_tuple, y_n_list, y_b_int, y_b_bool, y_b_str, y_b_tuple, y_b_list, y_i_int, y_i_bool, y_i_str, y_i_tuple, y_i_list, y_s_int, y_s_bool, y_s_str, y_s_tuple, y_s_list, y_t_int, y_t_bool, y_t_str, y_t_tuple, y_t_list, y_l_int, y_l_bool, y_l_str, y_l_tuple, y_l_list, r_T, r_L, sl_L, sl_T, wk_L, wk_T, ix_L, lo_L, lo_T, isL_l, isI_i, isB_b, pu_i, pu_b, pu_s, pu_n, pu_t, ow_i, ow_b, ow_l, ow_t, thenS, startE, List.map_cons, List.map_nil, List.cons_append, List.nil_append, List.length_cons, List.length_nil, List.length_replicate, List.replicate, List.set_cons_zero, List.set_cons_succ, List.set_nil, Option.bind_some, Option.map_some, Option.bind_none, Option.map_none, Nat.sub_zero, Nat.reduceSub, Nat.reduceAdd, Bool.not_true, Bool.not_false, if_true, if_false, reduceIte, Bool.false_eq_true, Bool.true_and, Bool.and_true, Bool.false_and, Bool.and_false, decide_true, decide_false, List.tail_cons, List.isEmpty_cons, List.isEmpty_nil, ne_eq, not_true_eq_false, not_false_eq_true, reduceCtorEq, List.append_nil, List.singleton_append, fn2, e1, it_T, e, len_int, hl]
  | cons z r =>
    rw [hg] at e
    simp only [tupI] at e e1 ⊢
    simp only [g_0, g_s, v_lit, v_var, v_mov, v_own, v_chk, v_bin, v_neg, v_cmp, v_cmp2, v_band, v_bor, v_bnot, v_ite, v_tup, v_lst, v_dct, v_idx, v_slc, v_rev, v_fn, v_isi, v_mth, v_mut, v_call, v_lc, v_ge, v_lof, t_lit, t_var, t_cmp, t_cmp2, t_bin, t_idx, t_fn, t_isi, t_call, t_ge, t_slc, t_mth, t_band, t_bor, t_bnot, i_var, i_call, i_idx, i_bin, i_fn, i_tup, i_lst, i_slc, i_lce, i_ck, i_r1, i_r2, i_r3, i_en, i_zp, i_rv, a_nil, a_cons, o_none, o_some, c_none, c_some, s_nil, s_cons, x_set, x_aug, x_put, x_ex, x_ret, x_ret0, x_iff, x_whl, x_for, x_brk, x_cnt, x_pas, x_doc, b_nm, b_tup, b_lst, b_nil, b_cons, k_nil, k_none, kP, kM, kPI, kPB, kPN, kPO, kPT, kPL, kPE, kPV, kPZ, kOwn, kChk, kBin2, kBin, kNeg, kCmpB, kCmp, kChA, kCh2, kCh, kAnd2, kAnd, kOr2, kOr, kNot, kIte, kTup, kLst, kIdx2, kIdx, kSl3, kSl2, kSl, kRev, kFn, kIsi, kMth2, kMth, kMu3, kMu2, kMu1, kMu, kCa3, kCa2, kCa, kLc2, kLc, kGe2, kGe, kLof, kT, kAndT, kOrT, kNotT, kI, kCk, kR1, kR2b, kR2, kR3c, kR3b, kR3, kEn, kZp2, kZp, kRv, kA2, kA, kO, kSet, kNx, kRt, kSt, kAu2, kAu, kPu3, kPu2, kPu1, kPu, kIf, kFor, kBt, p_add, p_sub, p_mul, p_fdiv, p_mod, p_pow, p_addL, p_addT, p_mulL, q_lt, q_le, q_gt, q_ge, q_eq, q_ne, q_eqT, q_neT, q_eqL, q_neL, q_eqB, q_eqS, q_is, q_isnot, q_inL, q_niL, q_inT, q_niT, u_non, u_bl, u_int, u_lst, u_tup, d_L, d_T, n_n, n_i, n_b, n_s, n_t, n_l, l_lenL, l_lenT, l_lenS, l_abs, l_int, l_min, l_max, l_tupL, l_tupT, l_lstL, l_lstT, l_minL, l_maxL, au_add, au_sub, au_str, l_all, l_any, l_sum, l_srtL, l_srtT, w_ints, w_pures, w_bools, w_sort, w_shps, w_shpI, w_shpB, w_shpN, w_shpT, w_shpL, w_eqs, w_eqT, w_eqL, m_app, y_n_int, y_n_bool, y_n_str, y_n_tuple, y_n_list, y_b_int, y_b_bool, y_b_str, y_b_tuple, y_b_list, y_i_int, y_i_bool, y_i_str, y_i_tuple, y_i_list, y_s_int, y_s_bool, y_s_str, y_s_tuple, y_s_list, y_t_int, y_t_bool, y_t_str, y_t_tuple, y_t_list, y_l_int, y_l_bool, y_l_str, y_l_tuple, y_l_list, r_T, r_L, sl_L, sl_T, wk_L, wk_T, ix_L, lo_L, lo_T, isL_l, isI_i, isB_b, pu_i, pu_b, pu_s, pu_n, pu_t, ow_i, ow_b, ow_l, ow_t, thenS, startE, List.map_cons, List.map_nil, List.cons_append, List.nil_append, List.length_cons, List.length_nil, List.length_replicate, List.replicate, List.set_cons_zero, List.set_cons_succ, List.set_nil, Option.bind_some, Option.map_some, Option.bind_none, Option.map_none, Nat.sub_zero, Nat.reduceSub, Nat.reduceAdd, Bool.not_true, Bool.not_false, if_true, if_false, reduceIte, Bool.false_eq_true, Bool.true_and, Bool.and_true, Bool.false_and, Bool.and_false, decide_true, decide_false, List.tail_cons, List.isEmpty_cons, List.isEmpty_nil, ne_eq, not_true_eq_false, not_false_eq_true, reduceCtorEq, List.append_nil, List.singleton_append, fn2, e1, it_T, e]
theorem lturn_loop {cf : Fns} {p q : Option D} : ∀ (qs : List Nat) (j : Nat) (acc : List D) (a b : Option D), acc.length + qs.length ≤ 1000 → ∃ a' b', lcL (lcF cf gl (.tup [.nm 2, .nm 3]) i14_1 e14_0) (enumD j ((toI qs).map D.int)) [p, q, a, b] acc = some (acc ++ (gsL qs j).map D.int, [p, q, a', b'])
  | [], j, acc, a, b, _ => ⟨a, b, by show some (acc, _) = _; rw [show gsL [] j = [] from rfl, List.map_nil, List.append_nil]⟩
  | x :: r, j, acc, a, b, hl => by
    rw [List.length_cons] at hl
    by_cases h : 1 < x
    · have h' : (1 : Int) < ((x : Nat) : Int) := by omega
      obtain ⟨a', b', e⟩ := lturn_loop (cf := cf) (p := p) (q := q) r (j + 1) (acc ++ [.int (j : Nat)]) (some (.int (j : Nat))) (some (.int (x : Nat))) (by rw [List.length_append, List.length_singleton]; omega)
      refine ⟨a', b', ?_⟩
      have h1 : lcF cf gl (.tup [.nm 2, .nm 3]) i14_1 e14_0 (.tup [.int (j : Nat), .int ((x : Nat) : Int)]) [p, q, a, b] = some (some (.int (j : Nat)), [p, q, some (.int (j : Nat)), some (.int (x : Nat))]) := by
        have hs : slotsT (.tup [.nm 2, .nm 3]) = [2, 3] := rfl
        simp only [g_0, g_s, v_lit, v_var, v_mov, v_own, v_chk, v_bin, v_neg, v_cmp, v_cmp2, v_band, v_bor, v_bnot, v_ite, v_tup, v_lst, v_dct, v_idx, v_slc, v_rev, v_fn, v_isi, v_mth, v_mut, v_call, v_lc, v_ge, v_lof, t_lit, t_var, t_cmp, t_cmp2, t_bin, t_idx, t_fn, t_isi, t_call, t_ge, t_slc, t_mth, t_band, t_bor, t_bnot, i_var, i_call, i_idx, i_bin, i_fn, i_tup, i_lst, i_slc, i_lce, i_ck, i_r1, i_r2, i_r3, i_en, i_zp, i_rv, a_nil, a_cons, o_none, o_some, c_none, c_some, s_nil, s_cons, x_set, x_aug, x_put, x_ex, x_ret, x_ret0, x_iff, x_whl, x_for, x_brk, x_cnt, x_pas, x_doc, b_nm, b_tup, b_lst, b_nil, b_cons, k_nil, k_none, kP, kM, kPI, kPB, kPN, kPO, kPT, kPL, kPE, kPV, kPZ, kOwn, kChk, kBin2, kBin, kNeg, kCmpB, kCmp, kChA, kCh2, kCh, kAnd2, kAnd, kOr2, kOr, kNot, kIte, kTup, kLst, kIdx2, kIdx, kSl3, kSl2, kSl, kRev, kFn, kIsi, kMth2, kMth, kMu3, kMu2, kMu1, kMu, kCa3, kCa2, kCa, kLc2, kLc, kGe2, kGe, kLof, kT, kAndT, kOrT, kNotT, kI, kCk, kR1, kR2b, kR2, kR3c, kR3b, kR3, kEn, kZp2, kZp, kRv, kA2, kA, kO, kSet, kNx, kRt, kSt, kAu2, kAu, kPu3, kPu2, kPu1, kPu, kIf, kFor, kBt, p_add, p_sub, p_mul, p_fdiv, p_mod, p_pow, p_addL, p_addT, p_mulL, q_lt, q_le, q_gt, q_ge, q_eq, q_ne, q_eqT, q_neT, q_eqL, q_neL, q_eqB, q_eqS, q_is, q_isnot, q_inL, q_niL, q_inT, q_niT, u_non, u_bl, u_int, u_lst, u_tup, d_L, d_T, n_n, n_i, n_b, n_s, n_t, n_l, l_lenL, l_lenT, l_lenS, l_abs, l_int, l_min, l_max, l_tupL, l_tupT, l_lstL, l_lstT, l_minL, l_maxL, au_add, au_sub, au_str, l_all, l_any, l_sum, l_srtL, l_srtT, w_ints, w_pures, w_bools, w_sort, w_shps, w_shpI, w_shpB, w_shpN, w_shpT, w_shpL, w_eqs, w_eqT, w_eqL, m_app, y_n_int, y_n_bool, y_n_str, y_n_tuple, y_n_list, y_b_int, y_b_bool, y_b_str, y_b_tuple, y_b_list, y_i_int, y_i_bool, y_i_str, y_i_tuple, y_i_list, y_s_int, y_s_bool, y_s_str, y_s_tuple, y_s_list, y_t_int, y_t_bool, y_t_str, y_t_tuple, y_t_list, y_l_int, y_l_bool, y_l_str, y_l_tuple, y_l_list, r_T, r_L, sl_L, sl_T, wk_L, wk_T, ix_L, lo_L, lo_T, isL_l, isI_i, isB_b, pu_i, pu_b, pu_s, pu_n, pu_t, ow_i, ow_b, ow_l, ow_t, thenS, startE, List.map_cons, List.map_nil, List.cons_append, List.nil_append, List.length_cons, List.length_nil, List.length_replicate, List.replicate, List.set_cons_zero, List.set_cons_succ, List.set_nil, Option.bind_some, Option.map_some, Option.bind_none, Option.map_none, Nat.sub_zero, Nat.reduceSub, Nat.reduceAdd, Bool.not_true, Bool.not_false, if_true, if_false, reduceIte, Bool.false_eq_true, Bool.true_and, Bool.and_true, Bool.false_and, Bool.and_false, decide_true, decide_false, List.tail_cons, List.isEmpty_cons, List.isEmpty_nil, ne_eq, not_true_eq_false, not_false_eq_true, reduceCtorEq, List.append_nil, List.singleton_append, lcF, lcC, lcT, lcK, hs, wipeE, i14_1, e14_0, h']
      have e2 : gsL (x :: r) j = ((j : Nat) : Int) :: gsL r (j + 1) := if_pos h
      rw [e2, List.map_cons, List.append_cons]
      show (lcF _ _ _ _ _ _ _).bind _ = _
      rw [h1]
      show (if acc.length < sz then _ else _) = _
      rw [if_pos (by unfold sz; omega)]
      exact e
    · have h' : ¬ (1 : Int) < ((x : Nat) : Int) := by omega
      obtain ⟨a', b', e⟩ := lturn_loop (cf := cf) (p := p) (q := q) r (j + 1) acc (some (.int (j : Nat))) (some (.int (x : Nat))) (by omega)
      refine ⟨a', b', ?_⟩
      have h1 : lcF cf gl (.tup [.nm 2, .nm 3]) i14_1 e14_0 (.tup [.int (j : Nat), .int ((x : Nat) : Int)]) [p, q, a, b] = some (none, [p, q, some (.int (j : Nat)), some (.int (x : Nat))]) := by
        have hs : slotsT (.tup [.nm 2, .nm 3]) = [2, 3] := rfl
        simp only [g_0, g_s, v_lit, v_var, v_mov, v_own, v_chk, v_bin, v_neg, v_cmp, v_cmp2, v_band, v_bor, v_bnot, v_ite, v_tup, v_lst, v_dct, v_idx, v_slc, v_rev, v_fn, v_isi, v_mth, v_mut, v_call, v_lc, v_ge, v_lof, t_lit, t_var, t_cmp, t_cmp2, t_bin, t_idx, t_fn, t_isi, t_call, t_ge, t_slc, t_mth, t_band, t_bor, t_bnot, i_var, i_call, i_idx, i_bin, i_fn, i_tup, i_lst, i_slc, i_lce, i_ck, i_r1, i_r2, i_r3, i_en, i_zp, i_rv, a_nil, a_cons, o_none, o_some, c_none, c_some, s_nil, s_cons, x_set, x_aug, x_put, x_ex, x_ret, x_ret0, x_iff, x_whl, x_for, x_brk, x_cnt, x_pas, x_doc, b_nm, b_tup, b_lst, b_nil, b_cons, k_nil, k_none, kP, kM, kPI, kPB, kPN, kPO, kPT, kPL, kPE, kPV, kPZ, kOwn, kChk, kBin2, kBin, kNeg, kCmpB, kCmp, kChA, kCh2, kCh, kAnd2, kAnd, kOr2, kOr, kNot, kIte, kTup, kLst, kIdx2, kIdx, kSl3, kSl2, kSl, kRev, kFn, kIsi, kMth2, kMth, kMu3, kMu2, kMu1, kMu, kCa3, kCa2, kCa, kLc2, kLc, kGe2, kGe, kLof, kT, kAndT, kOrT, kNotT, kI, kCk, kR1, kR2b, kR2, kR3c, kR3b, kR3, kEn, kZp2, kZp, kRv, kA2, kA, kO, kSet, kNx, kRt, kSt, kAu2, kAu, kPu3, kPu2, kPu1, kPu, kIf, kFor, kBt, p_add, p_sub, p_mul, p_fdiv, p_mod, p_pow, p_addL, p_addT, p_mulL, q_lt, q_le, q_gt, q_ge, q_eq, q_ne, q_eqT, q_neT, q_eqL, q_neL, q_eqB, q_eqS, q_is, q_isnot, q_inL, q_niL, q_inT, q_niT, u_non, u_bl, u_int, u_lst, u_tup, d_L, d_T, n_n, n_i, n_b, n_s, n_t, n_l, l_lenL, l_lenT, l_lenS, l_abs, l_int, l_min, l_max, l_tupL, l_tupT, l_lstL, l_lstT, l_minL, l_maxL, au_add, au_sub, au_str, l_all, l_any, l_sum, l_srtL, l_srtT, w_ints, w_pures, w_bools, w_sort, w_shps, w_shpI, w_shpB, w_shpN, w_shpT, w_shpL, w_eqs, w_eqT, w_eqL, m_app, y_n_int, y_n_bool, y_n_str, y_n_tuple, y_n_list, y_b_int, y_b_bool, y_b_str, y_b_tuple, y_b_list, y_i_int, y_i_bool, y_i_str, y_i_tuple, y_i_list, y_s_int, y_s_bool, y_s_str, y_s_tuple, y_s_list, y_t_int, y_t_bool, y_t_str, y_t_tuple, y_t_list, y_l_int, y_l_bool, y_l_str, y_l_tuple, y_l_list, r_T, r_L, sl_L, sl_T, wk_L, wk_T, ix_L, lo_L, lo_T, isL_l, isI_i, isB_b, pu_i, pu_b, pu_s, pu_n, pu_t, ow_i, ow_b, ow_l, ow_t, thenS, startE, List.map_cons, List.map_nil, List.cons_append, List.nil_append, List.length_cons, List.length_nil, List.length_replicate, List.replicate, List.set_cons_zero, List.set_cons_succ, List.set_nil, Option.bind_some, Option.map_some, Option.bind_none, Option.map_none, Nat.sub_zero, Nat.reduceSub, Nat.reduceAdd, Bool.not_true, Bool.not_false, if_true, if_false, reduceIte, Bool.false_eq_true, Bool.true_and, Bool.and_true, Bool.false_and, Bool.and_false, decide_true, decide_false, List.tail_cons, List.isEmpty_cons, List.isEmpty_nil, ne_eq, not_true_eq_false, not_false_eq_true, reduceCtorEq, List.append_nil, List.singleton_append, lcF, lcC, lcT, lcK, hs, wipeE, i14_1, e14_0, h']
      have e2 : gsL (x :: r) j = gsL r (j + 1) := if_neg h
      rw [e2]
      show (lcF _ _ _ _ _ _ _).bind _ = _
      rw [h1]; exact e
theorem ixn0 (n : Nat) : ixn (n + 1) 0 = some 0 := by unfold ixn; rw [if_pos (by omega), if_pos (by omega)]; rfl
theorem lturn_run (k : Nat) {qs : List Nat} (hq : qs.length ≤ 100) : ∃ ρ, run fsL gl w (k + 1) 14 [tupI (toI qs)] = some (.int (tn qs), ρ) := by
  obtain ⟨a, b, e⟩ := lturn_loop (gl := gl) (cf := run fsL gl w k) (p := some (tupI (toI qs))) (q := none) qs 0 [] none none (by show 0 + _ ≤ _; omega)
  have hl : (toI qs).length = qs.length := by unfold toI; rw [List.length_map]
  have hs : slotsT (.tup [.nm 2, .nm 3]) = [2, 3] := rfl
  refine ⟨[some (tupI (toI qs)), some (.lst ((gsL qs 0).map D.int)), none, none], run_rt (fn := fn14) rfl rfl ?_⟩
  rw [List.nil_append] at e
  unfold tn
  cases hg : gsL qs 0 with
  | nil =>
    rw [hg] at e
    have z0 : ¬ (0 : Int) < ((0 : Nat) : Int) := by decide
    simp only [tupI, List.map_nil] at e ⊢
    simp only [g_0, g_s, v_lit, v_var, v_mov, v_own, v_chk, v_bin, v_neg, v_cmp, v_cmp2, v_band, v_bor, v_bnot, v_ite, v_tup, v_lst, v_dct, v_idx, v_slc, v_rev, v_fn, v_isi, v_mth, v_mut, v_call, v_lc, v_ge, v_lof, t_lit, t_var, t_cmp, t_cmp2, t_bin, t_idx, t_fn, t_isi, t_call, t_ge, t_slc, t_mth, t_band, t_bor, t_bnot, i_var, i_call, i_idx, i_bin, i_fn, i_tup, i_lst, i_slc, i_lce, i_ck, i_r1, i_r2, i_r3, i_en, i_zp, i_rv, a_nil, a_cons, o_none, o_some, c_none, c_some, s_nil, s_cons, x_set, x_aug, x_put, x_ex, x_ret, x_ret0, x_iff, x_whl, x_for, x_brk, x_cnt, x_pas, x_doc, b_nm, b_tup, b_lst, b_nil, b_cons, k_nil, k_none, kP, kM, kPI, kPB, kPN, kPO, kPT, kPL, kPE, kPV, kPZ, kOwn, kChk, kBin2, kBin, kNeg, kCmpB, kCmp, kChA, kCh2, kCh, kAnd2, kAnd, kOr2, kOr, kNot, kIte, kTup, kLst, kIdx2, kIdx, kSl3, kSl2, kSl, kRev, kFn, kIsi, kMth2, kMth, kMu3, kMu2, kMu1, kMu, kCa3, kCa2, kCa, kLc2, kLc, kGe2, kGe, kLof, kT, kAndT, kOrT, kNotT, kI, kCk, kR1, kR2b, kR2, kR3c, kR3b, kR3, kEn, kZp2, kZp, kRv, kA2, kA, kO, kSet, kNx, kRt, kSt, kAu2, kAu, kPu3, kPu2, kPu1, kPu, kIf, kFor, kBt, p_add, p_sub, p_mul, p_fdiv, p_mod, p_pow, p_addL, p_addT, p_mulL, q_lt, q_le, q_gt, q_ge, q_eq, q_ne, q_eqT, q_neT, q_eqL, q_neL, q_eqB, q_eqS, q_is, q_isnot, q_inL, q_niL, q_inT, q_niT, u_non, u_bl, u_int, u_lst, u_tup, d_L, d_T, n_n, n_i, n_b, n_s, n_t, n_l, l_lenL, l_lenT, l_lenS, l_abs, l_int, l_min, l_max, l_tupL, l_tupT, l_lstL, l_lstT, l_minL, l_maxL, au_add, au_sub, au_str, l_all, l_any, l_sum, l_srtL, l_srtT, w_ints, w_pures, w_bools, w_sort, w_shps, w_shpI, w_shpB, w_shpN, w_shpT, w_shpL, w_eqs, w_eqT, w_eqL, m_app, y_n_int, y_n_bool, y_n_str, y_n_tuple, y_n_list, y_b_int, y_b_bool, y_b_str, y_b_tuple, y_b_list, y_i_int, y_i_bool, y_i_str, y_i_tuple, y_i_list, y_s_int, y_s_bool, y_s_str, y_s_tuple, y_s_list, y_t_int, y_t_bool, y_t_str, y_t_tuple, y_t_list, y_l_int, y_l_bool, y_l_str, y_l_tuple, y_l_list, r_T, r_L, sl_L, sl_T, wk_L, wk_T, ix_L, lo_L, lo_T, isL_l, isI_i, isB_b, pu_i, pu_b, pu_s, pu_n, pu_t, ow_i, ow_b, ow_l, ow_t, thenS, startE, List.map_cons, List.map_nil, List.cons_append, List.nil_append, List.length_cons, List.length_nil, List.length_replicate, List.replicate, List.set_cons_zero, List.set_cons_succ, List.set_nil, Option.bind_some, Option.map_some, Option.bind_none, Option.map_none, Nat.sub_zero, Nat.reduceSub, Nat.reduceAdd, Bool.not_true, Bool.not_false, if_true, if_false, reduceIte, Bool.false_eq_true, Bool.true_and, Bool.and_true, Bool.false_and, Bool.and_false, decide_true, decide_false, List.tail_cons, List.isEmpty_cons, List.isEmpty_nil, ne_eq, not_true_eq_false, not_false_eq_true, reduceCtorEq, List.append_nil, List.singleton_append, fn14, it_T, e, hs, restE, z0, len_int, hl]
  | cons z r =>
    rw [hg] at e
    have z0 : (0 : Int) < ((r.length + 1 : Nat) : Int) := by omega
    simp only [tupI, List.map_cons] at e ⊢
    simp only [g_0, g_s, v_lit, v_var, v_mov, v_own, v_chk, v_bin, v_neg, v_cmp, v_cmp2, v_band, v_bor, v_bnot, v_ite, v_tup, v_lst, v_dct, v_idx, v_slc, v_rev, v_fn, v_isi, v_mth, v_mut, v_call, v_lc, v_ge, v_lof, t_lit, t_var, t_cmp, t_cmp2, t_bin, t_idx, t_fn, t_isi, t_call, t_ge, t_slc, t_mth, t_band, t_bor, t_bnot, i_var, i_call, i_idx, i_bin, i_fn, i_tup, i_lst, i_slc, i_lce, i_ck, i_r1, i_r2, i_r3, i_en, i_zp, i_rv, a_nil, a_cons, o_none, o_some, c_none, c_some, s_nil, s_cons, x_set, x_aug, x_put, x_ex, x_ret, x_ret0, x_iff, x_whl, x_for, x_brk, x_cnt, x_pas, x_doc, b_nm, b_tup, b_lst, b_nil, b_cons, k_nil, k_none, kP, kM, kPI, kPB, kPN, kPO, kPT, kPL, kPE, kPV, kPZ, kOwn, kChk, kBin2, kBin, kNeg, kCmpB, kCmp, kChA, kCh2, kCh, kAnd2, kAnd, kOr2, kOr, kNot, kIte, kTup, kLst, kIdx2, kIdx, kSl3, kSl2, kSl, kRev, kFn, kIsi, kMth2, kMth, kMu3, kMu2, kMu1, kMu, kCa3, kCa2, kCa, kLc2, kLc, kGe2, kGe, kLof, kT, kAndT, kOrT, kNotT, kI, kCk, kR1, kR2b, kR2, kR3c, kR3b, kR3, kEn, kZp2, kZp, kRv, kA2, kA, kO, kSet, kNx, kRt, kSt, kAu2, kAu, kPu3, kPu2, kPu1, kPu, kIf, kFor, kBt, p_add, p_sub, p_mul, p_fdiv, p_mod, p_pow, p_addL, p_addT, p_mulL, q_lt, q_le, q_gt, q_ge, q_eq, q_ne, q_eqT, q_neT, q_eqL, q_neL, q_eqB, q_eqS, q_is, q_isnot, q_inL, q_niL, q_inT, q_niT, u_non, u_bl, u_int, u_lst, u_tup, d_L, d_T, n_n, n_i, n_b, n_s, n_t, n_l, l_lenL, l_lenT, l_lenS, l_abs, l_int, l_min, l_max, l_tupL, l_tupT, l_lstL, l_lstT, l_minL, l_maxL, au_add, au_sub, au_str, l_all, l_any, l_sum, l_srtL, l_srtT, w_ints, w_pures, w_bools, w_sort, w_shps, w_shpI, w_shpB, w_shpN, w_shpT, w_shpL, w_eqs, w_eqT, w_eqL, m_app, y_n_int, y_n_bool, y_n_str, y_n_tuple, y_n_list, y_b_int, y_b_bool, y_b_str, y_b_tuple, y_b_list, y_i_int, y_i_bool, y_i_str, y_i_tuple, y_i_list, y_s_int, y_s_bool, y_s_str, y_s_tuple, y_s_list, y_t_int, y_t_bool, y_t_str, y_t_tuple, y_t_list, y_l_int, y_l_bool, y_l_str, y_l_tuple, y_l_list, r_T, r_L, sl_L, sl_T, wk_L, wk_T, ix_L, lo_L, lo_T, isL_l, isI_i, isB_b, pu_i, pu_b, pu_s, pu_n, pu_t, ow_i, ow_b, ow_l, ow_t, thenS, startE, List.map_cons, List.map_nil, List.cons_append, List.nil_append, List.length_cons, List.length_nil, List.length_replicate, List.replicate, List.set_cons_zero, List.set_cons_succ, List.set_nil, Option.bind_some, Option.map_some, Option.bind_none, Option.map_none, Nat.sub_zero, Nat.reduceSub, Nat.reduceAdd, Bool.not_true, Bool.not_false, if_true, if_false, reduceIte, Bool.false_eq_true, Bool.true_and, Bool.and_true, Bool.false_and, Bool.and_false, decide_true, decide_false, List.tail_cons, List.isEmpty_cons, List.isEmpty_nil, ne_eq, not_true_eq_false, not_false_eq_true, reduceCtorEq, List.append_nil, List.singleton_append, fn14, it_T, e, hs, restE, List.length_map, z0, ixn0, List.getElem?_cons_zero]
theorem wins_run (k : Nat) {a b : Nat} (hq : (Q (min a b) (max a b)).length ≤ 100) (h64 : a < 2 ^ 64) (hw : 200 < w) : ∃ ρ, run fsL gl w (k + 3) 3 [prD a b] = some (.bl (En (min a b) (max a b)), ρ) := by
  obtain ⟨ρ1, e1⟩ := turn_run (gl := gl) (w := w) k hq h64 hw
  have n2 : ¬ (2 : Int) = 0 := by decide
  refine ⟨[some (prD a b)], run_rt (fn := fn3) rfl rfl ?_⟩
  unfold En
  simp only [g_0, g_s, v_lit, v_var, v_mov, v_own, v_chk, v_bin, v_neg, v_cmp, v_cmp2, v_band, v_bor, v_bnot, v_ite, v_tup, v_lst, v_dct, v_idx, v_slc, v_rev, v_fn, v_isi, v_mth, v_mut, v_call, v_lc, v_ge, v_lof, t_lit, t_var, t_cmp, t_cmp2, t_bin, t_idx, t_fn, t_isi, t_call, t_ge, t_slc, t_mth, t_band, t_bor, t_bnot, i_var, i_call, i_idx, i_bin, i_fn, i_tup, i_lst, i_slc, i_lce, i_ck, i_r1, i_r2, i_r3, i_en, i_zp, i_rv, a_nil, a_cons, o_none, o_some, c_none, c_some, s_nil, s_cons, x_set, x_aug, x_put, x_ex, x_ret, x_ret0, x_iff, x_whl, x_for, x_brk, x_cnt, x_pas, x_doc, b_nm, b_tup, b_lst, b_nil, b_cons, k_nil, k_none, kP, kM, kPI, kPB, kPN, kPO, kPT, kPL, kPE, kPV, kPZ, kOwn, kChk, kBin2, kBin, kNeg, kCmpB, kCmp, kChA, kCh2, kCh, kAnd2, kAnd, kOr2, kOr, kNot, kIte, kTup, kLst, kIdx2, kIdx, kSl3, kSl2, kSl, kRev, kFn, kIsi, kMth2, kMth, kMu3, kMu2, kMu1, kMu, kCa3, kCa2, kCa, kLc2, kLc, kGe2, kGe, kLof, kT, kAndT, kOrT, kNotT, kI, kCk, kR1, kR2b, kR2, kR3c, kR3b, kR3, kEn, kZp2, kZp, kRv, kA2, kA, kO, kSet, kNx, kRt, kSt, kAu2, kAu, kPu3, kPu2, kPu1, kPu, kIf, kFor, kBt, p_add, p_sub, p_mul, p_fdiv, p_mod, p_pow, p_addL, p_addT, p_mulL, q_lt, q_le, q_gt, q_ge, q_eq, q_ne, q_eqT, q_neT, q_eqL, q_neL, q_eqB, q_eqS, q_is, q_isnot, q_inL, q_niL, q_inT, q_niT, u_non, u_bl, u_int, u_lst, u_tup, d_L, d_T, n_n, n_i, n_b, n_s, n_t, n_l, l_lenL, l_lenT, l_lenS, l_abs, l_int, l_min, l_max, l_tupL, l_tupT, l_lstL, l_lstT, l_minL, l_maxL, au_add, au_sub, au_str, l_all, l_any, l_sum, l_srtL, l_srtT, w_ints, w_pures, w_bools, w_sort, w_shps, w_shpI, w_shpB, w_shpN, w_shpT, w_shpL, w_eqs, w_eqT, w_eqL, m_app, y_n_int, y_n_bool, y_n_str, y_n_tuple, y_n_list, y_b_int, y_b_bool, y_b_str, y_b_tuple, y_b_list, y_i_int, y_i_bool, y_i_str, y_i_tuple, y_i_list, y_s_int, y_s_bool, y_s_str, y_s_tuple, y_s_list, y_t_int, y_t_bool, y_t_str, y_t_tuple, y_t_list, y_l_int, y_l_bool, y_l_str, y_l_tuple, y_l_list, r_T, r_L, sl_L, sl_T, wk_L, wk_T, ix_L, lo_L, lo_T, isL_l, isI_i, isB_b, pu_i, pu_b, pu_s, pu_n, pu_t, ow_i, ow_b, ow_l, ow_t, thenS, startE, List.map_cons, List.map_nil, List.cons_append, List.nil_append, List.length_cons, List.length_nil, List.length_replicate, List.replicate, List.set_cons_zero, List.set_cons_succ, List.set_nil, Option.bind_some, Option.map_some, Option.bind_none, Option.map_none, Nat.sub_zero, Nat.reduceSub, Nat.reduceAdd, Bool.not_true, Bool.not_false, if_true, if_false, reduceIte, Bool.false_eq_true, Bool.true_and, Bool.and_true, Bool.false_and, Bool.and_false, decide_true, decide_false, List.tail_cons, List.isEmpty_cons, List.isEmpty_nil, ne_eq, not_true_eq_false, not_false_eq_true, reduceCtorEq, List.append_nil, List.singleton_append, fn3, e1, n2]
theorem Q60 {l m : Nat} (h : l ≤ 1000000000) : (Q l m).length ≤ 100 := by
  have := Q_len 43 l m (Nat.lt_of_le_of_lt h fb43)
  omega
end
end Vi

set_option Elab.async false
set_option linter.all false
set_option maxRecDepth 100000
set_option maxHeartbeats 4000000
/-! The game of Euclid: takes and the law's table. -/
namespace Vi
open PySem L2
section
variable {gl : Nat → Option D} {w : Nat}
theorem fold_filter {α : Type} (q : α → Bool) (f : α → Int) (g : α → Option D × Option D) : ∀ (xs : List α) (s : List Int × Option D × Option D), (xs.foldl (fun s i => (if q i then s.1 ++ [f i] else s.1, g i)) s).1 = s.1 ++ (xs.filter q).map f
  | [], s => by simp
  | x :: r, s => by
    rw [List.foldl_cons, fold_filter q f g r]
    cases h : q x with
    | true => simp [h]
    | false => simp [h]
theorem lv_cast {l m i : Nat} (hl : 1 ≤ l) (hi : i < m / l) : ((m : Nat) : Int) - (1 + ((i : Nat) : Int)) * ((l : Nat) : Int) = ((lv l m i : Nat) : Int) := by
  have h1 : (1 + i) * l ≤ m := (Nat.le_div_iff_mul_le (by omega)).mp (by omega)
  have h2 : (1 + ((i : Nat) : Int)) * ((l : Nat) : Int) = (((1 + i) * l : Nat) : Int) := by rw [Int.natCast_mul]; rfl
  rw [h2]
  unfold lv
  omega
theorem tk_len (l m : Nat) (hm : m ≤ 60) : (tkE l m).length ≤ 60 := by
  unfold tkE
  rw [List.length_map]
  have := List.length_filter_le (fun i => fT l m i) (List.range (m / l))
  rw [List.length_range] at this
  have := Nat.div_le_self m l
  omega
theorem rng_s (d : Nat) (h : d ≤ 60) : rng2D (.int 1) (.int ((d + 1 : Nat) : Int)) = some (rngUp 1 d) := by
  rw [rng2_of (by decide) (by omega)]
  congr 2; omega
theorem takes_run (k : Nat) {a b : Nat} (ha : 1 ≤ a) (hb : 1 ≤ b) (ha2 : a ≤ 60) (hb2 : b ≤ 60) (hw : 200 < w) : ∃ ρ, run fsL gl w (k + 4) 4 [prD a b] = some (tupI (tkE (min a b) (max a b)), ρ) := by
  generalize hl : min a b = l
  generalize hm : max a b = m
  have hl1 : 1 ≤ l := by omega
  have hlm : l ≤ m := by omega
  have hm2 : m ≤ 60 := by omega
  have hdv := Nat.div_le_self m l
  obtain ⟨e, hlen⟩ := forL_st (F := forF (run fsL gl w (k + 3)) gl w (.nm 2) b4_0) (fun i : Nat => D.int (1 + (i : Nat))) (fun s : List Int × Option D × Option D => [some (prD a b), some (.lst (s.1.map D.int)), s.2.1, some (.int (l : Nat)), some (.int (m : Nat)), s.2.2]) (fun s i => (if fT l m i then s.1 ++ [1 + ((i : Nat) : Int)] else s.1, (some (.int (1 + (i : Nat))), some (.int (lv l m i : Nat))))) (fun j s => s.1.length ≤ j) (List.range (m / l)) 0 ([], none, none) (Nat.le_refl _) (fun i x s hx hs => by
    obtain ⟨hi, hx⟩ := List.getElem?_eq_some_iff.mp hx
    rw [List.length_range] at hi
    rw [List.getElem_range] at hx
    subst hx
    have lc := lv_cast (m := m) hl1 hi
    have o1 : mulOk (1 + ((i : Nat) : Int)) ((l : Nat) : Int) = true := mul_ok1 _ (by omega)
    have hz : s.1.length < sz := by unfold sz; omega
    have lvle : lv l m i ≤ m := by unfold lv; omega
    unfold fT
    cases q0 : (lv l m i == 0) with
    | true =>
      have q0' : (((lv l m i : Nat) : Int) == 0) = true := by rw [beq_iff_eq] at q0 ⊢; omega
      refine ⟨?_, by show (s.1 ++ [_]).length ≤ _; rw [List.length_append, List.length_singleton]; omega⟩
      simp only [g_0, g_s, v_lit, v_var, v_mov, v_own, v_chk, v_bin, v_neg, v_cmp, v_cmp2, v_band, v_bor, v_bnot, v_ite, v_tup, v_lst, v_dct, v_idx, v_slc, v_rev, v_fn, v_isi, v_mth, v_mut, v_call, v_lc, v_ge, v_lof, t_lit, t_var, t_cmp, t_cmp2, t_bin, t_idx, t_fn, t_isi, t_call, t_ge, t_slc, t_mth, t_band, t_bor, t_bnot, i_var, i_call, i_idx, i_bin, i_fn, i_tup, i_lst, i_slc, i_lce, i_ck, i_r1, i_r2, i_r3, i_en, i_zp, i_rv, a_nil, a_cons, o_none, o_some, c_none, c_some, s_nil, s_cons, x_set, x_aug, x_put, x_ex, x_ret, x_ret0, x_iff, x_whl, x_for, x_brk, x_cnt, x_pas, x_doc, b_nm, b_tup, b_lst, b_nil, b_cons, k_nil, k_none, kP, kM, kPI, kPB, kPN, kPO, kPT, kPL, kPE, kPV, kPZ, kOwn, kChk, kBin2, kBin, kNeg, kCmpB, kCmp, kChA, kCh2, kCh, kAnd2, kAnd, kOr2, kOr, kNot, kIte, kTup, kLst, kIdx2, kIdx, kSl3, kSl2, kSl, kRev, kFn, kIsi, kMth2, kMth, kMu3, kMu2, kMu1, kMu, kCa3, kCa2, kCa, kLc2, kLc, kGe2, kGe, kLof, kT, kAndT, kOrT, kNotT, kI, kCk, kR1, kR2b, kR2, kR3c, kR3b, kR3, kEn, kZp2, kZp, kRv, kA2, kA, kO, kSet, kNx, kRt, kSt, kAu2, kAu, kPu3, kPu2, kPu1, kPu, kIf, kFor, kBt, p_add, p_sub, p_mul, p_fdiv, p_mod, p_pow, p_addL, p_addT, p_mulL, q_lt, q_le, q_gt, q_ge, q_eq, q_ne, q_eqT, q_neT, q_eqL, q_neL, q_eqB, q_eqS, q_is, q_isnot, q_inL, q_niL, q_inT, q_niT, u_non, u_bl, u_int, u_lst, u_tup, d_L, d_T, n_n, n_i, n_b, n_s, n_t, n_l, l_lenL, l_lenT, l_lenS, l_abs, l_int, l_min, l_max, l_tupL, l_tupT, l_lstL, l_lstT, l_minL, l_maxL, au_add, au_sub, au_str, l_all, l_any, l_sum, l_srtL, l_srtT, w_ints, w_pures, w_bools, w_sort, w_shps, w_shpI, w_shpB, w_shpN, w_shpT, w_shpL, w_eqs, w_eqT, w_eqL, m_app, y_n_int, y_n_bool, y_n_str, y_n_tuple, y_n_list, y_b_int, y_b_bool, y_b_str, y_b_tuple, y_b_list, y_i_int, y_i_bool, y_i_str, y_i_tuple, y_i_list, y_s_int, y_s_bool, y_s_str, y_s_tuple, y_s_list, y_t_int, y_t_bool, y_t_str, y_t_tuple, y_t_list, y_l_int, y_l_bool, y_l_str, y_l_tuple, y_l_list, r_T, r_L, sl_L, sl_T, wk_L, wk_T, ix_L, lo_L, lo_T, isL_l, isI_i, isB_b, pu_i, pu_b, pu_s, pu_n, pu_t, ow_i, ow_b, ow_l, ow_t, thenS, startE, List.map_cons, List.map_nil, List.cons_append, List.nil_append, List.length_cons, List.length_nil, List.length_replicate, List.replicate, List.set_cons_zero, List.set_cons_succ, List.set_nil, Option.bind_some, Option.map_some, Option.bind_none, Option.map_none, Nat.sub_zero, Nat.reduceSub, Nat.reduceAdd, Bool.not_true, Bool.not_false, if_true, if_false, reduceIte, Bool.false_eq_true, Bool.true_and, Bool.and_true, Bool.false_and, Bool.and_false, decide_true, decide_false, List.tail_cons, List.isEmpty_cons, List.isEmpty_nil, ne_eq, not_true_eq_false, not_false_eq_true, reduceCtorEq, List.append_nil, List.singleton_append, forF, b4_0, o1, lc, q0', len_int, hz, app_int, Bool.true_or]
    | false =>
      have q0' : (((lv l m i : Nat) : Int) == 0) = false := by rw [beq_eq_false_iff_ne] at q0 ⊢; omega
      obtain ⟨ρ1, e1⟩ := wins_run (gl := gl) (w := w) k (a := lv l m i) (b := l) (Q60 (by omega)) (by omega) hw
      simp only [prD] at e1
      cases q1 : En (min (lv l m i) l) (max (lv l m i) l) with
      | true =>
        rw [q1] at e1
        refine ⟨?_, by show s.1.length ≤ _; omega⟩
        simp only [g_0, g_s, v_lit, v_var, v_mov, v_own, v_chk, v_bin, v_neg, v_cmp, v_cmp2, v_band, v_bor, v_bnot, v_ite, v_tup, v_lst, v_dct, v_idx, v_slc, v_rev, v_fn, v_isi, v_mth, v_mut, v_call, v_lc, v_ge, v_lof, t_lit, t_var, t_cmp, t_cmp2, t_bin, t_idx, t_fn, t_isi, t_call, t_ge, t_slc, t_mth, t_band, t_bor, t_bnot, i_var, i_call, i_idx, i_bin, i_fn, i_tup, i_lst, i_slc, i_lce, i_ck, i_r1, i_r2, i_r3, i_en, i_zp, i_rv, a_nil, a_cons, o_none, o_some, c_none, c_some, s_nil, s_cons, x_set, x_aug, x_put, x_ex, x_ret, x_ret0, x_iff, x_whl, x_for, x_brk, x_cnt, x_pas, x_doc, b_nm, b_tup, b_lst, b_nil, b_cons, k_nil, k_none, kP, kM, kPI, kPB, kPN, kPO, kPT, kPL, kPE, kPV, kPZ, kOwn, kChk, kBin2, kBin, kNeg, kCmpB, kCmp, kChA, kCh2, kCh, kAnd2, kAnd, kOr2, kOr, kNot, kIte, kTup, kLst, kIdx2, kIdx, kSl3, kSl2, kSl, kRev, kFn, kIsi, kMth2, kMth, kMu3, kMu2, kMu1, kMu, kCa3, kCa2, kCa, kLc2, kLc, kGe2, kGe, kLof, kT, kAndT, kOrT, kNotT, kI, kCk, kR1, kR2b, kR2, kR3c, kR3b, kR3, kEn, kZp2, kZp, kRv, kA2, kA, kO, kSet, kNx, kRt, kSt, kAu2, kAu, kPu3, kPu2, kPu1, kPu, kIf, kFor, kBt, p_add, p_sub, p_mul, p_fdiv, p_mod, p_pow, p_addL, p_addT, p_mulL, q_lt, q_le, q_gt, q_ge, q_eq, q_ne, q_eqT, q_neT, q_eqL, q_neL, q_eqB, q_eqS, q_is, q_isnot, q_inL, q_niL, q_inT, q_niT, u_non, u_bl, u_int, u_lst, u_tup, d_L, d_T, n_n, n_i, n_b, n_s, n_t, n_l, l_lenL, l_lenT, l_lenS, l_abs, l_int, l_min, l_max, l_tupL, l_tupT, l_lstL, l_lstT, l_minL, l_maxL, au_add, au_sub, au_str, l_all, l_any, l_sum, l_srtL, l_srtT, w_ints, w_pures, w_bools, w_sort, w_shps, w_shpI, w_shpB, w_shpN, w_shpT, w_shpL, w_eqs, w_eqT, w_eqL, m_app, y_n_int, y_n_bool, y_n_str, y_n_tuple, y_n_list, y_b_int, y_b_bool, y_b_str, y_b_tuple, y_b_list, y_i_int, y_i_bool, y_i_str, y_i_tuple, y_i_list, y_s_int, y_s_bool, y_s_str, y_s_tuple, y_s_list, y_t_int, y_t_bool, y_t_str, y_t_tuple, y_t_list, y_l_int, y_l_bool, y_l_str, y_l_tuple, y_l_list, r_T, r_L, sl_L, sl_T, wk_L, wk_T, ix_L, lo_L, lo_T, isL_l, isI_i, isB_b, pu_i, pu_b, pu_s, pu_n, pu_t, ow_i, ow_b, ow_l, ow_t, thenS, startE, List.map_cons, List.map_nil, List.cons_append, List.nil_append, List.length_cons, List.length_nil, List.length_replicate, List.replicate, List.set_cons_zero, List.set_cons_succ, List.set_nil, Option.bind_some, Option.map_some, Option.bind_none, Option.map_none, Nat.sub_zero, Nat.reduceSub, Nat.reduceAdd, Bool.not_true, Bool.not_false, if_true, if_false, reduceIte, Bool.false_eq_true, Bool.true_and, Bool.and_true, Bool.false_and, Bool.and_false, decide_true, decide_false, List.tail_cons, List.isEmpty_cons, List.isEmpty_nil, ne_eq, not_true_eq_false, not_false_eq_true, reduceCtorEq, List.append_nil, List.singleton_append, forF, b4_0, o1, lc, q0', e1, Bool.false_or]
      | false =>
        rw [q1] at e1
        refine ⟨?_, by show (s.1 ++ [_]).length ≤ _; rw [List.length_append, List.length_singleton]; omega⟩
        simp only [g_0, g_s, v_lit, v_var, v_mov, v_own, v_chk, v_bin, v_neg, v_cmp, v_cmp2, v_band, v_bor, v_bnot, v_ite, v_tup, v_lst, v_dct, v_idx, v_slc, v_rev, v_fn, v_isi, v_mth, v_mut, v_call, v_lc, v_ge, v_lof, t_lit, t_var, t_cmp, t_cmp2, t_bin, t_idx, t_fn, t_isi, t_call, t_ge, t_slc, t_mth, t_band, t_bor, t_bnot, i_var, i_call, i_idx, i_bin, i_fn, i_tup, i_lst, i_slc, i_lce, i_ck, i_r1, i_r2, i_r3, i_en, i_zp, i_rv, a_nil, a_cons, o_none, o_some, c_none, c_some, s_nil, s_cons, x_set, x_aug, x_put, x_ex, x_ret, x_ret0, x_iff, x_whl, x_for, x_brk, x_cnt, x_pas, x_doc, b_nm, b_tup, b_lst, b_nil, b_cons, k_nil, k_none, kP, kM, kPI, kPB, kPN, kPO, kPT, kPL, kPE, kPV, kPZ, kOwn, kChk, kBin2, kBin, kNeg, kCmpB, kCmp, kChA, kCh2, kCh, kAnd2, kAnd, kOr2, kOr, kNot, kIte, kTup, kLst, kIdx2, kIdx, kSl3, kSl2, kSl, kRev, kFn, kIsi, kMth2, kMth, kMu3, kMu2, kMu1, kMu, kCa3, kCa2, kCa, kLc2, kLc, kGe2, kGe, kLof, kT, kAndT, kOrT, kNotT, kI, kCk, kR1, kR2b, kR2, kR3c, kR3b, kR3, kEn, kZp2, kZp, kRv, kA2, kA, kO, kSet, kNx, kRt, kSt, kAu2, kAu, kPu3, kPu2, kPu1, kPu, kIf, kFor, kBt, p_add, p_sub, p_mul, p_fdiv, p_mod, p_pow, p_addL, p_addT, p_mulL, q_lt, q_le, q_gt, q_ge, q_eq, q_ne, q_eqT, q_neT, q_eqL, q_neL, q_eqB, q_eqS, q_is, q_isnot, q_inL, q_niL, q_inT, q_niT, u_non, u_bl, u_int, u_lst, u_tup, d_L, d_T, n_n, n_i, n_b, n_s, n_t, n_l, l_lenL, l_lenT, l_lenS, l_abs, l_int, l_min, l_max, l_tupL, l_tupT, l_lstL, l_lstT, l_minL, l_maxL, au_add, au_sub, au_str, l_all, l_any, l_sum, l_srtL, l_srtT, w_ints, w_pures, w_bools, w_sort, w_shps, w_shpI, w_shpB, w_shpN, w_shpT, w_shpL, w_eqs, w_eqT, w_eqL, m_app, y_n_int, y_n_bool, y_n_str, y_n_tuple, y_n_list, y_b_int, y_b_bool, y_b_str, y_b_tuple, y_b_list, y_i_int, y_i_bool, y_i_str, y_i_tuple, y_i_list, y_s_int, y_s_bool, y_s_str, y_s_tuple, y_s_list, y_t_int, y_t_bool, y_t_str, y_t_tuple, y_t_list, y_l_int, y_l_bool, y_l_str, y_l_tuple, y_l_list, r_T, r_L, sl_L, sl_T, wk_L, wk_T, ix_L, lo_L, lo_T, isL_l, isI_i, isB_b, pu_i, pu_b, pu_s, pu_n, pu_t, ow_i, ow_b, ow_l, ow_t, thenS, startE, List.map_cons, List.map_nil, List.cons_append, List.nil_append, List.length_cons, List.length_nil, List.length_replicate, List.replicate, List.set_cons_zero, List.set_cons_succ, List.set_nil, Option.bind_some, Option.map_some, Option.bind_none, Option.map_none, Nat.sub_zero, Nat.reduceSub, Nat.reduceAdd, Bool.not_true, Bool.not_false, if_true, if_false, reduceIte, Bool.false_eq_true, Bool.true_and, Bool.and_true, Bool.false_and, Bool.and_false, decide_true, decide_false, List.tail_cons, List.isEmpty_cons, List.isEmpty_nil, ne_eq, not_true_eq_false, not_false_eq_true, reduceCtorEq, List.append_nil, List.singleton_append, forF, b4_0, o1, lc, q0', e1, len_int, hz, app_int, Bool.false_or])
  rw [← rng_map] at e
  have k2 := fold_filter (fun i => fT l m i) (fun i : Nat => 1 + ((i : Nat) : Int)) (fun i => (some (D.int (1 + (i : Nat))), some (.int (lv l m i : Nat)))) (List.range (m / l)) ([], none, none)
  generalize (List.range (m / l)).foldl (fun (s : List Int × Option D × Option D) i => (if fT l m i then s.1 ++ [1 + ((i : Nat) : Int)] else s.1, (some (D.int (1 + (i : Nat))), some (.int (lv l m i : Nat))))) ([], none, none) = S at e k2
  obtain ⟨S1, S2, S3⟩ := S
  have k2 : S1 = tkE l m := k2
  subst k2
  have e : forL (forF (run fsL gl w (k + 3)) gl w (.nm 2) b4_0) (rngUp 1 (m / l)) [some (prD a b), some (.lst []), none, some (.int (l : Nat)), some (.int (m : Nat)), none] = some (.nx [some (prD a b), some (.lst ((tkE l m).map D.int)), S2, some (.int (l : Nat)), some (.int (m : Nat)), S3]) := e
  have e5 : D.pures ((tkE l m).map D.int) = true := w_pures _
  have n0 : ¬ ((l : Nat) : Int) = 0 := by omega
  have n1 : ((l : Nat) : Int).natAbs < 1073741824 := by omega
  have q1 : ((m / l : Nat) : Int) + 1 = ((m / l + 1 : Nat) : Int) := rfl
  have r1 := rng_s (m / l) (by omega)
  have s2 := sort2 a b
  rw [hl, hm] at s2
  refine ⟨_, run_rt (fn := fn4) (ρ := [some (prD a b), some (.lst ((tkE l m).map D.int)), S2, some (.int (l : Nat)), some (.int (m : Nat)), S3]) rfl rfl ?_⟩
  simp only [tupI, prD] at e ⊢
  simp only [g_0, g_s, v_lit, v_var, v_mov, v_own, v_chk, v_bin, v_neg, v_cmp, v_cmp2, v_band, v_bor, v_bnot, v_ite, v_tup, v_lst, v_dct, v_idx, v_slc, v_rev, v_fn, v_isi, v_mth, v_mut, v_call, v_lc, v_ge, v_lof, t_lit, t_var, t_cmp, t_cmp2, t_bin, t_idx, t_fn, t_isi, t_call, t_ge, t_slc, t_mth, t_band, t_bor, t_bnot, i_var, i_call, i_idx, i_bin, i_fn, i_tup, i_lst, i_slc, i_lce, i_ck, i_r1, i_r2, i_r3, i_en, i_zp, i_rv, a_nil, a_cons, o_none, o_some, c_none, c_some, s_nil, s_cons, x_set, x_aug, x_put, x_ex, x_ret, x_ret0, x_iff, x_whl, x_for, x_brk, x_cnt, x_pas, x_doc, b_nm, b_tup, b_lst, b_nil, b_cons, k_nil, k_none, kP, kM, kPI, kPB, kPN, kPO, kPT, kPL, kPE, kPV, kPZ, kOwn, kChk, kBin2, kBin, kNeg, kCmpB, kCmp, kChA, kCh2, kCh, kAnd2, kAnd, kOr2, kOr, kNot, kIte, kTup, kLst, kIdx2, kIdx, kSl3, kSl2, kSl, kRev, kFn, kIsi, kMth2, kMth, kMu3, kMu2, kMu1, kMu, kCa3, kCa2, kCa, kLc2, kLc, kGe2, kGe, kLof, kT, kAndT, kOrT, kNotT, kI, kCk, kR1, kR2b, kR2, kR3c, kR3b, kR3, kEn, kZp2, kZp, kRv, kA2, kA, kO, kSet, kNx, kRt, kSt, kAu2, kAu, kPu3, kPu2, kPu1, kPu, kIf, kFor, kBt, p_add, p_sub, p_mul, p_fdiv, p_mod, p_pow, p_addL, p_addT, p_mulL, q_lt, q_le, q_gt, q_ge, q_eq, q_ne, q_eqT, q_neT, q_eqL, q_neL, q_eqB, q_eqS, q_is, q_isnot, q_inL, q_niL, q_inT, q_niT, u_non, u_bl, u_int, u_lst, u_tup, d_L, d_T, n_n, n_i, n_b, n_s, n_t, n_l, l_lenL, l_lenT, l_lenS, l_abs, l_int, l_min, l_max, l_tupL, l_tupT, l_lstL, l_lstT, l_minL, l_maxL, au_add, au_sub, au_str, l_all, l_any, l_sum, l_srtL, l_srtT, w_ints, w_pures, w_bools, w_sort, w_shps, w_shpI, w_shpB, w_shpN, w_shpT, w_shpL, w_eqs, w_eqT, w_eqL, m_app, y_n_int, y_n_bool, y_n_str, y_n_tuple, y_n_list, y_b_int, y_b_bool, y_b_str, y_b_tuple, y_b_list, y_i_int, y_i_bool, y_i_str, y_i_tuple, y_i_list, y_s_int, y_s_bool, y_s_str, y_s_tuple, y_s_list, y_t_int, y_t_bool, y_t_str, y_t_tuple, y_t_list, y_l_int, y_l_bool, y_l_str, y_l_tuple, y_l_list, r_T, r_L, sl_L, sl_T, wk_L, wk_T, ix_L, lo_L, lo_T, isL_l, isI_i, isB_b, pu_i, pu_b, pu_s, pu_n, pu_t, ow_i, ow_b, ow_l, ow_t, thenS, startE, List.map_cons, List.map_nil, List.cons_append, List.nil_append, List.length_cons, List.length_nil, List.length_replicate, List.replicate, List.set_cons_zero, List.set_cons_succ, List.set_nil, Option.bind_some, Option.map_some, Option.bind_none, Option.map_none, Nat.sub_zero, Nat.reduceSub, Nat.reduceAdd, Bool.not_true, Bool.not_false, if_true, if_false, reduceIte, Bool.false_eq_true, Bool.true_and, Bool.and_true, Bool.false_and, Bool.and_false, decide_true, decide_false, List.tail_cons, List.isEmpty_cons, List.isEmpty_nil, ne_eq, not_true_eq_false, not_false_eq_true, reduceCtorEq, List.append_nil, List.singleton_append, fn4, s2, n0, n1, and_self, fdiv_nat, q1, r1, e, e5]
def hd : List Int → D
  | [] => .non
  | x :: _ => .int x
theorem told_run (k : Nat) {a b : Nat} (ha : 1 ≤ a) (hb : 1 ≤ b) (ha2 : a ≤ 60) (hb2 : b ≤ 60) (hw : 200 < w) : ∃ ρ, run fsL gl w (k + 5) 5 [prD a b] = some (hd (tkE (min a b) (max a b)), ρ) := by
  obtain ⟨ρ1, e1⟩ := takes_run (gl := gl) (w := w) k ha hb ha2 hb2 hw
  refine ⟨_, run_rt (fn := fn5) (ρ := [some (prD a b), some (tupI (tkE (min a b) (max a b)))]) rfl rfl ?_⟩
  simp only [tupI] at e1 ⊢
  cases hq : tkE (min a b) (max a b) with
  | nil =>
    rw [hq] at e1
    simp only [List.map_nil] at e1
    simp only [g_0, g_s, v_lit, v_var, v_mov, v_own, v_chk, v_bin, v_neg, v_cmp, v_cmp2, v_band, v_bor, v_bnot, v_ite, v_tup, v_lst, v_dct, v_idx, v_slc, v_rev, v_fn, v_isi, v_mth, v_mut, v_call, v_lc, v_ge, v_lof, t_lit, t_var, t_cmp, t_cmp2, t_bin, t_idx, t_fn, t_isi, t_call, t_ge, t_slc, t_mth, t_band, t_bor, t_bnot, i_var, i_call, i_idx, i_bin, i_fn, i_tup, i_lst, i_slc, i_lce, i_ck, i_r1, i_r2, i_r3, i_en, i_zp, i_rv, a_nil, a_cons, o_none, o_some, c_none, c_some, s_nil, s_cons, x_set, x_aug, x_put, x_ex, x_ret, x_ret0, x_iff, x_whl, x_for, x_brk, x_cnt, x_pas, x_doc, b_nm, b_tup, b_lst, b_nil, b_cons, k_nil, k_none, kP, kM, kPI, kPB, kPN, kPO, kPT, kPL, kPE, kPV, kPZ, kOwn, kChk, kBin2, kBin, kNeg, kCmpB, kCmp, kChA, kCh2, kCh, kAnd2, kAnd, kOr2, kOr, kNot, kIte, kTup, kLst, kIdx2, kIdx, kSl3, kSl2, kSl, kRev, kFn, kIsi, kMth2, kMth, kMu3, kMu2, kMu1, kMu, kCa3, kCa2, kCa, kLc2, kLc, kGe2, kGe, kLof, kT, kAndT, kOrT, kNotT, kI, kCk, kR1, kR2b, kR2, kR3c, kR3b, kR3, kEn, kZp2, kZp, kRv, kA2, kA, kO, kSet, kNx, kRt, kSt, kAu2, kAu, kPu3, kPu2, kPu1, kPu, kIf, kFor, kBt, p_add, p_sub, p_mul, p_fdiv, p_mod, p_pow, p_addL, p_addT, p_mulL, q_lt, q_le, q_gt, q_ge, q_eq, q_ne, q_eqT, q_neT, q_eqL, q_neL, q_eqB, q_eqS, q_is, q_isnot, q_inL, q_niL, q_inT, q_niT, u_non, u_bl, u_int, u_lst, u_tup, d_L, d_T, n_n, n_i, n_b, n_s, n_t, n_l, l_lenL, l_lenT, l_lenS, l_abs, l_int, l_min, l_max, l_tupL, l_tupT, l_lstL, l_lstT, l_minL, l_maxL, au_add, au_sub, au_str, l_all, l_any, l_sum, l_srtL, l_srtT, w_ints, w_pures, w_bools, w_sort, w_shps, w_shpI, w_shpB, w_shpN, w_shpT, w_shpL, w_eqs, w_eqT, w_eqL, m_app, y_n_int, y_n_bool, y_n_str, y_n_tuple, y_n_list, y_b_int, y_b_bool, y_b_str, y_b_tuple, y_b_list, y_i_int, y_i_bool, y_i_str, y_i_tuple, y_i_list, y_s_int, y_s_bool, y_s_str, y_s_tuple, y_s_list, y_t_int, y_t_bool, y_t_str, y_t_tuple, y_t_list, y_l_int, y_l_bool, y_l_str, y_l_tuple, y_l_list, r_T, r_L, sl_L, sl_T, wk_L, wk_T, ix_L, lo_L, lo_T, isL_l, isI_i, isB_b, pu_i, pu_b, pu_s, pu_n, pu_t, ow_i, ow_b, ow_l, ow_t, thenS, startE, List.map_cons, List.map_nil, List.cons_append, List.nil_append, List.length_cons, List.length_nil, List.length_replicate, List.replicate, List.set_cons_zero, List.set_cons_succ, List.set_nil, Option.bind_some, Option.map_some, Option.bind_none, Option.map_none, Nat.sub_zero, Nat.reduceSub, Nat.reduceAdd, Bool.not_true, Bool.not_false, if_true, if_false, reduceIte, Bool.false_eq_true, Bool.true_and, Bool.and_true, Bool.false_and, Bool.and_false, decide_true, decide_false, List.tail_cons, List.isEmpty_cons, List.isEmpty_nil, ne_eq, not_true_eq_false, not_false_eq_true, reduceCtorEq, List.append_nil, List.singleton_append, fn5, e1, hd]
  | cons x r =>
    rw [hq] at e1
    simp only [List.map_cons] at e1
    simp only [g_0, g_s, v_lit, v_var, v_mov, v_own, v_chk, v_bin, v_neg, v_cmp, v_cmp2, v_band, v_bor, v_bnot, v_ite, v_tup, v_lst, v_dct, v_idx, v_slc, v_rev, v_fn, v_isi, v_mth, v_mut, v_call, v_lc, v_ge, v_lof, t_lit, t_var, t_cmp, t_cmp2, t_bin, t_idx, t_fn, t_isi, t_call, t_ge, t_slc, t_mth, t_band, t_bor, t_bnot, i_var, i_call, i_idx, i_bin, i_fn, i_tup, i_lst, i_slc, i_lce, i_ck, i_r1, i_r2, i_r3, i_en, i_zp, i_rv, a_nil, a_cons, o_none, o_some, c_none, c_some, s_nil, s_cons, x_set, x_aug, x_put, x_ex, x_ret, x_ret0, x_iff, x_whl, x_for, x_brk, x_cnt, x_pas, x_doc, b_nm, b_tup, b_lst, b_nil, b_cons, k_nil, k_none, kP, kM, kPI, kPB, kPN, kPO, kPT, kPL, kPE, kPV, kPZ, kOwn, kChk, kBin2, kBin, kNeg, kCmpB, kCmp, kChA, kCh2, kCh, kAnd2, kAnd, kOr2, kOr, kNot, kIte, kTup, kLst, kIdx2, kIdx, kSl3, kSl2, kSl, kRev, kFn, kIsi, kMth2, kMth, kMu3, kMu2, kMu1, kMu, kCa3, kCa2, kCa, kLc2, kLc, kGe2, kGe, kLof, kT, kAndT, kOrT, kNotT, kI, kCk, kR1, kR2b, kR2, kR3c, kR3b, kR3, kEn, kZp2, kZp, kRv, kA2, kA, kO, kSet, kNx, kRt, kSt, kAu2, kAu, kPu3, kPu2, kPu1, kPu, kIf, kFor, kBt, p_add, p_sub, p_mul, p_fdiv, p_mod, p_pow, p_addL, p_addT, p_mulL, q_lt, q_le, q_gt, q_ge, q_eq, q_ne, q_eqT, q_neT, q_eqL, q_neL, q_eqB, q_eqS, q_is, q_isnot, q_inL, q_niL, q_inT, q_niT, u_non, u_bl, u_int, u_lst, u_tup, d_L, d_T, n_n, n_i, n_b, n_s, n_t, n_l, l_lenL, l_lenT, l_lenS, l_abs, l_int, l_min, l_max, l_tupL, l_tupT, l_lstL, l_lstT, l_minL, l_maxL, au_add, au_sub, au_str, l_all, l_any, l_sum, l_srtL, l_srtT, w_ints, w_pures, w_bools, w_sort, w_shps, w_shpI, w_shpB, w_shpN, w_shpT, w_shpL, w_eqs, w_eqT, w_eqL, m_app, y_n_int, y_n_bool, y_n_str, y_n_tuple, y_n_list, y_b_int, y_b_bool, y_b_str, y_b_tuple, y_b_list, y_i_int, y_i_bool, y_i_str, y_i_tuple, y_i_list, y_s_int, y_s_bool, y_s_str, y_s_tuple, y_s_list, y_t_int, y_t_bool, y_t_str, y_t_tuple, y_t_list, y_l_int, y_l_bool, y_l_str, y_l_tuple, y_l_list, r_T, r_L, sl_L, sl_T, wk_L, wk_T, ix_L, lo_L, lo_T, isL_l, isI_i, isB_b, pu_i, pu_b, pu_s, pu_n, pu_t, ow_i, ow_b, ow_l, ow_t, thenS, startE, List.map_cons, List.map_nil, List.cons_append, List.nil_append, List.length_cons, List.length_nil, List.length_replicate, List.replicate, List.set_cons_zero, List.set_cons_succ, List.set_nil, Option.bind_some, Option.map_some, Option.bind_none, Option.map_none, Nat.sub_zero, Nat.reduceSub, Nat.reduceAdd, Bool.not_true, Bool.not_false, if_true, if_false, reduceIte, Bool.false_eq_true, Bool.true_and, Bool.and_true, Bool.false_and, Bool.and_false, decide_true, decide_false, List.tail_cons, List.isEmpty_cons, List.isEmpty_nil, ne_eq, not_true_eq_false, not_false_eq_true, reduceCtorEq, List.append_nil, List.singleton_append, fn5, e1, hd, List.length_map, ixn0, List.getElem?_cons_zero]
/-! the table -/
abbrev PLs := List (Nat × Nat)
def kyL (P : PLs) : List D := P.map fun p => prD p.1 p.2
def vlL (P : PLs) : List D := P.map fun p => .bl (En p.1 p.2)
theorem eq_pair (a b x y : Nat) : eqD (prD a b) (prD x y) = decide (a = x ∧ b = y) := by
  show ((((a : Nat) : Int) == ((x : Nat) : Int)) && ((((b : Nat) : Int) == ((y : Nat) : Int)) && true)) = _
  by_cases h1 : a = x
  · by_cases h2 : b = y
    · subst h1 h2; simp
    · rw [decide_eq_false (fun z => h2 z.2), Bool.and_true, Bool.and_eq_false_iff]
      right; rw [beq_eq_false_iff_ne]; omega
  · rw [decide_eq_false (fun z => h1 z.1), Bool.and_true, Bool.and_eq_false_iff]
    left; rw [beq_eq_false_iff_ne]; omega
theorem find_in {x y : Nat} : ∀ P : PLs, (x, y) ∈ P → findK (prD x y) (kyL P) (vlL P) = some (.bl (En x y))
  | [], h => by cases h
  | (a, b) :: r, h => by
    show (if eqD (prD a b) (prD x y) = true then _ else _) = _
    rw [eq_pair]
    by_cases e : a = x ∧ b = y
    · rw [if_pos (decide_eq_true e), e.1, e.2]
    · rw [if_neg (by rw [decide_eq_true_iff]; exact e)]
      rcases List.mem_cons.mp h with z | z
      · cases z; exact absurd ⟨rfl, rfl⟩ e
      · exact find_in r z
theorem find_out {x y : Nat} : ∀ P : PLs, (x, y) ∉ P → findK (prD x y) (kyL P) (vlL P) = none
  | [], h => rfl
  | (a, b) :: r, h => by
    show (if eqD (prD a b) (prD x y) = true then _ else _) = _
    rw [eq_pair, if_neg (by rw [decide_eq_true_iff]; rintro ⟨rfl, rfl⟩; exact h (List.mem_cons_self ..))]
    exact find_out r fun z => h (List.mem_cons_of_mem _ z)
theorem key_for (x y : Nat) (P : PLs) : keyFor (prD x y) (kyL P) = true := by
  unfold keyFor kyL
  rw [show isKey (prD x y) = true from rfl, Bool.true_and, List.all_map, List.all_eq_true]
  intro p _; rfl
theorem v_pure (P : PLs) : D.pures (vlL P) = true := by
  induction P with
  | nil => rfl
  | cons p r ih => show (true && D.pures (vlL r)) = true; rw [ih]; rfl
theorem ltakes_run (k : Nat) {P : PLs} {a b : Nat} (ha : 1 ≤ a) (hb : 1 ≤ b) (ha2 : a ≤ 60) (hb2 : b ≤ 60) (hP : ∀ x y, 1 ≤ x → x ≤ y → y < max a b → (x, y) ∈ P) : ∃ ρ, run fsL gl w (k + 1) 12 [.dct (kyL P) (vlL P), prD a b] = some (tupI (tkE (min a b) (max a b)), ρ) := by
  have s2 := sort2 a b
  generalize hl : min a b = l at s2
  generalize hm : max a b = m at s2 hP
  have hl1 : 1 ≤ l := by omega
  have hlm : l ≤ m := by omega
  have hm2 : m ≤ 60 := by omega
  have hdv := Nat.div_le_self m l
  obtain ⟨e, hlen⟩ := forL_st (F := forF (run fsL gl w k) gl w (.nm 3) b12_0) (fun i : Nat => D.int (1 + (i : Nat))) (fun s : List Int × Option D × Option D => [some (.dct (kyL P) (vlL P)), some (prD a b), some (.lst (s.1.map D.int)), s.2.1, some (.int (l : Nat)), some (.int (m : Nat)), s.2.2]) (fun s i => (if fT l m i then s.1 ++ [1 + ((i : Nat) : Int)] else s.1, (some (.int (1 + (i : Nat))), some (.int (lv l m i : Nat))))) (fun j s => s.1.length ≤ j) (List.range (m / l)) 0 ([], none, none) (Nat.le_refl _) (fun i x s hx hs => by
    obtain ⟨hi, hx⟩ := List.getElem?_eq_some_iff.mp hx
    rw [List.length_range] at hi
    rw [List.getElem_range] at hx
    subst hx
    have lc := lv_cast (m := m) hl1 hi
    have o1 : mulOk (1 + ((i : Nat) : Int)) ((l : Nat) : Int) = true := mul_ok1 _ (by omega)
    have hz : s.1.length < sz := by unfold sz; omega
    have h1l : l ≤ (1 + i) * l := Nat.le_mul_of_pos_left l (by omega)
    have lvlt : lv l m i ≠ 0 → lv l m i < m ∧ l < m := fun h => by unfold lv at h ⊢; omega
    unfold fT
    cases q0 : (lv l m i == 0) with
    | true =>
      have q0' : (((lv l m i : Nat) : Int) == 0) = true := by rw [beq_iff_eq] at q0 ⊢; omega
      refine ⟨?_, by show (s.1 ++ [_]).length ≤ _; rw [List.length_append, List.length_singleton]; omega⟩
      simp only [g_0, g_s, v_lit, v_var, v_mov, v_own, v_chk, v_bin, v_neg, v_cmp, v_cmp2, v_band, v_bor, v_bnot, v_ite, v_tup, v_lst, v_dct, v_idx, v_slc, v_rev, v_fn, v_isi, v_mth, v_mut, v_call, v_lc, v_ge, v_lof, t_lit, t_var, t_cmp, t_cmp2, t_bin, t_idx, t_fn, t_isi, t_call, t_ge, t_slc, t_mth, t_band, t_bor, t_bnot, i_var, i_call, i_idx, i_bin, i_fn, i_tup, i_lst, i_slc, i_lce, i_ck, i_r1, i_r2, i_r3, i_en, i_zp, i_rv, a_nil, a_cons, o_none, o_some, c_none, c_some, s_nil, s_cons, x_set, x_aug, x_put, x_ex, x_ret, x_ret0, x_iff, x_whl, x_for, x_brk, x_cnt, x_pas, x_doc, b_nm, b_tup, b_lst, b_nil, b_cons, k_nil, k_none, kP, kM, kPI, kPB, kPN, kPO, kPT, kPL, kPE, kPV, kPZ, kOwn, kChk, kBin2, kBin, kNeg, kCmpB, kCmp, kChA, kCh2, kCh, kAnd2, kAnd, kOr2, kOr, kNot, kIte, kTup, kLst, kIdx2, kIdx, kSl3, kSl2, kSl, kRev, kFn, kIsi, kMth2, kMth, kMu3, kMu2, kMu1, kMu, kCa3, kCa2, kCa, kLc2, kLc, kGe2, kGe, kLof, kT, kAndT, kOrT, kNotT, kI, kCk, kR1, kR2b, kR2, kR3c, kR3b, kR3, kEn, kZp2, kZp, kRv, kA2, kA, kO, kSet, kNx, kRt, kSt, kAu2, kAu, kPu3, kPu2, kPu1, kPu, kIf, kFor, kBt, p_add, p_sub, p_mul, p_fdiv, p_mod, p_pow, p_addL, p_addT, p_mulL, q_lt, q_le, q_gt, q_ge, q_eq, q_ne, q_eqT, q_neT, q_eqL, q_neL, q_eqB, q_eqS, q_is, q_isnot, q_inL, q_niL, q_inT, q_niT, u_non, u_bl, u_int, u_lst, u_tup, d_L, d_T, n_n, n_i, n_b, n_s, n_t, n_l, l_lenL, l_lenT, l_lenS, l_abs, l_int, l_min, l_max, l_tupL, l_tupT, l_lstL, l_lstT, l_minL, l_maxL, au_add, au_sub, au_str, l_all, l_any, l_sum, l_srtL, l_srtT, w_ints, w_pures, w_bools, w_sort, w_shps, w_shpI, w_shpB, w_shpN, w_shpT, w_shpL, w_eqs, w_eqT, w_eqL, m_app, y_n_int, y_n_bool, y_n_str, y_n_tuple, y_n_list, y_b_int, y_b_bool, y_b_str, y_b_tuple, y_b_list, y_i_int, y_i_bool, y_i_str, y_i_tuple, y_i_list, y_s_int, y_s_bool, y_s_str, y_s_tuple, y_s_list, y_t_int, y_t_bool, y_t_str, y_t_tuple, y_t_list, y_l_int, y_l_bool, y_l_str, y_l_tuple, y_l_list, r_T, r_L, sl_L, sl_T, wk_L, wk_T, ix_L, lo_L, lo_T, isL_l, isI_i, isB_b, pu_i, pu_b, pu_s, pu_n, pu_t, ow_i, ow_b, ow_l, ow_t, thenS, startE, List.map_cons, List.map_nil, List.cons_append, List.nil_append, List.length_cons, List.length_nil, List.length_replicate, List.replicate, List.set_cons_zero, List.set_cons_succ, List.set_nil, Option.bind_some, Option.map_some, Option.bind_none, Option.map_none, Nat.sub_zero, Nat.reduceSub, Nat.reduceAdd, Bool.not_true, Bool.not_false, if_true, if_false, reduceIte, Bool.false_eq_true, Bool.true_and, Bool.and_true, Bool.false_and, Bool.and_false, decide_true, decide_false, List.tail_cons, List.isEmpty_cons, List.isEmpty_nil, ne_eq, not_true_eq_false, not_false_eq_true, reduceCtorEq, List.append_nil, List.singleton_append, forF, b12_0, o1, lc, q0', len_int, hz, app_int, Bool.true_or]
    | false =>
      have q0' : (((lv l m i : Nat) : Int) == 0) = false := by rw [beq_eq_false_iff_ne] at q0 ⊢; omega
      rw [beq_eq_false_iff_ne] at q0
      obtain ⟨c1, c2⟩ := lvlt q0
      generalize hv : lv l m i = v at *
      have mi : (if ((l : Nat) : Int) < ((v : Nat) : Int) then ((l : Nat) : Int) else ((v : Nat) : Int)) = ((min v l : Nat) : Int) := by split <;> omega
      have ma : (if ((l : Nat) : Int) > ((v : Nat) : Int) then ((l : Nat) : Int) else ((v : Nat) : Int)) = ((max v l : Nat) : Int) := by split <;> omega
      have fi := find_in P (hP (min v l) (max v l) (by omega) (by omega) (by omega))
      have kf := key_for (min v l) (max v l) P
      have ix : idxD (.dct (kyL P) (vlL P)) (.tup [.int ((min v l : Nat) : Int), .int ((max v l : Nat) : Int)]) = some (.bl (En (min v l) (max v l))) := by
        show (if keyFor (prD (min v l) (max v l)) (kyL P) = true then findK (prD (min v l) (max v l)) (kyL P) (vlL P) else none) = _
        rw [if_pos kf, fi]
      cases q1 : En (min v l) (max v l) with
      | true =>
        rw [q1] at ix
        refine ⟨?_, by show s.1.length ≤ _; omega⟩
        simp only [g_0, g_s, v_lit, v_var, v_mov, v_own, v_chk, v_bin, v_neg, v_cmp, v_cmp2, v_band, v_bor, v_bnot, v_ite, v_tup, v_lst, v_dct, v_idx, v_slc, v_rev, v_fn, v_isi, v_mth, v_mut, v_call, v_lc, v_ge, v_lof, t_lit, t_var, t_cmp, t_cmp2, t_bin, t_idx, t_fn, t_isi, t_call, t_ge, t_slc, t_mth, t_band, t_bor, t_bnot, i_var, i_call, i_idx, i_bin, i_fn, i_tup, i_lst, i_slc, i_lce, i_ck, i_r1, i_r2, i_r3, i_en, i_zp, i_rv, a_nil, a_cons, o_none, o_some, c_none, c_some, s_nil, s_cons, x_set, x_aug, x_put, x_ex, x_ret, x_ret0, x_iff, x_whl, x_for, x_brk, x_cnt, x_pas, x_doc, b_nm, b_tup, b_lst, b_nil, b_cons, k_nil, k_none, kP, kM, kPI, kPB, kPN, kPO, kPT, kPL, kPE, kPV, kPZ, kOwn, kChk, kBin2, kBin, kNeg, kCmpB, kCmp, kChA, kCh2, kCh, kAnd2, kAnd, kOr2, kOr, kNot, kIte, kTup, kLst, kIdx2, kIdx, kSl3, kSl2, kSl, kRev, kFn, kIsi, kMth2, kMth, kMu3, kMu2, kMu1, kMu, kCa3, kCa2, kCa, kLc2, kLc, kGe2, kGe, kLof, kT, kAndT, kOrT, kNotT, kI, kCk, kR1, kR2b, kR2, kR3c, kR3b, kR3, kEn, kZp2, kZp, kRv, kA2, kA, kO, kSet, kNx, kRt, kSt, kAu2, kAu, kPu3, kPu2, kPu1, kPu, kIf, kFor, kBt, p_add, p_sub, p_mul, p_fdiv, p_mod, p_pow, p_addL, p_addT, p_mulL, q_lt, q_le, q_gt, q_ge, q_eq, q_ne, q_eqT, q_neT, q_eqL, q_neL, q_eqB, q_eqS, q_is, q_isnot, q_inL, q_niL, q_inT, q_niT, u_non, u_bl, u_int, u_lst, u_tup, d_L, d_T, n_n, n_i, n_b, n_s, n_t, n_l, l_lenL, l_lenT, l_lenS, l_abs, l_int, l_min, l_max, l_tupL, l_tupT, l_lstL, l_lstT, l_minL, l_maxL, au_add, au_sub, au_str, l_all, l_any, l_sum, l_srtL, l_srtT, w_ints, w_pures, w_bools, w_sort, w_shps, w_shpI, w_shpB, w_shpN, w_shpT, w_shpL, w_eqs, w_eqT, w_eqL, m_app, y_n_int, y_n_bool, y_n_str, y_n_tuple, y_n_list, y_b_int, y_b_bool, y_b_str, y_b_tuple, y_b_list, y_i_int, y_i_bool, y_i_str, y_i_tuple, y_i_list, y_s_int, y_s_bool, y_s_str, y_s_tuple, y_s_list, y_t_int, y_t_bool, y_t_str, y_t_tuple, y_t_list, y_l_int, y_l_bool, y_l_str, y_l_tuple, y_l_list, r_T, r_L, sl_L, sl_T, wk_L, wk_T, ix_L, lo_L, lo_T, isL_l, isI_i, isB_b, pu_i, pu_b, pu_s, pu_n, pu_t, ow_i, ow_b, ow_l, ow_t, thenS, startE, List.map_cons, List.map_nil, List.cons_append, List.nil_append, List.length_cons, List.length_nil, List.length_replicate, List.replicate, List.set_cons_zero, List.set_cons_succ, List.set_nil, Option.bind_some, Option.map_some, Option.bind_none, Option.map_none, Nat.sub_zero, Nat.reduceSub, Nat.reduceAdd, Bool.not_true, Bool.not_false, if_true, if_false, reduceIte, Bool.false_eq_true, Bool.true_and, Bool.and_true, Bool.false_and, Bool.and_false, decide_true, decide_false, List.tail_cons, List.isEmpty_cons, List.isEmpty_nil, ne_eq, not_true_eq_false, not_false_eq_true, reduceCtorEq, List.append_nil, List.singleton_append, forF, b12_0, o1, lc, q0', mi, ma, ix, Bool.false_or]
      | false =>
        rw [q1] at ix
        refine ⟨?_, by show (s.1 ++ [_]).length ≤ _; rw [List.length_append, List.length_singleton]; omega⟩
        simp only [g_0, g_s, v_lit, v_var, v_mov, v_own, v_chk, v_bin, v_neg, v_cmp, v_cmp2, v_band, v_bor, v_bnot, v_ite, v_tup, v_lst, v_dct, v_idx, v_slc, v_rev, v_fn, v_isi, v_mth, v_mut, v_call, v_lc, v_ge, v_lof, t_lit, t_var, t_cmp, t_cmp2, t_bin, t_idx, t_fn, t_isi, t_call, t_ge, t_slc, t_mth, t_band, t_bor, t_bnot, i_var, i_call, i_idx, i_bin, i_fn, i_tup, i_lst, i_slc, i_lce, i_ck, i_r1, i_r2, i_r3, i_en, i_zp, i_rv, a_nil, a_cons, o_none, o_some, c_none, c_some, s_nil, s_cons, x_set, x_aug, x_put, x_ex, x_ret, x_ret0, x_iff, x_whl, x_for, x_brk, x_cnt, x_pas, x_doc, b_nm, b_tup, b_lst, b_nil, b_cons, k_nil, k_none, kP, kM, kPI, kPB, kPN, kPO, kPT, kPL, kPE, kPV, kPZ, kOwn, kChk, kBin2, kBin, kNeg, kCmpB, kCmp, kChA, kCh2, kCh, kAnd2, kAnd, kOr2, kOr, kNot, kIte, kTup, kLst, kIdx2, kIdx, kSl3, kSl2, kSl, kRev, kFn, kIsi, kMth2, kMth, kMu3, kMu2, kMu1, kMu, kCa3, kCa2, kCa, kLc2, kLc, kGe2, kGe, kLof, kT, kAndT, kOrT, kNotT, kI, kCk, kR1, kR2b, kR2, kR3c, kR3b, kR3, kEn, kZp2, kZp, kRv, kA2, kA, kO, kSet, kNx, kRt, kSt, kAu2, kAu, kPu3, kPu2, kPu1, kPu, kIf, kFor, kBt, p_add, p_sub, p_mul, p_fdiv, p_mod, p_pow, p_addL, p_addT, p_mulL, q_lt, q_le, q_gt, q_ge, q_eq, q_ne, q_eqT, q_neT, q_eqL, q_neL, q_eqB, q_eqS, q_is, q_isnot, q_inL, q_niL, q_inT, q_niT, u_non, u_bl, u_int, u_lst, u_tup, d_L, d_T, n_n, n_i, n_b, n_s, n_t, n_l, l_lenL, l_lenT, l_lenS, l_abs, l_int, l_min, l_max, l_tupL, l_tupT, l_lstL, l_lstT, l_minL, l_maxL, au_add, au_sub, au_str, l_all, l_any, l_sum, l_srtL, l_srtT, w_ints, w_pures, w_bools, w_sort, w_shps, w_shpI, w_shpB, w_shpN, w_shpT, w_shpL, w_eqs, w_eqT, w_eqL, m_app, y_n_int, y_n_bool, y_n_str, y_n_tuple, y_n_list, y_b_int, y_b_bool, y_b_str, y_b_tuple, y_b_list, y_i_int, y_i_bool, y_i_str, y_i_tuple, y_i_list, y_s_int, y_s_bool, y_s_str, y_s_tuple, y_s_list, y_t_int, y_t_bool, y_t_str, y_t_tuple, y_t_list, y_l_int, y_l_bool, y_l_str, y_l_tuple, y_l_list, r_T, r_L, sl_L, sl_T, wk_L, wk_T, ix_L, lo_L, lo_T, isL_l, isI_i, isB_b, pu_i, pu_b, pu_s, pu_n, pu_t, ow_i, ow_b, ow_l, ow_t, thenS, startE, List.map_cons, List.map_nil, List.cons_append, List.nil_append, List.length_cons, List.length_nil, List.length_replicate, List.replicate, List.set_cons_zero, List.set_cons_succ, List.set_nil, Option.bind_some, Option.map_some, Option.bind_none, Option.map_none, Nat.sub_zero, Nat.reduceSub, Nat.reduceAdd, Bool.not_true, Bool.not_false, if_true, if_false, reduceIte, Bool.false_eq_true, Bool.true_and, Bool.and_true, Bool.false_and, Bool.and_false, decide_true, decide_false, List.tail_cons, List.isEmpty_cons, List.isEmpty_nil, ne_eq, not_true_eq_false, not_false_eq_true, reduceCtorEq, List.append_nil, List.singleton_append, forF, b12_0, o1, lc, q0', mi, ma, ix, len_int, hz, app_int, Bool.false_or])
  rw [← rng_map] at e
  have k2 := fold_filter (fun i => fT l m i) (fun i : Nat => 1 + ((i : Nat) : Int)) (fun i => (some (D.int (1 + (i : Nat))), some (.int (lv l m i : Nat)))) (List.range (m / l)) ([], none, none)
  generalize (List.range (m / l)).foldl (fun (s : List Int × Option D × Option D) i => (if fT l m i then s.1 ++ [1 + ((i : Nat) : Int)] else s.1, (some (D.int (1 + (i : Nat))), some (.int (lv l m i : Nat))))) ([], none, none) = S at e k2
  obtain ⟨S1, S2, S3⟩ := S
  have k2 : S1 = tkE l m := k2
  subst k2
  have e : forL (forF (run fsL gl w k) gl w (.nm 3) b12_0) (rngUp 1 (m / l)) [some (.dct (kyL P) (vlL P)), some (prD a b), some (.lst []), none, some (.int (l : Nat)), some (.int (m : Nat)), none] = some (.nx [some (.dct (kyL P) (vlL P)), some (prD a b), some (.lst ((tkE l m).map D.int)), S2, some (.int (l : Nat)), some (.int (m : Nat)), S3]) := e
  have e5 : D.pures ((tkE l m).map D.int) = true := w_pures _
  have n0 : ¬ ((l : Nat) : Int) = 0 := by omega
  have n1 : ((l : Nat) : Int).natAbs < 1073741824 := by omega
  have q1 : ((m / l : Nat) : Int) + 1 = ((m / l + 1 : Nat) : Int) := rfl
  have r1 := rng_s (m / l) (by omega)
  refine ⟨_, run_rt (fn := fn12) (ρ := [some (.dct (kyL P) (vlL P)), some (prD a b), some (.lst ((tkE l m).map D.int)), S2, some (.int (l : Nat)), some (.int (m : Nat)), S3]) rfl rfl ?_⟩
  simp only [tupI, prD] at e ⊢
  simp only [g_0, g_s, v_lit, v_var, v_mov, v_own, v_chk, v_bin, v_neg, v_cmp, v_cmp2, v_band, v_bor, v_bnot, v_ite, v_tup, v_lst, v_dct, v_idx, v_slc, v_rev, v_fn, v_isi, v_mth, v_mut, v_call, v_lc, v_ge, v_lof, t_lit, t_var, t_cmp, t_cmp2, t_bin, t_idx, t_fn, t_isi, t_call, t_ge, t_slc, t_mth, t_band, t_bor, t_bnot, i_var, i_call, i_idx, i_bin, i_fn, i_tup, i_lst, i_slc, i_lce, i_ck, i_r1, i_r2, i_r3, i_en, i_zp, i_rv, a_nil, a_cons, o_none, o_some, c_none, c_some, s_nil, s_cons, x_set, x_aug, x_put, x_ex, x_ret, x_ret0, x_iff, x_whl, x_for, x_brk, x_cnt, x_pas, x_doc, b_nm, b_tup, b_lst, b_nil, b_cons, k_nil, k_none, kP, kM, kPI, kPB, kPN, kPO, kPT, kPL, kPE, kPV, kPZ, kOwn, kChk, kBin2, kBin, kNeg, kCmpB, kCmp, kChA, kCh2, kCh, kAnd2, kAnd, kOr2, kOr, kNot, kIte, kTup, kLst, kIdx2, kIdx, kSl3, kSl2, kSl, kRev, kFn, kIsi, kMth2, kMth, kMu3, kMu2, kMu1, kMu, kCa3, kCa2, kCa, kLc2, kLc, kGe2, kGe, kLof, kT, kAndT, kOrT, kNotT, kI, kCk, kR1, kR2b, kR2, kR3c, kR3b, kR3, kEn, kZp2, kZp, kRv, kA2, kA, kO, kSet, kNx, kRt, kSt, kAu2, kAu, kPu3, kPu2, kPu1, kPu, kIf, kFor, kBt, p_add, p_sub, p_mul, p_fdiv, p_mod, p_pow, p_addL, p_addT, p_mulL, q_lt, q_le, q_gt, q_ge, q_eq, q_ne, q_eqT, q_neT, q_eqL, q_neL, q_eqB, q_eqS, q_is, q_isnot, q_inL, q_niL, q_inT, q_niT, u_non, u_bl, u_int, u_lst, u_tup, d_L, d_T, n_n, n_i, n_b, n_s, n_t, n_l, l_lenL, l_lenT, l_lenS, l_abs, l_int, l_min, l_max, l_tupL, l_tupT, l_lstL, l_lstT, l_minL, l_maxL, au_add, au_sub, au_str, l_all, l_any, l_sum, l_srtL, l_srtT, w_ints, w_pures, w_bools, w_sort, w_shps, w_shpI, w_shpB, w_shpN, w_shpT, w_shpL, w_eqs, w_eqT, w_eqL, m_app, y_n_int, y_n_bool, y_n_str, y_n_tuple, y_n_list, y_b_int, y_b_bool, y_b_str, y_b_tuple, y_b_list, y_i_int, y_i_bool, y_i_str, y_i_tuple, y_i_list, y_s_int, y_s_bool, y_s_str, y_s_tuple, y_s_list, y_t_int, y_t_bool, y_t_str, y_t_tuple, y_t_list, y_l_int, y_l_bool, y_l_str, y_l_tuple, y_l_list, r_T, r_L, sl_L, sl_T, wk_L, wk_T, ix_L, lo_L, lo_T, isL_l, isI_i, isB_b, pu_i, pu_b, pu_s, pu_n, pu_t, ow_i, ow_b, ow_l, ow_t, thenS, startE, List.map_cons, List.map_nil, List.cons_append, List.nil_append, List.length_cons, List.length_nil, List.length_replicate, List.replicate, List.set_cons_zero, List.set_cons_succ, List.set_nil, Option.bind_some, Option.map_some, Option.bind_none, Option.map_none, Nat.sub_zero, Nat.reduceSub, Nat.reduceAdd, Bool.not_true, Bool.not_false, if_true, if_false, reduceIte, Bool.false_eq_true, Bool.true_and, Bool.and_true, Bool.false_and, Bool.and_false, decide_true, decide_false, List.tail_cons, List.isEmpty_cons, List.isEmpty_nil, ne_eq, not_true_eq_false, not_false_eq_true, reduceCtorEq, List.append_nil, List.singleton_append, fn12, s2, n0, n1, and_self, fdiv_nat, q1, r1, e, e5]
def row (M L : Nat) : PLs := (List.range L).map fun j => (j + 1, M + 1)
def rows : Nat → PLs
  | 0 => []
  | M + 1 => rows M ++ row M (M + 1)
theorem row_mem {M L x y : Nat} : (x, y) ∈ row M L ↔ 1 ≤ x ∧ x ≤ L ∧ y = M + 1 := by
  unfold row
  rw [List.mem_map]
  constructor
  · rintro ⟨j, hj, e⟩
    rw [List.mem_range] at hj
    cases e
    exact ⟨by omega, by omega, rfl⟩
  · rintro ⟨h1, h2, rfl⟩
    exact ⟨x - 1, List.mem_range.mpr (by omega), by rw [show x - 1 + 1 = x by omega]⟩
theorem rows_mem {x y : Nat} : ∀ M, (x, y) ∈ rows M ↔ 1 ≤ x ∧ x ≤ y ∧ y ≤ M
  | 0 => ⟨(fun h => nomatch h), (fun h => absurd h.2.2 (by omega))⟩
  | M + 1 => by
    show (x, y) ∈ rows M ++ row M (M + 1) ↔ _
    rw [List.mem_append, rows_mem M, row_mem]
    omega
theorem rows_len : ∀ M, M ≤ 60 → (rows M).length ≤ 60 * M
  | 0, _ => Nat.le_refl _
  | M + 1, h => by
    show (rows M ++ row M (M + 1)).length ≤ _
    rw [List.length_append]
    have := rows_len M (by omega)
    have : (row M (M + 1)).length = M + 1 := by unfold row; rw [List.length_map, List.length_range]
    omega
theorem k_app (P R : PLs) : kyL P ++ kyL R = kyL (P ++ R) := by unfold kyL; rw [List.map_append]
theorem v_app (P R : PLs) : vlL P ++ vlL R = vlL (P ++ R) := by unfold vlL; rw [List.map_append]
theorem row_succ (M L : Nat) : row M L ++ [(L + 1, M + 1)] = row M (L + 1) := by unfold row; rw [List.range_succ, List.map_append]; rfl
theorem lwins_gen (k N : Nat) (hN : N ≤ 60) : ∃ ρ, run fsL gl w (k + 2) 11 [.int (N : Nat)] = some (.dct (kyL (rows N)) (vlL (rows N)), ρ) := by
  obtain ⟨ρ', e, x, y, rfl⟩ := forL_inv (f := forF (run fsL gl w (k + 1)) gl w (.nm 2) b11_1) (xs := rngUp 1 N) (fun M ρ => ∃ x y, ρ = [some (.int (N : Nat)), some (.dct (kyL (rows M)) (vlL (rows M))), x, y]) (ρ0 := [some (.int (N : Nat)), some (.dct [] []), none, none]) ⟨none, none, rfl⟩ (fun M x ρ hx hP => by
    obtain ⟨x', y', rfl⟩ := hP
    obtain ⟨rfl, hM⟩ := rng_get 1 hx
    rw [show (1 : Int) + ((M : Nat) : Int) = ((M + 1 : Nat) : Int) by omega]
    obtain ⟨ρ', e, z, rfl⟩ := forL_inv (f := forF (run fsL gl w (k + 1)) gl w (.nm 3) b11_0) (xs := rngUp 1 (M + 1)) (fun L ρ => ∃ z, ρ = [some (.int (N : Nat)), some (.dct (kyL (rows M ++ row M L)) (vlL (rows M ++ row M L))), some (.int ((M + 1 : Nat) : Int)), z]) (ρ0 := [some (.int (N : Nat)), some (.dct (kyL (rows M)) (vlL (rows M))), some (.int ((M + 1 : Nat) : Int)), y']) ⟨y', by rw [show row M 0 = [] from rfl, List.append_nil]⟩ (fun L x ρ hx hP => by
      obtain ⟨z, rfl⟩ := hP
      obtain ⟨rfl, hL⟩ := rng_get 1 hx
      rw [show (1 : Int) + ((L : Nat) : Int) = ((L + 1 : Nat) : Int) by omega]
      have hmn : min (L + 1) (M + 1) = L + 1 := by omega
      have hmx : max (L + 1) (M + 1) = M + 1 := by omega
      obtain ⟨ρ1, e1⟩ := ltakes_run (gl := gl) (w := w) k (P := rows M ++ row M L) (a := L + 1) (b := M + 1) (by omega) (by omega) (by omega) (by omega) (fun x y h1 h2 h3 => List.mem_append_left _ ((rows_mem M).mpr ⟨h1, h2, by omega⟩))
      rw [hmn, hmx] at e1
      have ctk := eq_of_beq (allP_of c_tk (l := L + 1) (m := M + 1) (by omega) (by omega) (by omega))
      have hgt : decide ((0 : Int) < (((tkE (L + 1) (M + 1)).length : Nat) : Int)) = En (L + 1) (M + 1) := by
        rw [ctk]
        cases tkE (L + 1) (M + 1) with
        | nil => rfl
        | cons x r => exact decide_eq_true (by rw [List.length_cons]; omega)
      have hno : (L + 1, M + 1) ∉ rows M ++ row M L := fun z => by
        rcases List.mem_append.mp z with z | z
        · have := (rows_mem M).mp z; omega
        · have := row_mem.mp z; omega
      have hln : (kyL (rows M ++ row M L)).length < sz := by
        unfold kyL
        rw [List.length_map, List.length_append]
        have := rows_len M (by omega)
        have : (row M L).length = L := by unfold row; rw [List.length_map, List.length_range]
        unfold sz; omega
      have pt : putAt (.dct (kyL (rows M ++ row M L)) (vlL (rows M ++ row M L))) (.tup [.int ((L + 1 : Nat) : Int), .int ((M + 1 : Nat) : Int)]) (.bl (En (L + 1) (M + 1))) = some (.dct (kyL (rows M ++ row M (L + 1))) (vlL (rows M ++ row M (L + 1)))) := by
        show (if (keyFor (prD (L + 1) (M + 1)) (kyL (rows M ++ row M L)) && decide ((kyL (rows M ++ row M L)).length < sz) && (D.bl (En (L + 1) (M + 1))).pure && D.pures (vlL (rows M ++ row M L))) = true then some (putD (prD (L + 1) (M + 1)) (.bl (En (L + 1) (M + 1))) (kyL (rows M ++ row M L)) (vlL (rows M ++ row M L))) else none) = _
        rw [key_for, decide_eq_true hln, v_pure]
        show some (putD _ _ _ _) = _
        unfold putD
        rw [find_out _ hno]
        show some (D.dct (kyL (rows M ++ row M L) ++ kyL [(L + 1, M + 1)]) (vlL (rows M ++ row M L) ++ vlL [(L + 1, M + 1)])) = _
        rw [k_app, v_app, List.append_assoc, row_succ]
      refine ⟨[some (.int (N : Nat)), some (.dct (kyL (rows M ++ row M (L + 1))) (vlL (rows M ++ row M (L + 1)))), some (.int ((M + 1 : Nat) : Int)), some (.int ((L + 1 : Nat) : Int))], .inl ?_, _, rfl⟩
      simp only [prD, tupI] at e1
      simp only [g_0, g_s, v_lit, v_var, v_mov, v_own, v_chk, v_bin, v_neg, v_cmp, v_cmp2, v_band, v_bor, v_bnot, v_ite, v_tup, v_lst, v_dct, v_idx, v_slc, v_rev, v_fn, v_isi, v_mth, v_mut, v_call, v_lc, v_ge, v_lof, t_lit, t_var, t_cmp, t_cmp2, t_bin, t_idx, t_fn, t_isi, t_call, t_ge, t_slc, t_mth, t_band, t_bor, t_bnot, i_var, i_call, i_idx, i_bin, i_fn, i_tup, i_lst, i_slc, i_lce, i_ck, i_r1, i_r2, i_r3, i_en, i_zp, i_rv, a_nil, a_cons, o_none, o_some, c_none, c_some, s_nil, s_cons, x_set, x_aug, x_put, x_ex, x_ret, x_ret0, x_iff, x_whl, x_for, x_brk, x_cnt, x_pas, x_doc, b_nm, b_tup, b_lst, b_nil, b_cons, k_nil, k_none, kP, kM, kPI, kPB, kPN, kPO, kPT, kPL, kPE, kPV, kPZ, kOwn, kChk, kBin2, kBin, kNeg, kCmpB, kCmp, kChA, kCh2, kCh, kAnd2, kAnd, kOr2, kOr, kNot, kIte, kTup, kLst, kIdx2, kIdx, kSl3, kSl2, kSl, kRev, kFn, kIsi, kMth2, kMth, kMu3, kMu2, kMu1, kMu, kCa3, kCa2, kCa, kLc2, kLc, kGe2, kGe, kLof, kT, kAndT, kOrT, kNotT, kI, kCk, kR1, kR2b, kR2, kR3c, kR3b, kR3, kEn, kZp2, kZp, kRv, kA2, kA, kO, kSet, kNx, kRt, kSt, kAu2, kAu, kPu3, kPu2, kPu1, kPu, kIf, kFor, kBt, p_add, p_sub, p_mul, p_fdiv, p_mod, p_pow, p_addL, p_addT, p_mulL, q_lt, q_le, q_gt, q_ge, q_eq, q_ne, q_eqT, q_neT, q_eqL, q_neL, q_eqB, q_eqS, q_is, q_isnot, q_inL, q_niL, q_inT, q_niT, u_non, u_bl, u_int, u_lst, u_tup, d_L, d_T, n_n, n_i, n_b, n_s, n_t, n_l, l_lenL, l_lenT, l_lenS, l_abs, l_int, l_min, l_max, l_tupL, l_tupT, l_lstL, l_lstT, l_minL, l_maxL, au_add, au_sub, au_str, l_all, l_any, l_sum, l_srtL, l_srtT, w_ints, w_pures, w_bools, w_sort, w_shps, w_shpI, w_shpB, w_shpN, w_shpT, w_shpL, w_eqs, w_eqT, w_eqL, m_app, y_n_int, y_n_bool, y_n_str, y_n_tuple, y_n_list, y_b_int, y_b_bool, y_b_str, y_b_tuple, y_b_list, y_i_int, y_i_bool, y_i_str, y_i_tuple, y_i_list, y_s_int, y_s_bool, y_s_str, y_s_tuple, y_s_list, y_t_int, y_t_bool, y_t_str, y_t_tuple, y_t_list, y_l_int, y_l_bool, y_l_str, y_l_tuple, y_l_list, r_T, r_L, sl_L, sl_T, wk_L, wk_T, ix_L, lo_L, lo_T, isL_l, isI_i, isB_b, pu_i, pu_b, pu_s, pu_n, pu_t, ow_i, ow_b, ow_l, ow_t, thenS, startE, List.map_cons, List.map_nil, List.cons_append, List.nil_append, List.length_cons, List.length_nil, List.length_replicate, List.replicate, List.set_cons_zero, List.set_cons_succ, List.set_nil, Option.bind_some, Option.map_some, Option.bind_none, Option.map_none, Nat.sub_zero, Nat.reduceSub, Nat.reduceAdd, Bool.not_true, Bool.not_false, if_true, if_false, reduceIte, Bool.false_eq_true, Bool.true_and, Bool.and_true, Bool.false_and, Bool.and_false, decide_true, decide_false, List.tail_cons, List.isEmpty_cons, List.isEmpty_nil, ne_eq, not_true_eq_false, not_false_eq_true, reduceCtorEq, List.append_nil, List.singleton_append, forF, b11_0, e1, len_int, hgt, pt])
    rw [rng_len] at e
    have r1 : rng2D (.int 1) (.int (((M + 1 : Nat) : Int) + 1)) = some (rngUp 1 (M + 1)) := by
      rw [rng2_of (by decide) (by omega)]
      congr 2; omega
    refine ⟨[some (.int (N : Nat)), some (.dct (kyL (rows (M + 1))) (vlL (rows (M + 1)))), some (.int ((M + 1 : Nat) : Int)), z], .inl ?_, _, _, rfl⟩
    show execSs _ _ _ _ _ = _
    simp only [g_0, g_s, v_lit, v_var, v_mov, v_own, v_chk, v_bin, v_neg, v_cmp, v_cmp2, v_band, v_bor, v_bnot, v_ite, v_tup, v_lst, v_dct, v_idx, v_slc, v_rev, v_fn, v_isi, v_mth, v_mut, v_call, v_lc, v_ge, v_lof, t_lit, t_var, t_cmp, t_cmp2, t_bin, t_idx, t_fn, t_isi, t_call, t_ge, t_slc, t_mth, t_band, t_bor, t_bnot, i_var, i_call, i_idx, i_bin, i_fn, i_tup, i_lst, i_slc, i_lce, i_ck, i_r1, i_r2, i_r3, i_en, i_zp, i_rv, a_nil, a_cons, o_none, o_some, c_none, c_some, s_nil, s_cons, x_set, x_aug, x_put, x_ex, x_ret, x_ret0, x_iff, x_whl, x_for, x_brk, x_cnt, x_pas, x_doc, b_nm, b_tup, b_lst, b_nil, b_cons, k_nil, k_none, kP, kM, kPI, kPB, kPN, kPO, kPT, kPL, kPE, kPV, kPZ, kOwn, kChk, kBin2, kBin, kNeg, kCmpB, kCmp, kChA, kCh2, kCh, kAnd2, kAnd, kOr2, kOr, kNot, kIte, kTup, kLst, kIdx2, kIdx, kSl3, kSl2, kSl, kRev, kFn, kIsi, kMth2, kMth, kMu3, kMu2, kMu1, kMu, kCa3, kCa2, kCa, kLc2, kLc, kGe2, kGe, kLof, kT, kAndT, kOrT, kNotT, kI, kCk, kR1, kR2b, kR2, kR3c, kR3b, kR3, kEn, kZp2, kZp, kRv, kA2, kA, kO, kSet, kNx, kRt, kSt, kAu2, kAu, kPu3, kPu2, kPu1, kPu, kIf, kFor, kBt, p_add, p_sub, p_mul, p_fdiv, p_mod, p_pow, p_addL, p_addT, p_mulL, q_lt, q_le, q_gt, q_ge, q_eq, q_ne, q_eqT, q_neT, q_eqL, q_neL, q_eqB, q_eqS, q_is, q_isnot, q_inL, q_niL, q_inT, q_niT, u_non, u_bl, u_int, u_lst, u_tup, d_L, d_T, n_n, n_i, n_b, n_s, n_t, n_l, l_lenL, l_lenT, l_lenS, l_abs, l_int, l_min, l_max, l_tupL, l_tupT, l_lstL, l_lstT, l_minL, l_maxL, au_add, au_sub, au_str, l_all, l_any, l_sum, l_srtL, l_srtT, w_ints, w_pures, w_bools, w_sort, w_shps, w_shpI, w_shpB, w_shpN, w_shpT, w_shpL, w_eqs, w_eqT, w_eqL, m_app, y_n_int, y_n_bool, y_n_str, y_n_tuple, y_n_list, y_b_int, y_b_bool, y_b_str, y_b_tuple, y_b_list, y_i_int, y_i_bool, y_i_str, y_i_tuple, y_i_list, y_s_int, y_s_bool, y_s_str, y_s_tuple, y_s_list, y_t_int, y_t_bool, y_t_str, y_t_tuple, y_t_list, y_l_int, y_l_bool, y_l_str, y_l_tuple, y_l_list, r_T, r_L, sl_L, sl_T, wk_L, wk_T, ix_L, lo_L, lo_T, isL_l, isI_i, isB_b, pu_i, pu_b, pu_s, pu_n, pu_t, ow_i, ow_b, ow_l, ow_t, thenS, startE, List.map_cons, List.map_nil, List.cons_append, List.nil_append, List.length_cons, List.length_nil, List.length_replicate, List.replicate, List.set_cons_zero, List.set_cons_succ, List.set_nil, Option.bind_some, Option.map_some, Option.bind_none, Option.map_none, Nat.sub_zero, Nat.reduceSub, Nat.reduceAdd, Bool.not_true, Bool.not_false, if_true, if_false, reduceIte, Bool.false_eq_true, Bool.true_and, Bool.and_true, Bool.false_and, Bool.and_false, decide_true, decide_false, List.tail_cons, List.isEmpty_cons, List.isEmpty_nil, ne_eq, not_true_eq_false, not_false_eq_true, reduceCtorEq, List.append_nil, List.singleton_append, b11_1, r1, e]
    rfl)
  rw [rng_len] at e
  have r1 : rng2D (.int 1) (.int (((N : Nat) : Int) + 1)) = some (rngUp 1 N) := by
    rw [rng2_of (by decide) (by omega)]
    congr 2; omega
  refine ⟨_, run_rt (fn := fn11) (ρ := [some (.int (N : Nat)), none, x, y]) rfl rfl ?_⟩
  simp only [g_0, g_s, v_lit, v_var, v_mov, v_own, v_chk, v_bin, v_neg, v_cmp, v_cmp2, v_band, v_bor, v_bnot, v_ite, v_tup, v_lst, v_dct, v_idx, v_slc, v_rev, v_fn, v_isi, v_mth, v_mut, v_call, v_lc, v_ge, v_lof, t_lit, t_var, t_cmp, t_cmp2, t_bin, t_idx, t_fn, t_isi, t_call, t_ge, t_slc, t_mth, t_band, t_bor, t_bnot, i_var, i_call, i_idx, i_bin, i_fn, i_tup, i_lst, i_slc, i_lce, i_ck, i_r1, i_r2, i_r3, i_en, i_zp, i_rv, a_nil, a_cons, o_none, o_some, c_none, c_some, s_nil, s_cons, x_set, x_aug, x_put, x_ex, x_ret, x_ret0, x_iff, x_whl, x_for, x_brk, x_cnt, x_pas, x_doc, b_nm, b_tup, b_lst, b_nil, b_cons, k_nil, k_none, kP, kM, kPI, kPB, kPN, kPO, kPT, kPL, kPE, kPV, kPZ, kOwn, kChk, kBin2, kBin, kNeg, kCmpB, kCmp, kChA, kCh2, kCh, kAnd2, kAnd, kOr2, kOr, kNot, kIte, kTup, kLst, kIdx2, kIdx, kSl3, kSl2, kSl, kRev, kFn, kIsi, kMth2, kMth, kMu3, kMu2, kMu1, kMu, kCa3, kCa2, kCa, kLc2, kLc, kGe2, kGe, kLof, kT, kAndT, kOrT, kNotT, kI, kCk, kR1, kR2b, kR2, kR3c, kR3b, kR3, kEn, kZp2, kZp, kRv, kA2, kA, kO, kSet, kNx, kRt, kSt, kAu2, kAu, kPu3, kPu2, kPu1, kPu, kIf, kFor, kBt, p_add, p_sub, p_mul, p_fdiv, p_mod, p_pow, p_addL, p_addT, p_mulL, q_lt, q_le, q_gt, q_ge, q_eq, q_ne, q_eqT, q_neT, q_eqL, q_neL, q_eqB, q_eqS, q_is, q_isnot, q_inL, q_niL, q_inT, q_niT, u_non, u_bl, u_int, u_lst, u_tup, d_L, d_T, n_n, n_i, n_b, n_s, n_t, n_l, l_lenL, l_lenT, l_lenS, l_abs, l_int, l_min, l_max, l_tupL, l_tupT, l_lstL, l_lstT, l_minL, l_maxL, au_add, au_sub, au_str, l_all, l_any, l_sum, l_srtL, l_srtT, w_ints, w_pures, w_bools, w_sort, w_shps, w_shpI, w_shpB, w_shpN, w_shpT, w_shpL, w_eqs, w_eqT, w_eqL, m_app, y_n_int, y_n_bool, y_n_str, y_n_tuple, y_n_list, y_b_int, y_b_bool, y_b_str, y_b_tuple, y_b_list, y_i_int, y_i_bool, y_i_str, y_i_tuple, y_i_list, y_s_int, y_s_bool, y_s_str, y_s_tuple, y_s_list, y_t_int, y_t_bool, y_t_str, y_t_tuple, y_t_list, y_l_int, y_l_bool, y_l_str, y_l_tuple, y_l_list, r_T, r_L, sl_L, sl_T, wk_L, wk_T, ix_L, lo_L, lo_T, isL_l, isI_i, isB_b, pu_i, pu_b, pu_s, pu_n, pu_t, ow_i, ow_b, ow_l, ow_t, thenS, startE, List.map_cons, List.map_nil, List.cons_append, List.nil_append, List.length_cons, List.length_nil, List.length_replicate, List.replicate, List.set_cons_zero, List.set_cons_succ, List.set_nil, Option.bind_some, Option.map_some, Option.bind_none, Option.map_none, Nat.sub_zero, Nat.reduceSub, Nat.reduceAdd, Bool.not_true, Bool.not_false, if_true, if_false, reduceIte, Bool.false_eq_true, Bool.true_and, Bool.and_true, Bool.false_and, Bool.and_false, decide_true, decide_false, List.tail_cons, List.isEmpty_cons, List.isEmpty_nil, ne_eq, not_true_eq_false, not_false_eq_true, reduceCtorEq, List.append_nil, List.singleton_append, fn11, r1, e]
end
end Vi

set_option Elab.async false
set_option linter.all false
set_option maxRecDepth 100000
set_option maxHeartbeats 4000000
/-! The law of Euclid's game. -/
namespace Vi
open PySem L2
section
variable {gl : Nat → Option D} {w : Nat}
theorem is_int (k : Nat) (z : Int) : ∃ ρ, run fsL gl w (k + 3) 9 [.int z, .int z] = some (.bl true, ρ) := is_run (fs := fsL) (a := 8) (b := 9) rfl rfl 1 (.int z) rfl (k + 2) (by omega)
theorem is_bl (k : Nat) (z : Bool) : ∃ ρ, run fsL gl w (k + 3) 9 [.bl z, .bl z] = some (.bl true, ρ) := is_run (fs := fsL) (a := 8) (b := 9) rfl rfl 1 (.bl z) rfl (k + 2) (by omega)
theorem is_tup (k : Nat) (xs : List Int) (h : xs.length ≤ 1000) : ∃ ρ, run fsL gl w (k + 3) 9 [tupI xs, tupI xs] = some (.bl true, ρ) := is_run (fs := fsL) (a := 8) (b := 9) rfl rfl 1 (tupI xs) (by
  show (decide ((xs.map D.int).length ≤ 1000) && okDs 0 (xs.map D.int)) = true
  rw [okDs_ints, Bool.and_true, List.length_map]; exact decide_eq_true h) (k + 2) (by omega)
theorem is_hd (k : Nat) (xs : List Int) : ∃ ρ, run fsL gl w (k + 3) 9 [hd xs, hd xs] = some (.bl true, ρ) := by
  cases xs with
  | nil => exact is_run (fs := fsL) (a := 8) (b := 9) rfl rfl 1 .non rfl (k + 2) (by omega)
  | cons x r => exact is_int k x
theorem QI_len (l m : Nat) : (QI l m).length = (Q l m).length := by unfold QI toI; rw [List.length_map]
theorem asked_run (k : Nat) {a b : Nat} (ha : 1 ≤ a) (hb : 1 ≤ b) (ha2 : a ≤ 60) (hb2 : b ≤ 60) (hw : 200 < w) : ∃ ρ, run fsL gl w (k + 7) 15 [.dct (kyL (rows 60)) (vlL (rows 60)), prD a b] = some (.bl true, ρ) := by
  have hq : (Q (min a b) (max a b)).length ≤ 100 := Q60 (by omega)
  have h64 : a < 2 ^ 64 := by
    have : (2 : Nat) ^ 64 = 18446744073709551616 := by decide
    omega
  obtain ⟨ρ1, e1⟩ := ltakes_run (gl := gl) (w := w) (k + 5) (P := rows 60) ha hb ha2 hb2 (fun x y h1 h2 h3 => (rows_mem 60).mpr ⟨h1, h2, by omega⟩)
  obtain ⟨ρ2, e2⟩ := lquo_run (gl := gl) (w := w) (k + 5) hq h64 hw
  obtain ⟨ρ3, e3⟩ := quo_run (gl := gl) (w := w) (k + 5) hq h64 hw
  obtain ⟨ρ4, e4⟩ := turn_run (gl := gl) (w := w) (k + 4) hq h64 hw
  obtain ⟨ρ5, e5⟩ := lturn_run (gl := gl) (w := w) (k + 5) hq
  obtain ⟨ρ6, e6⟩ := wins_run (gl := gl) (w := w) (k + 3) hq h64 hw
  obtain ⟨ρ7, e7⟩ := takes_run (gl := gl) (w := w) (k + 2) ha hb ha2 hb2 hw
  obtain ⟨ρ8, e8⟩ := told_run (gl := gl) (w := w) (k + 1) ha hb ha2 hb2 hw
  have s2 := sort2 a b
  have ctk := eq_of_beq (allP_of c_tk (l := min a b) (m := max a b) (by omega) (by omega) (by omega))
  have csq := eq_of_beq (allP_of c_sq (l := min a b) (m := max a b) (by omega) (by omega) (by omega))
  have hEn : ((tn (Q (min a b) (max a b))).fmod 2 == 0) = En (min a b) (max a b) := rfl
  obtain ⟨ρ9, e9⟩ := is_tup (gl := gl) (w := w) (k + 3) (QI (min a b) (max a b)) (by rw [QI_len]; omega)
  obtain ⟨ρ10, e10⟩ := is_int (gl := gl) (w := w) (k + 3) (tn (Q (min a b) (max a b)))
  have htl := tk_len (min a b) (max a b) (by omega)
  obtain ⟨ρ11, e11⟩ := is_tup (gl := gl) (w := w) (k + 3) (tkE (min a b) (max a b)) (by omega)
  obtain ⟨ρ12, e12⟩ := is_hd (gl := gl) (w := w) (k + 3) (tkE (min a b) (max a b))
  generalize hL : rows 60 = R at e1
  generalize hl : min a b = l at *
  generalize hm : max a b = m at *
  have hlm : l ≤ m := by omega
  have hm6 : m ≤ 60 := by omega
  have e5 : run fsL gl w (k + 6) 14 [tupI (QI l m)] = some (.int (tn (Q l m)), ρ5) := e5
  obtain ⟨ρ13, e13⟩ := is_bl (gl := gl) (w := w) (k + 3) (En l m)
  generalize tn (Q l m) = T at *
  have hgt : decide ((0 : Int) < (((tkE l m).length : Nat) : Int)) = En l m := by
    rw [ctk]
    cases tkE l m with
    | nil => rfl
    | cons x r => exact decide_eq_true (by rw [List.length_cons]; omega)
  have n2 : ¬ (2 : Int) = 0 := by decide
  have o1 : mulOk ((m : Nat) : Int) ((m : Nat) : Int) = true := mul_ok1 _ (by omega)
  have o2 : mulOk ((m : Nat) : Int) ((l : Nat) : Int) = true := mul_ok1 _ (by omega)
  have o3 : mulOk ((l : Nat) : Int) ((l : Nat) : Int) = true := mul_ok1 _ (by omega)
  have hcmp : decide (((m : Nat) : Int) * ((l : Nat) : Int) + ((l : Nat) : Int) * ((l : Nat) : Int) < ((m : Nat) : Int) * ((m : Nat) : Int)) = decide (m * l + l * l < m * m) := by
    have e : (((m : Nat) : Int) * ((l : Nat) : Int) + ((l : Nat) : Int) * ((l : Nat) : Int) < ((m : Nat) : Int) * ((m : Nat) : Int)) ↔ (m * l + l * l < m * m) := by
      rw [← Int.natCast_mul, ← Int.natCast_mul, ← Int.natCast_mul, ← Int.natCast_add]
      omega
    by_cases q : m * l + l * l < m * m
    · rw [decide_eq_true q, decide_eq_true (e.mpr q)]
    · rw [decide_eq_false q, decide_eq_false (fun z => q (e.mp z))]
  unfold sqr at csq
  generalize En l m = E at *
  refine ⟨[some (.dct (kyL R) (vlL R)), some (prD a b), some (tupI (tkE l m)), some (tupI (QI l m)), some (.bl E), some (.int (l : Nat)), some (.int (m : Nat))], run_rt (fn := fn15) rfl rfl ?_⟩
  show execSs (run fsL gl w (k + 6)) gl w fn15.body [some (.dct (kyL R) (vlL R)), some (prD a b), none, none, none, none, none] = _
  have hA : execSs (run fsL gl w (k + 6)) gl w (fn15.body.take 6) [some (.dct (kyL R) (vlL R)), some (prD a b), none, none, none, none, none] = some (.nx [some (.dct (kyL R) (vlL R)), some (prD a b), some (tupI (tkE l m)), some (tupI (QI l m)), some (.bl E), some (.int (l : Nat)), some (.int (m : Nat))]) := by
    simp only [tupI, prD] at e1 e2 e3 e4 e5 e9 ⊢
    simp only [g_0, g_s, v_lit, v_var, v_mov, v_own, v_chk, v_bin, v_neg, v_cmp, v_cmp2, v_band, v_bor, v_bnot, v_ite, v_tup, v_lst, v_dct, v_idx, v_slc, v_rev, v_fn, v_isi, v_mth, v_mut, v_call, v_lc, v_ge, v_lof, t_lit, t_var, t_cmp, t_cmp2, t_bin, t_idx, t_fn, t_isi, t_call, t_ge, t_slc, t_mth, t_band, t_bor, t_bnot, i_var, i_call, i_idx, i_bin, i_fn, i_tup, i_lst, i_slc, i_lce, i_ck, i_r1, i_r2, i_r3, i_en, i_zp, i_rv, a_nil, a_cons, o_none, o_some, c_none, c_some, s_nil, s_cons, x_set, x_aug, x_put, x_ex, x_ret, x_ret0, x_iff, x_whl, x_for, x_brk, x_cnt, x_pas, x_doc, b_nm, b_tup, b_lst, b_nil, b_cons, k_nil, k_none, kP, kM, kPI, kPB, kPN, kPO, kPT, kPL, kPE, kPV, kPZ, kOwn, kChk, kBin2, kBin, kNeg, kCmpB, kCmp, kChA, kCh2, kCh, kAnd2, kAnd, kOr2, kOr, kNot, kIte, kTup, kLst, kIdx2, kIdx, kSl3, kSl2, kSl, kRev, kFn, kIsi, kMth2, kMth, kMu3, kMu2, kMu1, kMu, kCa3, kCa2, kCa, kLc2, kLc, kGe2, kGe, kLof, kT, kAndT, kOrT, kNotT, kI, kCk, kR1, kR2b, kR2, kR3c, kR3b, kR3, kEn, kZp2, kZp, kRv, kA2, kA, kO, kSet, kNx, kRt, kSt, kAu2, kAu, kPu3, kPu2, kPu1, kPu, kIf, kFor, kBt, p_add, p_sub, p_mul, p_fdiv, p_mod, p_pow, p_addL, p_addT, p_mulL, q_lt, q_le, q_gt, q_ge, q_eq, q_ne, q_eqT, q_neT, q_eqL, q_neL, q_eqB, q_eqS, q_is, q_isnot, q_inL, q_niL, q_inT, q_niT, u_non, u_bl, u_int, u_lst, u_tup, d_L, d_T, n_n, n_i, n_b, n_s, n_t, n_l, l_lenL, l_lenT, l_lenS, l_abs, l_int, l_min, l_max, l_tupL, l_tupT, l_lstL, l_lstT, l_minL, l_maxL, au_add, au_sub, au_str, l_all, l_any, l_sum, l_srtL, l_srtT, w_ints, w_pures, w_bools, w_sort, w_shps, w_shpI, w_shpB, w_shpN, w_shpT, w_shpL, w_eqs, w_eqT, w_eqL, m_app, y_n_int, y_n_bool, y_n_str, y_n_tuple, y_n_list, y_b_int, y_b_bool, y_b_str, y_b_tuple, y_b_list, y_i_int, y_i_bool, y_i_str, y_i_tuple, y_i_list, y_s_int, y_s_bool, y_s_str, y_s_tuple, y_s_list, y_t_int, y_t_bool, y_t_str, y_t_tuple, y_t_list, y_l_int, y_l_bool, y_l_str, y_l_tuple, y_l_list, r_T, r_L, sl_L, sl_T, wk_L, wk_T, ix_L, lo_L, lo_T, isL_l, isI_i, isB_b, pu_i, pu_b, pu_s, pu_n, pu_t, ow_i, ow_b, ow_l, ow_t, thenS, startE, List.map_cons, List.map_nil, List.cons_append, List.nil_append, List.length_cons, List.length_nil, List.length_replicate, List.replicate, List.set_cons_zero, List.set_cons_succ, List.set_nil, Option.bind_some, Option.map_some, Option.bind_none, Option.map_none, Nat.sub_zero, Nat.reduceSub, Nat.reduceAdd, Bool.not_true, Bool.not_false, if_true, if_false, reduceIte, Bool.false_eq_true, Bool.true_and, Bool.and_true, Bool.false_and, Bool.and_false, decide_true, decide_false, List.tail_cons, List.isEmpty_cons, List.isEmpty_nil, ne_eq, not_true_eq_false, not_false_eq_true, reduceCtorEq, List.append_nil, List.singleton_append, fn15, List.take, s2, e1, e2, e3, e4, e5, e9, e10, len_int, hgt, n2, hEn, q_neB, eqB_bl, w_shpB, beq_self_eq_true]
  have hB : execSs (run fsL gl w (k + 6)) gl w ((fn15.body.drop 6).take 1) [some (.dct (kyL R) (vlL R)), some (prD a b), some (tupI (tkE l m)), some (tupI (QI l m)), some (.bl E), some (.int (l : Nat)), some (.int (m : Nat))] = some (.nx [some (.dct (kyL R) (vlL R)), some (prD a b), some (tupI (tkE l m)), some (tupI (QI l m)), some (.bl E), some (.int (l : Nat)), some (.int (m : Nat))]) := by
    by_cases he : l = m
    · have q0 : ((l == m) : Bool) = true := by rw [beq_iff_eq]; exact he
      have q1 : ((((l : Nat) : Int) == ((m : Nat) : Int)) : Bool) = true := by rw [beq_iff_eq]; omega
      rw [q0, Bool.true_or] at csq
      subst csq
      simp only [g_0, g_s, v_lit, v_var, v_mov, v_own, v_chk, v_bin, v_neg, v_cmp, v_cmp2, v_band, v_bor, v_bnot, v_ite, v_tup, v_lst, v_dct, v_idx, v_slc, v_rev, v_fn, v_isi, v_mth, v_mut, v_call, v_lc, v_ge, v_lof, t_lit, t_var, t_cmp, t_cmp2, t_bin, t_idx, t_fn, t_isi, t_call, t_ge, t_slc, t_mth, t_band, t_bor, t_bnot, i_var, i_call, i_idx, i_bin, i_fn, i_tup, i_lst, i_slc, i_lce, i_ck, i_r1, i_r2, i_r3, i_en, i_zp, i_rv, a_nil, a_cons, o_none, o_some, c_none, c_some, s_nil, s_cons, x_set, x_aug, x_put, x_ex, x_ret, x_ret0, x_iff, x_whl, x_for, x_brk, x_cnt, x_pas, x_doc, b_nm, b_tup, b_lst, b_nil, b_cons, k_nil, k_none, kP, kM, kPI, kPB, kPN, kPO, kPT, kPL, kPE, kPV, kPZ, kOwn, kChk, kBin2, kBin, kNeg, kCmpB, kCmp, kChA, kCh2, kCh, kAnd2, kAnd, kOr2, kOr, kNot, kIte, kTup, kLst, kIdx2, kIdx, kSl3, kSl2, kSl, kRev, kFn, kIsi, kMth2, kMth, kMu3, kMu2, kMu1, kMu, kCa3, kCa2, kCa, kLc2, kLc, kGe2, kGe, kLof, kT, kAndT, kOrT, kNotT, kI, kCk, kR1, kR2b, kR2, kR3c, kR3b, kR3, kEn, kZp2, kZp, kRv, kA2, kA, kO, kSet, kNx, kRt, kSt, kAu2, kAu, kPu3, kPu2, kPu1, kPu, kIf, kFor, kBt, p_add, p_sub, p_mul, p_fdiv, p_mod, p_pow, p_addL, p_addT, p_mulL, q_lt, q_le, q_gt, q_ge, q_eq, q_ne, q_eqT, q_neT, q_eqL, q_neL, q_eqB, q_eqS, q_is, q_isnot, q_inL, q_niL, q_inT, q_niT, u_non, u_bl, u_int, u_lst, u_tup, d_L, d_T, n_n, n_i, n_b, n_s, n_t, n_l, l_lenL, l_lenT, l_lenS, l_abs, l_int, l_min, l_max, l_tupL, l_tupT, l_lstL, l_lstT, l_minL, l_maxL, au_add, au_sub, au_str, l_all, l_any, l_sum, l_srtL, l_srtT, w_ints, w_pures, w_bools, w_sort, w_shps, w_shpI, w_shpB, w_shpN, w_shpT, w_shpL, w_eqs, w_eqT, w_eqL, m_app, y_n_int, y_n_bool, y_n_str, y_n_tuple, y_n_list, y_b_int, y_b_bool, y_b_str, y_b_tuple, y_b_list, y_i_int, y_i_bool, y_i_str, y_i_tuple, y_i_list, y_s_int, y_s_bool, y_s_str, y_s_tuple, y_s_list, y_t_int, y_t_bool, y_t_str, y_t_tuple, y_t_list, y_l_int, y_l_bool, y_l_str, y_l_tuple, y_l_list, r_T, r_L, sl_L, sl_T, wk_L, wk_T, ix_L, lo_L, lo_T, isL_l, isI_i, isB_b, pu_i, pu_b, pu_s, pu_n, pu_t, ow_i, ow_b, ow_l, ow_t, thenS, startE, List.map_cons, List.map_nil, List.cons_append, List.nil_append, List.length_cons, List.length_nil, List.length_replicate, List.replicate, List.set_cons_zero, List.set_cons_succ, List.set_nil, Option.bind_some, Option.map_some, Option.bind_none, Option.map_none, Nat.sub_zero, Nat.reduceSub, Nat.reduceAdd, Bool.not_true, Bool.not_false, if_true, if_false, reduceIte, Bool.false_eq_true, Bool.true_and, Bool.and_true, Bool.false_and, Bool.and_false, decide_true, decide_false, List.tail_cons, List.isEmpty_cons, List.isEmpty_nil, ne_eq, not_true_eq_false, not_false_eq_true, reduceCtorEq, List.append_nil, List.singleton_append, fn15, List.drop, List.take, q1, q_neB, eqB_bl, w_shpB, beq_self_eq_true]
    · have q0 : ((l == m) : Bool) = false := by rw [beq_eq_false_iff_ne]; exact he
      have q1 : ((((l : Nat) : Int) == ((m : Nat) : Int)) : Bool) = false := by rw [beq_eq_false_iff_ne]; omega
      rw [q0, Bool.false_or] at csq
      rw [← csq] at hcmp
      simp only [g_0, g_s, v_lit, v_var, v_mov, v_own, v_chk, v_bin, v_neg, v_cmp, v_cmp2, v_band, v_bor, v_bnot, v_ite, v_tup, v_lst, v_dct, v_idx, v_slc, v_rev, v_fn, v_isi, v_mth, v_mut, v_call, v_lc, v_ge, v_lof, t_lit, t_var, t_cmp, t_cmp2, t_bin, t_idx, t_fn, t_isi, t_call, t_ge, t_slc, t_mth, t_band, t_bor, t_bnot, i_var, i_call, i_idx, i_bin, i_fn, i_tup, i_lst, i_slc, i_lce, i_ck, i_r1, i_r2, i_r3, i_en, i_zp, i_rv, a_nil, a_cons, o_none, o_some, c_none, c_some, s_nil, s_cons, x_set, x_aug, x_put, x_ex, x_ret, x_ret0, x_iff, x_whl, x_for, x_brk, x_cnt, x_pas, x_doc, b_nm, b_tup, b_lst, b_nil, b_cons, k_nil, k_none, kP, kM, kPI, kPB, kPN, kPO, kPT, kPL, kPE, kPV, kPZ, kOwn, kChk, kBin2, kBin, kNeg, kCmpB, kCmp, kChA, kCh2, kCh, kAnd2, kAnd, kOr2, kOr, kNot, kIte, kTup, kLst, kIdx2, kIdx, kSl3, kSl2, kSl, kRev, kFn, kIsi, kMth2, kMth, kMu3, kMu2, kMu1, kMu, kCa3, kCa2, kCa, kLc2, kLc, kGe2, kGe, kLof, kT, kAndT, kOrT, kNotT, kI, kCk, kR1, kR2b, kR2, kR3c, kR3b, kR3, kEn, kZp2, kZp, kRv, kA2, kA, kO, kSet, kNx, kRt, kSt, kAu2, kAu, kPu3, kPu2, kPu1, kPu, kIf, kFor, kBt, p_add, p_sub, p_mul, p_fdiv, p_mod, p_pow, p_addL, p_addT, p_mulL, q_lt, q_le, q_gt, q_ge, q_eq, q_ne, q_eqT, q_neT, q_eqL, q_neL, q_eqB, q_eqS, q_is, q_isnot, q_inL, q_niL, q_inT, q_niT, u_non, u_bl, u_int, u_lst, u_tup, d_L, d_T, n_n, n_i, n_b, n_s, n_t, n_l, l_lenL, l_lenT, l_lenS, l_abs, l_int, l_min, l_max, l_tupL, l_tupT, l_lstL, l_lstT, l_minL, l_maxL, au_add, au_sub, au_str, l_all, l_any, l_sum, l_srtL, l_srtT, w_ints, w_pures, w_bools, w_sort, w_shps, w_shpI, w_shpB, w_shpN, w_shpT, w_shpL, w_eqs, w_eqT, w_eqL, m_app, y_n_int, y_n_bool, y_n_str, y_n_tuple, y_n_list, y_b_int, y_b_bool, y_b_str, y_b_tuple, y_b_list, y_i_int, y_i_bool, y_i_str, y_i_tuple, y_i_list, y_s_int, y_s_bool, y_s_str, y_s_tuple, y_s_list, y_t_int, y_t_bool, y_t_str, y_t_tuple, y_t_list, y_l_int, y_l_bool, y_l_str, y_l_tuple, y_l_list, r_T, r_L, sl_L, sl_T, wk_L, wk_T, ix_L, lo_L, lo_T, isL_l, isI_i, isB_b, pu_i, pu_b, pu_s, pu_n, pu_t, ow_i, ow_b, ow_l, ow_t, thenS, startE, List.map_cons, List.map_nil, List.cons_append, List.nil_append, List.length_cons, List.length_nil, List.length_replicate, List.replicate, List.set_cons_zero, List.set_cons_succ, List.set_nil, Option.bind_some, Option.map_some, Option.bind_none, Option.map_none, Nat.sub_zero, Nat.reduceSub, Nat.reduceAdd, Bool.not_true, Bool.not_false, if_true, if_false, reduceIte, Bool.false_eq_true, Bool.true_and, Bool.and_true, Bool.false_and, Bool.and_false, decide_true, decide_false, List.tail_cons, List.isEmpty_cons, List.isEmpty_nil, ne_eq, not_true_eq_false, not_false_eq_true, reduceCtorEq, List.append_nil, List.singleton_append, fn15, List.drop, List.take, q1, o1, o2, o3, hcmp, q_neB, eqB_bl, w_shpB, beq_self_eq_true]
  rw [show fn15.body = fn15.body.take 6 ++ ((fn15.body.drop 6).take 1 ++ fn15.body.drop 7) from rfl, ss_app hA, ss_app hB]
  simp only [tupI] at e7 e11 ⊢
  cases hE : E with
  | false =>
    subst hE
    have hn : tkE l m = [] := by
      cases ht : tkE l m with
      | nil => rfl
      | cons x r => rw [ht] at ctk; cases ctk
    rw [hn] at e7 e8 e11 e12 ⊢
    simp only [List.map_nil, hd] at e7 e8 e11 e12 ⊢
    simp only [g_0, g_s, v_lit, v_var, v_mov, v_own, v_chk, v_bin, v_neg, v_cmp, v_cmp2, v_band, v_bor, v_bnot, v_ite, v_tup, v_lst, v_dct, v_idx, v_slc, v_rev, v_fn, v_isi, v_mth, v_mut, v_call, v_lc, v_ge, v_lof, t_lit, t_var, t_cmp, t_cmp2, t_bin, t_idx, t_fn, t_isi, t_call, t_ge, t_slc, t_mth, t_band, t_bor, t_bnot, i_var, i_call, i_idx, i_bin, i_fn, i_tup, i_lst, i_slc, i_lce, i_ck, i_r1, i_r2, i_r3, i_en, i_zp, i_rv, a_nil, a_cons, o_none, o_some, c_none, c_some, s_nil, s_cons, x_set, x_aug, x_put, x_ex, x_ret, x_ret0, x_iff, x_whl, x_for, x_brk, x_cnt, x_pas, x_doc, b_nm, b_tup, b_lst, b_nil, b_cons, k_nil, k_none, kP, kM, kPI, kPB, kPN, kPO, kPT, kPL, kPE, kPV, kPZ, kOwn, kChk, kBin2, kBin, kNeg, kCmpB, kCmp, kChA, kCh2, kCh, kAnd2, kAnd, kOr2, kOr, kNot, kIte, kTup, kLst, kIdx2, kIdx, kSl3, kSl2, kSl, kRev, kFn, kIsi, kMth2, kMth, kMu3, kMu2, kMu1, kMu, kCa3, kCa2, kCa, kLc2, kLc, kGe2, kGe, kLof, kT, kAndT, kOrT, kNotT, kI, kCk, kR1, kR2b, kR2, kR3c, kR3b, kR3, kEn, kZp2, kZp, kRv, kA2, kA, kO, kSet, kNx, kRt, kSt, kAu2, kAu, kPu3, kPu2, kPu1, kPu, kIf, kFor, kBt, p_add, p_sub, p_mul, p_fdiv, p_mod, p_pow, p_addL, p_addT, p_mulL, q_lt, q_le, q_gt, q_ge, q_eq, q_ne, q_eqT, q_neT, q_eqL, q_neL, q_eqB, q_eqS, q_is, q_isnot, q_inL, q_niL, q_inT, q_niT, u_non, u_bl, u_int, u_lst, u_tup, d_L, d_T, n_n, n_i, n_b, n_s, n_t, n_l, l_lenL, l_lenT, l_lenS, l_abs, l_int, l_min, l_max, l_tupL, l_tupT, l_lstL, l_lstT, l_minL, l_maxL, au_add, au_sub, au_str, l_all, l_any, l_sum, l_srtL, l_srtT, w_ints, w_pures, w_bools, w_sort, w_shps, w_shpI, w_shpB, w_shpN, w_shpT, w_shpL, w_eqs, w_eqT, w_eqL, m_app, y_n_int, y_n_bool, y_n_str, y_n_tuple, y_n_list, y_b_int, y_b_bool, y_b_str, y_b_tuple, y_b_list, y_i_int, y_i_bool, y_i_str, y_i_tuple, y_i_list, y_s_int, y_s_bool, y_s_str, y_s_tuple, y_s_list, y_t_int, y_t_bool, y_t_str, y_t_tuple, y_t_list, y_l_int, y_l_bool, y_l_str, y_l_tuple, y_l_list, r_T, r_L, sl_L, sl_T, wk_L, wk_T, ix_L, lo_L, lo_T, isL_l, isI_i, isB_b, pu_i, pu_b, pu_s, pu_n, pu_t, ow_i, ow_b, ow_l, ow_t, thenS, startE, List.map_cons, List.map_nil, List.cons_append, List.nil_append, List.length_cons, List.length_nil, List.length_replicate, List.replicate, List.set_cons_zero, List.set_cons_succ, List.set_nil, Option.bind_some, Option.map_some, Option.bind_none, Option.map_none, Nat.sub_zero, Nat.reduceSub, Nat.reduceAdd, Bool.not_true, Bool.not_false, if_true, if_false, reduceIte, Bool.false_eq_true, Bool.true_and, Bool.and_true, Bool.false_and, Bool.and_false, decide_true, decide_false, List.tail_cons, List.isEmpty_cons, List.isEmpty_nil, ne_eq, not_true_eq_false, not_false_eq_true, reduceCtorEq, List.append_nil, List.singleton_append, fn15, List.drop, e6, e7, e8, e11, e12, e13]
  | true =>
    subst hE
    obtain ⟨x, r, hn⟩ : ∃ x r, tkE l m = x :: r := by
      cases ht : tkE l m with
      | nil => rw [ht] at ctk; cases ctk
      | cons x r => exact ⟨x, r, rfl⟩
    rw [hn] at e7 e8 e11 e12 ⊢
    simp only [List.map_cons, hd] at e7 e8 e11 e12 ⊢
    simp only [g_0, g_s, v_lit, v_var, v_mov, v_own, v_chk, v_bin, v_neg, v_cmp, v_cmp2, v_band, v_bor, v_bnot, v_ite, v_tup, v_lst, v_dct, v_idx, v_slc, v_rev, v_fn, v_isi, v_mth, v_mut, v_call, v_lc, v_ge, v_lof, t_lit, t_var, t_cmp, t_cmp2, t_bin, t_idx, t_fn, t_isi, t_call, t_ge, t_slc, t_mth, t_band, t_bor, t_bnot, i_var, i_call, i_idx, i_bin, i_fn, i_tup, i_lst, i_slc, i_lce, i_ck, i_r1, i_r2, i_r3, i_en, i_zp, i_rv, a_nil, a_cons, o_none, o_some, c_none, c_some, s_nil, s_cons, x_set, x_aug, x_put, x_ex, x_ret, x_ret0, x_iff, x_whl, x_for, x_brk, x_cnt, x_pas, x_doc, b_nm, b_tup, b_lst, b_nil, b_cons, k_nil, k_none, kP, kM, kPI, kPB, kPN, kPO, kPT, kPL, kPE, kPV, kPZ, kOwn, kChk, kBin2, kBin, kNeg, kCmpB, kCmp, kChA, kCh2, kCh, kAnd2, kAnd, kOr2, kOr, kNot, kIte, kTup, kLst, kIdx2, kIdx, kSl3, kSl2, kSl, kRev, kFn, kIsi, kMth2, kMth, kMu3, kMu2, kMu1, kMu, kCa3, kCa2, kCa, kLc2, kLc, kGe2, kGe, kLof, kT, kAndT, kOrT, kNotT, kI, kCk, kR1, kR2b, kR2, kR3c, kR3b, kR3, kEn, kZp2, kZp, kRv, kA2, kA, kO, kSet, kNx, kRt, kSt, kAu2, kAu, kPu3, kPu2, kPu1, kPu, kIf, kFor, kBt, p_add, p_sub, p_mul, p_fdiv, p_mod, p_pow, p_addL, p_addT, p_mulL, q_lt, q_le, q_gt, q_ge, q_eq, q_ne, q_eqT, q_neT, q_eqL, q_neL, q_eqB, q_eqS, q_is, q_isnot, q_inL, q_niL, q_inT, q_niT, u_non, u_bl, u_int, u_lst, u_tup, d_L, d_T, n_n, n_i, n_b, n_s, n_t, n_l, l_lenL, l_lenT, l_lenS, l_abs, l_int, l_min, l_max, l_tupL, l_tupT, l_lstL, l_lstT, l_minL, l_maxL, au_add, au_sub, au_str, l_all, l_any, l_sum, l_srtL, l_srtT, w_ints, w_pures, w_bools, w_sort, w_shps, w_shpI, w_shpB, w_shpN, w_shpT, w_shpL, w_eqs, w_eqT, w_eqL, m_app, y_n_int, y_n_bool, y_n_str, y_n_tuple, y_n_list, y_b_int, y_b_bool, y_b_str, y_b_tuple, y_b_list, y_i_int, y_i_bool, y_i_str, y_i_tuple, y_i_list, y_s_int, y_s_bool, y_s_str, y_s_tuple, y_s_list, y_t_int, y_t_bool, y_t_str, y_t_tuple, y_t_list, y_l_int, y_l_bool, y_l_str, y_l_tuple, y_l_list, r_T, r_L, sl_L, sl_T, wk_L, wk_T, ix_L, lo_L, lo_T, isL_l, isI_i, isB_b, pu_i, pu_b, pu_s, pu_n, pu_t, ow_i, ow_b, ow_l, ow_t, thenS, startE, List.map_cons, List.map_nil, List.cons_append, List.nil_append, List.length_cons, List.length_nil, List.length_replicate, List.replicate, List.set_cons_zero, List.set_cons_succ, List.set_nil, Option.bind_some, Option.map_some, Option.bind_none, Option.map_none, Nat.sub_zero, Nat.reduceSub, Nat.reduceAdd, Bool.not_true, Bool.not_false, if_true, if_false, reduceIte, Bool.false_eq_true, Bool.true_and, Bool.and_true, Bool.false_and, Bool.and_false, decide_true, decide_false, List.tail_cons, List.isEmpty_cons, List.isEmpty_nil, ne_eq, not_true_eq_false, not_false_eq_true, reduceCtorEq, List.append_nil, List.singleton_append, fn15, List.drop, e6, e7, e8, e11, e12, e13, List.length_map, ixn0, List.getElem?_cons_zero]
/-! gcd -/
theorem gcd_loop {cf : Fns} : ∀ (o one n : Nat), (Q o one).length < n → ∃ x, whlL ((ev cf gl c10_0).t) (execSs cf gl w b10_1) n [some (.int (one : Nat)), some (.int (o : Nat))] = some (.nx [some (.int ((Nat.gcd o one : Nat) : Int)), x]) := by
  intro o
  induction o using Nat.strongRecOn with
  | ind o ih =>
    intro one n hn
    obtain ⟨n, rfl⟩ : ∃ j, n = j + 1 := ⟨n - 1, by omega⟩
    by_cases h0 : o = 0
    · subst h0
      refine ⟨some (.int ((0 : Nat) : Int)), ?_⟩
      have z : ¬ (0 : Int) < ((0 : Nat) : Int) := by decide
      have h1 : (ev cf gl c10_0).t [some (.int (one : Nat)), some (.int ((0 : Nat) : Int))] = some (false, [some (.int (one : Nat)), some (.int ((0 : Nat) : Int))]) := by simp only [g_0, g_s, v_lit, v_var, v_mov, v_own, v_chk, v_bin, v_neg, v_cmp, v_cmp2, v_band, v_bor, v_bnot, v_ite, v_tup, v_lst, v_dct, v_idx, v_slc, v_rev, v_fn, v_isi, v_mth, v_mut, v_call, v_lc, v_ge, v_lof, t_lit, t_var, t_cmp, t_cmp2, t_bin, t_idx, t_fn, t_isi, t_call, t_ge, t_slc, t_mth, t_band, t_bor, t_bnot, i_var, i_call, i_idx, i_bin, i_fn, i_tup, i_lst, i_slc, i_lce, i_ck, i_r1, i_r2, i_r3, i_en, i_zp, i_rv, a_nil, a_cons, o_none, o_some, c_none, c_some, s_nil, s_cons, x_set, x_aug, x_put, x_ex, x_ret, x_ret0, x_iff, x_whl, x_for, x_brk, x_cnt, x_pas, x_doc, b_nm, b_tup, b_lst, b_nil, b_cons, k_nil, k_none, kP, kM, kPI, kPB, kPN, kPO, kPT, kPL, kPE, kPV, kPZ, kOwn, kChk, kBin2, kBin, kNeg, kCmpB, kCmp, kChA, kCh2, kCh, kAnd2, kAnd, kOr2, kOr, kNot, kIte, kTup, kLst, kIdx2, kIdx, kSl3, kSl2, kSl, kRev, kFn, kIsi, kMth2, kMth, kMu3, kMu2, kMu1, kMu, kCa3, kCa2, kCa, kLc2, kLc, kGe2, kGe, kLof, kT, kAndT, kOrT, kNotT, kI, kCk, kR1, kR2b, kR2, kR3c, kR3b, kR3, kEn, kZp2, kZp, kRv, kA2, kA, kO, kSet, kNx, kRt, kSt, kAu2, kAu, kPu3, kPu2, kPu1, kPu, kIf, kFor, kBt, p_add, p_sub, p_mul, p_fdiv, p_mod, p_pow, p_addL, p_addT, p_mulL, q_lt, q_le, q_gt, q_ge, q_eq, q_ne, q_eqT, q_neT, q_eqL, q_neL, q_eqB, q_eqS, q_is, q_isnot, q_inL, q_niL, q_inT, q_niT, u_non, u_bl, u_int, u_lst, u_tup, d_L, d_T, n_n, n_i, n_b, n_s, n_t, n_l, l_lenL, l_lenT, l_lenS, l_abs, l_int, l_min, l_max, l_tupL, l_tupT, l_lstL, l_lstT, l_minL, l_maxL, au_add, au_sub, au_str, l_all, l_any, l_sum, l_srtL, l_srtT, w_ints, w_pures, w_bools, w_sort, w_shps, w_shpI, w_shpB, w_shpN, w_shpT, w_shpL, w_eqs, w_eqT, w_eqL, m_app, y_n_int, y_n_bool, y_n_str, y_n_tuple, y_n_list, y_b_int, y_b_bool, y_b_str, y_b_tuple, y_b_list, y_i_int, y_i_bool, y_i_str, y_i_tuple, y_i_list, y_s_int, y_s_bool, y_s_str, y_s_tuple, y_s_list, y_t_int, y_t_bool, y_t_str, y_t_tuple, y_t_list, y_l_int, y_l_bool, y_l_str, y_l_tuple, y_l_list, r_T, r_L, sl_L, sl_T, wk_L, wk_T, ix_L, lo_L, lo_T, isL_l, isI_i, isB_b, pu_i, pu_b, pu_s, pu_n, pu_t, ow_i, ow_b, ow_l, ow_t, thenS, startE, List.map_cons, List.map_nil, List.cons_append, List.nil_append, List.length_cons, List.length_nil, List.length_replicate, List.replicate, List.set_cons_zero, List.set_cons_succ, List.set_nil, Option.bind_some, Option.map_some, Option.bind_none, Option.map_none, Nat.sub_zero, Nat.reduceSub, Nat.reduceAdd, Bool.not_true, Bool.not_false, if_true, if_false, reduceIte, Bool.false_eq_true, Bool.true_and, Bool.and_true, Bool.false_and, Bool.and_false, decide_true, decide_false, List.tail_cons, List.isEmpty_cons, List.isEmpty_nil, ne_eq, not_true_eq_false, not_false_eq_true, reduceCtorEq, List.append_nil, List.singleton_append, c10_0, z]
      rw [Nat.gcd_zero_left]
      simp only [whlL, h1, Option.bind_some, if_false, Bool.false_eq_true]
    · have hm := Nat.mod_lt one (show 0 < o by omega)
      rw [Q_pos (by omega), List.length_cons] at hn
      obtain ⟨x, e⟩ := ih (one % o) hm o n (by omega)
      refine ⟨x, ?_⟩
      have z : (0 : Int) < ((o : Nat) : Int) := by omega
      have z0 : ¬ ((o : Nat) : Int) = 0 := by omega
      have h1 : (ev cf gl c10_0).t [some (.int (one : Nat)), some (.int (o : Nat))] = some (true, [some (.int (one : Nat)), some (.int (o : Nat))]) := by simp only [g_0, g_s, v_lit, v_var, v_mov, v_own, v_chk, v_bin, v_neg, v_cmp, v_cmp2, v_band, v_bor, v_bnot, v_ite, v_tup, v_lst, v_dct, v_idx, v_slc, v_rev, v_fn, v_isi, v_mth, v_mut, v_call, v_lc, v_ge, v_lof, t_lit, t_var, t_cmp, t_cmp2, t_bin, t_idx, t_fn, t_isi, t_call, t_ge, t_slc, t_mth, t_band, t_bor, t_bnot, i_var, i_call, i_idx, i_bin, i_fn, i_tup, i_lst, i_slc, i_lce, i_ck, i_r1, i_r2, i_r3, i_en, i_zp, i_rv, a_nil, a_cons, o_none, o_some, c_none, c_some, s_nil, s_cons, x_set, x_aug, x_put, x_ex, x_ret, x_ret0, x_iff, x_whl, x_for, x_brk, x_cnt, x_pas, x_doc, b_nm, b_tup, b_lst, b_nil, b_cons, k_nil, k_none, kP, kM, kPI, kPB, kPN, kPO, kPT, kPL, kPE, kPV, kPZ, kOwn, kChk, kBin2, kBin, kNeg, kCmpB, kCmp, kChA, kCh2, kCh, kAnd2, kAnd, kOr2, kOr, kNot, kIte, kTup, kLst, kIdx2, kIdx, kSl3, kSl2, kSl, kRev, kFn, kIsi, kMth2, kMth, kMu3, kMu2, kMu1, kMu, kCa3, kCa2, kCa, kLc2, kLc, kGe2, kGe, kLof, kT, kAndT, kOrT, kNotT, kI, kCk, kR1, kR2b, kR2, kR3c, kR3b, kR3, kEn, kZp2, kZp, kRv, kA2, kA, kO, kSet, kNx, kRt, kSt, kAu2, kAu, kPu3, kPu2, kPu1, kPu, kIf, kFor, kBt, p_add, p_sub, p_mul, p_fdiv, p_mod, p_pow, p_addL, p_addT, p_mulL, q_lt, q_le, q_gt, q_ge, q_eq, q_ne, q_eqT, q_neT, q_eqL, q_neL, q_eqB, q_eqS, q_is, q_isnot, q_inL, q_niL, q_inT, q_niT, u_non, u_bl, u_int, u_lst, u_tup, d_L, d_T, n_n, n_i, n_b, n_s, n_t, n_l, l_lenL, l_lenT, l_lenS, l_abs, l_int, l_min, l_max, l_tupL, l_tupT, l_lstL, l_lstT, l_minL, l_maxL, au_add, au_sub, au_str, l_all, l_any, l_sum, l_srtL, l_srtT, w_ints, w_pures, w_bools, w_sort, w_shps, w_shpI, w_shpB, w_shpN, w_shpT, w_shpL, w_eqs, w_eqT, w_eqL, m_app, y_n_int, y_n_bool, y_n_str, y_n_tuple, y_n_list, y_b_int, y_b_bool, y_b_str, y_b_tuple, y_b_list, y_i_int, y_i_bool, y_i_str, y_i_tuple, y_i_list, y_s_int, y_s_bool, y_s_str, y_s_tuple, y_s_list, y_t_int, y_t_bool, y_t_str, y_t_tuple, y_t_list, y_l_int, y_l_bool, y_l_str, y_l_tuple, y_l_list, r_T, r_L, sl_L, sl_T, wk_L, wk_T, ix_L, lo_L, lo_T, isL_l, isI_i, isB_b, pu_i, pu_b, pu_s, pu_n, pu_t, ow_i, ow_b, ow_l, ow_t, thenS, startE, List.map_cons, List.map_nil, List.cons_append, List.nil_append, List.length_cons, List.length_nil, List.length_replicate, List.replicate, List.set_cons_zero, List.set_cons_succ, List.set_nil, Option.bind_some, Option.map_some, Option.bind_none, Option.map_none, Nat.sub_zero, Nat.reduceSub, Nat.reduceAdd, Bool.not_true, Bool.not_false, if_true, if_false, reduceIte, Bool.false_eq_true, Bool.true_and, Bool.and_true, Bool.false_and, Bool.and_false, decide_true, decide_false, List.tail_cons, List.isEmpty_cons, List.isEmpty_nil, ne_eq, not_true_eq_false, not_false_eq_true, reduceCtorEq, List.append_nil, List.singleton_append, c10_0, z]
      have h2 : execSs cf gl w b10_1 [some (.int (one : Nat)), some (.int (o : Nat))] = some (.nx [some (.int (o : Nat)), some (.int ((one % o : Nat) : Int))]) := by simp only [g_0, g_s, v_lit, v_var, v_mov, v_own, v_chk, v_bin, v_neg, v_cmp, v_cmp2, v_band, v_bor, v_bnot, v_ite, v_tup, v_lst, v_dct, v_idx, v_slc, v_rev, v_fn, v_isi, v_mth, v_mut, v_call, v_lc, v_ge, v_lof, t_lit, t_var, t_cmp, t_cmp2, t_bin, t_idx, t_fn, t_isi, t_call, t_ge, t_slc, t_mth, t_band, t_bor, t_bnot, i_var, i_call, i_idx, i_bin, i_fn, i_tup, i_lst, i_slc, i_lce, i_ck, i_r1, i_r2, i_r3, i_en, i_zp, i_rv, a_nil, a_cons, o_none, o_some, c_none, c_some, s_nil, s_cons, x_set, x_aug, x_put, x_ex, x_ret, x_ret0, x_iff, x_whl, x_for, x_brk, x_cnt, x_pas, x_doc, b_nm, b_tup, b_lst, b_nil, b_cons, k_nil, k_none, kP, kM, kPI, kPB, kPN, kPO, kPT, kPL, kPE, kPV, kPZ, kOwn, kChk, kBin2, kBin, kNeg, kCmpB, kCmp, kChA, kCh2, kCh, kAnd2, kAnd, kOr2, kOr, kNot, kIte, kTup, kLst, kIdx2, kIdx, kSl3, kSl2, kSl, kRev, kFn, kIsi, kMth2, kMth, kMu3, kMu2, kMu1, kMu, kCa3, kCa2, kCa, kLc2, kLc, kGe2, kGe, kLof, kT, kAndT, kOrT, kNotT, kI, kCk, kR1, kR2b, kR2, kR3c, kR3b, kR3, kEn, kZp2, kZp, kRv, kA2, kA, kO, kSet, kNx, kRt, kSt, kAu2, kAu, kPu3, kPu2, kPu1, kPu, kIf, kFor, kBt, p_add, p_sub, p_mul, p_fdiv, p_mod, p_pow, p_addL, p_addT, p_mulL, q_lt, q_le, q_gt, q_ge, q_eq, q_ne, q_eqT, q_neT, q_eqL, q_neL, q_eqB, q_eqS, q_is, q_isnot, q_inL, q_niL, q_inT, q_niT, u_non, u_bl, u_int, u_lst, u_tup, d_L, d_T, n_n, n_i, n_b, n_s, n_t, n_l, l_lenL, l_lenT, l_lenS, l_abs, l_int, l_min, l_max, l_tupL, l_tupT, l_lstL, l_lstT, l_minL, l_maxL, au_add, au_sub, au_str, l_all, l_any, l_sum, l_srtL, l_srtT, w_ints, w_pures, w_bools, w_sort, w_shps, w_shpI, w_shpB, w_shpN, w_shpT, w_shpL, w_eqs, w_eqT, w_eqL, m_app, y_n_int, y_n_bool, y_n_str, y_n_tuple, y_n_list, y_b_int, y_b_bool, y_b_str, y_b_tuple, y_b_list, y_i_int, y_i_bool, y_i_str, y_i_tuple, y_i_list, y_s_int, y_s_bool, y_s_str, y_s_tuple, y_s_list, y_t_int, y_t_bool, y_t_str, y_t_tuple, y_t_list, y_l_int, y_l_bool, y_l_str, y_l_tuple, y_l_list, r_T, r_L, sl_L, sl_T, wk_L, wk_T, ix_L, lo_L, lo_T, isL_l, isI_i, isB_b, pu_i, pu_b, pu_s, pu_n, pu_t, ow_i, ow_b, ow_l, ow_t, thenS, startE, List.map_cons, List.map_nil, List.cons_append, List.nil_append, List.length_cons, List.length_nil, List.length_replicate, List.replicate, List.set_cons_zero, List.set_cons_succ, List.set_nil, Option.bind_some, Option.map_some, Option.bind_none, Option.map_none, Nat.sub_zero, Nat.reduceSub, Nat.reduceAdd, Bool.not_true, Bool.not_false, if_true, if_false, reduceIte, Bool.false_eq_true, Bool.true_and, Bool.and_true, Bool.false_and, Bool.and_false, decide_true, decide_false, List.tail_cons, List.isEmpty_cons, List.isEmpty_nil, ne_eq, not_true_eq_false, not_false_eq_true, reduceCtorEq, List.append_nil, List.singleton_append, b10_1, z0, fmod_cast]
      rw [Nat.gcd_rec]
      simp only [whlL, h1, h2, Option.bind_some, if_true]
      exact e
theorem gcd_run (k : Nat) {g l : Nat} (hq : (Q l g).length < w) : ∃ ρ, run fsL gl w (k + 1) 10 [.int (g : Nat), .int (l : Nat)] = some (.int ((Nat.gcd l g : Nat) : Int), ρ) := by
  obtain ⟨x, e⟩ := gcd_loop (gl := gl) (w := w) (cf := run fsL gl w k) l g w hq
  have z1 : ¬ ((g : Nat) : Int) < 0 := by omega
  have z2 : ¬ ((l : Nat) : Int) < 0 := by omega
  refine ⟨_, run_rt (fn := fn10) (ρ := [some (.int ((Nat.gcd l g : Nat) : Int)), x]) rfl rfl ?_⟩
  simp only [g_0, g_s, v_lit, v_var, v_mov, v_own, v_chk, v_bin, v_neg, v_cmp, v_cmp2, v_band, v_bor, v_bnot, v_ite, v_tup, v_lst, v_dct, v_idx, v_slc, v_rev, v_fn, v_isi, v_mth, v_mut, v_call, v_lc, v_ge, v_lof, t_lit, t_var, t_cmp, t_cmp2, t_bin, t_idx, t_fn, t_isi, t_call, t_ge, t_slc, t_mth, t_band, t_bor, t_bnot, i_var, i_call, i_idx, i_bin, i_fn, i_tup, i_lst, i_slc, i_lce, i_ck, i_r1, i_r2, i_r3, i_en, i_zp, i_rv, a_nil, a_cons, o_none, o_some, c_none, c_some, s_nil, s_cons, x_set, x_aug, x_put, x_ex, x_ret, x_ret0, x_iff, x_whl, x_for, x_brk, x_cnt, x_pas, x_doc, b_nm, b_tup, b_lst, b_nil, b_cons, k_nil, k_none, kP, kM, kPI, kPB, kPN, kPO, kPT, kPL, kPE, kPV, kPZ, kOwn, kChk, kBin2, kBin, kNeg, kCmpB, kCmp, kChA, kCh2, kCh, kAnd2, kAnd, kOr2, kOr, kNot, kIte, kTup, kLst, kIdx2, kIdx, kSl3, kSl2, kSl, kRev, kFn, kIsi, kMth2, kMth, kMu3, kMu2, kMu1, kMu, kCa3, kCa2, kCa, kLc2, kLc, kGe2, kGe, kLof, kT, kAndT, kOrT, kNotT, kI, kCk, kR1, kR2b, kR2, kR3c, kR3b, kR3, kEn, kZp2, kZp, kRv, kA2, kA, kO, kSet, kNx, kRt, kSt, kAu2, kAu, kPu3, kPu2, kPu1, kPu, kIf, kFor, kBt, p_add, p_sub, p_mul, p_fdiv, p_mod, p_pow, p_addL, p_addT, p_mulL, q_lt, q_le, q_gt, q_ge, q_eq, q_ne, q_eqT, q_neT, q_eqL, q_neL, q_eqB, q_eqS, q_is, q_isnot, q_inL, q_niL, q_inT, q_niT, u_non, u_bl, u_int, u_lst, u_tup, d_L, d_T, n_n, n_i, n_b, n_s, n_t, n_l, l_lenL, l_lenT, l_lenS, l_abs, l_int, l_min, l_max, l_tupL, l_tupT, l_lstL, l_lstT, l_minL, l_maxL, au_add, au_sub, au_str, l_all, l_any, l_sum, l_srtL, l_srtT, w_ints, w_pures, w_bools, w_sort, w_shps, w_shpI, w_shpB, w_shpN, w_shpT, w_shpL, w_eqs, w_eqT, w_eqL, m_app, y_n_int, y_n_bool, y_n_str, y_n_tuple, y_n_list, y_b_int, y_b_bool, y_b_str, y_b_tuple, y_b_list, y_i_int, y_i_bool, y_i_str, y_i_tuple, y_i_list, y_s_int, y_s_bool, y_s_str, y_s_tuple, y_s_list, y_t_int, y_t_bool, y_t_str, y_t_tuple, y_t_list, y_l_int, y_l_bool, y_l_str, y_l_tuple, y_l_list, r_T, r_L, sl_L, sl_T, wk_L, wk_T, ix_L, lo_L, lo_T, isL_l, isI_i, isB_b, pu_i, pu_b, pu_s, pu_n, pu_t, ow_i, ow_b, ow_l, ow_t, thenS, startE, List.map_cons, List.map_nil, List.cons_append, List.nil_append, List.length_cons, List.length_nil, List.length_replicate, List.replicate, List.set_cons_zero, List.set_cons_succ, List.set_nil, Option.bind_some, Option.map_some, Option.bind_none, Option.map_none, Nat.sub_zero, Nat.reduceSub, Nat.reduceAdd, Bool.not_true, Bool.not_false, if_true, if_false, reduceIte, Bool.false_eq_true, Bool.true_and, Bool.and_true, Bool.false_and, Bool.and_false, decide_true, decide_false, List.tail_cons, List.isEmpty_cons, List.isEmpty_nil, ne_eq, not_true_eq_false, not_false_eq_true, reduceCtorEq, List.append_nil, List.singleton_append, fn10, z1, z2, e]
/-! the pair of quotients -/
theorem pq_run (k : Nat) {r : List Nat} (hr : ∀ q ∈ r, q ≤ 20) : ∃ ρ, run fsL gl w (k + 1) 1 [tupI (toI r)] = some (prD (pq r).1 (pq r).2, ρ) := by
  have e := forL_fd (F := forF (run fsL gl w k) gl w (.nm 1) b1_0) (fun q : Nat => D.int (q : Nat)) (fun s : (Nat × Nat) × Option D => [some (tupI (toI r)), s.2, some (.int (s.1.1 : Nat)), some (.int (s.1.2 : Nat))]) (fun s q => ((q * s.1.1 + s.1.2, s.1.1), some (.int (q : Nat)))) r.reverse ((1, 0), none) (fun q hq s => by
    have := hr q (List.mem_reverse.mp hq)
    have o1 : mulOk ((q : Nat) : Int) ((s.1.1 : Nat) : Int) = true := mul_ok2 _ (by omega)
    have c1 : ((q : Nat) : Int) * ((s.1.1 : Nat) : Int) + ((s.1.2 : Nat) : Int) = ((q * s.1.1 + s.1.2 : Nat) : Int) := by simp
    simp only [g_0, g_s, v_lit, v_var, v_mov, v_own, v_chk, v_bin, v_neg, v_cmp, v_cmp2, v_band, v_bor, v_bnot, v_ite, v_tup, v_lst, v_dct, v_idx, v_slc, v_rev, v_fn, v_isi, v_mth, v_mut, v_call, v_lc, v_ge, v_lof, t_lit, t_var, t_cmp, t_cmp2, t_bin, t_idx, t_fn, t_isi, t_call, t_ge, t_slc, t_mth, t_band, t_bor, t_bnot, i_var, i_call, i_idx, i_bin, i_fn, i_tup, i_lst, i_slc, i_lce, i_ck, i_r1, i_r2, i_r3, i_en, i_zp, i_rv, a_nil, a_cons, o_none, o_some, c_none, c_some, s_nil, s_cons, x_set, x_aug, x_put, x_ex, x_ret, x_ret0, x_iff, x_whl, x_for, x_brk, x_cnt, x_pas, x_doc, b_nm, b_tup, b_lst, b_nil, b_cons, k_nil, k_none, kP, kM, kPI, kPB, kPN, kPO, kPT, kPL, kPE, kPV, kPZ, kOwn, kChk, kBin2, kBin, kNeg, kCmpB, kCmp, kChA, kCh2, kCh, kAnd2, kAnd, kOr2, kOr, kNot, kIte, kTup, kLst, kIdx2, kIdx, kSl3, kSl2, kSl, kRev, kFn, kIsi, kMth2, kMth, kMu3, kMu2, kMu1, kMu, kCa3, kCa2, kCa, kLc2, kLc, kGe2, kGe, kLof, kT, kAndT, kOrT, kNotT, kI, kCk, kR1, kR2b, kR2, kR3c, kR3b, kR3, kEn, kZp2, kZp, kRv, kA2, kA, kO, kSet, kNx, kRt, kSt, kAu2, kAu, kPu3, kPu2, kPu1, kPu, kIf, kFor, kBt, p_add, p_sub, p_mul, p_fdiv, p_mod, p_pow, p_addL, p_addT, p_mulL, q_lt, q_le, q_gt, q_ge, q_eq, q_ne, q_eqT, q_neT, q_eqL, q_neL, q_eqB, q_eqS, q_is, q_isnot, q_inL, q_niL, q_inT, q_niT, u_non, u_bl, u_int, u_lst, u_tup, d_L, d_T, n_n, n_i, n_b, n_s, n_t, n_l, l_lenL, l_lenT, l_lenS, l_abs, l_int, l_min, l_max, l_tupL, l_tupT, l_lstL, l_lstT, l_minL, l_maxL, au_add, au_sub, au_str, l_all, l_any, l_sum, l_srtL, l_srtT, w_ints, w_pures, w_bools, w_sort, w_shps, w_shpI, w_shpB, w_shpN, w_shpT, w_shpL, w_eqs, w_eqT, w_eqL, m_app, y_n_int, y_n_bool, y_n_str, y_n_tuple, y_n_list, y_b_int, y_b_bool, y_b_str, y_b_tuple, y_b_list, y_i_int, y_i_bool, y_i_str, y_i_tuple, y_i_list, y_s_int, y_s_bool, y_s_str, y_s_tuple, y_s_list, y_t_int, y_t_bool, y_t_str, y_t_tuple, y_t_list, y_l_int, y_l_bool, y_l_str, y_l_tuple, y_l_list, r_T, r_L, sl_L, sl_T, wk_L, wk_T, ix_L, lo_L, lo_T, isL_l, isI_i, isB_b, pu_i, pu_b, pu_s, pu_n, pu_t, ow_i, ow_b, ow_l, ow_t, thenS, startE, List.map_cons, List.map_nil, List.cons_append, List.nil_append, List.length_cons, List.length_nil, List.length_replicate, List.replicate, List.set_cons_zero, List.set_cons_succ, List.set_nil, Option.bind_some, Option.map_some, Option.bind_none, Option.map_none, Nat.sub_zero, Nat.reduceSub, Nat.reduceAdd, Bool.not_true, Bool.not_false, if_true, if_false, reduceIte, Bool.false_eq_true, Bool.true_and, Bool.and_true, Bool.false_and, Bool.and_false, decide_true, decide_false, List.tail_cons, List.isEmpty_cons, List.isEmpty_nil, ne_eq, not_true_eq_false, not_false_eq_true, reduceCtorEq, List.append_nil, List.singleton_append, forF, b1_0, o1, c1])
  have key : ∀ (r : List Nat), (r.reverse.foldl (fun (s : (Nat × Nat) × Option D) q => ((q * s.1.1 + s.1.2, s.1.1), some (D.int (q : Nat)))) ((1, 0), none)).1 = pq r := by
    intro r
    rw [List.foldl_reverse]
    induction r with
    | nil => rfl
    | cons q r ih =>
      rw [List.foldr_cons]
      show (q * _ + _, _) = _
      rw [ih]; rfl
  have k2 := key r
  generalize r.reverse.foldl (fun (s : (Nat × Nat) × Option D) q => ((q * s.1.1 + s.1.2, s.1.1), some (D.int (q : Nat)))) ((1, 0), none) = S at e k2
  rw [List.map_reverse] at e
  have e' : (r.map fun q : Nat => D.int (q : Nat)) = (toI r).map D.int := by unfold toI; rw [List.map_map]; rfl
  rw [e'] at e
  rw [← k2]
  have e : forL (forF (run fsL gl w k) gl w (.nm 1) b1_0) ((toI r).map D.int).reverse [some (tupI (toI r)), none, some (.int 1), some (.int 0)] = some (.nx [some (tupI (toI r)), S.2, some (.int (S.1.1 : Nat)), some (.int (S.1.2 : Nat))]) := e
  have pd : D.pures [.int ((S.1.1 : Nat) : Int), .int ((S.1.2 : Nat) : Int)] = true := rfl
  refine ⟨_, run_rt (fn := fn1) (ρ := [some (tupI (toI r)), S.2, some (.int (S.1.1 : Nat)), some (.int (S.1.2 : Nat))]) rfl rfl ?_⟩
  simp only [tupI, prD] at e ⊢
  simp only [g_0, g_s, v_lit, v_var, v_mov, v_own, v_chk, v_bin, v_neg, v_cmp, v_cmp2, v_band, v_bor, v_bnot, v_ite, v_tup, v_lst, v_dct, v_idx, v_slc, v_rev, v_fn, v_isi, v_mth, v_mut, v_call, v_lc, v_ge, v_lof, t_lit, t_var, t_cmp, t_cmp2, t_bin, t_idx, t_fn, t_isi, t_call, t_ge, t_slc, t_mth, t_band, t_bor, t_bnot, i_var, i_call, i_idx, i_bin, i_fn, i_tup, i_lst, i_slc, i_lce, i_ck, i_r1, i_r2, i_r3, i_en, i_zp, i_rv, a_nil, a_cons, o_none, o_some, c_none, c_some, s_nil, s_cons, x_set, x_aug, x_put, x_ex, x_ret, x_ret0, x_iff, x_whl, x_for, x_brk, x_cnt, x_pas, x_doc, b_nm, b_tup, b_lst, b_nil, b_cons, k_nil, k_none, kP, kM, kPI, kPB, kPN, kPO, kPT, kPL, kPE, kPV, kPZ, kOwn, kChk, kBin2, kBin, kNeg, kCmpB, kCmp, kChA, kCh2, kCh, kAnd2, kAnd, kOr2, kOr, kNot, kIte, kTup, kLst, kIdx2, kIdx, kSl3, kSl2, kSl, kRev, kFn, kIsi, kMth2, kMth, kMu3, kMu2, kMu1, kMu, kCa3, kCa2, kCa, kLc2, kLc, kGe2, kGe, kLof, kT, kAndT, kOrT, kNotT, kI, kCk, kR1, kR2b, kR2, kR3c, kR3b, kR3, kEn, kZp2, kZp, kRv, kA2, kA, kO, kSet, kNx, kRt, kSt, kAu2, kAu, kPu3, kPu2, kPu1, kPu, kIf, kFor, kBt, p_add, p_sub, p_mul, p_fdiv, p_mod, p_pow, p_addL, p_addT, p_mulL, q_lt, q_le, q_gt, q_ge, q_eq, q_ne, q_eqT, q_neT, q_eqL, q_neL, q_eqB, q_eqS, q_is, q_isnot, q_inL, q_niL, q_inT, q_niT, u_non, u_bl, u_int, u_lst, u_tup, d_L, d_T, n_n, n_i, n_b, n_s, n_t, n_l, l_lenL, l_lenT, l_lenS, l_abs, l_int, l_min, l_max, l_tupL, l_tupT, l_lstL, l_lstT, l_minL, l_maxL, au_add, au_sub, au_str, l_all, l_any, l_sum, l_srtL, l_srtT, w_ints, w_pures, w_bools, w_sort, w_shps, w_shpI, w_shpB, w_shpN, w_shpT, w_shpL, w_eqs, w_eqT, w_eqL, m_app, y_n_int, y_n_bool, y_n_str, y_n_tuple, y_n_list, y_b_int, y_b_bool, y_b_str, y_b_tuple, y_b_list, y_i_int, y_i_bool, y_i_str, y_i_tuple, y_i_list, y_s_int, y_s_bool, y_s_str, y_s_tuple, y_s_list, y_t_int, y_t_bool, y_t_str, y_t_tuple, y_t_list, y_l_int, y_l_bool, y_l_str, y_l_tuple, y_l_list, r_T, r_L, sl_L, sl_T, wk_L, wk_T, ix_L, lo_L, lo_T, isL_l, isI_i, isB_b, pu_i, pu_b, pu_s, pu_n, pu_t, ow_i, ow_b, ow_l, ow_t, thenS, startE, List.map_cons, List.map_nil, List.cons_append, List.nil_append, List.length_cons, List.length_nil, List.length_replicate, List.replicate, List.set_cons_zero, List.set_cons_succ, List.set_nil, Option.bind_some, Option.map_some, Option.bind_none, Option.map_none, Nat.sub_zero, Nat.reduceSub, Nat.reduceAdd, Bool.not_true, Bool.not_false, if_true, if_false, reduceIte, Bool.false_eq_true, Bool.true_and, Bool.and_true, Bool.false_and, Bool.and_false, decide_true, decide_false, List.tail_cons, List.isEmpty_cons, List.isEmpty_nil, ne_eq, not_true_eq_false, not_false_eq_true, reduceCtorEq, List.append_nil, List.singleton_append, fn1, it_T, e, pd]
/-! rows -/
theorem ok2_app : ∀ (r : List Nat) (z : Nat), (∀ q ∈ r, 1 ≤ q) → 2 ≤ z → ok2 (r ++ [z])
  | [], z, _, hz => hz
  | [q], z, h, hz => ⟨h q (List.mem_cons_self ..), hz⟩
  | q :: x :: s, z, h, hz => ⟨h q (List.mem_cons_self ..), ok2_app (x :: s) z (fun y hy => h y (List.mem_cons_of_mem _ hy)) hz⟩
theorem ok1_app : ∀ (r : List Nat) (z : Nat), (∀ q ∈ r, 1 ≤ q) → 1 ≤ z → (r = [] ∨ 2 ≤ z) → ok1 (r ++ [z])
  | [], z, _, hz, _ => hz
  | [q], z, h, _, hz => ⟨h q (List.mem_cons_self ..), hz.resolve_left (by simp)⟩
  | q :: x :: s, z, h, _, hz => ⟨h q (List.mem_cons_self ..), ok2_app (x :: s) z (fun y hy => h y (List.mem_cons_of_mem _ hy)) (hz.resolve_left (by simp))⟩
theorem toI_app (a b : List Nat) : toI (a ++ b) = toI a ++ toI b := by unfold toI; rw [List.map_append]
def st9 : S := .iff (.band (.cmp .gt (.fn .len [(.var 11)]) (.lit (.int 1))) (.cmp .eq (.idx (.var 11) (.bin .sub (.fn .len [(.var 11)]) (.lit (.int 1)))) (.lit (.int 1)))) [.set (.nm 11) (.bin .add (.slc (.var 11) none (some (.bin .sub (.fn .len [(.var 11)]) (.lit (.int 1))))) (.tup [(.lit (.int 2))]))] []
theorem row_fix {cf : Fns} {r0 : List Nat} (h0 : r0 ≠ []) (hq : ∀ q ∈ r0, 1 ≤ q ∧ q ≤ 20) (hl : r0.length ≤ 12) : ∃ r : List Nat, ok1 r ∧ (∀ q ∈ r, 1 ≤ q ∧ q ≤ 20) ∧ r.length ≤ 12 ∧ execS cf gl w st9 (mkE 15 [(11, tupI (toI r0))]) = some (.nx (mkE 15 [(11, tupI (toI r))])) := by
  rcases List.eq_nil_or_concat r0 with e | ⟨r, z, e⟩
  · exact absurd e h0
  · rw [List.concat_eq_append] at e
    subst e
    have hz := hq z (by simp)
    have hr : ∀ q ∈ r, 1 ≤ q ∧ q ≤ 20 := fun q h => hq q (by simp [h])
    have ll : (toI (r ++ [z])).length = r.length + 1 := by unfold toI; simp
    have lr : r.length ≤ 11 := by simp at hl; omega
    have q1 : ((r.length + 1 : Nat) : Int) - 1 = ((r.length : Nat) : Int) := by omega
    have g1 : ((toI (r ++ [z])).map D.int)[r.length]? = some (.int ((z : Nat) : Int)) := by unfold toI; simp
    have i1 : ixn (r.length + 1) ((r.length : Nat) : Int) = some r.length := ixn_of (by omega)
    by_cases hr0 : r = []
    · refine ⟨r ++ [z], ok1_app r z (fun q h => (hr q h).1) hz.1 (.inl hr0), hq, hl, ?_⟩
      have n1 : ¬ (1 : Int) < ((r.length + 1 : Nat) : Int) := by subst hr0; decide
      simp only [mkE, tupI]
      simp only [g_0, g_s, v_lit, v_var, v_mov, v_own, v_chk, v_bin, v_neg, v_cmp, v_cmp2, v_band, v_bor, v_bnot, v_ite, v_tup, v_lst, v_dct, v_idx, v_slc, v_rev, v_fn, v_isi, v_mth, v_mut, v_call, v_lc, v_ge, v_lof, t_lit, t_var, t_cmp, t_cmp2, t_bin, t_idx, t_fn, t_isi, t_call, t_ge, t_slc, t_mth, t_band, t_bor, t_bnot, i_var, i_call, i_idx, i_bin, i_fn, i_tup, i_lst, i_slc, i_lce, i_ck, i_r1, i_r2, i_r3, i_en, i_zp, i_rv, a_nil, a_cons, o_none, o_some, c_none, c_some, s_nil, s_cons, x_set, x_aug, x_put, x_ex, x_ret, x_ret0, x_iff, x_whl, x_for, x_brk, x_cnt, x_pas, x_doc, b_nm, b_tup, b_lst, b_nil, b_cons, k_nil, k_none, kP, kM, kPI, kPB, kPN, kPO, kPT, kPL, kPE, kPV, kPZ, kOwn, kChk, kBin2, kBin, kNeg, kCmpB, kCmp, kChA, kCh2, kCh, kAnd2, kAnd, kOr2, kOr, kNot, kIte, kTup, kLst, kIdx2, kIdx, kSl3, kSl2, kSl, kRev, kFn, kIsi, kMth2, kMth, kMu3, kMu2, kMu1, kMu, kCa3, kCa2, kCa, kLc2, kLc, kGe2, kGe, kLof, kT, kAndT, kOrT, kNotT, kI, kCk, kR1, kR2b, kR2, kR3c, kR3b, kR3, kEn, kZp2, kZp, kRv, kA2, kA, kO, kSet, kNx, kRt, kSt, kAu2, kAu, kPu3, kPu2, kPu1, kPu, kIf, kFor, kBt, p_add, p_sub, p_mul, p_fdiv, p_mod, p_pow, p_addL, p_addT, p_mulL, q_lt, q_le, q_gt, q_ge, q_eq, q_ne, q_eqT, q_neT, q_eqL, q_neL, q_eqB, q_eqS, q_is, q_isnot, q_inL, q_niL, q_inT, q_niT, u_non, u_bl, u_int, u_lst, u_tup, d_L, d_T, n_n, n_i, n_b, n_s, n_t, n_l, l_lenL, l_lenT, l_lenS, l_abs, l_int, l_min, l_max, l_tupL, l_tupT, l_lstL, l_lstT, l_minL, l_maxL, au_add, au_sub, au_str, l_all, l_any, l_sum, l_srtL, l_srtT, w_ints, w_pures, w_bools, w_sort, w_shps, w_shpI, w_shpB, w_shpN, w_shpT, w_shpL, w_eqs, w_eqT, w_eqL, m_app, y_n_int, y_n_bool, y_n_str, y_n_tuple, y_n_list, y_b_int, y_b_bool, y_b_str, y_b_tuple, y_b_list, y_i_int, y_i_bool, y_i_str, y_i_tuple, y_i_list, y_s_int, y_s_bool, y_s_str, y_s_tuple, y_s_list, y_t_int, y_t_bool, y_t_str, y_t_tuple, y_t_list, y_l_int, y_l_bool, y_l_str, y_l_tuple, y_l_list, r_T, r_L, sl_L, sl_T, wk_L, wk_T, ix_L, lo_L, lo_T, isL_l, isI_i, isB_b, pu_i, pu_b, pu_s, pu_n, pu_t, ow_i, ow_b, ow_l, ow_t, thenS, startE, List.map_cons, List.map_nil, List.cons_append, List.nil_append, List.length_cons, List.length_nil, List.length_replicate, List.replicate, List.set_cons_zero, List.set_cons_succ, List.set_nil, Option.bind_some, Option.map_some, Option.bind_none, Option.map_none, Nat.sub_zero, Nat.reduceSub, Nat.reduceAdd, Bool.not_true, Bool.not_false, if_true, if_false, reduceIte, Bool.false_eq_true, Bool.true_and, Bool.and_true, Bool.false_and, Bool.and_false, decide_true, decide_false, List.tail_cons, List.isEmpty_cons, List.isEmpty_nil, ne_eq, not_true_eq_false, not_false_eq_true, reduceCtorEq, List.append_nil, List.singleton_append, st9, len_int, ll, n1]
    · have n1 : (1 : Int) < ((r.length + 1 : Nat) : Int) := by
        have := List.length_pos_iff.mpr hr0
        omega
      by_cases hz1 : z = 1
      · subst hz1
        refine ⟨r ++ [2], ok1_app r 2 (fun q h => (hr q h).1) (by omega) (.inr (by omega)), fun q h => ?_, by simp; omega, ?_⟩
        · rcases List.mem_append.mp h with h | h
          · exact hr q h
          · rw [List.mem_singleton.mp h]; omega
        · have z1 : (((1 : Nat) : Int) == 1) = true := rfl
          have c1 : cut ((toI (r ++ [1])).map D.int) none (some ((r.length : Nat) : Int)) = (toI r).map D.int := by
            rw [cut_to]; unfold toI; simp
          have ct : catLen ((toI r).map D.int) [D.int 2] = true := by unfold catLen sz toI; simp; omega
          have ap : (toI r).map D.int ++ [D.int 2] = (toI (r ++ [2])).map D.int := by rw [toI_app]; unfold toI; simp
          simp only [mkE, tupI]
          simp only [g_0, g_s, v_lit, v_var, v_mov, v_own, v_chk, v_bin, v_neg, v_cmp, v_cmp2, v_band, v_bor, v_bnot, v_ite, v_tup, v_lst, v_dct, v_idx, v_slc, v_rev, v_fn, v_isi, v_mth, v_mut, v_call, v_lc, v_ge, v_lof, t_lit, t_var, t_cmp, t_cmp2, t_bin, t_idx, t_fn, t_isi, t_call, t_ge, t_slc, t_mth, t_band, t_bor, t_bnot, i_var, i_call, i_idx, i_bin, i_fn, i_tup, i_lst, i_slc, i_lce, i_ck, i_r1, i_r2, i_r3, i_en, i_zp, i_rv, a_nil, a_cons, o_none, o_some, c_none, c_some, s_nil, s_cons, x_set, x_aug, x_put, x_ex, x_ret, x_ret0, x_iff, x_whl, x_for, x_brk, x_cnt, x_pas, x_doc, b_nm, b_tup, b_lst, b_nil, b_cons, k_nil, k_none, kP, kM, kPI, kPB, kPN, kPO, kPT, kPL, kPE, kPV, kPZ, kOwn, kChk, kBin2, kBin, kNeg, kCmpB, kCmp, kChA, kCh2, kCh, kAnd2, kAnd, kOr2, kOr, kNot, kIte, kTup, kLst, kIdx2, kIdx, kSl3, kSl2, kSl, kRev, kFn, kIsi, kMth2, kMth, kMu3, kMu2, kMu1, kMu, kCa3, kCa2, kCa, kLc2, kLc, kGe2, kGe, kLof, kT, kAndT, kOrT, kNotT, kI, kCk, kR1, kR2b, kR2, kR3c, kR3b, kR3, kEn, kZp2, kZp, kRv, kA2, kA, kO, kSet, kNx, kRt, kSt, kAu2, kAu, kPu3, kPu2, kPu1, kPu, kIf, kFor, kBt, p_add, p_sub, p_mul, p_fdiv, p_mod, p_pow, p_addL, p_addT, p_mulL, q_lt, q_le, q_gt, q_ge, q_eq, q_ne, q_eqT, q_neT, q_eqL, q_neL, q_eqB, q_eqS, q_is, q_isnot, q_inL, q_niL, q_inT, q_niT, u_non, u_bl, u_int, u_lst, u_tup, d_L, d_T, n_n, n_i, n_b, n_s, n_t, n_l, l_lenL, l_lenT, l_lenS, l_abs, l_int, l_min, l_max, l_tupL, l_tupT, l_lstL, l_lstT, l_minL, l_maxL, au_add, au_sub, au_str, l_all, l_any, l_sum, l_srtL, l_srtT, w_ints, w_pures, w_bools, w_sort, w_shps, w_shpI, w_shpB, w_shpN, w_shpT, w_shpL, w_eqs, w_eqT, w_eqL, m_app, y_n_int, y_n_bool, y_n_str, y_n_tuple, y_n_list, y_b_int, y_b_bool, y_b_str, y_b_tuple, y_b_list, y_i_int, y_i_bool, y_i_str, y_i_tuple, y_i_list, y_s_int, y_s_bool, y_s_str, y_s_tuple, y_s_list, y_t_int, y_t_bool, y_t_str, y_t_tuple, y_t_list, y_l_int, y_l_bool, y_l_str, y_l_tuple, y_l_list, r_T, r_L, sl_L, sl_T, wk_L, wk_T, ix_L, lo_L, lo_T, isL_l, isI_i, isB_b, pu_i, pu_b, pu_s, pu_n, pu_t, ow_i, ow_b, ow_l, ow_t, thenS, startE, List.map_cons, List.map_nil, List.cons_append, List.nil_append, List.length_cons, List.length_nil, List.length_replicate, List.replicate, List.set_cons_zero, List.set_cons_succ, List.set_nil, Option.bind_some, Option.map_some, Option.bind_none, Option.map_none, Nat.sub_zero, Nat.reduceSub, Nat.reduceAdd, Bool.not_true, Bool.not_false, if_true, if_false, reduceIte, Bool.false_eq_true, Bool.true_and, Bool.and_true, Bool.false_and, Bool.and_false, decide_true, decide_false, List.tail_cons, List.isEmpty_cons, List.isEmpty_nil, ne_eq, not_true_eq_false, not_false_eq_true, reduceCtorEq, List.append_nil, List.singleton_append, st9, len_int, ll, n1, q1, i1, g1, z1, c1, ct, ap]
      · refine ⟨r ++ [z], ok1_app r z (fun q h => (hr q h).1) hz.1 (.inr (by omega)), hq, hl, ?_⟩
        have z1 : (((z : Nat) : Int) == 1) = false := by rw [beq_eq_false_iff_ne]; omega
        simp only [mkE, tupI]
        simp only [g_0, g_s, v_lit, v_var, v_mov, v_own, v_chk, v_bin, v_neg, v_cmp, v_cmp2, v_band, v_bor, v_bnot, v_ite, v_tup, v_lst, v_dct, v_idx, v_slc, v_rev, v_fn, v_isi, v_mth, v_mut, v_call, v_lc, v_ge, v_lof, t_lit, t_var, t_cmp, t_cmp2, t_bin, t_idx, t_fn, t_isi, t_call, t_ge, t_slc, t_mth, t_band, t_bor, t_bnot, i_var, i_call, i_idx, i_bin, i_fn, i_tup, i_lst, i_slc, i_lce, i_ck, i_r1, i_r2, i_r3, i_en, i_zp, i_rv, a_nil, a_cons, o_none, o_some, c_none, c_some, s_nil, s_cons, x_set, x_aug, x_put, x_ex, x_ret, x_ret0, x_iff, x_whl, x_for, x_brk, x_cnt, x_pas, x_doc, b_nm, b_tup, b_lst, b_nil, b_cons, k_nil, k_none, kP, kM, kPI, kPB, kPN, kPO, kPT, kPL, kPE, kPV, kPZ, kOwn, kChk, kBin2, kBin, kNeg, kCmpB, kCmp, kChA, kCh2, kCh, kAnd2, kAnd, kOr2, kOr, kNot, kIte, kTup, kLst, kIdx2, kIdx, kSl3, kSl2, kSl, kRev, kFn, kIsi, kMth2, kMth, kMu3, kMu2, kMu1, kMu, kCa3, kCa2, kCa, kLc2, kLc, kGe2, kGe, kLof, kT, kAndT, kOrT, kNotT, kI, kCk, kR1, kR2b, kR2, kR3c, kR3b, kR3, kEn, kZp2, kZp, kRv, kA2, kA, kO, kSet, kNx, kRt, kSt, kAu2, kAu, kPu3, kPu2, kPu1, kPu, kIf, kFor, kBt, p_add, p_sub, p_mul, p_fdiv, p_mod, p_pow, p_addL, p_addT, p_mulL, q_lt, q_le, q_gt, q_ge, q_eq, q_ne, q_eqT, q_neT, q_eqL, q_neL, q_eqB, q_eqS, q_is, q_isnot, q_inL, q_niL, q_inT, q_niT, u_non, u_bl, u_int, u_lst, u_tup, d_L, d_T, n_n, n_i, n_b, n_s, n_t, n_l, l_lenL, l_lenT, l_lenS, l_abs, l_int, l_min, l_max, l_tupL, l_tupT, l_lstL, l_lstT, l_minL, l_maxL, au_add, au_sub, au_str, l_all, l_any, l_sum, l_srtL, l_srtT, w_ints, w_pures, w_bools, w_sort, w_shps, w_shpI, w_shpB, w_shpN, w_shpT, w_shpL, w_eqs, w_eqT, w_eqL, m_app, y_n_int, y_n_bool, y_n_str, y_n_tuple, y_n_list, y_b_int, y_b_bool, y_b_str, y_b_tuple, y_b_list, y_i_int, y_i_bool, y_i_str, y_i_tuple, y_i_list, y_s_int, y_s_bool, y_s_str, y_s_tuple, y_s_list, y_t_int, y_t_bool, y_t_str, y_t_tuple, y_t_list, y_l_int, y_l_bool, y_l_str, y_l_tuple, y_l_list, r_T, r_L, sl_L, sl_T, wk_L, wk_T, ix_L, lo_L, lo_T, isL_l, isI_i, isB_b, pu_i, pu_b, pu_s, pu_n, pu_t, ow_i, ow_b, ow_l, ow_t, thenS, startE, List.map_cons, List.map_nil, List.cons_append, List.nil_append, List.length_cons, List.length_nil, List.length_replicate, List.replicate, List.set_cons_zero, List.set_cons_succ, List.set_nil, Option.bind_some, Option.map_some, Option.bind_none, Option.map_none, Nat.sub_zero, Nat.reduceSub, Nat.reduceAdd, Bool.not_true, Bool.not_false, if_true, if_false, reduceIte, Bool.false_eq_true, Bool.true_and, Bool.and_true, Bool.false_and, Bool.and_false, decide_true, decide_false, List.tail_cons, List.isEmpty_cons, List.isEmpty_nil, ne_eq, not_true_eq_false, not_false_eq_true, reduceCtorEq, List.append_nil, List.singleton_append, st9, len_int, ll, n1, q1, i1, g1, z1]
theorem p21 : (21 : Nat) ^ 12 < 2 ^ 64 := by decide +kernel
/-- what is asked of a row -/
theorem row_asked (k : Nat) {r : List Nat} (h1 : ok1 r) (hq : ∀ q ∈ r, 1 ≤ q ∧ q ≤ 20) (hl : r.length ≤ 12) (hw : 200 < w) : execSs (run fsL gl w (k + 8)) gl w (b16_3.drop 10) (mkE 15 [(11, tupI (toI r))]) = some (.nx (mkE 15 [(11, tupI (toI r)), (12, prD (pq r).1 (pq r).2)])) := by
  obtain ⟨a1, a2, a3⟩ := pq1 r h1
  have hb := (pq_le r hq).2
  have hbg : (pq r).1 < 2 ^ 64 := Nat.lt_of_le_of_lt (Nat.le_trans hb (Nat.pow_le_pow_right (by decide) hl)) p21
  clear hb
  have hgc := pq_gcd r
  obtain ⟨ρ1, e1⟩ := pq_run (gl := gl) (w := w) (k + 7) (r := r) (fun q h => (hq q h).2)
  generalize (pq r).1 = g at *
  generalize (pq r).2 = l at *
  have mn : min g l = l := by omega
  have mx : max g l = g := by omega
  obtain ⟨ρ2, e2⟩ := lquo_run (gl := gl) (w := w) (k + 7) (a := g) (b := l) (by rw [mn, mx, a3]; omega) hbg hw
  obtain ⟨ρ3, e3⟩ := quo_run (gl := gl) (w := w) (k + 7) (a := g) (b := l) (by rw [mn, mx, a3]; omega) hbg hw
  have eQ : QI l g = toI r := by unfold QI; rw [a3]
  rw [mn, mx, eQ] at e2 e3
  obtain ⟨ρ4, e4⟩ := gcd_run (gl := gl) (w := w) (k + 7) (g := g) (l := l) (by rw [a3]; omega)
  rw [Nat.gcd_comm, hgc] at e4
  obtain ⟨ρ5, e5⟩ := is_tup (gl := gl) (w := w) (k + 5) (toI r) (by unfold toI; rw [List.length_map]; omega)
  obtain ⟨ρ', e6, c, rfl⟩ := lcL_st (F := lcF (run fsL gl w (k + 8)) gl (.nm 14) none e16_2) (I := fun ρ => ∃ c, ρ = [none, none, none, none, none, none, none, none, none, none, none, some (tupI (toI r)), some (prD g l), none, c]) (fun z : Int => D.int z) (fun z => some (.bl true)) [((g : Nat) : Int), ((l : Nat) : Int)] [none, none, none, none, none, none, none, none, none, none, none, some (tupI (toI r)), some (prD g l), none, none] ⟨_, rfl⟩ (fun z _ ρ hI => by
    obtain ⟨c, rfl⟩ := hI
    have e0 := isInt_run (fs := fsL) (gl := gl) (w := w) (k := k + 7) (i := 8) rfl z
    refine ⟨_, ?_, some (.int z), rfl⟩
    simp only [g_0, g_s, v_lit, v_var, v_mov, v_own, v_chk, v_bin, v_neg, v_cmp, v_cmp2, v_band, v_bor, v_bnot, v_ite, v_tup, v_lst, v_dct, v_idx, v_slc, v_rev, v_fn, v_isi, v_mth, v_mut, v_call, v_lc, v_ge, v_lof, t_lit, t_var, t_cmp, t_cmp2, t_bin, t_idx, t_fn, t_isi, t_call, t_ge, t_slc, t_mth, t_band, t_bor, t_bnot, i_var, i_call, i_idx, i_bin, i_fn, i_tup, i_lst, i_slc, i_lce, i_ck, i_r1, i_r2, i_r3, i_en, i_zp, i_rv, a_nil, a_cons, o_none, o_some, c_none, c_some, s_nil, s_cons, x_set, x_aug, x_put, x_ex, x_ret, x_ret0, x_iff, x_whl, x_for, x_brk, x_cnt, x_pas, x_doc, b_nm, b_tup, b_lst, b_nil, b_cons, k_nil, k_none, kP, kM, kPI, kPB, kPN, kPO, kPT, kPL, kPE, kPV, kPZ, kOwn, kChk, kBin2, kBin, kNeg, kCmpB, kCmp, kChA, kCh2, kCh, kAnd2, kAnd, kOr2, kOr, kNot, kIte, kTup, kLst, kIdx2, kIdx, kSl3, kSl2, kSl, kRev, kFn, kIsi, kMth2, kMth, kMu3, kMu2, kMu1, kMu, kCa3, kCa2, kCa, kLc2, kLc, kGe2, kGe, kLof, kT, kAndT, kOrT, kNotT, kI, kCk, kR1, kR2b, kR2, kR3c, kR3b, kR3, kEn, kZp2, kZp, kRv, kA2, kA, kO, kSet, kNx, kRt, kSt, kAu2, kAu, kPu3, kPu2, kPu1, kPu, kIf, kFor, kBt, p_add, p_sub, p_mul, p_fdiv, p_mod, p_pow, p_addL, p_addT, p_mulL, q_lt, q_le, q_gt, q_ge, q_eq, q_ne, q_eqT, q_neT, q_eqL, q_neL, q_eqB, q_eqS, q_is, q_isnot, q_inL, q_niL, q_inT, q_niT, u_non, u_bl, u_int, u_lst, u_tup, d_L, d_T, n_n, n_i, n_b, n_s, n_t, n_l, l_lenL, l_lenT, l_lenS, l_abs, l_int, l_min, l_max, l_tupL, l_tupT, l_lstL, l_lstT, l_minL, l_maxL, au_add, au_sub, au_str, l_all, l_any, l_sum, l_srtL, l_srtT, w_ints, w_pures, w_bools, w_sort, w_shps, w_shpI, w_shpB, w_shpN, w_shpT, w_shpL, w_eqs, w_eqT, w_eqL, m_app, y_n_int, y_n_bool, y_n_str, y_n_tuple, y_n_list, y_b_int, y_b_bool, y_b_str, y_b_tuple, y_b_list, y_i_int, y_i_bool, y_i_str, y_i_tuple, y_i_list, y_s_int, y_s_bool, y_s_str, y_s_tuple, y_s_list, y_t_int, y_t_bool, y_t_str, y_t_tuple, y_t_list, y_l_int, y_l_bool, y_l_str, y_l_tuple, y_l_list, r_T, r_L, sl_L, sl_T, wk_L, wk_T, ix_L, lo_L, lo_T, isL_l, isI_i, isB_b, pu_i, pu_b, pu_s, pu_n, pu_t, ow_i, ow_b, ow_l, ow_t, thenS, startE, List.map_cons, List.map_nil, List.cons_append, List.nil_append, List.length_cons, List.length_nil, List.length_replicate, List.replicate, List.set_cons_zero, List.set_cons_succ, List.set_nil, Option.bind_some, Option.map_some, Option.bind_none, Option.map_none, Nat.sub_zero, Nat.reduceSub, Nat.reduceAdd, Bool.not_true, Bool.not_false, if_true, if_false, reduceIte, Bool.false_eq_true, Bool.true_and, Bool.and_true, Bool.false_and, Bool.and_false, decide_true, decide_false, List.tail_cons, List.isEmpty_cons, List.isEmpty_nil, ne_eq, not_true_eq_false, not_false_eq_true, reduceCtorEq, List.append_nil, List.singleton_append, lcF, lcC, lcT, lcK, slotsT, wipeE, e16_2, e0]) (by show 2 ≤ sz; unfold sz; omega)
  have e6 : lcL (lcF (run fsL gl w (k + 8)) gl (.nm 14) none e16_2) [.int ((g : Nat) : Int), .int ((l : Nat) : Int)] [none, none, none, none, none, none, none, none, none, none, none, some (tupI (toI r)), some (prD g l), none, none] [] = some ([.bl true, .bl true], [none, none, none, none, none, none, none, none, none, none, none, some (tupI (toI r)), some (prD g l), none, c]) := e6
  have bo : boolsD [.bl true, .bl true] = some [true, true] := rfl
  have ai : [true, true].all id = true := rfl
  have z2 : (((2 : Nat) : Int) == 2) = true := rfl
  have i0 : ixn 2 0 = some 0 := rfl
  have i1 : ixn 2 1 = some 1 := rfl
  have n1 : ¬ ((l : Nat) : Int) < 1 := by omega
  have n2 : ¬ ((g : Nat) : Int) < ((l : Nat) : Int) := by omega
  have z1 : (((1 : Nat) : Int) == 1) = true := rfl
  have hp : (10 : Int) ^ (9 : Int).toNat = 10 ^ 9 := rfl
  have hpq : (0 : Int) ≤ 9 ∧ (9 : Int) ≤ 1000000 ∧ (10 : Int).natAbs < 18446744073709551616 := by decide
  have dt : decide (toI r = toI r) = true := decide_eq_true rfl
  rw [show b16_3.drop 10 = [.set (.nm 12) (.call 1 [(.var 11)] [none]), .iff (.bor (.bnot (.isi (.var 12) .tuple)) (.bor (.cmp .ne (.fn .len [(.var 12)]) (.lit (.int 2))) (.bnot (.fn .all [(.lc e16_2 (.nm 14) (.var 12) none)])))) [.ret (.lit (.bl false))] [], .iff (.bor (.cmp .lt (.idx (.var 12) (.lit (.int 1))) (.lit (.int 1))) (.bor (.cmp .lt (.idx (.var 12) (.lit (.int 0))) (.idx (.var 12) (.lit (.int 1)))) (.bor (.cmp .ne (.call 10 [(.idx (.var 12) (.lit (.int 0))), (.idx (.var 12) (.lit (.int 1)))] [none, none]) (.lit (.int 1))) (.cmp .ne (.call 13 [(.var 12)] [none]) (.var 11))))) [.ret (.lit (.bl false))] [], .iff (.band (.cmp .lt (.idx (.var 12) (.lit (.int 0))) (.bin .pow (.lit (.int 10)) (.lit (.int 9)))) (.bnot (.call 9 [(.call 0 [(.var 12)] [none]), (.var 11)] [none, none]))) [.ret (.lit (.bl false))] []] from rfl]
  simp only [mkE, tupI, prD] at e1 e2 e3 e5 e6 ⊢
  have t0 : execS (run fsL gl w (k + 8)) gl w (.set (.nm 12) (.call 1 [(.var 11)] [none])) [none, none, none, none, none, none, none, none, none, none, none, some (.tup ((toI r).map D.int)), none, none, none] = some (.nx [none, none, none, none, none, none, none, none, none, none, none, some (.tup ((toI r).map D.int)), some (.tup [.int ((g : Nat) : Int), .int ((l : Nat) : Int)]), none, none]) := by
    simp only [g_0, g_s, v_lit, v_var, v_mov, v_own, v_chk, v_bin, v_neg, v_cmp, v_cmp2, v_band, v_bor, v_bnot, v_ite, v_tup, v_lst, v_dct, v_idx, v_slc, v_rev, v_fn, v_isi, v_mth, v_mut, v_call, v_lc, v_ge, v_lof, t_lit, t_var, t_cmp, t_cmp2, t_bin, t_idx, t_fn, t_isi, t_call, t_ge, t_slc, t_mth, t_band, t_bor, t_bnot, i_var, i_call, i_idx, i_bin, i_fn, i_tup, i_lst, i_slc, i_lce, i_ck, i_r1, i_r2, i_r3, i_en, i_zp, i_rv, a_nil, a_cons, o_none, o_some, c_none, c_some, s_nil, s_cons, x_set, x_aug, x_put, x_ex, x_ret, x_ret0, x_iff, x_whl, x_for, x_brk, x_cnt, x_pas, x_doc, b_nm, b_tup, b_lst, b_nil, b_cons, k_nil, k_none, kP, kM, kPI, kPB, kPN, kPO, kPT, kPL, kPE, kPV, kPZ, kOwn, kChk, kBin2, kBin, kNeg, kCmpB, kCmp, kChA, kCh2, kCh, kAnd2, kAnd, kOr2, kOr, kNot, kIte, kTup, kLst, kIdx2, kIdx, kSl3, kSl2, kSl, kRev, kFn, kIsi, kMth2, kMth, kMu3, kMu2, kMu1, kMu, kCa3, kCa2, kCa, kLc2, kLc, kGe2, kGe, kLof, kT, kAndT, kOrT, kNotT, kI, kCk, kR1, kR2b, kR2, kR3c, kR3b, kR3, kEn, kZp2, kZp, kRv, kA2, kA, kO, kSet, kNx, kRt, kSt, kAu2, kAu, kPu3, kPu2, kPu1, kPu, kIf, kFor, kBt, p_add, p_sub, p_mul, p_fdiv, p_mod, p_pow, p_addL, p_addT, p_mulL, q_lt, q_le, q_gt, q_ge, q_eq, q_ne, q_eqT, q_neT, q_eqL, q_neL, q_eqB, q_eqS, q_is, q_isnot, q_inL, q_niL, q_inT, q_niT, u_non, u_bl, u_int, u_lst, u_tup, d_L, d_T, n_n, n_i, n_b, n_s, n_t, n_l, l_lenL, l_lenT, l_lenS, l_abs, l_int, l_min, l_max, l_tupL, l_tupT, l_lstL, l_lstT, l_minL, l_maxL, au_add, au_sub, au_str, l_all, l_any, l_sum, l_srtL, l_srtT, w_ints, w_pures, w_bools, w_sort, w_shps, w_shpI, w_shpB, w_shpN, w_shpT, w_shpL, w_eqs, w_eqT, w_eqL, m_app, y_n_int, y_n_bool, y_n_str, y_n_tuple, y_n_list, y_b_int, y_b_bool, y_b_str, y_b_tuple, y_b_list, y_i_int, y_i_bool, y_i_str, y_i_tuple, y_i_list, y_s_int, y_s_bool, y_s_str, y_s_tuple, y_s_list, y_t_int, y_t_bool, y_t_str, y_t_tuple, y_t_list, y_l_int, y_l_bool, y_l_str, y_l_tuple, y_l_list, r_T, r_L, sl_L, sl_T, wk_L, wk_T, ix_L, lo_L, lo_T, isL_l, isI_i, isB_b, pu_i, pu_b, pu_s, pu_n, pu_t, ow_i, ow_b, ow_l, ow_t, thenS, startE, List.map_cons, List.map_nil, List.cons_append, List.nil_append, List.length_cons, List.length_nil, List.length_replicate, List.replicate, List.set_cons_zero, List.set_cons_succ, List.set_nil, Option.bind_some, Option.map_some, Option.bind_none, Option.map_none, Nat.sub_zero, Nat.reduceSub, Nat.reduceAdd, Bool.not_true, Bool.not_false, if_true, if_false, reduceIte, Bool.false_eq_true, Bool.true_and, Bool.and_true, Bool.false_and, Bool.and_false, decide_true, decide_false, List.tail_cons, List.isEmpty_cons, List.isEmpty_nil, ne_eq, not_true_eq_false, not_false_eq_true, reduceCtorEq, List.append_nil, List.singleton_append, e1]
  have t1 : execS (run fsL gl w (k + 8)) gl w (.iff (.bor (.bnot (.isi (.var 12) .tuple)) (.bor (.cmp .ne (.fn .len [(.var 12)]) (.lit (.int 2))) (.bnot (.fn .all [(.lc e16_2 (.nm 14) (.var 12) none)])))) [.ret (.lit (.bl false))] []) [none, none, none, none, none, none, none, none, none, none, none, some (.tup ((toI r).map D.int)), some (.tup [.int ((g : Nat) : Int), .int ((l : Nat) : Int)]), none, none] = some (.nx [none, none, none, none, none, none, none, none, none, none, none, some (.tup ((toI r).map D.int)), some (.tup [.int ((g : Nat) : Int), .int ((l : Nat) : Int)]), none, none]) := by
    simp only [g_0, g_s, v_lit, v_var, v_mov, v_own, v_chk, v_bin, v_neg, v_cmp, v_cmp2, v_band, v_bor, v_bnot, v_ite, v_tup, v_lst, v_dct, v_idx, v_slc, v_rev, v_fn, v_isi, v_mth, v_mut, v_call, v_lc, v_ge, v_lof, t_lit, t_var, t_cmp, t_cmp2, t_bin, t_idx, t_fn, t_isi, t_call, t_ge, t_slc, t_mth, t_band, t_bor, t_bnot, i_var, i_call, i_idx, i_bin, i_fn, i_tup, i_lst, i_slc, i_lce, i_ck, i_r1, i_r2, i_r3, i_en, i_zp, i_rv, a_nil, a_cons, o_none, o_some, c_none, c_some, s_nil, s_cons, x_set, x_aug, x_put, x_ex, x_ret, x_ret0, x_iff, x_whl, x_for, x_brk, x_cnt, x_pas, x_doc, b_nm, b_tup, b_lst, b_nil, b_cons, k_nil, k_none, kP, kM, kPI, kPB, kPN, kPO, kPT, kPL, kPE, kPV, kPZ, kOwn, kChk, kBin2, kBin, kNeg, kCmpB, kCmp, kChA, kCh2, kCh, kAnd2, kAnd, kOr2, kOr, kNot, kIte, kTup, kLst, kIdx2, kIdx, kSl3, kSl2, kSl, kRev, kFn, kIsi, kMth2, kMth, kMu3, kMu2, kMu1, kMu, kCa3, kCa2, kCa, kLc2, kLc, kGe2, kGe, kLof, kT, kAndT, kOrT, kNotT, kI, kCk, kR1, kR2b, kR2, kR3c, kR3b, kR3, kEn, kZp2, kZp, kRv, kA2, kA, kO, kSet, kNx, kRt, kSt, kAu2, kAu, kPu3, kPu2, kPu1, kPu, kIf, kFor, kBt, p_add, p_sub, p_mul, p_fdiv, p_mod, p_pow, p_addL, p_addT, p_mulL, q_lt, q_le, q_gt, q_ge, q_eq, q_ne, q_eqT, q_neT, q_eqL, q_neL, q_eqB, q_eqS, q_is, q_isnot, q_inL, q_niL, q_inT, q_niT, u_non, u_bl, u_int, u_lst, u_tup, d_L, d_T, n_n, n_i, n_b, n_s, n_t, n_l, l_lenL, l_lenT, l_lenS, l_abs, l_int, l_min, l_max, l_tupL, l_tupT, l_lstL, l_lstT, l_minL, l_maxL, au_add, au_sub, au_str, l_all, l_any, l_sum, l_srtL, l_srtT, w_ints, w_pures, w_bools, w_sort, w_shps, w_shpI, w_shpB, w_shpN, w_shpT, w_shpL, w_eqs, w_eqT, w_eqL, m_app, y_n_int, y_n_bool, y_n_str, y_n_tuple, y_n_list, y_b_int, y_b_bool, y_b_str, y_b_tuple, y_b_list, y_i_int, y_i_bool, y_i_str, y_i_tuple, y_i_list, y_s_int, y_s_bool, y_s_str, y_s_tuple, y_s_list, y_t_int, y_t_bool, y_t_str, y_t_tuple, y_t_list, y_l_int, y_l_bool, y_l_str, y_l_tuple, y_l_list, r_T, r_L, sl_L, sl_T, wk_L, wk_T, ix_L, lo_L, lo_T, isL_l, isI_i, isB_b, pu_i, pu_b, pu_s, pu_n, pu_t, ow_i, ow_b, ow_l, ow_t, thenS, startE, List.map_cons, List.map_nil, List.cons_append, List.nil_append, List.length_cons, List.length_nil, List.length_replicate, List.replicate, List.set_cons_zero, List.set_cons_succ, List.set_nil, Option.bind_some, Option.map_some, Option.bind_none, Option.map_none, Nat.sub_zero, Nat.reduceSub, Nat.reduceAdd, Bool.not_true, Bool.not_false, if_true, if_false, reduceIte, Bool.false_eq_true, Bool.true_and, Bool.and_true, Bool.false_and, Bool.and_false, decide_true, decide_false, List.tail_cons, List.isEmpty_cons, List.isEmpty_nil, ne_eq, not_true_eq_false, not_false_eq_true, reduceCtorEq, List.append_nil, List.singleton_append, e6, bo, ai, z2, slotsT, restE]
  have t2 : execS (run fsL gl w (k + 8)) gl w (.iff (.bor (.cmp .lt (.idx (.var 12) (.lit (.int 1))) (.lit (.int 1))) (.bor (.cmp .lt (.idx (.var 12) (.lit (.int 0))) (.idx (.var 12) (.lit (.int 1)))) (.bor (.cmp .ne (.call 10 [(.idx (.var 12) (.lit (.int 0))), (.idx (.var 12) (.lit (.int 1)))] [none, none]) (.lit (.int 1))) (.cmp .ne (.call 13 [(.var 12)] [none]) (.var 11))))) [.ret (.lit (.bl false))] []) [none, none, none, none, none, none, none, none, none, none, none, some (.tup ((toI r).map D.int)), some (.tup [.int ((g : Nat) : Int), .int ((l : Nat) : Int)]), none, none] = some (.nx [none, none, none, none, none, none, none, none, none, none, none, some (.tup ((toI r).map D.int)), some (.tup [.int ((g : Nat) : Int), .int ((l : Nat) : Int)]), none, none]) := by
    simp only [g_0, g_s, v_lit, v_var, v_mov, v_own, v_chk, v_bin, v_neg, v_cmp, v_cmp2, v_band, v_bor, v_bnot, v_ite, v_tup, v_lst, v_dct, v_idx, v_slc, v_rev, v_fn, v_isi, v_mth, v_mut, v_call, v_lc, v_ge, v_lof, t_lit, t_var, t_cmp, t_cmp2, t_bin, t_idx, t_fn, t_isi, t_call, t_ge, t_slc, t_mth, t_band, t_bor, t_bnot, i_var, i_call, i_idx, i_bin, i_fn, i_tup, i_lst, i_slc, i_lce, i_ck, i_r1, i_r2, i_r3, i_en, i_zp, i_rv, a_nil, a_cons, o_none, o_some, c_none, c_some, s_nil, s_cons, x_set, x_aug, x_put, x_ex, x_ret, x_ret0, x_iff, x_whl, x_for, x_brk, x_cnt, x_pas, x_doc, b_nm, b_tup, b_lst, b_nil, b_cons, k_nil, k_none, kP, kM, kPI, kPB, kPN, kPO, kPT, kPL, kPE, kPV, kPZ, kOwn, kChk, kBin2, kBin, kNeg, kCmpB, kCmp, kChA, kCh2, kCh, kAnd2, kAnd, kOr2, kOr, kNot, kIte, kTup, kLst, kIdx2, kIdx, kSl3, kSl2, kSl, kRev, kFn, kIsi, kMth2, kMth, kMu3, kMu2, kMu1, kMu, kCa3, kCa2, kCa, kLc2, kLc, kGe2, kGe, kLof, kT, kAndT, kOrT, kNotT, kI, kCk, kR1, kR2b, kR2, kR3c, kR3b, kR3, kEn, kZp2, kZp, kRv, kA2, kA, kO, kSet, kNx, kRt, kSt, kAu2, kAu, kPu3, kPu2, kPu1, kPu, kIf, kFor, kBt, p_add, p_sub, p_mul, p_fdiv, p_mod, p_pow, p_addL, p_addT, p_mulL, q_lt, q_le, q_gt, q_ge, q_eq, q_ne, q_eqT, q_neT, q_eqL, q_neL, q_eqB, q_eqS, q_is, q_isnot, q_inL, q_niL, q_inT, q_niT, u_non, u_bl, u_int, u_lst, u_tup, d_L, d_T, n_n, n_i, n_b, n_s, n_t, n_l, l_lenL, l_lenT, l_lenS, l_abs, l_int, l_min, l_max, l_tupL, l_tupT, l_lstL, l_lstT, l_minL, l_maxL, au_add, au_sub, au_str, l_all, l_any, l_sum, l_srtL, l_srtT, w_ints, w_pures, w_bools, w_sort, w_shps, w_shpI, w_shpB, w_shpN, w_shpT, w_shpL, w_eqs, w_eqT, w_eqL, m_app, y_n_int, y_n_bool, y_n_str, y_n_tuple, y_n_list, y_b_int, y_b_bool, y_b_str, y_b_tuple, y_b_list, y_i_int, y_i_bool, y_i_str, y_i_tuple, y_i_list, y_s_int, y_s_bool, y_s_str, y_s_tuple, y_s_list, y_t_int, y_t_bool, y_t_str, y_t_tuple, y_t_list, y_l_int, y_l_bool, y_l_str, y_l_tuple, y_l_list, r_T, r_L, sl_L, sl_T, wk_L, wk_T, ix_L, lo_L, lo_T, isL_l, isI_i, isB_b, pu_i, pu_b, pu_s, pu_n, pu_t, ow_i, ow_b, ow_l, ow_t, thenS, startE, List.map_cons, List.map_nil, List.cons_append, List.nil_append, List.length_cons, List.length_nil, List.length_replicate, List.replicate, List.set_cons_zero, List.set_cons_succ, List.set_nil, Option.bind_some, Option.map_some, Option.bind_none, Option.map_none, Nat.sub_zero, Nat.reduceSub, Nat.reduceAdd, Bool.not_true, Bool.not_false, if_true, if_false, reduceIte, Bool.false_eq_true, Bool.true_and, Bool.and_true, Bool.false_and, Bool.and_false, decide_true, decide_false, List.tail_cons, List.isEmpty_cons, List.isEmpty_nil, ne_eq, not_true_eq_false, not_false_eq_true, reduceCtorEq, List.append_nil, List.singleton_append, i0, i1, List.getElem?_cons_zero, List.getElem?_cons_succ, n1, n2, e4, z1, e2, w_shpT, w_eqT, dt]
  have t3 : execS (run fsL gl w (k + 8)) gl w (.iff (.band (.cmp .lt (.idx (.var 12) (.lit (.int 0))) (.bin .pow (.lit (.int 10)) (.lit (.int 9)))) (.bnot (.call 9 [(.call 0 [(.var 12)] [none]), (.var 11)] [none, none]))) [.ret (.lit (.bl false))] []) [none, none, none, none, none, none, none, none, none, none, none, some (.tup ((toI r).map D.int)), some (.tup [.int ((g : Nat) : Int), .int ((l : Nat) : Int)]), none, none] = some (.nx [none, none, none, none, none, none, none, none, none, none, none, some (.tup ((toI r).map D.int)), some (.tup [.int ((g : Nat) : Int), .int ((l : Nat) : Int)]), none, none]) := by
    by_cases hg : ((g : Nat) : Int) < 10 ^ 9
    · simp only [g_0, g_s, v_lit, v_var, v_mov, v_own, v_chk, v_bin, v_neg, v_cmp, v_cmp2, v_band, v_bor, v_bnot, v_ite, v_tup, v_lst, v_dct, v_idx, v_slc, v_rev, v_fn, v_isi, v_mth, v_mut, v_call, v_lc, v_ge, v_lof, t_lit, t_var, t_cmp, t_cmp2, t_bin, t_idx, t_fn, t_isi, t_call, t_ge, t_slc, t_mth, t_band, t_bor, t_bnot, i_var, i_call, i_idx, i_bin, i_fn, i_tup, i_lst, i_slc, i_lce, i_ck, i_r1, i_r2, i_r3, i_en, i_zp, i_rv, a_nil, a_cons, o_none, o_some, c_none, c_some, s_nil, s_cons, x_set, x_aug, x_put, x_ex, x_ret, x_ret0, x_iff, x_whl, x_for, x_brk, x_cnt, x_pas, x_doc, b_nm, b_tup, b_lst, b_nil, b_cons, k_nil, k_none, kP, kM, kPI, kPB, kPN, kPO, kPT, kPL, kPE, kPV, kPZ, kOwn, kChk, kBin2, kBin, kNeg, kCmpB, kCmp, kChA, kCh2, kCh, kAnd2, kAnd, kOr2, kOr, kNot, kIte, kTup, kLst, kIdx2, kIdx, kSl3, kSl2, kSl, kRev, kFn, kIsi, kMth2, kMth, kMu3, kMu2, kMu1, kMu, kCa3, kCa2, kCa, kLc2, kLc, kGe2, kGe, kLof, kT, kAndT, kOrT, kNotT, kI, kCk, kR1, kR2b, kR2, kR3c, kR3b, kR3, kEn, kZp2, kZp, kRv, kA2, kA, kO, kSet, kNx, kRt, kSt, kAu2, kAu, kPu3, kPu2, kPu1, kPu, kIf, kFor, kBt, p_add, p_sub, p_mul, p_fdiv, p_mod, p_pow, p_addL, p_addT, p_mulL, q_lt, q_le, q_gt, q_ge, q_eq, q_ne, q_eqT, q_neT, q_eqL, q_neL, q_eqB, q_eqS, q_is, q_isnot, q_inL, q_niL, q_inT, q_niT, u_non, u_bl, u_int, u_lst, u_tup, d_L, d_T, n_n, n_i, n_b, n_s, n_t, n_l, l_lenL, l_lenT, l_lenS, l_abs, l_int, l_min, l_max, l_tupL, l_tupT, l_lstL, l_lstT, l_minL, l_maxL, au_add, au_sub, au_str, l_all, l_any, l_sum, l_srtL, l_srtT, w_ints, w_pures, w_bools, w_sort, w_shps, w_shpI, w_shpB, w_shpN, w_shpT, w_shpL, w_eqs, w_eqT, w_eqL, m_app, y_n_int, y_n_bool, y_n_str, y_n_tuple, y_n_list, y_b_int, y_b_bool, y_b_str, y_b_tuple, y_b_list, y_i_int, y_i_bool, y_i_str, y_i_tuple, y_i_list, y_s_int, y_s_bool, y_s_str, y_s_tuple, y_s_list, y_t_int, y_t_bool, y_t_str, y_t_tuple, y_t_list, y_l_int, y_l_bool, y_l_str, y_l_tuple, y_l_list, r_T, r_L, sl_L, sl_T, wk_L, wk_T, ix_L, lo_L, lo_T, isL_l, isI_i, isB_b, pu_i, pu_b, pu_s, pu_n, pu_t, ow_i, ow_b, ow_l, ow_t, thenS, startE, List.map_cons, List.map_nil, List.cons_append, List.nil_append, List.length_cons, List.length_nil, List.length_replicate, List.replicate, List.set_cons_zero, List.set_cons_succ, List.set_nil, Option.bind_some, Option.map_some, Option.bind_none, Option.map_none, Nat.sub_zero, Nat.reduceSub, Nat.reduceAdd, Bool.not_true, Bool.not_false, if_true, if_false, reduceIte, Bool.false_eq_true, Bool.true_and, Bool.and_true, Bool.false_and, Bool.and_false, decide_true, decide_false, List.tail_cons, List.isEmpty_cons, List.isEmpty_nil, ne_eq, not_true_eq_false, not_false_eq_true, reduceCtorEq, List.append_nil, List.singleton_append, i0, List.getElem?_cons_zero, hp, hpq, and_self, hg, e3, e5]
    · simp only [g_0, g_s, v_lit, v_var, v_mov, v_own, v_chk, v_bin, v_neg, v_cmp, v_cmp2, v_band, v_bor, v_bnot, v_ite, v_tup, v_lst, v_dct, v_idx, v_slc, v_rev, v_fn, v_isi, v_mth, v_mut, v_call, v_lc, v_ge, v_lof, t_lit, t_var, t_cmp, t_cmp2, t_bin, t_idx, t_fn, t_isi, t_call, t_ge, t_slc, t_mth, t_band, t_bor, t_bnot, i_var, i_call, i_idx, i_bin, i_fn, i_tup, i_lst, i_slc, i_lce, i_ck, i_r1, i_r2, i_r3, i_en, i_zp, i_rv, a_nil, a_cons, o_none, o_some, c_none, c_some, s_nil, s_cons, x_set, x_aug, x_put, x_ex, x_ret, x_ret0, x_iff, x_whl, x_for, x_brk, x_cnt, x_pas, x_doc, b_nm, b_tup, b_lst, b_nil, b_cons, k_nil, k_none, kP, kM, kPI, kPB, kPN, kPO, kPT, kPL, kPE, kPV, kPZ, kOwn, kChk, kBin2, kBin, kNeg, kCmpB, kCmp, kChA, kCh2, kCh, kAnd2, kAnd, kOr2, kOr, kNot, kIte, kTup, kLst, kIdx2, kIdx, kSl3, kSl2, kSl, kRev, kFn, kIsi, kMth2, kMth, kMu3, kMu2, kMu1, kMu, kCa3, kCa2, kCa, kLc2, kLc, kGe2, kGe, kLof, kT, kAndT, kOrT, kNotT, kI, kCk, kR1, kR2b, kR2, kR3c, kR3b, kR3, kEn, kZp2, kZp, kRv, kA2, kA, kO, kSet, kNx, kRt, kSt, kAu2, kAu, kPu3, kPu2, kPu1, kPu, kIf, kFor, kBt, p_add, p_sub, p_mul, p_fdiv, p_mod, p_pow, p_addL, p_addT, p_mulL, q_lt, q_le, q_gt, q_ge, q_eq, q_ne, q_eqT, q_neT, q_eqL, q_neL, q_eqB, q_eqS, q_is, q_isnot, q_inL, q_niL, q_inT, q_niT, u_non, u_bl, u_int, u_lst, u_tup, d_L, d_T, n_n, n_i, n_b, n_s, n_t, n_l, l_lenL, l_lenT, l_lenS, l_abs, l_int, l_min, l_max, l_tupL, l_tupT, l_lstL, l_lstT, l_minL, l_maxL, au_add, au_sub, au_str, l_all, l_any, l_sum, l_srtL, l_srtT, w_ints, w_pures, w_bools, w_sort, w_shps, w_shpI, w_shpB, w_shpN, w_shpT, w_shpL, w_eqs, w_eqT, w_eqL, m_app, y_n_int, y_n_bool, y_n_str, y_n_tuple, y_n_list, y_b_int, y_b_bool, y_b_str, y_b_tuple, y_b_list, y_i_int, y_i_bool, y_i_str, y_i_tuple, y_i_list, y_s_int, y_s_bool, y_s_str, y_s_tuple, y_s_list, y_t_int, y_t_bool, y_t_str, y_t_tuple, y_t_list, y_l_int, y_l_bool, y_l_str, y_l_tuple, y_l_list, r_T, r_L, sl_L, sl_T, wk_L, wk_T, ix_L, lo_L, lo_T, isL_l, isI_i, isB_b, pu_i, pu_b, pu_s, pu_n, pu_t, ow_i, ow_b, ow_l, ow_t, thenS, startE, List.map_cons, List.map_nil, List.cons_append, List.nil_append, List.length_cons, List.length_nil, List.length_replicate, List.replicate, List.set_cons_zero, List.set_cons_succ, List.set_nil, Option.bind_some, Option.map_some, Option.bind_none, Option.map_none, Nat.sub_zero, Nat.reduceSub, Nat.reduceAdd, Bool.not_true, Bool.not_false, if_true, if_false, reduceIte, Bool.false_eq_true, Bool.true_and, Bool.and_true, Bool.false_and, Bool.and_false, decide_true, decide_false, List.tail_cons, List.isEmpty_cons, List.isEmpty_nil, ne_eq, not_true_eq_false, not_false_eq_true, reduceCtorEq, List.append_nil, List.singleton_append, i0, List.getElem?_cons_zero, hp, hpq, and_self, hg]
  exact (ss_nx t0).trans ((ss_nx t1).trans ((ss_nx t2).trans ((ss_nx t3).trans rfl)))
/-! a pair asked -/
def WD : D := .dct (kyL (rows 60)) (vlL (rows 60))
theorem pair_turn (k : Nat) {a b : Nat} {F : Facts} (ha : 1 ≤ a) (hb : 1 ≤ b) (ha2 : a ≤ 60) (hb2 : b ≤ 60) (hw : 200 < w) (hF : F.all (fun q => !tSs q.1 b16_0) = true) {ρ : Env} (h : Kn 15 ((3, prD a b) :: (2, WD) :: F) ρ) : ∃ ρ', execSs (run fsL gl w (k + 8)) gl w b16_0 ρ = some (.nx ρ') ∧ Kn 15 ((2, WD) :: F) ρ' := by
  obtain ⟨ρ1, e1⟩ := asked_run (gl := gl) (w := w) (k + 1) ha hb ha2 hb2 hw
  have e1 : run fsL gl w (k + 8) 15 [WD, prD a b] = some (.bl true, ρ1) := e1
  generalize WD = W at *
  obtain ⟨ρ', e, h'⟩ := kn_ss (gl := gl) (w := w) (w0 := w) (cf0 := run fsL gl w (k + 8)) (cf := run fsL gl w (k + 8)) (ss := b16_0) (fs := [(3, prD a b), (2, W)]) (keep := F) (out := [(2, W)]) (ρ1 := mkE 15 [(3, prD a b), (2, W)]) (FLe.refl _) (Nat.le_refl _) h (by
    simp only [mkE]
    simp only [g_0, g_s, v_lit, v_var, v_mov, v_own, v_chk, v_bin, v_neg, v_cmp, v_cmp2, v_band, v_bor, v_bnot, v_ite, v_tup, v_lst, v_dct, v_idx, v_slc, v_rev, v_fn, v_isi, v_mth, v_mut, v_call, v_lc, v_ge, v_lof, t_lit, t_var, t_cmp, t_cmp2, t_bin, t_idx, t_fn, t_isi, t_call, t_ge, t_slc, t_mth, t_band, t_bor, t_bnot, i_var, i_call, i_idx, i_bin, i_fn, i_tup, i_lst, i_slc, i_lce, i_ck, i_r1, i_r2, i_r3, i_en, i_zp, i_rv, a_nil, a_cons, o_none, o_some, c_none, c_some, s_nil, s_cons, x_set, x_aug, x_put, x_ex, x_ret, x_ret0, x_iff, x_whl, x_for, x_brk, x_cnt, x_pas, x_doc, b_nm, b_tup, b_lst, b_nil, b_cons, k_nil, k_none, kP, kM, kPI, kPB, kPN, kPO, kPT, kPL, kPE, kPV, kPZ, kOwn, kChk, kBin2, kBin, kNeg, kCmpB, kCmp, kChA, kCh2, kCh, kAnd2, kAnd, kOr2, kOr, kNot, kIte, kTup, kLst, kIdx2, kIdx, kSl3, kSl2, kSl, kRev, kFn, kIsi, kMth2, kMth, kMu3, kMu2, kMu1, kMu, kCa3, kCa2, kCa, kLc2, kLc, kGe2, kGe, kLof, kT, kAndT, kOrT, kNotT, kI, kCk, kR1, kR2b, kR2, kR3c, kR3b, kR3, kEn, kZp2, kZp, kRv, kA2, kA, kO, kSet, kNx, kRt, kSt, kAu2, kAu, kPu3, kPu2, kPu1, kPu, kIf, kFor, kBt, p_add, p_sub, p_mul, p_fdiv, p_mod, p_pow, p_addL, p_addT, p_mulL, q_lt, q_le, q_gt, q_ge, q_eq, q_ne, q_eqT, q_neT, q_eqL, q_neL, q_eqB, q_eqS, q_is, q_isnot, q_inL, q_niL, q_inT, q_niT, u_non, u_bl, u_int, u_lst, u_tup, d_L, d_T, n_n, n_i, n_b, n_s, n_t, n_l, l_lenL, l_lenT, l_lenS, l_abs, l_int, l_min, l_max, l_tupL, l_tupT, l_lstL, l_lstT, l_minL, l_maxL, au_add, au_sub, au_str, l_all, l_any, l_sum, l_srtL, l_srtT, w_ints, w_pures, w_bools, w_sort, w_shps, w_shpI, w_shpB, w_shpN, w_shpT, w_shpL, w_eqs, w_eqT, w_eqL, m_app, y_n_int, y_n_bool, y_n_str, y_n_tuple, y_n_list, y_b_int, y_b_bool, y_b_str, y_b_tuple, y_b_list, y_i_int, y_i_bool, y_i_str, y_i_tuple, y_i_list, y_s_int, y_s_bool, y_s_str, y_s_tuple, y_s_list, y_t_int, y_t_bool, y_t_str, y_t_tuple, y_t_list, y_l_int, y_l_bool, y_l_str, y_l_tuple, y_l_list, r_T, r_L, sl_L, sl_T, wk_L, wk_T, ix_L, lo_L, lo_T, isL_l, isI_i, isB_b, pu_i, pu_b, pu_s, pu_n, pu_t, ow_i, ow_b, ow_l, ow_t, thenS, startE, List.map_cons, List.map_nil, List.cons_append, List.nil_append, List.length_cons, List.length_nil, List.length_replicate, List.replicate, List.set_cons_zero, List.set_cons_succ, List.set_nil, Option.bind_some, Option.map_some, Option.bind_none, Option.map_none, Nat.sub_zero, Nat.reduceSub, Nat.reduceAdd, Bool.not_true, Bool.not_false, if_true, if_false, reduceIte, Bool.false_eq_true, Bool.true_and, Bool.and_true, Bool.false_and, Bool.and_false, decide_true, decide_false, List.tail_cons, List.isEmpty_cons, List.isEmpty_nil, ne_eq, not_true_eq_false, not_false_eq_true, reduceCtorEq, List.append_nil, List.singleton_append, b16_0, e1]) rfl (by intro q hq; rw [List.mem_singleton.mp hq]; rfl) hF
  exact ⟨ρ', e, h'⟩
theorem pairs_loop (k : Nat) {F : Facts} (hw : 200 < w) (h3 : F.all (fun p => !(3 == p.1)) = true) (hF : F.all (fun q => !tSs q.1 b16_0) = true) (xs : List (Nat × Nat)) (hx : ∀ q ∈ xs, 1 ≤ q.1 ∧ 1 ≤ q.2 ∧ q.1 ≤ 60 ∧ q.2 ≤ 60) {ρ : Env} (h : Kn 15 ((2, WD) :: F) ρ) : ∃ ρ', forL (forF (run fsL gl w (k + 8)) gl w (.nm 3) b16_0) (xs.map fun q => prD q.1 q.2) ρ = some (.nx ρ') ∧ Kn 15 ((2, WD) :: F) ρ' :=
  for_keep (by rw [List.all_cons, h3]; rfl) (by decide) _ h fun x hx' ρ hk => by
    obtain ⟨q, hq, rfl⟩ := List.mem_map.mp hx'
    obtain ⟨a, b, c, d⟩ := hx q hq
    obtain ⟨ρ', e, h'⟩ := pair_turn (gl := gl) (w := w) k a b c d hw hF hk
    exact ⟨ρ', .inl e, h'⟩
def F0 (ns dr : List Int) (t : Nat) : Facts := [(0, .scr ns), (1, lstI dr), (4, .int (0 + ((t : Nat) : Int)))]
theorem three (x : Nat) (h : x < 3) : ∃ m : Nat, 1 ≤ m ∧ m ≤ 20 ∧ (ixn 3 ((x : Nat) : Int)).bind ([D.int 3, .int 20, .int 1][·]?) = some (.int ((m : Nat) : Int)) := by
  rcases (show x = 0 ∨ x = 1 ∨ x = 2 by omega) with rfl | rfl | rfl
  · exact ⟨3, by omega, by omega, rfl⟩
  · exact ⟨20, by omega, by omega, rfl⟩
  · exact ⟨1, by omega, by omega, rfl⟩
/-- the drawn row -/
theorem row_ev (k : Nat) {dr ds : List Int} {t : Nat} (ht : t < 5) (hdr : dr.length = 30) (hds : ds.length = 20) : ∃ r0 : List Nat, r0 ≠ [] ∧ (∀ q ∈ r0, 1 ≤ q ∧ q ≤ 20) ∧ r0.length ≤ 12 ∧ execS (run fsL gl w (k + 8)) gl w (.set (.nm 11) (.fn .tuple [(.lc e16_1 (.nm 13) (.irng1 (.bin .add (.lit (.int 1)) (.bin .mod (.fn .int [(.idx (.var 1) (.bin .add (.lit (.int 5)) (.var 4)))]) (.lit (.int 12))))) none)])) (mkE 15 [(1, lstI dr), (4, .int (0 + ((t : Nat) : Int))), (5, lstI ds)]) = some (.nx (mkE 15 [(1, lstI dr), (4, .int (0 + ((t : Nat) : Int))), (5, lstI ds), (11, tupI (toI r0))])) := by
  obtain ⟨a, ma, la⟩ := fmod_nat (a := gi dr (5 + t)) (m := 12) (by decide)
  obtain ⟨b, mb, lb⟩ := fmod_nat (a := gi dr t) (m := 3) (by decide)
  have ma : (gi dr (5 + t)).fmod 12 = ((a : Nat) : Int) := ma
  have mb : (gi dr t).fmod 3 = ((b : Nat) : Int) := mb
  obtain ⟨m, m1, m2, hm⟩ := three b lb
  have q1 : 5 + (0 + ((t : Nat) : Int)) = ((5 + t : Nat) : Int) := by omega
  have q2 : 0 + ((t : Nat) : Int) = ((t : Nat) : Int) := by omega
  have l1 : 5 + t < dr.length := by omega
  have l2 : t < dr.length := by omega
  have n12 : ¬ (12 : Int) = 0 := by decide
  have n3 : ¬ (3 : Int) = 0 := by decide
  have nm : ¬ ((m : Nat) : Int) = 0 := by omega
  have c1 : 1 + ((a : Nat) : Int) = ((1 + a : Nat) : Int) := by omega
  rw [q2]
  obtain ⟨ρ', e, c, rfl⟩ := lcL_st (F := lcF (run fsL gl w (k + 8)) gl (.nm 13) none e16_1) (I := fun ρ => ∃ c, ρ = [none, some (lstI dr), none, none, some (.int ((t : Nat) : Int)), some (lstI ds), none, none, none, none, none, none, none, c, none]) (fun i : Nat => D.int (0 + (i : Nat))) (fun i => some (.int ((1 + ((gi ds (8 + i)).fmod ((m : Nat) : Int)).toNat : Nat) : Int))) (List.range (1 + a)) [none, some (lstI dr), none, none, some (.int ((t : Nat) : Int)), some (lstI ds), none, none, none, none, none, none, none, none, none] ⟨_, rfl⟩ (fun i hi ρ hI => by
    obtain ⟨c, rfl⟩ := hI
    rw [List.mem_range] at hi
    have l3 : 8 + i < ds.length := by omega
    have q3 : 8 + ((i : Nat) : Int) = ((8 + i : Nat) : Int) := by omega
    have fm := fmod_lt (a := gi ds (8 + i)) (b := ((m : Nat) : Int)) (by omega)
    have q4 : 1 + (gi ds (8 + i)).fmod ((m : Nat) : Int) = ((1 + ((gi ds (8 + i)).fmod ((m : Nat) : Int)).toNat : Nat) : Int) := by omega
    refine ⟨_, ?_, some (.int (i : Nat)), rfl⟩
    rw [Int.zero_add]
    simp only [lstI]
    simp only [g_0, g_s, v_lit, v_var, v_mov, v_own, v_chk, v_bin, v_neg, v_cmp, v_cmp2, v_band, v_bor, v_bnot, v_ite, v_tup, v_lst, v_dct, v_idx, v_slc, v_rev, v_fn, v_isi, v_mth, v_mut, v_call, v_lc, v_ge, v_lof, t_lit, t_var, t_cmp, t_cmp2, t_bin, t_idx, t_fn, t_isi, t_call, t_ge, t_slc, t_mth, t_band, t_bor, t_bnot, i_var, i_call, i_idx, i_bin, i_fn, i_tup, i_lst, i_slc, i_lce, i_ck, i_r1, i_r2, i_r3, i_en, i_zp, i_rv, a_nil, a_cons, o_none, o_some, c_none, c_some, s_nil, s_cons, x_set, x_aug, x_put, x_ex, x_ret, x_ret0, x_iff, x_whl, x_for, x_brk, x_cnt, x_pas, x_doc, b_nm, b_tup, b_lst, b_nil, b_cons, k_nil, k_none, kP, kM, kPI, kPB, kPN, kPO, kPT, kPL, kPE, kPV, kPZ, kOwn, kChk, kBin2, kBin, kNeg, kCmpB, kCmp, kChA, kCh2, kCh, kAnd2, kAnd, kOr2, kOr, kNot, kIte, kTup, kLst, kIdx2, kIdx, kSl3, kSl2, kSl, kRev, kFn, kIsi, kMth2, kMth, kMu3, kMu2, kMu1, kMu, kCa3, kCa2, kCa, kLc2, kLc, kGe2, kGe, kLof, kT, kAndT, kOrT, kNotT, kI, kCk, kR1, kR2b, kR2, kR3c, kR3b, kR3, kEn, kZp2, kZp, kRv, kA2, kA, kO, kSet, kNx, kRt, kSt, kAu2, kAu, kPu3, kPu2, kPu1, kPu, kIf, kFor, kBt, p_add, p_sub, p_mul, p_fdiv, p_mod, p_pow, p_addL, p_addT, p_mulL, q_lt, q_le, q_gt, q_ge, q_eq, q_ne, q_eqT, q_neT, q_eqL, q_neL, q_eqB, q_eqS, q_is, q_isnot, q_inL, q_niL, q_inT, q_niT, u_non, u_bl, u_int, u_lst, u_tup, d_L, d_T, n_n, n_i, n_b, n_s, n_t, n_l, l_lenL, l_lenT, l_lenS, l_abs, l_int, l_min, l_max, l_tupL, l_tupT, l_lstL, l_lstT, l_minL, l_maxL, au_add, au_sub, au_str, l_all, l_any, l_sum, l_srtL, l_srtT, w_ints, w_pures, w_bools, w_sort, w_shps, w_shpI, w_shpB, w_shpN, w_shpT, w_shpL, w_eqs, w_eqT, w_eqL, m_app, y_n_int, y_n_bool, y_n_str, y_n_tuple, y_n_list, y_b_int, y_b_bool, y_b_str, y_b_tuple, y_b_list, y_i_int, y_i_bool, y_i_str, y_i_tuple, y_i_list, y_s_int, y_s_bool, y_s_str, y_s_tuple, y_s_list, y_t_int, y_t_bool, y_t_str, y_t_tuple, y_t_list, y_l_int, y_l_bool, y_l_str, y_l_tuple, y_l_list, r_T, r_L, sl_L, sl_T, wk_L, wk_T, ix_L, lo_L, lo_T, isL_l, isI_i, isB_b, pu_i, pu_b, pu_s, pu_n, pu_t, ow_i, ow_b, ow_l, ow_t, thenS, startE, List.map_cons, List.map_nil, List.cons_append, List.nil_append, List.length_cons, List.length_nil, List.length_replicate, List.replicate, List.set_cons_zero, List.set_cons_succ, List.set_nil, Option.bind_some, Option.map_some, Option.bind_none, Option.map_none, Nat.sub_zero, Nat.reduceSub, Nat.reduceAdd, Bool.not_true, Bool.not_false, if_true, if_false, reduceIte, Bool.false_eq_true, Bool.true_and, Bool.and_true, Bool.false_and, Bool.and_false, decide_true, decide_false, List.tail_cons, List.isEmpty_cons, List.isEmpty_nil, ne_eq, not_true_eq_false, not_false_eq_true, reduceCtorEq, List.append_nil, List.singleton_append, lcF, lcC, lcT, lcK, slotsT, wipeE, e16_1, q3, len_int, ixn_of l3, gi_get l3, ixn_of l2, gi_get l2, n3, mb, hm, nm, q4]) (by rw [List.length_range]; unfold sz; omega)
  rw [fm_some (fun i : Nat => D.int ((1 + ((gi ds (8 + i)).fmod ((m : Nat) : Int)).toNat : Nat) : Int)), ← rng_map] at e
  generalize hR : (List.range (1 + a)).map (fun i => 1 + ((gi ds (8 + i)).fmod ((m : Nat) : Int)).toNat) = R
  have e' : (List.range (1 + a)).map (fun i : Nat => D.int ((1 + ((gi ds (8 + i)).fmod ((m : Nat) : Int)).toNat : Nat) : Int)) = (toI R).map D.int := by rw [← hR]; unfold toI; rw [List.map_map, List.map_map]; rfl
  rw [e'] at e
  have e5 : D.pures ((toI R).map D.int) = true := w_pures _
  refine ⟨R, by rw [← hR]; intro z; have := congrArg List.length z; simp at this, fun q hq => ?_, by rw [← hR, List.length_map, List.length_range]; omega, ?_⟩
  · rw [← hR] at hq
    obtain ⟨i, _, rfl⟩ := List.mem_map.mp hq
    have fm := fmod_lt (a := gi ds (8 + i)) (b := ((m : Nat) : Int)) (by omega)
    omega
  · have q1' : 5 + ((t : Nat) : Int) = ((5 + t : Nat) : Int) := by omega
    simp only [mkE, tupI, lstI] at e ⊢
    simp only [g_0, g_s, v_lit, v_var, v_mov, v_own, v_chk, v_bin, v_neg, v_cmp, v_cmp2, v_band, v_bor, v_bnot, v_ite, v_tup, v_lst, v_dct, v_idx, v_slc, v_rev, v_fn, v_isi, v_mth, v_mut, v_call, v_lc, v_ge, v_lof, t_lit, t_var, t_cmp, t_cmp2, t_bin, t_idx, t_fn, t_isi, t_call, t_ge, t_slc, t_mth, t_band, t_bor, t_bnot, i_var, i_call, i_idx, i_bin, i_fn, i_tup, i_lst, i_slc, i_lce, i_ck, i_r1, i_r2, i_r3, i_en, i_zp, i_rv, a_nil, a_cons, o_none, o_some, c_none, c_some, s_nil, s_cons, x_set, x_aug, x_put, x_ex, x_ret, x_ret0, x_iff, x_whl, x_for, x_brk, x_cnt, x_pas, x_doc, b_nm, b_tup, b_lst, b_nil, b_cons, k_nil, k_none, kP, kM, kPI, kPB, kPN, kPO, kPT, kPL, kPE, kPV, kPZ, kOwn, kChk, kBin2, kBin, kNeg, kCmpB, kCmp, kChA, kCh2, kCh, kAnd2, kAnd, kOr2, kOr, kNot, kIte, kTup, kLst, kIdx2, kIdx, kSl3, kSl2, kSl, kRev, kFn, kIsi, kMth2, kMth, kMu3, kMu2, kMu1, kMu, kCa3, kCa2, kCa, kLc2, kLc, kGe2, kGe, kLof, kT, kAndT, kOrT, kNotT, kI, kCk, kR1, kR2b, kR2, kR3c, kR3b, kR3, kEn, kZp2, kZp, kRv, kA2, kA, kO, kSet, kNx, kRt, kSt, kAu2, kAu, kPu3, kPu2, kPu1, kPu, kIf, kFor, kBt, p_add, p_sub, p_mul, p_fdiv, p_mod, p_pow, p_addL, p_addT, p_mulL, q_lt, q_le, q_gt, q_ge, q_eq, q_ne, q_eqT, q_neT, q_eqL, q_neL, q_eqB, q_eqS, q_is, q_isnot, q_inL, q_niL, q_inT, q_niT, u_non, u_bl, u_int, u_lst, u_tup, d_L, d_T, n_n, n_i, n_b, n_s, n_t, n_l, l_lenL, l_lenT, l_lenS, l_abs, l_int, l_min, l_max, l_tupL, l_tupT, l_lstL, l_lstT, l_minL, l_maxL, au_add, au_sub, au_str, l_all, l_any, l_sum, l_srtL, l_srtT, w_ints, w_pures, w_bools, w_sort, w_shps, w_shpI, w_shpB, w_shpN, w_shpT, w_shpL, w_eqs, w_eqT, w_eqL, m_app, y_n_int, y_n_bool, y_n_str, y_n_tuple, y_n_list, y_b_int, y_b_bool, y_b_str, y_b_tuple, y_b_list, y_i_int, y_i_bool, y_i_str, y_i_tuple, y_i_list, y_s_int, y_s_bool, y_s_str, y_s_tuple, y_s_list, y_t_int, y_t_bool, y_t_str, y_t_tuple, y_t_list, y_l_int, y_l_bool, y_l_str, y_l_tuple, y_l_list, r_T, r_L, sl_L, sl_T, wk_L, wk_T, ix_L, lo_L, lo_T, isL_l, isI_i, isB_b, pu_i, pu_b, pu_s, pu_n, pu_t, ow_i, ow_b, ow_l, ow_t, thenS, startE, List.map_cons, List.map_nil, List.cons_append, List.nil_append, List.length_cons, List.length_nil, List.length_replicate, List.replicate, List.set_cons_zero, List.set_cons_succ, List.set_nil, Option.bind_some, Option.map_some, Option.bind_none, Option.map_none, Nat.sub_zero, Nat.reduceSub, Nat.reduceAdd, Bool.not_true, Bool.not_false, if_true, if_false, reduceIte, Bool.false_eq_true, Bool.true_and, Bool.and_true, Bool.false_and, Bool.and_false, decide_true, decide_false, List.tail_cons, List.isEmpty_cons, List.isEmpty_nil, ne_eq, not_true_eq_false, not_false_eq_true, reduceCtorEq, List.append_nil, List.singleton_append, q1', len_int, ixn_of l1, gi_get l1, n12, ma, c1, rng1_of (show 1 + a < 1073741824 by omega), e, e5, slotsT, restE]
theorem cell_turn (k : Nat) {ns dr : List Int} {t : Nat} (ht : t < 5) (hdr : dr.length = 30) (hw : 200 < w) {ρ : Env} (h : Kn 15 ((2, WD) :: F0 ns dr t) ρ) : ∃ ρ', execSs (run fsL gl w (k + 8)) gl w b16_3 ρ = some (.nx ρ') ∧ Kn 15 [(2, WD), (0, .scr ns), (1, lstI dr)] ρ' := by
  obtain ⟨z, ρ0, e0⟩ := cell_run (fs := fsL) (gl := gl) (w := w) (k := k + 7) (i := 6) rfl ns (1 + t) (by omega)
  have ct : 1 + (0 + ((t : Nat) : Int)) = ((1 + t : Nat) : Int) := by omega
  obtain ⟨ds, ρ1, hl, hb, e1⟩ := draws_run (fs := fsL) (gl := gl) (w := w) (k := k + 7) (i := 7) rfl z 20 (by decide)
  have e1 : run fsL gl w (k + 8) 7 [.int z, .int 20] = some (.lst (ds.map D.int), ρ1) := e1
  have gb : ∀ i, i < 20 → ∃ c : Nat, gi ds i = (c : Nat) ∧ c < 5040 := fun i hi => by
    have := hb (gi ds i) (by rw [gi_elem (by omega)]; exact List.getElem_mem _)
    exact ⟨(gi ds i).toNat, by omega, by omega⟩
  have ix : ∀ i : Nat, i < 20 → ixn ds.length (i : Nat) = some i := fun i hi => ixn_of (by omega)
  have i0 : ixn ds.length 0 = some 0 := ix 0 (by omega)
  have g0 := gi_get (bs := ds) (i := 0) (by omega)
  have i1 : ixn ds.length 1 = some 1 := ix 1 (by omega)
  have g1 := gi_get (bs := ds) (i := 1) (by omega)
  have i2 : ixn ds.length 2 = some 2 := ix 2 (by omega)
  have g2 := gi_get (bs := ds) (i := 2) (by omega)
  have i3 : ixn ds.length 3 = some 3 := ix 3 (by omega)
  have g3 := gi_get (bs := ds) (i := 3) (by omega)
  have i4 : ixn ds.length 4 = some 4 := ix 4 (by omega)
  have g4 := gi_get (bs := ds) (i := 4) (by omega)
  have i5 : ixn ds.length 5 = some 5 := ix 5 (by omega)
  have g5 := gi_get (bs := ds) (i := 5) (by omega)
  have i6 : ixn ds.length 6 = some 6 := ix 6 (by omega)
  have g6 := gi_get (bs := ds) (i := 6) (by omega)
  have i7 : ixn ds.length 7 = some 7 := ix 7 (by omega)
  have g7 := gi_get (bs := ds) (i := 7) (by omega)
  obtain ⟨a0, m0, l0⟩ := fmod_nat (a := gi ds 0) (m := 60) (by decide)
  obtain ⟨a1, m1, l1⟩ := fmod_nat (a := gi ds 1) (m := 60) (by decide)
  obtain ⟨a2, m2, l2⟩ := fmod_nat (a := gi ds 2) (m := 3) (by decide)
  obtain ⟨a5, m5, l5⟩ := fmod_nat (a := gi ds 5) (m := 39) (by decide)
  obtain ⟨a7, m7, l7⟩ := fmod_nat (a := gi ds 7) (m := 5040) (by decide)
  have m0 : (gi ds 0).fmod 60 = ((a0 : Nat) : Int) := m0
  have m1 : (gi ds 1).fmod 60 = ((a1 : Nat) : Int) := m1
  have m2 : (gi ds 2).fmod 3 = ((a2 : Nat) : Int) := m2
  have m5 : (gi ds 5).fmod 39 = ((a5 : Nat) : Int) := m5
  have m7 : (gi ds 7).fmod 5040 = ((a7 : Nat) : Int) := m7
  obtain ⟨c3, h3, b3⟩ := gb 3 (by omega)
  obtain ⟨c4, h4, b4⟩ := gb 4 (by omega)
  obtain ⟨c6, h6, b6⟩ := gb 6 (by omega)
  rw [h3] at g3
  rw [h4] at g4
  rw [h6] at g6
  have q0 : 1 + ((a0 : Nat) : Int) = ((1 + a0 : Nat) : Int) := by omega
  have q1 : 1 + ((a1 : Nat) : Int) = ((1 + a1 : Nat) : Int) := by omega
  generalize hone : 1 + a0 = one at q0
  generalize hoth : 1 + a1 = oth at q1
  have n60 : ¬ (60 : Int) = 0 := by decide
  have n13 : ¬ (13 : Int) = 0 := by decide
  have n131 : (13 : Int).natAbs < 1073741824 := by decide
  have n3 : ¬ (3 : Int) = 0 := by decide
  have n39 : ¬ (39 : Int) = 0 := by decide
  have n50 : ¬ (5040 : Int) = 0 := by decide
  have o1 : mulOk ((one : Nat) : Int) 8 = true := mul_ok1 _ (by decide)
  have fd : (((one : Nat) : Int) * 8).fdiv 13 = ((one * 8 / 13 : Nat) : Int) := by
    rw [Int.fdiv_eq_ediv_of_nonneg _ (by decide)]; omega
  obtain ⟨near, hn1, hn2, hnv⟩ : ∃ near : Nat, 1 ≤ near ∧ near ≤ 60 ∧ (if (if (((one * 8 / 13 : Nat) : Int) + ((a2 : Nat) : Int)) < 60 then (((one * 8 / 13 : Nat) : Int) + ((a2 : Nat) : Int)) else 60) > 1 then (if (((one * 8 / 13 : Nat) : Int) + ((a2 : Nat) : Int)) < 60 then (((one * 8 / 13 : Nat) : Int) + ((a2 : Nat) : Int)) else 60) else 1) = ((near : Nat) : Int) := by
    refine ⟨max 1 (min 60 (one * 8 / 13 + a2)), by omega, by omega, ?_⟩
    split <;> split at * <;> omega
  have sp : b16_3 = b16_3.take 4 ++ ((b16_3.drop 4).take 1 ++ ((b16_3.drop 5).take 3 ++ ((b16_3.drop 8).take 1 ++ ((b16_3.drop 9).take 1 ++ b16_3.drop 10)))) := rfl
  obtain ⟨ρa, ea, ha⟩ := kn_ss (gl := gl) (w := w) (w0 := w) (cf0 := run fsL gl w (k + 8)) (cf := run fsL gl w (k + 8)) (ss := b16_3.take 4) (fs := [(0, .scr ns), (4, .int (0 + ((t : Nat) : Int)))]) (keep := (2, WD) :: F0 ns dr t) (out := [(5, lstI ds), (6, .int (one : Nat)), (8, .int (near : Nat)), (7, .int (oth : Nat))]) (ρ1 := mkE 15 [(0, .scr ns), (4, .int (0 + ((t : Nat) : Int))), (5, lstI ds), (6, .int (one : Nat)), (7, .int (oth : Nat)), (8, .int (near : Nat))]) (FLe.refl _) (Nat.le_refl _) (h.sub (by
    intro q hq
    simp only [F0, List.cons_append, List.nil_append, List.mem_cons, List.not_mem_nil, or_false] at hq ⊢
    rcases hq with hq | hq | hq | hq | hq | hq <;> simp [hq])) (by
    rw [show b16_3.take 4 = [.set (.nm 5) (.call 7 [(.call 6 [(.var 0), (.bin .add (.lit (.int 1)) (.var 4))] [none, none]), (.lit (.int 20))] [none, none]), .set (.nm 6) (.bin .add (.lit (.int 1)) (.bin .mod (.fn .int [(.idx (.var 5) (.lit (.int 0)))]) (.lit (.int 60)))), .set (.nm 7) (.bin .add (.lit (.int 1)) (.bin .mod (.fn .int [(.idx (.var 5) (.lit (.int 1)))]) (.lit (.int 60)))), .set (.nm 8) (.fn .max [(.lit (.int 1)), (.fn .min [(.lit (.int 60)), (.bin .add (.bin .fdiv (.bin .mul (.var 6) (.lit (.int 8))) (.lit (.int 13))) (.bin .mod (.fn .int [(.idx (.var 5) (.lit (.int 2)))]) (.lit (.int 3))))])])] from rfl]
    simp only [mkE, lstI]
    simp only [g_0, g_s, v_lit, v_var, v_mov, v_own, v_chk, v_bin, v_neg, v_cmp, v_cmp2, v_band, v_bor, v_bnot, v_ite, v_tup, v_lst, v_dct, v_idx, v_slc, v_rev, v_fn, v_isi, v_mth, v_mut, v_call, v_lc, v_ge, v_lof, t_lit, t_var, t_cmp, t_cmp2, t_bin, t_idx, t_fn, t_isi, t_call, t_ge, t_slc, t_mth, t_band, t_bor, t_bnot, i_var, i_call, i_idx, i_bin, i_fn, i_tup, i_lst, i_slc, i_lce, i_ck, i_r1, i_r2, i_r3, i_en, i_zp, i_rv, a_nil, a_cons, o_none, o_some, c_none, c_some, s_nil, s_cons, x_set, x_aug, x_put, x_ex, x_ret, x_ret0, x_iff, x_whl, x_for, x_brk, x_cnt, x_pas, x_doc, b_nm, b_tup, b_lst, b_nil, b_cons, k_nil, k_none, kP, kM, kPI, kPB, kPN, kPO, kPT, kPL, kPE, kPV, kPZ, kOwn, kChk, kBin2, kBin, kNeg, kCmpB, kCmp, kChA, kCh2, kCh, kAnd2, kAnd, kOr2, kOr, kNot, kIte, kTup, kLst, kIdx2, kIdx, kSl3, kSl2, kSl, kRev, kFn, kIsi, kMth2, kMth, kMu3, kMu2, kMu1, kMu, kCa3, kCa2, kCa, kLc2, kLc, kGe2, kGe, kLof, kT, kAndT, kOrT, kNotT, kI, kCk, kR1, kR2b, kR2, kR3c, kR3b, kR3, kEn, kZp2, kZp, kRv, kA2, kA, kO, kSet, kNx, kRt, kSt, kAu2, kAu, kPu3, kPu2, kPu1, kPu, kIf, kFor, kBt, p_add, p_sub, p_mul, p_fdiv, p_mod, p_pow, p_addL, p_addT, p_mulL, q_lt, q_le, q_gt, q_ge, q_eq, q_ne, q_eqT, q_neT, q_eqL, q_neL, q_eqB, q_eqS, q_is, q_isnot, q_inL, q_niL, q_inT, q_niT, u_non, u_bl, u_int, u_lst, u_tup, d_L, d_T, n_n, n_i, n_b, n_s, n_t, n_l, l_lenL, l_lenT, l_lenS, l_abs, l_int, l_min, l_max, l_tupL, l_tupT, l_lstL, l_lstT, l_minL, l_maxL, au_add, au_sub, au_str, l_all, l_any, l_sum, l_srtL, l_srtT, w_ints, w_pures, w_bools, w_sort, w_shps, w_shpI, w_shpB, w_shpN, w_shpT, w_shpL, w_eqs, w_eqT, w_eqL, m_app, y_n_int, y_n_bool, y_n_str, y_n_tuple, y_n_list, y_b_int, y_b_bool, y_b_str, y_b_tuple, y_b_list, y_i_int, y_i_bool, y_i_str, y_i_tuple, y_i_list, y_s_int, y_s_bool, y_s_str, y_s_tuple, y_s_list, y_t_int, y_t_bool, y_t_str, y_t_tuple, y_t_list, y_l_int, y_l_bool, y_l_str, y_l_tuple, y_l_list, r_T, r_L, sl_L, sl_T, wk_L, wk_T, ix_L, lo_L, lo_T, isL_l, isI_i, isB_b, pu_i, pu_b, pu_s, pu_n, pu_t, ow_i, ow_b, ow_l, ow_t, thenS, startE, List.map_cons, List.map_nil, List.cons_append, List.nil_append, List.length_cons, List.length_nil, List.length_replicate, List.replicate, List.set_cons_zero, List.set_cons_succ, List.set_nil, Option.bind_some, Option.map_some, Option.bind_none, Option.map_none, Nat.sub_zero, Nat.reduceSub, Nat.reduceAdd, Bool.not_true, Bool.not_false, if_true, if_false, reduceIte, Bool.false_eq_true, Bool.true_and, Bool.and_true, Bool.false_and, Bool.and_false, decide_true, decide_false, List.tail_cons, List.isEmpty_cons, List.isEmpty_nil, ne_eq, not_true_eq_false, not_false_eq_true, reduceCtorEq, List.append_nil, List.singleton_append, ct, e0, e1, len_int, i0, i1, i2, g0, g1, g2, n60, n13, n131, n3, and_self, m0, m1, m2, q0, q1, o1, fd, hnv]) rfl (by intro q hq; simp only [List.mem_cons, List.not_mem_nil, or_false] at hq; rcases hq with rfl | rfl | rfl | rfl <;> rfl) rfl
  have o2 : mulOk 2 ((near : Nat) : Int) = true := mul_ok2 _ (by decide)
  have qd : (if 2 * ((near : Nat) : Int) < 60 then 2 * ((near : Nat) : Int) else 60) = ((min 60 (2 * near) : Nat) : Int) := by split <;> omega
  obtain ⟨ρb, eb, hbK⟩ := kn_i (gl := gl) (cf0 := run fsL gl w (k + 8)) (cf := run fsL gl w (k + 8)) (e := (.tup [(.tup [(.var 6), (.var 7)]), (.tup [(.var 8), (.var 6)]), (.tup [(.var 6), (.var 8)]), (.tup [(.var 6), (.var 6)]), (.tup [(.fn .min [(.lit (.int 60)), (.bin .mul (.lit (.int 2)) (.var 8))]), (.var 8)])])) (x := [prD one oth, prD near one, prD one near, prD one one, prD (min 60 (2 * near)) near]) (ρ1 := mkE 15 [(6, .int (one : Nat)), (8, .int (near : Nat)), (7, .int (oth : Nat))]) (fs := [(6, .int (one : Nat)), (8, .int (near : Nat)), (7, .int (oth : Nat))]) (keep := (2, WD) :: (5, lstI ds) :: F0 ns dr t) (out := []) (FLe.refl _) (ha.sub (by
    intro q hq
    simp only [F0, List.cons_append, List.nil_append, List.mem_cons, List.not_mem_nil, or_false] at hq ⊢
    rcases hq with hq | hq | hq | hq | hq | hq | hq | hq <;> simp [hq])) (by
    simp only [mkE, prD]
    simp only [g_0, g_s, v_lit, v_var, v_mov, v_own, v_chk, v_bin, v_neg, v_cmp, v_cmp2, v_band, v_bor, v_bnot, v_ite, v_tup, v_lst, v_dct, v_idx, v_slc, v_rev, v_fn, v_isi, v_mth, v_mut, v_call, v_lc, v_ge, v_lof, t_lit, t_var, t_cmp, t_cmp2, t_bin, t_idx, t_fn, t_isi, t_call, t_ge, t_slc, t_mth, t_band, t_bor, t_bnot, i_var, i_call, i_idx, i_bin, i_fn, i_tup, i_lst, i_slc, i_lce, i_ck, i_r1, i_r2, i_r3, i_en, i_zp, i_rv, a_nil, a_cons, o_none, o_some, c_none, c_some, s_nil, s_cons, x_set, x_aug, x_put, x_ex, x_ret, x_ret0, x_iff, x_whl, x_for, x_brk, x_cnt, x_pas, x_doc, b_nm, b_tup, b_lst, b_nil, b_cons, k_nil, k_none, kP, kM, kPI, kPB, kPN, kPO, kPT, kPL, kPE, kPV, kPZ, kOwn, kChk, kBin2, kBin, kNeg, kCmpB, kCmp, kChA, kCh2, kCh, kAnd2, kAnd, kOr2, kOr, kNot, kIte, kTup, kLst, kIdx2, kIdx, kSl3, kSl2, kSl, kRev, kFn, kIsi, kMth2, kMth, kMu3, kMu2, kMu1, kMu, kCa3, kCa2, kCa, kLc2, kLc, kGe2, kGe, kLof, kT, kAndT, kOrT, kNotT, kI, kCk, kR1, kR2b, kR2, kR3c, kR3b, kR3, kEn, kZp2, kZp, kRv, kA2, kA, kO, kSet, kNx, kRt, kSt, kAu2, kAu, kPu3, kPu2, kPu1, kPu, kIf, kFor, kBt, p_add, p_sub, p_mul, p_fdiv, p_mod, p_pow, p_addL, p_addT, p_mulL, q_lt, q_le, q_gt, q_ge, q_eq, q_ne, q_eqT, q_neT, q_eqL, q_neL, q_eqB, q_eqS, q_is, q_isnot, q_inL, q_niL, q_inT, q_niT, u_non, u_bl, u_int, u_lst, u_tup, d_L, d_T, n_n, n_i, n_b, n_s, n_t, n_l, l_lenL, l_lenT, l_lenS, l_abs, l_int, l_min, l_max, l_tupL, l_tupT, l_lstL, l_lstT, l_minL, l_maxL, au_add, au_sub, au_str, l_all, l_any, l_sum, l_srtL, l_srtT, w_ints, w_pures, w_bools, w_sort, w_shps, w_shpI, w_shpB, w_shpN, w_shpT, w_shpL, w_eqs, w_eqT, w_eqL, m_app, y_n_int, y_n_bool, y_n_str, y_n_tuple, y_n_list, y_b_int, y_b_bool, y_b_str, y_b_tuple, y_b_list, y_i_int, y_i_bool, y_i_str, y_i_tuple, y_i_list, y_s_int, y_s_bool, y_s_str, y_s_tuple, y_s_list, y_t_int, y_t_bool, y_t_str, y_t_tuple, y_t_list, y_l_int, y_l_bool, y_l_str, y_l_tuple, y_l_list, r_T, r_L, sl_L, sl_T, wk_L, wk_T, ix_L, lo_L, lo_T, isL_l, isI_i, isB_b, pu_i, pu_b, pu_s, pu_n, pu_t, ow_i, ow_b, ow_l, ow_t, thenS, startE, List.map_cons, List.map_nil, List.cons_append, List.nil_append, List.length_cons, List.length_nil, List.length_replicate, List.replicate, List.set_cons_zero, List.set_cons_succ, List.set_nil, Option.bind_some, Option.map_some, Option.bind_none, Option.map_none, Nat.sub_zero, Nat.reduceSub, Nat.reduceAdd, Bool.not_true, Bool.not_false, if_true, if_false, reduceIte, Bool.false_eq_true, Bool.true_and, Bool.and_true, Bool.false_and, Bool.and_false, decide_true, decide_false, List.tail_cons, List.isEmpty_cons, List.isEmpty_nil, ne_eq, not_true_eq_false, not_false_eq_true, reduceCtorEq, List.append_nil, List.singleton_append, o2, qd]) rfl (fun q hq => nomatch hq) rfl
  obtain ⟨ρc, ec, hcK⟩ := pairs_loop (gl := gl) (w := w) k (F := (5, lstI ds) :: F0 ns dr t) hw rfl rfl [(one, oth), (near, one), (one, near), (one, one), (min 60 (2 * near), near)] (by
    intro q hq
    simp only [List.mem_cons, List.not_mem_nil, or_false] at hq
    rcases hq with rfl | rfl | rfl | rfl | rfl <;> refine ⟨?_, ?_, ?_, ?_⟩ <;> simp only [] <;> omega) hbK
  -- a great pair
  have o3 : mulOk ((c4 : Nat) : Int) 5040 = true := mul_ok1 _ (by decide)
  have o4 : mulOk (((c4 : Nat) : Int) * 5040) ((a5 : Nat) : Int) = true := mul_ok1 _ (by omega)
  have o5 : mulOk ((c6 : Nat) : Int) (1 + ((a7 : Nat) : Int)) = true := mul_ok1 _ (by omega)
  have qA : 1 + ((c3 : Nat) : Int) + ((c4 : Nat) : Int) * 5040 * ((a5 : Nat) : Int) = ((1 + c3 + c4 * 5040 * a5 : Nat) : Int) := by simp
  have qB : 1 + ((c6 : Nat) : Int) * (1 + ((a7 : Nat) : Int)) = ((1 + c6 * (1 + a7) : Nat) : Int) := by simp
  have bA : 1 + c3 + c4 * 5040 * a5 ≤ 1000000000 := by
    have : c4 * 5040 * a5 ≤ 5039 * 5040 * 38 := Nat.mul_le_mul (Nat.mul_le_mul (by omega) (Nat.le_refl _)) (by omega)
    omega
  generalize 1 + c3 + c4 * 5040 * a5 = A at qA bA
  generalize 1 + c6 * (1 + a7) = B at qB
  have hqq : (Q (min A B) (max A B)).length ≤ 100 := Q60 (by omega)
  have h64 : A < 2 ^ 64 := by
    have : (2 : Nat) ^ 64 = 18446744073709551616 := by decide
    omega
  obtain ⟨ρ2, e2⟩ := lquo_run (gl := gl) (w := w) (k + 7) hqq h64 hw
  obtain ⟨ρ3, e3⟩ := quo_run (gl := gl) (w := w) (k + 7) hqq h64 hw
  obtain ⟨ρ4, e4⟩ := turn_run (gl := gl) (w := w) (k + 6) hqq h64 hw
  obtain ⟨ρ5, e5⟩ := lturn_run (gl := gl) (w := w) (k + 7) hqq
  obtain ⟨ρ6, e6⟩ := is_tup (gl := gl) (w := w) (k + 5) (QI (min A B) (max A B)) (by rw [QI_len]; omega)
  obtain ⟨ρ7, e7⟩ := is_int (gl := gl) (w := w) (k + 5) (tn (Q (min A B) (max A B)))
  have e5 : run fsL gl w (k + 8) 14 [tupI (QI (min A B) (max A B))] = some (.int (tn (Q (min A B) (max A B))), ρ5) := e5
  obtain ⟨ρd, ed, hd⟩ := kn_ss (gl := gl) (w := w) (w0 := w) (cf0 := run fsL gl w (k + 8)) (cf := run fsL gl w (k + 8)) (ss := (b16_3.drop 5).take 3) (fs := [(5, lstI ds)]) (keep := (2, WD) :: (5, lstI ds) :: F0 ns dr t) (out := []) (ρ1 := mkE 15 [(5, lstI ds), (9, prD A B), (10, tupI (QI (min A B) (max A B)))]) (FLe.refl _) (Nat.le_refl _) (hcK.sub (by
    intro q hq
    simp only [F0, List.cons_append, List.nil_append, List.mem_cons, List.not_mem_nil, or_false] at hq ⊢
    rcases hq with hq | hq | hq | hq | hq | hq <;> simp [hq])) (by
    rw [show (b16_3.drop 5).take 3 = [.set (.nm 9) (.tup [(.bin .add (.bin .add (.lit (.int 1)) (.fn .int [(.idx (.var 5) (.lit (.int 3)))])) (.bin .mul (.bin .mul (.fn .int [(.idx (.var 5) (.lit (.int 4)))]) (.lit (.int 5040))) (.bin .mod (.fn .int [(.idx (.var 5) (.lit (.int 5)))]) (.lit (.int 39))))), (.bin .add (.lit (.int 1)) (.bin .mul (.fn .int [(.idx (.var 5) (.lit (.int 6)))]) (.bin .add (.lit (.int 1)) (.bin .mod (.fn .int [(.idx (.var 5) (.lit (.int 7)))]) (.lit (.int 5040))))))]), .set (.nm 10) (.call 13 [(.var 9)] [none]), .iff (.bor (.bnot (.call 9 [(.call 0 [(.var 9)] [none]), (.var 10)] [none, none])) (.bnot (.call 9 [(.call 2 [(.var 9)] [none]), (.call 14 [(.var 10)] [none])] [none, none]))) [.ret (.lit (.bl false))] []] from rfl]
    simp only [mkE, lstI, prD, tupI] at e2 e3 e4 e5 e6 ⊢
    simp only [g_0, g_s, v_lit, v_var, v_mov, v_own, v_chk, v_bin, v_neg, v_cmp, v_cmp2, v_band, v_bor, v_bnot, v_ite, v_tup, v_lst, v_dct, v_idx, v_slc, v_rev, v_fn, v_isi, v_mth, v_mut, v_call, v_lc, v_ge, v_lof, t_lit, t_var, t_cmp, t_cmp2, t_bin, t_idx, t_fn, t_isi, t_call, t_ge, t_slc, t_mth, t_band, t_bor, t_bnot, i_var, i_call, i_idx, i_bin, i_fn, i_tup, i_lst, i_slc, i_lce, i_ck, i_r1, i_r2, i_r3, i_en, i_zp, i_rv, a_nil, a_cons, o_none, o_some, c_none, c_some, s_nil, s_cons, x_set, x_aug, x_put, x_ex, x_ret, x_ret0, x_iff, x_whl, x_for, x_brk, x_cnt, x_pas, x_doc, b_nm, b_tup, b_lst, b_nil, b_cons, k_nil, k_none, kP, kM, kPI, kPB, kPN, kPO, kPT, kPL, kPE, kPV, kPZ, kOwn, kChk, kBin2, kBin, kNeg, kCmpB, kCmp, kChA, kCh2, kCh, kAnd2, kAnd, kOr2, kOr, kNot, kIte, kTup, kLst, kIdx2, kIdx, kSl3, kSl2, kSl, kRev, kFn, kIsi, kMth2, kMth, kMu3, kMu2, kMu1, kMu, kCa3, kCa2, kCa, kLc2, kLc, kGe2, kGe, kLof, kT, kAndT, kOrT, kNotT, kI, kCk, kR1, kR2b, kR2, kR3c, kR3b, kR3, kEn, kZp2, kZp, kRv, kA2, kA, kO, kSet, kNx, kRt, kSt, kAu2, kAu, kPu3, kPu2, kPu1, kPu, kIf, kFor, kBt, p_add, p_sub, p_mul, p_fdiv, p_mod, p_pow, p_addL, p_addT, p_mulL, q_lt, q_le, q_gt, q_ge, q_eq, q_ne, q_eqT, q_neT, q_eqL, q_neL, q_eqB, q_eqS, q_is, q_isnot, q_inL, q_niL, q_inT, q_niT, u_non, u_bl, u_int, u_lst, u_tup, d_L, d_T, n_n, n_i, n_b, n_s, n_t, n_l, l_lenL, l_lenT, l_lenS, l_abs, l_int, l_min, l_max, l_tupL, l_tupT, l_lstL, l_lstT, l_minL, l_maxL, au_add, au_sub, au_str, l_all, l_any, l_sum, l_srtL, l_srtT, w_ints, w_pures, w_bools, w_sort, w_shps, w_shpI, w_shpB, w_shpN, w_shpT, w_shpL, w_eqs, w_eqT, w_eqL, m_app, y_n_int, y_n_bool, y_n_str, y_n_tuple, y_n_list, y_b_int, y_b_bool, y_b_str, y_b_tuple, y_b_list, y_i_int, y_i_bool, y_i_str, y_i_tuple, y_i_list, y_s_int, y_s_bool, y_s_str, y_s_tuple, y_s_list, y_t_int, y_t_bool, y_t_str, y_t_tuple, y_t_list, y_l_int, y_l_bool, y_l_str, y_l_tuple, y_l_list, r_T, r_L, sl_L, sl_T, wk_L, wk_T, ix_L, lo_L, lo_T, isL_l, isI_i, isB_b, pu_i, pu_b, pu_s, pu_n, pu_t, ow_i, ow_b, ow_l, ow_t, thenS, startE, List.map_cons, List.map_nil, List.cons_append, List.nil_append, List.length_cons, List.length_nil, List.length_replicate, List.replicate, List.set_cons_zero, List.set_cons_succ, List.set_nil, Option.bind_some, Option.map_some, Option.bind_none, Option.map_none, Nat.sub_zero, Nat.reduceSub, Nat.reduceAdd, Bool.not_true, Bool.not_false, if_true, if_false, reduceIte, Bool.false_eq_true, Bool.true_and, Bool.and_true, Bool.false_and, Bool.and_false, decide_true, decide_false, List.tail_cons, List.isEmpty_cons, List.isEmpty_nil, ne_eq, not_true_eq_false, not_false_eq_true, reduceCtorEq, List.append_nil, List.singleton_append, len_int, i3, i4, i5, i6, i7, g3, g4, g5, g6, g7, n39, n50, m5, m7, o3, o4, o5, qA, qB, e2, e3, e4, e5, e6, e7]) rfl (fun q hq => nomatch hq) rfl
  obtain ⟨r0, r00, rq, rl, er⟩ := row_ev (gl := gl) (w := w) k ht hdr hl
  obtain ⟨ρe, ee, he⟩ := kn_s (gl := gl) (w := w) (w0 := w) (cf0 := run fsL gl w (k + 8)) (cf := run fsL gl w (k + 8)) (fs := [(1, lstI dr), (4, .int (0 + ((t : Nat) : Int))), (5, lstI ds)]) (keep := (2, WD) :: F0 ns dr t) (out := [(11, tupI (toI r0))]) (FLe.refl _) (Nat.le_refl _) (hd.sub (by
    intro q hq
    simp only [F0, List.cons_append, List.nil_append, List.mem_cons, List.not_mem_nil, or_false] at hq ⊢
    rcases hq with hq | hq | hq | hq | hq | hq | hq <;> simp [hq])) er rfl (by intro q hq; rw [List.mem_singleton.mp hq]; rfl) rfl
  obtain ⟨r, r1, rq1, rl1, er1⟩ := row_fix (gl := gl) (w := w) (cf := run fsL gl w (k + 8)) r00 rq rl
  obtain ⟨ρf, ef, hf⟩ := kn_s (gl := gl) (w := w) (w0 := w) (cf0 := run fsL gl w (k + 8)) (cf := run fsL gl w (k + 8)) (fs := [(11, tupI (toI r0))]) (keep := (2, WD) :: F0 ns dr t) (out := [(11, tupI (toI r))]) (FLe.refl _) (Nat.le_refl _) he er1 rfl (by intro q hq; rw [List.mem_singleton.mp hq]; rfl) rfl
  obtain ⟨ρg, eg, hg⟩ := kn_ss (gl := gl) (w := w) (w0 := w) (cf0 := run fsL gl w (k + 8)) (cf := run fsL gl w (k + 8)) (fs := [(11, tupI (toI r))]) (keep := (2, WD) :: F0 ns dr t) (out := []) (FLe.refl _) (Nat.le_refl _) hf (row_asked (gl := gl) (w := w) k r1 rq1 rl1 hw) rfl (fun q hq => nomatch hq) rfl
  refine ⟨ρg, ?_, hg.sub (by
    intro q hq
    simp only [F0, List.nil_append, List.mem_cons, List.not_mem_nil, or_false] at hq ⊢
    rcases hq with hq | hq | hq <;> simp [hq])⟩
  have ec : forL (forF (run fsL gl w (k + 8)) gl w (.nm 3) b16_0) [prD one oth, prD near one, prD one near, prD one one, prD (min 60 (2 * near)) near] ρb = some (.nx ρc) := ec
  rw [sp, ss_app ea, show (b16_3.drop 4).take 1 = [.for_ (.nm 3) (.tup [(.tup [(.var 6), (.var 7)]), (.tup [(.var 8), (.var 6)]), (.tup [(.var 6), (.var 8)]), (.tup [(.var 6), (.var 6)]), (.tup [(.fn .min [(.lit (.int 60)), (.bin .mul (.lit (.int 2)) (.var 8))]), (.var 8)])]) b16_0] from rfl, List.cons_append, ss_nx (xs_for eb ec), List.nil_append, ss_app ed, show (b16_3.drop 8).take 1 = [.set (.nm 11) (.fn .tuple [(.lc e16_1 (.nm 13) (.irng1 (.bin .add (.lit (.int 1)) (.bin .mod (.fn .int [(.idx (.var 1) (.bin .add (.lit (.int 5)) (.var 4)))]) (.lit (.int 12))))) none)])] from rfl, List.cons_append, ss_nx ee, List.nil_append, show (b16_3.drop 9).take 1 = [st9] from rfl, List.cons_append, ss_nx ef, List.nil_append, eg]
theorem i60 : (D.int ((60 : Nat) : Int)) = .int 60 := rfl
theorem lwins_60 (k : Nat) : ∃ ρ, run fsL gl w (k + 2) 11 [.int 60] = some (WD, ρ) := by
  have h := lwins_gen (gl := gl) (w := w) k 60 (by decide)
  rw [i60] at h
  unfold WD
  exact h
theorem p60 : (([(3, 5), (13, 8), (1, 1), (2, 1)] : List (Nat × Nat)).map fun q => prD q.1 q.2) = [.tup [.int 3, .int 5], .tup [.int 13, .int 8], .tup [.int 1, .int 1], .tup [.int 2, .int 1]] := rfl
theorem kn0 (ns dr : List Int) (W : D) : Kn 15 [(2, W), (0, .scr ns), (1, lstI dr)] [some (.scr ns), some (lstI dr), some W, none, none, none, none, none, none, none, none, none, none, none, none] := ⟨rfl, fun q hq => by
    simp only [List.mem_cons, List.not_mem_nil, or_false] at hq
    rcases hq with rfl | rfl | rfl <;> rfl⟩
end
end Vi

set_option Elab.async false
set_option linter.all false
set_option maxRecDepth 100000
set_option maxHeartbeats 4000000
/-! The law of Euclid's game. -/
namespace Vi
open PySem L2
section
theorem set2 {cf : Fns} {gl : Nat → Option D} {ns dr : List Int} {W : D} {ρ2 : Env} (e2 : cf 11 [.int 60] = some (W, ρ2)) : execS cf gl 1000 (.set (.nm 2) (.call 11 [(.lit (.int 60))] [none])) [some (.scr ns), some (.lst (dr.map D.int)), none, none, none, none, none, none, none, none, none, none, none, none, none] = some (.nx [some (.scr ns), some (.lst (dr.map D.int)), some W, none, none, none, none, none, none, none, none, none, none, none, none]) := by
  simp only [g_0, g_s, v_lit, v_var, v_mov, v_own, v_chk, v_bin, v_neg, v_cmp, v_cmp2, v_band, v_bor, v_bnot, v_ite, v_tup, v_lst, v_dct, v_idx, v_slc, v_rev, v_fn, v_isi, v_mth, v_mut, v_call, v_lc, v_ge, v_lof, t_lit, t_var, t_cmp, t_cmp2, t_bin, t_idx, t_fn, t_isi, t_call, t_ge, t_slc, t_mth, t_band, t_bor, t_bnot, i_var, i_call, i_idx, i_bin, i_fn, i_tup, i_lst, i_slc, i_lce, i_ck, i_r1, i_r2, i_r3, i_en, i_zp, i_rv, a_nil, a_cons, o_none, o_some, c_none, c_some, s_nil, s_cons, x_set, x_aug, x_put, x_ex, x_ret, x_ret0, x_iff, x_whl, x_for, x_brk, x_cnt, x_pas, x_doc, b_nm, b_tup, b_lst, b_nil, b_cons, k_nil, k_none, kP, kM, kPI, kPB, kPN, kPO, kPT, kPL, kPE, kPV, kPZ, kOwn, kChk, kBin2, kBin, kNeg, kCmpB, kCmp, kChA, kCh2, kCh, kAnd2, kAnd, kOr2, kOr, kNot, kIte, kTup, kLst, kIdx2, kIdx, kSl3, kSl2, kSl, kRev, kFn, kIsi, kMth2, kMth, kMu3, kMu2, kMu1, kMu, kCa3, kCa2, kCa, kLc2, kLc, kGe2, kGe, kLof, kT, kAndT, kOrT, kNotT, kI, kCk, kR1, kR2b, kR2, kR3c, kR3b, kR3, kEn, kZp2, kZp, kRv, kA2, kA, kO, kSet, kNx, kRt, kSt, kAu2, kAu, kPu3, kPu2, kPu1, kPu, kIf, kFor, kBt, p_add, p_sub, p_mul, p_fdiv, p_mod, p_pow, p_addL, p_addT, p_mulL, q_lt, q_le, q_gt, q_ge, q_eq, q_ne, q_eqT, q_neT, q_eqL, q_neL, q_eqB, q_eqS, q_is, q_isnot, q_inL, q_niL, q_inT, q_niT, u_non, u_bl, u_int, u_lst, u_tup, d_L, d_T, n_n, n_i, n_b, n_s, n_t, n_l, l_lenL, l_lenT, l_lenS, l_abs, l_int, l_min, l_max, l_tupL, l_tupT, l_lstL, l_lstT, l_minL, l_maxL, au_add, au_sub, au_str, l_all, l_any, l_sum, l_srtL, l_srtT, w_ints, w_pures, w_bools, w_sort, w_shps, w_shpI, w_shpB, w_shpN, w_shpT, w_shpL, w_eqs, w_eqT, w_eqL, m_app, y_n_int, y_n_bool, y_n_str, y_n_tuple, y_n_list, y_b_int, y_b_bool, y_b_str, y_b_tuple, y_b_list, y_i_int, y_i_bool, y_i_str, y_i_tuple, y_i_list, y_s_int, y_s_bool, y_s_str, y_s_tuple, y_s_list, y_t_int, y_t_bool, y_t_str, y_t_tuple, y_t_list, y_l_int, y_l_bool, y_l_str, y_l_tuple, y_l_list, r_T, r_L, sl_L, sl_T, wk_L, wk_T, ix_L, lo_L, lo_T, isL_l, isI_i, isB_b, pu_i, pu_b, pu_s, pu_n, pu_t, ow_i, ow_b, ow_l, ow_t, thenS, startE, List.map_cons, List.map_nil, List.cons_append, List.nil_append, List.length_cons, List.length_nil, List.length_replicate, List.replicate, List.set_cons_zero, List.set_cons_succ, List.set_nil, Option.bind_some, Option.map_some, Option.bind_none, Option.map_none, Nat.sub_zero, Nat.reduceSub, Nat.reduceAdd, Bool.not_true, Bool.not_false, if_true, if_false, reduceIte, Bool.false_eq_true, Bool.true_and, Bool.and_true, Bool.false_and, Bool.and_false, decide_true, decide_false, List.tail_cons, List.isEmpty_cons, List.isEmpty_nil, ne_eq, not_true_eq_false, not_false_eq_true, reduceCtorEq, List.append_nil, List.singleton_append, e2]
theorem law_end {ns dr : List Int} {z : Int} {W : D} {ρ0 ρ1 ρ2 ρ3 ρ4 : Env} (e0 : run fsL (fun _ => none) 1000 8 6 [.scr ns, .int 0] = some (.int z, ρ0)) (e1 : run fsL (fun _ => none) 1000 8 7 [.int z, .int 30] = some (.lst (dr.map D.int), ρ1)) (e2 : run fsL (fun _ => none) 1000 8 11 [.int 60] = some (W, ρ2))
    (e3 : forL (forF (run fsL (fun _ => none) 1000 8) (fun _ => none) 1000 (.nm 3) b16_0) (([(3, 5), (13, 8), (1, 1), (2, 1)] : List (Nat × Nat)).map fun q => prD q.1 q.2) [some (.scr ns), some (lstI dr), some W, none, none, none, none, none, none, none, none, none, none, none, none] = some (.nx ρ3))
    (e4 : forL (forF (run fsL (fun _ => none) 1000 8) (fun _ => none) 1000 (.nm 4) b16_3) (rngUp 0 5) ρ3 = some (.nx ρ4)) : run fsL (fun _ => none) 1000 9 16 [.scr ns] = some (.bl true, ρ4) := by
  have t1 : execS (run fsL (fun _ => none) 1000 8) (fun _ => none) 1000 (.set (.nm 1) (.call 7 [(.call 6 [(.var 0), (.lit (.int 0))] [none, none]), (.lit (.int 30))] [none, none])) [some (.scr ns), none, none, none, none, none, none, none, none, none, none, none, none, none, none] = some (.nx [some (.scr ns), some (.lst (dr.map D.int)), none, none, none, none, none, none, none, none, none, none, none, none, none]) := by
    simp only [g_0, g_s, v_lit, v_var, v_mov, v_own, v_chk, v_bin, v_neg, v_cmp, v_cmp2, v_band, v_bor, v_bnot, v_ite, v_tup, v_lst, v_dct, v_idx, v_slc, v_rev, v_fn, v_isi, v_mth, v_mut, v_call, v_lc, v_ge, v_lof, t_lit, t_var, t_cmp, t_cmp2, t_bin, t_idx, t_fn, t_isi, t_call, t_ge, t_slc, t_mth, t_band, t_bor, t_bnot, i_var, i_call, i_idx, i_bin, i_fn, i_tup, i_lst, i_slc, i_lce, i_ck, i_r1, i_r2, i_r3, i_en, i_zp, i_rv, a_nil, a_cons, o_none, o_some, c_none, c_some, s_nil, s_cons, x_set, x_aug, x_put, x_ex, x_ret, x_ret0, x_iff, x_whl, x_for, x_brk, x_cnt, x_pas, x_doc, b_nm, b_tup, b_lst, b_nil, b_cons, k_nil, k_none, kP, kM, kPI, kPB, kPN, kPO, kPT, kPL, kPE, kPV, kPZ, kOwn, kChk, kBin2, kBin, kNeg, kCmpB, kCmp, kChA, kCh2, kCh, kAnd2, kAnd, kOr2, kOr, kNot, kIte, kTup, kLst, kIdx2, kIdx, kSl3, kSl2, kSl, kRev, kFn, kIsi, kMth2, kMth, kMu3, kMu2, kMu1, kMu, kCa3, kCa2, kCa, kLc2, kLc, kGe2, kGe, kLof, kT, kAndT, kOrT, kNotT, kI, kCk, kR1, kR2b, kR2, kR3c, kR3b, kR3, kEn, kZp2, kZp, kRv, kA2, kA, kO, kSet, kNx, kRt, kSt, kAu2, kAu, kPu3, kPu2, kPu1, kPu, kIf, kFor, kBt, p_add, p_sub, p_mul, p_fdiv, p_mod, p_pow, p_addL, p_addT, p_mulL, q_lt, q_le, q_gt, q_ge, q_eq, q_ne, q_eqT, q_neT, q_eqL, q_neL, q_eqB, q_eqS, q_is, q_isnot, q_inL, q_niL, q_inT, q_niT, u_non, u_bl, u_int, u_lst, u_tup, d_L, d_T, n_n, n_i, n_b, n_s, n_t, n_l, l_lenL, l_lenT, l_lenS, l_abs, l_int, l_min, l_max, l_tupL, l_tupT, l_lstL, l_lstT, l_minL, l_maxL, au_add, au_sub, au_str, l_all, l_any, l_sum, l_srtL, l_srtT, w_ints, w_pures, w_bools, w_sort, w_shps, w_shpI, w_shpB, w_shpN, w_shpT, w_shpL, w_eqs, w_eqT, w_eqL, m_app, y_n_int, y_n_bool, y_n_str, y_n_tuple, y_n_list, y_b_int, y_b_bool, y_b_str, y_b_tuple, y_b_list, y_i_int, y_i_bool, y_i_str, y_i_tuple, y_i_list, y_s_int, y_s_bool, y_s_str, y_s_tuple, y_s_list, y_t_int, y_t_bool, y_t_str, y_t_tuple, y_t_list, y_l_int, y_l_bool, y_l_str, y_l_tuple, y_l_list, r_T, r_L, sl_L, sl_T, wk_L, wk_T, ix_L, lo_L, lo_T, isL_l, isI_i, isB_b, pu_i, pu_b, pu_s, pu_n, pu_t, ow_i, ow_b, ow_l, ow_t, thenS, startE, List.map_cons, List.map_nil, List.cons_append, List.nil_append, List.length_cons, List.length_nil, List.length_replicate, List.replicate, List.set_cons_zero, List.set_cons_succ, List.set_nil, Option.bind_some, Option.map_some, Option.bind_none, Option.map_none, Nat.sub_zero, Nat.reduceSub, Nat.reduceAdd, Bool.not_true, Bool.not_false, if_true, if_false, reduceIte, Bool.false_eq_true, Bool.true_and, Bool.and_true, Bool.false_and, Bool.and_false, decide_true, decide_false, List.tail_cons, List.isEmpty_cons, List.isEmpty_nil, ne_eq, not_true_eq_false, not_false_eq_true, reduceCtorEq, List.append_nil, List.singleton_append, e0, e1]
  have t2 := set2 (gl := fun _ => none) (ns := ns) (dr := dr) e2
  have i3 : (ev (run fsL (fun _ => none) 1000 8) (fun _ => none) (.tup [(.tup [(.lit (.int 3)), (.lit (.int 5))]), (.tup [(.lit (.int 13)), (.lit (.int 8))]), (.tup [(.lit (.int 1)), (.lit (.int 1))]), (.tup [(.lit (.int 2)), (.lit (.int 1))])])).i [some (.scr ns), some (.lst (dr.map D.int)), some W, none, none, none, none, none, none, none, none, none, none, none, none] = some (([(3, 5), (13, 8), (1, 1), (2, 1)] : List (Nat × Nat)).map fun q => prD q.1 q.2, [some (.scr ns), some (.lst (dr.map D.int)), some W, none, none, none, none, none, none, none, none, none, none, none, none]) := by
    rw [p60]
    simp only [g_0, g_s, v_lit, v_var, v_mov, v_own, v_chk, v_bin, v_neg, v_cmp, v_cmp2, v_band, v_bor, v_bnot, v_ite, v_tup, v_lst, v_dct, v_idx, v_slc, v_rev, v_fn, v_isi, v_mth, v_mut, v_call, v_lc, v_ge, v_lof, t_lit, t_var, t_cmp, t_cmp2, t_bin, t_idx, t_fn, t_isi, t_call, t_ge, t_slc, t_mth, t_band, t_bor, t_bnot, i_var, i_call, i_idx, i_bin, i_fn, i_tup, i_lst, i_slc, i_lce, i_ck, i_r1, i_r2, i_r3, i_en, i_zp, i_rv, a_nil, a_cons, o_none, o_some, c_none, c_some, s_nil, s_cons, x_set, x_aug, x_put, x_ex, x_ret, x_ret0, x_iff, x_whl, x_for, x_brk, x_cnt, x_pas, x_doc, b_nm, b_tup, b_lst, b_nil, b_cons, k_nil, k_none, kP, kM, kPI, kPB, kPN, kPO, kPT, kPL, kPE, kPV, kPZ, kOwn, kChk, kBin2, kBin, kNeg, kCmpB, kCmp, kChA, kCh2, kCh, kAnd2, kAnd, kOr2, kOr, kNot, kIte, kTup, kLst, kIdx2, kIdx, kSl3, kSl2, kSl, kRev, kFn, kIsi, kMth2, kMth, kMu3, kMu2, kMu1, kMu, kCa3, kCa2, kCa, kLc2, kLc, kGe2, kGe, kLof, kT, kAndT, kOrT, kNotT, kI, kCk, kR1, kR2b, kR2, kR3c, kR3b, kR3, kEn, kZp2, kZp, kRv, kA2, kA, kO, kSet, kNx, kRt, kSt, kAu2, kAu, kPu3, kPu2, kPu1, kPu, kIf, kFor, kBt, p_add, p_sub, p_mul, p_fdiv, p_mod, p_pow, p_addL, p_addT, p_mulL, q_lt, q_le, q_gt, q_ge, q_eq, q_ne, q_eqT, q_neT, q_eqL, q_neL, q_eqB, q_eqS, q_is, q_isnot, q_inL, q_niL, q_inT, q_niT, u_non, u_bl, u_int, u_lst, u_tup, d_L, d_T, n_n, n_i, n_b, n_s, n_t, n_l, l_lenL, l_lenT, l_lenS, l_abs, l_int, l_min, l_max, l_tupL, l_tupT, l_lstL, l_lstT, l_minL, l_maxL, au_add, au_sub, au_str, l_all, l_any, l_sum, l_srtL, l_srtT, w_ints, w_pures, w_bools, w_sort, w_shps, w_shpI, w_shpB, w_shpN, w_shpT, w_shpL, w_eqs, w_eqT, w_eqL, m_app, y_n_int, y_n_bool, y_n_str, y_n_tuple, y_n_list, y_b_int, y_b_bool, y_b_str, y_b_tuple, y_b_list, y_i_int, y_i_bool, y_i_str, y_i_tuple, y_i_list, y_s_int, y_s_bool, y_s_str, y_s_tuple, y_s_list, y_t_int, y_t_bool, y_t_str, y_t_tuple, y_t_list, y_l_int, y_l_bool, y_l_str, y_l_tuple, y_l_list, r_T, r_L, sl_L, sl_T, wk_L, wk_T, ix_L, lo_L, lo_T, isL_l, isI_i, isB_b, pu_i, pu_b, pu_s, pu_n, pu_t, ow_i, ow_b, ow_l, ow_t, thenS, startE, List.map_cons, List.map_nil, List.cons_append, List.nil_append, List.length_cons, List.length_nil, List.length_replicate, List.replicate, List.set_cons_zero, List.set_cons_succ, List.set_nil, Option.bind_some, Option.map_some, Option.bind_none, Option.map_none, Nat.sub_zero, Nat.reduceSub, Nat.reduceAdd, Bool.not_true, Bool.not_false, if_true, if_false, reduceIte, Bool.false_eq_true, Bool.true_and, Bool.and_true, Bool.false_and, Bool.and_false, decide_true, decide_false, List.tail_cons, List.isEmpty_cons, List.isEmpty_nil, ne_eq, not_true_eq_false, not_false_eq_true, reduceCtorEq, List.append_nil, List.singleton_append]
  have t3 := xs_for (x := .nm 3) i3 e3
  have i4 : (ev (run fsL (fun _ => none) 1000 8) (fun _ => none) (.irng1 (.lit (.int 5)))).i ρ3 = some (rngUp 0 5, ρ3) := by
    have r5 : rng1D (.int 5) = some (rngUp 0 5) := rfl
    simp only [g_0, g_s, v_lit, v_var, v_mov, v_own, v_chk, v_bin, v_neg, v_cmp, v_cmp2, v_band, v_bor, v_bnot, v_ite, v_tup, v_lst, v_dct, v_idx, v_slc, v_rev, v_fn, v_isi, v_mth, v_mut, v_call, v_lc, v_ge, v_lof, t_lit, t_var, t_cmp, t_cmp2, t_bin, t_idx, t_fn, t_isi, t_call, t_ge, t_slc, t_mth, t_band, t_bor, t_bnot, i_var, i_call, i_idx, i_bin, i_fn, i_tup, i_lst, i_slc, i_lce, i_ck, i_r1, i_r2, i_r3, i_en, i_zp, i_rv, a_nil, a_cons, o_none, o_some, c_none, c_some, s_nil, s_cons, x_set, x_aug, x_put, x_ex, x_ret, x_ret0, x_iff, x_whl, x_for, x_brk, x_cnt, x_pas, x_doc, b_nm, b_tup, b_lst, b_nil, b_cons, k_nil, k_none, kP, kM, kPI, kPB, kPN, kPO, kPT, kPL, kPE, kPV, kPZ, kOwn, kChk, kBin2, kBin, kNeg, kCmpB, kCmp, kChA, kCh2, kCh, kAnd2, kAnd, kOr2, kOr, kNot, kIte, kTup, kLst, kIdx2, kIdx, kSl3, kSl2, kSl, kRev, kFn, kIsi, kMth2, kMth, kMu3, kMu2, kMu1, kMu, kCa3, kCa2, kCa, kLc2, kLc, kGe2, kGe, kLof, kT, kAndT, kOrT, kNotT, kI, kCk, kR1, kR2b, kR2, kR3c, kR3b, kR3, kEn, kZp2, kZp, kRv, kA2, kA, kO, kSet, kNx, kRt, kSt, kAu2, kAu, kPu3, kPu2, kPu1, kPu, kIf, kFor, kBt, p_add, p_sub, p_mul, p_fdiv, p_mod, p_pow, p_addL, p_addT, p_mulL, q_lt, q_le, q_gt, q_ge, q_eq, q_ne, q_eqT, q_neT, q_eqL, q_neL, q_eqB, q_eqS, q_is, q_isnot, q_inL, q_niL, q_inT, q_niT, u_non, u_bl, u_int, u_lst, u_tup, d_L, d_T, n_n, n_i, n_b, n_s, n_t, n_l, l_lenL, l_lenT, l_lenS, l_abs, l_int, l_min, l_max, l_tupL, l_tupT, l_lstL, l_lstT, l_minL, l_maxL, au_add, au_sub, au_str, l_all, l_any, l_sum, l_srtL, l_srtT, w_ints, w_pures, w_bools, w_sort, w_shps, w_shpI, w_shpB, w_shpN, w_shpT, w_shpL, w_eqs, w_eqT, w_eqL, m_app, y_n_int, y_n_bool, y_n_str, y_n_tuple, y_n_list, y_b_int, y_b_bool, y_b_str, y_b_tuple, y_b_list, y_i_int, y_i_bool, y_i_str, y_i_tuple, y_i_list, y_s_int, y_s_bool, y_s_str, y_s_tuple, y_s_list, y_t_int, y_t_bool, y_t_str, y_t_tuple, y_t_list, y_l_int, y_l_bool, y_l_str, y_l_tuple, y_l_list, r_T, r_L, sl_L, sl_T, wk_L, wk_T, ix_L, lo_L, lo_T, isL_l, isI_i, isB_b, pu_i, pu_b, pu_s, pu_n, pu_t, ow_i, ow_b, ow_l, ow_t, thenS, startE, List.map_cons, List.map_nil, List.cons_append, List.nil_append, List.length_cons, List.length_nil, List.length_replicate, List.replicate, List.set_cons_zero, List.set_cons_succ, List.set_nil, Option.bind_some, Option.map_some, Option.bind_none, Option.map_none, Nat.sub_zero, Nat.reduceSub, Nat.reduceAdd, Bool.not_true, Bool.not_false, if_true, if_false, reduceIte, Bool.false_eq_true, Bool.true_and, Bool.and_true, Bool.false_and, Bool.and_false, decide_true, decide_false, List.tail_cons, List.isEmpty_cons, List.isEmpty_nil, ne_eq, not_true_eq_false, not_false_eq_true, reduceCtorEq, List.append_nil, List.singleton_append, r5]
  have t4 := xs_for (x := .nm 4) i4 e4
  have t5 : execSs (run fsL (fun _ => none) 1000 8) (fun _ => none) 1000 [.ret (.lit (.bl true))] ρ4 = some (.rt (.bl true) ρ4) := by
    simp only [g_0, g_s, v_lit, v_var, v_mov, v_own, v_chk, v_bin, v_neg, v_cmp, v_cmp2, v_band, v_bor, v_bnot, v_ite, v_tup, v_lst, v_dct, v_idx, v_slc, v_rev, v_fn, v_isi, v_mth, v_mut, v_call, v_lc, v_ge, v_lof, t_lit, t_var, t_cmp, t_cmp2, t_bin, t_idx, t_fn, t_isi, t_call, t_ge, t_slc, t_mth, t_band, t_bor, t_bnot, i_var, i_call, i_idx, i_bin, i_fn, i_tup, i_lst, i_slc, i_lce, i_ck, i_r1, i_r2, i_r3, i_en, i_zp, i_rv, a_nil, a_cons, o_none, o_some, c_none, c_some, s_nil, s_cons, x_set, x_aug, x_put, x_ex, x_ret, x_ret0, x_iff, x_whl, x_for, x_brk, x_cnt, x_pas, x_doc, b_nm, b_tup, b_lst, b_nil, b_cons, k_nil, k_none, kP, kM, kPI, kPB, kPN, kPO, kPT, kPL, kPE, kPV, kPZ, kOwn, kChk, kBin2, kBin, kNeg, kCmpB, kCmp, kChA, kCh2, kCh, kAnd2, kAnd, kOr2, kOr, kNot, kIte, kTup, kLst, kIdx2, kIdx, kSl3, kSl2, kSl, kRev, kFn, kIsi, kMth2, kMth, kMu3, kMu2, kMu1, kMu, kCa3, kCa2, kCa, kLc2, kLc, kGe2, kGe, kLof, kT, kAndT, kOrT, kNotT, kI, kCk, kR1, kR2b, kR2, kR3c, kR3b, kR3, kEn, kZp2, kZp, kRv, kA2, kA, kO, kSet, kNx, kRt, kSt, kAu2, kAu, kPu3, kPu2, kPu1, kPu, kIf, kFor, kBt, p_add, p_sub, p_mul, p_fdiv, p_mod, p_pow, p_addL, p_addT, p_mulL, q_lt, q_le, q_gt, q_ge, q_eq, q_ne, q_eqT, q_neT, q_eqL, q_neL, q_eqB, q_eqS, q_is, q_isnot, q_inL, q_niL, q_inT, q_niT, u_non, u_bl, u_int, u_lst, u_tup, d_L, d_T, n_n, n_i, n_b, n_s, n_t, n_l, l_lenL, l_lenT, l_lenS, l_abs, l_int, l_min, l_max, l_tupL, l_tupT, l_lstL, l_lstT, l_minL, l_maxL, au_add, au_sub, au_str, l_all, l_any, l_sum, l_srtL, l_srtT, w_ints, w_pures, w_bools, w_sort, w_shps, w_shpI, w_shpB, w_shpN, w_shpT, w_shpL, w_eqs, w_eqT, w_eqL, m_app, y_n_int, y_n_bool, y_n_str, y_n_tuple, y_n_list, y_b_int, y_b_bool, y_b_str, y_b_tuple, y_b_list, y_i_int, y_i_bool, y_i_str, y_i_tuple, y_i_list, y_s_int, y_s_bool, y_s_str, y_s_tuple, y_s_list, y_t_int, y_t_bool, y_t_str, y_t_tuple, y_t_list, y_l_int, y_l_bool, y_l_str, y_l_tuple, y_l_list, r_T, r_L, sl_L, sl_T, wk_L, wk_T, ix_L, lo_L, lo_T, isL_l, isI_i, isB_b, pu_i, pu_b, pu_s, pu_n, pu_t, ow_i, ow_b, ow_l, ow_t, thenS, startE, List.map_cons, List.map_nil, List.cons_append, List.nil_append, List.length_cons, List.length_nil, List.length_replicate, List.replicate, List.set_cons_zero, List.set_cons_succ, List.set_nil, Option.bind_some, Option.map_some, Option.bind_none, Option.map_none, Nat.sub_zero, Nat.reduceSub, Nat.reduceAdd, Bool.not_true, Bool.not_false, if_true, if_false, reduceIte, Bool.false_eq_true, Bool.true_and, Bool.and_true, Bool.false_and, Bool.and_false, decide_true, decide_false, List.tail_cons, List.isEmpty_cons, List.isEmpty_nil, ne_eq, not_true_eq_false, not_false_eq_true, reduceCtorEq, List.append_nil, List.singleton_append]
  exact run_rt (fn := fn16) rfl rfl ((ss_nx t1).trans ((ss_nx t2).trans ((ss_nx t3).trans ((ss_nx t4).trans t5))))
theorem law_plain : ∀ ns : List Int, ns.length ≤ 63 → ∃ ρe, run fsL (fun _ => none) 1000 9 16 [.scr ns] = some (.bl true, ρe) := by
  intro ns hns
  obtain ⟨z, ρ0, e0⟩ := cell_run (fs := fsL) (gl := fun _ => none) (w := 1000) (k := 7) (i := 6) rfl ns 0 (by decide)
  have e0 : run fsL (fun _ => none) 1000 8 6 [.scr ns, .int 0] = some (.int z, ρ0) := e0
  obtain ⟨dr, ρ1, hl, hb, e1⟩ := draws_run (fs := fsL) (gl := fun _ => none) (w := 1000) (k := 7) (i := 7) rfl z 30 (by decide)
  have e1 : run fsL (fun _ => none) 1000 8 7 [.int z, .int 30] = some (.lst (dr.map D.int), ρ1) := e1
  obtain ⟨ρ2, e2⟩ := lwins_60 (gl := fun _ => none) (w := 1000) 6
  have h0 := kn0 ns dr WD
  obtain ⟨ρ3, e3, h3⟩ := pairs_loop (gl := fun _ => none) (w := 1000) 0 (F := [(0, .scr ns), (1, lstI dr)]) (by decide) rfl rfl [(3, 5), (13, 8), (1, 1), (2, 1)] (by decide) h0
  obtain ⟨ρ4, e4, h4⟩ := for_keep (cf := run fsL (fun _ => none) 1000 8) (gl := fun _ => none) (w := 1000) (i := 4) (b := b16_3) (n := 15) (F := [(2, WD), (0, .scr ns), (1, lstI dr)]) rfl (by decide) (rngUp 0 5) h3 (fun x hx ρ hkn => by
    obtain ⟨t, ht⟩ := List.getElem?_of_mem hx
    obtain ⟨rfl, ht2⟩ := rng_get 0 ht
    obtain ⟨ρ', e, h'⟩ := cell_turn (gl := fun _ => none) (w := 1000) 0 ht2 hl (by decide) (ns := ns) (hkn.sub (by
      intro q hq
      simp only [F0, List.mem_cons, List.not_mem_nil, or_false] at hq ⊢
      rcases hq with hq | hq | hq | hq <;> simp [hq]))
    exact ⟨ρ', .inl e, h'⟩)
  exact ⟨ρ4, law_end e0 e1 e2 e3 e4⟩
end
end Vi

set_option Elab.async false
set_option linter.all false
set_option maxRecDepth 100000
set_option maxHeartbeats 4000000
namespace Vi
open PySem L2
def topS (i : Nat) : Stmt := PySem.Challenge.pw_puzzleshop_k71_whole_game_of_euclid.main.body.getD i (.Pass ⟨0, 0, 0, 0⟩)
def df0 : Df := { name := "quotients_of", st := topS 1, N := [("pair" : Str), ("quotients" : Str), ("less" : Str), ("more" : Str)], ps := [("pair" : Str)], fn := fn0 }
def df1 : Df := { name := "pair_of_quotients", st := topS 2, N := [("quotients" : Str), ("quotient" : Str), ("greater" : Str), ("lesser" : Str)], ps := [("quotients" : Str)], fn := fn1 }
def df2 : Df := { name := "turning_quotient", st := topS 3, N := [("pair" : Str), ("quotients" : Str), ("at" : Str), ("quotient" : Str)], ps := [("pair" : Str)], fn := fn2 }
def df3 : Df := { name := "wins_euclid", st := topS 4, N := [("pair" : Str)], ps := [("pair" : Str)], fn := fn3 }
def df4 : Df := { name := "euclid_takes", st := topS 5, N := [("pair" : Str), ("fine" : Str), ("times" : Str), ("less" : Str), ("more" : Str), ("left" : Str)], ps := [("pair" : Str)], fn := fn4 }
def df5 : Df := { name := "told_euclid", st := topS 6, N := [("pair" : Str), ("fine" : Str)], ps := [("pair" : Str)], fn := fn5 }
def df6 : Df := { name := "_law_cell", st := topS 8, N := [("script" : Str), ("k" : Str)], ps := [("script" : Str), ("k" : Str)], fn := fn6 }
def df7 : Df := { name := "_law_draws", st := topS 9, N := [("cell" : Str), ("count" : Str), ("rest" : Str), ("digits" : Str), ("seed" : Str), ("draws" : Str), ("k" : Str), ("mixed" : Str)], ps := [("cell" : Str), ("count" : Str)], fn := fn7 }
def df8 : Df := { name := "_law_is_integer", st := topS 10, N := [("value" : Str)], ps := [("value" : Str)], fn := fn8 }
def df9 : Df := { name := "_law_is", st := topS 11, N := [("value" : Str), ("due" : Str), ("at" : Str)], ps := [("value" : Str), ("due" : Str)], fn := fn9 }
def df10 : Df := { name := "_law_gcd", st := topS 12, N := [("one" : Str), ("other" : Str)], ps := [("one" : Str), ("other" : Str)], fn := fn10 }
def df11 : Df := { name := "_law_wins", st := topS 13, N := [("most" : Str), ("wins" : Str), ("more" : Str), ("less" : Str)], ps := [("most" : Str)], fn := fn11 }
def df12 : Df := { name := "_law_takes", st := topS 14, N := [("wins" : Str), ("pair" : Str), ("fine" : Str), ("times" : Str), ("less" : Str), ("more" : Str), ("left" : Str)], ps := [("wins" : Str), ("pair" : Str)], fn := fn12 }
def df13 : Df := { name := "_law_quotients", st := topS 15, N := [("pair" : Str), ("numbers" : Str), ("less" : Str), ("more" : Str)], ps := [("pair" : Str)], fn := fn13 }
def df14 : Df := { name := "_law_turning", st := topS 16, N := [("numbers" : Str), ("great" : Str), ("at" : Str), ("number" : Str)], ps := [("numbers" : Str)], fn := fn14 }
def df15 : Df := { name := "_law_asked", st := topS 17, N := [("wins" : Str), ("pair" : Str), ("due" : Str), ("numbers" : Str), ("fine" : Str), ("less" : Str), ("more" : Str)], ps := [("wins" : Str), ("pair" : Str)], fn := fn15 }
def df16 : Df := { name := "law", st := topS 18, N := [("script" : Str), ("draws" : Str), ("wins" : Str), ("pair" : Str), ("k" : Str), ("cells" : Str), ("one" : Str), ("other" : Str), ("near" : Str), ("great" : Str), ("numbers" : Str), ("row" : Str), ("told" : Str), ("at" : Str), ("number" : Str)], ps := [("script" : Str)], fn := fn16 }
def tab : List Df := [df0, df1, df2, df3, df4, df5, df6, df7, df8, df9, df10, df11, df12, df13, df14, df15, df16]
theorem tab_ck : tab.all (ckDf tab) = true := by decide +kernel
theorem tab_fs : fsOf tab = fsL := funext fun i => by
  show (tab[i]?).map (·.fn) = fns[i]?
  rw [← List.getElem?_map]; rfl
theorem sc0 : FnScope df0.N df0.ps (defScope df0.st) := ⟨rfl, rfl, rfl, by decide +kernel, rfl, by decide +kernel, by decide +kernel⟩
theorem sc1 : FnScope df1.N df1.ps (defScope df1.st) := ⟨rfl, rfl, rfl, by decide +kernel, rfl, by decide +kernel, by decide +kernel⟩
theorem sc2 : FnScope df2.N df2.ps (defScope df2.st) := ⟨rfl, rfl, rfl, by decide +kernel, rfl, by decide +kernel, by decide +kernel⟩
theorem sc3 : FnScope df3.N df3.ps (defScope df3.st) := ⟨rfl, rfl, rfl, by decide +kernel, rfl, by decide +kernel, by decide +kernel⟩
theorem sc4 : FnScope df4.N df4.ps (defScope df4.st) := ⟨rfl, rfl, rfl, by decide +kernel, rfl, by decide +kernel, by decide +kernel⟩
theorem sc5 : FnScope df5.N df5.ps (defScope df5.st) := ⟨rfl, rfl, rfl, by decide +kernel, rfl, by decide +kernel, by decide +kernel⟩
theorem sc6 : FnScope df6.N df6.ps (defScope df6.st) := ⟨rfl, rfl, rfl, by decide +kernel, rfl, by decide +kernel, by decide +kernel⟩
theorem sc7 : FnScope df7.N df7.ps (defScope df7.st) := ⟨rfl, rfl, rfl, by decide +kernel, rfl, by decide +kernel, by decide +kernel⟩
theorem sc8 : FnScope df8.N df8.ps (defScope df8.st) := ⟨rfl, rfl, rfl, by decide +kernel, rfl, by decide +kernel, by decide +kernel⟩
theorem sc9 : FnScope df9.N df9.ps (defScope df9.st) := ⟨rfl, rfl, rfl, by decide +kernel, rfl, by decide +kernel, by decide +kernel⟩
theorem sc10 : FnScope df10.N df10.ps (defScope df10.st) := ⟨rfl, rfl, rfl, by decide +kernel, rfl, by decide +kernel, by decide +kernel⟩
theorem sc11 : FnScope df11.N df11.ps (defScope df11.st) := ⟨rfl, rfl, rfl, by decide +kernel, rfl, by decide +kernel, by decide +kernel⟩
theorem sc12 : FnScope df12.N df12.ps (defScope df12.st) := ⟨rfl, rfl, rfl, by decide +kernel, rfl, by decide +kernel, by decide +kernel⟩
theorem sc13 : FnScope df13.N df13.ps (defScope df13.st) := ⟨rfl, rfl, rfl, by decide +kernel, rfl, by decide +kernel, by decide +kernel⟩
theorem sc14 : FnScope df14.N df14.ps (defScope df14.st) := ⟨rfl, rfl, rfl, by decide +kernel, rfl, by decide +kernel, by decide +kernel⟩
theorem sc15 : FnScope df15.N df15.ps (defScope df15.st) := ⟨rfl, rfl, rfl, by decide +kernel, rfl, by decide +kernel, by decide +kernel⟩
theorem sc16 : FnScope df16.N df16.ps (defScope df16.st) := ⟨rfl, rfl, rfl, by decide +kernel, rfl, by decide +kernel, by decide +kernel⟩
def dnames : List Str := [("quotients_of" : Str), ("pair_of_quotients" : Str), ("turning_quotient" : Str), ("wins_euclid" : Str), ("euclid_takes" : Str), ("told_euclid" : Str), ("_law_cell" : Str), ("_law_draws" : Str), ("_law_is_integer" : Str), ("_law_is" : Str), ("_law_gcd" : Str), ("_law_wins" : Str), ("_law_takes" : Str), ("_law_quotients" : Str), ("_law_turning" : Str), ("_law_asked" : Str), ("law" : Str)]
theorem all_mk {l : PySem.W.OpenLaw} {w : World} {K : PySem.W.Frag} {h : Heap} {mg : Str → Option Value} {fa f0 f1 f2 f3 f4 f5 f6 f7 f8 f9 f10 f11 f12 f13 f14 f15 f16 : Addr} (hdc : defChk K dnames = true) (X : K.In h) (G : h.Ns mainGlobals mg) (hfa : mg "law" = some (.ref fa))
    {od0 an0 : Option Addr} {sl0 : Array (Option Value)} {oc0 kV0 dc0 pm0 cd0 ct0 : Value}
    {od1 an1 : Option Addr} {sl1 : Array (Option Value)} {oc1 kV1 dc1 pm1 cd1 ct1 : Value}
    {od2 an2 : Option Addr} {sl2 : Array (Option Value)} {oc2 kV2 dc2 pm2 cd2 ct2 : Value}
    {od3 an3 : Option Addr} {sl3 : Array (Option Value)} {oc3 kV3 dc3 pm3 cd3 ct3 : Value}
    {od4 an4 : Option Addr} {sl4 : Array (Option Value)} {oc4 kV4 dc4 pm4 cd4 ct4 : Value}
    {od5 an5 : Option Addr} {sl5 : Array (Option Value)} {oc5 kV5 dc5 pm5 cd5 ct5 : Value}
    {od6 an6 : Option Addr} {sl6 : Array (Option Value)} {oc6 kV6 dc6 pm6 cd6 ct6 : Value}
    {od7 an7 : Option Addr} {sl7 : Array (Option Value)} {oc7 kV7 dc7 pm7 cd7 ct7 : Value}
    {od8 an8 : Option Addr} {sl8 : Array (Option Value)} {oc8 kV8 dc8 pm8 cd8 ct8 : Value}
    {od9 an9 : Option Addr} {sl9 : Array (Option Value)} {oc9 kV9 dc9 pm9 cd9 ct9 : Value}
    {od10 an10 : Option Addr} {sl10 : Array (Option Value)} {oc10 kV10 dc10 pm10 cd10 ct10 : Value}
    {od11 an11 : Option Addr} {sl11 : Array (Option Value)} {oc11 kV11 dc11 pm11 cd11 ct11 : Value}
    {od12 an12 : Option Addr} {sl12 : Array (Option Value)} {oc12 kV12 dc12 pm12 cd12 ct12 : Value}
    {od13 an13 : Option Addr} {sl13 : Array (Option Value)} {oc13 kV13 dc13 pm13 cd13 ct13 : Value}
    {od14 an14 : Option Addr} {sl14 : Array (Option Value)} {oc14 kV14 dc14 pm14 cd14 ct14 : Value}
    {od15 an15 : Option Addr} {sl15 : Array (Option Value)} {oc15 kV15 dc15 pm15 cd15 ct15 : Value}
    {od16 an16 : Option Addr} {sl16 : Array (Option Value)} {oc16 kV16 dc16 pm16 cd16 ct16 : Value}
    (a0 : PySem.W.nsIn K mainGlobals "quotients_of" = some (some (.ref f0))) (l0 : K.lookup f0 = some ⟨oc0, od0, .func (PySem.W.fnOf "quotients_of" "quotients_of" (defArgs df0.st) (defBody df0.st) (defScope df0.st) .none kV0 dc0 pm0 an0 cd0 ct0), sl0⟩) (c0 : PySem.W.codeIn K cd0 "quotients_of" = true) (k0 : PySem.W.keepIn K (.ref f0) = true)
    (a1 : PySem.W.nsIn K mainGlobals "pair_of_quotients" = some (some (.ref f1))) (l1 : K.lookup f1 = some ⟨oc1, od1, .func (PySem.W.fnOf "pair_of_quotients" "pair_of_quotients" (defArgs df1.st) (defBody df1.st) (defScope df1.st) .none kV1 dc1 pm1 an1 cd1 ct1), sl1⟩) (c1 : PySem.W.codeIn K cd1 "pair_of_quotients" = true) (k1 : PySem.W.keepIn K (.ref f1) = true)
    (a2 : PySem.W.nsIn K mainGlobals "turning_quotient" = some (some (.ref f2))) (l2 : K.lookup f2 = some ⟨oc2, od2, .func (PySem.W.fnOf "turning_quotient" "turning_quotient" (defArgs df2.st) (defBody df2.st) (defScope df2.st) .none kV2 dc2 pm2 an2 cd2 ct2), sl2⟩) (c2 : PySem.W.codeIn K cd2 "turning_quotient" = true) (k2 : PySem.W.keepIn K (.ref f2) = true)
    (a3 : PySem.W.nsIn K mainGlobals "wins_euclid" = some (some (.ref f3))) (l3 : K.lookup f3 = some ⟨oc3, od3, .func (PySem.W.fnOf "wins_euclid" "wins_euclid" (defArgs df3.st) (defBody df3.st) (defScope df3.st) .none kV3 dc3 pm3 an3 cd3 ct3), sl3⟩) (c3 : PySem.W.codeIn K cd3 "wins_euclid" = true) (k3 : PySem.W.keepIn K (.ref f3) = true)
    (a4 : PySem.W.nsIn K mainGlobals "euclid_takes" = some (some (.ref f4))) (l4 : K.lookup f4 = some ⟨oc4, od4, .func (PySem.W.fnOf "euclid_takes" "euclid_takes" (defArgs df4.st) (defBody df4.st) (defScope df4.st) .none kV4 dc4 pm4 an4 cd4 ct4), sl4⟩) (c4 : PySem.W.codeIn K cd4 "euclid_takes" = true) (k4 : PySem.W.keepIn K (.ref f4) = true)
    (a5 : PySem.W.nsIn K mainGlobals "told_euclid" = some (some (.ref f5))) (l5 : K.lookup f5 = some ⟨oc5, od5, .func (PySem.W.fnOf "told_euclid" "told_euclid" (defArgs df5.st) (defBody df5.st) (defScope df5.st) .none kV5 dc5 pm5 an5 cd5 ct5), sl5⟩) (c5 : PySem.W.codeIn K cd5 "told_euclid" = true) (k5 : PySem.W.keepIn K (.ref f5) = true)
    (a6 : PySem.W.nsIn K mainGlobals "_law_cell" = some (some (.ref f6))) (l6 : K.lookup f6 = some ⟨oc6, od6, .func (PySem.W.fnOf "_law_cell" "_law_cell" (defArgs df6.st) (defBody df6.st) (defScope df6.st) .none kV6 dc6 pm6 an6 cd6 ct6), sl6⟩) (c6 : PySem.W.codeIn K cd6 "_law_cell" = true) (k6 : PySem.W.keepIn K (.ref f6) = true)
    (a7 : PySem.W.nsIn K mainGlobals "_law_draws" = some (some (.ref f7))) (l7 : K.lookup f7 = some ⟨oc7, od7, .func (PySem.W.fnOf "_law_draws" "_law_draws" (defArgs df7.st) (defBody df7.st) (defScope df7.st) .none kV7 dc7 pm7 an7 cd7 ct7), sl7⟩) (c7 : PySem.W.codeIn K cd7 "_law_draws" = true) (k7 : PySem.W.keepIn K (.ref f7) = true)
    (a8 : PySem.W.nsIn K mainGlobals "_law_is_integer" = some (some (.ref f8))) (l8 : K.lookup f8 = some ⟨oc8, od8, .func (PySem.W.fnOf "_law_is_integer" "_law_is_integer" (defArgs df8.st) (defBody df8.st) (defScope df8.st) .none kV8 dc8 pm8 an8 cd8 ct8), sl8⟩) (c8 : PySem.W.codeIn K cd8 "_law_is_integer" = true) (k8 : PySem.W.keepIn K (.ref f8) = true)
    (a9 : PySem.W.nsIn K mainGlobals "_law_is" = some (some (.ref f9))) (l9 : K.lookup f9 = some ⟨oc9, od9, .func (PySem.W.fnOf "_law_is" "_law_is" (defArgs df9.st) (defBody df9.st) (defScope df9.st) .none kV9 dc9 pm9 an9 cd9 ct9), sl9⟩) (c9 : PySem.W.codeIn K cd9 "_law_is" = true) (k9 : PySem.W.keepIn K (.ref f9) = true)
    (a10 : PySem.W.nsIn K mainGlobals "_law_gcd" = some (some (.ref f10))) (l10 : K.lookup f10 = some ⟨oc10, od10, .func (PySem.W.fnOf "_law_gcd" "_law_gcd" (defArgs df10.st) (defBody df10.st) (defScope df10.st) .none kV10 dc10 pm10 an10 cd10 ct10), sl10⟩) (c10 : PySem.W.codeIn K cd10 "_law_gcd" = true) (k10 : PySem.W.keepIn K (.ref f10) = true)
    (a11 : PySem.W.nsIn K mainGlobals "_law_wins" = some (some (.ref f11))) (l11 : K.lookup f11 = some ⟨oc11, od11, .func (PySem.W.fnOf "_law_wins" "_law_wins" (defArgs df11.st) (defBody df11.st) (defScope df11.st) .none kV11 dc11 pm11 an11 cd11 ct11), sl11⟩) (c11 : PySem.W.codeIn K cd11 "_law_wins" = true) (k11 : PySem.W.keepIn K (.ref f11) = true)
    (a12 : PySem.W.nsIn K mainGlobals "_law_takes" = some (some (.ref f12))) (l12 : K.lookup f12 = some ⟨oc12, od12, .func (PySem.W.fnOf "_law_takes" "_law_takes" (defArgs df12.st) (defBody df12.st) (defScope df12.st) .none kV12 dc12 pm12 an12 cd12 ct12), sl12⟩) (c12 : PySem.W.codeIn K cd12 "_law_takes" = true) (k12 : PySem.W.keepIn K (.ref f12) = true)
    (a13 : PySem.W.nsIn K mainGlobals "_law_quotients" = some (some (.ref f13))) (l13 : K.lookup f13 = some ⟨oc13, od13, .func (PySem.W.fnOf "_law_quotients" "_law_quotients" (defArgs df13.st) (defBody df13.st) (defScope df13.st) .none kV13 dc13 pm13 an13 cd13 ct13), sl13⟩) (c13 : PySem.W.codeIn K cd13 "_law_quotients" = true) (k13 : PySem.W.keepIn K (.ref f13) = true)
    (a14 : PySem.W.nsIn K mainGlobals "_law_turning" = some (some (.ref f14))) (l14 : K.lookup f14 = some ⟨oc14, od14, .func (PySem.W.fnOf "_law_turning" "_law_turning" (defArgs df14.st) (defBody df14.st) (defScope df14.st) .none kV14 dc14 pm14 an14 cd14 ct14), sl14⟩) (c14 : PySem.W.codeIn K cd14 "_law_turning" = true) (k14 : PySem.W.keepIn K (.ref f14) = true)
    (a15 : PySem.W.nsIn K mainGlobals "_law_asked" = some (some (.ref f15))) (l15 : K.lookup f15 = some ⟨oc15, od15, .func (PySem.W.fnOf "_law_asked" "_law_asked" (defArgs df15.st) (defBody df15.st) (defScope df15.st) .none kV15 dc15 pm15 an15 cd15 ct15), sl15⟩) (c15 : PySem.W.codeIn K cd15 "_law_asked" = true) (k15 : PySem.W.keepIn K (.ref f15) = true)
    (a16 : PySem.W.nsIn K mainGlobals "law" = some (some (.ref f16))) (l16 : K.lookup f16 = some ⟨oc16, od16, .func (PySem.W.fnOf "law" "law" (defArgs df16.st) (defBody df16.st) (defScope df16.st) .none kV16 dc16 pm16 an16 cd16 ct16), sl16⟩) (c16 : PySem.W.codeIn K cd16 "law" = true) (k16 : PySem.W.keepIn K (.ref f16) = true)
    (z0 : PySem.W.nsIn K mainGlobals "len" = some none)
    (z1 : PySem.W.nsIn K mainGlobals "abs" = some none)
    (z2 : PySem.W.nsIn K mainGlobals "int" = some none)
    (z3 : PySem.W.nsIn K mainGlobals "min" = some none)
    (z4 : PySem.W.nsIn K mainGlobals "max" = some none)
    (z5 : PySem.W.nsIn K mainGlobals "sum" = some none)
    (z6 : PySem.W.nsIn K mainGlobals "sorted" = some none)
    (z7 : PySem.W.nsIn K mainGlobals "tuple" = some none)
    (z8 : PySem.W.nsIn K mainGlobals "list" = some none)
    (z9 : PySem.W.nsIn K mainGlobals "any" = some none)
    (z10 : PySem.W.nsIn K mainGlobals "all" = some none)
    (z11 : PySem.W.nsIn K mainGlobals "isinstance" = some none)
    (z12 : PySem.W.nsIn K mainGlobals "bool" = some none)
    (z13 : PySem.W.nsIn K mainGlobals "str" = some none)
    (z14 : PySem.W.nsIn K mainGlobals "range" = some none)
    (z15 : PySem.W.nsIn K mainGlobals "enumerate" = some none)
    (z16 : PySem.W.nsIn K mainGlobals "zip" = some none)
    (z17 : PySem.W.nsIn K mainGlobals "reversed" = some none)
    : ∃ fd : FuncData, (∀ (s : Shared) (v : Value), BindsTo s fd ⟨[v], []⟩ [("script", v)]) ∧ ∀ base : Heap, K.In base → base.Ns mainGlobals mg → (∀ p ∈ tabsK K, base.BuiltinsAt mg p.2 ∧ mainGlobals ≠ p.2) → FnOk l.prog w K mg base CX0 (2 * 9) fa fd ["script"] (spLaw K) := by
  have e := hfa.symm.trans (PySem.W.mg_of X G a16)
  cases e
  have F0 : Fun K df0.name df0.name df0.st f0 _ := fun_mk (st := df0.st) l0 c0 k0
  have b0 := F0.binds (ps := df0.ps) fun _ _ _ _ _ _ us hl => match us, hl with | [_], _ => rfl
  have F1 : Fun K df1.name df1.name df1.st f1 _ := fun_mk (st := df1.st) l1 c1 k1
  have b1 := F1.binds (ps := df1.ps) fun _ _ _ _ _ _ us hl => match us, hl with | [_], _ => rfl
  have F2 : Fun K df2.name df2.name df2.st f2 _ := fun_mk (st := df2.st) l2 c2 k2
  have b2 := F2.binds (ps := df2.ps) fun _ _ _ _ _ _ us hl => match us, hl with | [_], _ => rfl
  have F3 : Fun K df3.name df3.name df3.st f3 _ := fun_mk (st := df3.st) l3 c3 k3
  have b3 := F3.binds (ps := df3.ps) fun _ _ _ _ _ _ us hl => match us, hl with | [_], _ => rfl
  have F4 : Fun K df4.name df4.name df4.st f4 _ := fun_mk (st := df4.st) l4 c4 k4
  have b4 := F4.binds (ps := df4.ps) fun _ _ _ _ _ _ us hl => match us, hl with | [_], _ => rfl
  have F5 : Fun K df5.name df5.name df5.st f5 _ := fun_mk (st := df5.st) l5 c5 k5
  have b5 := F5.binds (ps := df5.ps) fun _ _ _ _ _ _ us hl => match us, hl with | [_], _ => rfl
  have F6 : Fun K df6.name df6.name df6.st f6 _ := fun_mk (st := df6.st) l6 c6 k6
  have b6 := F6.binds (ps := df6.ps) fun _ _ _ _ _ _ us hl => match us, hl with | [_, _], _ => rfl
  have F7 : Fun K df7.name df7.name df7.st f7 _ := fun_mk (st := df7.st) l7 c7 k7
  have b7 := F7.binds (ps := df7.ps) fun _ _ _ _ _ _ us hl => match us, hl with | [_, _], _ => rfl
  have F8 : Fun K df8.name df8.name df8.st f8 _ := fun_mk (st := df8.st) l8 c8 k8
  have b8 := F8.binds (ps := df8.ps) fun _ _ _ _ _ _ us hl => match us, hl with | [_], _ => rfl
  have F9 : Fun K df9.name df9.name df9.st f9 _ := fun_mk (st := df9.st) l9 c9 k9
  have b9 := F9.binds (ps := df9.ps) fun _ _ _ _ _ _ us hl => match us, hl with | [_, _], _ => rfl
  have F10 : Fun K df10.name df10.name df10.st f10 _ := fun_mk (st := df10.st) l10 c10 k10
  have b10 := F10.binds (ps := df10.ps) fun _ _ _ _ _ _ us hl => match us, hl with | [_, _], _ => rfl
  have F11 : Fun K df11.name df11.name df11.st f11 _ := fun_mk (st := df11.st) l11 c11 k11
  have b11 := F11.binds (ps := df11.ps) fun _ _ _ _ _ _ us hl => match us, hl with | [_], _ => rfl
  have F12 : Fun K df12.name df12.name df12.st f12 _ := fun_mk (st := df12.st) l12 c12 k12
  have b12 := F12.binds (ps := df12.ps) fun _ _ _ _ _ _ us hl => match us, hl with | [_, _], _ => rfl
  have F13 : Fun K df13.name df13.name df13.st f13 _ := fun_mk (st := df13.st) l13 c13 k13
  have b13 := F13.binds (ps := df13.ps) fun _ _ _ _ _ _ us hl => match us, hl with | [_], _ => rfl
  have F14 : Fun K df14.name df14.name df14.st f14 _ := fun_mk (st := df14.st) l14 c14 k14
  have b14 := F14.binds (ps := df14.ps) fun _ _ _ _ _ _ us hl => match us, hl with | [_], _ => rfl
  have F15 : Fun K df15.name df15.name df15.st f15 _ := fun_mk (st := df15.st) l15 c15 k15
  have b15 := F15.binds (ps := df15.ps) fun _ _ _ _ _ _ us hl => match us, hl with | [_, _], _ => rfl
  have F16 : Fun K df16.name df16.name df16.st fa _ := fun_mk (st := df16.st) l16 c16 k16
  have b16 := F16.binds (ps := df16.ps) fun _ _ _ _ _ _ us hl => match us, hl with | [_], _ => rfl
  let ad : Nat → Addr := fun i => match i with | 0 => f0 | 1 => f1 | 2 => f2 | 3 => f3 | 4 => f4 | 5 => f5 | 6 => f6 | 7 => f7 | 8 => f8 | 9 => f9 | 10 => f10 | 11 => f11 | 12 => f12 | 13 => f13 | 14 => f14 | 15 => f15 | 16 => fa | _ => 0
  let fdd : Nat → FuncData := fun i => match i with | 0 => PySem.W.fnOf "quotients_of" "quotients_of" (defArgs df0.st) (defBody df0.st) (defScope df0.st) .none kV0 dc0 pm0 an0 cd0 ct0 | 1 => PySem.W.fnOf "pair_of_quotients" "pair_of_quotients" (defArgs df1.st) (defBody df1.st) (defScope df1.st) .none kV1 dc1 pm1 an1 cd1 ct1 | 2 => PySem.W.fnOf "turning_quotient" "turning_quotient" (defArgs df2.st) (defBody df2.st) (defScope df2.st) .none kV2 dc2 pm2 an2 cd2 ct2 | 3 => PySem.W.fnOf "wins_euclid" "wins_euclid" (defArgs df3.st) (defBody df3.st) (defScope df3.st) .none kV3 dc3 pm3 an3 cd3 ct3 | 4 => PySem.W.fnOf "euclid_takes" "euclid_takes" (defArgs df4.st) (defBody df4.st) (defScope df4.st) .none kV4 dc4 pm4 an4 cd4 ct4 | 5 => PySem.W.fnOf "told_euclid" "told_euclid" (defArgs df5.st) (defBody df5.st) (defScope df5.st) .none kV5 dc5 pm5 an5 cd5 ct5 | 6 => PySem.W.fnOf "_law_cell" "_law_cell" (defArgs df6.st) (defBody df6.st) (defScope df6.st) .none kV6 dc6 pm6 an6 cd6 ct6 | 7 => PySem.W.fnOf "_law_draws" "_law_draws" (defArgs df7.st) (defBody df7.st) (defScope df7.st) .none kV7 dc7 pm7 an7 cd7 ct7 | 8 => PySem.W.fnOf "_law_is_integer" "_law_is_integer" (defArgs df8.st) (defBody df8.st) (defScope df8.st) .none kV8 dc8 pm8 an8 cd8 ct8 | 9 => PySem.W.fnOf "_law_is" "_law_is" (defArgs df9.st) (defBody df9.st) (defScope df9.st) .none kV9 dc9 pm9 an9 cd9 ct9 | 10 => PySem.W.fnOf "_law_gcd" "_law_gcd" (defArgs df10.st) (defBody df10.st) (defScope df10.st) .none kV10 dc10 pm10 an10 cd10 ct10 | 11 => PySem.W.fnOf "_law_wins" "_law_wins" (defArgs df11.st) (defBody df11.st) (defScope df11.st) .none kV11 dc11 pm11 an11 cd11 ct11 | 12 => PySem.W.fnOf "_law_takes" "_law_takes" (defArgs df12.st) (defBody df12.st) (defScope df12.st) .none kV12 dc12 pm12 an12 cd12 ct12 | 13 => PySem.W.fnOf "_law_quotients" "_law_quotients" (defArgs df13.st) (defBody df13.st) (defScope df13.st) .none kV13 dc13 pm13 an13 cd13 ct13 | 14 => PySem.W.fnOf "_law_turning" "_law_turning" (defArgs df14.st) (defBody df14.st) (defScope df14.st) .none kV14 dc14 pm14 an14 cd14 ct14 | 15 => PySem.W.fnOf "_law_asked" "_law_asked" (defArgs df15.st) (defBody df15.st) (defScope df15.st) .none kV15 dc15 pm15 an15 cd15 ct15 | 16 => PySem.W.fnOf "law" "law" (defArgs df16.st) (defBody df16.st) (defScope df16.st) .none kV16 dc16 pm16 an16 cd16 ct16 | _ => PySem.W.fnOf "quotients_of" "quotients_of" (defArgs df0.st) (defBody df0.st) (defScope df0.st) .none kV0 dc0 pm0 an0 cd0 ct0
  have E : PEnv K mg tab ad fdd := by
    refine ⟨fun i d h => ?_, fun i d h => ?_, fun d h => ?_, fun i d h => ?_, fun i d h => ?_, fun x hx => ?_, tab_ck⟩
    · match i, h with
      | 0, h => cases h; exact defChk_at hdc (by decide) a0 l0
      | 1, h => cases h; exact defChk_at hdc (by decide) a1 l1
      | 2, h => cases h; exact defChk_at hdc (by decide) a2 l2
      | 3, h => cases h; exact defChk_at hdc (by decide) a3 l3
      | 4, h => cases h; exact defChk_at hdc (by decide) a4 l4
      | 5, h => cases h; exact defChk_at hdc (by decide) a5 l5
      | 6, h => cases h; exact defChk_at hdc (by decide) a6 l6
      | 7, h => cases h; exact defChk_at hdc (by decide) a7 l7
      | 8, h => cases h; exact defChk_at hdc (by decide) a8 l8
      | 9, h => cases h; exact defChk_at hdc (by decide) a9 l9
      | 10, h => cases h; exact defChk_at hdc (by decide) a10 l10
      | 11, h => cases h; exact defChk_at hdc (by decide) a11 l11
      | 12, h => cases h; exact defChk_at hdc (by decide) a12 l12
      | 13, h => cases h; exact defChk_at hdc (by decide) a13 l13
      | 14, h => cases h; exact defChk_at hdc (by decide) a14 l14
      | 15, h => cases h; exact defChk_at hdc (by decide) a15 l15
      | 16, h => cases h; exact defChk_at hdc (by decide) a16 l16
      | n + 17, h => cases h
    · match i, h with
      | 0, h => cases h; exact F0
      | 1, h => cases h; exact F1
      | 2, h => cases h; exact F2
      | 3, h => cases h; exact F3
      | 4, h => cases h; exact F4
      | 5, h => cases h; exact F5
      | 6, h => cases h; exact F6
      | 7, h => cases h; exact F7
      | 8, h => cases h; exact F8
      | 9, h => cases h; exact F9
      | 10, h => cases h; exact F10
      | 11, h => cases h; exact F11
      | 12, h => cases h; exact F12
      | 13, h => cases h; exact F13
      | 14, h => cases h; exact F14
      | 15, h => cases h; exact F15
      | 16, h => cases h; exact F16
      | n + 17, h => cases h
    · simp only [tab, List.mem_cons, List.not_mem_nil, or_false] at h
      rcases h with rfl | rfl | rfl | rfl | rfl | rfl | rfl | rfl | rfl | rfl | rfl | rfl | rfl | rfl | rfl | rfl | rfl
      · exact sc0
      · exact sc1
      · exact sc2
      · exact sc3
      · exact sc4
      · exact sc5
      · exact sc6
      · exact sc7
      · exact sc8
      · exact sc9
      · exact sc10
      · exact sc11
      · exact sc12
      · exact sc13
      · exact sc14
      · exact sc15
      · exact sc16
    · match i, h with
      | 0, h => cases h; exact PySem.W.mg_of X G a0
      | 1, h => cases h; exact PySem.W.mg_of X G a1
      | 2, h => cases h; exact PySem.W.mg_of X G a2
      | 3, h => cases h; exact PySem.W.mg_of X G a3
      | 4, h => cases h; exact PySem.W.mg_of X G a4
      | 5, h => cases h; exact PySem.W.mg_of X G a5
      | 6, h => cases h; exact PySem.W.mg_of X G a6
      | 7, h => cases h; exact PySem.W.mg_of X G a7
      | 8, h => cases h; exact PySem.W.mg_of X G a8
      | 9, h => cases h; exact PySem.W.mg_of X G a9
      | 10, h => cases h; exact PySem.W.mg_of X G a10
      | 11, h => cases h; exact PySem.W.mg_of X G a11
      | 12, h => cases h; exact PySem.W.mg_of X G a12
      | 13, h => cases h; exact PySem.W.mg_of X G a13
      | 14, h => cases h; exact PySem.W.mg_of X G a14
      | 15, h => cases h; exact PySem.W.mg_of X G a15
      | 16, h => cases h; exact PySem.W.mg_of X G a16
      | n + 17, h => cases h
    · match i, h with
      | 0, h => cases h; exact b0
      | 1, h => cases h; exact b1
      | 2, h => cases h; exact b2
      | 3, h => cases h; exact b3
      | 4, h => cases h; exact b4
      | 5, h => cases h; exact b5
      | 6, h => cases h; exact b6
      | 7, h => cases h; exact b7
      | 8, h => cases h; exact b8
      | 9, h => cases h; exact b9
      | 10, h => cases h; exact b10
      | 11, h => cases h; exact b11
      | 12, h => cases h; exact b12
      | 13, h => cases h; exact b13
      | 14, h => cases h; exact b14
      | 15, h => cases h; exact b15
      | 16, h => cases h; exact b16
      | n + 17, h => cases h
    · simp only [usedB, List.mem_cons, List.not_mem_nil, or_false] at hx
      rcases hx with rfl | rfl | rfl | rfl | rfl | rfl | rfl | rfl | rfl | rfl | rfl | rfl | rfl | rfl | rfl | rfl | rfl | rfl
      · exact PySem.W.mg_none_of X G z0
      · exact PySem.W.mg_none_of X G z1
      · exact PySem.W.mg_none_of X G z2
      · exact PySem.W.mg_none_of X G z3
      · exact PySem.W.mg_none_of X G z4
      · exact PySem.W.mg_none_of X G z5
      · exact PySem.W.mg_none_of X G z6
      · exact PySem.W.mg_none_of X G z7
      · exact PySem.W.mg_none_of X G z8
      · exact PySem.W.mg_none_of X G z9
      · exact PySem.W.mg_none_of X G z10
      · exact PySem.W.mg_none_of X G z11
      · exact PySem.W.mg_none_of X G z12
      · exact PySem.W.mg_none_of X G z13
      · exact PySem.W.mg_none_of X G z14
      · exact PySem.W.mg_none_of X G z15
      · exact PySem.W.mg_none_of X G z16
      · exact PySem.W.mg_none_of X G z17
  exact ⟨fdd 16, fun s v => .of_eq rfl, fun base hKb _ hbm => law_ok E hKb hbm (fun _ => none) 1000 9 16 df16 rfl rfl rfl rfl (by rw [tab_fs]; exact law_plain)⟩
end Vi
open PySem PySem.W PyProof.Rows
set_option maxHeartbeats 0 in
theorem PySem.Challenge.cw_puzzleshop_k71_whole_game_of_euclid_holds : PySem.Challenge.rw_puzzleshop_k71_whole_game_of_euclid.Holds := by
  w_on; o_law; k_head; (case hw => w_witness2)
  k_fill
  refine Vi.walk_tab (l := PySem.Challenge.rw_puzzleshop_k71_whole_game_of_euclid) (n := 63) (k := 2 * 9) (x := "script") Vi.dnames rfl (by decide) rfl ⟨rfl, by decide, by decide⟩ (by decide +kernel) ?hck ?hdc (fun w h Y => PySem.W.kIn_of Y) ?F (by decide)
  case hck => exact fun P => by kernel_rfl
  case hdc => exact fun P => by kernel_rfl
  case F =>
    intro w mg fa h hdc KX G hmg
    refine' Vi.all_mk hdc KX G hmg ?a0 ?l0 ?c0 ?k0 ?a1 ?l1 ?c1 ?k1 ?a2 ?l2 ?c2 ?k2 ?a3 ?l3 ?c3 ?k3 ?a4 ?l4 ?c4 ?k4 ?a5 ?l5 ?c5 ?k5 ?a6 ?l6 ?c6 ?k6 ?a7 ?l7 ?c7 ?k7 ?a8 ?l8 ?c8 ?k8 ?a9 ?l9 ?c9 ?k9 ?a10 ?l10 ?c10 ?k10 ?a11 ?l11 ?c11 ?k11 ?a12 ?l12 ?c12 ?k12 ?a13 ?l13 ?c13 ?k13 ?a14 ?l14 ?c14 ?k14 ?a15 ?l15 ?c15 ?k15 ?a16 ?l16 ?c16 ?k16 ?z0 ?z1 ?z2 ?z3 ?z4 ?z5 ?z6 ?z7 ?z8 ?z9 ?z10 ?z11 ?z12 ?z13 ?z14 ?z15 ?z16 ?z17
    (case a0 => k_is); (case l0 => k_is); (case c0 => k_is); (case k0 => k_is); (case a1 => k_is); (case l1 => k_is); (case c1 => k_is); (case k1 => k_is); (case a2 => k_is); (case l2 => k_is); (case c2 => k_is); (case k2 => k_is); (case a3 => k_is); (case l3 => k_is); (case c3 => k_is); (case k3 => k_is); (case a4 => k_is); (case l4 => k_is); (case c4 => k_is); (case k4 => k_is); (case a5 => k_is); (case l5 => k_is); (case c5 => k_is); (case k5 => k_is); (case a6 => k_is); (case l6 => k_is); (case c6 => k_is); (case k6 => k_is); (case a7 => k_is); (case l7 => k_is); (case c7 => k_is); (case k7 => k_is); (case a8 => k_is); (case l8 => k_is); (case c8 => k_is); (case k8 => k_is); (case a9 => k_is); (case l9 => k_is); (case c9 => k_is); (case k9 => k_is); (case a10 => k_is); (case l10 => k_is); (case c10 => k_is); (case k10 => k_is); (case a11 => k_is); (case l11 => k_is); (case c11 => k_is); (case k11 => k_is); (case a12 => k_is); (case l12 => k_is); (case c12 => k_is); (case k12 => k_is); (case a13 => k_is); (case l13 => k_is); (case c13 => k_is); (case k13 => k_is); (case a14 => k_is); (case l14 => k_is); (case c14 => k_is); (case k14 => k_is); (case a15 => k_is); (case l15 => k_is); (case c15 => k_is); (case k15 => k_is); (case a16 => k_is); (case l16 => k_is); (case c16 => k_is); (case k16 => k_is)
    (case z0 => k_is); (case z1 => k_is); (case z2 => k_is); (case z3 => k_is); (case z4 => k_is); (case z5 => k_is); (case z6 => k_is); (case z7 => k_is); (case z8 => k_is); (case z9 => k_is); (case z10 => k_is); (case z11 => k_is); (case z12 => k_is); (case z13 => k_is); (case z14 => k_is); (case z15 => k_is); (case z16 => k_is); (case z17 => k_is)

