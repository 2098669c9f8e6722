import PyProof.Rows.All
import Wide.All
import OpenK.AllK
import Wide.FinOn
import HandS.ForMost
import HandS.IsInst
import HandS.Defaults
import HandS.Deep
import HandS.TupAny
import HandS.TupMul
import HandS.Wide
import HandS.Zip
import HandS.Gcd
import HandS.FStr
import HandS.Exc
import HandS.CallSlots
import HandS.ExcSuper
import HandS.RaiseMore
import KE.KeyNested
import HandS.SortOrd
import HandS.Style
import HandS.TupLe
import HandS.More
import HandS.Conv
import HandS.Walk
import KE.GoesMore
import KE.GoesEnum
import HandS.Strs
import HandS.Codes
import HandS.HeadHook1
import HandS.HeadHook2
import HandS.Head0
import HandS.Head1
import HandS.Head2
import HandS.Head3
import HandS.HeadEnd
import PySem.Challenge.RW_deedhouses_k79_told_plans_players_of_any
set_option Elab.async false
set_option linter.all false
set_option maxRecDepth 100000
/-! DhSem: plain data, stores, the own small syntax and its meaning. -/
namespace Dh
open PySem

/-- plain data; loc n: a list (or other object) that changes, the n-th of the store -/
inductive D where
  | non | bl (b : Bool) | int (i : Int) | str (s : List Nat) | tup (ds : List D) | lst (ds : List D) | edict | loc (n : Nat)
  deriving Inhabited
/-- what stands in the store -/
inductive O where
  | lst (ds : List D) | dic (kvs : List (NestedKey × D))
  deriving Inhabited
abbrev Sto := List O
structure Ex where
  cls : String
  args : List D
/-- an end: a value, an exception, or nothing told -/
inductive R (α : Type) where
  | ok (a : α) (m : Sto) | exc (x : Ex) (m : Sto) | bad
abbrev M (α : Type) := Sto → R α
abbrev Env := List (Option D)

def ret {α : Type} (a : α) : M α := fun m => .ok a m
def bnd {α β : Type} (x : M α) (f : α → M β) : M β := fun m => match x m with
  | .ok a m1 => f a m1
  | .exc x m1 => .exc x m1
  | .bad => .bad
def bad {α : Type} : M α := fun _ => .bad
def ofO {α : Type} : Option α → M α
  | some a => ret a
  | none => bad
/-- an exception here is not told -/
def noExc {α : Type} (x : M α) : M α := fun m => match x m with
  | .ok a m1 => .ok a m1
  | _ => .bad

/-! ### data -/
mutual
def D.py : D → PyData
  | .non => .none
  | .bl b => .bool b
  | .int i => .int i
  | .str s => .str ⟨s.toArray⟩
  | .tup ds => .tuple (D.pys ds)
  | .lst ds => .list (D.pys ds)
  | .edict => .dict []
  | .loc _ => .none
def D.pys : List D → List PyData
  | [] => []
  | d :: ds => d.py :: D.pys ds
/-- no store, no dict in it -/
def D.flat : D → Bool
  | .loc _ => false
  | .edict => false
  | .tup ds => D.flats ds
  | .lst ds => D.flats ds
  | _ => true
def D.flats : List D → Bool
  | [] => true
  | d :: ds => d.flat && D.flats ds
end
def D.shaped (d : D) : Bool := d.flat && SeqAt.shaped d.py
/-- == of two things -/
def eqB : D → D → Option Bool
  | .lst [], .lst ds => some ds.isEmpty
  | .lst (d :: ds), .lst [] => some false
  | .tup [], .tup ds => some ds.isEmpty
  | .tup (d :: ds), .tup [] => some false
  | .str s, .str t => some (decide (s = t))
  | x, y => if x.shaped && y.shaped then some (PyData.eqv x.py y.py) else none
def eqD (x y : D) : Option D := (eqB x y).map .bl
def neD (x y : D) : Option D := (eqB x y).map fun b => .bl (!b)

/-- the most of anything (lists, texts) -/
def lim : Nat := 10000000
/-- the items of a row -/
def seqOf (m : Sto) : D → Option (List D)
  | .tup ds => some ds
  | .lst ds => some ds
  | .loc n => (match m[n]? with
    | some (.lst ds) => some ds
    | _ => none)
  | _ => none
/-- a list, not a tuple -/
def lstOf (m : Sto) : D → Option (List D)
  | .tup _ => none
  | d => seqOf m d
/-- a list that changes is told by its items -/
def deref (m : Sto) : D → D
  | .loc n => (match m[n]? with
    | some (.lst ds) => .lst ds
    | _ => .loc n)
  | d => d
def atIx {α : Type} (xs : List α) (i : Int) : Option α :=
  if 0 ≤ i then xs[i.toNat]? else if -(xs.length : Int) ≤ i then xs[(i + xs.length).toNat]? else none
def setIx {α : Type} (xs : List α) (i : Int) (a : α) : Option (List α) :=
  if 0 ≤ i then (if i.toNat < xs.length then some (xs.set i.toNat a) else none) else if -(xs.length : Int) ≤ i then some (xs.set (i + xs.length).toNat a) else none
/-- a slice's bound as a place -/
def slB (n d : Nat) : Option Int → Nat
  | none => d
  | some v => if v < 0 then (v + (n : Int)).toNat else min v.toNat n
def cutL {α : Type} (xs : List α) (lo hi : Option Int) : List α := (xs.drop (slB xs.length 0 lo)).take (slB xs.length xs.length hi - slB xs.length 0 lo)

/-! ### dicts: keys are tuples of ints, None, such tuples -/
mutual
def nkOf : D → Option NestedKey
  | .non => some .none
  | .int i => some (.num i)
  | .tup ds => (nksOf ds).map .tup
  | _ => none
def nksOf : List D → Option (List NestedKey)
  | [] => some []
  | d :: ds => (nkOf d).bind fun k => (nksOf ds).map (k :: ·)
end
mutual
def dOf : NestedKey → D
  | .none => .non
  | .num i => .int i
  | .text s => .str s.cps.toList
  | .tup ks => .tup (dsOf ks)
def dsOf : List NestedKey → List D
  | [] => []
  | k :: ks => dOf k :: dsOf ks
end
def getK (kvs : List (NestedKey × D)) (k : NestedKey) : Option D := (kvs.find? fun p => decide (p.1 = k)).map (·.2)
def putD (kvs : List (NestedKey × D)) (k : NestedKey) (d : D) : List (NestedKey × D) := if (kvs.any fun p => decide (p.1 = k)) = true then kvs.map (fun p => if p.1 = k then (p.1, d) else p) else kvs ++ [(k, d)]
def dicOf (m : Sto) : D → Option (List (NestedKey × D))
  | .loc n => (match m[n]? with
    | some (.dic kvs) => some kvs
    | _ => none)
  | _ => none
def keyOf : D → Option NestedKey
  | .tup ds => (nksOf ds).bind fun ks => if (NestedKey.tup ks).depth ≤ 8 then some (.tup ks) else none
  | _ => none
def setDic (n : Nat) (kvs : List (NestedKey × D)) (i d : D) : M Unit := fun m => match keyOf i with
  | some k => if kvs.length < lim then .ok () (m.set n (.dic (putD kvs k d))) else .bad
  | none => .bad
mutual
/-- the order of keys: None, ints, texts, tuples item by item -/
def ltN : NestedKey → NestedKey → Bool
  | .none, .none => false
  | .none, _ => true
  | .num _, .none => false
  | .num a, .num b => decide (a < b)
  | .num _, _ => true
  | .text _, .tup _ => true
  | .text _, _ => false
  | .tup a, .tup b => ltNs a b
  | .tup _, _ => false
def ltNs : List NestedKey → List NestedKey → Bool
  | [], [] => false
  | [], _ :: _ => true
  | _ :: _, [] => false
  | a :: as, b :: bs => if a = b then ltNs as bs else ltN a b
end
mutual
/-- it is Python's order, too -/
def okN : NestedKey → NestedKey → Bool
  | .num _, .num _ => true
  | .tup a, .tup b => okNs a b
  | _, _ => false
def okNs : List NestedKey → List NestedKey → Bool
  | a :: as, b :: bs => okN a b && okNs as bs
  | _, _ => true
end
def insN (k : NestedKey) : List NestedKey → List NestedKey
  | [] => [k]
  | h :: t => if ltN h k then h :: insN k t else k :: h :: t
def sortN : List NestedKey → List NestedKey
  | [] => []
  | k :: ks => insN k (sortN ks)
/-- all of them begin with an int -/
def numF : NestedKey → Bool
  | .tup (.num _ :: _) => true
  | _ => false
/-- .. with a tuple -/
def tupF : NestedKey → Bool
  | .tup (.tup _ :: _) => true
  | _ => false
def sortable (ks : List NestedKey) : Bool := (ks.all numF || ks.all tupF) && ks.all fun a => decide (a.depth ≤ 8) && ks.all fun b => okN a b
/-- the keys of a dict, the items of a list -/
def keysOf (m : Sto) (x : D) : Option (List NestedKey) := match dicOf m x with
  | some kvs => some (kvs.map (·.1))
  | none => match x with
    | .tup ds => nksOf ds
    | x => (lstOf m x).bind nksOf
/-- t < u -/
def ltT (a b : List D) : Option D := (nksOf a).bind fun p => (nksOf b).bind fun q => if okNs p p && okNs q q && okNs p q && decide ((NestedKey.tup p).depth ≤ 8) then some (.bl (ltNs p q)) else none
/-! ### operators -/
inductive Bop where | add | sub | mul | fdiv | mod | pow
  deriving DecidableEq
inductive Cop where | eq | ne | lt | le | gt | ge | isin | notin | isN | isnotN
  deriving DecidableEq
def big (i : Int) (n : Nat) : Bool := decide (i.natAbs < 2 ^ n)
def bin : Bop → D → D → Option D
  | .add, .int i, .int j => some (.int (i + j))
  | .add, .str s, .str t => if s.length + t.length ≤ lim then some (.str (s ++ t)) else none
  | .add, .tup s, .tup t => if s.length + t.length ≤ lim then some (.tup (s ++ t)) else none
  | .sub, .int i, .int j => some (.int (i - j))
  | .mul, .int i, .int j => if big i 400000 && big j 400000 then some (.int (i * j)) else none
  | .mul, .int i, .bl b => some (.int (if b then i else 0))
  | .mul, .tup s, .int k => if 0 < k ∧ k ≤ 1000 ∧ s.length ≤ 1000 ∧ 0 < s.length then some (.tup (List.replicate k.toNat s).flatten) else none
  | .fdiv, .int i, .int j => if 0 < j && big j 9000 then some (.int (i / j)) else none
  | .mod, .int i, .int j => if 0 < j then some (.int (i % j)) else none
  | .pow, .int i, .int j => if 0 ≤ j ∧ j ≤ 1000 ∧ i.natAbs < 1000 then some (.int (i ^ j.toNat)) else none
  | _, _, _ => none
def chrIn (c : Nat) (s : List Nat) : Bool := s.any fun x => x == c
def cmp (m : Sto) : Cop → D → D → Option D
  | .eq, x, y => eqD (deref m x) (deref m y)
  | .ne, x, y => neD (deref m x) (deref m y)
  | .lt, .int i, .int j => some (.bl (decide (i < j)))
  | .lt, .tup a, .tup b => ltT a b
  | .le, .int i, .int j => some (.bl (decide (i ≤ j)))
  | .gt, .int i, .int j => some (.bl (decide (j < i)))
  | .ge, .int i, .int j => some (.bl (decide (j ≤ i)))
  | .isin, .str [c], .str t => some (.bl (chrIn c t))
  | .notin, .str [c], .str t => some (.bl (!chrIn c t))
  | .isN, .non, .non => some (.bl true)
  | .isN, .int _, .non => some (.bl false)
  | .isN, .str _, .non => some (.bl false)
  | .isN, .tup _, .non => some (.bl false)
  | .isnotN, .non, .non => some (.bl false)
  | .isnotN, .int _, .non => some (.bl true)
  | .isnotN, .str _, .non => some (.bl true)
  | .isnotN, .tup _, .non => some (.bl true)
  | .isin, x, y => (match seqOf m y with
    | some ds => if x.shaped && (D.lst ds).shaped then some (.bl (ds.any fun z => PyData.eqv z.py x.py)) else none
    | none => none)
  | .notin, x, y => (match seqOf m y with
    | some ds => if x.shaped && (D.lst ds).shaped then some (.bl (!ds.any fun z => PyData.eqv z.py x.py)) else none
    | none => none)
  | _, _, _ => none
inductive Ty where | int | bool | tuple | str | list | dict
  deriving DecidableEq
def isa : Ty → D → Bool
  | .int, .int _ => true
  | .int, .bl _ => true
  | .bool, .bl _ => true
  | .tuple, .tup _ => true
  | .str, .str _ => true
  | .list, .lst _ => true
  | .list, .loc _ => true
  | .dict, .edict => true
  | _, _ => false
/-- a dict's place -/
def isDic (m : Sto) (n : Nat) : Bool := match m[n]? with
  | some (.dic _) => true
  | _ => false
/-- isa, where a thing of the store is told by it -/
def isaM (m : Sto) : Ty → D → Bool
  | .list, .loc n => !isDic m n
  | .dict, .loc n => isDic m n
  | t, d => isa t d
/-- sorted(x) -/
def sortedD (m : Sto) (x : D) : Option D := (keysOf m x).bind fun ks => if sortable ks && decide (ks.length ≤ lim) then some (.lst (dsOf (sortN ks))) else none
/-- built-in functions -/
inductive Bf where | abs | all | any | divmod | gcd | int | len | max2 | min2 | repr | str | sum | tuple | isdigit | lenset | join
  deriving DecidableEq
def allB : List D → Option Bool
  | [] => some true
  | .bl b :: r => (allB r).map (b && ·)
  | _ => none
def anyB : List D → Option Bool
  | [] => some false
  | .bl b :: r => (anyB r).map (b || ·)
  | _ => none
def sumI : List D → Option Int
  | [] => some 0
  | .int i :: r => (sumI r).map (i + ·)
  | _ => none
def strsOf : List D → Option (List (List Nat))
  | [] => some []
  | .str s :: r => (strsOf r).map (s :: ·)
  | _ => none
/-- texts with another one between them -/
def joinN (a : List Nat) : List (List Nat) → List Nat
  | [] => []
  | [s] => s
  | s :: t :: r => s ++ (a ++ joinN a (t :: r))
/-- how many unlike ones -/
def dist : List (List Nat) → List (List Nat) → Nat
  | [], _ => 0
  | s :: r, seen => if seen.contains s then dist r seen else dist r (s :: seen) + 1
def digits (n : Nat) : List Nat := (toString n).toList.map Char.toNat
def showI (i : Int) : List Nat := (toString i).toList.map Char.toNat
def blt (m : Sto) : Bf → List D → Option D
  | .abs, [.int i] => some (.int (if i < 0 then -i else i))
  | .all, [x] => ((lstOf m x).bind allB).map .bl
  | .any, [x] => ((lstOf m x).bind anyB).map .bl
  | .divmod, [.int i, .int j] => if 0 < j ∧ j < 1073741824 then some (.tup [.int (i / j), .int (i % j)]) else none
  | .gcd, [.int a, .int b] => some (.int (Nat.gcd a.natAbs b.natAbs : Nat))
  | .int, [.int i] => some (.int i)
  | .int, [.bl b] => some (.int (if b then 1 else 0))
  | .len, [.str s] => if s.length ≤ lim then some (.int s.length) else none
  | .len, [x] => (seqOf m x).map fun ds => .int ds.length
  | .max2, [.int i, .int j] => some (.int (if j > i then j else i))
  | .min2, [.int i, .int j] => some (.int (if j < i then j else i))
  | .str, [.int i] => if i.natAbs.log2 < 1920 then some (.str (showI i)) else none
  | .sum, [x] => ((lstOf m x).bind sumI).map .int
  | .tuple, [x] => (seqOf m x).map .tup
  | .repr, [x] => if x.flat && x.py.showable && decide (x.py.shown.length ≤ lim) && decide (x.py.depth ≤ 64) then some (.str x.py.shown.cps.toList) else none
  | .isdigit, [.str [c]] => if c < 128 then some (.bl (decide (48 ≤ c ∧ c ≤ 57))) else none
  | .join, [.str a, x] => ((seqOf m x).bind strsOf).bind fun ss => if (ss.map List.length).sum + ss.length * a.length ≤ lim then some (.str (joinN a ss)) else none
  | .lenset, [.tup ds] => (strsOf ds).bind fun ss => if ss.length ≤ 4000 then some (.int (dist ss [])) else none
  | _, _ => none
/-! ### the own syntax -/
mutual
inductive E where
  | var (i : Nat) | cst (d : D) | tup (es : Es) | lst (es : Es) | new (e : E)
  | bin (o : Bop) (a b : E) | neg (a : E)
  | cmp (o : Cop) (a b : E) | chn (o p : Cop) (a b c : E)
  | and (a b : E) | or (a b : E) | not (a : E) | ite (c a b : E)
  | idx (a i : E) | sl (a lo hi : E)
  | call (f : Nat) (es : Es) | blt (f : Bf) (es : Es) | isa (t : Ty) (e : E)
  | listOf (e : E) | cat (a b : E) | app (o e : E) | nop | fstr (es : Es) | fv (e : E)
  | comp (elt : E) (t : T) (it : I) (c : E) | newd | sortOf (e : E) | rep (a b : E) | rev (e : E)
inductive Es where
  | nil | cons (e : E) (es : Es)
inductive I where
  | seq (e : E) | chars (e : E) | range (es : Es) | enum (e : E) | zip (a b : E) | zip3 (a b c : E)
inductive T where
  | name (i : Nat) | sub (a i : E) | tup (ts : Ts)
inductive Ts where
  | nil | cons (t : T) (ts : Ts)
end
mutual
inductive S where
  | asg (t : T) (e : E) | expr (e : E) | ret (e : E) | ifs (c : E) (a b : Ss) | fors (t : T) (it : I) (b : Ss) | whiles (c : E) (b : Ss) | pass | brk | cont | raise
inductive Ss where
  | nil | cons (s : S) (ss : Ss)
end

/-- a call's meaning, by the number -/
abbrev Fn := Nat → List D → M D
def truth : D → Option Bool
  | .bl b => some b
  | _ => none
def getV (env : Env) (i : Nat) : Option D := (env[i]?).join
def alloc (ds : List D) : M D := fun m => .ok (.loc m.length) (m ++ [.lst ds])
/-- how a bound of a slice is told -/
def partOf (no : Bool) (d : D) : Option (Option Int) := if no then some none else match d with
  | .int i => some (some i)
  | _ => none
def isNop : E → Bool
  | .nop => true
  | _ => false
def idxD (m : Sto) (x y : D) : Option D := match dicOf m x with
  | some kvs => (keyOf y).bind fun k => getK kvs k
  | none => match x, y with
    | .str s, .int i => if s.length ≤ lim then (atIx s i).map fun c => .str [c] else none
    | x, .int i => (seqOf m x).bind fun ds => atIx ds i
    | _, _ => none
def slD (m : Sto) (x : D) (lo hi : Option Int) : Option D := match x with
  | .str s => if s.length ≤ lim then some (.str (cutL s lo hi)) else none
  | .tup ds => some (.tup (cutL ds lo hi))
  | x => (seqOf m x).map fun ds => .lst (cutL ds lo hi)
/-- x[::-1] -/
def revD (m : Sto) (x : D) : Option D := match x with
  | .tup ds => some (.tup ds.reverse)
  | x => (lstOf m x).map fun ds => .lst ds.reverse
def ranged (lo hi : Int) : List D := (List.range (hi - lo).toNat).map fun i => .int (lo + (i : Nat))
/-- from lo on, by c, below hi -/
def rangedC (lo hi c : Int) : List D := (List.range ((hi - lo + c - 1) / c).toNat).map fun i => .int (lo + (i : Nat) * c)
def zipD : List D → List D → List D
  | x :: xs, y :: ys => .tup [x, y] :: zipD xs ys
  | _, _ => []
def zip3D : List D → List D → List D → List D
  | x :: xs, y :: ys, z :: zs => .tup [x, y, z] :: zip3D xs ys zs
  | _, _, _ => []
def enumD : Nat → List D → List D
  | _, [] => []
  | n, x :: xs => .tup [.int n, x] :: enumD (n + 1) xs
/-- list + list -/
def catD (m : Sto) (x y : D) : Option D := match lstOf m x, lstOf m y with
  | some xs, some ys => if xs.length + ys.length ≤ lim then some (.lst (xs ++ ys)) else none
  | _, _ => none
/-- list * int -/
def repD (x y : D) : Option D := match x, y with
  | .lst ds, .int k => if 0 ≤ k ∧ k ≤ 1000 ∧ ds.length ≤ 1000 then some (.lst (List.replicate k.toNat ds).flatten) else none
  | _, _ => none
/-- a thing in braces of a text -/
def fmtD : D → Option D
  | .str s => if s.length ≤ lim then some (.str s) else none
  | .int i => if i.natAbs.log2 < 1920 then some (.str (showI i)) else none
  | _ => none
/-- rows that do not change -/
def still : D → Option (List D)
  | .tup ds => some ds
  | .lst ds => some ds
  | _ => none
def setLst (o i d : D) : M Unit := fun m => match o, i with
  | .loc n, .int k => (match m[n]? with
    | some (.lst ds) => (match setIx ds k d with
      | some ds' => .ok () (m.set n (.lst ds'))
      | none => .bad)
    | _ => .bad)
  | _, _ => .bad
def setSub (o i d : D) : M Unit := fun m => match o, dicOf m o with
  | .loc n, some kvs => setDic n kvs i d m
  | _, _ => setLst o i d m
def appD (o d : D) : M D := fun m => match o with
  | .loc n => (match m[n]? with
    | some (.lst ds) => if ds.length < lim then .ok .non (m.set n (.lst (ds ++ [d]))) else .bad
    | _ => .bad)
  | _ => .bad
/-- the items of a list that changes are looked up turn by turn -/
inductive Src where
  | fix (ds : List D) | loc (n : Nat)
/-- a comprehension's turns -/
def compL (f : D → M (Option D)) : List D → M (List D)
  | [] => ret []
  | d :: ds => bnd (f d) fun o => bnd (compL f ds) fun ys => ret (match o with
    | some y => y :: ys
    | none => ys)
/-- .. over a list that changes: at most so many turns -/
def compR (f : D → M (Option D)) (n : Nat) : Nat → Nat → M (List D)
  | k, i => fun m => match m[n]? with
    | some (.lst ds) => (match ds[i]? with
      | none => .ok [] m
      | some d => (match k with
        | 0 => .bad
        | k + 1 => bnd (f d) (fun o => bnd (compR f n k (i + 1)) fun ys => ret (match o with
          | some y => y :: ys
          | none => ys)) m))
    | _ => .bad
mutual
def ev (F : Fn) : E → Env → M D
  | .var i, env => ofO (getV env i)
  | .cst d, _ => ret d
  | .tup es, env => bnd (evs F es env) fun ds => ret (.tup ds)
  | .lst es, env => bnd (evs F es env) fun ds => ret (.lst ds)
  | .new e, env => bnd (ev F e env) fun d => match d with
    | .lst ds => alloc ds
    | _ => bad
  | .bin o a b, env => bnd (ev F a env) fun x => bnd (ev F b env) fun y => ofO (bin o x y)
  | .neg a, env => bnd (ev F a env) fun x => match x with
    | .int i => ret (.int (-i))
    | _ => bad
  | .cmp o a b, env => bnd (ev F a env) fun x => bnd (ev F b env) fun y => fun m => ofO (cmp m o x y) m
  | .chn o p a b c, env => bnd (ev F a env) fun x => bnd (ev F b env) fun y => bnd (fun m => ofO (cmp m o x y) m) fun r => match r with
    | .bl true => bnd (ev F c env) fun z m => ofO (cmp m p y z) m
    | .bl false => ret (.bl false)
    | _ => bad
  | .and a b, env => bnd (ev F a env) fun x => match x with
    | .bl true => ev F b env
    | .bl false => ret (.bl false)
    | _ => bad
  | .or a b, env => bnd (ev F a env) fun x => match x with
    | .bl true => ret (.bl true)
    | .bl false => ev F b env
    | _ => bad
  | .not a, env => bnd (ev F a env) fun x => match x with
    | .bl b => ret (.bl (!b))
    | _ => bad
  | .ite c a b, env => bnd (ev F c env) fun x => match x with
    | .bl true => ev F a env
    | .bl false => ev F b env
    | _ => bad
  | .idx a i, env => bnd (ev F a env) fun x => bnd (ev F i env) fun y => fun m => ofO (idxD m x y) m
  | .sl a lo hi, env => bnd (ev F a env) fun x => bnd (bnd (ev F lo env) fun l => ofO (partOf (isNop lo) l)) fun l => bnd (bnd (ev F hi env) fun h => ofO (partOf (isNop hi) h)) fun h => fun m => ofO (slD m x l h) m
  | .nop, _ => ret .non
  | .fstr es, env => evj F es [] env
  | .fv e, env => bnd (ev F e env) fun d => ofO (fmtD d)
  | .call f es, env => bnd (evs F es env) fun ds => F f ds
  | .blt f es, env => bnd (evs F es env) fun ds => fun m => ofO (blt m f ds) m
  | .isa t e, env => bnd (ev F e env) fun d => fun m => .ok (.bl (isaM m t d)) m
  | .listOf e, env => bnd (ev F e env) fun d => fun m => ofO ((seqOf m d).map .lst) m
  | .cat a b, env => bnd (ev F a env) fun x => bnd (ev F b env) fun y => fun m => ofO (catD m x y) m
  | .app o e, env => bnd (ev F o env) fun x => match x with
    | .loc n => fun m => if isDic m n then .bad else bnd (ev F e env) (fun d => appD (.loc n) d) m
    | _ => bad
  | .rep a b, env => bnd (ev F a env) fun x => bnd (ev F b env) fun y => ofO (repD x y)
  | .rev e, env => bnd (ev F e env) fun d => fun m => ofO (revD m d) m
  | .sortOf e, env => bnd (ev F e env) fun d => fun m => ofO (sortedD m d) m
  | .newd, _ => fun m => .ok (.loc m.length) (m ++ [.dic []])
  | .comp elt t it c, env => bnd (evI F it env) fun s => match s with
    | .fix ds => if ds.length ≤ lim then bnd (compL (fun d => noExc (bnd (bindT F t d env) fun env' => bnd (ev F c env') fun b => match b with
        | .bl true => bnd (ev F elt env') fun y => ret (some y)
        | .bl false => ret none
        | _ => bad)) ds) fun ys => ret (.lst ys) else bad
    | .loc n => bnd (compR (fun d => noExc (bnd (bindT F t d env) fun env' => bnd (ev F c env') fun b => match b with
        | .bl true => bnd (ev F elt env') fun y => ret (some y)
        | .bl false => ret none
        | _ => bad)) n lim 0) fun ys => ret (.lst ys)
def evs (F : Fn) : Es → Env → M (List D)
  | .nil, _ => ret []
  | .cons e es, env => bnd (ev F e env) fun d => bnd (evs F es env) fun ds => ret (d :: ds)
def evj (F : Fn) : Es → List Nat → Env → M D
  | .nil, acc, _ => ret (.str acc)
  | .cons e es, acc, env => bnd (ev F e env) fun d => match d with
    | .str s => if acc.length + s.length ≤ lim then evj F es (acc ++ s) env else bad
    | _ => bad
def evI (F : Fn) : I → Env → M Src
  | .seq e, env => bnd (ev F e env) fun d => match d with
    | .tup ds => ret (.fix ds)
    | .lst ds => ret (.fix ds)
    | .loc n => fun m => if isDic m n then .bad else .ok (.loc n) m
    | .str s => if s.length ≤ lim then ret (.fix (s.map fun c => .str [c])) else bad
    | _ => bad
  | .chars e, env => bnd (ev F e env) fun d => match d with
    | .str s => if s.length ≤ lim then ret (.fix (s.map fun c => .str [c])) else bad
    | _ => bad
  | .range es, env => bnd (evs F es env) fun ds => match ds with
    | [.int j] => if -(lim : Int) ≤ j ∧ j ≤ lim then ret (.fix (ranged 0 j)) else bad
    | [.int i, .int j] => if (-(lim : Int) ≤ i ∧ i ≤ lim) ∧ -(lim : Int) ≤ j ∧ j ≤ lim then ret (.fix (ranged i j)) else bad
    | [.int i, .int j, .int c] => if ((-(lim : Int) ≤ i ∧ i ≤ lim) ∧ -(lim : Int) ≤ j ∧ j ≤ lim) ∧ 1 ≤ c ∧ c ≤ 1000 then ret (.fix (rangedC i j c)) else bad
    | _ => bad
  | .enum e, env => bnd (ev F e env) fun d => match d with
    | .lst ds => ret (.fix (enumD 0 ds))
    | .tup ds => ret (.fix (enumD 0 ds))
    | _ => bad
  | .zip a b, env => bnd (ev F a env) fun x => bnd (ev F b env) fun y => match x, y with
    | .tup xs, .tup ys => ret (.fix (zipD xs ys))
    | .lst xs, .lst ys => ret (.fix (zipD xs ys))
    | _, _ => bad
  | .zip3 a b c, env => bnd (ev F a env) fun x => bnd (ev F b env) fun y => bnd (ev F c env) fun z => match x, y, z with
    | .tup xs, .tup ys, .tup zs => ret (.fix (zip3D xs ys zs))
    | _, _, _ => bad
def bindT (F : Fn) : T → D → Env → M Env
  | .name i, d, env => if i < env.length then ret (env.set i (some d)) else bad
  | .sub a i, d, env => bnd (ev F a env) fun x => bnd (ev F i env) fun y => bnd (setSub x y d) fun _ => ret env
  | .tup ts, d, env => match d with
    | .tup ds => bindTs F ts ds env
    | _ => bad
def bindTs (F : Fn) : Ts → List D → Env → M Env
  | .nil, [], env => ret env
  | .cons t ts, d :: ds, env => bnd (bindT F t d env) fun env' => bindTs F ts ds env'
  | _, _, _ => bad
end

/-! ### statements -/
/-- how a statement ends -/
inductive Fl where
  | nx (env : Env) | rt (d : D) | bk (env : Env) | ct (env : Env) | ex (x : Ex) (env : Env)
/-- an expression within a statement -/
def onE {α : Type} (x : M α) (env : Env) (f : α → M Fl) : M Fl := fun m => match x m with
  | .ok a m1 => f a m1
  | .exc e m1 => .ok (.ex e env) m1
  | .bad => .bad
def whileN (c : Env → M D) (b : Env → M Fl) : Nat → Env → M Fl
  | 0, _ => bad
  | n + 1, env => onE (c env) env fun x => match x with
    | .bl true => bnd (b env) fun f => match f with
      | .nx e => whileN c b n e
      | .ct e => whileN c b n e
      | .bk e => ret (.nx e)
      | f => ret f
    | .bl false => ret (.nx env)
    | _ => bad
def isBad {α : Type} : R α → Bool
  | .bad => true
  | _ => false
open Classical in
noncomputable def whileM (c : Env → M D) (b : Env → M Fl) (env : Env) : M Fl := fun m =>
  if h : ∃ n, isBad (whileN c b n env m) = false then whileN c b (Classical.choose h) env m else .bad
/-- the rounds of a for over rows that stay -/
def forL (t : D → Env → M Env) (b : Env → M Fl) : List D → Env → M Fl
  | [], env => ret (.nx env)
  | d :: ds, env => bnd (noExc (t d env)) fun env' => bnd (b env') fun f => match f with
    | .nx e => forL t b ds e
    | .ct e => forL t b ds e
    | .bk e => ret (.nx e)
    | f => ret f
/-- .. over a list that changes: at most so many rounds -/
def forR (t : D → Env → M Env) (b : Env → M Fl) (n : Nat) : Nat → Nat → Env → M Fl
  | k, i, env => fun m => match m[n]? with
    | some (.lst ds) => (match ds[i]? with
      | none => .ok (.nx env) m
      | some d => (match k with
        | 0 => .bad
        | k + 1 => bnd (noExc (t d env)) (fun env' => bnd (b env') fun f => match f with
          | .nx e => forR t b n k (i + 1) e
          | .ct e => forR t b n k (i + 1) e
          | .bk e => ret (.nx e)
          | f => ret f) m))
    | _ => .bad
mutual
noncomputable def run (F : Fn) : S → Env → M Fl
  | .asg t e, env => onE (ev F e env) env fun d => bnd (noExc (bindT F t d env)) fun env' => ret (.nx env')
  | .expr e, env => onE (ev F e env) env fun _ => ret (.nx env)
  | .ret e, env => onE (ev F e env) env fun d => ret (.rt d)
  | .ifs c a b, env => onE (ev F c env) env fun x => match x with
    | .bl true => runs F a env
    | .bl false => runs F b env
    | _ => bad
  | .fors t it b, env => onE (evI F it env) env fun s => match s with
    | .fix ds => forL (bindT F t) (runs F b) ds env
    | .loc n => forR (bindT F t) (runs F b) n lim 0 env
  | .whiles c b, env => whileM (ev F c) (runs F b) env
  | .pass, env => ret (.nx env)
  | .brk, env => ret (.bk env)
  | .cont, env => ret (.ct env)
  | .raise, _ => bad
noncomputable def runs (F : Fn) : Ss → Env → M Fl
  | .nil, env => ret (.nx env)
  | .cons s ss, env => bnd (run F s env) fun f => match f with
    | .nx e => runs F ss e
    | f => ret f
end
/-- a def: how many parameters, how many names, its body -/
structure Df where
  ar : Nat
  n : Nat
  body : Ss
noncomputable def callD (F : Fn) (d : Df) (ds : List D) : M D := if ds.length = d.ar then bnd (noExc (runs F d.body (ds.map some ++ List.replicate (d.n - d.ar) none))) fun f => match f with
  | .nx _ => ret .non
  | .rt x => ret x
  | .ex x _ => fun m => .exc x m
  | _ => bad
  else bad
/-- the program: its defs by number; k calls deep -/
noncomputable def callP (P : Nat → Option Df) : Nat → Fn
  | 0, _, _ => bad
  | k + 1, f, ds => match P f with
    | some d => callD (callP P k) d ds
    | none => bad

theorem whileN_succ {c : Env → M D} {b : Env → M Fl} : ∀ {n : Nat} {env : Env} {m : Sto}, isBad (whileN c b n env m) = false → whileN c b (n + 1) env m = whileN c b n env m
  | 0, _, _, h => by cases h
  | n + 1, env, m, h => by
    have e : ∀ k, whileN c b (k + 1) env m = onE (c env) env (fun x => match x with
      | .bl true => bnd (b env) fun f => match f with
        | .nx e => whileN c b k e
        | .ct e => whileN c b k e
        | .bk e => ret (.nx e)
        | f => ret f
      | .bl false => ret (.nx env)
      | _ => bad) m := fun _ => rfl
    rw [e n] at h ⊢
    rw [e (n + 1)]
    unfold onE at h ⊢
    cases hc : c env m with
    | bad => rfl
    | exc x m1 => rfl
    | ok x m1 =>
      rw [hc] at h
      dsimp only at h ⊢
      cases x with
      | bl t =>
        cases t with
        | false => rfl
        | true =>
          dsimp only at h ⊢
          unfold bnd at h ⊢
          cases hb : b env m1 with
          | bad => rfl
          | exc x m2 => rfl
          | ok f m2 =>
            rw [hb] at h
            dsimp only at h ⊢
            cases f with
            | nx e' => exact whileN_succ h
            | ct e' => exact whileN_succ h
            | bk e' => rfl
            | rt d => rfl
            | ex x e' => rfl
      | _ => rfl
theorem whileN_le {c : Env → M D} {b : Env → M Fl} {n : Nat} {env : Env} {m : Sto} (h : isBad (whileN c b n env m) = false) : ∀ k, whileN c b (n + k) env m = whileN c b n env m
  | 0 => rfl
  | k + 1 => by
    have ih := whileN_le h k
    rw [← Nat.add_assoc, whileN_succ (by rw [ih]; exact h), ih]
/-- a while by so many rounds -/
theorem whileM_of {c : Env → M D} {b : Env → M Fl} {env : Env} {m : Sto} (n : Nat) (h : isBad (whileN c b n env m) = false) : whileM c b env m = whileN c b n env m := by
  have hx : ∃ n, isBad (whileN c b n env m) = false := ⟨n, h⟩
  unfold whileM
  rw [dif_pos hx]
  have hs := Classical.choose_spec hx
  rcases Nat.le_total n (Classical.choose hx) with q | q
  · obtain ⟨k, e⟩ := Nat.le.dest q
    rw [← e]
    exact whileN_le h k
  · obtain ⟨k, e⟩ := Nat.le.dest q
    have z := whileN_le hs k
    rw [e] at z
    exact z.symm
theorem whileM_ex {c : Env → M D} {b : Env → M Fl} {env : Env} {m : Sto} (h : isBad (whileM c b env m) = false) : ∃ n, isBad (whileN c b n env m) = false ∧ whileM c b env m = whileN c b n env m := by
  by_cases hx : ∃ n, isBad (whileN c b n env m) = false
  · obtain ⟨n, hn⟩ := hx
    exact ⟨n, hn, whileM_of n hn⟩
  · unfold whileM at h
    rw [dif_neg hx] at h
    cases h
end Dh


set_option Elab.async false
set_option linter.all false
set_option maxRecDepth 100000
set_option maxHeartbeats 4000000
/-! DhRel: how plain data stands in the layer's abstract heap. -/
namespace Dh
open PySem PySem.Spec PyProof.Rows L2

abbrev Frag := PySem.W.Frag
/-- a list that nobody changes: locked, or of the written part -/
def Fz (K : Frag) (H : Hp) (a : Addr) (vs : List V) : Prop := (∃ o, H a = some (.frz o (.lst vs))) ∨ SqL K (fun _ => none) a vs
theorem Fz.sq {K : Frag} {H : Hp} {a : Addr} {vs : List V} (h : Fz K H a vs) : SqL K H a vs := by
  rcases h with ⟨o, h⟩ | h
  · exact .inl (.inr ⟨o, h⟩)
  · rcases h with (h | ⟨o, h⟩) | h
    · cases h
    · cases h
    · exact .inr h
mutual
/-- a value v tells d -/
def Rp (K : Frag) (r : List Addr) (H : Hp) : D → V → Prop
  | .non, v => v = .non
  | .bl b, v => v = .bl b
  | .int i, v => v = .int i
  | .str s, v => v = .str ⟨s.toArray⟩
  | .tup ds, v => ∃ a vs, v = .ref a ∧ SqT K H a vs ∧ Rps K r H ds vs
  | .lst ds, v => ∃ a vs, v = .ref a ∧ Fz K H a vs ∧ Rps K r H ds vs
  | .edict, v => ∃ a o, v = .ref a ∧ H a = some (.frz o (.dK []))
  | .loc n, v => ∃ a, v = .ref a ∧ r[n]? = some a
def Rps (K : Frag) (r : List Addr) (H : Hp) : List D → List V → Prop
  | [], vs => vs = []
  | d :: ds, vs => ∃ v w, vs = v :: w ∧ Rp K r H d v ∧ Rps K r H ds w
end
/-- what a value's telling leans on is kept -/
structure Kp (r : List Addr) (H : Hp) (r' : List Addr) (H' : Hp) : Prop where
  pre : r <+: r'
  tup : ∀ a vs, H a = some (.tup vs) → H' a = some (.tup vs)
  frz : ∀ a o u, H a = some (.frz o u) → H' a = some (.frz o u)
section
variable {K : Frag} {r r' r1 r2 : List Addr} {H H' H1 H2 : Hp}
theorem get_pre {α : Type} {xs ys : List α} (p : xs <+: ys) {n : Nat} {a : α} (h : xs[n]? = some a) : ys[n]? = some a := by
  obtain ⟨zs, rfl⟩ := p
  have hn : n < xs.length := (List.getElem?_eq_some_iff.mp h).1
  rw [List.getElem?_append_left hn]
  exact h
theorem SqT.kp (k : Kp r H r' H') {a : Addr} {vs : List V} (h : SqT K H a vs) : SqT K H' a vs := by
  rcases h with (h | ⟨o, h⟩) | h
  · exact .inl (.inl (k.tup a vs h))
  · exact .inl (.inr ⟨o, k.frz a o _ h⟩)
  · exact .inr h
theorem Fz.kp (k : Kp r H r' H') {a : Addr} {vs : List V} (h : Fz K H a vs) : Fz K H' a vs := by
  rcases h with ⟨o, h⟩ | h
  · exact .inl ⟨o, k.frz a o _ h⟩
  · exact .inr h
mutual
theorem Rp.kp (k : Kp r H r' H') : ∀ (d : D) (v : V), Rp K r H d v → Rp K r' H' d v
  | .non, _, h => h
  | .bl _, _, h => h
  | .int _, _, h => h
  | .str _, _, h => h
  | .tup ds, _, ⟨a, vs, e, s, t⟩ => ⟨a, vs, e, SqT.kp k s, Rps.kp k ds vs t⟩
  | .lst ds, _, ⟨a, vs, e, s, t⟩ => ⟨a, vs, e, Fz.kp k s, Rps.kp k ds vs t⟩
  | .edict, _, ⟨a, o, e, h⟩ => ⟨a, o, e, k.frz a o _ h⟩
  | .loc n, _, ⟨a, e, h⟩ => ⟨a, e, get_pre k.pre h⟩
theorem Rps.kp (k : Kp r H r' H') : ∀ (ds : List D) (vs : List V), Rps K r H ds vs → Rps K r' H' ds vs
  | [], _, h => h
  | d :: ds, _, ⟨v, w, e, h, t⟩ => ⟨v, w, e, Rp.kp k d v h, Rps.kp k ds w t⟩
end
theorem Rps.len : ∀ {ds : List D} {vs : List V}, Rps K r H ds vs → vs.length = ds.length
  | [], _, h => by rw [show _ = [] from h]; rfl
  | d :: ds, _, ⟨v, w, e, h, t⟩ => by rw [e, List.length_cons, List.length_cons, Rps.len t]
theorem Rps.app : ∀ {ds es : List D} {vs ws : List V}, Rps K r H ds vs → Rps K r H es ws → Rps K r H (ds ++ es) (vs ++ ws)
  | [], _, _, _, h, q => by rw [show _ = [] from h]; exact q
  | d :: ds, _, _, _, ⟨v, w, e, h, t⟩, q => ⟨v, w ++ _, by rw [e]; rfl, h, Rps.app t q⟩
theorem Rps.take : ∀ (n : Nat) {ds : List D} {vs : List V}, Rps K r H ds vs → Rps K r H (ds.take n) (vs.take n)
  | 0, _, _, _ => rfl
  | n + 1, [], _, h => by rw [show _ = [] from h]; rfl
  | n + 1, d :: ds, _, ⟨v, w, e, h, t⟩ => ⟨v, w.take n, by rw [e]; rfl, h, Rps.take n t⟩
theorem Rps.drop : ∀ (n : Nat) {ds : List D} {vs : List V}, Rps K r H ds vs → Rps K r H (ds.drop n) (vs.drop n)
  | 0, _, _, h => h
  | n + 1, [], _, h => by rw [show _ = [] from h]; rfl
  | n + 1, d :: ds, _, ⟨v, w, e, h, t⟩ => by rw [e]; exact Rps.drop n t
theorem Rps.get : ∀ {n : Nat} {ds : List D} {vs : List V} {d : D}, Rps K r H ds vs → ds[n]? = some d → ∃ v, vs[n]? = some v ∧ Rp K r H d v
  | 0, d :: ds, _, d', ⟨v, w, e, h, t⟩, q => by
    have q' : d = d' := by simpa using q
    subst q'
    exact ⟨v, by rw [e]; rfl, h⟩
  | n + 1, d :: ds, _, d', ⟨v, w, e, h, t⟩, q => by
    obtain ⟨u, h1, h2⟩ := Rps.get (n := n) t (by simpa using q)
    exact ⟨u, by rw [e]; simpa using h1, h2⟩
  | n, [], _, d', _, q => by simp at q
theorem Rps.set : ∀ {n : Nat} {ds : List D} {vs : List V} {d : D} {v : V}, Rps K r H ds vs → Rp K r H d v → Rps K r H (ds.set n d) (vs.set n v)
  | 0, d :: ds, _, d', v', ⟨v, w, e, h, t⟩, q => ⟨v', w, by rw [e]; rfl, q, t⟩
  | n + 1, d :: ds, _, d', v', ⟨v, w, e, h, t⟩, q => ⟨v, w.set n v', by rw [e]; rfl, h, Rps.set (n := n) t q⟩
  | 0, [], _, _, _, h, _ => by rw [show _ = [] from h]; rfl
  | n + 1, [], _, _, _, h, _ => by rw [show _ = [] from h]; rfl
theorem Rps.one {d : D} {v : V} (h : Rp K r H d v) : Rps K r H [d] [v] := ⟨v, [], rfl, h, rfl⟩
theorem Rps.rep {ds : List D} {vs : List V} (h : Rps K r H ds vs) : ∀ n : Nat, Rps K r H (List.replicate n ds).flatten (List.replicate n vs).flatten
  | 0 => rfl
  | n + 1 => by
    rw [List.replicate_succ, List.replicate_succ, List.flatten_cons, List.flatten_cons]
    exact Rps.app h (Rps.rep h n)

theorem nodup_at {α : Type} {xs : List α} (hN : xs.Nodup) {i j : Nat} {x : α} (a : xs[i]? = some x) (b : xs[j]? = some x) : i = j := by
  obtain ⟨h1, e1⟩ := List.getElem?_eq_some_iff.mp a
  obtain ⟨h2, e2⟩ := List.getElem?_eq_some_iff.mp b
  exact (List.getElem_inj hN).mp (e1.trans e2.symm)
mutual
/-- no text in it: its hash is the same everywhere -/
def ntx : NestedKey → Bool
  | .text _ => false
  | .tup ks => ntxs ks
  | _ => true
def ntxs : List NestedKey → Bool
  | [] => true
  | k :: ks => ntx k && ntxs ks
end
abbrev DEnt := NestedKey × Addr × Value
/-- a dict whose keys are tuples: keys, where they stand, values -/
def DcR (h : Heap) (a : Addr) (xs : List DEnt) : Prop :=
  (a == sysModules) = false ∧ (∀ x ∈ xs, ntx x.1 = true ∧ x.1.depth ≤ 8) ∧ xs.length ≤ sizeLine ∧ (xs.map (·.1)).Nodup ∧
    ∃ o es ep, h.get? a = some o ∧ o.ExactDict ∧ o.data = .dict es ep ∧ ∀ (P : Program) (w : World), es.toList = xs.map (entryOfKey (nestedKind P w))
def DcO (a : Addr) (xs : List DEnt) : HO := .ext fun h => DcR h a xs
def DcP (K : Frag) (r : List Addr) (H : Hp) (p : NestedKey × D) (q : DEnt) : Prop := p.1 = q.1 ∧ Rp K r H (dOf p.1) (.ref q.2.1) ∧ ∃ v, RelV v q.2.2 ∧ Rp K r H p.2 v
/-- what an object of the store is -/
def ObR (K : Frag) (r : List Addr) (H : Hp) (o : O) (a : Addr) : Prop := match o with
  | .lst ds => ∃ vs, H a = some (.lst vs) ∧ Rps K r H ds vs
  | .dic kvs => ∃ xs, H a = some (DcO a xs) ∧ Paired (DcP K r H) kvs xs
/-- the store stands at r -/
structure StoOk (K : Frag) (r : List Addr) (H : Hp) (m : Sto) : Prop where
  len : r.length = m.length
  nd : r.Nodup
  ob : ∀ (n : Nat) (a : Addr) (o : O), r[n]? = some a → m[n]? = some o → ObR K r H o a
/-- the names' values -/
structure EnvOk (K : Frag) (r : List Addr) (H : Hp) (env : Env) (σ : L2.St) : Prop where
  len : env.length = σ.length
  at_ : ∀ (i : Nat) (d : D), env[i]? = some (some d) → ∃ v : V, σ[i]? = some (some v) ∧ Rp K r H d v
/-- from a state to a later one: all that is told but the store's own objects is kept -/
structure Ext (r : List Addr) (H : Hp) (r' : List Addr) (H' : Hp) : Prop where
  pre : r <+: r'
  kp : ∀ a o, H a = some o → a ∉ r → H' a = some o ∧ a ∉ r'
theorem Ext.refl (r : List Addr) (H : Hp) : Ext r H r H := ⟨List.prefix_refl _, fun _ _ h n => ⟨h, n⟩⟩
theorem Ext.trans (x : Ext r H r1 H1) (y : Ext r1 H1 r2 H2) : Ext r H r2 H2 :=
  ⟨x.pre.trans y.pre, fun a o h n => let ⟨h1, n1⟩ := x.kp a o h n; y.kp a o h1 n1⟩
/-- neither a tuple nor locked -/
def Own (o : HO) : Prop := (∃ vs, o = .lst vs) ∨ ∃ φ, o = .ext φ
theorem Own.tup {o : HO} (h : Own o) (vs : List V) : o ≠ .tup vs := by
  rintro rfl
  rcases h with ⟨_, h⟩ | ⟨_, h⟩ <;> cases h
theorem Own.frz {o : HO} (h : Own o) (b : Obj) (u : HO) : o ≠ .frz b u := by
  rintro rfl
  rcases h with ⟨_, h⟩ | ⟨_, h⟩ <;> cases h
theorem StoOk.isO {m : Sto} (s : StoOk K r H m) {a : Addr} (h : a ∈ r) : ∃ o, H a = some o ∧ Own o := by
  obtain ⟨n, hn⟩ := List.mem_iff_getElem?.mp h
  have hl : n < m.length := by
    rw [← s.len]
    exact (List.getElem?_eq_some_iff.mp hn).1
  obtain ⟨o, ho⟩ : ∃ o, m[n]? = some o := ⟨m[n], List.getElem?_eq_getElem hl⟩
  have z := s.ob n a o hn ho
  cases o with
  | lst ds => exact let ⟨vs, h1, _⟩ := z; ⟨_, h1, .inl ⟨vs, rfl⟩⟩
  | dic kvs => exact let ⟨xs, h1, _⟩ := z; ⟨_, h1, .inr ⟨_, rfl⟩⟩
theorem StoOk.isL {m : Sto} (s : StoOk K r H m) {n : Nat} {a : Addr} (h : r[n]? = some a) (hd : isDic m n = false) : ∃ vs, H a = some (.lst vs) := by
  have hl : n < m.length := by
    rw [← s.len]
    exact (List.getElem?_eq_some_iff.mp h).1
  obtain ⟨o, ho⟩ : ∃ o, m[n]? = some o := ⟨m[n], List.getElem?_eq_getElem hl⟩
  have z := s.ob n a o h ho
  cases o with
  | lst ds => exact let ⟨vs, h1, _⟩ := z; ⟨vs, h1⟩
  | dic kvs =>
    unfold isDic at hd
    rw [ho] at hd
    cases hd
theorem Ext.toKp {m : Sto} (x : Ext r H r' H') (s : StoOk K r H m) : Kp r H r' H' where
  pre := x.pre
  tup := fun a vs h => (x.kp a _ h fun q => by
    obtain ⟨o, e, w⟩ := s.isO q
    rw [h] at e
    injection e with e
    exact w.tup vs e.symm).1
  frz := fun a o u h => (x.kp a _ h fun q => by
    obtain ⟨o2, e, w⟩ := s.isO q
    rw [h] at e
    injection e with e
    exact w.frz o u e.symm).1
theorem EnvOk.kp {env : Env} {σ : L2.St} (k : Kp r H r' H') (e : EnvOk K r H env σ) : EnvOk K r' H' env σ :=
  ⟨e.len, fun i d h => let ⟨v, h1, h2⟩ := e.at_ i d h; ⟨v, h1, Rp.kp k d v h2⟩⟩
/-- a new object that is not of the store -/
theorem Ext.new {a : Addr} {o : HO} (h : H a = none) : Ext r H r (upd H a o) :=
  ⟨List.prefix_refl _, fun b u e n => ⟨by rw [upd_ne (ne_of_none e h)]; exact e, n⟩⟩
theorem Kp.new {a : Addr} {o : HO} (h : H a = none) : Kp r H r (upd H a o) :=
  ⟨List.prefix_refl _, fun b u e => by rw [upd_ne (ne_of_none e h)]; exact e, fun b u v e => by rw [upd_ne (ne_of_none e h)]; exact e⟩
theorem ObR.kp {o : O} {a : Addr} (k : Kp r H r' H') (e : H' a = H a) (h : ObR K r H o a) : ObR K r' H' o a := by
  cases o with
  | lst ds => exact let ⟨vs, h1, h2⟩ := h; ⟨vs, e.trans h1, Rps.kp k ds vs h2⟩
  | dic kvs => exact let ⟨xs, h1, h2⟩ := h; ⟨xs, e.trans h1, Paired.mapP h2 fun p q z => ⟨z.1, Rp.kp k _ _ z.2.1, let ⟨v, a, b⟩ := z.2.2; ⟨v, a, Rp.kp k _ v b⟩⟩⟩
theorem StoOk.new {m : Sto} {a : Addr} {o : HO} (s : StoOk K r H m) (h : H a = none) : StoOk K r (upd H a o) m :=
  ⟨s.len, s.nd, fun n b u h1 h2 => ObR.kp (Kp.new h) (by
    obtain ⟨_, e, _⟩ := s.isO (List.mem_of_getElem? h1)
    exact upd_ne (ne_of_none e h)) (s.ob n b u h1 h2)⟩
theorem StoOk.fresh {m : Sto} {a : Addr} (s : StoOk K r H m) (h : H a = none) : a ∉ r := fun q => by
  obtain ⟨_, e, _⟩ := s.isO q
  rw [h] at e
  cases e
/-- a new object of the store -/
theorem StoOk.pushO {m : Sto} {a : Addr} {o : O} (s : StoOk K r H m) (hn : a ∉ r) (hd : ObR K r H o a) : StoOk K (r ++ [a]) H (m ++ [o]) := by
  have k : Kp r H (r ++ [a]) H := ⟨List.prefix_append _ _, fun _ _ h => h, fun _ _ _ h => h⟩
  refine ⟨by simp [s.len], ?_, fun n b o' h1 h2 => ?_⟩
  · rw [List.nodup_append]
    refine ⟨s.nd, by simp, fun x hx y hy e => ?_⟩
    have : y = a := by simpa using hy
    exact hn (this ▸ e ▸ hx)
  · by_cases hl : n < r.length
    · rw [List.getElem?_append_left hl] at h1
      rw [List.getElem?_append_left (by rw [← s.len]; exact hl)] at h2
      exact ObR.kp k rfl (s.ob n b o' h1 h2)
    · rw [List.getElem?_append_right (by omega)] at h1
      rw [List.getElem?_append_right (by rw [← s.len]; omega)] at h2
      have e0 : n - r.length = 0 := by
        by_cases z : n - r.length = 0
        · exact z
        · rw [List.getElem?_eq_none (by simp; omega)] at h1
          cases h1
      rw [e0] at h1
      rw [← s.len, e0] at h2
      have h1' : a = b := by simpa using h1
      have h2' : o = o' := by simpa using h2
      subst h1' h2'
      exact ObR.kp k rfl hd
theorem StoOk.push {m : Sto} {a : Addr} {vs : List V} {ds : List D} (s : StoOk K r H m) (ha : H a = some (.lst vs)) (hn : a ∉ r) (hd : Rps K r H ds vs) : StoOk K (r ++ [a]) H (m ++ [.lst ds]) := s.pushO hn ⟨vs, ha, hd⟩
/-- a store's object changed -/
theorem StoOk.setO {m : Sto} {n : Nat} {a : Addr} {u : HO} {o : O} (s : StoOk K r H m) (ha : r[n]? = some a) (hd : ∀ K' : Kp r H r (upd H a u), ObR K r (upd H a u) o a) : StoOk K r (upd H a u) (m.set n o) ∧ Kp r H r (upd H a u) ∧ Ext r H r (upd H a u) := by
  obtain ⟨ow, hw, w⟩ := s.isO (List.mem_of_getElem? ha)
  have k : Kp r H r (upd H a u) := ⟨List.prefix_refl _, fun b v e => by rw [upd_ne (ne_of e hw (fun z => w.tup v z.symm))]; exact e, fun b v t e => by rw [upd_ne (ne_of e hw (fun z => w.frz v t z.symm))]; exact e⟩
  refine ⟨⟨by simp [s.len], s.nd, fun i b o' h1 h2 => ?_⟩, k, ⟨List.prefix_refl _, fun b o e nb => ⟨(upd_ne (fun z => nb (by rw [z]; exact List.mem_of_getElem? ha))).trans e, nb⟩⟩⟩
  by_cases e : i = n
  · subst e
    rw [ha] at h1
    cases h1
    have hl : i < m.length := by
      rw [← s.len]
      exact (List.getElem?_eq_some_iff.mp ha).1
    rw [List.getElem?_set_self hl] at h2
    cases h2
    exact hd k
  · rw [List.getElem?_set_ne (Ne.symm e)] at h2
    refine ObR.kp k (upd_ne fun z => ?_) (s.ob i b o' h1 h2)
    subst z
    exact e (nodup_at s.nd h1 ha)
theorem StoOk.set {m : Sto} {n : Nat} {a : Addr} {vs : List V} {ds : List D} (s : StoOk K r H m) (ha : r[n]? = some a) (hd : Rps K r H ds vs) : StoOk K r (upd H a (.lst vs)) (m.set n (.lst ds)) ∧ Kp r H r (upd H a (.lst vs)) ∧ Ext r H r (upd H a (.lst vs)) :=
  s.setO ha fun k => ⟨vs, upd_same, Rps.kp k ds vs hd⟩

/-! ### a part's meaning as a reading -/
/-- the written part, what is wanted of an exception (at the names' values), how one lies -/
structure Gd where
  K : Frag
  W : L2.WX
  X : Ex → List Addr → Hp → Value → Option Addr → Prop
abbrev Rel (α β : Type) := List Addr → Hp → α → β → Prop
/-- from a state, a meaning's end leads to what is wanted -/
def Cn {α β : Type} (g : Gd) (T : Rel α β) (σ : L2.St) (env : Env) (r : List Addr) (H : Hp) (x : M α) (m : Sto) (Q : β → Hp → Prop) : Prop :=
  StoOk g.K r H m ∧ EnvOk g.K r H env σ ∧ match x m with
  | .ok a m' => ∀ r' H' b, Ext r H r' H' → StoOk g.K r' H' m' → T r' H' a b → Q b H'
  | .exc e m' => ∀ r' H' c d, Ext r H r' H' → StoOk g.K r' H' m' → g.X e r' H' c d → g.W c d σ H'
  | .bad => False
section
variable {α β γ δ : Type} {g : Gd} {T : Rel α β} {U : Rel γ δ} {σ : L2.St} {env : Env} {x : M α} {f : α → M γ} {m : Sto} {Q Q' : β → Hp → Prop}
theorem Cn.mono (h : Cn g T σ env r H x m Q) (q : ∀ b H', Q b H' → Q' b H') : Cn g T σ env r H x m Q' := by
  obtain ⟨s, e, h⟩ := h
  refine ⟨s, e, ?_⟩
  cases hx : x m with
  | bad =>
    rw [hx] at h
    exact h
  | exc z m' =>
    rw [hx] at h
    exact h
  | ok a m' =>
    rw [hx] at h
    exact fun r' H' b e1 e2 e3 => q b H' (h r' H' b e1 e2 e3)
/-- .. with what is known of the end -/
theorem Cn.bnd {R : δ → Hp → Prop} (h : Cn g U σ env r H (bnd x f) m R) :
    Cn g T σ env r H x m fun b H1 => ∃ r1 a m1, Ext r H r1 H1 ∧ T r1 H1 a b ∧ x m = .ok a m1 ∧ Cn g U σ env r1 H1 (f a) m1 R := by
  obtain ⟨s, e, h⟩ := h
  refine ⟨s, e, ?_⟩
  unfold Dh.bnd at h
  cases hx : x m with
  | bad =>
    rw [hx] at h
    exact h
  | exc z m' =>
    rw [hx] at h
    exact h
  | ok a m1 =>
    rw [hx] at h
    dsimp only at h
    intro r1 H1 b x1 s1 t1
    refine ⟨r1, a, m1, x1, t1, rfl, s1, e.kp (x1.toKp s), ?_⟩
    cases hf : f a m1 with
    | bad =>
      rw [hf] at h
      exact h
    | exc z m' =>
      rw [hf] at h
      exact fun r' H' c d x2 s2 z2 => h r' H' c d (x1.trans x2) s2 z2
    | ok y m2 =>
      rw [hf] at h
      exact fun r' H' c x2 s2 z2 => h r' H' c (x1.trans x2) s2 z2
theorem Cn.here {a : α} {b : β} (h : Cn g T σ env r H (ret a) m Q) (t : T r H a b) : Q b H := h.2.2 r H b (Ext.refl r H) h.1 t
theorem Cn.ofO {o : Option α} (h : Cn g T σ env r H (ofO o) m Q) : ∃ a, o = some a ∧ Cn g T σ env r H (ret a) m Q := by
  cases o with
  | none => exact h.2.2.elim
  | some a => exact ⟨a, rfl, h⟩
theorem Cn.kpE (h : Cn g T σ env r H x m Q) (r' : List Addr) (H' : Hp) (e : Ext r H r' H') : Kp r H r' H' := e.toKp h.1
end
section
variable {α β : Type} {g : Gd} {T : Rel α β} {σ : L2.St} {env : Env} {r : List Addr} {H : Hp} {x : M α} {m : Sto} {Q : β → Hp → Prop}
/-- not a dict's place -/
theorem Cn.nd {n : Nat} (h : Cn g T σ env r H (fun m => if isDic m n then .bad else x m) m Q) : isDic m n = false ∧ Cn g T σ env r H x m Q := by
  obtain ⟨q1, q2, q3⟩ := h
  dsimp only at q3
  cases hd : isDic m n with
  | true =>
    rw [hd] at q3
    exact q3.elim
  | false =>
    rw [hd] at q3
    exact ⟨rfl, q1, q2, q3⟩
end
/-- an expression's -/
def tOf (g : Gd) (n : Env → M D) : L2.TE := fun σ H Q => ∃ r env m, Cn g (Rp g.K) σ env r H (n env) m Q
def tOfs (g : Gd) (n : Env → M (List D)) : L2.TA := fun σ H Q => ∃ r env m, Cn g (Rps g.K) σ env r H (n env) m Q
/-- a test's -/
def tTe (g : Gd) (n : Env → M D) : L2.TT := fun σ H Q => tOf g n σ H fun v H' => ∃ b, v = .bl b ∧ Q b H'
end
end Dh


set_option Elab.async false
set_option linter.all false
set_option maxRecDepth 100000
set_option maxHeartbeats 4000000
/-! DhOrd: the order of tuples of ints and such tuples. -/
namespace Dh
open PySem PySem.Spec PyProof.Rows L2
mutual
theorem dOf_nk : ∀ (d : D) (k : NestedKey), nkOf d = some k → dOf k = d ∧ ntx k = true
  | .non, k, h => by
    cases Option.some.inj h
    exact ⟨rfl, rfl⟩
  | .int i, k, h => by
    cases Option.some.inj h
    exact ⟨rfl, rfl⟩
  | .tup ds, k, h => by
    obtain ⟨ks, h1, rfl⟩ := Option.map_eq_some_iff.mp (show (nksOf ds).map NestedKey.tup = some k from h)
    obtain ⟨e1, e2⟩ := dsOf_nks ds ks h1
    exact ⟨by rw [dOf, e1], by rw [ntx, e2]⟩
  | .bl _, _, h => by cases h
  | .str _, _, h => by cases h
  | .lst _, _, h => by cases h
  | .edict, _, h => by cases h
  | .loc _, _, h => by cases h
theorem dsOf_nks : ∀ (ds : List D) (ks : List NestedKey), nksOf ds = some ks → dsOf ks = ds ∧ ntxs ks = true
  | [], ks, h => by
    cases Option.some.inj h
    exact ⟨rfl, rfl⟩
  | d :: ds, ks, h => by
    obtain ⟨k, h1, h2⟩ := Option.bind_eq_some_iff.mp (show (nkOf d).bind (fun k => (nksOf ds).map (k :: ·)) = some ks from h)
    obtain ⟨ks', h3, rfl⟩ := Option.map_eq_some_iff.mp h2
    obtain ⟨e1, e2⟩ := dOf_nk d k h1
    obtain ⟨e3, e4⟩ := dsOf_nks ds ks' h3
    exact ⟨by rw [dsOf, e1, e3], by rw [ntxs, e2, e4]; rfl⟩
end
/-! ### the order of keys -/
mutual
theorem ltN_irr : ∀ a : NestedKey, ltN a a = false
  | .none => rfl
  | .num i => decide_eq_false (Int.lt_irrefl i)
  | .text _ => rfl
  | .tup ks => ltNs_irr ks
theorem ltNs_irr : ∀ a : List NestedKey, ltNs a a = false
  | [] => rfl
  | a :: as => by rw [ltNs, if_pos rfl, ltNs_irr as]
end
mutual
/-- no text below: all others are told apart -/
theorem ltN_tot : ∀ a b : NestedKey, ntx a = true → ntx b = true → ltN a b = false → ltN b a = false → a = b
  | .none, .none, _, _, _, _ => rfl
  | .num i, .num j, _, _, h, k => by
    have h1 : ¬ i < j := of_decide_eq_false h
    have h2 : ¬ j < i := of_decide_eq_false k
    rw [show i = j by omega]
  | .tup a, .tup b, na, nb, h, k => by rw [ltNs_tot a b na nb h k]
  | .text _, _, n, _, _, _ => by cases n
  | _, .text _, _, n, _, _ => by cases n
  | .none, .num _, _, _, h, _ => by cases h
  | .none, .tup _, _, _, h, _ => by cases h
  | .num _, .none, _, _, _, k => by cases k
  | .num _, .tup _, _, _, h, _ => by cases h
  | .tup _, .none, _, _, _, k => by cases k
  | .tup _, .num _, _, _, _, k => by cases k
theorem ltNs_tot : ∀ a b : List NestedKey, ntxs a = true → ntxs b = true → ltNs a b = false → ltNs b a = false → a = b
  | [], [], _, _, _, _ => rfl
  | [], _ :: _, _, _, h, _ => by cases h
  | _ :: _, [], _, _, _, k => by cases k
  | a :: as, b :: bs, na, nb, h, k => by
    rw [ntxs, Bool.and_eq_true] at na nb
    by_cases e : a = b
    · subst e
      rw [ltNs, if_pos rfl] at h k
      rw [ltNs_tot as bs na.2 nb.2 h k]
    · rw [ltNs, if_neg e] at h
      rw [ltNs, if_neg (Ne.symm e)] at k
      exact (e (ltN_tot a b na.1 nb.1 h k)).elim
end
mutual
theorem ltN_asym : ∀ a b : NestedKey, ltN a b = true → ltN b a = false
  | .none, .none, _ => rfl
  | .num i, .num j, h => by
    have h1 : i < j := of_decide_eq_true h
    exact decide_eq_false (by omega)
  | .tup a, .tup b, h => ltNs_asym a b h
  | .text _, .text _, h => by cases h
  | .text _, .none, h => by cases h
  | .text _, .num _, h => by cases h
  | .text _, .tup _, _ => rfl
  | .none, .num _, _ => rfl
  | .none, .text _, _ => rfl
  | .none, .tup _, _ => rfl
  | .num _, .none, h => by cases h
  | .num _, .text _, _ => rfl
  | .num _, .tup _, _ => rfl
  | .tup _, .none, h => by cases h
  | .tup _, .num _, h => by cases h
  | .tup _, .text _, h => by cases h
theorem ltNs_asym : ∀ a b : List NestedKey, ltNs a b = true → ltNs b a = false
  | [], [], _ => rfl
  | [], _ :: _, _ => rfl
  | _ :: _, [], h => by cases h
  | a :: as, b :: bs, h => by
    by_cases e : a = b
    · subst e
      rw [ltNs, if_pos rfl] at h ⊢
      exact ltNs_asym as bs h
    · rw [ltNs, if_neg e] at h
      rw [ltNs, if_neg (Ne.symm e)]
      exact ltN_asym a b h
end
mutual
theorem ltN_tr : ∀ a b c : NestedKey, ltN a b = true → ltN b c = true → ltN a c = true
  | .num i, .num j, .num k, h, q => by
    have h1 : i < j := of_decide_eq_true h
    have h2 : j < k := of_decide_eq_true q
    exact decide_eq_true (by omega)
  | .tup a, .tup b, .tup c, h, q => ltNs_tr a b c h q
  | .none, .none, _, h, _ => by cases h
  | .none, .num _, .none, _, q => by cases q
  | .none, .text _, .none, _, q => by cases q
  | .none, .tup _, .none, _, q => by cases q
  | .none, .num _, .num _, _, _ => rfl
  | .none, .num _, .text _, _, _ => rfl
  | .none, .num _, .tup _, _, _ => rfl
  | .none, .text _, .num _, _, _ => rfl
  | .none, .text _, .text _, _, _ => rfl
  | .none, .text _, .tup _, _, _ => rfl
  | .none, .tup _, .num _, _, _ => rfl
  | .none, .tup _, .text _, _, _ => rfl
  | .none, .tup _, .tup _, _, _ => rfl
  | .num _, .none, _, h, _ => by cases h
  | .num _, .num _, .none, _, q => by cases q
  | .num _, .num _, .text _, _, _ => rfl
  | .num _, .num _, .tup _, _, _ => rfl
  | .num _, .text _, .none, _, q => by cases q
  | .num _, .text _, .num _, _, q => by cases q
  | .num _, .text _, .text _, _, q => by cases q
  | .num _, .text _, .tup _, _, _ => rfl
  | .num _, .tup _, .none, _, q => by cases q
  | .num _, .tup _, .num _, _, q => by cases q
  | .num _, .tup _, .text _, _, q => by cases q
  | .num _, .tup _, .tup _, _, _ => rfl
  | .text _, .none, _, h, _ => by cases h
  | .text _, .num _, _, h, _ => by cases h
  | .text _, .text _, _, h, _ => by cases h
  | .text _, .tup _, .none, _, q => by cases q
  | .text _, .tup _, .num _, _, q => by cases q
  | .text _, .tup _, .text _, _, q => by cases q
  | .text _, .tup _, .tup _, _, _ => rfl
  | .tup _, .none, _, h, _ => by cases h
  | .tup _, .num _, _, h, _ => by cases h
  | .tup _, .text _, _, h, _ => by cases h
  | .tup _, .tup _, .none, _, q => by cases q
  | .tup _, .tup _, .num _, _, q => by cases q
  | .tup _, .tup _, .text _, _, q => by cases q
theorem ltNs_tr : ∀ a b c : List NestedKey, ltNs a b = true → ltNs b c = true → ltNs a c = true
  | [], [], _, h, _ => by cases h
  | [], _ :: _, [], _, q => by cases q
  | [], _ :: _, _ :: _, _, _ => rfl
  | _ :: _, [], _, h, _ => by cases h
  | _ :: _, _ :: _, [], _, q => by cases q
  | a :: as, b :: bs, c :: cs, h, q => by
    by_cases e : a = b
    · subst e
      rw [ltNs, if_pos rfl] at h
      by_cases e2 : a = c
      · subst e2
        rw [ltNs, if_pos rfl] at q ⊢
        exact ltNs_tr as bs cs h q
      · rw [ltNs, if_neg e2] at q ⊢
        exact q
    · rw [ltNs, if_neg e] at h
      by_cases e2 : b = c
      · subst e2
        rw [ltNs, if_neg e]
        exact h
      · rw [ltNs, if_neg e2] at q
        have z := ltN_tr a b c h q
        by_cases e3 : a = c
        · subst e3
          rw [ltN_irr] at z
          cases z
        · rw [ltNs, if_neg e3]
          exact z
end
/-! ### values that are such keys: ints alone at the leaves -/
mutual
def KIs (h : Heap) : NestedKey → Value → Prop
  | .num i, v => ∃ t, v = .int i t
  | .tup ks, v => ∃ a o vs n, v = .ref a ∧ h.get? a = some o ∧ o.cls = .type "tuple" ∧ o.data = .seq vs n ∧ KIss h ks vs.toList
  | .none, _ => False
  | .text _, _ => False
def KIss (h : Heap) : List NestedKey → List Value → Prop
  | [], vs => vs = []
  | k :: ks, vs => ∃ v w, vs = v :: w ∧ KIs h k v ∧ KIss h ks w
end
mutual
theorem KIs.keeps {h h' : Heap} (kp : ∀ b o, h.get? b = some o → o.cls = .type "tuple" → h'.get? b = some o) : ∀ (k : NestedKey) (v : Value), KIs h k v → KIs h' k v
  | .num _, _, x => x
  | .tup ks, _, ⟨a, o, vs, n, e, h1, h2, h3, h4⟩ => ⟨a, o, vs, n, e, kp a o h1 h2, h2, h3, KIss.keeps kp ks _ h4⟩
  | .none, _, x => x.elim
  | .text _, _, x => x.elim
theorem KIss.keeps {h h' : Heap} (kp : ∀ b o, h.get? b = some o → o.cls = .type "tuple" → h'.get? b = some o) : ∀ (ks : List NestedKey) (vs : List Value), KIss h ks vs → KIss h' ks vs
  | [], _, x => x
  | k :: ks, _, ⟨v, w, e, x, y⟩ => ⟨v, w, e, KIs.keeps kp k v x, KIss.keeps kp ks w y⟩
end
mutual
theorem KIs.nest {h : Heap} : ∀ (k : NestedKey) (v : Value), KIs h k v → NestedIs h k v
  | .num i, _, ⟨t, e⟩ => by
    rw [e]
    exact .int i t
  | .tup ks, _, ⟨a, o, vs, n, e, h1, h2, h3, h4⟩ => by
    rw [e]
    exact .tup h1 h2 h3 (KIss.nest ks _ h4)
  | .none, _, x => x.elim
  | .text _, _, x => x.elim
theorem KIss.nest {h : Heap} : ∀ (ks : List NestedKey) (vs : List Value), KIss h ks vs → NestedAll h ks vs
  | [], _, x => by
    rw [show _ = [] from x]
    exact .nil
  | k :: ks, _, ⟨v, w, e, x, y⟩ => by
    rw [e]
    exact .cons (KIs.nest k v x) (KIss.nest ks w y)
end
mutual
theorem KIs.ntx {h : Heap} : ∀ (k : NestedKey) (v : Value), KIs h k v → Dh.ntx k = true
  | .num _, _, _ => rfl
  | .tup ks, _, ⟨_, _, _, _, _, _, _, _, h4⟩ => KIss.ntx ks _ h4
  | .none, _, x => x.elim
  | .text _, _, x => x.elim
theorem KIss.ntx {h : Heap} : ∀ (ks : List NestedKey) (vs : List Value), KIss h ks vs → Dh.ntxs ks = true
  | [], _, _ => rfl
  | k :: ks, _, ⟨v, w, _, x, y⟩ => by rw [Dh.ntxs, KIs.ntx k v x, KIss.ntx ks w y]; rfl
end
theorem KIss.len {h : Heap} : ∀ {ks : List NestedKey} {vs : List Value}, KIss h ks vs → vs.length = ks.length
  | [], _, x => by rw [show _ = [] from x]; rfl
  | k :: ks, _, ⟨v, w, e, _, y⟩ => by rw [e, List.length_cons, List.length_cons, KIss.len y]
theorem KIss.at_ {h : Heap} : ∀ {ks : List NestedKey} {vs : List Value} {j : Nat} {v : Value}, KIss h ks vs → vs[j]? = some v → ∃ k, ks[j]? = some k ∧ KIs h k v
  | [], _, j, v, x, e => by
    rw [show _ = [] from x] at e
    simp at e
  | k :: ks, _, 0, v, ⟨u, w, e1, x, y⟩, e => by
    rw [e1] at e
    cases e
    exact ⟨k, rfl, x⟩
  | k :: ks, _, j + 1, v, ⟨u, w, e1, x, y⟩, e => by
    rw [e1] at e
    exact KIss.at_ (j := j) y (by simpa using e)
section
variable {X : Cx} {pins : List (Addr × Obj)} {σ : L2.St} {H : Hp} {s : Shared} {r : List Addr}
mutual
theorem Rp.kis (I : Inv X pins σ H s) : ∀ (k : NestedKey) (v : V) (u : Value), okN k k = true → Rp X.K r H (dOf k) v → RelV v u → KIs s.heap k u
  | .num i, v, u, _, h, rv => by
    obtain rfl : v = .int i := h
    obtain ⟨t, rfl⟩ := rv
    exact ⟨t, rfl⟩
  | .tup ks, v, u, n, h, rv => by
    obtain ⟨a, vs, rfl, q, t⟩ := (show ∃ a vs, v = .ref a ∧ SqT X.K H a vs ∧ Rps X.K r H (dsOf ks) vs from h)
    obtain rfl : u = Value.ref a := rv
    obtain ⟨its, rv, ⟨o, h1, h2, m, h3⟩, _⟩ := I.tuple q
    exact ⟨a, o, _, m, rfl, h1, h2, h3, Rps.kis I ks vs its n t rv⟩
  | .none, _, _, n, _, _ => by cases n
  | .text _, _, _, n, _, _ => by cases n
theorem Rps.kis (I : Inv X pins σ H s) : ∀ (ks : List NestedKey) (vs : List V) (us : List Value), okNs ks ks = true → Rps X.K r H (dsOf ks) vs → Vals vs us → KIss s.heap ks us
  | [], vs, us, _, h, rv => by
    obtain rfl : vs = [] := h
    cases rv
    rfl
  | k :: ks, vs, us, n, h, rv => by
    rw [okNs, Bool.and_eq_true] at n
    obtain ⟨v, w, rfl, h1, h2⟩ := (show ∃ v w, vs = v :: w ∧ Rp X.K r H (dOf k) v ∧ Rps X.K r H (dsOf ks) w from h)
    cases rv with
    | cons z zs => exact ⟨_, _, rfl, Rp.kis I k v _ n.1 h1 z, Rps.kis I ks w _ n.2 h2 zs⟩
end
end
/-! ### comparing -/
theorem ltNs_lex : ∀ (xs ys : List NestedKey), Ob.lexAt (fun j => keyEqAt xs ys j) (fun j => ltN (xs.getD j .none) (ys.getD j .none)) (decide (xs.length < ys.length)) 0 (min xs.length ys.length) = ltNs xs ys := by
  have shift : ∀ (e r : Nat → Bool) (z : Bool) (k i : Nat), Ob.lexAt e r z (i + 1) k = Ob.lexAt (fun j => e (j + 1)) (fun j => r (j + 1)) z i k := by
    intro e r z k
    induction k with
    | zero => intro i; rfl
    | succ k ih =>
      intro i
      rw [Ob.lexAt_succ, Ob.lexAt_succ, ih (i + 1)]
  intro xs
  induction xs with
  | nil => intro ys; cases ys <;> simp [Ob.lexAt_zero, ltNs]
  | cons x xs ih =>
    intro ys
    cases ys with
    | nil => simp [Ob.lexAt_zero, ltNs]
    | cons y ys =>
      have e1 : min (x :: xs).length (y :: ys).length = min xs.length ys.length + 1 := by simp only [List.length_cons]; omega
      rw [e1, Ob.lexAt_succ, shift, ltNs]
      have e2 : keyEqAt (x :: xs) (y :: ys) 0 = decide (x = y) := (NestedKey.decide_eq x y).symm
      rw [e2]
      by_cases e : x = y
      · rw [if_pos (decide_eq_true e), if_pos e, ← ih ys]
        simp [keyEqAt]
      · rw [if_neg (by simp [e]), if_neg e]
        rfl
mutual
theorem rcLt : ∀ (x y : NestedKey) (A : Around) (s : Shared) (a b : Value), KIs s.heap x a → KIs s.heap y b → okN x y = true → A.units + x.depth < cLine → Ob.RcOp .Lt A s a b (ltN x y)
  | .num i, .num j, A, s, _, _, ⟨t, e⟩, ⟨t', e'⟩, _, _ => by
    rw [e, e']
    exact Ob.RcOp.lt_int i j t t'
  | .tup xs, .tup ys, A, s, _, _, ⟨a, o, vs, n, e, h1, h2, h3, h4⟩, ⟨a', o', vs', n', e', k1, k2, k3, k4⟩, ok, hu => by
    rw [e, e']
    simp only [NestedKey.depth] at hu
    have R := Ob.RcOp.tuples_lt (A := A) (s := s) (e := fun j => keyEqAt xs ys j) (r := fun j => ltN (xs.getD j .none) (ys.getD j .none)) (⟨o, h1, h2, n, h3⟩ : s.heap.IsTuple a vs) (⟨o', k1, k2, n', k3⟩ : s.heap.IsTuple a' vs') (by omega)
      (fun j j1 j2 => by
        have z := eqAt_keys xs ys A.in1 s vs.toList vs'.toList (KIss.nest xs _ h4) (KIss.nest ys _ k4) (by rw [Around.in1_units]; omega) j (by simpa using j1) (by simpa using j2)
        simpa using z)
      (fun j j1 j2 _ => by
        have z := rcLts xs ys A.in1 s vs.toList vs'.toList h4 k4 ok (by rw [Around.in1_units]; omega) j (by simpa using j1) (by simpa using j2)
        simpa using z)
    have n1 : vs.size = xs.length := by simpa using KIss.len h4
    have n2 : vs'.size = ys.length := by simpa using KIss.len k4
    rw [n1, n2, ltNs_lex] at R
    exact R
  | .none, _, _, _, _, _, x, _, _, _ => x.elim
  | .text _, _, _, _, _, _, x, _, _, _ => x.elim
  | .num _, .none, _, _, _, _, _, x, _, _ => x.elim
  | .num _, .text _, _, _, _, _, _, x, _, _ => x.elim
  | .num _, .tup _, _, _, _, _, _, _, ok, _ => by cases ok
  | .tup _, .none, _, _, _, _, _, x, _, _ => x.elim
  | .tup _, .text _, _, _, _, _, _, x, _, _ => x.elim
  | .tup _, .num _, _, _, _, _, _, _, ok, _ => by cases ok
theorem rcLts : ∀ (xs ys : List NestedKey) (A : Around) (s : Shared) (vs ws : List Value), KIss s.heap xs vs → KIss s.heap ys ws → okNs xs ys = true → A.units + NestedKey.depthAll xs < cLine →
    ∀ j (h1 : j < vs.length) (h2 : j < ws.length), Ob.RcOp .Lt A s vs[j] ws[j] (ltN (xs.getD j .none) (ys.getD j .none))
  | [], _, _, _, _, _, ra, _, _, _, j, h1, _ => by
    rw [show _ = [] from ra] at h1
    exact absurd h1 (Nat.not_lt_zero _)
  | _ :: _, [], _, _, _, _, _, rb, _, _, j, _, h2 => by
    rw [show _ = [] from rb] at h2
    exact absurd h2 (Nat.not_lt_zero _)
  | x :: xs, y :: ys, A, s, _, _, ⟨v, w, e, x1, x2⟩, ⟨v', w', e', y1, y2⟩, ok, hu, j, h1, h2 => by
    subst e e'
    rw [okNs, Bool.and_eq_true] at ok
    simp only [NestedKey.depthAll] at hu
    cases j with
    | zero => exact rcLt x y A s _ _ x1 y1 ok.1 (by omega)
    | succ j => exact rcLts xs ys A s _ _ x2 y2 ok.2 (by omega) j (Nat.lt_of_succ_lt_succ h1) (Nat.lt_of_succ_lt_succ h2)
end
/-- t < u of such tuples -/
theorem op_ltK {X : Cx} {r : List Addr} (hu : X.A.units + 9 < cLine) : OpR X (compareOp .Lt) (fun x y H Q => ∃ (p q : List NestedKey), Rp X.K r H (dOf (.tup p)) x ∧ Rp X.K r H (dOf (.tup q)) y ∧ okNs p p = true ∧ okNs q q = true ∧ okNs p q = true ∧ (NestedKey.tup p).depth ≤ 8 ∧ Q (.bl (ltNs p q)) H) := by
  intro pins s σ H x y v u Q I rx ry h
  obtain ⟨p, q, h1, h2, o1, o2, o3, hd, hq⟩ := h
  have k1 := Rp.kis I (.tup p) x v o1 h1 rx
  have k2 := Rp.kis I (.tup q) y u o2 h2 ry
  have R := rcLt (.tup p) (.tup q) X.A s v u k1 k2 o3 (by omega)
  exact R X.prog X.w X.xe (EP X pins σ Q) ⟨.bl _, H, I, rfl, hq⟩
end Dh


set_option Elab.async false
set_option linter.all false
set_option maxRecDepth 100000
set_option maxHeartbeats 4000000
/-! DhOps: operators and built-in functions do what the own meaning tells. -/
namespace Dh
open PySem PySem.Spec PyProof.Rows L2

theorem PE.weak {X : Cx} {e : Expr} {t t' : L2.TE} (h : PE X e t) (w : ∀ σ H Q, t' σ H Q → t σ H Q) : PE X e t' := ⟨fun pins s σ H Q I q => h.run pins s σ H Q I (w σ H Q q)⟩
theorem PT.weak {X : Cx} {e : Expr} {t t' : L2.TT} (h : PT X e t) (w : ∀ σ H Q, t' σ H Q → t σ H Q) : PT X e t' := ⟨fun pins s σ H Q I q => h.run pins s σ H Q I (w σ H Q q)⟩
theorem PA.weak {X : Cx} {e : List Expr} {t t' : L2.TA} (h : PA X e t) (w : ∀ σ H Q, t' σ H Q → t σ H Q) : PA X e t' := ⟨fun pos pins s σ H Q I q => h.run pos pins s σ H Q I (w σ H Q q)⟩
theorem PS.weak {X : Cx} {e : Stmt} {t t' : L2.TS} (h : PS X e t) (w : ∀ D σ H, t' D σ H → t D σ H) : PS X e t' := ⟨fun pins s σ H D I q => h.run pins s σ H D I (w D σ H q)⟩
theorem PSs.weak {X : Cx} {e : List Stmt} {t t' : L2.TS} (h : PSs X e t) (w : ∀ D σ H, t' D σ H → t D σ H) : PSs X e t' := ⟨fun pins s σ H D I q => h.run pins s σ H D I (w D σ H q)⟩

/-- a two-place operation by its meaning -/
def rOp (g : Gd) (f : Sto → D → D → Option D) : L2.R2 := fun x y H Q => ∃ r m σ env d1 d2, Rp g.K r H d1 x ∧ Rp g.K r H d2 y ∧ Cn g (Rp g.K) σ env r H (fun m => ofO (f m d1 d2) m) m Q
theorem rOp.out {g : Gd} {f : Sto → D → D → Option D} {x y : V} {H : Hp} {Q : VK} (h : rOp g f x y H Q) : ∃ r m σ env d1 d2 d, Rp g.K r H d1 x ∧ Rp g.K r H d2 y ∧ f m d1 d2 = some d ∧ Cn g (Rp g.K) σ env r H (ret d) m Q := by
  obtain ⟨r, m, σ, env, d1, d2, h1, h2, s, e, h⟩ := h
  dsimp only at h
  cases hf : f m d1 d2 with
  | none =>
    rw [hf] at h
    exact h.elim
  | some d =>
    rw [hf] at h
    exact ⟨r, m, σ, env, d1, d2, d, h1, h2, hf, s, e, h⟩
section
variable {g : Gd} {σ : L2.St} {env : Env} {r : List Addr} {H : Hp} {m : Sto} {Q : VK}
/-- the end is a new tuple -/
theorem Cn.tup {ds : List D} {vs : List V} (h : Cn g (Rp g.K) σ env r H (ret (.tup ds)) m Q) (t : Rps g.K r H ds vs) (p : Addr) (hp : H p = none) : Q (.ref p) (upd H p (.tup vs)) :=
  h.2.2 r _ _ (Ext.new hp) (h.1.new hp) ⟨p, vs, rfl, SqT.of upd_same, Rps.kp (Kp.new hp) ds vs t⟩
theorem strLen (s : List Nat) : (⟨s.toArray⟩ : Str).length = s.length := by
  show s.toArray.size = s.length
  simp
theorem strApp (s t : List Nat) : (⟨s.toArray⟩ : Str) ++ ⟨t.toArray⟩ = ⟨(s ++ t).toArray⟩ := by
  show (⟨s.toArray ++ t.toArray⟩ : Str) = ⟨(s ++ t).toArray⟩
  simp
theorem limLe : lim ≤ sizeLine := by rw [sizeLine_eq]; unfold lim; decide
theorem big_lt {i : Int} {n : Nat} (h : big i n = true) : i.natAbs < 2 ^ n := of_decide_eq_true h
end

theorem tuple_mul_one (l : Addr) (items : Array Value) (n : Nat) (dd : Option Addr) (sl : Array (Option Value)) (u : Tok) (hi : items.isEmpty = false) :
    Meets (Builtin.«tuple.__mul__» ⟨[.ref l, .int 1 u], []⟩) (fun _ R s => s.heap.get? l = some { cls := .type "tuple", dict := dd, data := .seq items n, slots := sl } ∧ R (.ok (.ret (Value.ref l))) s) :=
  .of_wp fun prog w A R s h => by
    obtain ⟨hp, gn, dr, tk, os⟩ := s
    obtain ⟨hl, h⟩ := h
    have f1 := AutoSeq1.idx_int
    wp_walk using PySem.AutoSeq1.wpAny_loadPart' hl
    exact ⟨_, rfl, h⟩
section
variable {X : Cx} {g : Gd}
theorem op_bin (hg : g.K = X.K) : ∀ o : Bop, OpR X (binaryOp (match o with | .add => .Add | .sub => .Sub | .mul => .Mult | .fdiv => .FloorDiv | .mod => .Mod | .pow => .Pow)) (rOp g fun _ => bin o) := by
  intro o pins s σ H x y v u Q I rx ry h0
  obtain ⟨r, m, σ', env, d1, d2, d, h1, h2, hf, hC⟩ := h0.out
  clear h0
  unfold bin at hf
  split at hf
  · -- int + int
    cases hf
    exact op_add pins s σ H x y v u Q I rx ry ⟨_, _, h1, h2, hC.here rfl⟩
  · -- text + text
    rename_i a b
    split at hf
    · rename_i hz
      cases hf
      have hl := limLe
      refine op_add_str pins s σ H x y v u Q I rx ry ⟨_, _, h1, h2, ?_, ?_⟩
      · rw [strLen, strLen]; omega
      · rw [strApp]; exact hC.here rfl
    · cases hf
  · -- tuple + tuple
    rename_i a b
    split at hf
    · rename_i hz
      cases hf
      obtain ⟨p, vs, e1, q1, t1⟩ := h1
      obtain ⟨p2, ws, e2, q2, t2⟩ := h2
      have l1 := t1.len
      have l2 := t2.len
      have hl := limLe
      refine op_catA pins s σ H x y v u Q I rx ry ⟨p, p2, vs, ws, e1, e2, hg ▸ q1, hg ▸ q2, by omega, fun z => ?_, fun z z2 => ?_, fun z z2 p' hp => ?_⟩
      · have e : a = [] := List.eq_nil_of_length_eq_zero (by rw [← l1, z]; rfl)
        subst e
        exact hC.here ⟨p2, ws, rfl, q2, t2⟩
      · have e : b = [] := List.eq_nil_of_length_eq_zero (by rw [← l2, z2]; rfl)
        subst e
        rw [List.append_nil] at hC
        exact hC.here ⟨p, vs, rfl, q1, t1⟩
      · exact hC.tup (t1.app t2) p' hp
    · cases hf
  · cases hf
    exact op_sub pins s σ H x y v u Q I rx ry ⟨_, _, h1, h2, hC.here rfl⟩
  · -- int * int
    split at hf
    · rename_i hz
      cases hf
      rw [Bool.and_eq_true] at hz
      exact op_mulW pins s σ H x y v u Q I rx ry ⟨_, _, h1, h2, wide_mul (big_lt hz.1) (big_lt hz.2) (by decide) (by decide) (by decide), hC.here rfl⟩
    · cases hf
  · -- int * bool
    rename_i i b
    cases hf
    have h1' : x = .int i := h1
    have h2' : y = .bl b := h2
    subst h1' h2'
    obtain ⟨t, rfl⟩ := rx
    cases ry
    refine PySem.IntBool.mul_int_bool ⟨.int (if b then i else 0), H, I.tok _, ⟨s.toks, (by cases b <;> simp)⟩, hC.here rfl⟩
  · -- tuple * int
    rename_i a k
    split at hf
    · rename_i hz
      cases hf
      obtain ⟨z1, z2, z3, z4⟩ := hz
      obtain ⟨p, vs, e1, q1, t1⟩ := h1
      have l1 := t1.len
      have hne : vs ≠ [] := fun z => by
        rw [z] at l1
        simp at l1
        omega
      by_cases hk : k = 1
      · subst hk
        obtain ⟨its, rv, ⟨⟨cls, dd, data, sl⟩, ho, hc, n, hd⟩, hs⟩ := I.tuple (hg ▸ q1)
        simp only at hc hd
        subst hc hd
        subst e1
        cases rx
        have h2' : y = .int 1 := h2
        subst h2'
        obtain ⟨t, rfl⟩ := ry
        have hle : its.length = vs.length := rv.length.symm
        have hi : its.toArray.isEmpty = false := by
          cases its with
          | nil => exact absurd (List.eq_nil_of_length_eq_zero hle.symm) hne
          | cons a b => rfl
        refine wpAny_binaryOp_repeat_ref (T := "tuple") (U := "int") (by decide) ⟨_, ho, rfl⟩ (fun s' => typeIs_int s' 1 t) noFill_tuple_mul F.fills_int_mul F.slot_int_rmul repeat_tuple F.slot_int_index.lookup
          (call_meets F.slot_int_rmul (typeIs_int s 1 t) F.entry_int_rmul (F.args_int_rmul_2 _ _) (int_rmul_tuple 1 t p its.toArray n dd sl)
            ⟨ho, rfl, ⟨_, ho, rfl⟩, call_meets F.slot_tuple_mul ⟨_, ho, rfl⟩ F.entry_tuple_mul (F.args_tuple_mul_2 _ _) (tuple_mul_one p its.toArray n dd sl t hi) ⟨ho, ?_⟩⟩)
        refine ⟨.ref p, H, I, rfl, hC.here ?_⟩
        refine ⟨p, vs, rfl, q1, ?_⟩
        simpa using t1
      · exact op_repT pins s σ H x y v u Q I rx ry ⟨p, k, vs, e1, h2, hg ▸ q1, hne, by omega, z2, by omega, fun p' hp => hC.tup (t1.rep _) p' hp⟩
    · cases hf
  · -- int // int
    split at hf
    · rename_i hz
      cases hf
      rw [Bool.and_eq_true] at hz
      exact op_fdivW pins s σ H x y v u Q I rx ry ⟨_, _, h1, h2, wide_div (of_decide_eq_true hz.1) (big_lt hz.2) (by decide) (by decide), hC.here rfl⟩
    · cases hf
  · split at hf
    · rename_i hz
      cases hf
      exact op_mod pins s σ H x y v u Q I rx ry ⟨_, _, h1, h2, hz, hC.here rfl⟩
    · cases hf
  · split at hf
    · rename_i hz
      cases hf
      obtain ⟨z1, z2, z3⟩ := hz
      exact op_pow pins s σ H x y v u Q I rx ry ⟨_, _, h1, h2, ⟨z1, by omega, Nat.lt_trans z3 (by decide)⟩, hC.here rfl⟩
    · cases hf
  · cases hf
end

/-! ### comparisons -/
section
variable {K : Frag} {r : List Addr} {H : Hp} {m : Sto}
/-- as Rp, a list of any standing -/
def Rq (K : Frag) (r : List Addr) (H : Hp) (d : D) (v : V) : Prop := match d with
  | .lst ds => ∃ a vs, v = .ref a ∧ SqL K H a vs ∧ Rps K r H ds vs
  | d => Rp K r H d v
theorem Rq.of {d : D} {v : V} (h : Rp K r H d v) : Rq K r H d v := by
  cases d with
  | lst ds => exact let ⟨a, vs, e, q, t⟩ := h; ⟨a, vs, e, q.sq, t⟩
  | _ => exact h
theorem StoOk.at_ (s : StoOk K r H m) {n : Nat} {a : Addr} {ds : List D} (h : r[n]? = some a) (e : m[n]? = some (.lst ds)) : ∃ vs, H a = some (.lst vs) ∧ Rps K r H ds vs := s.ob n a _ h e
theorem Rq.deref (s : StoOk K r H m) {d : D} {v : V} (h : Rp K r H d v) : Rq K r H (deref m d) v := by
  cases d with
  | loc n =>
    obtain ⟨a, e, q⟩ := h
    cases hm : m[n]? with
    | none =>
      have z : Dh.deref m (.loc n) = .loc n := by
        show (match m[n]? with | some (.lst ds) => D.lst ds | _ => .loc n) = _
        rw [hm]
      rw [z]
      exact ⟨a, e, q⟩
    | some o =>
      cases o with
      | lst ds =>
        have z : Dh.deref m (.loc n) = .lst ds := by
          show (match m[n]? with | some (.lst ds) => D.lst ds | _ => .loc n) = _
          rw [hm]
        rw [z]
        obtain ⟨vs, h1, h2⟩ := s.at_ q hm
        exact ⟨a, vs, e, SqL.of h1, h2⟩
      | dic kvs =>
        have z : Dh.deref m (.loc n) = .loc n := by
          show (match m[n]? with | some (.lst ds) => D.lst ds | _ => .loc n) = _
          rw [hm]
        rw [z]
        exact ⟨a, e, q⟩
  | _ => exact Rq.of h
mutual
theorem Rp.dp : ∀ (d : D) (v : V), Rp K r H d v → d.flat = true → Dp K H v d.py
  | .non, _, h, _ => by
    rw [show _ = V.non from h]
    simp only [D.py]
    exact .non
  | .bl b, _, h, _ => by
    rw [show _ = V.bl b from h]
    simp only [D.py]
    exact .bl b
  | .int i, _, h, _ => by
    rw [show _ = V.int i from h]
    simp only [D.py]
    exact .int i
  | .str x, _, h, _ => by
    rw [show _ = V.str ⟨x.toArray⟩ from h]
    simp only [D.py]
    exact .str _
  | .tup ds, _, ⟨a, vs, e, q, t⟩, f => by
    rw [e]
    simp only [D.py]
    exact .tup q (Rps.dp ds vs t (by simpa only [D.flat] using f))
  | .lst ds, _, ⟨a, vs, e, q, t⟩, f => by
    rw [e]
    simp only [D.py]
    exact .lst q.sq (Rps.dp ds vs t (by simpa only [D.flat] using f))
  | .edict, _, _, f => by simp [D.flat] at f
  | .loc n, _, _, f => by simp [D.flat] at f
theorem Rps.dp : ∀ (ds : List D) (vs : List V), Rps K r H ds vs → D.flats ds = true → DpAll K H vs (D.pys ds)
  | [], _, h, _ => by
    rw [show _ = [] from h]
    simp only [D.pys]
    exact .nil
  | d :: ds, _, ⟨v, w, e, h, t⟩, f => by
    rw [e]
    simp only [D.pys]
    simp only [D.flats, Bool.and_eq_true] at f
    exact .cons (Rp.dp d v h f.1) (Rps.dp ds w t f.2)
end
theorem Rq.dp {d : D} {v : V} (h : Rq K r H d v) (f : d.flat = true) : Dp K H v d.py := by
  cases d with
  | lst ds =>
    obtain ⟨a, vs, e, q, t⟩ := h
    rw [e]
    simp only [D.py]
    exact .lst q (Rps.dp ds vs t (by simpa only [D.flat] using f))
  | _ => exact Rp.dp (r := r) _ _ h f
end
section
variable {X : Cx} {g : Gd} {pins : List (Addr × Obj)} {s : Shared} {σ : L2.St} {H : Hp} {x y : V} {v u : Value} {r : List Addr}
theorem eqne_of (neg : Bool) (hg : g.K = X.K) (hu : X.A.units + 64 < cLine) (I : Inv X pins σ H s) (rx : RelV x v) (ry : RelV y u) {d e : D} {b : Bool} (h1 : Rq g.K r H d x) (h2 : Rq g.K r H e y) (hb : eqB d e = some b)
    {Q : VK} (q : Q (.bl (neg ^^ b)) H) : wpAny (model X.prog X.w) X.A (compareOp (if neg then .NotEq else .Eq) v u) (EP X pins σ Q) X.xe s := by
  rw [hg] at h1 h2
  have gen : ∀ {d e : D}, Rq X.K r H d x → Rq X.K r H e y → (if d.shaped && e.shaped then some (PyData.eqv d.py e.py) else none) = some b → wpAny (model X.prog X.w) X.A (compareOp (if neg then .NotEq else .Eq) v u) (EP X pins σ Q) X.xe s := by
    intro d e h1 h2 hb
    split at hb
    · rename_i hs
      cases hb
      rw [Bool.and_eq_true] at hs
      unfold D.shaped at hs
      rw [Bool.and_eq_true, Bool.and_eq_true] at hs
      cases neg with
      | false => exact op_eqD hu pins s σ H x y v u Q I rx ry ⟨_, _, h1.dp hs.1.1, h2.dp hs.2.1, hs.1.2, hs.2.2, by rw [← Bool.false_xor (PyData.eqv d.py e.py)]; exact q⟩
      | true => exact op_neD hu pins s σ H x y v u Q I rx ry ⟨_, _, h1.dp hs.1.1, h2.dp hs.2.1, hs.1.2, hs.2.2, by rw [← Bool.true_xor (PyData.eqv d.py e.py)]; exact q⟩
    · cases hb
  unfold eqB at hb
  split at hb
  · -- [] == a list
    rename_i ds
    cases hb
    obtain ⟨a, vs, rfl, q1, t1⟩ := h1
    obtain ⟨a2, ws, rfl, q2, t2⟩ := h2
    cases rx
    cases ry
    cases ds with
    | nil =>
      have n1 : DpAll X.K H vs [] := by rw [show vs = [] from t1]; exact .nil
      have n2 : DpAll X.K H ws [] := by rw [show ws = [] from t2]; exact .nil
      cases neg with
      | false => exact op_eqD hu pins s σ H (.ref a) (.ref a2) _ _ Q I (show RelV (.ref a) (.ref a) from rfl) (show RelV (.ref a2) (.ref a2) from rfl) ⟨_, _, .lst q1 n1, .lst q2 n2, by decide, by decide, by simpa [PyData.eqv, PyData.eqvAll] using q⟩
      | true => exact op_neD hu pins s σ H (.ref a) (.ref a2) _ _ Q I (show RelV (.ref a) (.ref a) from rfl) (show RelV (.ref a2) (.ref a2) from rfl) ⟨_, _, .lst q1 n1, .lst q2 n2, by decide, by decide, by simpa [PyData.eqv, PyData.eqvAll] using q⟩
    | cons d ds =>
      obtain ⟨its, rv, p1, _⟩ := I.list q1
      obtain ⟨its2, rv2, p2, _⟩ := I.list q2
      have l1 := rv.length
      have l2 := rv2.length
      have l3 := t1.len
      have l4 := t2.len
      have hz : (its.toArray.size != its2.toArray.size) = true := by
        simp only [List.size_toArray, List.length_cons, List.length_nil] at *
        rw [bne_iff_ne]
        omega
      cases neg with
      | false => exact SeqAt.eq_list_lengthsAt p1.isList p2.isList hz (by omega) ⟨.bl _, H, I, rfl, q⟩
      | true => exact SeqAt.RcNeAt.lists_lengths p1.isList p2.isList hz (by omega) X.prog X.w _ _ ⟨.bl _, H, I, rfl, q⟩
  · rename_i d ds
    cases hb
    obtain ⟨a, vs, rfl, q1, t1⟩ := h1
    obtain ⟨a2, ws, rfl, q2, t2⟩ := h2
    cases rx
    cases ry
    obtain ⟨its, rv, p1, _⟩ := I.list q1
    obtain ⟨its2, rv2, p2, _⟩ := I.list q2
    have l1 := rv.length
    have l2 := rv2.length
    have l3 := t1.len
    have l4 := t2.len
    have hz : (its.toArray.size != its2.toArray.size) = true := by
      simp only [List.size_toArray, List.length_cons, List.length_nil] at *
      rw [bne_iff_ne]
      omega
    cases neg with
    | false => exact SeqAt.eq_list_lengthsAt p1.isList p2.isList hz (by omega) ⟨.bl _, H, I, rfl, q⟩
    | true => exact SeqAt.RcNeAt.lists_lengths p1.isList p2.isList hz (by omega) X.prog X.w _ _ ⟨.bl _, H, I, rfl, q⟩
  · rename_i ds
    cases hb
    obtain ⟨a, vs, rfl, q1, t1⟩ := h1
    obtain ⟨a2, ws, rfl, q2, t2⟩ := h2
    cases rx
    cases ry
    obtain ⟨its, rv, p1, _⟩ := I.tuple q1
    obtain ⟨its2, rv2, p2, _⟩ := I.tuple q2
    have l1 := rv.length
    have l2 := rv2.length
    have l3 := t1.len
    have l4 := t2.len
    simp only [List.length_nil] at l3
    have z : its.length = 0 := by omega
    have e : ((List.range (min its.toArray.size its2.toArray.size)).all (fun _ => true) && its.toArray.size == its2.toArray.size) = ds.isEmpty := by
      rw [List.size_toArray, List.size_toArray, z]
      cases ds with
      | nil =>
        have z2 : its2.length = 0 := by
          rw [List.length_nil] at l4
          omega
        rw [z2]
        simp
      | cons d ds =>
        have z2 : its2.length ≠ 0 := by
          rw [List.length_cons] at l4
          omega
        have q0 : (0 == its2.length) = false := beq_eq_false_iff_ne.mpr (by omega)
        rw [q0, Bool.and_false]
        rfl
    have p1' : s.heap.IsTuple a its.toArray := p1
    have p2' : s.heap.IsTuple a2 its2.toArray := p2
    cases neg with
    | false => exact SeqAt.eq_tupleAt (e := fun _ => true) p1' p2' (by omega) (fun j h1 h2 => absurd (Nat.lt_min.mpr ⟨h1, h2⟩) (by simp [z])) ⟨.bl _, H, I, rfl, by rw [e]; simpa using q⟩
    | true => exact SeqAt.RcNeAt.tuples (e := fun _ => true) p1' p2' (by omega) (fun j h1 h2 => absurd (Nat.lt_min.mpr ⟨h1, h2⟩) (by simp [z])) X.prog X.w _ _ ⟨.bl _, H, I, rfl, by rw [e]; simpa using q⟩
  · rename_i d ds
    cases hb
    obtain ⟨a, vs, rfl, q1, t1⟩ := h1
    obtain ⟨a2, ws, rfl, q2, t2⟩ := h2
    cases rx
    cases ry
    obtain ⟨its, rv, p1, _⟩ := I.tuple q1
    obtain ⟨its2, rv2, p2, _⟩ := I.tuple q2
    have l1 := rv.length
    have l2 := rv2.length
    have l3 := t1.len
    have l4 := t2.len
    simp only [List.length_nil, List.length_cons] at l3 l4
    have z : its2.length = 0 := by omega
    have e : ((List.range (min its.toArray.size its2.toArray.size)).all (fun _ => true) && its.toArray.size == its2.toArray.size) = false := by
      rw [List.size_toArray, List.size_toArray, z]
      have z2 : its.length ≠ 0 := by omega
      have q0 : (its.length == 0) = false := beq_eq_false_iff_ne.mpr (by omega)
      rw [q0, Bool.and_false]
    have p1' : s.heap.IsTuple a its.toArray := p1
    have p2' : s.heap.IsTuple a2 its2.toArray := p2
    cases neg with
    | false => exact SeqAt.eq_tupleAt (e := fun _ => true) p1' p2' (by omega) (fun j h1 h2 => absurd (Nat.lt_min.mpr ⟨h1, h2⟩) (by simp [z])) ⟨.bl _, H, I, rfl, by rw [e]; simpa using q⟩
    | true => exact SeqAt.RcNeAt.tuples (e := fun _ => true) p1' p2' (by omega) (fun j h1 h2 => absurd (Nat.lt_min.mpr ⟨h1, h2⟩) (by simp [z])) X.prog X.w _ _ ⟨.bl _, H, I, rfl, by rw [e]; simpa using q⟩
  · rename_i c1 c2
    cases hb
    have e1 : x = .str ⟨c1.toArray⟩ := h1
    have e2 : y = .str ⟨c2.toArray⟩ := h2
    subst e1
    subst e2
    obtain ⟨t1, rfl⟩ := rx
    obtain ⟨t2, rfl⟩ := ry
    have e3 : ((⟨c1.toArray⟩ : Str).cps.toList == (⟨c2.toArray⟩ : Str).cps.toList) = decide (c1 = c2) := by
      show (c1 == c2) = decide (c1 = c2)
      by_cases h : c1 = c2
      · rw [decide_eq_true h, h]
        exact beq_self_eq_true c2
      · rw [decide_eq_false h]
        exact beq_eq_false_iff_ne.mpr h
    have e4 : ((⟨c1.toArray⟩ : Str).cps.toList != (⟨c2.toArray⟩ : Str).cps.toList) = !decide (c1 = c2) := by
      show (!((⟨c1.toArray⟩ : Str).cps.toList == (⟨c2.toArray⟩ : Str).cps.toList)) = _
      rw [e3]
    cases neg with
    | false => exact P.eq_str ⟨.bl _, H, I, rfl, by rw [e3]; simpa using q⟩
    | true => exact P.ne_str ⟨.bl _, H, I, rfl, by rw [e4]; simpa using q⟩
  · exact gen h1 h2 hb

/-- x in y, x not in y -/
theorem in_of (neg : Bool) (hg : g.K = X.K) (hu : X.A.units + 65 < cLine) (I : Inv X pins σ H s) (rx : RelV x v) (ry : RelV y u) {d e : D} {ds : List D} {m : Sto} (S : StoOk g.K r H m) (h1 : Rp g.K r H d x) (h2 : Rp g.K r H e y)
    (hd : seqOf m e = some ds) (c1 : d.shaped = true) (c2 : (D.lst ds).shaped = true) {Q : VK} (q : Q (.bl (neg ^^ ds.any fun z => PyData.eqv z.py d.py)) H) :
    wpAny (model X.prog X.w) X.A (compareOp (if neg then .NotIn else .In) v u) (EP X pins σ Q) X.xe s := by
  rw [hg] at h1 h2 S
  have key : ∀ ds : List D, ((D.pys ds).any fun z => PyData.eqv z d.py) = ds.any fun z => PyData.eqv z.py d.py := by
    intro ds
    induction ds with
    | nil => simp [D.pys]
    | cons z zs ih => simp [D.pys, ih]
  unfold D.shaped at c1 c2
  rw [Bool.and_eq_true] at c1 c2
  simp only [D.flat, D.py] at c2
  have cl := SeqAt.canLay_of_shaped c2.2
  simp only [PyData.canLay0] at cl
  have cd := SeqAt.canLay_of_shaped c1.2
  have hr := PyProof.Rows.room_in_shaped (xs := D.pys ds) c1.2 hu
  obtain ⟨bs, r1⟩ := Dp.reads I _ _ _ (h1.dp d x c1.1) rx
  have two : (∃ a vs, y = .ref a ∧ SqL X.K H a vs ∧ Rps X.K r H ds vs) ∨ (∃ a vs, y = .ref a ∧ SqT X.K H a vs ∧ Rps X.K r H ds vs) := by
    cases e with
    | tup es =>
      have z : es = ds := Option.some.inj hd
      subst z
      exact .inr h2
    | lst es =>
      have z : es = ds := Option.some.inj hd
      subst z
      obtain ⟨a, vs, e, q, t⟩ := h2
      exact .inl ⟨a, vs, e, q.sq, t⟩
    | loc n =>
      obtain ⟨a, e, qn⟩ := h2
      have hd' : (match m[n]? with | some (.lst ds) => some ds | _ => none) = some ds := hd
      cases hm : m[n]? with
      | none =>
        rw [hm] at hd'
        cases hd'
      | some o =>
        cases o with
        | lst es =>
          rw [hm] at hd'
          have z : es = ds := Option.some.inj hd'
          subst z
          obtain ⟨vs, h1, h2⟩ := S.at_ qn hm
          exact .inl ⟨a, vs, e, SqL.of h1, h2⟩
        | dic kvs =>
          rw [hm] at hd'
          cases hd'
    | _ => cases hd
  rcases two with ⟨a, vs, rfl, hq, t⟩ | ⟨a, vs, rfl, hq, t⟩
  · obtain ⟨as, r2⟩ := Dp.reads I (.list (D.pys ds)) (.ref a) u (.lst hq (Rps.dp ds vs t c2.1)) ry
    cases neg with
    | false => exact SeqAt.in_list_reads r2 r1 cl cd hr ⟨.bl _, H, I, rfl, by rw [key]; simpa using q⟩
    | true => exact SeqAt.notIn_list_reads r2 r1 cl cd hr ⟨.bl _, H, I, rfl, by rw [key]; simpa using q⟩
  · obtain ⟨as, r2⟩ := Dp.reads I (.tuple (D.pys ds)) (.ref a) u (.tup hq (Rps.dp ds vs t c2.1)) ry
    cases neg with
    | false => exact SeqAt.in_tuple_reads r2 r1 cl cd hr ⟨.bl _, H, I, rfl, by rw [key]; simpa using q⟩
    | true => exact SeqAt.notIn_tuple_reads r2 r1 cl cd hr ⟨.bl _, H, I, rfl, by rw [key]; simpa using q⟩
def copOf : Cop → CmpOp
  | .eq => .Eq | .ne => .NotEq | .lt => .Lt | .le => .LtE | .gt => .Gt | .ge => .GtE | .isin => .In | .notin => .NotIn | .isN => .Is | .isnotN => .IsNot
theorem chrIn_eq (c : Nat) (t : List Nat) : decide (c ∈ (⟨t.toArray⟩ : Str).cps.toList) = chrIn c t := by
  unfold chrIn
  rw [Bool.eq_iff_iff]
  simp
theorem op_cmp (hg : g.K = X.K) (hu : X.A.units + 65 < cLine) (o : Cop) : OpR X (compareOp (copOf o)) (rOp g fun m => cmp m o) := by
  intro pins s σ H x y v u Q I rx ry h0
  obtain ⟨r, m, σ', env, d1, d2, d, h1, h2, hf, hC⟩ := h0.out
  clear h0
  unfold cmp at hf
  split at hf
  · -- ==
    unfold eqD at hf
    obtain ⟨b, hb, e⟩ := Option.map_eq_some_iff.mp hf
    subst e
    exact eqne_of false hg (by omega) I rx ry (Rq.deref hC.1 h1) (Rq.deref hC.1 h2) hb (by rw [Bool.false_xor]; exact hC.here rfl)
  · unfold neD at hf
    obtain ⟨b, hb, e⟩ := Option.map_eq_some_iff.mp hf
    subst e
    exact eqne_of true hg (by omega) I rx ry (Rq.deref hC.1 h1) (Rq.deref hC.1 h2) hb (by rw [Bool.true_xor]; exact hC.here rfl)
  · cases hf
    exact op_lt pins s σ H x y v u Q I rx ry ⟨_, _, h1, h2, hC.here rfl⟩
  · unfold ltT at hf
    obtain ⟨p, hp, hf⟩ := Option.bind_eq_some_iff.mp hf
    obtain ⟨q, hq, hf⟩ := Option.bind_eq_some_iff.mp hf
    split at hf
    · rename_i hc
      cases hf
      simp only [Bool.and_eq_true, decide_eq_true_eq] at hc
      have e1 := (dsOf_nks _ _ hp).1
      have e2 := (dsOf_nks _ _ hq).1
      exact op_ltK (r := r) (by omega) pins s σ H x y v u Q I rx ry ⟨p, q, by rw [dOf, e1, ← hg]; exact h1, by rw [dOf, e2, ← hg]; exact h2, hc.1.1.1, hc.1.1.2, hc.1.2, hc.2, hC.here rfl⟩
    · cases hf
  · cases hf
    exact op_le pins s σ H x y v u Q I rx ry ⟨_, _, h1, h2, hC.here rfl⟩
  · cases hf
    exact op_gt pins s σ H x y v u Q I rx ry ⟨_, _, h1, h2, hC.here rfl⟩
  · cases hf
    exact op_ge pins s σ H x y v u Q I rx ry ⟨_, _, h1, h2, hC.here rfl⟩
  · cases hf
    exact op_in_sign pins s σ H x y v u Q I rx ry ⟨_, _, h1, h2, by rw [chrIn_eq]; exact hC.here rfl⟩
  · cases hf
    exact op_notIn_sign pins s σ H x y v u Q I rx ry ⟨_, _, h1, h2, by rw [chrIn_eq]; exact hC.here rfl⟩
  · cases hf
    have e : x = .non := h1
    subst e
    exact op_isN pins s σ H _ y v u Q I rx ry ⟨h2, hC.here rfl⟩
  · cases hf
    rename_i i
    have e : x = .int i := h1
    subst e
    exact op_isN pins s σ H _ y v u Q I rx ry ⟨h2, hC.here rfl⟩
  · cases hf
    rename_i i
    have e : x = .str ⟨i.toArray⟩ := h1
    subst e
    exact op_isN pins s σ H _ y v u Q I rx ry ⟨h2, hC.here rfl⟩
  · cases hf
    obtain ⟨a, vs, e, _⟩ := h1
    subst e
    exact op_isN pins s σ H _ y v u Q I rx ry ⟨h2, hC.here rfl⟩
  · cases hf
    have e : x = .non := h1
    subst e
    exact op_notN pins s σ H _ y v u Q I rx ry ⟨h2, hC.here rfl⟩
  · cases hf
    rename_i i
    have e : x = .int i := h1
    subst e
    exact op_notN pins s σ H _ y v u Q I rx ry ⟨h2, hC.here rfl⟩
  · cases hf
    rename_i i
    have e : x = .str ⟨i.toArray⟩ := h1
    subst e
    exact op_notN pins s σ H _ y v u Q I rx ry ⟨h2, hC.here rfl⟩
  · cases hf
    obtain ⟨a, vs, e, _⟩ := h1
    subst e
    exact op_notN pins s σ H _ y v u Q I rx ry ⟨h2, hC.here rfl⟩
  · split at hf
    · rename_i ds hs
      split at hf
      · rename_i hc
        cases hf
        rw [Bool.and_eq_true] at hc
        exact in_of false hg hu I rx ry hC.1 h1 h2 hs hc.1 hc.2 (by rw [Bool.false_xor]; exact hC.here rfl)
      · cases hf
    · cases hf
  · split at hf
    · rename_i ds hs
      split at hf
      · rename_i hc
        cases hf
        rw [Bool.and_eq_true] at hc
        exact in_of true hg hu I rx ry hC.1 h1 h2 hs hc.1 hc.2 (by rw [Bool.true_xor]; exact hC.here rfl)
      · cases hf
    · cases hf
  · cases hf
end
end Dh


set_option Elab.async false
set_option linter.all false
set_option maxRecDepth 100000
set_option maxHeartbeats 4000000
/-! DhOps2: new lists, subscripts, slices, built-in functions. -/
namespace Dh
open PySem PySem.Spec PyProof.Rows L2

/-! ### new lists -/
section
variable {K : Frag} {r r' : List Addr} {H H' : Hp} {m m' : Sto}
theorem Ext.gone (x : Ext r H r' H') (s : StoOk K r H m) (s' : StoOk K r' H' m') {p : Addr} (h : H' p = none) : H p = none := by
  cases e : H p with
  | none => rfl
  | some o =>
    by_cases hp : p ∈ r
    · obtain ⟨_, z, _⟩ := s'.isO (x.pre.subset hp)
      rw [h] at z
      cases z
    · rw [(x.kp p o e hp).1] at h
      cases h
/-- a new list, of no store; H0: ahead of it -/
def RfS (K : Frag) (H0 : Hp) : Rel D V := fun r H d v => ∃ ds p vs, d = .lst ds ∧ v = .ref p ∧ H p = some (.lst vs) ∧ p ∉ r ∧ Rps K r H ds vs ∧ H0 p = none
def Rf (K : Frag) (H0 : Hp) : Rel D V := fun r H d v => Rp K r H d v ∨ RfS K H0 r H d v
def tRawS (g : Gd) (n : Env → M D) : L2.TE := fun σ H Q => ∃ r env m, Cn g (RfS g.K H) σ env r H (n env) m Q
def tRaw (g : Gd) (n : Env → M D) : L2.TE := fun σ H Q => ∃ r env m, Cn g (Rf g.K H) σ env r H (n env) m Q
end
section
variable {X : Cx} {pins : List (Addr × Obj)} {σ : L2.St} {H : Hp} {s : Shared}
theorem Inv.frozen {p : Addr} {xs : List V} (I : Inv X pins σ H s) (hp : H p = some (.lst xs)) : ∃ o, Inv X pins σ (upd H p (.frz o (.lst xs))) s := by
  obtain ⟨hz, its, n, rv, e⟩ := I.hok p _ hp
  have nb : ∀ b, H b = none → b ≠ p := fun b hb z => by rw [z, hp] at hb; cases hb
  have no : ∀ b o, H b = some o → (∀ ys, o ≠ .lst ys) → b ≠ p := fun b o hb hn z => by
    rw [z, hp] at hb
    cases hb
    exact hn xs rfl
  refine ⟨{ cls := .type "list", data := .seq its.toArray n }, I.ok, I.os, I.bare, ⟨I.base.keep, I.base.slot, fun b o h1 h2 h3 => ?_, I.base.there, fun b ys h => ?_, fun b o u h => ?_, fun b ps h => ?_⟩, I.loc, I.cell, ?_, fun x c h => ?_, fun q hq => ?_, fun b u q => ?_, I.len⟩
  · have z := I.base.free b o h1 h2 h3
    rw [upd_ne (nb b z)]
    exact z
  · have z := I.base.tups b ys h
    rw [upd_ne (no b _ z (fun _ w => by cases w))]
    exact z
  · have z := I.base.frzs b o u h
    rw [upd_ne (no b _ z (fun _ w => by cases w))]
    exact z
  · obtain ⟨more, z⟩ := I.base.tbls b ps h
    exact ⟨more, by rw [upd_ne (no b _ z (fun _ w => by cases w))]; exact z⟩
  · rw [upd_ne (nb _ I.free)]
    exact I.free
  · rw [upd_ne (nb _ (I.freeC x c h))]
    exact I.freeC x c h
  · obtain ⟨h1, h2, h3⟩ := I.pin q hq
    exact ⟨h1, by rw [upd_ne (nb _ h2)]; exact h2, h3⟩
  · by_cases hb : b = p
    · subst hb
      rw [upd_same] at q
      cases q
      exact ⟨e, hz, its, n, rv, e⟩
    · rw [upd_ne hb] at q
      refine (I.hok b u q).stay (fun _ _ _ z => z) (fun c z => ?_) fun c ys z => ?_
      · rw [upd_ne (no c _ z (fun _ w => by cases w))]
        exact z
      · rw [upd_ne (no c _ z (fun _ w => by cases w))]
        exact z
end
section
variable {K : Frag} {r : List Addr} {H : Hp} {m : Sto}
/-- a list that nobody else knows is locked -/
theorem Kp.lock {p : Addr} {vs : List V} {o : Obj} (h : H p = some (.lst vs)) : Kp r H r (upd H p (.frz o (.lst vs))) :=
  ⟨List.prefix_refl _, fun a w e => by rw [upd_ne (ne_of e h (by intro z; cases z))]; exact e, fun a o' w e => by rw [upd_ne (ne_of e h (by intro z; cases z))]; exact e⟩
theorem StoOk.lock {p : Addr} {vs : List V} {o : Obj} (s : StoOk K r H m) (h : H p = some (.lst vs)) (hp : p ∉ r) : StoOk K r (upd H p (.frz o (.lst vs))) m :=
  ⟨s.len, s.nd, fun n b u h1 h2 => ObR.kp (Kp.lock h) (upd_ne fun z => hp (by rw [← z]; exact List.mem_of_getElem? h1)) (s.ob n b u h1 h2)⟩
theorem Ext.lock {r0 : List Addr} {H0 : Hp} {p : Addr} {vs : List V} {o : Obj} (x : Ext r0 H0 r H) (h0 : H0 p = none) : Ext r0 H0 r (upd H p (.frz o (.lst vs))) :=
  ⟨x.pre, fun a u e n => ⟨by rw [upd_ne (ne_of_none e h0)]; exact (x.kp a u e n).1, (x.kp a u e n).2⟩⟩
end
/-- what makes a new list, as a value -/
theorem pe_freeze {X : Cx} {g : Gd} {e : Expr} {n : Env → M D} (h : PE X e (tRaw g n)) : PE X e (tOf g n) := by
  refine ⟨fun pins s σ H Q I ⟨r, env, m, c⟩ => ?_⟩
  refine thn (h.run pins s σ H (fun v H' => Q v H' ∨ ∃ p vs, v = .ref p ∧ H' p = some (.lst vs) ∧ ∀ o, Q (.ref p) (upd H' p (.frz o (.lst vs)))) I ⟨r, env, m, c.1, c.2.1, ?_⟩) fun u s' ⟨v, H', I', rv, q⟩ => ?_
  · have c3 := c.2.2
    cases hx : n env m with
    | bad =>
      rw [hx] at c3
      exact c3
    | exc z m' =>
      rw [hx] at c3
      exact c3
    | ok a m' =>
      rw [hx] at c3
      intro r' H' b x s' t
      rcases t with t | ⟨ds, p, vs, rfl, rfl, hp, hn, t, h0⟩
      · exact .inl (c3 r' H' b x s' t)
      · refine .inr ⟨p, vs, rfl, hp, fun o => c3 r' _ _ (x.lock h0) (s'.lock hp hn) ⟨p, vs, rfl, .inl ⟨o, upd_same⟩, Rps.kp (Kp.lock hp) ds vs t⟩⟩
  · rcases q with q | ⟨p, vs, rfl, hp, q⟩
    · exact ⟨v, H', I', rv, q⟩
    · obtain ⟨o, I2⟩ := Dh.Inv.frozen I' hp
      exact ⟨.ref p, _, I2, rv, q o⟩
theorem tRaw.ofS {X : Cx} {g : Gd} {e : Expr} {n : Env → M D} (h : PE X e (tRawS g n)) : PE X e (tRaw g n) :=
  PE.weak h fun σ H Q ⟨r, env, m, c⟩ => ⟨r, env, m, c.1, c.2.1, by
    have c3 := c.2.2
    cases hx : n env m with
    | bad =>
      rw [hx] at c3
      exact c3
    | exc z m' =>
      rw [hx] at c3
      exact c3
    | ok a m' =>
      rw [hx] at c3
      exact fun r' H' b x s' t => c3 r' H' b x s' (.inr t)⟩
/-- .. put into the store -/
theorem pe_new {X : Cx} {g : Gd} {e : Expr} {n : Env → M D} (h : PE X e (tRawS g n)) : PE X e (tOf g fun env => bnd (n env) fun d => match d with
    | .lst ds => alloc ds
    | _ => bad) := by
  refine PE.weak h fun σ H Q ⟨r, env, m, c⟩ => ⟨r, env, m, c.1, c.2.1, ?_⟩
  have c3 := c.2.2
  dsimp only [Dh.bnd] at c3
  cases hx : n env m with
  | bad =>
    rw [hx] at c3
    exact c3
  | exc z m' =>
    rw [hx] at c3
    exact c3
  | ok a m' =>
    rw [hx] at c3
    intro r' H' b x s' t
    obtain ⟨ds, p, vs, rfl, rfl, hp, hn, t, h0⟩ := t
    have c4 : ∀ r' H' b, Ext r H r' H' → StoOk g.K r' H' (m' ++ [.lst ds]) → Rp g.K r' H' (.loc m'.length) b → Q b H' := c3
    refine c4 (r' ++ [p]) H' (.ref p) ⟨x.pre.trans (List.prefix_append _ _), fun a o e1 e2 => ?_⟩ (s'.push hp hn t) ⟨p, rfl, ?_⟩
    · obtain ⟨z1, z2⟩ := x.kp a o e1 e2
      refine ⟨z1, fun q => ?_⟩
      rcases List.mem_append.mp q with q | q
      · exact z2 q
      · have z : a = p := by simpa using q
        rw [z, h0] at e1
        cases e1
    · rw [← s'.len]
      simp
end Dh


set_option Elab.async false
set_option linter.all false
set_option maxRecDepth 100000
set_option maxHeartbeats 4000000
/-! DhKey: dicts whose keys are tuples: what their keys are, reading, writing, a new one. -/
namespace Dh
open PySem PySem.Spec PyProof.Rows L2
mutual
/-- a key's hash is the same everywhere -/
theorem hash_ntx (w w' : World) : ∀ k : NestedKey, ntx k = true → k.hash w = k.hash w'
  | .none, _ => rfl
  | .num _, _ => rfl
  | .text _, h => by cases h
  | .tup ks, h => by rw [NestedKey.hash, NestedKey.hash, hashes_ntx w w' ks h]
theorem hashes_ntx (w w' : World) : ∀ ks : List NestedKey, ntxs ks = true → NestedKey.hashes w ks = NestedKey.hashes w' ks
  | [], _ => rfl
  | k :: ks, h => by
    rw [ntxs, Bool.and_eq_true] at h
    rw [NestedKey.hashes, NestedKey.hashes, hash_ntx w w' k h.1, hashes_ntx w w' ks h.2]
end
theorem entry_ntx (P P' : Program) (w w' : World) (x : DEnt) (h : ntx x.1 = true) : entryOfKey (nestedKind P w) x = entryOfKey (nestedKind P' w') x := by
  unfold entryOfKey
  rw [show (nestedKind P w).hash x.1 = (nestedKind P' w').hash x.1 from hash_ntx w w' x.1 h]
section
variable {X : Cx} {pins : List (Addr × Obj)} {σ : L2.St} {H : Hp} {s : Shared} {r : List Addr}
mutual
/-- what tells a key is this key -/
theorem Rp.nest (I : Inv X pins σ H s) : ∀ (k : NestedKey) (v : V) (u : Value), ntx k = true → Rp X.K r H (dOf k) v → RelV v u → NestedIs s.heap k u
  | .none, v, u, _, h, rv => by
    obtain rfl : v = .non := h
    obtain rfl : u = Value.none := rv
    exact .none
  | .num i, v, u, _, h, rv => by
    obtain rfl : v = .int i := h
    obtain ⟨t, rfl⟩ := rv
    exact .int i t
  | .text _, _, _, n, _, _ => by cases n
  | .tup ks, v, u, n, h, rv => by
    obtain ⟨a, vs, rfl, q, t⟩ := (show ∃ a vs, v = .ref a ∧ SqT X.K H a vs ∧ Rps X.K r H (dsOf ks) vs from h)
    obtain rfl : u = Value.ref a := rv
    obtain ⟨its, rv, ⟨o, h1, h2, m, h3⟩, _⟩ := I.tuple q
    exact .tup h1 h2 h3 (Rps.nest I ks vs its n t rv)
theorem Rps.nest (I : Inv X pins σ H s) : ∀ (ks : List NestedKey) (vs : List V) (us : List Value), ntxs ks = true → Rps X.K r H (dsOf ks) vs → Vals vs us → NestedAll s.heap ks us
  | [], vs, us, _, h, rv => by
    obtain rfl : vs = [] := h
    cases rv
    exact .nil
  | k :: ks, vs, us, n, h, rv => by
    rw [ntxs, Bool.and_eq_true] at n
    obtain ⟨v, w, rfl, h1, h2⟩ := (show ∃ v w, vs = v :: w ∧ Rp X.K r H (dOf k) v ∧ Rps X.K r H (dsOf ks) w from h)
    cases rv with
    | cons z zs => exact .cons (Rp.nest I k v _ n.1 h1 z) (Rps.nest I ks w _ n.2 h2 zs)
end
/-- a dict of the store is one of the layer's -/
theorem DcR.dict {a : Addr} {xs : List DEnt} {kvs : List (NestedKey × D)} (I : Inv X pins σ H s) (e : H a = some (DcO a xs)) (p : Paired (DcP X.K r H) kvs xs) :
    (a == sysModules) = false ∧ (∀ x ∈ xs, ntx x.1 = true ∧ x.1.depth ≤ 8) ∧ xs.length ≤ sizeLine ∧ s.heap.DictOfH (nestedKind X.prog X.w) a xs := by
  obtain ⟨⟨h1, h2, h3, h4, o, es, ep, h5, h6, h7, h8⟩, _⟩ := (show ObjOk X.prog X.w H s.heap a (DcO a xs) from I.hok a _ e)
  refine ⟨h1, h2, h3, o, es, ep, h5, h6, h7, h8 X.prog X.w, fun x hx => ?_, h4⟩
  have all : ∀ {l : List (NestedKey × D)} {m : List DEnt}, Paired (DcP X.K r H) l m → ∀ x ∈ m, Rp X.K r H (dOf x.1) (.ref x.2.1) := by
    intro l m q
    induction q with
    | nil => intro x hx; exact nomatch hx
    | @cons p q ps qs hq t ih =>
      intro x hx
      rcases List.mem_cons.mp hx with e | hx
      · subst e
        rw [← hq.1]
        exact hq.2.1
      · exact ih x hx
  obtain ⟨z1, z2⟩ := h2 x hx
  exact ⟨Rp.nest I x.1 _ _ z1 (all p x hx) rfl, z2⟩
end
/-! ### looking up, putting -/
section
variable {K : Frag} {r : List Addr} {H : Hp}
theorem getK_pos {p : NestedKey × D} {l : List (NestedKey × D)} {k : NestedKey} (e : p.1 = k) : getK (p :: l) k = some p.2 := by simp [getK, List.find?_cons, e]
theorem getK_neg {p : NestedKey × D} {l : List (NestedKey × D)} {k : NestedKey} (e : ¬ p.1 = k) : getK (p :: l) k = getK l k := by simp [getK, List.find?_cons, e]
theorem atKey_pos {p : DEnt} {l : List DEnt} {k : NestedKey} (e : p.1 = k) : atKey (p :: l) k = some p.2 := by simp [atKey, List.find?_cons, e]
theorem atKey_neg {p : DEnt} {l : List DEnt} {k : NestedKey} (e : ¬ p.1 = k) : atKey (p :: l) k = atKey l k := by simp [atKey, List.find?_cons, e]
/-- the two look-ups go together -/
theorem DcP.look {kvs : List (NestedKey × D)} {xs : List DEnt} (h : Paired (DcP K r H) kvs xs) (k : NestedKey) :
    (getK kvs k = none ∧ atKey xs k = none) ∨ ∃ d b u v, getK kvs k = some d ∧ atKey xs k = some (b, u) ∧ RelV v u ∧ Rp K r H d v := by
  induction h with
  | nil => exact .inl ⟨rfl, rfl⟩
  | @cons p q ps qs hq t ih =>
    obtain ⟨h1, h2, v, h3, h4⟩ := hq
    by_cases e : p.1 = k
    · exact .inr ⟨p.2, q.2.1, q.2.2, v, getK_pos e, atKey_pos (h1.symm.trans e), h3, h4⟩
    · rw [getK_neg e, atKey_neg (fun z => e (h1.trans z))]
      exact ih
theorem getK_any (k : NestedKey) : ∀ kvs : List (NestedKey × D), (kvs.any fun p => decide (p.1 = k)) = (getK kvs k).isSome
  | [] => rfl
  | p :: l => by
    rw [List.any_cons]
    by_cases e : p.1 = k
    · rw [decide_eq_true e, getK_pos e]
      rfl
    · rw [decide_eq_false e, getK_neg e, Bool.false_or]
      exact getK_any k l
theorem DcP.repl {kvs : List (NestedKey × D)} {xs : List DEnt} (h : Paired (DcP K r H) kvs xs) (k : NestedKey) {d : D} {v : V} {u : Value} (rv : RelV v u) (t : Rp K r H d v) :
    Paired (DcP K r H) (kvs.map fun p => if p.1 = k then (p.1, d) else p) (xs.map (putAt k u)) := by
  induction h with
  | nil => exact .nil
  | @cons p q ps qs hq tt ih =>
    rw [List.map_cons, List.map_cons]
    refine .cons ?_ ih
    obtain ⟨h1, h2, h3⟩ := hq
    unfold putAt
    by_cases e : p.1 = k
    · rw [if_pos e, if_pos (h1.symm.trans e)]
      exact ⟨h1, h2, v, rv, t⟩
    · rw [if_neg e, if_neg (fun z => e (h1.trans z))]
      exact ⟨h1, h2, h3⟩
theorem DcP.put {kvs : List (NestedKey × D)} {xs : List DEnt} (h : Paired (DcP K r H) kvs xs) (k : NestedKey) {b : Addr} {d : D} {v : V} {u : Value} (hb : Rp K r H (dOf k) (.ref b)) (rv : RelV v u) (t : Rp K r H d v) :
    Paired (DcP K r H) (putD kvs k d) (storedH xs k b u) := by
  have e : (kvs.any fun p => decide (p.1 = k)) = (atKey xs k).isSome := by
    rw [getK_any]
    rcases DcP.look h k with ⟨h1, h2⟩ | ⟨_, _, _, _, h1, h2, _⟩ <;> rw [h1, h2] <;> rfl
  unfold putD storedH
  rw [e]
  by_cases q : (atKey xs k).isSome = true
  · rw [if_pos q, if_pos q]
    exact DcP.repl h k rv t
  · rw [if_neg q, if_neg q]
    exact Paired.snoc h ⟨rfl, hb, v, rv, t⟩
theorem stored_all {F : NestedKey → Prop} {xs : List DEnt} {k : NestedKey} {b : Addr} {u : Value} (h : ∀ x ∈ xs, F x.1) (hk : F k) : ∀ x ∈ storedH xs k b u, F x.1 := by
  unfold storedH
  split
  · intro x hx
    obtain ⟨y, hy, rfl⟩ := List.mem_map.mp hx
    unfold putAt
    split <;> exact h y hy
  · intro x hx
    rcases List.mem_append.mp hx with hx | hx
    · exact h x hx
    · obtain rfl : x = (k, b, u) := by simpa using hx
      exact hk
theorem stored_len {xs : List DEnt} {k : NestedKey} {b : Addr} {u : Value} : (storedH xs k b u).length ≤ xs.length + 1 := by
  unfold storedH
  split
  · rw [List.length_map]
    omega
  · rw [List.length_append, List.length_cons, List.length_nil]
    omega
end
section
variable {X : Cx} {pins : List (Addr × Obj)} {σ : L2.St} {H : Hp} {s : Shared} {r : List Addr} {A : Around} {E : Value → Shared → Prop}
/-- d[k], there -/
theorem dc_get {a b : Addr} {k : NestedKey} {kvs : List (NestedKey × D)} {xs : List DEnt} {d : D} {Q : Value → Shared → Prop} (hu : A.in1.units + 8 < cLine) (I : Inv X pins σ H s) (e : H a = some (DcO a xs)) (p : Paired (DcP X.K r H) kvs xs)
    (hk : ntx k = true) (hd : k.depth ≤ 8) (hb : Rp X.K r H (dOf k) (.ref b)) (l : getK kvs k = some d) (h : ∀ v u s', Inv X pins σ H s' → RelV v u → Rp X.K r H d v → Q u s') :
    wpAny (model X.prog X.w) A (getItem (.ref a) (.ref b)) Q E s := by
  obtain ⟨h1, h2, h3, dd⟩ := DcR.dict I e p
  rcases DcP.look p k with ⟨z, _⟩ | ⟨d', c, u, v, g1, g2, g3, g4⟩
  · rw [l] at z
    cases z
  · rw [l] at g1
    cases g1
    exact wpAny_getItem_heap (knd := nestedKind X.prog X.w) (p := (c, u)) hu ⟨Rp.nest I k _ _ hk hb rfl, hd⟩ dd g2 (h v u _ (I.tok _) g3 g4)
/-- d[k] = v -/
theorem dc_set {a b : Addr} {k : NestedKey} {kvs : List (NestedKey × D)} {xs : List DEnt} {v : V} {u : Value} {Q : Unit → Shared → Prop} (hu : A.in1.units + 8 < cLine) (I : Inv X pins σ H s) (e : H a = some (DcO a xs)) (p : Paired (DcP X.K r H) kvs xs)
    (hk : ntx k = true) (hd : k.depth ≤ 8) (hb : Rp X.K r H (dOf k) (.ref b)) (hl : kvs.length < lim) (rv : RelV v u) (h : ∀ xs' s', Inv X pins σ (upd H a (DcO a xs')) s' → xs' = storedH xs k b u → Q () s') :
    wpAny (model X.prog X.w) A (setItem (.ref a) (.ref b) u) Q E s := by
  obtain ⟨h1, h2, h3, dd⟩ := DcR.dict I e p
  have hn : xs.length = kvs.length := (Paired.length p).symm
  have ll := limLe
  refine wpAny_setItem_heap (knd := nestedKind X.prog X.w) (hsz := h3) hu ⟨Rp.nest I k _ _ hk hb rfl, hd⟩ dd fun h' dd' hs => h _ _ ?_ rfl
  obtain ⟨q, es, ep, hq, g2, g3, g4, _, g5⟩ := dd'
  have all := stored_all (F := fun k => ntx k = true ∧ k.depth ≤ 8) (k := k) (b := b) (u := u) h2 ⟨hk, hd⟩
  have len := stored_len (xs := xs) (k := k) (b := b) (u := u)
  refine I.write (x := a) (e := a) (by rw [e]; exact True.intro) (.inl rfl) (fun c z hc q => (hs.2 c hc).trans q) ⟨q, hq⟩ ⟨⟨h1, all, by omega, g5, q, es, ep, hq, g2, g3, fun P w => ?_⟩, ⟨q, hq⟩, ?_⟩
  · rw [g4]
    exact List.map_congr_left fun x hx => entry_ntx X.prog P X.w w x (all x hx).1
  · rintro e1 e2 ⟨z1, z2, z3, z4, o, es, ep, z5, z6⟩ ke
    exact ⟨z1, z2, z3, z4, o, es, ep, ke o z5, z6⟩
end
/-! ### subscripts, stores, a new one -/
section
variable {K : Frag} {r : List Addr} {H : Hp} {m : Sto}
theorem dicOf_at {x : D} {kvs : List (NestedKey × D)} (h : dicOf m x = some kvs) : ∃ n, x = .loc n ∧ m[n]? = some (.dic kvs) := by
  cases x with
  | loc n =>
    refine ⟨n, rfl, ?_⟩
    unfold dicOf at h
    dsimp only at h
    cases hm : m[n]? with
    | none =>
      rw [hm] at h
      cases h
    | some o =>
      rw [hm] at h
      cases o with
      | lst ds => cases h
      | dic l =>
        cases h
        rfl
  | _ => cases h
theorem keyOf_at {x : D} {k : NestedKey} (h : keyOf x = some k) : (∃ ds, x = .tup ds) ∧ dOf k = x ∧ ntx k = true ∧ k.depth ≤ 8 := by
  cases x with
  | tup ds =>
    obtain ⟨ks, h1, h2⟩ := Option.bind_eq_some_iff.mp (show (nksOf ds).bind (fun ks => if (NestedKey.tup ks).depth ≤ 8 then some (NestedKey.tup ks) else none) = some k from h)
    split at h2
    · rename_i h3
      cases h2
      obtain ⟨e1, e2⟩ := dsOf_nks ds ks h1
      exact ⟨⟨ds, rfl⟩, by rw [dOf, e1], by rw [ntx, e2], h3⟩
    · cases h2
  | _ => cases h
theorem StoOk.dic (S : StoOk K r H m) {n : Nat} {a : Addr} {kvs : List (NestedKey × D)} (h : r[n]? = some a) (e : m[n]? = some (.dic kvs)) : ∃ xs, H a = some (DcO a xs) ∧ Paired (DcP K r H) kvs xs := S.ob n a _ h e
end
/-- d[k] by values -/
theorem ix_dic {X : Cx} (hu : X.A.units + 9 < cLine) : IxR X (fun x y H Q => ∃ (r : List Addr) (a b : Addr) (kvs : List (NestedKey × D)) (xs : List DEnt) (k : NestedKey) (d : D), x = .ref a ∧ y = .ref b ∧ H a = some (DcO a xs) ∧ Paired (DcP X.K r H) kvs xs ∧ ntx k = true ∧ k.depth ≤ 8 ∧ Rp X.K r H (dOf k) (.ref b) ∧ getK kvs k = some d ∧
    ∀ v, Rp X.K r H d v → Q v H) := by
  intro value slice pins s σ H x y v u Q I rx ry h hs
  obtain ⟨r, a, b, kvs, xs, k, d, rfl, rfl, ha, p, hk, hd, hb, l, q⟩ := h
  obtain rfl : v = Value.ref a := rx
  obtain rfl : u = Value.ref b := ry
  obtain ⟨_, _, _, dd⟩ := DcR.dict I ha p
  exact tail_any dd.typeIs PySem.F.slot_dict_getitem.lookup (dc_get (by rw [Around.in1_units]; omega) I ha p hk hd hb l fun v u s' I' rv t => ⟨v, H, I', rv, q v t⟩) hs
theorem set_dic {X : Cx} (hu : X.A.units + 9 < cLine) : PSet X (fun o i v H Q => ∃ (r : List Addr) (a b : Addr) (kvs : List (NestedKey × D)) (xs : List DEnt) (k : NestedKey) (d : D), o = .ref a ∧ i = .ref b ∧ H a = some (DcO a xs) ∧ Paired (DcP X.K r H) kvs xs ∧ ntx k = true ∧ k.depth ≤ 8 ∧ Rp X.K r H (dOf k) (.ref b) ∧ kvs.length < lim ∧ Rp X.K r H d v ∧
    ∀ xs', Paired (DcP X.K r H) (putD kvs k d) xs' → Q (upd H a (DcO a xs'))) := by
  intro pins s σ H o i v ov iv u Q I ro ri rv h
  obtain ⟨r, a, b, kvs, xs, k, d, rfl, rfl, ha, p, hk, hd, hb, hl, t, q⟩ := h
  obtain rfl : ov = Value.ref a := ro
  obtain rfl : iv = Value.ref b := ri
  refine dc_set (by rw [Around.in1_units]; omega) I ha p hk hd hb hl rv fun xs' s' I' e => ⟨_, I', q xs' ?_⟩
  rw [e]
  exact DcP.put p k hb rv t
theorem PSet.or {X : Cx} {t t' : TSet} (h : PSet X t) (h' : PSet X t') : PSet X (fun o i v H Q => t o i v H Q ∨ t' o i v H Q) :=
  fun pins s σ H o i v ov iv u Q I ro ri rv q => q.elim (h pins s σ H o i v ov iv u Q I ro ri rv) (h' pins s σ H o i v ov iv u Q I ro ri rv)
/-- {} -/
theorem dc_empty {P : Program} {w : World} {H : Hp} (h : Heap) (hb : sysModules < h.objs.size) : ObjOk P w H (h.push { cls := .type "dict", data := .dict #[] }) h.objs.size (DcO h.objs.size []) := by
  have z : (h.push { cls := .type "dict", data := .dict #[] }).get? h.objs.size = some { cls := .type "dict", data := .dict #[] } := Heap.get?_push_size _ rfl
  refine ⟨⟨beq_eq_false_iff_ne.mpr (Ne.symm (Nat.ne_of_lt hb)), (by simp), Nat.zero_le _, List.nodup_nil, _, #[], 0, z, ⟨rfl, rfl, rfl⟩, rfl, fun _ _ => rfl⟩, ⟨_, z⟩, ?_⟩
  rintro e1 e2 ⟨z1, z2, z3, z4, o, es, ep, z5, z6⟩ ke
  exact ⟨z1, z2, z3, z4, o, es, ep, ke o z5, z6⟩
theorem se_newd {X : Cx} {g : Gd} {pos : Pos} : PE X (.Dict [] [] pos) (tOf g fun _ => fun m => .ok (.loc m.length) (m ++ [.dic []])) := ⟨fun pins s σ H Q I h => by
  obtain ⟨r, env, m, S, k, c⟩ := h
  have hn := I.hok.fresh (Nat.le_refl s.heap.objs.size)
  refine wpAny_Dict_empty ⟨.ref s.heap.objs.size, _, I.laid (a := s.heap.objs.size) (o := DcO s.heap.objs.size []) (t' := s.toks) (fun _ _ q => Heap.get?_push_of_some _ q) (Nat.le_refl _) (dc_empty s.heap I.big), rfl, ?_⟩
  have x0 : Ext r H r (upd H s.heap.objs.size (DcO s.heap.objs.size [])) := Ext.new hn
  have s0 : StoOk g.K r (upd H s.heap.objs.size (DcO s.heap.objs.size [])) m := S.new hn
  have hf := S.fresh hn
  refine c (r ++ [s.heap.objs.size]) _ _ ⟨List.prefix_append _ _, fun b o e nb => ⟨(x0.kp b o e nb).1, fun z => ?_⟩⟩ (s0.pushO hf ⟨[], upd_same, .nil⟩) ⟨_, rfl, ?_⟩
  · rcases List.mem_append.mp z with z | z
    · exact nb z
    · obtain rfl : b = s.heap.objs.size := by simpa using z
      rw [hn] at e
      cases e
  · rw [← S.len, List.getElem?_append_right (Nat.le_refl _)]
    simp⟩
end Dh


set_option Elab.async false
set_option linter.all false
set_option maxRecDepth 100000
set_option maxHeartbeats 4000000
/-! DhOps3: subscripts, slices, built-in functions. -/
namespace Dh
open PySem PySem.Spec PyProof.Rows L2

theorem atIx_eq {α : Type} (xs : List α) (i : Int) : atIx xs i = atI xs i := by
  unfold atIx atI ixN
  by_cases h0 : 0 ≤ i
  · rw [if_pos h0, if_pos h0]
    by_cases h1 : i < xs.length
    · rw [if_pos h1]
      rfl
    · rw [if_neg h1]
      exact List.getElem?_eq_none (by omega)
  · rw [if_neg h0, if_neg h0]
    by_cases h1 : -(xs.length : Int) ≤ i
    · rw [if_pos h1, if_pos h1]
      rfl
    · rw [if_neg h1, if_neg h1]
      rfl
theorem slB_eq (n d : Nat) (o : Option Int) : slB n d o = HT.sIx n d o := by
  cases o <;> rfl
theorem cutL_eq (vs : List V) (lo hi : Option Int) : cutV vs lo hi = cutL vs lo hi := by
  unfold cutV cutL
  rw [slB_eq, slB_eq]
theorem cutS_eq (s : List Nat) (lo hi : Option Int) : cutS ⟨s.toArray⟩ lo hi = ⟨(cutL s lo hi).toArray⟩ := by
  unfold cutS cutL
  rw [strLen, slB_eq, slB_eq]
section
variable {K : Frag} {r : List Addr} {H : Hp} {m : Sto}
theorem Rps.cut {ds : List D} {vs : List V} (h : Rps K r H ds vs) (lo hi : Option Int) : Rps K r H (cutL ds lo hi) (cutL vs lo hi) := by
  have l := h.len
  unfold cutL
  rw [l]
  exact Rps.take _ (Rps.drop _ h)
theorem Rps.at_ {ds : List D} {vs : List V} {d : D} {i : Int} (h : Rps K r H ds vs) (e : atIx ds i = some d) : ∃ v, atI vs i = some v ∧ Rp K r H d v := by
  have l := h.len
  rw [atIx_eq] at e
  unfold atI at e ⊢
  rw [l]
  cases q : ixN ds.length i with
  | none =>
    rw [q] at e
    cases e
  | some j =>
    rw [q] at e
    exact Rps.get h e
/-- how a row stands: a list of any standing, or a tuple -/
theorem StoOk.seq (S : StoOk K r H m) {d : D} {v : V} {ds : List D} (h : Rp K r H d v) (hd : seqOf m d = some ds) : ∃ a vs, v = .ref a ∧ (SqL K H a vs ∨ SqT K H a vs) ∧ Rps K r H ds vs := by
  cases d with
  | tup es =>
    have z : es = ds := Option.some.inj hd
    subst z
    obtain ⟨a, vs, e, q, t⟩ := h
    exact ⟨a, vs, e, .inr q, t⟩
  | lst es =>
    have z : es = ds := Option.some.inj hd
    subst z
    obtain ⟨a, vs, e, q, t⟩ := h
    exact ⟨a, vs, e, .inl q.sq, t⟩
  | loc n =>
    obtain ⟨a, e, q⟩ := h
    have hd' : (match m[n]? with | some (.lst ds) => some ds | _ => none) = some ds := hd
    cases hm : m[n]? with
    | none =>
      rw [hm] at hd'
      cases hd'
    | some o =>
      cases o with
      | lst es =>
        rw [hm] at hd'
        have z : es = ds := Option.some.inj hd'
        subst z
        obtain ⟨vs, h1, h2⟩ := S.at_ q hm
        exact ⟨a, vs, e, .inl (SqL.of h1), h2⟩
      | dic kvs =>
        rw [hm] at hd'
        cases hd'
  | _ => cases hd
theorem StoOk.lseq (S : StoOk K r H m) {d : D} {v : V} {ds : List D} (h : Rp K r H d v) (hd : lstOf m d = some ds) : ∃ a vs, v = .ref a ∧ SqL K H a vs ∧ Rps K r H ds vs := by
  cases d with
  | tup es => cases hd
  | lst es =>
    have z : es = ds := Option.some.inj hd
    subst z
    obtain ⟨a, vs, e, q, t⟩ := h
    exact ⟨a, vs, e, q.sq, t⟩
  | loc n =>
    obtain ⟨a, e, q⟩ := h
    have hd' : (match m[n]? with | some (.lst ds) => some ds | _ => none) = some ds := hd
    cases hm : m[n]? with
    | none =>
      rw [hm] at hd'
      cases hd'
    | some o =>
      cases o with
      | lst es =>
        rw [hm] at hd'
        have z : es = ds := Option.some.inj hd'
        subst z
        obtain ⟨vs, h1, h2⟩ := S.at_ q hm
        exact ⟨a, vs, e, SqL.of h1, h2⟩
      | dic kvs =>
        rw [hm] at hd'
        cases hd'
  | _ => cases hd
end
section
variable {X : Cx} {g : Gd}
theorem ix_idx (hg : g.K = X.K) (hu : X.A.units + 9 < cLine) : IxR X (rOp g idxD) := by
  intro va sli pins s σ H x y v u Q I rx ry h0 hsb
  obtain ⟨r, m, σ', env, d1, d2, d, h1, h2, hf, hC⟩ := h0.out
  clear h0
  unfold idxD at hf
  cases hdc : dicOf m d1 with
  | some kvs =>
    rw [hdc] at hf
    obtain ⟨k, hk, hl⟩ := Option.bind_eq_some_iff.mp hf
    obtain ⟨n, rfl, hm⟩ := dicOf_at hdc
    obtain ⟨⟨ds, rfl⟩, e1, e2, e3⟩ := keyOf_at hk
    obtain ⟨a, rfl, ha⟩ := h1
    obtain ⟨xs, q1, q2⟩ := hC.1.dic ha hm
    have h2' := h2
    obtain ⟨b, vs, rfl, _⟩ := h2'
    exact ix_dic hu va sli pins s σ H _ _ v u Q I rx ry ⟨r, a, b, kvs, xs, k, d, rfl, rfl, q1, hg ▸ q2, e2, e3, by rw [e1, ← hg]; exact h2, hl, fun w t => hC.here (by rw [hg]; exact t)⟩ hsb
  | none =>
  rw [hdc] at hf
  dsimp only at hf
  split at hf
  · rename_i z i
    split at hf
    · rename_i hz
      obtain ⟨c, hc, e⟩ := Option.map_eq_some_iff.mp hf
      subst e
      have hl := limLe
      refine ix_str va sli pins s σ H x y v u Q I rx ry ⟨_, _, c, h1, h2, by rw [strLen]; omega, ?_, hC.here rfl⟩ hsb
      rw [← atIx_eq]
      simpa using hc
    · cases hf
  · rename_i i _
    obtain ⟨ds, hs, ha⟩ := Option.bind_eq_some_iff.mp hf
    obtain ⟨a, vs, e, q, t⟩ := hC.1.seq h1 hs
    obtain ⟨w, hw, rw'⟩ := t.at_ ha
    rcases q with q | q
    · exact ix_list va sli pins s σ H x y v u Q I rx ry ⟨a, vs, i, w, e, h2, hg ▸ q, hw, hC.here rw'⟩ hsb
    · exact ix_tup va sli pins s σ H x y v u Q I rx ry ⟨a, vs, i, w, e, h2, hg ▸ q, hw, hC.here rw'⟩ hsb
  · cases hf
/-- a slice by its meaning -/
def rSl (g : Gd) : V → Option Int → Option Int → Hp → VK → Prop := fun x lo hi H Q => ∃ r m σ env d, Rp g.K r H d x ∧ Cn g (Rf g.K H) σ env r H (fun m => ofO (slD m d lo hi) m) m Q
theorem sl_sl (hg : g.K = X.K) : SlR X (rSl g) := by
  intro pins s σ H x v vl vu lo hi sl Q I rx hs pl pu h0
  obtain ⟨r, m, σ', env, d, h1, S, En, hC⟩ := h0
  dsimp only at hC
  cases hf : slD m d lo hi with
  | none =>
    rw [hf] at hC
    exact hC.elim
  | some o =>
    rw [hf] at hC
    have fin : ∀ r' H' b, Ext r H r' H' → StoOk g.K r' H' m → Rf g.K H r' H' o b → Q b H' := hC
    have row : ∀ {a : Addr} {vs : List V} {ds : List D}, x = .ref a → SqL g.K H a vs → Rps g.K r H ds vs → o = .lst (cutL ds lo hi) → ∃ T id, typeLookup (.type T) "__getitem__" = pure (some (.builtin id)) ∧ s.TypeIs v T ∧ wpAny (model X.prog X.w) X.A (getItem v (.ref sl)) (EP X pins σ Q) X.xe s := by
      intro a vs ds e q t ho
      refine sl_list pins s σ H x v vl vu lo hi sl Q I rx hs pl pu ⟨a, vs, e, hg ▸ q, fun p hp => ?_⟩
      rw [cutL_eq]
      refine fin r _ _ (Ext.new hp) (S.new hp) (.inr ⟨_, p, _, ho, rfl, upd_same, S.fresh hp, Rps.kp (Kp.new hp) _ _ (t.cut lo hi), hp⟩)
    unfold slD at hf
    split at hf
    · split at hf
      · rename_i hz
        cases hf
        have hl := limLe
        refine sl_str pins s σ H x v vl vu lo hi sl Q I rx hs pl pu ⟨_, h1, by rw [strLen]; omega, ?_⟩
        rw [cutS_eq]
        exact fin r H _ (Ext.refl r H) S (.inl rfl)
      · cases hf
    · cases hf
      rename_i ds
      obtain ⟨a, vs, e, q, t⟩ := h1
      refine sl_tupA pins s σ H x v vl vu lo hi sl Q I rx hs pl pu ⟨a, vs, e, hg ▸ q, fun hw => ?_, fun hw p hp => ?_⟩
      · have z : cutL vs lo hi = vs := by
          unfold cutL
          rw [slB_eq, slB_eq, hw.1, hw.2]
          simp
        have t2 := t.cut lo hi
        rw [z] at t2
        exact fin r H _ (Ext.refl r H) S (.inl ⟨a, vs, rfl, q, t2⟩)
      · rw [cutL_eq]
        exact fin r _ _ (Ext.new hp) (S.new hp) (.inl ⟨p, _, rfl, SqT.of upd_same, Rps.kp (Kp.new hp) _ _ (t.cut lo hi)⟩)
    · obtain ⟨ds, hs', e⟩ := Option.map_eq_some_iff.mp hf
      cases d with
      | str _ => cases hs'
      | tup es => rename_i hne; exact absurd rfl (hne es)
      | lst es =>
        obtain ⟨a, vs, e1, q, t⟩ := S.lseq h1 (show lstOf m (.lst es) = some ds from hs')
        exact row e1 q t e.symm
      | loc n =>
        obtain ⟨a, vs, e1, q, t⟩ := S.lseq h1 (show lstOf m (.loc n) = some ds from hs')
        exact row e1 q t e.symm
      | _ => cases hs'

/-! ### built-in functions -/
/-- a call by its meaning -/
def rCl (g : Gd) (f : Sto → List D → Option D) : List V → Hp → VK → Prop := fun xs H Q => ∃ r m σ env ds, Rps g.K r H ds xs ∧ Cn g (Rp g.K) σ env r H (fun m => ofO (f m ds) m) m Q
theorem rCl.out {f : Sto → List D → Option D} {xs : List V} {H : Hp} {Q : VK} (h : rCl g f xs H Q) : ∃ r m σ env ds d, Rps g.K r H ds xs ∧ f m ds = some d ∧ Cn g (Rp g.K) σ env r H (ret d) m Q := by
  obtain ⟨r, m, σ, env, ds, h1, s, e, h⟩ := h
  dsimp only at h
  cases hf : f m ds with
  | none =>
    rw [hf] at h
    exact h.elim
  | some d =>
    rw [hf] at h
    exact ⟨r, m, σ, env, ds, d, h1, hf, s, e, h⟩
theorem Rps.one' {K : Frag} {r : List Addr} {H : Hp} {d : D} {xs : List V} (h : Rps K r H [d] xs) : ∃ x, xs = [x] ∧ Rp K r H d x := by
  obtain ⟨v, w, e, h, t⟩ := h
  exact ⟨v, by rw [e, show w = [] from t], h⟩
theorem Rps.two' {K : Frag} {r : List Addr} {H : Hp} {d d2 : D} {xs : List V} (h : Rps K r H [d, d2] xs) : ∃ x y, xs = [x, y] ∧ Rp K r H d x ∧ Rp K r H d2 y := by
  obtain ⟨v, w, e, h, t⟩ := h
  obtain ⟨y, e2, h2⟩ := Rps.one' t
  exact ⟨v, y, by rw [e, e2], h, h2⟩
theorem allB_of : ∀ {ds : List D} {vs : List V} {b : Bool} {K : Frag} {r : List Addr} {H : Hp}, Rps K r H ds vs → allB ds = some b → ∃ bs : List Bool, vs = bs.map V.bl ∧ bs.all id = b
  | [], vs, b, K, r, H, h, e => ⟨[], h, by cases e; rfl⟩
  | .bl c :: ds, vs, b, K, r, H, ⟨v, w, ev, h, t⟩, e => by
    obtain ⟨b', e1, e2⟩ := Option.map_eq_some_iff.mp (show (allB ds).map (c && ·) = some b from e)
    obtain ⟨bs, h1, h2⟩ := allB_of t e1
    refine ⟨c :: bs, ?_, ?_⟩
    · rw [ev, h1, show v = V.bl c from h]
      rfl
    · rw [List.all_cons, h2]
      exact e2
  | .non :: _, _, _, _, _, _, _, e => by cases e
  | .int _ :: _, _, _, _, _, _, _, e => by cases e
  | .str _ :: _, _, _, _, _, _, _, e => by cases e
  | .tup _ :: _, _, _, _, _, _, _, e => by cases e
  | .lst _ :: _, _, _, _, _, _, _, e => by cases e
  | .edict :: _, _, _, _, _, _, _, e => by cases e
  | .loc _ :: _, _, _, _, _, _, _, e => by cases e
theorem anyB_of : ∀ {ds : List D} {vs : List V} {b : Bool} {K : Frag} {r : List Addr} {H : Hp}, Rps K r H ds vs → anyB ds = some b → ∃ bs : List Bool, vs = bs.map V.bl ∧ bs.any id = b
  | [], vs, b, K, r, H, h, e => ⟨[], h, by cases e; rfl⟩
  | .bl c :: ds, vs, b, K, r, H, ⟨v, w, ev, h, t⟩, e => by
    obtain ⟨b', e1, e2⟩ := Option.map_eq_some_iff.mp (show (anyB ds).map (c || ·) = some b from e)
    obtain ⟨bs, h1, h2⟩ := anyB_of t e1
    refine ⟨c :: bs, ?_, ?_⟩
    · rw [ev, h1, show v = V.bl c from h]
      rfl
    · rw [List.any_cons, h2]
      exact e2
  | .non :: _, _, _, _, _, _, _, e => by cases e
  | .int _ :: _, _, _, _, _, _, _, e => by cases e
  | .str _ :: _, _, _, _, _, _, _, e => by cases e
  | .tup _ :: _, _, _, _, _, _, _, e => by cases e
  | .lst _ :: _, _, _, _, _, _, _, e => by cases e
  | .edict :: _, _, _, _, _, _, _, e => by cases e
  | .loc _ :: _, _, _, _, _, _, _, e => by cases e
theorem sumI_of : ∀ {ds : List D} {vs : List V} {b : Int} {K : Frag} {r : List Addr} {H : Hp}, Rps K r H ds vs → sumI ds = some b → ∃ bs : List Int, vs = bs.map V.int ∧ bs.sum = b
  | [], vs, b, K, r, H, h, e => ⟨[], h, by cases e; rfl⟩
  | .int c :: ds, vs, b, K, r, H, ⟨v, w, ev, h, t⟩, e => by
    obtain ⟨b', e1, e2⟩ := Option.map_eq_some_iff.mp (show (sumI ds).map (c + ·) = some b from e)
    obtain ⟨bs, h1, h2⟩ := sumI_of t e1
    refine ⟨c :: bs, ?_, ?_⟩
    · rw [ev, h1, show v = V.int c from h]
      rfl
    · rw [List.sum_cons, h2]
      exact e2
  | .non :: _, _, _, _, _, _, _, e => by cases e
  | .bl _ :: _, _, _, _, _, _, _, e => by cases e
  | .str _ :: _, _, _, _, _, _, _, e => by cases e
  | .tup _ :: _, _, _, _, _, _, _, e => by cases e
  | .lst _ :: _, _, _, _, _, _, _, e => by cases e
  | .edict :: _, _, _, _, _, _, _, e => by cases e
  | .loc _ :: _, _, _, _, _, _, _, e => by cases e
theorem strShow (s : String) : Str.ofString s = ⟨(s.toList.map Char.toNat).toArray⟩ := Str.ofString_eq_toList s
theorem Str.self (z : Str) : (⟨z.cps.toList.toArray⟩ : Str) = z := by
  cases z
  simp

mutual
theorem noDict : ∀ d : D, d.flat = true → d.py.hasDict = false
  | .non, _ => by simp [D.py, PyData.hasDict]
  | .bl _, _ => by simp [D.py, PyData.hasDict]
  | .int _, _ => by simp [D.py, PyData.hasDict]
  | .str _, _ => by simp [D.py, PyData.hasDict]
  | .tup ds, h => by
    simp only [D.py, PyData.hasDict]
    exact noDicts ds (by simpa only [D.flat] using h)
  | .lst ds, h => by
    simp only [D.py, PyData.hasDict]
    exact noDicts ds (by simpa only [D.flat] using h)
  | .edict, h => by simp [D.flat] at h
  | .loc _, h => by simp [D.flat] at h
theorem noDicts : ∀ ds : List D, D.flats ds = true → PyData.hasDictAll (D.pys ds) = false
  | [], _ => by simp [D.pys, PyData.hasDictAll]
  | d :: ds, h => by
    simp only [D.flats, Bool.and_eq_true] at h
    simp only [D.pys, PyData.hasDictAll, noDict d h.1, noDicts ds h.2, Bool.or_self]
end
theorem cl_abs : CallR X (.builtin "abs") (rCl g fun m => blt m .abs) := by
  intro pins s σ H xs us Q I rs h0
  obtain ⟨r, m, σ', env, ds, d, hr, hf, hC⟩ := h0.out
  unfold blt at hf
  split at hf <;> first | (exfalso; simp_all; done) | skip
  rename_i i _
  cases hf
  obtain ⟨x, rfl, h1⟩ := Rps.one' hr
  exact call_abs pins s σ H _ us Q I rs ⟨i, by rw [show x = V.int i from h1], hC.here rfl⟩
theorem cl_all (hg : g.K = X.K) (hc : X.calm = true) : CallR X (.builtin "all") (rCl g fun m => blt m .all) := by
  intro pins s σ H xs us Q I rs h0
  obtain ⟨r, m, σ', env, ds, d, hr, hf, hC⟩ := h0.out
  unfold blt at hf
  split at hf <;> first | (exfalso; simp_all; done) | skip
  rename_i x
  obtain ⟨b, hb, e⟩ := Option.map_eq_some_iff.mp hf
  obtain ⟨ys, h2, h3⟩ := Option.bind_eq_some_iff.mp hb
  subst e
  obtain ⟨v, rfl, h1⟩ := Rps.one' hr
  obtain ⟨a, vs, rfl, q, t⟩ := hC.1.lseq h1 h2
  obtain ⟨bs, rfl, e2⟩ := allB_of t h3
  exact cr_all hc pins s σ H _ us Q I rs ⟨a, bs, rfl, hg ▸ q, by rw [e2]; exact hC.here rfl⟩
theorem cl_any (hg : g.K = X.K) (hc : X.calm = true) : CallR X (.builtin "any") (rCl g fun m => blt m .any) := by
  intro pins s σ H xs us Q I rs h0
  obtain ⟨r, m, σ', env, ds, d, hr, hf, hC⟩ := h0.out
  unfold blt at hf
  split at hf <;> first | (exfalso; simp_all; done) | skip
  rename_i x
  obtain ⟨b, hb, e⟩ := Option.map_eq_some_iff.mp hf
  obtain ⟨ys, h2, h3⟩ := Option.bind_eq_some_iff.mp hb
  subst e
  obtain ⟨v, rfl, h1⟩ := Rps.one' hr
  obtain ⟨a, vs, rfl, q, t⟩ := hC.1.lseq h1 h2
  obtain ⟨bs, rfl, e2⟩ := anyB_of t h3
  exact cr_any hc pins s σ H _ us Q I rs ⟨a, bs, rfl, hg ▸ q, by rw [e2]; exact hC.here rfl⟩
theorem cl_sum (hg : g.K = X.K) (hc : X.calm = true) : CallR X (.builtin "sum") (rCl g fun m => blt m .sum) := by
  intro pins s σ H xs us Q I rs h0
  obtain ⟨r, m, σ', env, ds, d, hr, hf, hC⟩ := h0.out
  unfold blt at hf
  split at hf <;> first | (exfalso; simp_all; done) | skip
  rename_i x
  obtain ⟨b, hb, e⟩ := Option.map_eq_some_iff.mp hf
  obtain ⟨ys, h2, h3⟩ := Option.bind_eq_some_iff.mp hb
  subst e
  obtain ⟨v, rfl, h1⟩ := Rps.one' hr
  obtain ⟨a, vs, rfl, q, t⟩ := hC.1.lseq h1 h2
  obtain ⟨bs, rfl, e2⟩ := sumI_of t h3
  exact cr_sum hc pins s σ H _ us Q I rs ⟨a, bs, rfl, hg ▸ q, by rw [e2]; exact hC.here rfl⟩
theorem cl_divmod : CallR X (.builtin "divmod") (rCl g fun m => blt m .divmod) := by
  intro pins s σ H xs us Q I rs h0
  obtain ⟨r, m, σ', env, ds, d, hr, hf, hC⟩ := h0.out
  unfold blt at hf
  split at hf <;> first | (exfalso; simp_all; done) | skip
  rename_i i j _
  split at hf
  · rename_i hz
    cases hf
    obtain ⟨x, y, rfl, h1, h2⟩ := Rps.two' hr
    exact call_divmod pins s σ H _ us Q I rs ⟨i, j, by rw [show x = V.int i from h1, show y = V.int j from h2], hz, fun p hp => hC.tup (vs := [.int (i / j), .int (i % j)]) ⟨_, _, rfl, rfl, _, _, rfl, rfl, rfl⟩ p hp⟩
  · cases hf
theorem cl_gcd : CallR X (.builtin "math.gcd") (rCl g fun m => blt m .gcd) := by
  intro pins s σ H xs us Q I rs h0
  obtain ⟨r, m, σ', env, ds, d, hr, hf, hC⟩ := h0.out
  unfold blt at hf
  split at hf <;> first | (exfalso; simp_all; done) | skip
  rename_i i j _
  cases hf
  obtain ⟨x, y, rfl, h1, h2⟩ := Rps.two' hr
  exact cr_gcd pins s σ H _ us Q I rs ⟨i, j, by rw [show x = V.int i from h1, show y = V.int j from h2], hC.here rfl⟩
theorem cl_int : CallR X (.type "int") (rCl g fun m => blt m .int) := by
  intro pins s σ H xs us Q I rs h0
  obtain ⟨r, m, σ', env, ds, d, hr, hf, hC⟩ := h0.out
  unfold blt at hf
  split at hf <;> first | (exfalso; simp_all; done) | skip
  · rename_i i _
    cases hf
    obtain ⟨x, rfl, h1⟩ := Rps.one' hr
    exact call_int1 pins s σ H _ us Q I rs (.inl ⟨i, by rw [show x = V.int i from h1], hC.here rfl⟩)
  · rename_i i _
    cases hf
    obtain ⟨x, rfl, h1⟩ := Rps.one' hr
    exact call_int1 pins s σ H _ us Q I rs (.inr ⟨i, by rw [show x = V.bl i from h1], hC.here rfl⟩)
theorem cl_len (hg : g.K = X.K) : CallR X (.builtin "len") (rCl g fun m => blt m .len) := by
  intro pins s σ H xs us Q I rs h0
  obtain ⟨r, m, σ', env, ds, d, hr, hf, hC⟩ := h0.out
  unfold blt at hf
  split at hf <;> first | (exfalso; simp_all; done) | skip
  · rename_i z _
    split at hf
    · rename_i hz
      cases hf
      have hl := limLe
      obtain ⟨x, rfl, h1⟩ := Rps.one' hr
      refine call_len pins s σ H _ us Q I rs ⟨x, z.length, rfl, ?_, hC.here rfl⟩
      rw [show x = V.str ⟨z.toArray⟩ from h1]
      exact ⟨by rw [strLen]; omega, (strLen z).symm⟩
    · cases hf
  · rename_i x _
    obtain ⟨ys, h2, e⟩ := Option.map_eq_some_iff.mp hf
    subst e
    obtain ⟨v, rfl, h1⟩ := Rps.one' hr
    obtain ⟨a, vs, rfl, q, t⟩ := hC.1.seq h1 h2
    rw [hg] at q
    refine call_len pins s σ H _ us Q I rs ⟨.ref a, ys.length, rfl, ?_, hC.here rfl⟩
    rcases q with q | q
    · exact .inl ⟨vs, q, t.len.symm⟩
    · exact .inr ⟨vs, q, t.len.symm⟩
theorem cl_max2 (hc : X.calm = true) : CallR X (.builtin "max") (rCl g fun m => blt m .max2) := by
  intro pins s σ H xs us Q I rs h0
  obtain ⟨r, m, σ', env, ds, d, hr, hf, hC⟩ := h0.out
  unfold blt at hf
  split at hf <;> first | (exfalso; simp_all; done) | skip
  rename_i i j _
  cases hf
  obtain ⟨x, y, rfl, h1, h2⟩ := Rps.two' hr
  exact call_max2 hc pins s σ H _ us Q I rs ⟨i, j, by rw [show x = V.int i from h1, show y = V.int j from h2], hC.here rfl⟩
theorem cl_min2 (hc : X.calm = true) : CallR X (.builtin "min") (rCl g fun m => blt m .min2) := by
  intro pins s σ H xs us Q I rs h0
  obtain ⟨r, m, σ', env, ds, d, hr, hf, hC⟩ := h0.out
  unfold blt at hf
  split at hf <;> first | (exfalso; simp_all; done) | skip
  rename_i i j _
  cases hf
  obtain ⟨x, y, rfl, h1, h2⟩ := Rps.two' hr
  exact call_min2 hc pins s σ H _ us Q I rs ⟨i, j, by rw [show x = V.int i from h1, show y = V.int j from h2], hC.here rfl⟩
theorem cl_str : CallR X (.type "str") (rCl g fun m => blt m .str) := by
  intro pins s σ H xs us Q I rs h0
  obtain ⟨r, m, σ', env, ds, d, hr, hf, hC⟩ := h0.out
  unfold blt at hf
  split at hf <;> first | (exfalso; simp_all; done) | skip
  rename_i i _
  split at hf
  · rename_i hz
    cases hf
    obtain ⟨x, rfl, h1⟩ := Rps.one' hr
    exact call_str_int pins s σ H _ us Q I rs ⟨i, by rw [show x = V.int i from h1], hz, by rw [strShow]; exact hC.here rfl⟩
  · cases hf
theorem cl_tuple (hg : g.K = X.K) : CallR X (.type "tuple") (rCl g fun m => blt m .tuple) := by
  intro pins s σ H xs us Q I rs h0
  obtain ⟨r, m, σ', env, ds, d, hr, hf, hC⟩ := h0.out
  unfold blt at hf
  split at hf <;> first | (exfalso; simp_all; done) | skip
  rename_i x
  obtain ⟨ys, h2, e⟩ := Option.map_eq_some_iff.mp hf
  subst e
  obtain ⟨v, rfl, h1⟩ := Rps.one' hr
  obtain ⟨a, vs, rfl, q, t⟩ := hC.1.seq h1 h2
  refine call_tuple_of pins s σ H _ us Q I rs ⟨a, vs, rfl, ?_⟩
  rcases q with q | q
  · exact .inl ⟨hg ▸ q, fun l hl => hC.tup t l hl⟩
  · exact .inr ⟨hg ▸ q, hC.here ⟨a, vs, rfl, q, t⟩⟩
theorem cl_repr (hg : g.K = X.K) (hgd : X.A.guards = some []) (hu : X.A.units + 100 < cLine) : CallR X (.builtin "repr") (rCl g fun m => blt m .repr) := by
  intro pins s σ H xs us Q I rs h0
  obtain ⟨r, m, σ', env, ds, d, hr, hf, hC⟩ := h0.out
  unfold blt at hf
  split at hf <;> first | (exfalso; simp_all; done) | skip
  rename_i x _
  split at hf
  · rename_i hz
    cases hf
    simp only [Bool.and_eq_true, decide_eq_true_eq] at hz
    obtain ⟨⟨⟨z1, z2⟩, z3⟩, z4⟩ := hz
    have hl := limLe
    obtain ⟨v, rfl, h1⟩ := Rps.one' hr
    have fin : Q (.str x.py.shown) H := by
      have z := hC.here (show Rp g.K r H (.str x.py.shown.cps.toList) (.str ⟨x.py.shown.cps.toList.toArray⟩) from rfl)
      rw [Str.self] at z
      exact z
    obtain ⟨u, rfl, rv⟩ := vals1 rs
    cases x with
    | non =>
      have e : v = .non := h1
      subst e
      cases rv
      exact PySem.P.repr_of_none ⟨.str _, H, I.tok _, ⟨_, rfl⟩, by simpa only [D.py, PyData.shown] using fin⟩
    | bl b =>
      have e : v = .bl b := h1
      subst e
      cases rv
      exact PySem.P.repr_of_bool ⟨.str (if b then "True" else "False"), H, I.tok _, ⟨s.toks, rfl⟩, by simpa only [D.py, PyData.shown] using fin⟩
    | int i =>
      have e : v = .int i := h1
      subst e
      obtain ⟨t, rfl⟩ := rv
      simp only [D.py, PyData.showable, decide_eq_true_eq] at z2
      exact PySem.P.repr_of_int z2 ⟨.str _, H, I.tok _, ⟨_, rfl⟩, by simpa only [D.py, PyData.shown] using fin⟩
    | str y =>
      have e : v = .str ⟨y.toArray⟩ := h1
      subst e
      obtain ⟨t, rfl⟩ := rv
      refine PySem.P.repr_of_str ⟨.str _, H, I.tok _, ⟨_, rfl⟩, by simpa only [D.py, PyData.shown] using fin⟩ ?_
      simp only [D.py, PyData.shown] at z3
      omega
    | tup ys =>
      obtain ⟨as, R⟩ := Dp.reads I _ _ _ ((hg ▸ h1 : Rp X.K r H (.tup ys) v).dp _ _ z1) rv
      obtain ⟨a, vs, rfl, _⟩ := h1
      cases rv
      refine repr_of_reads' R z2 (fun hd => ?_) hgd (by omega) (fun _ _ e => e) (fun h' t tk hk => ⟨.str _, H, I.kept hk, ⟨_, rfl⟩, fin⟩) (by omega)
      have := noDict _ z1
      rw [this] at hd
      cases hd
    | lst ys =>
      obtain ⟨as, R⟩ := Dp.reads I _ _ _ ((hg ▸ h1 : Rp X.K r H (.lst ys) v).dp _ _ z1) rv
      obtain ⟨a, vs, rfl, _⟩ := h1
      cases rv
      refine repr_of_reads' R z2 (fun hd => ?_) hgd (by omega) (fun _ _ e => e) (fun h' t tk hk => ⟨.str _, H, I.kept hk, ⟨_, rfl⟩, fin⟩) (by omega)
      have := noDict _ z1
      rw [this] at hd
      cases hd
    | edict => simp [D.flat] at z1
    | loc n => simp [D.flat] at z1
  · cases hf
end
end Dh


set_option Elab.async false
set_option linter.all false
set_option maxRecDepth 100000
set_option maxHeartbeats 4000000
/-! DhExp: a rule for each form of an expression, by its meaning. -/
namespace Dh
open PySem PySem.Spec PyProof.Rows L2
section
variable {X : Cx} {g : Gd} {a b c : Expr} {ma mb mc : Env → M D} {pos : Pos}
theorem se_var {i : Nat} {x : Str} (hN : X.N[i]? = some x) (hv : Vis X.env.scope x) (hd : (x == ("__debug__" : Str)) = false) (hcd : (x == ("__classdict__" : Str)) = false) : PE X (.Name x pos) (tOf g fun env => ofO (getV env i)) := by
  refine PE.weak (pe_var hN hv hd hcd) fun σ H Q ⟨r, env, m, h⟩ => ?_
  obtain ⟨d, hd, h⟩ := h.ofO
  unfold getV at hd
  have e : env[i]? = some (some d) := by
    cases q : env[i]? with
    | none =>
      rw [q] at hd
      cases hd
    | some o =>
      rw [q] at hd
      cases o with
      | none => cases hd
      | some d' =>
        cases hd
        rfl
  obtain ⟨v, h1, h2⟩ := h.2.1.at_ i d e
  exact ⟨v, h1, h.here h2⟩
/-- a constant: its reading is a value that tells d wherever -/
theorem se_cst {e : Expr} {d : D} {v : V} (h : PE X e (L2.tC v)) (t : ∀ r H, Rp g.K r H d v) : PE X e (tOf g fun _ => ret d) :=
  PE.weak h fun σ H Q ⟨r, env, m, c⟩ => c.here (t r H)
theorem se_bin (hg : g.K = X.K) (o : Bop) (ha : PE X a (tOf g ma)) (hb : PE X b (tOf g mb)) :
    PE X (.BinOp a (match o with | .add => .Add | .sub => .Sub | .mul => .Mult | .fdiv => .FloorDiv | .mod => .Mod | .pow => .Pow) b pos) (tOf g fun env => bnd (ma env) fun x => bnd (mb env) fun y => ofO (bin o x y)) :=
  PE.weak (pe_op (op_bin hg o) ha hb) fun σ H Q ⟨r, env, m, c⟩ =>
    ⟨r, env, m, c.bnd.mono fun v H1 ⟨r1, d1, m1, x1, t1, _, c1⟩ => ⟨r1, env, m1, c1.bnd.mono fun w H2 ⟨r2, d2, m2, x2, t2, _, c2⟩ => ⟨r2, m2, σ, env, d1, d2, Rp.kp (x2.toKp c1.1) _ _ t1, t2, c2⟩⟩⟩
theorem se_cmp (hg : g.K = X.K) (hu : X.A.units + 65 < cLine) (o : Cop) (ha : PE X a (tOf g ma)) (hb : PE X b (tOf g mb)) (hm : behindInMarks (copOf o) b = false) :
    PE X (.Compare a [copOf o] [b] pos) (tOf g fun env => bnd (ma env) fun x => bnd (mb env) fun y => fun m => ofO (cmp m o x y) m) :=
  PE.weak (pe_cmpR (op_cmp hg hu o) ha hb hm) fun σ H Q ⟨r, env, m, c⟩ =>
    ⟨r, env, m, c.bnd.mono fun v H1 ⟨r1, d1, m1, x1, t1, _, c1⟩ => ⟨r1, env, m1, c1.bnd.mono fun w H2 ⟨r2, d2, m2, x2, t2, _, c2⟩ => ⟨r2, m2, σ, env, d1, d2, Rp.kp (x2.toKp c1.1) _ _ t1, t2, c2⟩⟩⟩
/-- a test's end is a bool -/
theorem Cn.bool {σ : L2.St} {env : Env} {r : List Addr} {H : Hp} {x : M D} {m : Sto} {Q : Bool → Hp → Prop} (h : Cn g (Rp g.K) σ env r H x m fun v H' => ∃ b, v = .bl b ∧ Q b H') : Cn g (Rp g.K) σ env r H x m fun v H' => ∃ k, v = .bl k ∧ Q k H' := h
theorem st_cmp (hg : g.K = X.K) (hu : X.A.units + 65 < cLine) (o : Cop) (ha : PE X a (tOf g ma)) (hb : PE X b (tOf g mb)) (hm : behindInMarks (copOf o) b = false) :
    PT X (.Compare a [copOf o] [b] pos) (tTe g fun env => bnd (ma env) fun x => bnd (mb env) fun y => fun m => ofO (cmp m o x y) m) :=
  PT.weak (pt_cmpR (op_cmp hg hu o) ha hb hm) fun σ H Q ⟨r, env, m, c⟩ =>
    ⟨r, env, m, c.bnd.mono fun v H1 ⟨r1, d1, m1, x1, t1, _, c1⟩ => ⟨r1, env, m1, c1.bnd.mono fun w H2 ⟨r2, d2, m2, x2, t2, _, c2⟩ => ⟨r2, m2, σ, env, d1, d2, Rp.kp (x2.toKp c1.1) _ _ t1, t2, c2⟩⟩⟩
/-- an expression of any other form as a test -/
theorem st_val {e : Expr} {n : Env → M D} (h : PE X e (tOf g n)) (he : ∀ whole, isTrue e X.env whole = (do let v ← whole; standAt e.pos; holding [v] (truthy v))) : PT X e (tTe g n) :=
  PT.weak (pt_val h he) fun σ H Q q => q
/-- the two links of a chain -/
theorem chn_ok {σ : L2.St} {env : Env} {r : List Addr} {H : Hp} {m : Sto} {o p : Cop} {Q : VK}
    (c : Cn g (Rp g.K) σ env r H (bnd (ma env) fun x => bnd (mb env) fun y => bnd (fun m => ofO (cmp m o x y) m) fun k => match k with
      | .bl true => bnd (mc env) fun z m => ofO (cmp m p y z) m
      | .bl false => ret (.bl false)
      | _ => bad) m Q) : L2.tChain (rOp g fun m => cmp m o) (rOp g fun m => cmp m p) (tOf g ma) (tOf g mb) (tOf g mc) σ H Q := by
  refine ⟨r, env, m, c.bnd.mono fun v H1 ⟨r1, d1, m1, x1, t1, _, c1⟩ => ⟨r1, env, m1, c1.bnd.mono fun w H2 ⟨r2, d2, m2, x2, t2, _, c2⟩ => ⟨r2, m2, σ, env, d1, d2, Rp.kp (x2.toKp c1.1) _ _ t1, t2, c2.bnd.mono fun z H3 ⟨r3, d3, m3, x3, t3, _, c3⟩ => ?_⟩⟩⟩
  cases d3 with
  | bl k =>
    refine ⟨k, t3, ?_⟩
    cases k with
    | false => exact c3.here rfl
    | true => exact ⟨r3, env, m3, c3.bnd.mono fun z H4 ⟨r4, d4, m4, x4, t4, _, c4⟩ => ⟨r4, m4, σ, env, d2, d4, Rp.kp (x4.toKp c3.1) _ _ (Rp.kp (x3.toKp c2.1) _ _ t2), t4, c4⟩⟩
  | _ => exact c3.2.2.elim
theorem se_chn (hg : g.K = X.K) (hu : X.A.units + 65 < cLine) (o p : Cop) (ha : PE X a (tOf g ma)) (hb : PE X b (tOf g mb)) (hc : PE X c (tOf g mc)) (hm : lastMarks [copOf o, copOf p] [b, c] = false) :
    PE X (.Compare a [copOf o, copOf p] [b, c] pos) (tOf g fun env => bnd (ma env) fun x => bnd (mb env) fun y => bnd (fun m => ofO (cmp m o x y) m) fun k => match k with
      | .bl true => bnd (mc env) fun z m => ofO (cmp m p y z) m
      | .bl false => ret (.bl false)
      | _ => bad) :=
  PE.weak (pe_chain (op_cmp hg hu o) (op_cmp hg hu p) ha hb hc hm) fun σ H Q ⟨r, env, m, c⟩ => chn_ok c
theorem st_chn (hg : g.K = X.K) (hu : X.A.units + 65 < cLine) (o p : Cop) (ha : PE X a (tOf g ma)) (hb : PE X b (tOf g mb)) (hc : PE X c (tOf g mc)) (hm : lastMarks [copOf o, copOf p] [b, c] = false) :
    PT X (.Compare a [copOf o, copOf p] [b, c] pos) (tTe g fun env => bnd (ma env) fun x => bnd (mb env) fun y => bnd (fun m => ofO (cmp m o x y) m) fun k => match k with
      | .bl true => bnd (mc env) fun z m => ofO (cmp m p y z) m
      | .bl false => ret (.bl false)
      | _ => bad) :=
  PT.weak (pt_chain (op_cmp hg hu o) (op_cmp hg hu p) ha hb hc hm) fun σ H Q ⟨r, env, m, c⟩ => chn_ok c

/-! ### and, or, not, if -/
abbrev andM (x : M D) (y : M D) : M D := bnd x fun d => match d with
  | .bl true => y
  | .bl false => ret (.bl false)
  | _ => bad
abbrev orM (x : M D) (y : M D) : M D := bnd x fun d => match d with
  | .bl true => ret (.bl true)
  | .bl false => y
  | _ => bad
abbrev notM (x : M D) : M D := bnd x fun d => match d with
  | .bl b => ret (.bl (!b))
  | _ => bad
abbrev iteM (c x y : M D) : M D := bnd c fun d => match d with
  | .bl true => x
  | .bl false => y
  | _ => bad
theorem and_v {rest : List Expr} (ha : PE X a (tOf g ma)) (hb : PE X (.BoolOp .And (b :: rest) pos) (tOf g mb)) : PE X (.BoolOp .And (a :: b :: rest) pos) (tOf g fun env => andM (ma env) (mb env)) := by
  refine PE.weak (pe_and ha hb) fun σ H Q ⟨r, env, m, c⟩ => ⟨r, env, m, c.bnd.mono fun v H1 ⟨r1, d1, m1, x1, t1, _, c1⟩ => ?_⟩
  cases d1 with
  | bl k =>
    refine ⟨k, t1, ?_⟩
    cases k with
    | false => exact c1.here rfl
    | true => exact ⟨r1, env, m1, c1⟩
  | _ => exact c1.2.2.elim
theorem or_v {rest : List Expr} (ha : PE X a (tOf g ma)) (hb : PE X (.BoolOp .Or (b :: rest) pos) (tOf g mb)) : PE X (.BoolOp .Or (a :: b :: rest) pos) (tOf g fun env => orM (ma env) (mb env)) := by
  refine PE.weak (pe_or ha hb) fun σ H Q ⟨r, env, m, c⟩ => ⟨r, env, m, c.bnd.mono fun v H1 ⟨r1, d1, m1, x1, t1, _, c1⟩ => ?_⟩
  cases d1 with
  | bl k =>
    refine ⟨k, t1, ?_⟩
    cases k with
    | true => exact c1.here rfl
    | false => exact ⟨r1, env, m1, c1⟩
  | _ => exact c1.2.2.elim
theorem not_v (ha : PE X a (tOf g ma)) : PE X (.UnaryOp .Not a pos) (tOf g fun env => notM (ma env)) := by
  refine PE.weak (pe_not ha) fun σ H Q ⟨r, env, m, c⟩ => ⟨r, env, m, c.bnd.mono fun v H1 ⟨r1, d1, m1, x1, t1, _, c1⟩ => ?_⟩
  cases d1 with
  | bl k => exact ⟨k, t1, c1.here rfl⟩
  | _ => exact c1.2.2.elim
theorem PW.weak {X : Cx} {e : Expr} {t t' : L2.TT} (h : PW X e t) (w : ∀ σ H Q, t' σ H Q → t σ H Q) : PW X e t' := ⟨fun wh pins s σ H Q I q => h.run wh pins s σ H Q I (w σ H Q q)⟩
theorem and_t {rest : List Expr} (ha : PT X a (tTe g ma)) (hb : PW X (.BoolOp .And (b :: rest) pos) (tTe g mb)) : PW X (.BoolOp .And (a :: b :: rest) pos) (tTe g fun env => andM (ma env) (mb env)) := by
  refine PW.weak (pw_and ha hb) fun σ H Q ⟨r, env, m, c⟩ => ⟨r, env, m, c.bnd.mono fun v H1 ⟨r1, d1, m1, x1, t1, _, c1⟩ => ?_⟩
  cases d1 with
  | bl k =>
    refine ⟨k, t1, ?_⟩
    cases k with
    | false =>
      obtain ⟨b, e, q⟩ := c1.here (b := V.bl false) rfl
      cases e
      exact q
    | true => exact ⟨r1, env, m1, c1⟩
  | _ => exact c1.2.2.elim
theorem or_t {rest : List Expr} (ha : PT X a (tTe g ma)) (hb : PW X (.BoolOp .Or (b :: rest) pos) (tTe g mb)) : PW X (.BoolOp .Or (a :: b :: rest) pos) (tTe g fun env => orM (ma env) (mb env)) := by
  refine PW.weak (pw_or ha hb) fun σ H Q ⟨r, env, m, c⟩ => ⟨r, env, m, c.bnd.mono fun v H1 ⟨r1, d1, m1, x1, t1, _, c1⟩ => ?_⟩
  cases d1 with
  | bl k =>
    refine ⟨k, t1, ?_⟩
    cases k with
    | true =>
      obtain ⟨b, e, q⟩ := c1.here (b := V.bl true) rfl
      cases e
      exact q
    | false => exact ⟨r1, env, m1, c1⟩
  | _ => exact c1.2.2.elim
theorem not_t (ha : PT X a (tTe g ma)) : PT X (.UnaryOp .Not a pos) (tTe g fun env => notM (ma env)) := by
  refine PT.weak (pt_not ha) fun σ H Q ⟨r, env, m, c⟩ => ⟨r, env, m, c.bnd.mono fun v H1 ⟨r1, d1, m1, x1, t1, _, c1⟩ => ?_⟩
  cases d1 with
  | bl k =>
    refine ⟨k, t1, ?_⟩
    obtain ⟨b, e, q⟩ := c1.here (b := V.bl (!k)) rfl
    cases e
    exact q
  | _ => exact c1.2.2.elim
theorem ite_v (hc : PT X c (tTe g mc)) (ha : PE X a (tOf g ma)) (hb : PE X b (tOf g mb)) : PE X (.IfExp c a b pos) (tOf g fun env => iteM (mc env) (ma env) (mb env)) := by
  refine PE.weak (pe_ifExp hc ha hb) fun σ H Q ⟨r, env, m, c⟩ => ⟨r, env, m, c.bnd.mono fun v H1 ⟨r1, d1, m1, x1, t1, _, c1⟩ => ?_⟩
  cases d1 with
  | bl k =>
    refine ⟨k, t1, ?_⟩
    cases k with
    | false => exact ⟨r1, env, m1, c1⟩
    | true => exact ⟨r1, env, m1, c1⟩
  | _ => exact c1.2.2.elim
/-! ### rows, subscripts -/
theorem se_neg (ha : PE X a (tOf g ma)) : PE X (.UnaryOp .USub a pos) (tOf g fun env => bnd (ma env) fun x => match x with
    | .int i => ret (.int (-i))
    | _ => bad) := by
  refine PE.weak (pe_un un_neg ha) fun σ H Q ⟨r, env, m, c⟩ => ⟨r, env, m, c.bnd.mono fun v H1 ⟨r1, d1, m1, x1, t1, _, c1⟩ => ?_⟩
  cases d1 with
  | int i => exact ⟨i, t1, c1.here rfl⟩
  | _ => exact c1.2.2.elim
theorem se_idx (hg : g.K = X.K) (hu : X.A.units + 9 < cLine) (ha : PE X a (tOf g ma)) (hb : PE X b (tOf g mb)) (hs : PlainIx b) : PE X (.Subscript a b pos) (tOf g fun env => bnd (ma env) fun x => bnd (mb env) fun y => fun m => ofO (idxD m x y) m) :=
  PE.weak (pe_ix (ix_idx hg hu) ha hb hs) fun σ H Q ⟨r, env, m, c⟩ =>
    ⟨r, env, m, c.bnd.mono fun v H1 ⟨r1, d1, m1, x1, t1, _, c1⟩ => ⟨r1, env, m1, c1.bnd.mono fun w H2 ⟨r2, d2, m2, x2, t2, _, c2⟩ => ⟨r2, m2, σ, env, d1, d2, Rp.kp (x2.toKp c1.1) _ _ t1, t2, c2⟩⟩⟩
/-- a bound of a slice -/
def tBd (g : Gd) (n : Env → M D) : L2.TO := fun σ H Q => tOf g n σ H fun v H' => ∃ o, (∃ i, v = .int i ∧ o = some i ∨ v = .non ∧ o = none) ∧ Q o H'
end
section
variable {X : Cx} {g : Gd} {es : List Expr} {ms : Env → M (List D)} {pos : Pos}
theorem sa_nil : PA X [] (tOfs g fun _ => ret []) := PA.weak pa_nil fun σ H Q ⟨r, env, m, c⟩ => c.here rfl
theorem sa_cons {e : Expr} {n : Env → M D} (he : PE X e (tOf g n)) (hr : PA X es (tOfs g ms)) (hs : starEach (e :: es) X.env = (false, eval e X.env) :: starEach es X.env) :
    PA X (e :: es) (tOfs g fun env => bnd (n env) fun d => bnd (ms env) fun ds => ret (d :: ds)) :=
  PA.weak (pa_cons he hr hs) fun σ H Q ⟨r, env, m, c⟩ =>
    ⟨r, env, m, c.bnd.mono fun v H1 ⟨r1, d1, m1, x1, t1, _, c1⟩ => ⟨r1, env, m1, c1.bnd.mono fun w H2 ⟨r2, d2, m2, x2, t2, _, c2⟩ => c2.here ⟨v, w, rfl, Rp.kp (x2.toKp c1.1) _ _ t1, t2⟩⟩⟩
theorem se_tup {k : Nat} (hz : es.length ≤ sizeLine) (h : PA X es (tOfs g ms)) (hl : ∀ r H σ env m Q, Cn g (Rps g.K) σ env r H (ms env) m Q → Cn g (Rps g.K) σ env r H (ms env) m fun vs H' => vs.length ≤ sizeLine ∧ Q vs H') :
    PE X (.Tuple es k pos) (tOf g fun env => bnd (ms env) fun ds => ret (.tup ds)) :=
  PE.weak (pe_tup h) fun σ H Q ⟨r, env, m, c⟩ =>
    ⟨r, env, m, (hl r H σ env m _ c.bnd).mono fun vs H1 ⟨hz, r1, ds, m1, x1, t1, _, c1⟩ => ⟨hz, fun p hp => c1.tup t1 p hp⟩⟩
theorem se_lst (hz : es.length ≤ sizeLine) (h : PA X es (tOfs g ms)) (hl : ∀ r H σ env m Q, Cn g (Rps g.K) σ env r H (ms env) m Q → Cn g (Rps g.K) σ env r H (ms env) m fun vs H' => vs.length ≤ sizeLine ∧ Q vs H') :
    PE X (.List es pos) (tRawS g fun env => bnd (ms env) fun ds => ret (.lst ds)) :=
  PE.weak (pe_lst h) fun σ H Q ⟨r, env, m, c⟩ =>
    ⟨r, env, m, (hl r H σ env m _ c.bnd).mono fun vs H1 ⟨hz, r1, ds, m1, x1, t1, _, c1⟩ => ⟨hz, fun p hp => c1.2.2 r1 _ _ (Ext.new hp) (c1.1.new hp) ⟨ds, p, vs, rfl, rfl, upd_same, c1.1.fresh hp, Rps.kp (Kp.new hp) _ _ t1, x1.gone c.1 c1.1 hp⟩⟩⟩
end
end Dh


set_option Elab.async false
set_option linter.all false
set_option maxRecDepth 100000
set_option maxHeartbeats 4000000
/-! DhFn: a def of the program keeps what its own meaning tells; calls. -/
namespace Dh
open PySem PySem.Spec PyProof.Rows L2

/-- room for k calls; nothing is being shown -/
structure Roomy (k : Nat) (A : Around) : Prop where
  room : Room k A
  gd : A.guards = some []
theorem Roomy.mono {j k : Nat} {A : Around} (r : Roomy k A) (h : j ≤ k) : Roomy j A := ⟨r.room.mono h, r.gd⟩
/-- a def's promise, where nothing is being shown -/
structure FnG (P : Program) (w : World) (K : Frag) (mg : Str → Option Value) (base : Heap) (k : Nat) (f : Addr) (fd : FuncData) (ps : List Str) (sp : Sp) : Prop where
  len : ∀ vs H Q E, sp vs H Q E → vs.length = ps.length
  go : ∀ (A : Around) (o : List PySem.Env) (s : Shared) (H : Hp) (ar : Args) (us : List Value) (vs : List V) (Q : VK) (E : XK), Roomy k A →
    Env0 P w K mg base A o s H → BindsTo s fd ar (ps.zip us) → Vals vs us → sp vs H Q E → codeAny (model P w) A (.call (.ref f) ar) (CR (L2.CX P w) o P w H s Q E) s
section
variable {P : Program} {w : World} {K : Frag} {mg : Str → Option Value} {base : Heap} {k : Nat} {f : Addr} {fd : FuncData} {ps : List Str} {sp : Sp}
theorem FnG.mono {j : Nat} (F : FnG P w K mg base j f fd ps sp) (h : j ≤ k) : FnG P w K mg base k f fd ps sp :=
  ⟨F.len, fun A o s H ar us vs Q E hr => F.go A o s H ar us vs Q E (hr.mono h)⟩
/-- by its body -/
theorem fnG_of {x qual : Str} {params : Arguments} {body : List Stmt} {scope : Scope} {dvs : List V} {kws : List (Str × V)} {N : List Str} (F : FunD K x qual params body scope dvs kws f fd) (S : FnScope N ps scope)
    (len : ∀ vs H Q E, sp vs H Q E → vs.length = ps.length)
    (hb : ∀ (cdv : Value) (A : Around) (o : List PySem.Env) (s : Shared) (H : Hp) (vs : List V) (Q : VK) (E : XK), Roomy k (A.deeper (envOfC qual scope s.heap.objs.size f cdv)) → sp vs H Q E →
      ∃ t, PSs (cxOf (L2.CX P w) P w K mg base N qual scope f cdv A o s H E) body t ∧ t { nx := fun _ H' => Q .non H', rt := Q } (start N vs) H) : FnG P w K mg base (k + 1) f fd ps sp := by
  obtain ⟨oc, od, dV, kV, doc, pm, an, cdv, ct, osl, rfl, lk, hcd, _, _⟩ := F.ex
  refine ⟨len, ?_⟩
  intro A o s H ar us vs Q E hr e0 bd r hsp
  have hl := len vs H Q E hsp
  have stays : ∀ b ob, base.get? b = some ob → s.heap.get? b = some ob := fun b ob e => (e0.bs b ob e).1
  have KX : K.In s.heap := e0.mod.kin.keeps stays
  have hk : ∀ y ∈ ps.zip us, scope.names.lookup y.1 = some .local ∨ (scope.names.lookup y.1 = some .cell ∧ ((cellsFrom (s.heap.objs.size + 1) scope.names []).lookup y.1).isSome = true) := by
    rintro ⟨n, v⟩ hy
    have hn := S.par n (List.of_mem_zip hy).1
    exact hn.imp id fun q => ⟨q, PySem.W.cellsFrom_some _ _ _ (.inl q)⟩
  refine codeAny_call_function hr.room.depth (KX _ _ lk) rfl S.co S.gen rfl
    (PySem.W.codeRec_of KX hcd) (bd _ _ _ _ (wpAny_newFunctionEnv_cells S.kind hk ?_))
  intro env he s1 x
  subst he
  refine ⟨(e0.mod.nolimit.keeps stays).keeps x.toInCall.keep, codeAny_func ?_⟩
  obtain ⟨t, ht, hq⟩ := hb cdv A o s H vs Q E ⟨hr.room.deeper _, hr.gd⟩ hsp
  have J0 : Inv (cxOf (L2.CX P w) P w K mg base N qual scope f cdv A o s H E) [] (start N vs) H s1 := inv_start S hr.room.hd e0 hl r x
  refine wpAny_mono (ht.run [] s1 (start N vs) H _ J0 hq) ?_ (fun _ _ hs => hs)
  intro fl s' hs
  cases fl with
  | ret u =>
    obtain ⟨v, σ', H', J, rv, q⟩ := hs
    exact ⟨v, H', J.os, J.bare, J.base, J.hok, rv, q⟩
  | next =>
    obtain ⟨σ', H', J, q⟩ := hs
    exact ⟨V.non, H', J.os, J.bare, J.base, J.hok, rfl, q⟩
  | brk => exact hs.elim fun _ z => z.elim fun _ z => z.2.elim
  | cont => exact hs.elim fun _ z => z.elim fun _ z => z.2.elim
end
/-- what a def's meaning asks of the heap, and gives -/
def spOf (K : Frag) (XR : Ex → List Addr → Hp → Value → Option Addr → Prop) (n : Nat) (f : List D → M D) : Sp := fun vs H Q E => vs.length = n ∧ ∃ r ds m, StoOk K r H m ∧ Rps K r H ds vs ∧ match f ds m with
  | .ok d m' => ∀ r' H' v, Ext r H r' H' → StoOk K r' H' m' → Rp K r' H' d v → Q v H'
  | .exc e m' => ∀ r' H' c od, Ext r H r' H' → StoOk K r' H' m' → XR e r' H' c od → E c od H'
  | .bad => False
theorem Cn.call {g : Gd} {σ : L2.St} {env : Env} {r : List Addr} {H : Hp} {m : Sto} {Q : VK} {F : List D → M D} {ds : List D} {vs : List V} {n : Nat} (c : Cn g (Rp g.K) σ env r H (F ds) m Q) (t : Rps g.K r H ds vs) (l : vs.length = n) :
    spOf g.K g.X n F vs H Q fun c d H' => g.W c d σ H' := by
  refine ⟨l, r, ds, m, c.1, t, ?_⟩
  have z := c.2.2
  cases hF : F ds m with
  | bad =>
    rw [hF] at z
    exact z
  | exc x m' =>
    rw [hF] at z
    exact z
  | ok d m' =>
    rw [hF] at z
    exact z
section
variable {X : Cx} {g : Gd} {k : Nat} {f : Addr} {fd : FuncData} {ps : List Str} {F : List D → M D} {x : Str} {p pos : Pos} {e : Expr} {es : List Expr} {ms : Env → M (List D)}
theorem run_g {pins : List (Addr × Obj)} {σ : L2.St} {H : Hp} {s : Shared} {Q : VK} {us : List Value} {vs : List V} {ar : Args} {sp : Sp} (G : FnG X.prog X.w X.K X.mg X.base k f fd ps sp) (hr : Roomy k X.A) (tk : Takes X g.W) (I : Inv X pins σ H s)
    (bd : BindsTo s fd ar (ps.zip us)) (rv : Vals vs us) (h : sp vs H Q fun c d H' => g.W c d σ H') : codeAny (model X.prog X.w) X.A (.call (.ref f) ar) (fun r s' => match r with
      | .ok (.ret u) => EP X pins σ Q u s'
      | .ok _ => False
      | .error z => X.xe z s') s := by
  refine codeAny_mono (G.go X.A X.stack s H ar us vs Q _ hr I.env0 bd rv h) fun r s' hq => ?_
  cases r with
  | error z => exact passAt tk σ pins H s z s' I hq
  | ok fl => cases fl with
    | ret u => exact I.after hq
    | next => exact hq
    | brk => exact hq
    | cont => exact hq
/-- f(e, ..) -/
theorem se_call (hg : g.K = X.K) (G : FnG X.prog X.w X.K X.mg X.base k f fd ps (spOf X.K g.X ps.length F)) (hr : Roomy k X.A) (tk : Takes X g.W) (hgl : Gl X x) (hm : X.mg x = some (.ref f)) (hk : PySem.W.keepIn X.K (.ref f) = true) (hb : Binds X.K fd ps [])
    (ha : PA X (e :: es) (tOfs g ms)) (hdb : (x == ("__debug__" : Str)) = false) (he : starEach (e :: es) X.env = (false, eval e X.env) :: starEach es X.env) (hpl : (backTo pos (starEach es X.env)).any (·.1) = false)
    (hl : ∀ r H σ env m Q, Cn g (Rps g.K) σ env r H (ms env) m Q → Cn g (Rps g.K) σ env r H (ms env) m fun vs H' => vs.length = ps.length ∧ Q vs H') :
    PE X (.Call (.Name x p) (e :: es) [] pos) (tOf g fun env => bnd (ms env) fun ds => F ds) := by
  refine ⟨fun pins s σ H Q I ⟨r, env, m, c⟩ => ?_⟩
  refine wpAny_Call_Name_kw (ld_glob I hgl hm ?_ hdb)
  refine PySem.W.callWith_K (h₀ := X.base) I.ok.mod.kin hk (thn (ha.run pos pins s σ H _ I ⟨r, env, m, hl r H σ env m _ c.bnd⟩) ?_) he hpl
  rintro us s1 ⟨vs, H1, I1, rv, hlen, r1, ds, m1, x1, t1, _, c1⟩
  refine ⟨I1.kIn, ?_⟩
  have bd := hb s1 us I1.kIn (by rw [List.append_nil, ← rv.length]; exact hlen)
  rw [List.append_nil] at bd
  have z := run_g (Q := Q) G hr tk I1 bd rv (by rw [← hg]; exact c1.call t1 hlen)
  refine wpAny_call (codeAny_mono z fun r s' hq => ?_)
  cases r with
  | error z => exact hq
  | ok fl => cases fl with
    | ret u => exact hq
    | _ => exact hq.elim
theorem se_call0 (hg : g.K = X.K) (G : FnG X.prog X.w X.K X.mg X.base k f fd [] (spOf X.K g.X 0 F)) (hr : Roomy k X.A) (tk : Takes X g.W) (hgl : Gl X x) (hm : X.mg x = some (.ref f)) (hk : PySem.W.keepIn X.K (.ref f) = true) (hb : Binds X.K fd [] [])
    (hdb : (x == ("__debug__" : Str)) = false) : PE X (.Call (.Name x p) [] [] pos) (tOf g fun env => bnd (ret []) fun ds => F ds) := by
  refine ⟨fun pins s σ H Q I ⟨r, env, m, c⟩ => ?_⟩
  refine wpAny_Call_Name_kw (ld_glob I hgl hm ?_ hdb)
  refine PySem.W.callWith_K0 I.kIn hk ?_
  have bd := hb s [] I.kIn rfl
  have z := run_g (Q := Q) (us := []) (vs := []) G hr tk I bd .nil (by rw [← hg]; exact Cn.call (ds := []) (show Cn g (Rp g.K) σ env r H (F []) m Q from c) rfl rfl)
  refine wpAny_call (codeAny_mono z fun r s' hq => ?_)
  cases r with
  | error z => exact hq
  | ok fl => cases fl with
    | ret u => exact hq
    | _ => exact hq.elim
end
end Dh


set_option Elab.async false
set_option linter.all false
set_option maxRecDepth 100000
set_option maxHeartbeats 4000000
/-! DhExp2: calls of built-ins, isinstance, new lists, slices, comprehensions, texts in braces. -/
namespace Dh
open PySem PySem.Spec PyProof.Rows L2
section
variable {X : Cx} {g : Gd} {x : Str} {p pos : Pos} {e : Expr} {es : List Expr} {ms : Env → M (List D)} {id : String} {f : Bf}
theorem blt_weak (hc : ∀ {σ : L2.St} {H : Hp} {Q : VK}, tOf g (fun env => bnd (ms env) fun ds => fun m => ofO (blt m f ds) m) σ H Q → tCB (rCl g fun m => blt m f) (tOfs g ms) σ H Q) : True := trivial
theorem blt_tr {σ : L2.St} {H : Hp} {Q : VK} (h : tOf g (fun env => bnd (ms env) fun ds => fun m => ofO (blt m f ds) m) σ H Q) : tCB (rCl g fun m => blt m f) (tOfs g ms) σ H Q := by
  obtain ⟨r, env, m, c⟩ := h
  exact ⟨r, env, m, c.bnd.mono fun vs H1 ⟨r1, ds, m1, x1, t1, _, c1⟩ => ⟨r1, m1, σ, env, ds, t1, c1⟩⟩
theorem se_bltB (hc : CallR X (.builtin id) (rCl g fun m => blt m f)) (hg : Gl X x) (hm : X.mg x = none) (hv : bootBuiltins x = some (.builtin id)) (ha : PA X (e :: es) (tOfs g ms)) (hn : x ≠ "__name__") (hdb : (x == ("__debug__" : Str)) = false)
    (he : starEach (e :: es) X.env = (false, eval e X.env) :: starEach es X.env) (hpl : (backTo pos (starEach es X.env)).any (·.1) = false) :
    PE X (.Call (.Name x p) (e :: es) [] pos) (tOf g fun env => bnd (ms env) fun ds => fun m => ofO (blt m f ds) m) :=
  PE.weak (pe_callB hc hg hm hv ha hn hdb he hpl) fun σ H Q h => blt_tr h
theorem se_bltT (hc : CallR X (.type id) (rCl g fun m => blt m f)) (hg : Gl X x) (hm : X.mg x = none) (hv : bootBuiltins x = some (.type id)) (ha : PA X (e :: es) (tOfs g ms)) (hn : x ≠ "__name__") (hdb : (x == ("__debug__" : Str)) = false)
    (he : starEach (e :: es) X.env = (false, eval e X.env) :: starEach es X.env) (hpl : (backTo pos (starEach es X.env)).any (·.1) = false) :
    PE X (.Call (.Name x p) (e :: es) [] pos) (tOf g fun env => bnd (ms env) fun ds => fun m => ofO (blt m f ds) m) :=
  PE.weak (pe_callTy hc hg hm hv ha hn hdb he hpl) fun σ H Q h => blt_tr h
theorem se_bltM (hc : CallR X (.builtin id) (rCl g fun m => blt m f)) (hg : Gl X x) (hm : X.mg x = some (.builtin id)) (ha : PA X (e :: es) (tOfs g ms)) (hdb : (x == ("__debug__" : Str)) = false)
    (he : starEach (e :: es) X.env = (false, eval e X.env) :: starEach es X.env) (hpl : (backTo pos (starEach es X.env)).any (·.1) = false) :
    PE X (.Call (.Name x p) (e :: es) [] pos) (tOf g fun env => bnd (ms env) fun ds => fun m => ofO (blt m f ds) m) :=
  PE.weak (pe_callBfun hc hg hm ha hdb he hpl) fun σ H Q h => blt_tr h
end
/-! ### isinstance -/
def tyName : Ty → String
  | .int => "int" | .bool => "bool" | .tuple => "tuple" | .str => "str" | .list => "list" | .dict => "dict"
/-- the type of a thing, by its name -/
def dTy : D → String
  | .non => "NoneType" | .bl _ => "bool" | .int _ => "int" | .str _ => "str" | .tup _ => "tuple" | .lst _ => "list" | .edict => "dict" | .loc _ => "list"
def isLoc : D → Bool
  | .loc _ => true
  | _ => false
theorem tupTy {K : Frag} {H : Hp} {a : Addr} {vs : List V} (q : SqT K H a vs) : TyX K H (.ref a) (.type "tuple") := by
  rcases q with (q | ⟨o, q⟩) | ⟨o, its, n, h1, h2, _⟩
  · exact .base (.tup q)
  · exact .fTuple q
  · exact .kTuple h1 h2
theorem lstTy {K : Frag} {H : Hp} {a : Addr} {vs : List V} (q : SqL K H a vs) : TyX K H (.ref a) (.type "list") := by
  rcases q with (q | ⟨o, q⟩) | ⟨o, its, n, h1, h2, _⟩
  · exact .base (.lst q)
  · exact .base (.frz q)
  · exact .kList h1 h2
theorem Rp.ty {K : Frag} {r : List Addr} {H : Hp} : ∀ {d : D} {v : V}, isLoc d = false → Rp K r H d v → TyX K H v (.type (dTy d))
  | .non, _, _, h => by
    rw [show _ = V.non from h]
    exact .base .non
  | .bl b, _, _, h => by
    rw [show _ = V.bl b from h]
    exact .base (.bl b)
  | .int i, _, _, h => by
    rw [show _ = V.int i from h]
    exact .base (.int i)
  | .str s, _, _, h => by
    rw [show _ = V.str ⟨s.toArray⟩ from h]
    exact .base (.str _)
  | .tup ds, _, _, ⟨a, vs, e, q, _⟩ => by
    rw [e]
    exact tupTy q
  | .lst ds, _, _, ⟨a, vs, e, q, _⟩ => by
    rw [e]
    exact lstTy q.sq
  | .edict, _, _, ⟨a, o, e, q⟩ => by
    rw [e]
    exact .fDict q
  | .loc n, _, h, _ => by cases h
/-- isinstance of a dict of tuples -/
theorem call_isD {X : Cx} : CallR X (.builtin "isinstance") (fun xs H Q => ∃ a xs' c b, xs = [.ref a, .ty c] ∧ H a = some (DcO a xs') ∧ PySem.W.kitOne X.K (.type "dict") (.type c) = some b ∧ Q (.bl b) H) := by
  intro pins s σ H xs us Q I rr h
  obtain ⟨a, xs', c, b, rfl, ha, k, q⟩ := h
  obtain ⟨u1, u2, rfl, r1, r2⟩ := vals2 rr
  cases (show u1 = Value.ref a from r1)
  obtain rfl : u2 = Value.type c := r2
  obtain ⟨⟨_, _, _, _, o, es, ep, h1, h2, _⟩, _⟩ := (show ObjOk X.prog X.w H s.heap a (DcO a xs') from I.hok a _ ha)
  exact PySem.W.kia_one PySem.W.kitx_dict I.kIn ⟨o, h1, h2.1⟩ k (fun z => nomatch z) fun tk => ⟨.bl b, H, I.tok tk, rfl, q⟩
theorem kit_dict {K : Frag} (t : Ty) : PySem.W.kitOne K (.type "dict") (.type (tyName t)) = some (decide (t = .dict)) := by
  refine kit_ty ?_
  cases t <;> (dsimp only [tyName]; decide +kernel)
theorem kit_list {K : Frag} (t : Ty) : PySem.W.kitOne K (.type "list") (.type (tyName t)) = some (decide (t = .list)) := by
  refine kit_ty ?_
  cases t <;> (dsimp only [tyName]; decide +kernel)
theorem isaM_loc (m : Sto) (t : Ty) (n : Nat) : isaM m t (.loc n) = if isDic m n = true then decide (t = .dict) else decide (t = .list) := by
  cases h : isDic m n <;> cases t <;> simp [isaM, isa, h]
theorem isaM_not {m : Sto} {t : Ty} {d : D} (h : isLoc d = false) : isaM m t d = isa t d := by
  cases d with
  | loc n => cases h
  | _ => cases t <;> rfl
theorem StoOk.isD {K : Frag} {r : List Addr} {H : Hp} {m : Sto} (s : StoOk K r H m) {n : Nat} {a : Addr} (h : r[n]? = some a) (hd : isDic m n = true) : ∃ xs, H a = some (DcO a xs) := by
  unfold isDic at hd
  cases ho : m[n]? with
  | none =>
    rw [ho] at hd
    cases hd
  | some o =>
    cases o with
    | lst ds =>
      rw [ho] at hd
      cases hd
    | dic kvs => exact let ⟨xs, h1, _⟩ := s.ob n a _ h ho; ⟨xs, h1⟩
theorem kit_of {K : Frag} (t : Ty) (d : D) : PySem.W.kitOne K (.type (dTy d)) (.type (tyName t)) = some (isa t d) := by
  refine kit_ty ?_
  cases t <;> cases d <;> (dsimp only [dTy, tyName, isa]; decide +kernel)
section
variable {X : Cx} {g : Gd} {x : Str} {p pos : Pos} {e : Expr} {n : Env → M D}
theorem se_isa (hg : g.K = X.K) (t : Ty) {y : Str} {p2 : Pos} (he : PE X e (tOf g n)) (h1 : Gl X "isinstance") (h2 : X.mg "isinstance" = none) (h3 : Gl X y) (h4 : X.mg y = none) (h5 : bootBuiltins y = some (.type (tyName t))) (hn : y ≠ "__name__") (hd : (y == ("__debug__" : Str)) = false)
    (hs : starEach [e, .Name y p2] X.env = (false, eval e X.env) :: starEach [.Name y p2] X.env) :
    PE X (.Call (.Name "isinstance" p) [e, .Name y p2] [] pos) (tOf g fun env => bnd (n env) fun d => fun m => .ok (.bl (isaM m t d)) m) := by
  have hy : PE X (.Name y p2) (L2.tC (.ty (tyName t))) := pe_bltn h3 h4 h5 rfl hn hd
  have hc : CallR X (.builtin "isinstance") (fun xs H Q => rIsi X.K xs H Q ∨ ∃ a xs' c b, xs = [.ref a, .ty c] ∧ H a = some (DcO a xs') ∧ PySem.W.kitOne X.K (.type "dict") (.type c) = some b ∧ Q (.bl b) H) :=
    fun pins s σ H xs us Q I rr h => h.elim (call_isi pins s σ H xs us Q I rr) (call_isD pins s σ H xs us Q I rr)
  refine PE.weak (pe_callB (id := "isinstance") hc h1 h2 (by decide +kernel) (pa_cons he (pa_cons hy pa_nil) hs) (by decide +kernel) (by decide +kernel) hs rfl) fun σ H Q ⟨r, env, m, c⟩ => ?_
  refine ⟨r, env, m, c.bnd.mono fun v H1 ⟨r1, d, m1, x1, t1, _, c1⟩ => ?_⟩
  have fin : Q (.bl (isaM m1 t d)) H1 := c1.2.2 r1 H1 _ (Ext.refl _ _) c1.1 rfl
  cases hl : isLoc d with
  | false =>
    rw [isaM_not hl] at fin
    exact .inl ⟨v, .ty (tyName t), _, _, _, rfl, .ty _, Rp.ty hl (hg ▸ t1), kit_of t d, fin⟩
  | true =>
    cases d with
    | loc n =>
      obtain ⟨a, rfl, ha⟩ := t1
      rw [isaM_loc] at fin
      cases hd : isDic m1 n with
      | true =>
        rw [hd, if_pos rfl] at fin
        obtain ⟨xs, hx⟩ := c1.1.isD ha hd
        exact .inr ⟨a, xs, _, _, rfl, hx, kit_dict t, fin⟩
      | false =>
        rw [hd, if_neg (by decide)] at fin
        obtain ⟨vs, hv⟩ := c1.1.isL ha hd
        exact .inl ⟨.ref a, .ty (tyName t), _, _, _, rfl, .ty _, .base (.lst hv), kit_list t, fin⟩
    | _ => cases hl
/-! ### new lists of others, slices -/
theorem se_listOf (hg : g.K = X.K) (ha : PE X e (tOf g n)) (h1 : Gl X "list") (h2 : X.mg "list" = none) (hs : starEach [e] X.env = (false, eval e X.env) :: starEach [] X.env) :
    PE X (.Call (.Name "list" p) [e] [] pos) (tRawS g fun env => bnd (n env) fun d => fun m => ofO ((seqOf m d).map .lst) m) := by
  refine PE.weak (pe_callTy call_list_of h1 h2 (by decide +kernel) (pa_cons ha pa_nil hs) (by decide +kernel) (by decide +kernel) hs rfl) fun σ H Q ⟨r, env, m, c⟩ => ?_
  refine ⟨r, env, m, c.bnd.mono fun v H1 ⟨r1, d, m1, x1, t1, _, c1⟩ => ?_⟩
  have z := c1.2.2
  dsimp only at z
  cases hs : seqOf m1 d with
  | none =>
    rw [hs] at z
    exact z.elim
  | some ds =>
    rw [hs] at z
    obtain ⟨a, vs, rfl, q, t⟩ := c1.1.seq t1 hs
    have fin : ∀ r' H' b, Ext r1 H1 r' H' → StoOk g.K r' H' m1 → RfS g.K H r' H' (.lst ds) b → Q b H' := z
    refine ⟨a, vs, rfl, hg ▸ q, fun l hl => fin r1 _ _ (Ext.new hl) (c1.1.new hl) ⟨ds, l, vs, rfl, rfl, upd_same, c1.1.fresh hl, Rps.kp (Kp.new hl) _ _ t, x1.gone c.1 c1.1 hl⟩⟩
end
/-- a bound -/
def tPo (g : Gd) (n : Env → M (Option Int)) : L2.TO := fun σ H Q => ∃ r env m, Cn g (fun _ _ a b => a = b) σ env r H (n env) m Q
section
variable {X : Cx} {g : Gd} {p pos : Pos} {e : Expr} {n : Env → M D} {lo hi : Option Expr} {nl nh : Env → M (Option Int)}
theorem PO.weak {e : Option Expr} {t t' : L2.TO} (h : PO X e t) (w : ∀ σ H Q, t' σ H Q → t σ H Q) : PO X e t' := ⟨fun pins s σ H Q I q => h.run pins s σ H Q I (w σ H Q q)⟩
theorem sp_none : PO X none (tPo g fun _ => bnd (ret D.non) fun d => ofO (partOf true d)) :=
  PO.weak po_none fun σ H Q ⟨r, env, m, c⟩ => c.2.2 r H none (Ext.refl r H) c.1 rfl
theorem sp_some (h : PE X e (tOf g n)) : PO X (some e) (tPo g fun env => bnd (n env) fun d => ofO (partOf false d)) := by
  refine PO.weak (po_some h) fun σ H Q ⟨r, env, m, c⟩ => ⟨r, env, m, c.bnd.mono ?_⟩
  rintro v H1 ⟨r1, d, m1, x1, t1, _, c1⟩
  cases d with
  | int i => exact ⟨i, t1, c1.2.2 r1 H1 (some i) (Ext.refl _ _) c1.1 rfl⟩
  | _ => exact c1.2.2.elim
theorem se_sl {p2 : Pos} (hg : g.K = X.K) (ha : PE X e (tOf g n)) (hl : PO X lo (tPo g nl)) (hh : PO X hi (tPo g nh)) :
    PE X (.Subscript e (.Slice lo hi none p2) pos) (tRaw g fun env => bnd (n env) fun x => bnd (nl env) fun l => bnd (nh env) fun h => fun m => ofO (slD m x l h) m) := by
  refine PE.weak (pe_slice (sl_sl hg) ha hl hh) fun σ H Q ⟨r, env, m, c⟩ => ?_
  refine ⟨r, env, m, c.bnd.mono fun v H1 ⟨r1, d, m1, x1, t1, _, c1⟩ => ⟨r1, env, m1, c1.bnd.mono fun l H2 ⟨r2, l', m2, x2, t2, _, c2⟩ => ⟨r2, env, m2, c2.bnd.mono fun h H3 ⟨r3, h', m3, x3, t3, _, c3⟩ => ?_⟩⟩⟩
  have e2 : l' = l := t2
  have e3 : h' = h := t3
  subst e2 e3
  refine ⟨r3, m3, σ, env, d, Rp.kp (x3.toKp c2.1) _ _ (Rp.kp (x2.toKp c1.1) _ _ t1), c3.1, c3.2.1, ?_⟩
  have z := c3.2.2
  dsimp only at z ⊢
  cases hs : slD m3 d l' h' with
  | none =>
    rw [hs] at z
    exact z
  | some o =>
    rw [hs] at z
    have z2 : ∀ r' H' b, Ext r3 H3 r' H' → StoOk g.K r' H' m3 → Rf g.K H r' H' o b → Q b H' := z
    show ∀ r' H' b, Ext r3 H3 r' H' → StoOk g.K r' H' m3 → Rf g.K H3 r' H' o b → Q b H'
    refine fun r' H' b x s t => z2 r' H' b x s ?_
    rcases t with t | ⟨ds, p, vs, a1, a2, a3, a4, a5, a6⟩
    · exact .inl t
    · exact .inr ⟨ds, p, vs, a1, a2, a3, a4, a5, ((x1.trans x2).trans x3).gone c.1 c3.1 a6⟩
end
/-! ### texts in braces -/
section
variable {X : Cx} {g : Gd} {e : Expr} {n : Env → M D} {pos : Pos}
theorem se_fv (he : PE X e (tOf g n)) : PE X (.FormattedValue e (-1) none pos) (tOf g fun env => bnd (n env) fun d => ofO (fmtD d)) := by
  refine PE.weak (pe_fmt he) fun σ H Q ⟨r, env, m, c⟩ => ⟨r, env, m, c.bnd.mono ?_⟩
  rintro v H1 ⟨r1, d, m1, x1, t1, _, c1⟩
  obtain ⟨d', hd, c2⟩ := c1.ofO
  have hl := limLe
  cases d with
  | str s =>
    simp only [fmtD] at hd
    split at hd
    · cases hd
      exact .inl ⟨_, t1, by rw [strLen]; omega, c2.here rfl⟩
    · cases hd
  | int i =>
    simp only [fmtD] at hd
    split at hd
    · rename_i hz
      cases hd
      exact .inr ⟨i, t1, hz, by rw [strShow]; exact c2.here rfl⟩
    · cases hd
  | _ => cases hd
/-- the parts, by their meanings -/
inductive PJs (X : Cx) (g : Gd) : List Expr → List L2.TE → (List Nat → Env → M D) → Prop where
  | nil : PJs X g [] [] (fun acc _ => ret (.str acc))
  | cons {e : Expr} {n : Env → M D} {es : List Expr} {ts : List L2.TE} {ns : List Nat → Env → M D} (h : PE X e (tOf g n)) (r : PJs X g es ts ns) : PJs X g (e :: es) (tOf g n :: ts) (fun acc env => bnd (n env) fun d => match d with
    | .str s => if acc.length + s.length ≤ lim then ns (acc ++ s) env else bad
    | _ => bad)
theorem PJs.pj {es : List Expr} {ts : List L2.TE} {ns : List Nat → Env → M D} (h : PJs X g es ts ns) : PJ X es ts := by
  induction h with
  | nil => exact .nil
  | cons h _ ih => exact .cons h ih
theorem PJs.tj {es : List Expr} {ts : List L2.TE} {ns : List Nat → Env → M D} (h : PJs X g es ts ns) : ∀ {σ : L2.St} {env : Env} {r : List Addr} {H : Hp} {m : Sto} {Q : VK} (acc : List Nat),
    Cn g (Rp g.K) σ env r H (ns acc env) m Q → tJs ts ⟨acc.toArray⟩ σ H fun out H1 => Q (.str out) H1 := by
  induction h with
  | nil =>
    intro σ env r H m Q acc c
    exact Cn.here (a := D.str acc) c rfl
  | @cons e n es ts ns h hr ih =>
    intro σ env r H m Q acc c
    refine ⟨r, env, m, c.bnd.mono ?_⟩
    rintro v H1 ⟨r1, d, m1, x1, t1, _, c1⟩
    have hl := limLe
    cases d with
    | str s =>
      dsimp only at c1
      by_cases hz : acc.length + s.length ≤ lim
      · rw [if_pos hz] at c1
        refine ⟨_, t1, ?_, ?_⟩
        · rw [strApp, strLen, List.length_append]
          omega
        · rw [strApp]
          exact ih (acc ++ s) c1
      · rw [if_neg hz] at c1
        exact c1.2.2.elim
    | _ => exact c1.2.2.elim
theorem se_fstr {v1 v2 : Expr} {rest : List Expr} {ts : List L2.TE} {ns : List Nat → Env → M D} (h : PJs X g (v1 :: v2 :: rest) ts ns) : PE X (.JoinedStr (v1 :: v2 :: rest) pos) (tOf g fun env => ns [] env) :=
  PE.weak (pe_joined h.pj) fun σ H Q ⟨r, env, m, c⟩ => h.tj [] c
end
/-! ### xs.append(e) -/
section
variable {X : Cx} {g : Gd} {o e : Expr} {mo me : Env → M D} {pos apos : Pos}
theorem se_app (hg : g.K = X.K) (ho : PE X o (tOf g mo)) (he : PE X e (tOf g me)) (hbase : attributeBase o "append" X.env (eval o X.env) = eval o X.env) (hline : (apos.endLine == pos.line) = true)
    (hs : starEach [e] X.env = (false, eval e X.env) :: starEach [] X.env) (hfew : ((backTo pos (starEach [e] X.env)).all (fun x => !x.1) && (backToKw pos (keywordEach [] X.env)).all (fun x => x.1.isSome)
      && decide (([e] : List Expr).length + ([] : List Keyword).length + (if ([] : List Keyword).isEmpty then 0 else 1) < 30)) = true) :
    PE X (.Call (.Attribute o "append" apos) [e] [] pos) (tOf g fun env => bnd (mo env) fun x => match x with
      | .loc n => fun m => if isDic m n then .bad else bnd (me env) (fun d => appD (.loc n) d) m
      | _ => bad) := by
  refine PE.weak (pe_bm PySem.F.plainAttrs_list PySem.F.slot_list_append PySem.F.type_list_append mt_append ho (pa_cons he pa_nil hs) hbase hfew hline hs rfl) fun σ H Q ⟨r, env, m, c⟩ => ?_
  refine ⟨r, env, m, c.bnd.mono ?_⟩
  rintro v H1 ⟨r1, d, m1, x1, t1, _, c1⟩
  cases d with
  | loc n =>
    obtain ⟨a, rfl, ha⟩ := t1
    have cD : isDic m1 n = false ∧ Cn g (Rp g.K) σ env r1 H1 (bnd (me env) fun d => appD (.loc n) d) m1 Q := by
      obtain ⟨q1, q2, q3⟩ := c1
      dsimp only at q3
      cases hd : isDic m1 n with
      | true =>
        rw [hd] at q3
        exact q3.elim
      | false =>
        rw [hd] at q3
        exact ⟨rfl, q1, q2, q3⟩
    obtain ⟨hd, c1⟩ := cD
    obtain ⟨ws, hw⟩ := c1.1.isL ha hd
    refine ⟨.inl ⟨rfl, _, SqL.of hw⟩, r1, env, m1, (Cn.bnd (T := Rp g.K) c1).mono ?_⟩
    rintro w H2 ⟨r2, d2, m2, x2, t2, _, c2⟩
    have ha2 := get_pre x2.pre ha
    have z := c2.2.2
    unfold appD at z
    dsimp only at z
    cases hm : m2[n]? with
    | none =>
      rw [hm] at z
      exact z.elim
    | some ob =>
      cases ob with
      | lst ds =>
        rw [hm] at z
        dsimp only at z
        by_cases hl : ds.length < lim
        · rw [if_pos hl] at z
          obtain ⟨vs, h1, h2⟩ := c2.1.at_ ha2 hm
          have l := h2.len
          have ll := limLe
          obtain ⟨s1, k1, e1⟩ := c2.1.set ha2 (h2.app (Rps.one t2))
          exact ⟨a, vs, w, rfl, rfl, h1, by omega, z r2 _ .non e1 s1 rfl⟩
        · rw [if_neg hl] at z
          exact z.elim
      | dic kvs =>
        rw [hm] at z
        exact z.elim
  | _ => exact c1.2.2.elim
end
end Dh


set_option Elab.async false
set_option linter.all false
set_option maxRecDepth 100000
set_option maxHeartbeats 4000000
/-! DhSort: sorted(x) of tuples of ints and such tuples. -/
namespace Dh
open PySem PySem.Spec PyProof.Rows L2
/-- any order of things by such keys -/
theorem swoK {α : Type} (k : α → NestedKey) (hk : ∀ v, ntx (k v) = true) : SrtO.Swo (fun v u : α => ltN (k v) (k u)) := by
  refine ⟨fun x y h => ltN_asym _ _ h, fun x y z h1 h2 => ?_⟩
  cases e : ltN (k z) (k x) with
  | false => rfl
  | true =>
    cases e1 : ltN (k x) (k y) with
    | false =>
      have q := ltN_tot _ _ (hk y) (hk x) h1 e1
      rw [← q, h2] at e
      cases e
    | true =>
      rw [ltN_tr _ _ _ e e1] at h2
      cases h2
/-! ### sorting by the law's own way -/
theorem insN_perm (k : NestedKey) : ∀ l : List NestedKey, (insN k l).Perm (k :: l)
  | [] => List.Perm.refl _
  | h :: t => by
    rw [insN]
    split
    · exact (List.Perm.cons h (insN_perm k t)).trans (List.Perm.swap k h t)
    · exact List.Perm.refl _
theorem sortN_perm : ∀ l : List NestedKey, (sortN l).Perm l
  | [] => List.Perm.refl _
  | k :: ks => (insN_perm k _).trans (List.Perm.cons k (sortN_perm ks))
abbrev NotGt (a b : NestedKey) : Prop := ltN b a = false
theorem NotGt.trans {a b c : NestedKey} (ha : ntx a = true) (hb : ntx b = true) (hc : ntx c = true) (h : NotGt a b) (q : NotGt b c) : NotGt a c :=
  (swoK (fun x : {k : NestedKey // ntx k = true} => x.1) fun x => x.2).tr ⟨a, ha⟩ ⟨b, hb⟩ ⟨c, hc⟩ h q
theorem insN_srt (k : NestedKey) (hk : ntx k = true) : ∀ l : List NestedKey, (∀ x ∈ l, ntx x = true) → l.Pairwise NotGt → (insN k l).Pairwise NotGt
  | [], _, _ => List.pairwise_singleton _ _
  | h :: t, a, p => by
    rw [insN]
    have a0 := a h (List.mem_cons_self ..)
    have at_ := fun x hx => a x (List.mem_cons_of_mem h hx)
    have p1 := List.pairwise_cons.mp p
    split
    · rename_i e
      refine List.pairwise_cons.mpr ⟨fun x hx => ?_, insN_srt k hk t at_ p1.2⟩
      rcases List.mem_cons.mp ((insN_perm k t).mem_iff.mp hx) with rfl | hx
      · exact ltN_asym _ _ e
      · exact p1.1 x hx
    · rename_i e
      have e' : NotGt k h := by simpa using e
      refine List.pairwise_cons.mpr ⟨fun x hx => ?_, p⟩
      rcases List.mem_cons.mp hx with rfl | hx
      · exact e'
      · exact NotGt.trans hk a0 (at_ x hx) e' (p1.1 x hx)
theorem sortN_srt : ∀ l : List NestedKey, (∀ x ∈ l, ntx x = true) → (sortN l).Pairwise NotGt
  | [], _ => List.Pairwise.nil
  | k :: ks, a => by
    have at_ := fun x hx => a x (List.mem_cons_of_mem k hx)
    exact insN_srt k (a k (List.mem_cons_self ..)) _ (fun x hx => at_ x ((sortN_perm ks).mem_iff.mp hx)) (sortN_srt ks at_)
/-- a sorted row of the same things is this one -/
theorem sorted_is {l m : List NestedKey} (a : ∀ x ∈ m, ntx x = true) (p : l.Perm m) (s : l.Pairwise NotGt) : l = sortN m := by
  refine List.Perm.eq_of_pairwise (le := NotGt) (fun x y hx hy h1 h2 => ?_) s (sortN_srt m a) (p.trans (sortN_perm m).symm)
  exact ltN_tot x y (a x (p.mem_iff.mp hx)) (a y ((sortN_perm m).mem_iff.mp hy)) h2 h1
/-! ### the walk of a sort's comparison -/
section
variable {prog : Program} {w : World} {A : Around} {s : Shared} {b : Bool} {E : Value → Shared → Prop}
theorem lexRun : ∀ (xs ys : List NestedKey) (vs ws : List Value) (i : Nat) (Q : Bool → Shared → Prop), KIss s.heap xs vs → KIss s.heap ys ws → okNs xs ys = true → A.units + NestedKey.depthAll xs < cLine →
    (b = true → i = 0 → ∀ x xs' y ys', xs = x :: xs' → ys = y :: ys' → (∃ n, x = .num n) ∧ ∃ n, y = .num n) → Q (ltNs xs ys) s →
    PySem.W.KatLex prog w A b (decide (xs.length < ys.length)) Q (vs.zip ws) i s
  | [], [], _, _, i, Q, ra, rb, _, _, _, q => by
    rw [show _ = [] from ra, show _ = [] from rb]
    exact PySem.W.kat_nil (by simpa [ltNs] using q)
  | [], _ :: _, _, _, i, Q, ra, rb, _, _, _, q => by
    rw [show _ = [] from ra, List.zip_nil_left]
    exact PySem.W.kat_nil (by simpa [ltNs] using q)
  | _ :: _, [], _, _, i, Q, ra, rb, _, _, _, q => by
    rw [show _ = [] from rb, List.zip_nil_right]
    exact PySem.W.kat_nil (by simpa [ltNs] using q)
  | x :: xs, y :: ys, _, _, i, Q, ⟨v, vs, e, x1, x2⟩, ⟨u, us, e', y1, y2⟩, ok, hu, hb, q => by
    subst e e'
    rw [okNs, Bool.and_eq_true] at ok
    simp only [NestedKey.depthAll] at hu
    rw [List.zip_cons_cons]
    have fe : decide ((x :: xs).length < (y :: ys).length) = decide (xs.length < ys.length) := by simp
    rw [fe]
    refine PySem.W.kat_cons (eqAt_key x y A s v u (KIs.nest x v x1) (KIs.nest y u y1) (by omega) prog w _ _ ?_)
    refine PySem.W.kat_go (fun e => ?_) (fun e => ?_)
    · have exy : x = y := NestedKey.eq_of_beq x y e
      rw [ltNs, if_pos exy] at q
      exact PySem.W.kat_yes (lexRun xs ys vs us (i + 1) Q x2 y2 ok.2 (by omega) (fun _ z => by omega) q)
    · have exy : ¬ x = y := fun z => by
        rw [z, NestedKey.beq_self] at e
        cases e
      rw [ltNs, if_neg exy] at q
      refine PySem.W.kat_no ?_
      cases hbi : (b && i == 0) with
      | true =>
        rw [Bool.and_eq_true] at hbi
        obtain ⟨⟨n, rfl⟩, m, rfl⟩ := hb hbi.1 (by simpa using hbi.2) x xs y ys rfl rfl
        obtain ⟨t, rfl⟩ := x1
        obtain ⟨t', rfl⟩ := y1
        exact PyProof.Rows.oneLt_int q
      | false => exact PySem.W.kat_one _ _ (rcLt x y A s v u x1 y1 ok.1 (by omega) prog w _ (PySem.W.BoolBack Q) q)
/-- by which key a value goes -/
noncomputable def keyV (h : Heap) (v : Value) : NestedKey := open Classical in if e : ∃ k, KIs h k v then Classical.choose e else .none
theorem keyV_is {h : Heap} {k : NestedKey} {v : Value} (x : KIs h k v) : keyV h v = k := by
  have e : ∃ k, KIs h k v := ⟨k, x⟩
  unfold keyV
  rw [dif_pos e]
  exact NestedIs.inj _ _ v (KIs.nest _ _ (Classical.choose_spec e)) (KIs.nest _ _ x)
theorem keyV_ntx (h : Heap) (v : Value) : ntx (keyV h v) = true := by
  unfold keyV
  split
  · rename_i e
    exact KIs.ntx _ _ (Classical.choose_spec e)
  · rfl
theorem keyV_map {h : Heap} : ∀ {ks : List NestedKey} {vs : List Value}, KIss h ks vs → vs.map (keyV h) = ks
  | [], _, x => by
    rw [show _ = [] from x]
    rfl
  | k :: ks, _, ⟨v, w, e, x, y⟩ => by rw [e, List.map_cons, keyV_is x, keyV_map y]
/-- the first items -/
theorem firstsK {h : Heap} {T : Value} (F : NestedKey → Bool) (hF : ∀ k v, F k = true → KIs h k v → ∃ a o xs n f, v = .ref a ∧ h.get? a = some o ∧ o.cls = .type "tuple" ∧ o.data = .seq xs n ∧ xs[0]? = some f ∧ PySem.W.Looks (model prog w) h (typeOf f) T) :
    ∀ {ks : List NestedKey} {vs : List Value}, ks.all F = true → KIss h ks vs → ∃ fs, PySem.W.KatTups h vs fs ∧ fs.length = vs.length ∧ ∀ f ∈ fs, PySem.W.Looks (model prog w) h (typeOf f) T
  | [], _, _, x => by
    rw [show _ = [] from x]
    exact ⟨[], PySem.W.KatTups.nil, rfl, fun f hf => by cases hf⟩
  | k :: ks, _, c, ⟨v, u, e, x, y⟩ => by
    rw [List.all_cons, Bool.and_eq_true] at c
    obtain ⟨fs, t1, t2, t3⟩ := firstsK F hF c.2 y
    obtain ⟨a, o, xs, n, f, e1, h1, h2, h3, h4, h5⟩ := hF k v c.1 x
    refine ⟨f :: fs, ?_, by rw [e, List.length_cons, List.length_cons, t2], fun z hz => ?_⟩
    · rw [e]
      exact ⟨⟨a, o, xs, n, e1, h1, h2, h3, h4⟩, t1⟩
    · rcases List.mem_cons.mp hz with rfl | hz
      · exact h5
      · exact t3 z hz
theorem numF_first {h : Heap} (k : NestedKey) (v : Value) (c : numF k = true) (x : KIs h k v) : ∃ a o xs n f, v = .ref a ∧ h.get? a = some o ∧ o.cls = .type "tuple" ∧ o.data = .seq xs n ∧ xs[0]? = some f ∧ PySem.W.Looks (model prog w) h (typeOf f) (.type "int") := by
  match k, c, x with
  | .tup (.num i :: r), _, ⟨a, o, vs, n, e, h1, h2, h3, f, w, e2, ⟨t, e3⟩, y⟩ =>
    refine ⟨a, o, vs, n, f, e, h1, h2, h3, ?_, ?_⟩
    · rw [← Array.getElem?_toList, e2]
      rfl
    · rw [e3]
      exact PySem.W.Looks.now
theorem tupF_first {h : Heap} (k : NestedKey) (v : Value) (c : tupF k = true) (x : KIs h k v) : ∃ a o xs n f, v = .ref a ∧ h.get? a = some o ∧ o.cls = .type "tuple" ∧ o.data = .seq xs n ∧ xs[0]? = some f ∧ PySem.W.Looks (model prog w) h (typeOf f) (.type "tuple") := by
  match k, c, x with
  | .tup (.tup q :: r), _, ⟨a, o, vs, n, e, h1, h2, h3, f, w', e2, ⟨a2, o2, vs2, n2, e3, g1, g2, _⟩, y⟩ =>
    refine ⟨a, o, vs, n, f, e, h1, h2, h3, ?_, ?_⟩
    · rw [← Array.getElem?_toList, e2]
      rfl
    · rw [e3, ← g2]
      exact (PySem.W.Looks.ld g1).andThen .now
theorem keys_sortable {a : Addr} {ks : List NestedKey} {vs : List Value} {h0 : Heap} (hn : 0 < vs.length) (x : KIss h0 ks vs) (kp : ∀ b o, h0.get? b = some o → o.cls = .type "tuple" → b ≠ a ∧ s.heap.get? b = some o) (ok : sortable ks = true) (hu : A.units + 9 < cLine) :
    SrtO.SortableO prog w A s a vs fun v u => ltN (keyV h0 v) (keyV h0 u) := by
  intro h' keep
  have x' : KIss h' ks vs := KIss.keeps (fun b o e c => keep b o (kp b o e c).1 (kp b o e c).2) ks vs x
  unfold sortable at ok
  rw [Bool.and_eq_true, Bool.or_eq_true] at ok
  obtain ⟨hf, hok⟩ := ok
  rw [List.all_eq_true] at hok
  have cmpAll : ∀ c : Bool, (c = true → ks.all numF = true) → SrtO.Cmp prog w A { s with heap := h' } (tuples' c) (fun p => p.1 ∈ vs) (SrtO.lt2 fun v u => ltN (keyV h0 v) (keyV h0 u)) := by
    intro c hc p q hp hq
    obtain ⟨i, hi⟩ := List.mem_iff_getElem?.mp hp
    obtain ⟨j, hj⟩ := List.mem_iff_getElem?.mp hq
    obtain ⟨k1, g1, z1⟩ := KIss.at_ x hi
    obtain ⟨k2, g2, z2⟩ := KIss.at_ x hj
    obtain ⟨k1', g1', y1⟩ := KIss.at_ x' hi
    obtain ⟨k2', g2', y2⟩ := KIss.at_ x' hj
    rw [g1] at g1'
    rw [g2] at g2'
    cases g1'
    cases g2'
    show wpAny (model prog w) A (keyLt' (tuples' c) p.1 q.1) (fun r s' => s' = { s with heap := h' } ∧ r = ltN (keyV h0 p.1) (keyV h0 q.1)) (fun _ _ => False) { s with heap := h' }
    rw [keyV_is z1, keyV_is z2]
    have o1 := hok k1 (List.mem_of_getElem? g1)
    rw [Bool.and_eq_true, List.all_eq_true] at o1
    have o2 := o1.2 k2 (List.mem_of_getElem? g2)
    have d1 := of_decide_eq_true o1.1
    clear z1 z2
    match k1, k2, y1, y2, o2, d1, g1, g2 with
    | .tup as, .tup bs, ⟨a1, ob1, v1, n1, e1, h1, c1, dd1, w1⟩, ⟨a2, ob2, v2, n2, e2, h2, c2, dd2, w2⟩, o2, d1, g1, g2 =>
      rw [e1, e2]
      simp only [NestedKey.depth] at d1
      have s1 : v1.size = as.length := by simpa using KIss.len w1
      have s2 : v2.size = bs.length := by simpa using KIss.len w2
      refine PySem.W.kat_lt (s := { s with heap := h' }) h1 dd1 h2 dd2 ?_
      rw [s1, s2]
      refine lexRun (s := { s with heap := h' }) as bs _ _ 0 _ w1 w2 o2 (by omega) (fun hc' _ x xs' y ys' ex ey => ?_) ⟨rfl, rfl⟩
      have a1 := hc hc'
      rw [List.all_eq_true] at a1
      have b1 := a1 _ (List.mem_of_getElem? g1)
      have b2 := a1 _ (List.mem_of_getElem? g2)
      subst ex ey
      refine ⟨?_, ?_⟩
      · cases x with
        | num n => exact ⟨n, rfl⟩
        | _ => cases b1
      · cases y with
        | num n => exact ⟨n, rfl⟩
        | _ => cases b2
    | .num _, .num _, _, _, _, _, g1, _ =>
      rcases hf with hf | hf
      · have z := List.all_eq_true.mp hf _ (List.mem_of_getElem? g1)
        cases z
      · have z := List.all_eq_true.mp hf _ (List.mem_of_getElem? g1)
        cases z
    | .num _, .tup _, _, _, o2, _, _, _ => cases o2
    | .tup _, .num _, _, _, o2, _, _, _ => cases o2
    | .none, _, y1, _, _, _, _, _ => exact y1.elim
    | .text _, _, y1, _, _, _, _, _ => exact y1.elim
    | .num _, .none, _, y2, _, _, _, _ => exact y2.elim
    | .num _, .text _, _, y2, _, _, _, _ => exact y2.elim
    | .tup _, .none, _, y2, _, _, _, _ => exact y2.elim
    | .tup _, .text _, _, y2, _, _, _, _ => exact y2.elim
  rcases hf with hf | hf
  · obtain ⟨fs, t1, t2, t3⟩ := firstsK (prog := prog) (w := w) numF (fun k v c x => numF_first k v c x) hf x'
    refine ⟨tuples' true, fun Q E hq => ?_, cmpAll true fun _ => hf⟩
    refine PySem.W.kat_kind (T := .type "int") t1 (by omega) (fun f hm => t3 f hm) (by rfl) ?_
    have e : (Value.type "int" != Value.type "tuple") = true := by first | decide +kernel | rfl | decide
    rw [e]
    exact hq
  · obtain ⟨fs, t1, t2, t3⟩ := firstsK (prog := prog) (w := w) tupF (fun k v c x => tupF_first k v c x) hf x'
    refine ⟨tuples' false, fun Q E hq => ?_, cmpAll false fun z => by cases z⟩
    refine PySem.W.kat_kind (T := .type "tuple") t1 (by omega) (fun f hm => t3 f hm) (by rfl) ?_
    have e : (Value.type "tuple" != Value.type "tuple") = false := by first | decide +kernel | rfl | decide
    rw [e]
    exact hq
end
/-! ### sorted(x) -/
/-- the values of a dict's keys -/
theorem DcP.keys {K : Frag} {r : List Addr} {H : Hp} {kvs : List (NestedKey × D)} {xs : List DEnt} (p : Paired (DcP K r H) kvs xs) : Rps K r H (dsOf (kvs.map (·.1))) (xs.map fun x => V.ref x.2.1) := by
  induction p with
  | nil => rfl
  | @cons p q ps qs hq t ih => exact ⟨_, _, rfl, hq.2.1, ih⟩
/-- the row of the keys, collected -/
theorem dc_collect {X : Cx} {pins : List (Addr × Obj)} {σ : L2.St} {H : Hp} {s : Shared} {A : Around} {E : Value → Shared → Prop} {a : Addr} {xs : List DEnt} {Q : List Value → Shared → Prop} (I : Inv X pins σ H s) (hh : A.handled = none) (e : H a = some (DcO a xs))
    (h : ∀ h' tk (acc : Array Value), (∀ b o, s.heap.get? b = some o → h'.get? b = some o) → acc.toList = xs.map (fun x => Value.ref x.2.1) → Q acc.toList { s with heap := h', toks := tk }) :
    wpAny (model X.prog X.w) A (collect (.ref a)) Q E s := by
  obtain ⟨⟨h1, h2, h3, h4, o, es, ep, h5, h6, h7, h8⟩, _⟩ := (show ObjOk X.prog X.w H s.heap a (DcO a xs) from I.hok a _ e)
  have he := h8 X.prog X.w
  have l1 : es.size = xs.length := size_of_entries he
  refine PySem.W.kdu_collect (kdl_raw h1 h6 h7) hh h5 (by omega) fun h' tk acc kp it => h h' tk acc kp ?_
  have hl : acc.toList.length = xs.length := by rw [Array.length_toList, it.1]; exact l1
  apply List.ext_getElem?
  intro j
  rw [List.getElem?_map]
  cases hj : acc.toList[j]? with
  | none =>
    have z := List.getElem?_eq_none_iff.mp hj
    rw [List.getElem?_eq_none (by omega)]
    rfl
  | some v =>
    obtain ⟨en, hen, hv⟩ := it.2 j v (by rw [← Array.getElem?_toList]; exact hj)
    have qe := entry_at he j
    rw [hen] at qe
    cases hb : xs[j]? with
    | none =>
      rw [hb] at qe
      exact nomatch (show some en = none from qe)
    | some b =>
      rw [hb] at qe
      have e2 : en = entryOfKey (nestedKind X.prog X.w) b := Option.some.inj qe
      rw [hv, e2]
      rfl
theorem kis_rps {X : Cx} {pins : List (Addr × Obj)} {σ : L2.St} {H : Hp} {s : Shared} {r : List Addr} (I : Inv X pins σ H s) {ks : List NestedKey} {vs : List V} {us : List Value} (ok : ∀ k ∈ ks, okN k k = true) (h : Rps X.K r H (dsOf ks) vs) (rv : Vals vs us) : KIss s.heap ks us := by
  induction ks generalizing vs us with
  | nil =>
    obtain rfl : vs = [] := h
    cases rv
    rfl
  | cons k ks ih =>
    obtain ⟨v, w, rfl, h1, h2⟩ := (show ∃ v w, vs = v :: w ∧ Rp X.K r H (dOf k) v ∧ Rps X.K r H (dsOf ks) w from h)
    cases rv with
    | cons z zs => exact ⟨_, _, rfl, Rp.kis I k v _ (ok k (List.mem_cons_self ..)) h1 z, ih (fun k hk => ok k (List.mem_cons_of_mem _ hk)) h2 zs⟩
/-- out of things that are paired, in another order -/
theorem rps_perm {K : Frag} {r : List Addr} {H : Hp} (key : V → NestedKey) : ∀ {ys : List V}, (∀ y ∈ ys, Rp K r H (dOf (key y)) y) → Rps K r H (dsOf (ys.map key)) ys
  | [], _ => rfl
  | y :: ys, h => ⟨y, ys, rfl, h y (List.mem_cons_self ..), rps_perm key fun z hz => h z (List.mem_cons_of_mem _ hz)⟩
/-- the sorted row: what it holds -/
theorem sorted_row {X : Cx} {pins : List (Addr × Obj)} {σ : L2.St} {H : Hp} {s : Shared} {r : List Addr} (I : Inv X pins σ H s) {ks : List NestedKey} {vs : List V} {us out : List Value} (ok : ∀ k ∈ ks, okN k k = true) (h : Rps X.K r H (dsOf ks) vs) (rv : Vals vs us)
    (hs : SrtO.Srtd (fun v u => ltN (keyV s.heap v) (keyV s.heap u)) out) (hp : out.Perm us) : ∃ ys, Vals ys out ∧ Rps X.K r H (dsOf (sortN ks)) ys := by
  have kis := kis_rps I ok h rv
  have hm := keyV_map kis
  have e : out.map (keyV s.heap) = sortN ks := by
    refine sorted_is (fun k hk => ?_) (by rw [← hm]; exact hp.map _) ?_
    · obtain ⟨j, hj⟩ := List.mem_iff_getElem?.mp hk
      rw [← hm, List.getElem?_map] at hj
      cases hv : us[j]? with
      | none =>
        rw [hv] at hj
        cases hj
      | some v =>
        rw [hv] at hj
        have q : keyV s.heap v = k := Option.some.inj hj
        rw [← q]
        exact keyV_ntx _ _
    · rw [List.pairwise_map]
      exact hs
  -- each value has its own reading
  have each : ∀ u ∈ out, ∃ v, RelV v u ∧ Rp X.K r H (dOf (keyV s.heap u)) v := by
    intro u hu
    obtain ⟨j, hj⟩ := List.mem_iff_getElem?.mp (hp.mem_iff.mp hu)
    obtain ⟨k, hk, hki⟩ := KIss.at_ kis hj
    have hd : (dsOf ks)[j]? = some (dOf k) := by
      have z : ∀ (ks : List NestedKey) (j : Nat), (dsOf ks)[j]? = (ks[j]?).map dOf := by
        intro ks
        induction ks with
        | nil => intro j; rfl
        | cons x xs ih =>
          intro j
          cases j with
          | zero => rfl
          | succ j => simpa [dsOf] using ih j
      rw [z, hk]
      rfl
    obtain ⟨v, hv, t⟩ := Rps.get h hd
    obtain ⟨w, hw, rw'⟩ := rv.get hv
    rw [hj] at hw
    cases hw
    refine ⟨v, rw', ?_⟩
    rw [keyV_is hki]
    exact t
  have build : ∀ l : List Value, (∀ u ∈ l, u ∈ out) → ∃ ys, Vals ys l ∧ Rps X.K r H (dsOf (l.map (keyV s.heap))) ys := by
    intro l
    induction l with
    | nil => exact fun _ => ⟨[], .nil, rfl⟩
    | cons u l ih =>
      intro hl
      obtain ⟨ys, z1, z2⟩ := ih fun x hx => hl x (List.mem_cons_of_mem _ hx)
      obtain ⟨v, y1, y2⟩ := each u (hl u (List.mem_cons_self ..))
      exact ⟨v :: ys, .cons y1 z1, v, ys, rfl, y2, z2⟩
  obtain ⟨ys, z1, z2⟩ := build out fun u hu => hu
  rw [e] at z2
  exact ⟨ys, z1, z2⟩
/-- what is sorted: a list, or a dict's keys -/
def SrcK (K : Frag) (r : List Addr) (H : Hp) (ks : List NestedKey) (v : V) : Prop := (∃ a vs, v = .ref a ∧ SqL K H a vs ∧ Rps K r H (dsOf ks) vs) ∨ (∃ a vs, v = .ref a ∧ SqT K H a vs ∧ Rps K r H (dsOf ks) vs) ∨ ∃ a kvs xs, v = .ref a ∧ H a = some (DcO a xs) ∧ Paired (DcP K r H) kvs xs ∧ ks = kvs.map (·.1)
theorem call_sortK {X : Cx} (hc : X.calm = true) (hu : X.A.units + 20 < cLine) : CallR X (.builtin "sorted") (fun xs H Q => ∃ (r : List Addr) (ks : List NestedKey) (v : V), xs = [v] ∧ SrcK X.K r H ks v ∧ sortable ks = true ∧ ks.length ≤ lim ∧
    ∀ l ys, H l = none → Rps X.K r H (dsOf (sortN ks)) ys → Q (.ref l) (upd H l (.lst ys))) := by
  intro pins s σ H xs us Q I rr q
  obtain ⟨r, ks, v, rfl, src, ok, hl, q⟩ := q
  obtain ⟨u, rfl, rx⟩ := vals1 rr
  have okk : ∀ k ∈ ks, okN k k = true := by
    unfold sortable at ok
    rw [Bool.and_eq_true, List.all_eq_true] at ok
    intro k hk
    have z := ok.2 k hk
    rw [Bool.and_eq_true, List.all_eq_true] at z
    exact z.2 k hk
  have ll := limLe
  -- the end, wherever the row was laid
  have fin : ∀ (s1 : Shared) (vs : List V) (us out : List Value) (h' : Heap) (tk : Nat) (d : Addr), Inv X pins σ H s1 → Rps X.K r H (dsOf ks) vs → Vals vs us → SrtO.Srtd (fun v u => ltN (keyV s.heap v) (keyV s.heap u)) out → out.Perm us → us.length ≤ sizeLine →
      (∀ b o, s1.heap.get? b = some o → h'.get? b = some o) → s1.heap.objs.size ≤ d → (∃ n, h'.get? d = some (seqObj "list" out.toArray n)) → EP X pins σ Q (.ref d) { s1 with heap := h', toks := tk } := by
    intro s1 vs us out h' tk d I1 h1 h2 hs hp hz kp hd ⟨n, hat⟩
    obtain ⟨ys, z1, z2⟩ := sorted_row I okk h1 h2 hs hp
    have hl : ys.length ≤ sizeLine := by
      rw [z1.length, hp.length_eq]
      exact hz
    exact ⟨.ref d, upd H d (.lst ys), I1.laid (t' := tk) kp hd (show ObjOk X.prog X.w _ h' d (.lst ys) from ⟨hl, out, n, z1, hat⟩), rfl, q d ys (I1.hok.fresh hd) z2⟩
  rcases src with ⟨a, vs, rfl, hq, t⟩ | ⟨a, vs, rfl, hq, t⟩ | ⟨a, kvs, xs, rfl, ha, p, hk⟩
  · obtain rfl : u = Value.ref a := rx
    obtain ⟨its, rv, pl, hz⟩ := I.list hq
    have hlen := rv.length
    have kis := kis_rps I okk t rv
    refine SrtO.sorted_ord (ltv := fun v u => ltN (keyV s.heap v) (keyV s.heap u)) (swoK _ (keyV_ntx _)) pl.isList (by omega) (fun h2 h₁ b hb kp => ?_) fun out hs hb => ?_
    · refine keys_sortable (by omega) kis (fun c o e _ => kp c o e) ok (by rw [Around.in1_units, Around.in1_units]; omega)
    · exact fin s vs its out _ s.toks _ I t rv hs hb.perm (by omega) (fun b o e => sortedAll_old e) (Nat.le_succ _) (sortedAll_at s.heap its out.toArray)
  · obtain rfl : u = Value.ref a := rx
    obtain ⟨its, rv, pl, hz⟩ := I.tuple hq
    have hlen := rv.length
    obtain ⟨o0, ho0, hc0, n0, hd0⟩ := id pl
    refine Calls.call_function_entry PyProof.Rows.kind_sorted PyProof.Rows.plain_sorted PyProof.Rows.entry_sorted (PyProof.Rows.args_sorted1 _) ?_
    unfold Builtin.«sorted»
    refine wpAny_bind (m := checkCount "sorted" 1 1 _) (wpAny_pure ?_)
    refine wpAny_bind (wpAny_collect_seq a (.inr rfl) ho0 hc0 hd0 (fun h' kp => ?_) (by rw [List.size_toArray]; omega))
    have I1 : Inv X pins σ H { s with heap := h' } := I.kept (t' := s.toks) kp
    have hal : its.toArray.toList.length = ks.length := by
      have z := t.len
      have z2 : ∀ ks : List NestedKey, (dsOf ks).length = ks.length := by
        intro ks
        induction ks with
        | nil => rfl
        | cons k ks ih => rw [dsOf, List.length_cons, ih, List.length_cons]
      have z2 := z2 ks
      simp
      omega
    have rv' : Vals vs its.toArray.toList := by simpa using rv
    have kis := kis_rps I okk t rv'
    refine wpAny_bind (wpAny_newList ?_ (by rw [hal]; omega))
    have hoL : (h'.push (seqObj "list" its.toArray.toList.toArray 0)).get? h'.objs.size = some (seqObj "list" its.toArray.toList.toArray 0) := Heap.get?_push_size _ rfl
    show wpAny _ _ _ _ _ { s with heap := h'.push (seqObj "list" its.toArray.toList.toArray 0) }
    refine wpAny_bind (wpAny_holding (wpAny_call_entry PyProof.Rows.slot_list_sort ⟨_, hoL, rfl⟩ PyProof.Rows.entry_list_sort
      (SrtO.list_sort_ord (s := { s with heap := h'.push (seqObj "list" its.toArray.toList.toArray 0) }) (ltv := fun v u => ltN (keyV s.heap v) (keyV s.heap u)) (swoK _ (keyV_ntx _)) hoL (by rw [hal]; omega) (fun h2 => ?_) fun out hs hb => ⟨_, rfl, ?_⟩) (PyProof.Rows.args_list_sort _)))
    · refine keys_sortable (s := { s with heap := h'.push (seqObj "list" its.toArray.toList.toArray 0) }) (by omega) kis (fun c o e _ => ⟨Nat.ne_of_lt (Heap.lt_size (kp c o e)), Heap.get?_push_of_some _ (kp c o e)⟩) ok (by rw [Around.in1_units, Around.in1_units]; omega)
    · obtain ⟨e', he'⟩ := PyProof.Rows.sortedHeap_at (vs := its.toArray.toList) (out := out.toArray) hoL
      refine wpAny_pure ⟨_, rfl, fin { s with heap := h' } _ its.toArray.toList out _ s.toks h'.objs.size I1 t rv' hs hb.perm (by rw [hal]; omega) (fun b o e => ?_) (Nat.le_refl _) ⟨e', by simpa using he'⟩⟩
      have e2 : h'.get? b = some o := e
      have hb : b < h'.objs.size := Heap.lt_size e2
      rw [PyProof.Rows.sortedHeap_old (Nat.ne_of_lt hb) (by rw [size_push']; exact Nat.lt_succ_of_lt hb)]
      exact Heap.get?_push_of_some _ e2
  · obtain rfl : u = Value.ref a := rx
    have hlen : kvs.length = ks.length := by rw [hk, List.length_map]
    have hlx : xs.length = kvs.length := (Paired.length p).symm
    refine Calls.call_function_entry PyProof.Rows.kind_sorted PyProof.Rows.plain_sorted PyProof.Rows.entry_sorted (PyProof.Rows.args_sorted1 _) ?_
    unfold Builtin.«sorted»
    refine wpAny_bind (m := checkCount "sorted" 1 1 _) (wpAny_pure ?_)
    refine wpAny_bind (dc_collect (A := X.A.in1) I (I.ok.hd hc) ha fun h' tk acc kp hacc => ?_)
    have I1 : Inv X pins σ H { s with heap := h', toks := tk } := I.kept kp
    have hal : acc.toList.length = ks.length := by rw [hacc, List.length_map]; omega
    have t : Rps X.K r H (dsOf ks) (xs.map fun x => V.ref x.2.1) := by rw [hk]; exact DcP.keys p
    have rv : Vals (xs.map fun x => V.ref x.2.1) acc.toList := by
      rw [hacc]
      have z := vals_refs (xs.map fun x => x.2.1)
      rw [List.map_map, List.map_map] at z
      exact z
    have kis := kis_rps I okk t rv
    refine wpAny_bind (wpAny_newList ?_ (by rw [hal]; omega))
    have hoL : (h'.push (seqObj "list" acc.toList.toArray 0)).get? h'.objs.size = some (seqObj "list" acc.toList.toArray 0) := Heap.get?_push_size _ rfl
    show wpAny _ _ _ _ _ { s with heap := h'.push (seqObj "list" acc.toList.toArray 0), toks := tk }
    refine wpAny_bind (wpAny_holding (wpAny_call_entry PyProof.Rows.slot_list_sort ⟨_, hoL, rfl⟩ PyProof.Rows.entry_list_sort
      (SrtO.list_sort_ord (s := { s with heap := h'.push (seqObj "list" acc.toList.toArray 0), toks := tk }) (ltv := fun v u => ltN (keyV s.heap v) (keyV s.heap u)) (swoK _ (keyV_ntx _)) hoL (by rw [hal]; omega) (fun h2 => ?_) fun out hs hb => ⟨_, rfl, ?_⟩) (PyProof.Rows.args_list_sort _)))
    · refine keys_sortable (s := { s with heap := h'.push (seqObj "list" acc.toList.toArray 0), toks := tk }) (by omega) kis (fun c o e _ => ⟨Nat.ne_of_lt (Heap.lt_size (kp c o e)), Heap.get?_push_of_some _ (kp c o e)⟩) ok (by rw [Around.in1_units, Around.in1_units]; omega)
    · obtain ⟨e', he'⟩ := PyProof.Rows.sortedHeap_at (vs := acc.toList) (out := out.toArray) hoL
      refine wpAny_pure ⟨_, rfl, fin { s with heap := h', toks := tk } _ acc.toList out _ tk h'.objs.size I1 t rv hs hb.perm (by rw [hal]; omega) (fun b o e => ?_) (Nat.le_refl _) ⟨e', by simpa using he'⟩⟩
      have e2 : h'.get? b = some o := e
      have hb : b < h'.objs.size := Heap.lt_size e2
      rw [PyProof.Rows.sortedHeap_old (Nat.ne_of_lt hb) (by rw [size_push']; exact Nat.lt_succ_of_lt hb)]
      exact Heap.get?_push_of_some _ e2
/-- sorted(x) -/
theorem StoOk.keys {K : Frag} {r : List Addr} {H : Hp} {m : Sto} (S : StoOk K r H m) {d : D} {v : V} {ks : List NestedKey} (t : Rp K r H d v) (h : keysOf m d = some ks) : SrcK K r H ks v := by
  unfold keysOf at h
  cases hd : dicOf m d with
  | some kvs =>
    rw [hd] at h
    cases h
    obtain ⟨n, rfl, hm⟩ := dicOf_at hd
    obtain ⟨a, rfl, ha⟩ := t
    obtain ⟨xs, q1, q2⟩ := S.dic ha hm
    exact .inr (.inr ⟨a, kvs, xs, rfl, q1, q2, rfl⟩)
  | none =>
    rw [hd] at h
    dsimp only at h
    split at h
    · rename_i ds
      obtain ⟨a, vs, rfl, q, t⟩ := t
      exact .inr (.inl ⟨a, vs, rfl, q, by rw [(dsOf_nks ds ks h).1]; exact t⟩)
    · obtain ⟨ds, h1, h2⟩ := Option.bind_eq_some_iff.mp h
      obtain ⟨a, vs, rfl, q, t⟩ := S.lseq t h1
      exact .inl ⟨a, vs, rfl, q, by rw [(dsOf_nks ds ks h2).1]; exact t⟩
theorem se_sortOf {X : Cx} {g : Gd} {e : Expr} {n : Env → M D} {p pos : Pos} (hg : g.K = X.K) (hc : X.calm = true) (hu : X.A.units + 20 < cLine) (ha : PE X e (tOf g n)) (h1 : Gl X "sorted") (h2 : X.mg "sorted" = none) (hs : starEach [e] X.env = (false, eval e X.env) :: starEach [] X.env) :
    PE X (.Call (.Name "sorted" p) [e] [] pos) (tRawS g fun env => bnd (n env) fun d => fun m => ofO (sortedD m d) m) := by
  refine PE.weak (pe_callB (id := "sorted") (call_sortK hc hu) h1 h2 (by decide +kernel) (pa_cons ha pa_nil hs) (by decide +kernel) (by decide +kernel) hs rfl) fun σ H Q ⟨r, env, m, c⟩ => ?_
  refine ⟨r, env, m, c.bnd.mono fun v H1 ⟨r1, d, m1, x1, t1, _, c1⟩ => ?_⟩
  have z := c1.2.2
  dsimp only at z
  unfold sortedD at z
  cases hk : keysOf m1 d with
  | none =>
    rw [hk] at z
    exact z.elim
  | some ks =>
    rw [hk] at z
    dsimp only [Option.bind] at z
    by_cases ok : (sortable ks && decide (ks.length ≤ lim)) = true
    · rw [if_pos ok] at z
      rw [Bool.and_eq_true] at ok
      have fin : ∀ r' H' b, Ext r1 H1 r' H' → StoOk g.K r' H' m1 → RfS g.K H r' H' (.lst (dsOf (sortN ks))) b → Q b H' := z
      exact ⟨r1, ks, v, rfl, hg ▸ c1.1.keys t1 hk, ok.1, of_decide_eq_true ok.2, fun l ys hl t => fin r1 _ _ (Ext.new hl) (c1.1.new hl) ⟨_, l, ys, rfl, rfl, upd_same, c1.1.fresh hl, hg ▸ Rps.kp (Kp.new hl) _ _ t, x1.gone c.1 c1.1 hl⟩⟩
    · rw [if_neg ok] at z
      exact z.elim
end Dh


set_option Elab.async false
set_option linter.all false
set_option maxRecDepth 100000
set_option maxHeartbeats 4000000
/-! DhEnum: enumerate of a tuple, range with a step. -/
namespace Dh
open PySem PySem.Spec PyProof.Rows L2
theorem meets_enum1 {v : Value} {o : Obj} {H : Heap → Prop} (B : Begins v o H) :
    Meets (Builtin.«enumerate.__new__» ⟨[.type "enumerate", v], []⟩) (fun _ R s => H s.heap ∧
      R (.ok (.ret (.ref (s.heap.push o).objs.size))) { s with heap := (s.heap.push o).push { cls := .type "enumerate", data := .fields #[.none, .bool false, .ref s.heap.objs.size, rawInt 0, .none, .none] } }) :=
  .of_wp fun prog w A R s h => by
    obtain ⟨hp, g, d, tk, os⟩ := s; obtain ⟨h1, h⟩ := h
    have hsub := sub_enumerate
    have q1 : ∀ {A' : Around} {E : Value → Shared → Prop} {Q : Value → Shared → Prop}, Q (.ref hp.objs.size) ⟨hp.push o, g, d, tk, os⟩ → wpAny (model prog w) A' (pyIter v) Q E ⟨hp, g, d, tk, os⟩ :=
      fun q => B.iter prog w _ _ ⟨hp, g, d, tk, os⟩ _ h1 q
    wp_walk using q1
    refine wpAny_stack_any fun st => wpAny_pure ?_
    split
    · rename_i c _ _ _ _ _
      cases (c == Value.type "enumerate")
      · wp_walk using q1
        exact ⟨_, rfl, h⟩
      · wp_walk using q1
        exact ⟨_, rfl, h⟩
    · wp_walk using q1
      exact ⟨_, rfl, h⟩
theorem call_enum1 {prog : Program} {w : World} {A : Around} {E : Value → Shared → Prop} {s : Shared} {v : Value} {o : Obj} {H : Heap → Prop} {Q : Value → Shared → Prop} (B : Begins v o H) (h1 : H s.heap)
    (h : ∀ h', IsEnum h' (s.heap.objs.size + 1) s.heap.objs.size 0 .none → h'.get? s.heap.objs.size = some o → (∀ b o, s.heap.get? b = some o → h'.get? b = some o) → Q (.ref (s.heap.objs.size + 1)) { s with heap := h' }) :
    wpAny (model prog w) A (call (.type "enumerate") [v]) Q E s := by
  refine callType_new F.called_enumerate (by decide) (F.typeCall_enumerate_1 _) (F.newCall_enumerate_1 _) (fun obj => F.args_object_init_2 obj _) F.entry_enumerate_new (meets_enum1 B) ⟨h1, ?_⟩
  have hz : (s.heap.push o).objs.size = s.heap.objs.size + 1 := Heap.size_push ..
  show _ ∧ _
  rw [hz]
  have he : IsEnum ((s.heap.push o).push { cls := .type "enumerate", data := .fields #[.none, .bool false, .ref s.heap.objs.size, rawInt 0, .none, .none] }) (s.heap.objs.size + 1) s.heap.objs.size 0 .none := by
    have := Heap.get?_push_size (s.heap.push o) (o := { cls := .type "enumerate", data := .fields #[.none, .bool false, .ref s.heap.objs.size, rawInt 0, .none, .none] }) rfl
    rw [hz] at this; exact this
  exact ⟨⟨_, he, rfl⟩, h _ he (Heap.get?_push_of_some _ (Heap.get?_push_size _ B.free)) fun b o x => Heap.get?_push_of_some _ (Heap.get?_push_of_some _ x)⟩
/-- enumerate over a tuple -/
def IteT (K : PySem.W.Frag) (a : Addr) : It :=
  ⟨fun i H => ∃ (xs : List V) (x : V), SqT K H a xs ∧ xs[i]? = some x, fun i H v H' => ∃ T x, v = .ref T ∧ H T = none ∧ H' = upd H T (.tup [.int (i : Nat), x]) ∧ ∀ xs, SqT K H a xs → xs[i]? = some x, fun i H => ∃ xs : List V, SqT K H a xs ∧ xs.length ≤ i⟩
theorem tup_inj {X : Cx} {pins : List (Addr × Obj)} {σ : L2.St} {H : Hp} {s : Shared} {a : Addr} {xs ys : List V} (I : Inv X pins σ H s) (h : SqT X.K H a xs) (g : SqT X.K H a ys) : xs = ys := by
  exact I.tuple_inj h g
theorem turn_enumT {P : Program} {w : World} {K : PySem.W.Frag} {elts : List Expr} {kk : Nat} {tpos : Pos} (a e it : Addr) (hai : a ≠ it) (hae : a ≠ e) :
    Turn P w K (.Tuple elts kk tpos) (IteT K a) [e, it] e (fun i h => (∃ old, IsEnum h e it ((i : Nat) : Int) old) ∧ h.IsTupleIter it a i ∧ e ≠ it) where
  mem := by simp
  obj := fun i h st b hb => by
    obtain ⟨⟨old, he⟩, ⟨o, ho, hc, hd⟩, _⟩ := st
    have e' : b = e ∨ b = it := by simpa using hb
    rcases e' with z | z
    · rw [z]; exact ⟨_, he, fun v q => nomatch q⟩
    · rw [z]; exact ⟨o, ho, fun v q => by rw [hd] at q; cases q⟩
  keep := fun i h h' st k => let ⟨⟨old, he⟩, hi, hne⟩ := st; ⟨⟨old, k e (by simp) _ he⟩, hi.at fun o q => k it (by simp) o q, hne⟩
  item := by
    intro X hP hw hK hc i pins s σ H E I hf st hg
    subst hP hw hK
    obtain ⟨⟨old, he⟩, hit, hne⟩ := st
    obtain ⟨xs, x, hq, hx⟩ := hg
    obtain ⟨its, rv, p, hz⟩ := I.tuple hq
    obtain ⟨u, hu, ru⟩ := rv.get hx
    have hel : e < s.heap.objs.size := Heap.lt_size he
    have hil : it < s.heap.objs.size := by obtain ⟨_, q, _⟩ := hit; exact Heap.lt_size q
    have hlt : i < its.toArray.size := by
      rw [List.size_toArray]
      exact (List.getElem?_eq_some_iff.mp hu).1
    refine wpAny_pyNext_enum_itemD (Draws.tuple (prog := X.prog) (w := X.w) (A := X.A.in1) (I.ok.hd hc) it a hai its.toArray) he ⟨hit, p⟩ hlt hne (by simp [hne, Ne.symm hae]) fun y h' tk hy ho hst hT hsz hk => ?_
    have hyu : y = u := by
      have q : its[i]? = some y := by simpa using hy
      rw [hu] at q
      exact (Option.some.inj q).symm
    subst hyu
    refine ⟨_, rfl, wpAny_letOwnedTupleGo_enum (s := { s with heap := h', toks := tk + 1 }) ho fun h'' he' sb => ?_⟩
    have hT2 : h''.get? s.heap.objs.size = some { cls := .type "tuple", data := .seq #[.int i tk, y] } := (sb.2 _ (Nat.ne_of_gt hel)).trans hT
    have new : ObjOk X.prog X.w (upd H s.heap.objs.size (.tup [.int (i : Nat), x])) h'' s.heap.objs.size (.tup [.int (i : Nat), x]) :=
      ⟨by show 2 ≤ sizeLine; decide, [.int i tk, y], .cons ⟨_, rfl⟩ (.cons ru .nil), ⟨_, hT2, rfl, _, rfl⟩⟩
    have I1 : Inv X pins σ (upd H s.heap.objs.size (.tup [.int (i : Nat), x])) { s with heap := h'', toks := tk + 1 } :=
      I.turnedNew (ch := [e, it]) (fun b ob hb q => (sb.2 b (fun z => hb (by simp [z]))).trans (hk b ob (fun z => hb (by simp [z])) (fun z => hb (by simp [z])) q)) hf (Nat.le_refl _) new
    refine ⟨.ref s.heap.objs.size, _, I1, rfl, ⟨_, x, rfl, I.hok.fresh (Nat.le_refl _), rfl, fun ys hy => by rw [tup_inj I hy hq]; exact hx⟩, ⟨⟨y, ?_⟩, hst.1.at fun o q => (sb.2 it (Ne.symm hne)).trans q, hne⟩, fun b hb => ?_⟩
    · have e1 : ((i + 1 : Nat) : Int) = (i : Int) + 1 := by omega
      rw [e1]; exact he'
    · have hb' : b < s.heap.objs.size := by
        have e' : b = e ∨ b = it := by simpa using hb
        rcases e' with z | z
        · rw [z]; exact hel
        · rw [z]; exact hil
      rw [upd_ne (Nat.ne_of_lt hb')]
      exact (hf b hb).1
  done := by
    intro X hP hw hK hc i pins s σ H E I hf st hg
    subst hP hw hK
    obtain ⟨⟨old, he⟩, hit, hne⟩ := st
    obtain ⟨xs, hq, hx⟩ := hg
    obtain ⟨its, rv, p, hz⟩ := I.tuple hq
    obtain ⟨f0, f1, f2, f3, f4, f5⟩ := hf it (by simp)
    have hl := rv.length
    have hT : s.TypeIs (.ref e) "enumerate" := ⟨_, he, rfl⟩
    unfold pyNext
    refine wpAny_bind (wpAny_attempt (wpAny_callSpecial?_slot (name := Str.ofString "__next__") hT F.slot_enumerate_next
      (wpAny_call_entry F.slot_enumerate_next hT F.entry_enumerate_next ?_ (F.args_enumerate_next_1 _))))
    show wpAny _ _ (field (.ref e) 2 >>= _) _ _ _
    refine wpAny_bind (wpAny_field he rfl (x := .ref it) rfl ?_)
    refine wpAny_bind (wpAny_nextOf_tuple_end (I.ok.hd hc) hit p (by simp; omega) fun h' x he' hx' => ?_)
    obtain ⟨o, ho, hc'⟩ := hx'
    refine wpAny_bind (wpAny_isInstance (T := "StopIteration") (b := true) ⟨o, ho, hc'⟩ isSubtype_stop ?_)
    exact wpAny_pure ⟨rfl, I.turned (t' := s.toks) (fun b o hb q => he' b o hb q) f0 f1 f3 f4 f5⟩
  self := fun A i s Q E st h => let ⟨⟨_, he⟩, _⟩ := st; wpAny_pyIter_enum he h
def iEnumT (K : PySem.W.Frag) (ta : TA) : TI := fun σ H R => ta σ H fun vs H1 => ∃ a xs, vs = [.ref a] ∧ SqT K H1 a xs ∧ R (IteT K a) H1
theorem pi_enumT {X : Cx} {e : Expr} {ta : TA} {p pos tpos : Pos} {elts : List Expr} {kk : Nat} (hg : Gl X "enumerate") (hm : X.mg "enumerate" = none) (ha : PA X [e] ta) (hs : starEach [e] X.env = [(false, eval e X.env)] := by rfl) :
    PI X (.Tuple elts kk tpos) (.Call (.Name "enumerate" p) [e] [] pos) (iEnumT X.K ta) := by
  refine ⟨fun pins s σ H R I h => ?_⟩
  refine Call_ (ld_blt I hg hm boot_enumerate (PyProof.Rows.callWith_type1 (thn (ha.run pos pins s σ H _ I h) fun us s1 ⟨vs, H1, I1, r1, q1⟩ => ?_) hs rfl))
  obtain ⟨a, xs, ex, hq, q⟩ := q1
  subst ex
  cases r1 with
  | cons r rr =>
    cases rr
    cases r
    obtain ⟨its, rv, p', hz⟩ := I1.tuple hq
    have hal : a < s1.heap.objs.size := p'.lt
    refine call_enum1 (begins_tuple a its.toArray) p' fun h' he hit hk => wpAny_pyIter_enum he ?_
    have I2 : Inv X pins σ H1 { s1 with heap := h' } := I1.kept (t' := s1.toks) hk
    refine ⟨s1.heap.objs.size + 1, [s1.heap.objs.size + 1, s1.heap.objs.size], _, _, H1, rfl, I2, turn_enumT a (s1.heap.objs.size + 1) s1.heap.objs.size (Nat.ne_of_lt hal) (Nat.ne_of_lt (Nat.lt_succ_of_lt hal)), ⟨⟨.none, he⟩, ⟨_, hit, rfl, rfl⟩, Nat.succ_ne_self _⟩, fun b hb => ?_, q⟩
    have e' : b = s1.heap.objs.size + 1 ∨ b = s1.heap.objs.size := by simpa using hb
    have hle : s1.heap.objs.size ≤ b := by
      rcases e' with z | z
      · rw [z]; exact Nat.le_add_right _ _
      · rw [z]; exact Nat.le_refl _
    exact I1.fpOk hle (I1.hok.fresh hle)
/-- range with a step above 0 -/
theorem RgC.up {i j c : Int} (hc : 1 ≤ c) (hc' : c ≤ 1000) (ha : -10000000 ≤ i) (ha' : i ≤ 10000000) (hb : -10000000 ≤ j) (hb' : j ≤ 10000000) : RgC i j c ((j - i + c - 1) / c).toNat := by
  have q0 : 0 < c := by omega
  have dl : (j - i + c - 1) / c ≤ 20001000 := by
    by_cases z : 0 ≤ j - i + c - 1
    · exact Int.le_trans (Int.ediv_le_self _ z) (by omega)
    · have := Int.ediv_neg_of_neg_of_pos (show j - i + c - 1 < 0 by omega) q0
      omega
  have e : Builtin.Range.rangeSize i j c = (((j - i + c - 1) / c).toNat : Int) := by
    unfold Builtin.Range.rangeSize
    simp only [show c > 0 from q0, if_true]
    by_cases h : i < j
    · rw [if_pos h]
      have z := Int.add_mul_ediv_right (j - i - 1) 1 (c := c) (by omega)
      rw [show j - i - 1 + 1 * c = j - i + c - 1 by omega] at z
      have y := Int.ediv_nonneg (show 0 ≤ j - i - 1 by omega) (show 0 ≤ c by omega)
      rw [z]
      omega
    · rw [if_neg h]
      have z := Int.ediv_lt_of_lt_mul q0 (show j - i + c - 1 < 1 * c by omega)
      omega
  refine ⟨by omega, by omega, ?_, e⟩
  unfold Builtin.Range.small
  rw [e]
  simp only [Builtin.Range.rangeFitsLong, Bool.and_eq_true, Bool.or_eq_true, decide_eq_true_eq, beq_iff_eq, show c > 0 from q0, if_true]
  generalize (j - i + c - 1) / c = d at *
  omega
end Dh


set_option Elab.async false
set_option linter.all false
set_option maxRecDepth 100000
set_option maxHeartbeats 4000000
/-! DhIter: what is walked, targets, list comprehensions. -/
namespace Dh
open PySem PySem.Spec PyProof.Rows L2

/-- an iterator that gives ds, whatever the store becomes meanwhile -/
def Wk (K : Frag) (J : It) (ds : List D) (r1 : List Addr) (H1 : Hp) : Prop := ∀ (r : List Addr) (H : Hp) (m : Sto), Ext r1 H1 r H → StoOk K r H m →
  (∀ i d, ds[i]? = some d → J.go i H ∧ ∀ x H', J.yld i H x H' → Ext r H r H' ∧ StoOk K r H' m ∧ Rp K r H' d x) ∧ J.stop ds.length H
def TSrc (K : Frag) : Rel Src It := fun r H s J => match s with
  | .fix ds => Wk K J ds r H
  | .loc n => ∃ a, r[n]? = some a ∧ J = Itl K a
def tI (g : Gd) (n : Env → M Src) : L2.TI := fun σ H R => ∃ r env m, Cn g (TSrc g.K) σ env r H (n env) m R
theorem Wk.of {K : Frag} {J : It} {ds : List D} {n : Nat} {G : Hp → Prop} {Y : Nat → Hp → V → Hp → Prop} {r1 : List Addr} {H1 : Hp} (w : Walk J n G Y) (hn : n = ds.length) (hG : ∀ r H m, Ext r1 H1 r H → StoOk K r H m → G H)
    (hY : ∀ r H m i d x H', Ext r1 H1 r H → StoOk K r H m → ds[i]? = some d → Y i H x H' → Ext r H r H' ∧ StoOk K r H' m ∧ Rp K r H' d x) : Wk K J ds r1 H1 := by
  subst hn
  refine fun r H m x s => ⟨fun i d hd => ?_, w.stops H (hG r H m x s)⟩
  have hi : i < ds.length := (List.getElem?_eq_some_iff.mp hd).1
  exact ⟨w.goes i H hi (hG r H m x s), fun v H' y => hY r H m i d v H' x s hd (w.yields i H v H' hi (hG r H m x s) y)⟩
section
variable {K : Frag} {r r' : List Addr} {H H' : Hp} {m m' : Sto}
theorem Wk.list {a : Addr} {ds : List D} {vs : List V} (s : StoOk K r H m) (h : Fz K H a vs) (t : Rps K r H ds vs) : Wk K (Itl K a) ds r H :=
  Wk.of (walk_list (xs := vs)) t.len (fun r1 H1 m1 x s1 => (h.kp (x.toKp s)).sq) fun r1 H1 m1 i d v H2 x s1 hd y => by
    obtain ⟨rfl, hv⟩ := y
    obtain ⟨u, h1, h2⟩ := (Rps.kp (x.toKp s) _ _ t).get hd
    rw [hv] at h1
    cases h1
    exact ⟨Ext.refl _ _, s1, h2⟩
theorem Wk.tup {a : Addr} {ds : List D} {vs : List V} (s : StoOk K r H m) (h : SqT K H a vs) (t : Rps K r H ds vs) : Wk K (Itt K a) ds r H :=
  Wk.of (walk_tup (xs := vs)) t.len (fun r1 H1 m1 x s1 => SqT.kp (x.toKp s) h) fun r1 H1 m1 i d v H2 x s1 hd y => by
    obtain ⟨rfl, hv⟩ := y
    obtain ⟨u, h1, h2⟩ := (Rps.kp (x.toKp s) _ _ t).get hd
    rw [hv] at h1
    cases h1
    exact ⟨Ext.refl _ _, s1, h2⟩
theorem Wk.range {lo hi : Int} : Wk K (Itr lo (hi - lo).toNat) (ranged lo hi) r H :=
  Wk.of walk_range (by simp [ranged]) (fun _ _ _ _ _ => trivial) fun r1 H1 m1 i d v H2 x s1 hd y => by
    obtain ⟨rfl, rfl⟩ := y
    unfold ranged at hd
    rw [List.getElem?_map] at hd
    obtain ⟨j, h1, h2⟩ := Option.map_eq_some_iff.mp hd
    have e : i = j := by
      rw [List.getElem?_range] at h1
      · simpa using h1
      · by_cases z : i < (hi - lo).toNat
        · exact z
        · rw [List.getElem?_eq_none (by simpa using z)] at h1
          cases h1
    subst e h2
    exact ⟨Ext.refl _ _, s1, rfl⟩
theorem Wk.chars {s : List Nat} : Wk K (Its ⟨s.toArray⟩) (s.map fun c => .str [c]) r H :=
  Wk.of walk_str (by simp) (fun _ _ _ _ _ => trivial) fun r1 H1 m1 i d v H2 x s1 hd y => by
    obtain ⟨rfl, c, h1, rfl⟩ := y
    rw [List.getElem?_map] at hd
    obtain ⟨j, h3, h2⟩ := Option.map_eq_some_iff.mp hd
    have e : s[i]? = some c := by simpa using h1
    rw [h3] at e
    cases e
    subst h2
    exact ⟨Ext.refl _ _, s1, rfl⟩
theorem pair_new {a : Addr} {x y : V} {d e : D} (s : StoOk K r H m) (h : H a = none) (h1 : Rp K r H d x) (h2 : Rp K r H e y) :
    Ext r H r (upd H a (.tup [x, y])) ∧ StoOk K r (upd H a (.tup [x, y])) m ∧ Rp K r (upd H a (.tup [x, y])) (.tup [d, e]) (.ref a) :=
  ⟨Ext.new h, s.new h, a, [x, y], rfl, SqT.of upd_same, x, [y], rfl, Rp.kp (Kp.new h) _ _ h1, y, [], rfl, Rp.kp (Kp.new h) _ _ h2, rfl⟩
theorem enumD_len : ∀ (n : Nat) (ds : List D), (enumD n ds).length = ds.length
  | _, [] => rfl
  | n, d :: ds => by rw [enumD, List.length_cons, List.length_cons, enumD_len]
theorem enumD_at : ∀ {n i : Nat} {ds : List D} {e : D}, (enumD n ds)[i]? = some e → ∃ d, ds[i]? = some d ∧ e = .tup [.int (n + i : Nat), d]
  | n, _, [], _, h => by simp [enumD] at h
  | n, 0, d :: ds, e, h => by
    have h' : D.tup [.int n, d] = e := by simpa [enumD] using h
    subst h'
    exact ⟨d, rfl, rfl⟩
  | n, i + 1, d :: ds, e, h => by
    have h' : (enumD (n + 1) ds)[i]? = some e := by simpa [enumD] using h
    obtain ⟨d', h1, h2⟩ := enumD_at h'
    refine ⟨d', by simpa using h1, ?_⟩
    rw [h2]
    congr 3
    omega
theorem zipD_len : ∀ (xs ys : List D), (zipD xs ys).length = min xs.length ys.length
  | [], ys => by simp [zipD]
  | x :: xs, [] => by simp [zipD]
  | x :: xs, y :: ys => by
    rw [zipD, List.length_cons, List.length_cons, List.length_cons, zipD_len]
    omega
theorem zipD_at : ∀ {i : Nat} {xs ys : List D} {e : D}, (zipD xs ys)[i]? = some e → ∃ x y, xs[i]? = some x ∧ ys[i]? = some y ∧ e = .tup [x, y]
  | _, [], _, _, h => by simp [zipD] at h
  | _, _ :: _, [], _, h => by simp [zipD] at h
  | 0, x :: xs, y :: ys, e, h => by
    have h' : D.tup [x, y] = e := by simpa [zipD] using h
    subst h'
    exact ⟨x, y, rfl, rfl, rfl⟩
  | i + 1, x :: xs, y :: ys, e, h => by
    have h' : (zipD xs ys)[i]? = some e := by simpa [zipD] using h
    obtain ⟨x', y', h1, h2, h3⟩ := zipD_at h'
    exact ⟨x', y', by simpa using h1, by simpa using h2, h3⟩
theorem Wk.enum {a : Addr} {ds : List D} {vs : List V} (s : StoOk K r H m) (h : Fz K H a vs) (t : Rps K r H ds vs) : Wk K (Ite K a) (enumD 0 ds) r H :=
  Wk.of (walk_enum (xs := vs)) (by rw [enumD_len, t.len]) (fun r1 H1 m1 x s1 => (h.kp (x.toKp s)).sq) fun r1 H1 m1 i d v H2 x s1 hd y => by
    obtain ⟨T, u, w, rfl, h0, rfl, h1, h2⟩ := y
    obtain ⟨d', h3, rfl⟩ := enumD_at hd
    obtain ⟨z, h4, h5⟩ := (Rps.kp (x.toKp s) _ _ t).get h3
    have h2' : vs[i]? = some w := h2
    rw [h4] at h2'
    cases h2'
    cases h1
    refine pair_new s1 h0 ?_ h5
    show V.int (i : Nat) = V.int ((0 + i : Nat) : Int)
    rw [Nat.zero_add]
theorem Wk.enumT {a : Addr} {ds : List D} {vs : List V} (s : StoOk K r H m) (h : SqT K H a vs) (t : Rps K r H ds vs) : Wk K (IteT K a) (enumD 0 ds) r H := by
  refine fun r1 H1 m1 x s1 => ⟨fun i d hd => ?_, ?_⟩
  · have q1 := SqT.kp (x.toKp s) h
    obtain ⟨d', h3, rfl⟩ := enumD_at hd
    obtain ⟨z, h4, h5⟩ := (Rps.kp (x.toKp s) _ _ t).get h3
    refine ⟨⟨vs, z, q1, h4⟩, fun v H2 y => ?_⟩
    obtain ⟨T, w, rfl, h0, rfl, h2⟩ := y
    have h2' := h2 vs q1
    rw [h4] at h2'
    cases h2'
    refine pair_new s1 h0 ?_ h5
    show V.int (i : Nat) = V.int ((0 + i : Nat) : Int)
    rw [Nat.zero_add]
  · exact ⟨vs, SqT.kp (x.toKp s) h, by rw [enumD_len, t.len]; omega⟩
theorem Wk.rangeC {lo hi c : Int} : Wk K (Itc lo c ((hi - lo + c - 1) / c).toNat) (rangedC lo hi c) r H :=
  Wk.of walk_rangeC (by simp [rangedC]) (fun _ _ _ _ _ => trivial) fun r1 H1 m1 i d v H2 x s1 hd y => by
    obtain ⟨rfl, rfl⟩ := y
    unfold rangedC at hd
    rw [List.getElem?_map] at hd
    obtain ⟨j, h1, h2⟩ := Option.map_eq_some_iff.mp hd
    have e : i = j := by
      rw [List.getElem?_range] at h1
      · simpa using h1
      · by_cases z : i < ((hi - lo + c - 1) / c).toNat
        · exact z
        · rw [List.getElem?_eq_none (by simpa using z)] at h1
          cases h1
    subst e h2
    exact ⟨Ext.refl _ _, s1, rfl⟩
theorem zip_y {xs ys : List D} {vs ws : List V} {r1 : List Addr} {H1 : Hp} {m1 : Sto} (t : Rps K r1 H1 xs vs) (t2 : Rps K r1 H1 ys ws) (s1 : StoOk K r1 H1 m1) {i : Nat} {d : D} {v : V} {H2 : Hp} (hd : (zipD xs ys)[i]? = some d) (y : YPair (fun i => vs[i]?) (fun i => ws[i]?) i H1 v H2) :
    Ext r1 H1 r1 H2 ∧ StoOk K r1 H2 m1 ∧ Rp K r1 H2 d v := by
  obtain ⟨T, u, w, rfl, h0, rfl, h1, h2⟩ := y
  obtain ⟨d1, d2, h3, h4, rfl⟩ := zipD_at hd
  obtain ⟨z, h5, h6⟩ := t.get h3
  obtain ⟨z', h7, h8⟩ := t2.get h4
  have h1' : vs[i]? = some u := h1
  have h2' : ws[i]? = some w := h2
  rw [h5] at h1'
  rw [h7] at h2'
  cases h1'
  cases h2'
  exact pair_new s1 h0 h6 h8
theorem Wk.zip {a b : Addr} {xs ys : List D} {vs ws : List V} (s : StoOk K r H m) (h : Fz K H a vs) (t : Rps K r H xs vs) (h2 : Fz K H b ws) (t2 : Rps K r H ys ws) : Wk K (Itz K a b) (zipD xs ys) r H :=
  Wk.of (walk_zip (xs := vs) (ys := ws) rfl) (by rw [zipD_len, t.len, t2.len]) (fun r1 H1 m1 x s1 => ⟨(h.kp (x.toKp s)).sq, (h2.kp (x.toKp s)).sq⟩) fun r1 H1 m1 i d v H2 x s1 hd y => zip_y (Rps.kp (x.toKp s) _ _ t) (Rps.kp (x.toKp s) _ _ t2) s1 hd y
theorem Wk.zipT {a b : Addr} {xs ys : List D} {vs ws : List V} (s : StoOk K r H m) (h : SqT K H a vs) (t : Rps K r H xs vs) (h2 : SqT K H b ws) (t2 : Rps K r H ys ws) : Wk K (RZ.ItzT K a b) (zipD xs ys) r H := by
  refine fun r1 H1 m1 x s1 => ⟨fun i d hd => ?_, ?_⟩
  · have q1 := SqT.kp (x.toKp s) h
    have q2 := SqT.kp (x.toKp s) h2
    obtain ⟨d1, d2, h3, h4, rfl⟩ := zipD_at hd
    obtain ⟨z, h5, h6⟩ := t.get h3
    obtain ⟨z', h7, h8⟩ := t2.get h4
    refine ⟨⟨vs, ws, z, z', q1, q2, h5, h7⟩, fun v H2 y => ?_⟩
    obtain ⟨T, u, w, e1, e2, e3, e4, e5⟩ := y
    exact zip_y (Rps.kp (x.toKp s) _ _ t) (Rps.kp (x.toKp s) _ _ t2) s1 hd ⟨T, u, w, e1, e2, e3, e4 vs q1, e5 ws q2⟩
  · exact ⟨vs, ws, SqT.kp (x.toKp s) h, SqT.kp (x.toKp s) h2, by rw [zipD_len, t.len, t2.len]; omega⟩
end
/-! ### iterables -/
section
variable {X : Cx} {g : Gd} {tg e e2 : Expr} {n n2 : Env → M D} {p pos : Pos}
theorem si_seq (hg : g.K = X.K) (he : PE X e (tOf g n)) : PI X tg e (tI g fun env => bnd (n env) fun d => match d with
    | .tup ds => ret (.fix ds)
    | .lst ds => ret (.fix ds)
    | .loc n => fun m => if isDic m n then .bad else .ok (.loc n) m
    | .str s => if s.length ≤ lim then ret (.fix (s.map fun c => .str [c])) else bad
    | _ => bad) := by
  refine ⟨fun pins s σ H R I ⟨r, env, m, c⟩ => ?_⟩
  have tupCase : ∀ ds m1, n env m = .ok (.tup ds) m1 → iTup X.K (tOf g n) σ H R := fun ds m1 hx => by
    refine ⟨r, env, m, c.bnd.mono ?_⟩
    rintro v H1 ⟨r1, d, m2, x1, t1, e1, c1⟩
    rw [hx] at e1
    cases e1
    obtain ⟨a, vs, rfl, q, t⟩ := t1
    exact ⟨a, rfl, ⟨vs, hg ▸ q⟩, c1.2.2 r1 H1 _ (Ext.refl _ _) c1.1 (hg ▸ Wk.tup c1.1 q t)⟩
  have strCase : ∀ z m1, n env m = .ok (.str z) m1 → iStr (tOf g n) σ H R := fun z m1 hx => by
    refine ⟨r, env, m, c.bnd.mono ?_⟩
    rintro v H1 ⟨r1, d, m2, x1, t1, e1, c1⟩
    rw [hx] at e1
    cases e1
    dsimp only at c1
    by_cases hz : z.length ≤ lim
    · rw [if_pos hz] at c1
      exact ⟨_, t1, c1.2.2 r1 H1 _ (Ext.refl _ _) c1.1 Wk.chars⟩
    · rw [if_neg hz] at c1
      exact c1.2.2.elim
  have lstCase : ∀ d0 m1, n env m = .ok d0 m1 → (∀ ds, d0 ≠ .tup ds) → (∀ z, d0 ≠ .str z) → iList X.K (tOf g n) σ H R := fun d0 m1 hx hn hn2 => by
    refine ⟨r, env, m, c.bnd.mono ?_⟩
    rintro v H1 ⟨r1, d, m2, x1, t1, e1, c1⟩
    rw [hx] at e1
    cases e1
    cases d0 with
    | tup ds => exact (hn ds rfl).elim
    | str z => exact (hn2 z rfl).elim
    | lst ds =>
      obtain ⟨a, vs, rfl, q, t⟩ := t1
      exact ⟨a, rfl, ⟨vs, hg ▸ q.sq⟩, c1.2.2 r1 H1 _ (Ext.refl _ _) c1.1 (hg ▸ Wk.list c1.1 q t)⟩
    | loc k =>
      obtain ⟨a, rfl, ha⟩ := t1
      obtain ⟨hd, c2⟩ := Cn.nd (x := ret (Src.loc k)) c1
      have c1 := c2
      obtain ⟨vs, hv⟩ := c1.1.isL ha hd
      exact ⟨a, rfl, ⟨vs, SqL.of hv⟩, c1.2.2 r1 H1 _ (Ext.refl _ _) c1.1 ⟨a, ha, by rw [hg]⟩⟩
    | _ => exact c1.2.2.elim
  cases hx : n env m with
  | bad =>
    have z := c.2.2
    dsimp only [Dh.bnd] at z
    rw [hx] at z
    exact z.elim
  | exc x m1 => exact (pi_list he).run pins s σ H R I ⟨r, env, m, c.bnd.mono fun v H1 ⟨r1, d, m2, x1, t1, e1, c1⟩ => by rw [hx] at e1; cases e1⟩
  | ok d m1 =>
    cases d with
    | tup ds => exact (pi_tup he).run pins s σ H R I (tupCase ds m1 hx)
    | str z => exact (pi_str he).run pins s σ H R I (strCase z m1 hx)
    | _ => exact (pi_list he).run pins s σ H R I (lstCase _ m1 hx (fun _ z => by cases z) fun _ z => by cases z)
theorem PI.weak {w w' : L2.TI} (h : PI X tg e w) (q : ∀ σ H R, w' σ H R → w σ H R) : PI X tg e w' := ⟨fun pins s σ H R I z => h.run pins s σ H R I (q σ H R z)⟩
theorem si_chars (he : PE X e (tOf g n)) : PI X tg e (tI g fun env => bnd (n env) fun d => match d with
    | .str s => if s.length ≤ lim then ret (.fix (s.map fun c => .str [c])) else bad
    | _ => bad) := by
  refine PI.weak (pi_str he) fun σ H R ⟨r, env, m, c⟩ => ⟨r, env, m, c.bnd.mono ?_⟩
  rintro v H1 ⟨r1, d, m1, x1, t1, _, c1⟩
  cases d with
  | str s =>
    dsimp only at c1
    by_cases hz : s.length ≤ lim
    · rw [if_pos hz] at c1
      exact ⟨_, t1, c1.2.2 r1 H1 _ (Ext.refl _ _) c1.1 Wk.chars⟩
    · rw [if_neg hz] at c1
      exact c1.2.2.elim
  | _ => exact c1.2.2.elim
theorem limN : (lim : Int) < 2 ^ 62 := by unfold lim; decide
abbrev rngM (ds : List D) : M Src := match ds with
    | [.int j] => if -(lim : Int) ≤ j ∧ j ≤ lim then ret (.fix (ranged 0 j)) else bad
    | [.int i, .int j] => if (-(lim : Int) ≤ i ∧ i ≤ lim) ∧ -(lim : Int) ≤ j ∧ j ≤ lim then ret (.fix (ranged i j)) else bad
    | [.int i, .int j, .int c] => if ((-(lim : Int) ≤ i ∧ i ≤ lim) ∧ -(lim : Int) ≤ j ∧ j ≤ lim) ∧ 1 ≤ c ∧ c ≤ 1000 then ret (.fix (rangedC i j c)) else bad
    | _ => bad
end
/-- how many there are -/
def Len (ms : Env → M (List D)) (k : Nat) : Prop := ∀ env m ds m', ms env m = .ok ds m' → ds.length = k
section
variable {X : Cx} {g : Gd} {tg e e2 : Expr} {n n2 : Env → M D} {p pos : Pos} {ms : Env → M (List D)}
theorem si_range1 {a : Expr} (hgl : Gl X "range") (hm : X.mg "range" = none) (ha : PA X [a] (tOfs g ms)) (hk : Len ms 1) (hs : starEach [a] X.env = [(false, eval a X.env)]) :
    PI X tg (.Call (.Name "range" p) [a] [] pos) (tI g fun env => bnd (ms env) rngM) := by
  refine PI.weak (pi_range1 hgl hm ha hs) fun σ H R ⟨r, env, m, c⟩ => ⟨r, env, m, c.bnd.mono ?_⟩
  rintro vs H1 ⟨r1, ds, m1, x1, t1, e1, c1⟩
  have hl := hk env m ds m1 e1
  match ds, hl with
  | [d], _ =>
    obtain ⟨v, rfl, t⟩ := t1.one'
    cases d with
    | int j =>
      dsimp only [rngM] at c1
      by_cases hz : -(lim : Int) ≤ j ∧ j ≤ lim
      · rw [if_pos hz] at c1
        have := limN
        have z := c1.2.2 r1 H1 (Itr 0 (j - 0).toNat) (Ext.refl _ _) c1.1 Wk.range
        rw [Int.sub_zero] at z
        exact ⟨j, by rw [show v = V.int j from t], by omega, by omega, z⟩
      · rw [if_neg hz] at c1
        exact c1.2.2.elim
    | _ => exact c1.2.2.elim
theorem si_range2 {a b : Expr} (hgl : Gl X "range") (hm : X.mg "range" = none) (ha : PA X [a, b] (tOfs g ms)) (hk : Len ms 2) (hs : starEach [a, b] X.env = [(false, eval a X.env), (false, eval b X.env)]) (hs2 : starEach [b] X.env = [(false, eval b X.env)]) :
    PI X tg (.Call (.Name "range" p) [a, b] [] pos) (tI g fun env => bnd (ms env) rngM) := by
  refine PI.weak (pi_range2 hgl hm ha hs hs2) fun σ H R ⟨r, env, m, c⟩ => ⟨r, env, m, c.bnd.mono ?_⟩
  rintro vs H1 ⟨r1, ds, m1, x1, t1, e1, c1⟩
  have hl := hk env m ds m1 e1
  match ds, hl with
  | [d, d2], _ =>
    obtain ⟨v, w, rfl, t, t'⟩ := t1.two'
    cases d with
    | int i =>
      cases d2 with
      | int j =>
        dsimp only [rngM] at c1
        by_cases hz : (-(lim : Int) ≤ i ∧ i ≤ lim) ∧ -(lim : Int) ≤ j ∧ j ≤ lim
        · rw [if_pos hz] at c1
          have := limN
          have z := c1.2.2 r1 H1 (Itr i (j - i).toNat) (Ext.refl _ _) c1.1 Wk.range
          exact ⟨i, j, by rw [show v = V.int i from t, show w = V.int j from t'], ⟨by omega, by omega, by omega, by omega⟩, z⟩
        · rw [if_neg hz] at c1
          exact c1.2.2.elim
      | _ => exact c1.2.2.elim
    | _ => exact c1.2.2.elim
theorem si_enum {elts : List Expr} {kk : Nat} {tpos : Pos} (hg : g.K = X.K) (hgl : Gl X "enumerate") (hm : X.mg "enumerate" = none) (he : PE X e (tOf g n)) (hs : starEach [e] X.env = [(false, eval e X.env)]) :
    PI X (.Tuple elts kk tpos) (.Call (.Name "enumerate" p) [e] [] pos) (tI g fun env => bnd (n env) fun d => match d with
      | .lst ds => ret (.fix (enumD 0 ds))
      | .tup ds => ret (.fix (enumD 0 ds))
      | _ => bad) := by
  refine ⟨fun pins s σ H R I ⟨r, env, m, c⟩ => ?_⟩
  by_cases hx : ∃ ds m1, n env m = .ok (.tup ds) m1
  · obtain ⟨ds, m1, hx⟩ := hx
    refine (pi_enumT hgl hm (pa_cons he pa_nil hs) hs).run pins s σ H R I ⟨r, env, m, c.bnd.mono ?_⟩
    rintro v H1 ⟨r1, d, m2, x1, t1, e1, c1⟩
    rw [hx] at e1
    cases e1
    obtain ⟨a, vs, rfl, q, t⟩ := t1
    exact ⟨a, vs, rfl, hg ▸ q, c1.2.2 r1 H1 _ (Ext.refl _ _) c1.1 (hg ▸ Wk.enumT c1.1 q t)⟩
  · refine (pi_enum hgl hm (pa_cons he pa_nil hs) hs).run pins s σ H R I ⟨r, env, m, c.bnd.mono ?_⟩
    rintro v H1 ⟨r1, d, m1, x1, t1, e1, c1⟩
    cases d with
    | lst ds =>
      obtain ⟨a, vs, rfl, q, t⟩ := t1
      exact ⟨a, vs, rfl, hg ▸ q.sq, c1.2.2 r1 H1 _ (Ext.refl _ _) c1.1 (hg ▸ Wk.enum c1.1 q t)⟩
    | tup ds => exact (hx ⟨ds, m1, e1⟩).elim
    | _ => exact c1.2.2.elim
theorem si_range3 {a b e3 : Expr} (hgl : Gl X "range") (hm : X.mg "range" = none) (ha : PA X [a, b, e3] (tOfs g ms)) (hk : Len ms 3) (hs : starEach [a, b, e3] X.env = (false, eval a X.env) :: starEach [b, e3] X.env) (hpl : (backTo pos (starEach [b, e3] X.env)).any (·.1) = false) :
    PI X tg (.Call (.Name "range" p) [a, b, e3] [] pos) (tI g fun env => bnd (ms env) rngM) := by
  refine PI.weak (pi_range3 hgl hm ha hs hpl) fun σ H R ⟨r, env, m, c⟩ => ⟨r, env, m, c.bnd.mono ?_⟩
  rintro vs H1 ⟨r1, ds, m1, x1, t1, e1, c1⟩
  have hl := hk env m ds m1 e1
  match ds, hl with
  | [d, d2, d3], _ =>
    obtain ⟨v, w0, rfl, t, tr⟩ := t1
    obtain ⟨w, u, rfl, t', t''⟩ := Rps.two' tr
    cases d with
    | int i =>
      cases d2 with
      | int j =>
        cases d3 with
        | int k =>
          dsimp only [rngM] at c1
          by_cases hz : ((-(lim : Int) ≤ i ∧ i ≤ lim) ∧ -(lim : Int) ≤ j ∧ j ≤ lim) ∧ 1 ≤ k ∧ k ≤ 1000
          · rw [if_pos hz] at c1
            have ll : (lim : Int) = 10000000 := rfl
            have z := c1.2.2 r1 H1 (Itc i k ((j - i + k - 1) / k).toNat) (Ext.refl _ _) c1.1 Wk.rangeC
            exact ⟨i, j, k, _, by rw [show v = V.int i from t, show w = V.int j from t', show u = V.int k from t''], RgC.up hz.2.1 hz.2.2 (by omega) (by omega) (by omega) (by omega), z⟩
          · rw [if_neg hz] at c1
            exact c1.2.2.elim
        | _ => exact c1.2.2.elim
      | _ => exact c1.2.2.elim
    | _ => exact c1.2.2.elim
theorem si_zip {elts : List Expr} {kk : Nat} {tpos : Pos} (hg : g.K = X.K) (hgl : Gl X "zip") (hm : X.mg "zip" = none) (he : PE X e (tOf g n)) (he2 : PE X e2 (tOf g n2)) (hs : starEach [e, e2] X.env = (false, eval e X.env) :: starEach [e2] X.env)
    (hs2 : starEach [e2] X.env = (false, eval e2 X.env) :: starEach [] X.env) (hpl : (backTo pos (starEach [e2] X.env)).any (·.1) = false) :
    PI X (.Tuple elts kk tpos) (.Call (.Name "zip" p) [e, e2] [] pos) (tI g fun env => bnd (n env) fun x => bnd (n2 env) fun y => match x, y with
      | .tup xs, .tup ys => ret (.fix (zipD xs ys))
      | .lst xs, .lst ys => ret (.fix (zipD xs ys))
      | _, _ => bad) := by
  refine PI.weak (RZ.pi_zipA hgl hm (pa_cons he (pa_cons he2 pa_nil hs2) hs) hs hpl) fun σ H R ⟨r, env, m, c⟩ => ⟨r, env, m, c.bnd.mono ?_⟩
  rintro v H1 ⟨r1, d, m1, x1, t1, _, c1⟩
  refine ⟨r1, env, m1, c1.bnd.mono ?_⟩
  rintro w H2 ⟨r2, d2, m2, x2, t2, _, c2⟩
  have k := x2.toKp c1.1
  cases d with
  | tup xs =>
    cases d2 with
    | tup ys =>
      obtain ⟨a, vs, rfl, q, t⟩ := t1
      obtain ⟨b, ws, rfl, q2, t2⟩ := t2
      exact ⟨a, b, vs, ws, rfl, .inr ⟨hg ▸ SqT.kp k q, hg ▸ q2, c2.2.2 r2 H2 _ (Ext.refl _ _) c2.1 (hg ▸ Wk.zipT c2.1 (SqT.kp k q) (Rps.kp k _ _ t) q2 t2)⟩⟩
    | _ => exact c2.2.2.elim
  | lst xs =>
    cases d2 with
    | lst ys =>
      obtain ⟨a, vs, rfl, q, t⟩ := t1
      obtain ⟨b, ws, rfl, q2, t2⟩ := t2
      exact ⟨a, b, vs, ws, rfl, .inl ⟨hg ▸ (q.kp k).sq, hg ▸ q2.sq, c2.2.2 r2 H2 _ (Ext.refl _ _) c2.1 (hg ▸ Wk.zip c2.1 (q.kp k) (Rps.kp k _ _ t) q2 t2)⟩⟩
    | _ => exact c2.2.2.elim
  | _ => exact c2.2.2.elim
end
/-! ### targets -/
/-- slots as they were but at ns -/
def Same (ns : List Nat) (σ σ' : L2.St) : Prop := σ'.length = σ.length ∧ ∀ i, i ∉ ns → σ'[i]? = σ[i]?
def GN (g : Gd) (ns : List Nat) (σ : L2.St) (env : Env) (r : List Addr) (H : Hp) (x : M Env) (m : Sto) (Q : L2.St → Hp → Prop) : Prop :=
  StoOk g.K r H m ∧ EnvOk g.K r H env σ ∧ match x m with
  | .ok env' m' => ∀ r' H' σ', Ext r H r' H' → StoOk g.K r' H' m' → EnvOk g.K r' H' env' σ' → Same ns σ σ' → Q σ' H'
  | _ => False
def tG (g : Gd) (ns : List Nat) (n : D → Env → M Env) : L2.TG := fun v σ H Q => ∃ r env m d, Rp g.K r H d v ∧ GN g ns σ env r H (n d env) m Q
def tGs (g : Gd) (ns : List Nat) (n : List D → Env → M Env) : L2.TGs := fun vs σ H Q => ∃ r env m ds, Rps g.K r H ds vs ∧ GN g ns σ env r H (n ds env) m Q
section
variable {X : Cx} {g : Gd} {o i : Expr} {mo mi : Env → M D} {pos : Pos} {α β : Type} {σ : L2.St} {env : Env} {r : List Addr} {H : Hp} {m : Sto} {R : L2.St → Hp → Prop} {T : Rel α β} {ns ns2 : List Nat}
theorem GN.bnd {x : M α} {f : α → M Env} (h : GN g ns σ env r H (bnd x f) m R) : Cn g T σ env r H x m fun b H1 => ∃ r1 a m1, Ext r H r1 H1 ∧ T r1 H1 a b ∧ x m = .ok a m1 ∧ GN g ns σ env r1 H1 (f a) m1 R := by
  obtain ⟨s, e, h⟩ := h
  refine ⟨s, e, ?_⟩
  dsimp only [Dh.bnd] at h
  cases hx : x m with
  | bad =>
    rw [hx] at h
    exact h
  | exc z m' =>
    rw [hx] at h
    exact h.elim
  | ok a m1 =>
    rw [hx] at h
    dsimp only at h
    intro r1 H1 b x1 s1 t1
    refine ⟨r1, a, m1, x1, t1, rfl, s1, e.kp (x1.toKp s), ?_⟩
    cases hf : f a m1 with
    | bad =>
      rw [hf] at h
      exact h
    | exc z m' =>
      rw [hf] at h
      exact h
    | ok y m2 =>
      rw [hf] at h
      exact fun r' H' c x2 => h r' H' c (x1.trans x2)
theorem Same.refl (ns : List Nat) (σ : L2.St) : Same ns σ σ := ⟨rfl, fun _ _ => rfl⟩
theorem sg_name {k : Nat} {x : Str} (hN : X.N.Nodup) (hi : X.N[k]? = some x) (hx : Loc X.env.scope x) (hf : X.fn x = true ∨ X.env.scope.names.lookup x = some .local) :
    PG X (.Name x pos) (tG g [k] fun d env => if k < env.length then ret (env.set k (some d)) else bad) := by
  refine ⟨fun pins s σ H v u Q I rv ⟨r, env, m, d, t, s1, e1, h⟩ => (pg_name hN hi hx hf).run pins s σ H v u Q I rv ?_⟩
  dsimp only at h
  by_cases hk : k < env.length
  · rw [if_pos hk] at h
    refine h r H _ (Ext.refl _ _) s1 ⟨by rw [List.length_set, List.length_set]; exact e1.len, fun j d' hj => ?_⟩ ⟨List.length_set, fun j hj => List.getElem?_set_ne (fun z => hj (by simp [z]))⟩
    by_cases hjk : j = k
    · subst hjk
      rw [List.getElem?_set_self hk] at hj
      cases hj
      exact ⟨v, List.getElem?_set_self (by rw [← e1.len]; exact hk), t⟩
    · rw [List.getElem?_set_ne (Ne.symm hjk)] at hj
      obtain ⟨w, h1, h2⟩ := e1.at_ j d' hj
      exact ⟨w, by rw [List.getElem?_set_ne (Ne.symm hjk)]; exact h1, h2⟩
  · rw [if_neg hk] at h
    exact h.elim
theorem setIx_ix {α : Type} {xs ys : List α} {k : Int} {a : α} (h : setIx xs k a = some ys) : ∃ j, ixN xs.length k = some j ∧ ys = xs.set j a := by
  unfold setIx at h
  unfold ixN
  split at h
  · rename_i h0
    split at h
    · rename_i h1
      cases h
      refine ⟨k.toNat, ?_, rfl⟩
      simp [h0, h1]
      omega
    · cases h
  · rename_i h0
    split at h
    · rename_i h1
      cases h
      refine ⟨(k + xs.length).toNat, ?_, rfl⟩
      simp [h0, h1]
    · cases h
theorem setSub_dic {m : Sto} {n : Nat} {y d : D} {kvs : List (NestedKey × D)} (h : dicOf m (.loc n) = some kvs) : setSub (.loc n) y d m = setDic n kvs y d m := by
  unfold setSub
  rw [h]
theorem setSub_lst {m : Sto} {x y d : D} (h : dicOf m x = none) : setSub x y d m = setLst x y d m := by
  unfold setSub
  rw [h]
  cases x <;> rfl
theorem sg_sub (hg : g.K = X.K) (hu : X.A.units + 9 < cLine) (ho : PE X o (tOf g mo)) (hi : PE X i (tOf g mi))
    (ha : ∀ v, assign (.Subscript o i pos) X.env v = (do
      let ov ← holding [v] (eval o X.env)
      let iv ← holding [v, ov] (eval i X.env)
      standAt pos
      holding [v, ov, iv] (setItem ov iv v)
      release [v, ov, iv] [])) : PG X (.Subscript o i pos) (tG g [] fun d env => bnd (mo env) fun x => bnd (mi env) fun y => bnd (setSub x y d) fun _ => ret env) := by
  refine ⟨fun pins s σ H v u Q I rv ⟨r, env, m, d, t, h⟩ => (pg_sub ho hi (Dh.PSet.or set_list (set_dic hu)) ha).run pins s σ H v u Q I rv ?_⟩
  refine ⟨r, env, m, h.bnd.mono ?_⟩
  rintro x H1 ⟨r1, d1, m1, x1, t1, _, h1⟩
  refine ⟨r1, env, m1, h1.bnd.mono ?_⟩
  rintro y H2 ⟨r2, d2, m2, x2, t2, _, s2, e2, h2⟩
  have td := Rp.kp (x2.toKp h1.1) _ _ (Rp.kp (x1.toKp h.1) _ _ t)
  have tl := Rp.kp (x2.toKp h1.1) _ _ t1
  dsimp only [Dh.bnd] at h2
  cases hdc : dicOf m2 d1 with
  | some kvs =>
    obtain ⟨n, rfl, hm⟩ := dicOf_at hdc
    rw [setSub_dic hdc] at h2
    dsimp only [setDic] at h2
    cases hk : keyOf d2 with
    | none =>
      rw [hk] at h2
      exact h2.elim
    | some k =>
      rw [hk] at h2
      dsimp only at h2
      by_cases hl : kvs.length < lim
      · rw [if_pos hl] at h2
        obtain ⟨⟨ds, rfl⟩, f1, f2, f3⟩ := keyOf_at hk
        obtain ⟨p, rfl, ha⟩ := tl
        obtain ⟨xs, q1, q2⟩ := s2.dic ha hm
        have t2' := t2
        obtain ⟨b, vs, rfl, _⟩ := t2'
        refine .inr ⟨r2, p, b, kvs, xs, k, d, rfl, rfl, q1, hg ▸ q2, f2, f3, by rw [f1, ← hg]; exact t2, hl, hg ▸ td, fun xs' pp => ?_⟩
        obtain ⟨s3, k3, x3⟩ := s2.setO (u := DcO p xs') (o := .dic (putD kvs k d)) ha fun kk => ⟨xs', upd_same, by
          rw [hg]
          exact Paired.mapP pp fun a b z => ⟨z.1, Rp.kp kk _ _ z.2.1, let ⟨v, z1, z2⟩ := z.2.2; ⟨v, z1, Rp.kp kk _ _ z2⟩⟩⟩
        exact h2 r2 _ σ x3 s3 (e2.kp k3) (Same.refl _ _)
      · rw [if_neg hl] at h2
        exact h2.elim
  | none =>
  rw [setSub_lst hdc] at h2
  dsimp only [setLst] at h2
  refine .inl ?_
  cases d1 with
  | loc a =>
    cases d2 with
    | int k =>
      dsimp only at h2
      cases hm : m2[a]? with
      | none =>
        rw [hm] at h2
        exact h2.elim
      | some ob =>
        cases ob with
        | lst ds =>
          rw [hm] at h2
          dsimp only at h2
          cases hs : setIx ds k d with
          | none =>
            rw [hs] at h2
            exact h2.elim
          | some ds' =>
            rw [hs] at h2
            dsimp only at h2
            obtain ⟨p, rfl, ha⟩ := tl
            obtain ⟨vs, q1, q2⟩ := s2.at_ ha hm
            obtain ⟨j, hj, rfl⟩ := setIx_ix hs
            obtain ⟨s3, k3, x3⟩ := s2.set ha (q2.set (n := j) td)
            refine ⟨p, vs, k, j, rfl, t2, q1, by rw [q2.len]; exact hj, ?_⟩
            exact h2 r2 _ σ x3 s3 (e2.kp k3) (Same.refl _ _)
        | dic kvs =>
          rw [hm] at h2
          exact h2.elim
    | _ => exact h2.elim
  | _ => cases d2 <;> exact h2.elim
theorem sgs_nil : PGs X [] (tGs g [] fun ds env => match ds with
    | [] => ret env
    | _ => bad) := by
  refine ⟨fun pins s σ H vs us Q I rv ⟨r, env, m, ds, t, s1, e1, h⟩ => pgs_nil.run pins s σ H vs us Q I rv ?_⟩
  cases ds with
  | nil => exact ⟨t, h r H σ (Ext.refl _ _) s1 e1 (Same.refl _ _)⟩
  | cons d ds => exact h.elim
theorem sgs_cons {e : Expr} {es : List Expr} {n : D → Env → M Env} {ms : List D → Env → M Env} (h1 : PG X e (tG g ns n)) (h2 : PGs X es (tGs g ns2 ms)) (hs : (assignEach (e :: es) X.env).map (·.2) = assign e X.env :: (assignEach es X.env).map (·.2)) :
    PGs X (e :: es) (tGs g (ns ++ ns2) fun ds env => match ds with
      | d :: ds => bnd (n d env) fun env' => ms ds env'
      | _ => bad) := by
  refine ⟨fun pins s σ H vs us Q I rv ⟨r, env, m, ds, t, s1, e1, h⟩ => (pgs_cons h1 h2 hs).run pins s σ H vs us Q I rv ?_⟩
  cases ds with
  | nil => exact h.elim
  | cons d ds =>
    obtain ⟨v, ws, rfl, t1, t2⟩ := t
    refine ⟨v, ws, rfl, r, env, m, d, t1, s1, e1, ?_⟩
    dsimp only [Dh.bnd] at h
    cases hx : n d env m with
    | bad =>
      rw [hx] at h
      exact h
    | exc z m' =>
      rw [hx] at h
      exact h
    | ok env1 m1 =>
      rw [hx] at h
      dsimp only at h ⊢
      intro r1 H1 σ1 x1 s2 e2 a1
      refine ⟨r1, env1, m1, ds, Rps.kp (x1.toKp s1) _ _ t2, s2, e2, ?_⟩
      cases hy : ms ds env1 m1 with
      | ok env2 m2 =>
        rw [hy] at h
        refine fun r2 H2 σ2 x2 s3 e3 a2 => h r2 H2 σ2 (x1.trans x2) s3 e3 ⟨a2.1.trans a1.1, fun i hi => ?_⟩
        rw [List.mem_append] at hi
        exact (a2.2 i fun z => hi (.inr z)).trans (a1.2 i fun z => hi (.inl z))
      | bad =>
        rw [hy] at h
        exact h
      | exc z m' =>
        rw [hy] at h
        exact h
theorem sg_tup {es : List Expr} {k : Nat} {ms : List D → Env → M Env} {c : Nat} (hg : g.K = X.K) (hc : X.calm = true) (h : PGs X es (tGs g ns ms)) (hn : (assignEach es X.env).length = c) (hst : (assignEach es X.env).findIdx? (·.1) = none)
    (hl : ∀ ds env m e m', ms ds env m = .ok e m' → ds.length = c) : PG X (.Tuple es k pos) (tG g ns fun d env => match d with
      | .tup ds => ms ds env
      | _ => bad) := by
  refine ⟨fun pins s σ H v u Q I rv ⟨r, env, m, d, t, s1, e1, q⟩ => (pg_tup hc h hn hst).run pins s σ H v u Q I rv ?_⟩
  cases d with
  | tup ds =>
    obtain ⟨a, vs, rfl, z, t⟩ := t
    refine ⟨a, vs, rfl, hg ▸ z, ?_, r, env, m, ds, t, s1, e1, q⟩
    rw [t.len]
    dsimp only at q
    cases hx : ms ds env m with
    | bad =>
      rw [hx] at q
      exact q.elim
    | exc x m' =>
      rw [hx] at q
      exact q.elim
    | ok e m' => exact hl ds env m e m' hx
  | _ => exact q.elim
end
end Dh


set_option Elab.async false
set_option linter.all false
set_option maxRecDepth 100000
set_option maxHeartbeats 4000000
/-! DhComp: list comprehensions. -/
namespace Dh
open PySem PySem.Spec PyProof.Rows L2

section
variable {α β : Type} {x : M α} {f : α → M β} {m m1 : Sto}
theorem bnd_ok {a : α} (h : x m = .ok a m1) : bnd x f m = f a m1 := by
  unfold bnd
  rw [h]
theorem bnd_bad (h : x m = .bad) : bnd x f m = .bad := by
  unfold bnd
  rw [h]
theorem bnd_exc {e : Ex} (h : x m = .exc e m1) : bnd x f m = .exc e m1 := by
  unfold bnd
  rw [h]
end
/-- the block's own names forgotten -/
def wipeE (env : Env) : List Nat → Env
  | [] => env
  | v :: vs => (wipeE env vs).set v none
theorem wipeE_length (env : Env) : ∀ vs, (wipeE env vs).length = env.length
  | [] => rfl
  | v :: vs => by rw [wipeE, List.length_set, wipeE_length]
theorem wipeE_out (env : Env) {i : Nat} : ∀ {vs : List Nat}, i ∉ vs → (wipeE env vs)[i]? = env[i]?
  | [], _ => rfl
  | v :: vs, h => by
    rw [wipeE, List.getElem?_set_ne (fun z => h (by simp [z])), wipeE_out env fun z => h (by simp [z])]
theorem wipeE_some {env : Env} {i : Nat} {x : D} : ∀ {vs : List Nat}, (wipeE env vs)[i]? = some (some x) → env[i]? = some (some x) ∧ i ∉ vs
  | [], h => ⟨h, by simp⟩
  | v :: vs, h => by
    rw [wipeE] at h
    by_cases hi : v = i
    · subst hi
      by_cases hv : v < (wipeE env vs).length
      · rw [List.getElem?_set_self hv] at h; cases h
      · rw [List.getElem?_eq_none (by simpa using hv)] at h; cases h
    · rw [List.getElem?_set_ne hi] at h
      obtain ⟨h1, h2⟩ := wipeE_some h
      exact ⟨h1, by simp only [List.mem_cons, not_or]; exact ⟨fun e => hi e.symm, h2⟩⟩
theorem wipe_out (σ : L2.St) {i : Nat} : ∀ {vs : List Nat}, i ∉ vs → (wipe σ vs)[i]? = σ[i]?
  | [], _ => rfl
  | v :: vs, h => by
    rw [wipe, List.getElem?_set_ne (fun z => h (by simp [z])), wipe_out σ fun z => h (by simp [z])]
theorem wipe_in (σ : L2.St) {i : Nat} (hi : i < σ.length) : ∀ {vs : List Nat}, i ∈ vs → (wipe σ vs)[i]? = some none
  | v :: vs, h => by
    rw [wipe]
    by_cases e : v = i
    · subst e
      exact List.getElem?_set_self (by rw [wipe_length]; exact hi)
    · rw [List.getElem?_set_ne e]
      exact wipe_in σ hi (by simpa [Ne.symm e] using h)
theorem wipe_same {σ σ' : L2.St} {ns vs : List Nat} (h : Same ns (wipe σ vs) σ') (hs : ∀ i ∈ ns, i ∈ vs) : wipe σ' vs = wipe σ vs := by
  have hl : σ'.length = σ.length := by rw [h.1, wipe_length]
  apply List.ext_getElem?
  intro i
  by_cases hi : i ∈ vs
  · by_cases hz : i < σ.length
    · rw [wipe_in σ hz hi, wipe_in σ' (by rw [hl]; exact hz) hi]
    · rw [List.getElem?_eq_none (by rw [wipe_length]; omega), List.getElem?_eq_none (by rw [wipe_length]; omega)]
  · rw [wipe_out σ' hi, h.2 i fun z => hi (hs i z)]
theorem EnvOk.wipe {K : Frag} {r : List Addr} {H : Hp} {env : Env} {σ : L2.St} (e : EnvOk K r H env σ) (vs : List Nat) : EnvOk K r H (wipeE env vs) (L2.wipe σ vs) :=
  ⟨by rw [wipeE_length, wipe_length]; exact e.len, fun i d h => by
    obtain ⟨h1, h2⟩ := wipeE_some h
    obtain ⟨v, h3, h4⟩ := e.at_ i d h1
    exact ⟨v, by rw [wipe_out σ h2]; exact h3, h4⟩⟩
section
variable {K : Frag} {r r1 : List Addr} {H H1 : Hp} {m : Sto} {p : Addr} {vs : List V} {o : HO}
theorem Kp.put (h : H p = some (.lst vs)) : Kp r H r (upd H p o) :=
  ⟨List.prefix_refl _, fun a w e => by rw [upd_ne (ne_of e h (by intro z; cases z))]; exact e, fun a o' w e => by rw [upd_ne (ne_of e h (by intro z; cases z))]; exact e⟩
theorem StoOk.put (s : StoOk K r H m) (h : H p = some (.lst vs)) (hp : p ∉ r) : StoOk K r (upd H p o) m :=
  ⟨s.len, s.nd, fun n b u h1 h2 => ObR.kp (Kp.put h) (upd_ne fun z => hp (by rw [← z]; exact List.mem_of_getElem? h1)) (s.ob n b u h1 h2)⟩
theorem Ext.put (x : Ext r1 H1 r H) (h0 : H1 p = none) : Ext r1 H1 r (upd H p o) :=
  ⟨x.pre, fun a u e n => ⟨by rw [upd_ne (ne_of_none e h0)]; exact (x.kp a u e n).1, (x.kp a u e n).2⟩⟩
end
/-- nothing is told of an exception -/
abbrev Gd.off (g : Gd) : Gd := { g with W := fun _ _ _ _ => False }
abbrev compB (nt : D → Env → M Env) (nc ne : Env → M D) (env : Env) (d : D) : M (Option D) := bnd (nt d env) fun env' => bnd (nc env') fun b => match b with
  | .bl true => bnd (ne env') fun y => ret (some y)
  | .bl false => ret none
  | _ => bad
/-- the turns that are left lead to what is wanted -/
def Left (g : Gd) (rest : M (List D)) (a : Addr) (r1 : List Addr) (H1 : Hp) (ys : List D) (m : Sto) (Q : Hp → Prop) : Prop := match rest m with
  | .ok zs m' => ∀ r H acc, Ext r1 H1 r H → StoOk g.K r H m' → H a = some (.lst acc) → a ∉ r → Rps g.K r H (ys ++ zs) acc → Q H
  | _ => False
/-- one turn -/
theorem Left.turn {g : Gd} {f : M (Option D)} {rest : M (List D)} {a : Addr} {r1 : List Addr} {H1 : Hp} {ys : List D} {m : Sto} {Q : Hp → Prop} (h : Left g (bnd (noExc f) fun o => bnd rest fun ys => ret (match o with
      | some y => y :: ys
      | none => ys)) a r1 H1 ys m Q) :
    match f m with
    | .ok (some y) m' => Left g rest a r1 H1 (ys ++ [y]) m' Q
    | .ok none m' => Left g rest a r1 H1 ys m' Q
    | _ => False := by
  unfold Left at h
  cases hx : f m with
  | bad =>
    rw [bnd_bad (show noExc f m = .bad by unfold noExc; rw [hx])] at h
    exact h
  | exc z m' =>
    rw [bnd_bad (show noExc f m = .bad by unfold noExc; rw [hx])] at h
    exact h
  | ok o m1 =>
    rw [bnd_ok (show noExc f m = .ok o m1 by unfold noExc; rw [hx])] at h
    cases o with
    | none =>
      dsimp only
      unfold Left
      cases hy : rest m1 with
      | ok zs m2 =>
        rw [bnd_ok hy] at h
        exact h
      | bad =>
        rw [bnd_bad hy] at h
        exact h
      | exc z m2 =>
        rw [bnd_exc hy] at h
        exact h
    | some y =>
      dsimp only
      unfold Left
      cases hy : rest m1 with
      | ok zs m2 =>
        rw [bnd_ok hy] at h
        intro r H acc x s e1 e2 t
        rw [List.append_assoc] at t
        exact h r H acc x s e1 e2 t
      | bad =>
        rw [bnd_bad hy] at h
        exact h
      | exc z m2 =>
        rw [bnd_exc hy] at h
        exact h
theorem Left.start {g : Gd} {rest : M (List D)} {a : Addr} {r1 : List Addr} {H1 : Hp} {m : Sto} {Q : Hp → Prop} {σ : L2.St} {env : Env} {H0 : Hp} {Q' : VK} (c : Cn g (RfS g.K H0) σ env r1 H1 (bnd rest fun ys => ret (.lst ys)) m Q') (hc : ∀ x m', rest m ≠ .exc x m') (h0 : H0 a = none) (hq : ∀ H, Q' (.ref a) H → Q H) : Left g rest a r1 H1 [] m Q := by
  have z := c.2.2
  unfold Left
  cases hy : rest m with
  | bad =>
    rw [bnd_bad hy] at z
    exact z
  | exc e m' => exact (hc e m' hy).elim
  | ok zs m2 =>
    rw [bnd_ok hy] at z
    have z2 : ∀ r' H' b, Ext r1 H1 r' H' → StoOk g.K r' H' m2 → RfS g.K H0 r' H' (.lst zs) b → Q' b H' := z
    intro r' H' acc x s e1 e2 t
    exact hq _ (z2 r' H' _ x s ⟨zs, a, acc, rfl, rfl, e1, e2, t, h0⟩)
theorem turn_calm {f : M (Option D)} {rest : M (List D)} {m : Sto} (hr : ∀ m x m', rest m ≠ .exc x m') (x : Ex) (m' : Sto) : bnd (noExc f) (fun o => bnd rest fun ys => ret (match o with
      | some y => y :: ys
      | none => ys)) m ≠ .exc x m' := by
  intro h
  cases hx : f m with
  | ok o m1 =>
    rw [bnd_ok (show noExc f m = .ok o m1 by unfold noExc; rw [hx])] at h
    cases hy : rest m1 with
    | exc z m2 => exact hr m1 z m2 hy
    | bad =>
      rw [bnd_bad hy] at h
      cases h
    | ok zs m2 =>
      rw [bnd_ok hy] at h
      cases h
  | bad =>
    rw [bnd_bad (show noExc f m = .bad by unfold noExc; rw [hx])] at h
    cases h
  | exc z m2 =>
    rw [bnd_bad (show noExc f m = .bad by unfold noExc; rw [hx])] at h
    cases h
theorem compL_calm (f : D → M (Option D)) : ∀ (ds : List D) (m : Sto) (x : Ex) (m' : Sto), compL (fun d => noExc (f d)) ds m ≠ .exc x m'
  | [], m, x, m' => by
    intro h
    cases h
  | d :: ds, m, x, m' => turn_calm (compL_calm f ds) x m'
theorem compR_calm (f : D → M (Option D)) (n : Nat) : ∀ (k i : Nat) (m : Sto) (x : Ex) (m' : Sto), compR (fun d => noExc (f d)) n k i m ≠ .exc x m' := by
  intro k
  induction k with
  | zero =>
    intro i m x m' h
    unfold compR at h
    split at h
    · split at h <;> cases h
    · cases h
  | succ k ih =>
    intro i m x m' h
    unfold compR at h
    split at h
    · split at h
      · cases h
      · exact turn_calm (ih (i + 1)) x m' h
    · cases h
theorem drop_cons {α : Type} {xs : List α} {i : Nat} (h : i < xs.length) : xs.drop i = xs[i] :: xs.drop (i + 1) := List.drop_eq_getElem_cons h
/-- a calm end as an end under any wish -/
theorem GN.of {g : Gd} {ns : List Nat} {σ : L2.St} {env : Env} {r : List Addr} {H : Hp} {x : M Env} {m : Sto} {Q : L2.St → Hp → Prop} (s : StoOk g.K r H m) (e : EnvOk g.K r H env σ)
    (h : ∃ env' m', x m = .ok env' m' ∧ ∀ r' H' σ', Ext r H r' H' → StoOk g.K r' H' m' → EnvOk g.K r' H' env' σ' → Same ns σ σ' → Q σ' H') : GN g ns σ env r H x m Q := by
  obtain ⟨env', m', hx, h⟩ := h
  refine ⟨s, e, ?_⟩
  rw [hx]
  exact h
theorem Cn.of {α β : Type} {g : Gd} {T : Rel α β} {σ : L2.St} {env : Env} {r : List Addr} {H : Hp} {x : M α} {m : Sto} {Q : β → Hp → Prop} (s : StoOk g.K r H m) (e : EnvOk g.K r H env σ)
    (h : ∃ a m', x m = .ok a m' ∧ ∀ r' H' b, Ext r H r' H' → StoOk g.K r' H' m' → T r' H' a b → Q b H') : Cn g T σ env r H x m Q := by
  obtain ⟨a, m', hx, h⟩ := h
  refine ⟨s, e, ?_⟩
  rw [hx]
  exact h
section
variable {X : Cx} {g : Gd} {elt tg iter : Expr} {ifs : List Expr} {scope : Scope} {own : List (Str × Nat)} {pos : Pos} {ni : Env → M Src} {nt : D → Env → M Env} {nc ne : Env → M D} {ns : List Nat}
/-- a turn's meaning leads to the next turn -/
theorem turn_reads (hn : ∀ i ∈ ns, i ∈ own.map (·.2)) (hw : ∀ d env m, nt d (wipeE env (own.map (·.2))) m = nt d env m) {σ : L2.St} {env : Env} {r1 r2 : List Addr} {H1 H3 : Hp} {m2 : Sto} {a : Addr} {ys : List D} {acc : List V} {d : D} {x : V} {i : Nat} {P : List D → Sto → Prop} {Nx : Hp → Prop}
    (ha : H1 a = none) (x3 : Ext r1 H1 r2 H3) (s3 : StoOk g.K r2 H3 m2) (e3 : EnvOk g.K r2 H3 env σ) (t3 : Rp g.K r2 H3 d x) (a3 : H3 a = some (.lst acc)) (n3 : a ∉ r2) (tys : Rps g.K r2 H3 ys acc) (hy : ys.length ≤ i) (hi : i < lim)
    (lt : match compB nt nc ne env d m2 with
      | .ok (some y) m' => P (ys ++ [y]) m'
      | .ok none m' => P ys m'
      | _ => False)
    (next : ∀ r H m acc ys, Ext r1 H1 r H → StoOk g.K r H m → H a = some (.lst acc) → a ∉ r → Rps g.K r H ys acc → ys.length ≤ i + 1 → P ys m → Nx H) :
    tG g.off ns nt x (wipe σ (own.map (·.2))) H3 fun σ2 H2 => wipe σ2 (own.map (·.2)) = wipe σ (own.map (·.2)) ∧ tTe g.off nc σ2 H2 fun b H3 =>
      if b = true then tOf g.off ne σ2 H3 fun y H4 => ∃ acc, H4 a = some (.lst acc) ∧ acc.length < sizeLine ∧ Nx (upd H4 a (.lst (acc ++ [y]))) else Nx H3 := by
  have hll := limLe
  refine ⟨r2, wipeE env (own.map (·.2)), m2, d, t3, GN.of s3 (e3.wipe _) ?_⟩
  rw [hw]
  unfold compB at lt
  cases h4 : nt d env m2 with
  | bad =>
    rw [bnd_bad h4] at lt
    exact lt.elim
  | exc z m' =>
    rw [bnd_exc h4] at lt
    exact lt.elim
  | ok env4 m4 =>
    rw [bnd_ok h4] at lt
    refine ⟨env4, m4, rfl, fun r4 H4 σ4 x4 s4 e4 sm => ⟨wipe_same sm hn, ?_⟩⟩
    refine ⟨r4, env4, m4, Cn.of s4 e4 ?_⟩
    cases h5 : nc env4 m4 with
    | bad =>
      rw [bnd_bad h5] at lt
      exact lt.elim
    | exc z m' =>
      rw [bnd_exc h5] at lt
      exact lt.elim
    | ok b m5 =>
      rw [bnd_ok h5] at lt
      refine ⟨b, m5, rfl, fun r5 H5 v x5 s5 t5 => ?_⟩
      have a4 := x4.kp a _ a3 n3
      have a5 := x5.kp a _ a4.1 a4.2
      have t5s : Rps g.K r5 H5 ys acc := Rps.kp (x5.toKp s4) _ _ (Rps.kp (x4.toKp s3) _ _ tys)
      have x15 : Ext r1 H1 r5 H5 := (x3.trans x4).trans x5
      cases b with
      | bl k =>
        refine ⟨k, t5, ?_⟩
        cases k with
        | false => exact next r5 H5 m5 acc ys x15 s5 a5.1 a5.2 t5s (by omega) lt
        | true =>
          rw [if_pos rfl]
          dsimp only at lt
          refine ⟨r5, env4, m5, Cn.of s5 (e4.kp (x5.toKp s4)) ?_⟩
          cases h6 : ne env4 m5 with
          | bad =>
            rw [bnd_bad h6] at lt
            exact lt.elim
          | exc z m' =>
            rw [bnd_exc h6] at lt
            exact lt.elim
          | ok y m6 =>
            rw [bnd_ok h6] at lt
            refine ⟨y, m6, rfl, fun r6 H6 v6 x6 s6 t6 => ?_⟩
            have a6 := x6.kp a _ a5.1 a5.2
            have t6s : Rps g.K r6 H6 ys acc := Rps.kp (x6.toKp s5) _ _ t5s
            have hl := t6s.len
            refine ⟨acc, a6.1, by omega, next r6 _ m6 (acc ++ [v6]) (ys ++ [y]) ((x15.trans x6).put ha) (s6.put a6.1 a6.2) upd_same a6.2 ?_ (by rw [List.length_append]; simp; omega) lt⟩
            exact Rps.app (Rps.kp (Kp.put a6.1) _ _ t6s) (Rps.one (Rp.kp (Kp.put a6.1) _ _ t6))
      | _ => exact lt.elim
theorem lc_reads (hg : g.K = X.K) (hn : ∀ i ∈ ns, i ∈ own.map (·.2)) (hw : ∀ d env m, nt d (wipeE env (own.map (·.2))) m = nt d env m) {σ : L2.St} {H : Hp} {Q : VK}
    (h : tRawS g (fun env => bnd (ni env) fun s => match s with
      | .fix ds => if ds.length ≤ lim then bnd (compL (fun d => noExc (compB nt nc ne env d)) ds) fun ys => ret (.lst ys) else bad
      | .loc n => bnd (compR (fun d => noExc (compB nt nc ne env d)) n lim 0) fun ys => ret (.lst ys)) σ H Q) : tLc (tI g ni) (tG g.off ns nt) (tTe g.off nc) (tOf g.off ne) (own.map (·.2)) σ H Q := by
  obtain ⟨r, env, m, c⟩ := h
  refine ⟨r, env, m, c.bnd.mono ?_⟩
  rintro J H1 ⟨r1, src, m1, x1, t1, _, c1⟩
  intro a ha
  cases src with
  | loc n =>
    obtain ⟨b, hb, rfl⟩ := t1
    have l0 : Left g (compR (fun d => noExc (compB nt nc ne env d)) n lim 0) a r1 H1 [] m1 (fun H' => Q (.ref a) H') := Left.start c1 (compR_calm _ n lim 0 m1) (x1.gone c.1 c1.1 ha) fun _ h => h
    refine ⟨fun i k H2 => k + i = lim ∧ ∃ r2 m2 acc ys, Ext r1 H1 r2 H2 ∧ StoOk g.K r2 H2 m2 ∧ H2 a = some (.lst acc) ∧ a ∉ r2 ∧ Rps g.K r2 H2 ys acc ∧ ys.length ≤ i ∧ Left g (compR (fun d => noExc (compB nt nc ne env d)) n k i) a r1 H1 ys m2 (fun H' => Q (.ref a) H'),
      ⟨lim, rfl, r1, m1, [], [], Ext.new ha, c1.1.new ha, upd_same, c1.1.fresh ha, rfl, Nat.le_refl _, l0⟩, ?_⟩
    rintro i k H2 ⟨hik, r2, m2, acc, ys, x2, s2, ea, na, tys, hys, l2⟩
    have hb2 := get_pre x2.pre hb
    unfold Left at l2
    unfold compR at l2
    cases hm : m2[n]? with
    | none =>
      rw [hm] at l2
      exact l2.elim
    | some ob =>
      cases ob with
      | lst ds =>
        rw [hm] at l2
        dsimp only at l2
        obtain ⟨vs, q1, q2⟩ := s2.at_ hb2 hm
        cases hd : ds[i]? with
        | none =>
          rw [hd] at l2
          refine .inl ⟨⟨vs, SqL.of q1, ?_⟩, ?_⟩
          · rw [q2.len]
            simpa using hd
          · have l3 : ∀ r H acc, Ext r1 H1 r H → StoOk g.K r H m2 → H a = some (.lst acc) → a ∉ r → Rps g.K r H (ys ++ []) acc → Q (.ref a) H := l2
            exact l3 r2 H2 acc x2 s2 ea na (by rw [List.append_nil]; exact tys)
        | some d =>
          rw [hd] at l2
          dsimp only at l2
          cases k with
          | zero => exact l2.elim
          | succ k =>
            dsimp only at l2
            obtain ⟨v0, q3, q4⟩ := q2.get hd
            have lt := Left.turn (f := compB nt nc ne env d) (rest := compR (fun d => noExc (compB nt nc ne env d)) n k (i + 1)) l2
            refine .inr ⟨⟨vs, v0, SqL.of q1, q3⟩, fun H3 => ∃ r3 m3 acc3 ys3, Ext r1 H1 r3 H3 ∧ StoOk g.K r3 H3 m3 ∧ H3 a = some (.lst acc3) ∧ a ∉ r3 ∧ Rps g.K r3 H3 ys3 acc3 ∧ ys3.length ≤ i + 1 ∧ Left g (compR (fun d => noExc (compB nt nc ne env d)) n k (i + 1)) a r1 H1 ys3 m3 (fun H' => Q (.ref a) H'),
              fun H3 h3 => ⟨k, Nat.lt_succ_self k, by omega, h3⟩, fun x H3 hyl => ?_⟩
            obtain ⟨rfl, hy⟩ := hyl
            have e0 := hy vs (SqL.of q1)
            rw [q3] at e0
            cases e0
            exact turn_reads hn hw ha x2 s2 (c1.2.1.kp (x2.toKp c1.1)) q4 ea na tys hys (by omega) lt fun r H m acc ys z1 z2 z3 z4 z5 z6 z7 => ⟨r, m, acc, ys, z1, z2, z3, z4, z5, z6, z7⟩
      | dic kvs =>
        rw [hm] at l2
        exact l2.elim
  | fix ds =>
    dsimp only at c1
    by_cases hz : ds.length ≤ lim
    · rw [if_pos hz] at c1
      have l0 : Left g (compL (fun d => noExc (compB nt nc ne env d)) ds) a r1 H1 [] m1 (fun H' => Q (.ref a) H') := Left.start c1 (compL_calm _ ds m1) (x1.gone c.1 c1.1 ha) fun _ h => h
      have hwk : Wk g.K J ds r1 H1 := t1
      refine ⟨fun i k H2 => k = ds.length - i ∧ i ≤ ds.length ∧ ∃ r2 m2 acc ys, Ext r1 H1 r2 H2 ∧ StoOk g.K r2 H2 m2 ∧ H2 a = some (.lst acc) ∧ a ∉ r2 ∧ Rps g.K r2 H2 ys acc ∧ ys.length ≤ i ∧ Left g (compL (fun d => noExc (compB nt nc ne env d)) (ds.drop i)) a r1 H1 ys m2 (fun H' => Q (.ref a) H'),
        ⟨ds.length, by simp, Nat.zero_le _, r1, m1, [], [], Ext.new ha, c1.1.new ha, upd_same, c1.1.fresh ha, rfl, Nat.le_refl _, l0⟩, ?_⟩
      rintro i k H2 ⟨rfl, hi, r2, m2, acc, ys, x2, s2, ea, na, tys, hys, l2⟩
      have w2 := hwk r2 H2 m2 x2 s2
      by_cases hlt : i < ds.length
      · rw [drop_cons hlt] at l2
        obtain ⟨go, yl⟩ := w2.1 i ds[i] (List.getElem?_eq_getElem hlt)
        have lt := Left.turn (f := compB nt nc ne env ds[i]) (rest := compL (fun d => noExc (compB nt nc ne env d)) (ds.drop (i + 1))) l2
        refine .inr ⟨go, fun H3 => ∃ r3 m3 acc3 ys3, Ext r1 H1 r3 H3 ∧ StoOk g.K r3 H3 m3 ∧ H3 a = some (.lst acc3) ∧ a ∉ r3 ∧ Rps g.K r3 H3 ys3 acc3 ∧ ys3.length ≤ i + 1 ∧ Left g (compL (fun d => noExc (compB nt nc ne env d)) (ds.drop (i + 1))) a r1 H1 ys3 m3 (fun H' => Q (.ref a) H'),
          fun H3 h3 => ⟨ds.length - (i + 1), by omega, rfl, hlt, h3⟩, fun x H3 hyl => ?_⟩
        obtain ⟨x3, s3, t3⟩ := yl x H3 hyl
        have a3 := x3.kp a _ ea na
        exact turn_reads hn hw ha (x2.trans x3) s3 ((c1.2.1.kp (x2.toKp c1.1)).kp (x3.toKp s2)) t3 a3.1 a3.2 (Rps.kp (x3.toKp s2) _ _ tys) hys (by omega) lt fun r H m acc ys z1 z2 z3 z4 z5 z6 z7 => ⟨r, m, acc, ys, z1, z2, z3, z4, z5, z6, z7⟩
      · have e : i = ds.length := by omega
        subst e
        refine .inl ⟨w2.2, ?_⟩
        rw [List.drop_length] at l2
        have l3 : ∀ r H acc, Ext r1 H1 r H → StoOk g.K r H m2 → H a = some (.lst acc) → a ∉ r → Rps g.K r H (ys ++ []) acc → Q (.ref a) H := l2
        exact l3 r2 H2 acc x2 s2 ea na (by rw [List.append_nil]; exact tys)
    · rw [if_neg hz] at c1
      exact c1.2.2.elim
theorem sts_nil : PTs X [] (tTe g fun _ => ret (.bl true)) := ⟨fun pins s σ H Q I ⟨r, env, m, c⟩ => pts_nil.run pins s σ H Q I (by
  obtain ⟨b, e, q⟩ := c.here (b := V.bl true) rfl
  cases e
  exact q)⟩
theorem se_comp (hk : g.K = X.K) (hc : X.calm = true) (hN : X.N.Nodup) (hi : PI X tg iter (tI g ni)) (ok : BlkOk X.N X.env.scope scope own) (hn : ∀ i ∈ ns, i ∈ own.map (·.2)) (hw : ∀ d env m, nt d (wipeE env (own.map (·.2))) m = nt d env m)
    (hg : ∀ (s : Shared) (H : Hp) (C : Addr) (cl : List (Str × Addr)) (fp : List Addr), PG (X.blk s H scope (compEnvC scope cl C X.env) fp) tg (tG g.off ns nt)) (ht : ∀ (s : Shared) (H : Hp) (C : Addr) (cl : List (Str × Addr)) (fp : List Addr), PTs (X.blk s H scope (compEnvC scope cl C X.env) fp) ifs (tTe g.off nc))
    (he : ∀ (s : Shared) (H : Hp) (C : Addr) (cl : List (Str × Addr)) (fp : List Addr), PE (X.blk s H scope (compEnvC scope cl C X.env) fp) elt (tOf g.off ne)) (hs : ∀ x, foldedSetIterable iter X.env x = pure x) :
    PE X (.ListComp elt [⟨tg, iter, ifs, 0⟩] scope pos) (tRawS g fun env => bnd (ni env) fun s => match s with
      | .fix ds => if ds.length ≤ lim then bnd (compL (fun d => noExc (compB nt nc ne env d)) ds) fun ys => ret (.lst ys) else bad
      | .loc n => bnd (compR (fun d => noExc (compB nt nc ne env d)) n lim 0) fun ys => ret (.lst ys)) :=
  PE.weak (pe_lc hc hN hi ok hg ht he hs) fun σ H Q h => lc_reads hk hn hw h
end
end Dh


set_option Elab.async false
set_option linter.all false
set_option maxRecDepth 100000
set_option maxHeartbeats 4000000
/-! DhStm: statements by their meaning. -/
namespace Dh
open PySem PySem.Spec PyProof.Rows L2

/-- a statement's end leads to what is wanted -/
def Fin (g : Gd) (D : Ends) (r : List Addr) (H : Hp) (x : R Fl) : Prop := match x with
  | .ok (.nx e) m' => ∀ r' H' σ', Ext r H r' H' → StoOk g.K r' H' m' → EnvOk g.K r' H' e σ' → D.nx σ' H'
  | .ok (.ct e) m' => ∀ r' H' σ', Ext r H r' H' → StoOk g.K r' H' m' → EnvOk g.K r' H' e σ' → D.ct σ' H'
  | .ok (.bk e) m' => ∀ r' H' σ', Ext r H r' H' → StoOk g.K r' H' m' → EnvOk g.K r' H' e σ' → D.bk σ' H'
  | .ok (.rt d) m' => ∀ r' H' v, Ext r H r' H' → StoOk g.K r' H' m' → Rp g.K r' H' d v → D.rt v H'
  | .ok (.ex x e) m' => ∀ r' H' σ' c od, Ext r H r' H' → StoOk g.K r' H' m' → EnvOk g.K r' H' e σ' → g.X x r' H' c od → g.W c od σ' H'
  | _ => False
def tS (g : Gd) (n : Env → M Fl) : L2.TS := fun D σ H => ∃ r env m, StoOk g.K r H m ∧ EnvOk g.K r H env σ ∧ Fin g D r H (n env m)
section
variable {g : Gd} {D D' : Ends} {r r1 : List Addr} {H H1 : Hp} {x : R Fl} {env : Env} {σ : L2.St} {m m1 : Sto} {α β : Type} {T : Rel α β} {e : M α} {f : α → M Fl}
theorem Fin.ext (h : Fin g D r H x) (k : Ext r H r1 H1) : Fin g D r1 H1 x := by
  unfold Fin at h ⊢
  split at h <;> first
    | exact h.elim
    | exact fun r' H' σ' z => h r' H' σ' (k.trans z)
    | exact fun r' H' σ' c od z => h r' H' σ' c od (k.trans z)
/-- another end for what goes on -/
theorem Fin.to {x : M Fl} {f : Fl → M Fl} (h : Fin g D r H (bnd x f m)) (hn : ∀ e m1, Fin g D r H (f (.nx e) m1) → ∀ r' H' σ', Ext r H r' H' → StoOk g.K r' H' m1 → EnvOk g.K r' H' e σ' → D'.nx σ' H')
    (hc : ∀ e m1, Fin g D r H (f (.ct e) m1) → ∀ r' H' σ', Ext r H r' H' → StoOk g.K r' H' m1 → EnvOk g.K r' H' e σ' → D'.ct σ' H')
    (hb : ∀ e m1, Fin g D r H (f (.bk e) m1) → ∀ r' H' σ', Ext r H r' H' → StoOk g.K r' H' m1 → EnvOk g.K r' H' e σ' → D'.bk σ' H') (hr : D'.rt = D.rt) (f1 : ∀ d, f (.rt d) = ret (.rt d)) (f2 : ∀ x e, f (.ex x e) = ret (.ex x e)) : Fin g D' r H (x m) := by
  cases hx : x m with
  | bad =>
    rw [bnd_bad hx] at h
    exact h
  | exc z m' =>
    rw [bnd_exc hx] at h
    exact h
  | ok fl m1 =>
    rw [bnd_ok hx] at h
    cases fl with
    | nx e => exact hn e m1 h
    | ct e => exact hc e m1 h
    | bk e => exact hb e m1 h
    | rt d =>
      rw [f1] at h
      show ∀ r' H' v, Ext r H r' H' → StoOk g.K r' H' m1 → Rp g.K r' H' d v → D'.rt v H'
      rw [hr]
      exact h
    | ex x e =>
      rw [f2] at h
      exact h
/-- an expression ahead -/
theorem Fin.onE (s : StoOk g.K r H m) (k : EnvOk g.K r H env σ) (h : Fin g D r H (onE e env f m)) : Cn g T σ env r H e m fun b H1 => ∃ r1 a m1, Ext r H r1 H1 ∧ T r1 H1 a b ∧ e m = .ok a m1 ∧ StoOk g.K r1 H1 m1 ∧ EnvOk g.K r1 H1 env σ ∧ Fin g D r1 H1 (f a m1) := by
  refine ⟨s, k, ?_⟩
  unfold Dh.onE at h
  cases hx : e m with
  | bad =>
    rw [hx] at h
    exact h
  | exc z m' =>
    rw [hx] at h
    have h : ∀ r' H' σ' c od, Ext r H r' H' → StoOk g.K r' H' m' → EnvOk g.K r' H' env σ' → g.X z r' H' c od → g.W c od σ' H' := h
    exact fun r' H' c d x1 s1 z1 => h r' H' σ c d x1 s1 (k.kp (x1.toKp s)) z1
  | ok a m1 =>
    rw [hx] at h
    dsimp only at h
    exact fun r' H' b x1 s1 t1 => ⟨r', a, m1, x1, t1, rfl, s1, k.kp (x1.toKp s), h.ext x1⟩
/-- a target bound -/
theorem Fin.bind {ns : List Nat} {x : M Env} {f : Env → M Fl} (s : StoOk g.K r H m) (k : EnvOk g.K r H env σ) (h : Fin g D r H (bnd (noExc x) f m)) : GN g ns σ env r H x m fun σ1 H1 => ∃ r1 e1 m1, Ext r H r1 H1 ∧ StoOk g.K r1 H1 m1 ∧ EnvOk g.K r1 H1 e1 σ1 ∧ x m = .ok e1 m1 ∧ Fin g D r1 H1 (f e1 m1) := by
  refine ⟨s, k, ?_⟩
  cases hx : x m with
  | bad =>
    rw [bnd_bad (show noExc x m = .bad by unfold noExc; rw [hx])] at h
    exact h
  | exc z m' =>
    rw [bnd_bad (show noExc x m = .bad by unfold noExc; rw [hx])] at h
    exact h
  | ok a m1 =>
    rw [bnd_ok (show noExc x m = .ok a m1 by unfold noExc; rw [hx])] at h
    exact fun r' H' σ' x1 s1 e1 _ => ⟨r', a, m1, x1, s1, e1, rfl, h.ext x1⟩
end
section
variable {X : Cx} {g : Gd} {st : Stmt} {rest body : List Stmt} {e c tg iter : Expr} {ne nc : Env → M D} {n nb nr : Env → M Fl} {nt : D → Env → M Env} {ni : Env → M Src} {ns : List Nat} {pos : Pos}
theorem ss_nil : PSs X [] (tS g fun env => ret (.nx env)) := PSs.weak pss_nil fun D σ H ⟨r, env, m, s, k, h⟩ => h r H σ (Ext.refl _ _) s k
theorem ss_cons (h1 : PS X st (tS g n)) (h2 : PSs X rest (tS g nr)) : PSs X (st :: rest) (tS g fun env => bnd (n env) fun f => match f with
    | .nx e => nr e
    | f => ret f) := by
  refine PSs.weak (pss_cons h1 h2) fun D σ H ⟨r, env, m, s, k, h⟩ => ⟨r, env, m, s, k, ?_⟩
  refine h.to (D' := { D with nx := tS g nr D }) (fun e m1 q r' H' σ' x1 s1 e1 => ⟨r', e, m1, s1, e1, q.ext x1⟩) (fun e m1 q => q) (fun e m1 q => q) rfl (fun _ => rfl) fun _ _ => rfl
theorem ss_pass : PS X (.Pass pos) (tS g fun env => ret (.nx env)) := PS.weak ps_pass fun D σ H ⟨r, env, m, s, k, h⟩ => h r H σ (Ext.refl _ _) s k
theorem ss_brk : PS X (.Break pos) (tS g fun env => ret (.bk env)) := PS.weak ps_break fun D σ H ⟨r, env, m, s, k, h⟩ => h r H σ (Ext.refl _ _) s k
theorem ss_cont : PS X (.Continue pos) (tS g fun env => ret (.ct env)) := PS.weak ps_continue fun D σ H ⟨r, env, m, s, k, h⟩ => h r H σ (Ext.refl _ _) s k
theorem ss_expr (he : PE X e (tOf g ne)) (hs : swapsWith e none pos.line X.env = pure false) : PS X (.Expr e pos) (tS g fun env => onE (ne env) env fun _ => ret (.nx env)) := by
  refine PS.weak (ps_expr he hs) fun D σ H ⟨r, env, m, s, k, h⟩ => ⟨r, env, m, (Fin.onE s k h).mono ?_⟩
  rintro v H1 ⟨r1, a, m1, x1, t1, _, s1, k1, h1⟩
  exact h1 r1 H1 σ (Ext.refl _ _) s1 k1
theorem ss_doc {x : Str} {j : Nat} {pos' : Pos} : PS X (.Expr (.Constant (.str x) j pos) pos') (tS g fun env => ret (.nx env)) := PS.weak ps_doc fun D σ H ⟨r, env, m, s, k, h⟩ => h r H σ (Ext.refl _ _) s k
theorem ss_ret (he : PE X e (tOf g ne)) : PS X (.Return (some e) pos) (tS g fun env => onE (ne env) env fun d => ret (.rt d)) := by
  refine PS.weak (ps_ret he) fun D σ H ⟨r, env, m, s, k, h⟩ => ⟨r, env, m, (Fin.onE s k h).mono ?_⟩
  rintro v H1 ⟨r1, a, m1, x1, t1, _, s1, k1, h1⟩
  exact h1 r1 H1 v (Ext.refl _ _) s1 t1
theorem ss_retN : PS X (.Return none pos) (tS g fun env => onE (ret D.non) env fun d => ret (.rt d)) :=
  PS.weak ps_retN fun D σ H ⟨r, env, m, s, k, h⟩ => h r H .non (Ext.refl _ _) s rfl
theorem ss_if {a b : List Stmt} {na nb : Env → M Fl} (hc : PT X c (tTe g nc)) (ha : PSs X a (tS g na)) (hb : PSs X b (tS g nb)) : PS X (.If c a b pos) (tS g fun env => onE (nc env) env fun x => match x with
    | .bl true => na env
    | .bl false => nb env
    | _ => bad) := by
  refine PS.weak (ps_if hc ha hb) fun D σ H ⟨r, env, m, s, k, h⟩ => ⟨r, env, m, (Fin.onE s k h).mono ?_⟩
  rintro v H1 ⟨r1, d, m1, x1, t1, _, s1, k1, h1⟩
  cases d with
  | bl b =>
    refine ⟨b, t1, ?_⟩
    cases b with
    | true => exact ⟨r1, env, m1, s1, k1, h1⟩
    | false => exact ⟨r1, env, m1, s1, k1, h1⟩
  | _ => exact h1.elim
theorem ss_while (hp : PassesOwn (model X.prog X.w) X.A X.env X.xe) (hc : PT X c (tTe g nc)) (hb : PSs X body (tS g nb)) : PS X (.While c body [] pos) (tS g fun env => whileM nc nb env) := by
  refine PS.weak (ps_while hp hc hb) fun D σ H ⟨r, env, m, s, k, h⟩ => ?_
  have h : Fin g D r H (whileM nc nb env m) := h
  have nbad : isBad (whileM nc nb env m) = false := by
    cases hx : whileM nc nb env m with
    | bad =>
      rw [hx] at h
      exact h.elim
    | _ => rfl
  obtain ⟨n0, _, e0⟩ := whileM_ex nbad
  rw [e0] at h
  refine ⟨fun n σ H => ∃ r env m, StoOk g.K r H m ∧ EnvOk g.K r H env σ ∧ Fin g D r H (whileN nc nb n env m), ⟨n0, r, env, m, s, k, h⟩, ?_⟩
  rintro n σ1 H1 ⟨r1, env1, m1, s1, k1, h1⟩
  cases n with
  | zero => exact h1.elim
  | succ n =>
    rw [whileN] at h1
    refine ⟨r1, env1, m1, (Fin.onE s1 k1 h1).mono ?_⟩
    rintro v H2 ⟨r2, d, m2, x2, t2, _, s2, k2, h2⟩
    cases d with
    | bl b =>
      refine ⟨b, t2, ?_⟩
      cases b with
      | false => exact h2 r2 H2 σ1 (Ext.refl _ _) s2 k2
      | true =>
        rw [if_pos rfl]
        refine ⟨fun σ H => ∃ r env m, StoOk g.K r H m ∧ EnvOk g.K r H env σ ∧ Fin g D r H (whileN nc nb n env m), fun σ' H' q => ⟨n, Nat.lt_succ_self n, q⟩, r2, env1, m2, s2, k2, ?_⟩
        exact h2.to (fun e m3 q r' H' σ' x3 s3 e3 => ⟨r', e, m3, s3, e3, q.ext x3⟩) (fun e m3 q r' H' σ' x3 s3 e3 => ⟨r', e, m3, s3, e3, q.ext x3⟩) (fun e m3 q => q) rfl (fun _ => rfl) fun _ _ => rfl
    | _ => exact h2.elim
theorem ss_for (hp : PassesOwn (model X.prog X.w) X.A X.env X.xe) (hc : X.calm = true) (hg : g.K = X.K) (hi : PI X tg iter (tI g ni)) (ht : PG X tg (tG g ns nt)) (hb : PSs X body (tS g nb)) (hs : ∀ x, foldedSetIterable iter X.env x = pure x) :
    PS X (.For tg iter body [] pos) (tS g fun env => onE (ni env) env fun s => match s with
      | .fix ds => forL nt nb ds env
      | .loc n => forR nt nb n lim 0 env) := by
  refine PS.weak (ps_for hp hc hi ht hb hs) fun D σ H ⟨r, env, m, s, k, h⟩ => ⟨r, env, m, (Fin.onE s k h).mono ?_⟩
  rintro J H1 ⟨r1, src, m1, x1, t1, _, s1, k1, h1⟩
  cases src with
  | fix ds =>
    dsimp only at h1
    have hw : Wk g.K J ds r1 H1 := t1
    refine ⟨fun i n σ H => n = ds.length - i ∧ i ≤ ds.length ∧ ∃ r env m, Ext r1 H1 r H ∧ StoOk g.K r H m ∧ EnvOk g.K r H env σ ∧ Fin g D r H (forL nt nb (ds.drop i) env m),
      ⟨ds.length, by simp, Nat.zero_le _, r1, env, m1, Ext.refl _ _, s1, k1, h1⟩, ?_⟩
    rintro i n σ2 H2 ⟨rfl, hi, r2, env2, m2, x2, s2, k2, h2⟩
    have w2 := hw r2 H2 m2 x2 s2
    by_cases hlt : i < ds.length
    · rw [drop_cons hlt, forL] at h2
      obtain ⟨go, yl⟩ := w2.1 i ds[i] (List.getElem?_eq_getElem hlt)
      refine .inr ⟨go, fun σ H => ∃ r env m, Ext r1 H1 r H ∧ StoOk g.K r H m ∧ EnvOk g.K r H env σ ∧ Fin g D r H (forL nt nb (ds.drop (i + 1)) env m), fun σ' H' q => ⟨ds.length - (i + 1), by omega, rfl, hlt, q⟩, fun v H3 hy => ?_⟩
      obtain ⟨x3, s3, t3⟩ := yl v H3 hy
      have k3 := k2.kp (x3.toKp s2)
      have z := Fin.bind (ns := ns) s3 k3 (h2.ext x3)
      refine ⟨r2, env2, m2, ds[i], t3, z.1, z.2.1, ?_⟩
      have zz := z.2.2
      cases h4 : nt ds[i] env2 m2 with
      | bad =>
        rw [h4] at zz
        exact zz
      | exc y m' =>
        rw [h4] at zz
        exact zz
      | ok e4 m4 =>
        rw [h4] at zz
        intro r4 H4 σ4 x4 s4 k4 sm
        obtain ⟨r5, e5, m5, x5, s5, k5, e6, h5⟩ := zz r4 H4 σ4 x4 s4 k4 sm
        cases e6
        refine ⟨r5, e4, m4, s5, k5, ?_⟩
        have xx : Ext r1 H1 r5 H4 := (x2.trans x3).trans x5
        exact h5.to (fun e m3 q r' H' σ' y3 s3 e3 => ⟨r', e, m3, xx.trans y3, s3, e3, q.ext y3⟩) (fun e m3 q r' H' σ' y3 s3 e3 => ⟨r', e, m3, xx.trans y3, s3, e3, q.ext y3⟩) (fun e m3 q => q) rfl (fun _ => rfl) fun _ _ => rfl
    · have e : i = ds.length := by omega
      subst e
      rw [List.drop_length, forL] at h2
      exact .inl ⟨w2.2, h2 r2 H2 σ2 (Ext.refl _ _) s2 k2⟩
  | loc n =>
    obtain ⟨a, ha, rfl⟩ := t1
    dsimp only at h1
    refine ⟨fun i n' σ H => ∃ r env m, Ext r1 H1 r H ∧ StoOk g.K r H m ∧ EnvOk g.K r H env σ ∧ Fin g D r H (forR nt nb n n' i env m), ⟨lim, r1, env, m1, Ext.refl _ _, s1, k1, h1⟩, ?_⟩
    rintro i n' σ2 H2 ⟨r2, env2, m2, x2, s2, k2, h2⟩
    have ha2 := get_pre x2.pre ha
    unfold forR at h2
    cases hm : m2[n]? with
    | none =>
      rw [hm] at h2
      exact h2.elim
    | some ob =>
      cases ob with
      | lst ds =>
        rw [hm] at h2
        dsimp only at h2
        obtain ⟨vs, q1, q2⟩ := s2.at_ ha2 hm
        cases hd : ds[i]? with
        | none =>
          rw [hd] at h2
          refine .inl ⟨⟨vs, SqL.of q1, ?_⟩, h2 r2 H2 σ2 (Ext.refl _ _) s2 k2⟩
          rw [q2.len]
          simpa using hd
        | some d =>
          rw [hd] at h2
          dsimp only at h2
          cases n' with
          | zero => exact h2.elim
          | succ n' =>
            dsimp only at h2
            obtain ⟨v0, q3, q4⟩ := q2.get hd
            refine .inr ⟨⟨vs, v0, SqL.of q1, q3⟩, fun σ H => ∃ r env m, Ext r1 H1 r H ∧ StoOk g.K r H m ∧ EnvOk g.K r H env σ ∧ Fin g D r H (forR nt nb n n' (i + 1) env m), fun σ' H' q => ⟨n', Nat.lt_succ_self _, q⟩, fun v H3 hy => ?_⟩
            obtain ⟨rfl, hy⟩ := hy
            have e0 := hy vs (SqL.of q1)
            rw [q3] at e0
            cases e0
            have z := Fin.bind (ns := ns) s2 k2 h2
            refine ⟨r2, env2, m2, d, q4, z.1, z.2.1, ?_⟩
            have zz := z.2.2
            cases h4 : nt d env2 m2 with
            | bad =>
              rw [h4] at zz
              exact zz
            | exc y m' =>
              rw [h4] at zz
              exact zz
            | ok e4 m4 =>
              rw [h4] at zz
              intro r4 H4 σ4 x4 s4 k4 sm
              obtain ⟨r5, e5, m5, x5, s5, k5, e6, h5⟩ := zz r4 H4 σ4 x4 s4 k4 sm
              cases e6
              refine ⟨r5, e4, m4, s5, k5, ?_⟩
              have xx : Ext r1 H1 r5 H4 := x2.trans x5
              exact h5.to (fun e m3 q r' H' σ' y3 s3 e3 => ⟨r', e, m3, xx.trans y3, s3, e3, q.ext y3⟩) (fun e m3 q r' H' σ' y3 s3 e3 => ⟨r', e, m3, xx.trans y3, s3, e3, q.ext y3⟩) (fun e m3 q => q) rfl (fun _ => rfl) fun _ _ => rfl
      | dic kvs =>
        rw [hm] at h2
        exact h2.elim
/-- the meaning of target = value -/
abbrev asgM (ne : Env → M D) (nt : D → Env → M Env) (env : Env) : M Fl := onE (ne env) env fun d => bnd (noExc (nt d env)) fun env' => ret (.nx env')
theorem asg_reads {te : L2.TE} {D : Ends} {σ : L2.St} {H : Hp} (h : tS g (asgM ne nt) D σ H) : tOf g ne σ H fun x H1 => tG g ns nt x σ H1 D.nx := by
  obtain ⟨r, env, m, s, k, h⟩ := h
  refine ⟨r, env, m, (Fin.onE s k h).mono ?_⟩
  rintro v H1 ⟨r1, d, m1, x1, t1, _, s1, k1, h1⟩
  refine ⟨r1, env, m1, d, t1, ?_⟩
  have z := Fin.bind (ns := ns) s1 k1 h1
  refine ⟨z.1, z.2.1, ?_⟩
  have zz := z.2.2
  cases h4 : nt d env m1 with
  | bad =>
    rw [h4] at zz
    exact zz
  | exc y m' =>
    rw [h4] at zz
    exact zz
  | ok e4 m4 =>
    rw [h4] at zz
    intro r4 H4 σ4 x4 s4 k4 sm
    obtain ⟨r5, e5, m5, x5, s5, k5, e6, h5⟩ := zz r4 H4 σ4 x4 s4 k4 sm
    cases e6
    exact h5 r5 H4 σ4 (Ext.refl _ _) s5 k5
theorem ss_asg (he : PE X e (tOf g ne)) (ht : PG X tg (tG g ns nt)) (hs : swapsWithSole [tg] e pos.line X.env = pure false) (hw : swappedStores [tg] e X.env = pure none) (h1 : (assignEach [tg] X.env).map (·.2) = [assign tg X.env]) :
    PS X (.Assign [tg] e pos) (tS g (asgM ne nt)) := PS.weak (ps_asg he ht hs hw h1) fun D σ H h => asg_reads (te := tOf g ne) h
end
end Dh


set_option Elab.async false
set_option linter.all false
set_option maxRecDepth 100000
set_option maxHeartbeats 4000000
/-! DhSet: len(set(xs)), xs a tuple of texts. -/
namespace Dh
open PySem PySem.Spec PyProof.Rows L2

/-- a text by its signs -/
abbrev txt (z : List Nat) : Str := ⟨z.toArray⟩
theorem txt_inj {a b : List Nat} (h : txt a = txt b) : a = b := by
  have z := congrArg (fun s : Str => s.cps.toList) h
  simpa using z
/-- the texts seen, as a set's members -/
def seenS (seen : List (List Nat)) : Str → Bool := fun k => seen.any fun z => decide (k = txt z)
theorem seen_has {seen : List (List Nat)} {x : List Nat} : seenS seen (txt x) = seen.contains x := by
  rw [Bool.eq_iff_iff]
  unfold seenS
  rw [List.any_eq_true, List.contains_iff_mem]
  constructor
  · rintro ⟨z, hz, e⟩
    rw [txt_inj (of_decide_eq_true e)]
    exact hz
  · exact fun h => ⟨x, h, decide_eq_true rfl⟩
section
variable {prog : Program} {w : World} {A : Around} {R : Result → Shared → Prop} {it : Addr} {fp wr : List Addr} {G : Array GenState → Array GenState → Prop} {n : Nat} {P : Nat → Value → Prop} {St : Nat → Shared → Prop}
theorem set_turns (W : WalksS prog w A.in1 it fp wr G n P St) (a : Addr) (ha : a ∉ fp) (xs : List (List Nat)) (hx : xs.length = n) (hv : ∀ i v, P i v → ∃ t z, v = .str (txt z) t ∧ xs[i]? = some z) :
    ∀ (rest : List (List Nat)) (i : Nat) (seen : List (List Nat)) (c : Nat) (s : Shared), xs.drop i = rest → i ≤ n → c + rest.length < 4095 → St i s → s.heap.SetOf (PySem.strKind prog w) a (seenS seen) c →
      (∀ s', Moved (a :: wr) G s s' → (∃ S, s'.heap.SetOf (PySem.strKind prog w) a S (c + dist rest seen)) → R (.ok (.ret .none)) s') → codeAny (model prog w) A (.builtin "set.update.loop" ⟨[.ref a, .ref it], []⟩) R s := by
  have naw : a ∉ wr := fun h => ha (W.sub _ h)
  have up : ∀ b ∈ wr, b ∈ a :: wr := fun b hb => List.mem_cons_of_mem _ hb
  intro rest
  induction rest with
  | nil =>
    intro i seen c s hd hi hc hst hS hR
    have e : i = n := by
      have := List.drop_eq_nil_iff.mp hd
      omega
    subst e
    refine codeAny_builtin PyProof.Rows.F.entry_set_update_loop ?_
    rw [Around.under_plainId PyProof.Rows.F.plain_set_update_loop _]
    refine wpAny_bind (m := pyNext (.ref it)) (W.done s _ _ hst fun s' hm => ?_)
    refine wpAny_pure (hR s' (hm.mono up) ⟨seenS seen, ?_⟩)
    obtain ⟨o, es, ep, t, ho, q⟩ := hS
    exact ⟨o, es, ep, t, hm.heap a _ naw ho, q⟩
  | cons x rest ih =>
    intro i seen c s hd hi hc hst hS hR
    have hlt : i < n := by
      by_cases z : i < n
      · exact z
      · rw [List.drop_eq_nil_of_le (by omega)] at hd
        cases hd
    have hxi : xs[i]? = some x := by
      have z : (xs.drop i)[0]? = some x := by rw [hd]; rfl
      rw [List.getElem?_drop] at z
      exact z
    have hd2 : xs.drop (i + 1) = rest := by
      have z : (xs.drop i).drop 1 = rest := by rw [hd]; rfl
      rw [List.drop_drop] at z
      exact z
    refine codeAny_builtin PyProof.Rows.F.entry_set_update_loop ?_
    rw [Around.under_plainId PyProof.Rows.F.plain_set_update_loop _]
    refine wpAny_bind (m := pyNext (.ref it)) (W.item i s _ _ hlt hst fun v s' hP hst' hm => ?_)
    obtain ⟨t, z, rfl, hz⟩ := hv i v hP
    rw [hxi] at hz
    cases hz
    have hS1 : s'.heap.SetOf (PySem.strKind prog w) a (seenS seen) c := by
      obtain ⟨o, es, ep, tb, ho, q⟩ := hS
      exact ⟨o, es, ep, tb, hm.heap a _ naw ho, q⟩
    refine wpAny_bind (m := holding [Value.str (txt x) t] (setAdd a (.str (txt x) t))) (wpAny_holding ?_)
    unfold setAdd
    refine wpAny_holding (wpAny_bind ((PySem.strKind prog w).pyHash (k := txt x) (strKind_is _ _ _ _) ?_))
    have room : c + 1 < scanBound := by
      unfold scanBound
      rw [List.length_cons] at hc
      omega
    refine wpAny_setAddHashed_of (knd := PySem.strKind prog w) (s := { s' with toks := s'.toks + 1 }) (strKind_is _ _ _ _) rfl hS1 room fun h' sb hS2 => ?_
    rw [List.length_cons] at hc
    obtain ⟨seen2, c2, h1, h2, h3, h4⟩ : ∃ (seen2 : List (List Nat)) (c2 : Nat), c2 + rest.length < 4095 ∧ c2 + dist rest seen2 = c + dist (x :: rest) seen ∧ (∀ k, (seenS seen k || decide (k = txt x)) = seenS seen2 k) ∧ (if seenS seen (txt x) then c else c + 1) = c2 := by
      by_cases hx0 : seen.contains x = true
      · refine ⟨seen, c, by omega, by rw [dist, if_pos hx0], fun k => ?_, by rw [seen_has, if_pos hx0]⟩
        by_cases e : k = txt x
        · rw [e, seen_has, hx0]
          rfl
        · rw [decide_eq_false e, Bool.or_false]
      · refine ⟨x :: seen, c + 1, by omega, by rw [dist, if_neg hx0]; omega, fun k => ?_, by rw [seen_has, if_neg hx0]⟩
        unfold seenS
        rw [List.any_cons, Bool.or_comm]
    have hS3 : h'.SetOf (PySem.strKind prog w) a (seenS seen2) c2 := SetOf_congr hS2 h3 h4
    refine wpAny_pure ⟨plainId_quiet PyProof.Rows.F.plain_set_update_loop _, ih (i + 1) seen2 c2 _ hd2 hlt h1 (W.frame _ s' _ _ hst' (Nat.le_succ _) fun b hb o e => ?_) hS3 fun s3 hm3 hS4 => ?_⟩
    · exact (sb.2 b fun z => ha (z ▸ hb)).trans e
    · refine hR s3 (Moved.trans W.gtrans ((hm.mono up).then_heap (Nat.le_succ _) fun b o hb e => ?_) hm3) (h2 ▸ hS4)
      exact (sb.2 b fun z => hb (z ▸ List.mem_cons_self)).trans e
end
/-- the new set's object -/
abbrev blank (led : Bool) : Obj := { cls := .type "set", dict := none, data := .set #[] 0 (.fresh 0 0 led) }
section
variable {prog : Program} {w : World} {A : Around} {E : Value → Shared → Prop} {s : Shared}
theorem set_of_tuple {l : Addr} {items : Array Value} {xs : List (List Nat)} {Q : Value → Shared → Prop} (hh : A.handled = none) (hl : s.heap.IsTuple l items) (hx : xs.length = items.size) (hv : ∀ (i : Nat) (v : Value), items[i]? = some v → ∃ t z, v = Value.str (txt z) t ∧ xs[i]? = some z) (hc : xs.length < 4095)
    (h : ∀ (h' : Heap) (tk : Nat), (∃ S, h'.SetOf (PySem.strKind prog w) s.heap.objs.size S (dist xs [])) → (∀ b o, b < s.heap.objs.size → s.heap.get? b = some o → h'.get? b = some o) → Q (.ref s.heap.objs.size) { s with heap := h', toks := tk }) :
    wpAny (model prog w) A (call (.type "set") [.ref l]) Q E s := by
  obtain ⟨_, _, hmro⟩ := PySem.F.called_set.mro
  have hmade := PySem.F.called_set.made
  have hsub := PySem.F.called_set.sub
  refine wpAny_call (codeAny_of_tree (show wpAny _ _ (callAny (.type "set") _) _ _ _ from ?_))
  refine wpAny_pure ⟨Code.quiet_builtin _ (by decide +kernel), codeAny_builtin PySem.F.entry_type_call ?_⟩
  rw [Around.under_plain (weight_type_call_type "set" [.ref l] []) rfl]
  have g1 := PySem.F.called_set.notType
  have g2 := PySem.F.called_set.canCreate
  have g3 := PySem.F.typeCall_set_1 (.ref l)
  repeat (any_goals (first | assumption | wp_step))
  refine codeAny_mono (code_set_new_1 (.ref l) (E := E) (Q₁ := fun o s1 => ∃ led, o = .ref s.heap.objs.size ∧ s1 = { s with heap := s.heap.push (blank led) }) fun led => ⟨led, rfl, rfl⟩) fun r s1 hr => ?_
  cases r with
  | error e => exact hr
  | ok fl =>
    cases fl with
    | ret obj =>
      obtain ⟨led, rfl, rfl⟩ := hr
      have hS : (s.heap.push (blank led)).get? s.heap.objs.size = some (blank led) := Heap.get?_push_size _ rfl
      have hT : Shared.TypeIs { s with heap := s.heap.push (blank led) } (.ref s.heap.objs.size) "set" := ⟨_, hS, rfl⟩
      have g4 := PySem.F.called_set.init.lookup
      have g5 := PySem.F.called_set.init.bind (.ref s.heap.objs.size)
      repeat (any_goals (first | assumption | wp_step))
      refine codeAny_mono (codeAny_call_builtin (R := wants (fun r s2 => r = .none ∧ ∃ h' tk, s2 = { s with heap := h', toks := tk } ∧ (∃ S, h'.SetOf (PySem.strKind prog w) s.heap.objs.size S (dist xs [])) ∧ (∀ b o, b < s.heap.objs.size → s.heap.get? b = some o → h'.get? b = some o)) E)
        PySem.F.called_set.init.plain PySem.F.entry_set_init (check_set_init_1 hT ?_)) fun r2 s2 hr2 => ?_
      · obtain ⟨⟨ocls, odict, odata, oslots⟩, hol, hcl, nl, hdl⟩ := hl
        simp only at hcl hdl
        subst hcl hdl
        have hol' : (s.heap.push (blank led)).get? l = some { cls := .type "tuple", dict := odict, data := .seq items nl, slots := oslots } := Heap.get?_push_of_some _ hol
        have g6 := PySem.F.sub_tuple_set
        have g7 := PySem.F.sub_tuple_frozenset
        have g8 : (Value.type "tuple" == Value.type "dict") = false := by decide
        have hl1 : (s.heap.push (blank led)).IsTuple l items := ⟨_, hol', rfl, nl, rfl⟩
        unfold Builtin.«set.__init__» noKeywords Builtin.Frozenset.updateFrom
        generalize hPI : pyIter = PI
        wp_walk
        subst hPI
        refine wpAny_pyIter_tuple hl1 (wpAny_bind (wpAny_runValue ?_))
        have lS : l < s.heap.objs.size := Heap.lt_size hol
        have h3 : A.in1.in1.in1.handled = none := by simp [hh]
        have sz : (s.heap.push (blank led)).objs.size = s.heap.objs.size + 1 := Heap.size_push _ _
        have neI : l ≠ (s.heap.push (blank led)).objs.size := by rw [sz]; exact Nat.ne_of_lt (Nat.lt_succ_of_lt lS)
        have nf : s.heap.objs.size ∉ [(s.heap.push (blank led)).objs.size, l] := by
          rw [sz]
          simp only [List.mem_cons, List.not_mem_nil, or_false, not_or]
          exact ⟨Nat.ne_of_lt (Nat.lt_succ_self _), fun z => Nat.ne_of_lt lS z.symm⟩
        refine set_turns ((Walks.tuple h3 _ l neI items).toS) s.heap.objs.size nf xs hx hv xs 0 [] 0 _ rfl (Nat.zero_le _) (by omega) ⟨⟨_, Heap.get?_push_size _ rfl, rfl, rfl⟩, hl1.push _⟩ ?hS0 ?hR
        case hS0 =>
          have hget : ((s.heap.push (blank led)).push { cls := .type "tuple_iterator", data := .fields #[.ref l, .int 0 0] }).get? s.heap.objs.size = some (blank led) := Heap.get?_push_of_some _ hS
          exact PyProof.Rows.SetOf_congr ((PyProof.Rows.setObjOf_fresh (knd := PySem.strKind prog w) led).setOf hget (by unfold scanBound; omega)) (fun _ => rfl) rfl
        case hR =>
          intro s' hm hS'
          obtain ⟨h', g', d', tk', os'⟩ := s'
          obtain rfl : g' = s.gens := hm.gens
          obtain rfl : d' = s.drawn := hm.drawn
          obtain rfl : os' = s.os := hm.os
          rw [Nat.zero_add] at hS'
          refine wpAny_pure (wpAny_pure ⟨rfl, h', tk', rfl, hS', fun b o hb e => hm.heap b o ?_ (Heap.get?_push_of_some _ (Heap.get?_push_of_some _ e))⟩)
          rw [sz]
          simp only [List.mem_cons, List.not_mem_nil, or_false, not_or]
          exact ⟨Nat.ne_of_lt hb, Nat.ne_of_lt (Nat.lt_succ_of_lt hb)⟩
      · cases r2 with
        | error e => exact hr2
        | ok fl2 =>
          cases fl2 with
          | ret r =>
            obtain ⟨rfl, h', tk, rfl, hS', hk'⟩ := hr2
            repeat (any_goals (first | assumption | wp_step))
            exact h _ _ hS' hk'
          | _ => exact hr2.elim
    | _ => exact hr.elim
end
theorem strs_vals {K : Frag} {r : List Addr} {H : Hp} : ∀ {ds : List D} {vs : List V} {us : List Value} {ss : List (List Nat)}, Rps K r H ds vs → strsOf ds = some ss → Vals vs us → ∀ (i : Nat) (u : Value), us[i]? = some u → ∃ t z, u = Value.str (txt z) t ∧ ss[i]? = some z
  | [], _, _, ss, h, _, rv, i, u, hu => by
    rw [show _ = [] from h] at rv
    cases rv
    simp at hu
  | d :: ds, _, _, ss, ⟨v, w, e, h1, h2⟩, hs, rv, i, u, hu => by
    subst e
    cases rv with
    | cons rv rw' =>
      cases d with
      | str s =>
        rw [strsOf] at hs
        obtain ⟨ss', h3, rfl⟩ := Option.map_eq_some_iff.mp hs
        cases i with
        | zero =>
          have h1' : v = .str ⟨s.toArray⟩ := h1
          subst h1'
          obtain ⟨t, rfl⟩ := rv
          rw [List.getElem?_cons_zero] at hu
          cases hu
          exact ⟨t, s, rfl, rfl⟩
        | succ i =>
          obtain ⟨t, z, h4, h5⟩ := strs_vals h2 h3 rw' i u (by simpa using hu)
          exact ⟨t, z, h4, by simpa using h5⟩
      | _ => cases hs
theorem strsOf_len : ∀ {ds : List D} {ss : List (List Nat)}, strsOf ds = some ss → ss.length = ds.length
  | [], ss, h => by
    cases h
    rfl
  | d :: ds, ss, h => by
    cases d with
    | str s =>
      rw [strsOf] at h
      obtain ⟨ss', h3, rfl⟩ := Option.map_eq_some_iff.mp h
      rw [List.length_cons, List.length_cons, strsOf_len h3]
    | _ => cases h
theorem se_lenset {X : Cx} {g : Gd} {a : Expr} {n : Env → M D} {p p2 q pos : Pos} (hg : g.K = X.K) (hc : X.calm = true) (h1 : Gl X "len") (h2 : X.mg "len" = none) (h3 : Gl X "set") (h4 : X.mg "set" = none) (ha : PE X a (tOf g n)) (na : starEach [a] X.env = (false, eval a X.env) :: starEach [] X.env) :
    PE X (.Call (.Name "len" p) [.Call (.Name "set" p2) [a] [] q] [] pos) (tOf g fun env => bnd (n env) fun d => fun m => ofO (blt m .lenset [d]) m) := by
  refine ⟨fun pins s σ H Q I ⟨r, env, m, c⟩ => ?_⟩
  refine Call_ (ld_blt I h1 h2 PySem.boot_len (PyProof.Rows.callWith_builtin1 (PyProof.Rows.args_cons ?_ rfl) rfl rfl))
  refine Call_ (ld_blt I h3 h4 PyProof.Rows.boot_set (PyProof.Rows.callWith_type1 (PyProof.Rows.args_cons (thn (ha.run pins s σ H _ I ⟨r, env, m, c.bnd⟩) fun u s1 hu => PyProof.Rows.args_nil ?_) na) na rfl))
  obtain ⟨v, H1, I1, rv, r1, d, m1, x1, t1, _, c1⟩ := hu
  cases d with
  | tup ds =>
    obtain ⟨l, vs, rfl, hq, t⟩ := t1
    cases rv
    have z := c1.2.2
    dsimp only [blt] at z
    cases hs : strsOf ds with
    | none =>
      rw [hs] at z
      exact z.elim
    | some ss =>
      rw [hs] at z
      dsimp only [Option.bind] at z
      by_cases hz : ss.length ≤ 4000
      · rw [if_pos hz] at z
        obtain ⟨its, ri, pl, _⟩ := I1.tuple (hg ▸ hq)
        have l1 := ri.length
        have l2 := t.len
        have l3 := strsOf_len hs
        refine set_of_tuple (xs := ss) (I1.ok.hd hc) pl (by rw [List.size_toArray]; omega) (fun i u hu => strs_vals t hs ri i u (by simpa using hu)) (by omega) fun h' tk hS hk => ?_
        obtain ⟨S, o, es, ep, tb, ho, hex, hd, _, _, _, hf, hn⟩ := hS
        have I2 : Inv X pins σ H1 { s1 with heap := h', toks := tk } := I1.kept fun b o e => hk b o (Heap.lt_size e) e
        have hle : ∀ (a b : List (List Nat)), dist a b ≤ a.length := by
          intro a
          induction a with
          | nil => exact fun _ => Nat.le_refl _
          | cons x a ih =>
            intro b
            rw [dist, List.length_cons]
            split
            · exact Nat.le_succ_of_le (ih b)
            · exact Nat.succ_le_succ (ih _)
        have hd0 := hle ss []
        refine PyProof.Rows.args_nil (call_len_set ho hex hd hf (by rw [hn]; omega) ⟨.int (dist ss [] : Nat), H1, I2.tok _, ⟨_, by rw [hn]⟩, ?_⟩)
        exact z r1 H1 _ (Ext.refl _ _) c1.1 rfl
      · rw [if_neg hz] at z
        exact z.elim
  | _ => exact c1.2.2.elim
end Dh


set_option Elab.async false
set_option linter.all false
set_option maxRecDepth 100000
set_option maxHeartbeats 4000000
/-! DhMore: names stored side by side, name = [..] on one line, isdigit, {}, calls by keywords. -/
namespace Dh
open PySem PySem.Spec PyProof.Rows L2

theorem EnvOk.set {K : Frag} {r : List Addr} {H : Hp} {env : Env} {σ : L2.St} (e : EnvOk K r H env σ) {k : Nat} {d : D} {v : V} (hk : k < env.length) (t : Rp K r H d v) : EnvOk K r H (env.set k (some d)) (σ.set k (some v)) := by
  refine ⟨by rw [List.length_set, List.length_set]; exact e.len, fun j d' hj => ?_⟩
  by_cases hjk : j = k
  · subst hjk
    rw [List.getElem?_set_self hk] at hj
    cases hj
    exact ⟨v, List.getElem?_set_self (by rw [← e.len]; exact hk), t⟩
  · rw [List.getElem?_set_ne (Ne.symm hjk)] at hj
    obtain ⟨w, h1, h2⟩ := e.at_ j d' hj
    exact ⟨w, by rw [List.getElem?_set_ne (Ne.symm hjk)]; exact h1, h2⟩
theorem onE_tup {x : M (List D)} {env : Env} {f : D → M Fl} {m : Sto} : onE (bnd x fun ds => ret (.tup ds)) env f m = onE x env (fun ds => f (.tup ds)) m := by
  unfold onE
  cases hx : x m with
  | ok ds m1 =>
    rw [bnd_ok hx]
    rfl
  | bad => rw [bnd_bad hx]
  | exc z m1 => rw [bnd_exc hx]
/-- names bound one after another -/
def bindNs : List Nat → List D → Env → Option Env
  | [], [], env => some env
  | i :: is, d :: ds, env => if i < env.length then bindNs is ds (env.set i (some d)) else none
  | _, _, _ => none
def namesT : List Nat → Ts
  | [] => .nil
  | i :: is => .cons (.name i) (namesT is)
theorem bindNs_ok {F : Fn} {m : Sto} : ∀ (is : List Nat) (ds : List D) (env : Env), bindTs F (namesT is) ds env m = match bindNs is ds env with
    | some e => .ok e m
    | none => .bad
  | [], [], env => rfl
  | [], _ :: _, env => rfl
  | _ :: _, [], env => rfl
  | i :: is, d :: ds, env => by
    rw [namesT, bindTs, bindNs, bindT]
    by_cases q : i < env.length
    · rw [if_pos q, if_pos q]
      exact bindNs_ok is ds _
    · rw [if_neg q, if_neg q]
      rfl
theorem bindNs_len : ∀ {is : List Nat} {ds : List D} {env e : Env}, bindNs is ds env = some e → is.length = ds.length
  | [], [], _, _, _ => rfl
  | [], _ :: _, _, _, h => by cases h
  | _ :: _, [], _, _, h => by cases h
  | i :: is, d :: ds, env, e, h => by
    rw [bindNs] at h
    by_cases q : i < env.length
    · rw [if_pos q] at h
      rw [List.length_cons, List.length_cons, bindNs_len h]
    · rw [if_neg q] at h
      cases h
def setsV : List Nat → List V → L2.St → L2.St
  | i :: is, v :: vs, σ => setsV is vs (σ.set i (some v))
  | _, _, σ => σ
theorem bindNs_env {K : Frag} {r : List Addr} {H : Hp} : ∀ {is : List Nat} {ds : List D} {vs : List V} {env e : Env} {σ : L2.St}, bindNs is ds env = some e → Rps K r H ds vs → EnvOk K r H env σ → EnvOk K r H e (setsV is vs σ)
  | [], [], _, env, e, σ, h, _, k => by
    cases h
    exact k
  | [], _ :: _, _, _, _, _, h, _, _ => by cases h
  | _ :: _, [], _, _, _, _, h, _, _ => by cases h
  | i :: is, d :: ds, _, env, e, σ, h, ⟨v, w, hv, t, t2⟩, k => by
    subst hv
    rw [bindNs] at h
    by_cases q : i < env.length
    · rw [if_pos q] at h
      show EnvOk K r H e (setsV is w (σ.set i (some v)))
      exact bindNs_env h t2 (k.set q t)
    · rw [if_neg q] at h
      cases h
/-- .. in one line of stores -/
theorem Fin.names {F : Fn} {g : Gd} {D : Ends} {r : List Addr} {H : Hp} {is : List Nat} {ds : List Dh.D} {vs : List V} {env : Env} {σ : L2.St} {m : Sto} (h : Fin g D r H (bnd (noExc (bindT F (.tup (namesT is)) (.tup ds) env)) (fun env' => ret (.nx env')) m)) (t : Rps g.K r H ds vs)
    (s : StoOk g.K r H m) (k : EnvOk g.K r H env σ) : is.length = vs.length ∧ D.nx (setsV is vs σ) H := by
  rw [bindT] at h
  dsimp only [Dh.bnd, noExc] at h
  rw [bindNs_ok] at h
  cases hb : bindNs is ds env with
  | none =>
    rw [hb] at h
    exact h.elim
  | some e =>
    rw [hb] at h
    exact ⟨by rw [t.len]; exact bindNs_len hb, h r H _ (Ext.refl _ _) s (bindNs_env hb t k)⟩
section
variable {X : Cx} {g : Gd} {F : Fn} {es : Es} {i j l : Nat} {x y z : Str} {a b c : Expr} {px py pz pt pos : Pos} {kt k2 : Nat} {pt2 : Pos}
theorem ss_par2 (hc : X.calm = true) (hN : X.N.Nodup) (hi : X.N[i]? = some x) (hj : X.N[j]? = some y) (hij : i ≠ j) (hx : X.env.scope.names.lookup x = some .local) (hy : X.env.scope.names.lookup y = some .local) (ha : PA X [a, b] (tOfs g (evs F es)))
    (hw : swappedStores [.Tuple [.Name x px, .Name y py] kt pt] (.Tuple [a, b] k2 pt2) X.env = pure (some [x, y])) (hs : swapsWithSole [.Tuple [.Name x px, .Name y py] kt pt] (.Tuple [a, b] k2 pt2) pos.line X.env = pure false) :
    PS X (.Assign [.Tuple [.Name x px, .Name y py] kt pt] (.Tuple [a, b] k2 pt2) pos) (tS g (run F (.asg (.tup (namesT [i, j])) (.tup es)))) := by
  refine PS.weak (ps_par hc hN hi hj hij hx hy ha hw hs) fun D σ H ⟨r, env, m, s, k, h⟩ => ⟨r, env, m, ?_⟩
  have h : Fin g D r H (onE (bnd (evs F es env) fun ds => ret (.tup ds)) env (fun d => bnd (noExc (bindT F (.tup (namesT [i, j])) d env)) fun env' => ret (.nx env')) m) := h
  rw [onE_tup] at h
  refine (Fin.onE s k h).mono ?_
  rintro vs H1 ⟨r1, ds, m1, x1, t1, _, s1, k1, h1⟩
  obtain ⟨hl, q⟩ := Fin.names h1 t1 s1 k1
  match vs, hl with
  | [v, w], _ => exact ⟨v, w, rfl, q⟩
theorem ss_par3 (hc : X.calm = true) (hN : X.N.Nodup) (hi : X.N[i]? = some x) (hj : X.N[j]? = some y) (hl : X.N[l]? = some z) (hij : i ≠ j) (hil : i ≠ l) (hjl : j ≠ l)
    (hx : X.env.scope.names.lookup x = some .local) (hy : X.env.scope.names.lookup y = some .local) (hz : X.env.scope.names.lookup z = some .local) (ha : PA X [a, b, c] (tOfs g (evs F es)))
    (hw : swappedStores [.Tuple [.Name x px, .Name y py, .Name z pz] kt pt] (.Tuple [a, b, c] k2 pt2) X.env = pure (some [x, y, z])) (hs : swapsWithSole [.Tuple [.Name x px, .Name y py, .Name z pz] kt pt] (.Tuple [a, b, c] k2 pt2) pos.line X.env = pure false) :
    PS X (.Assign [.Tuple [.Name x px, .Name y py, .Name z pz] kt pt] (.Tuple [a, b, c] k2 pt2) pos) (tS g (run F (.asg (.tup (namesT [i, j, l])) (.tup es)))) := by
  refine PS.weak (ps_par3 hc hN hi hj hl hij hil hjl hx hy hz ha hw hs) fun D σ H ⟨r, env, m, s, k, h⟩ => ⟨r, env, m, ?_⟩
  have h : Fin g D r H (onE (bnd (evs F es env) fun ds => ret (.tup ds)) env (fun d => bnd (noExc (bindT F (.tup (namesT [i, j, l])) d env)) fun env' => ret (.nx env')) m) := h
  rw [onE_tup] at h
  refine (Fin.onE s k h).mono ?_
  rintro vs H1 ⟨r1, ds, m1, x1, t1, _, s1, k1, h1⟩
  obtain ⟨hl, q⟩ := Fin.names h1 t1 s1 k1
  match vs, hl with
  | [u, v, w], _ => exact ⟨u, v, w, rfl, q⟩
end
/-! ### name = [..] -/
/-- a list that a statement leaves, locked behind it -/
theorem ps_locks {X : Cx} {st : Stmt} {t t' : L2.TS} (h : PS X st t) (w : ∀ D σ H, t' D σ H → t { D with nx := fun σ' H' => D.nx σ' H' ∨ ∃ p vs, H' p = some (.lst vs) ∧ ∀ o, D.nx σ' (upd H' p (.frz o (.lst vs))) } σ H) : PS X st t' := by
  refine ⟨fun pins s σ H D I q => thn (h.run pins s σ H _ I (w D σ H q)) fun f s' hq => ?_⟩
  cases f with
  | next =>
    obtain ⟨σ', H', I', q⟩ := hq
    rcases q with q | ⟨p, vs, hp, q⟩
    · exact ⟨σ', H', I', q⟩
    · obtain ⟨o, I2⟩ := Dh.Inv.frozen I' hp
      exact ⟨σ', _, I2, q o⟩
  | ret v => exact hq
  | brk => exact hq
  | cont => exact hq
section
variable {X : Cx} {g : Gd} {elt tg iter : Expr} {ifs : List Expr} {scope : Scope} {own : List (Str × Nat)} {pos spos py : Pos} {ni : Env → M Src} {nt : D → Env → M Env} {nc ne : Env → M D} {ns : List Nat} {i : Nat} {y : Str}
abbrev compN (ni : Env → M Src) (nt : D → Env → M Env) (nc ne : Env → M D) (env : Env) : M D := bnd (ni env) fun s => match s with
  | .fix ds => if ds.length ≤ lim then bnd (compL (fun d => noExc (compB nt nc ne env d)) ds) fun ys => ret (.lst ys) else bad
  | .loc n => bnd (compR (fun d => noExc (compB nt nc ne env d)) n lim 0) fun ys => ret (.lst ys)
abbrev nameN (i : Nat) (d : D) (env : Env) : M Env := if i < env.length then ret (env.set i (some d)) else bad
theorem setLc_of (hk : g.K = X.K) (hc : X.calm = true) (hN : X.N.Nodup) (hy : X.N[i]? = some y) (hyl : X.env.scope.names.lookup y = some .local) (hsw : swapsWith (.ListComp elt [⟨tg, iter, ifs, 0⟩] scope pos) (some (.Name y py)) spos.line X.env = pure true)
    (hi : PI X tg iter (tI g ni)) (ok : BlkOk X.N X.env.scope scope own) (hn : ∀ i ∈ ns, i ∈ own.map (·.2)) (hw : ∀ d env m, nt d (wipeE env (own.map (·.2))) m = nt d env m)
    (hg : ∀ (s : Shared) (H : Hp) (C : Addr) (cl : List (Str × Addr)) (fp : List Addr), PG (X.blk s H scope (compEnvC scope cl C X.env) fp) tg (tG g.off ns nt)) (ht : ∀ (s : Shared) (H : Hp) (C : Addr) (cl : List (Str × Addr)) (fp : List Addr), PTs (X.blk s H scope (compEnvC scope cl C X.env) fp) ifs (tTe g.off nc))
    (he : ∀ (s : Shared) (H : Hp) (C : Addr) (cl : List (Str × Addr)) (fp : List Addr), PE (X.blk s H scope (compEnvC scope cl C X.env) fp) elt (tOf g.off ne)) (hs : ∀ x, foldedSetIterable iter X.env x = pure x) :
    PS X (.Assign [.Name y py] (.ListComp elt [⟨tg, iter, ifs, 0⟩] scope pos) spos) (tAsg (tRawS g (compN ni nt nc ne)) (gName i)) :=
  PS.weak (ps_setLc hc hN hy hyl hsw hi ok hg ht he hs) fun D σ H h => lc_reads hk hn hw h
theorem fin_name {D : Ends} {r : List Addr} {H : Hp} {env : Env} {m : Sto} {d : Dh.D} (h : Fin g D r H (bnd (noExc (nameN i d env)) (fun env' => ret (.nx env')) m)) : i < env.length ∧ ∀ r' H' σ', Ext r H r' H' → StoOk g.K r' H' m → EnvOk g.K r' H' (env.set i (some d)) σ' → D.nx σ' H' := by
  by_cases q : i < env.length
  · refine ⟨q, ?_⟩
    dsimp only [nameN, Dh.bnd, noExc] at h
    rw [if_pos q] at h
    exact h
  · dsimp only [nameN, Dh.bnd, noExc] at h
    rw [if_neg q] at h
    exact h.elim
theorem onE_inv {D : Ends} {r : List Addr} {H : Hp} {e : M Dh.D} {f : Dh.D → M Fl} {env : Env} {m : Sto} (h : Fin g D r H (onE e env f m)) : isBad (e m) = false := by
  unfold onE at h
  cases hx : e m with
  | bad =>
    rw [hx] at h
    exact h.elim
  | _ => rfl
/-- a list that stays as it is -/
theorem ss_setLc {n : Env → M D} (hp : PS X (.Assign [.Name y py] (.ListComp elt [⟨tg, iter, ifs, 0⟩] scope pos) spos) (tAsg (tRawS g n) (gName i))) : PS X (.Assign [.Name y py] (.ListComp elt [⟨tg, iter, ifs, 0⟩] scope pos) spos) (tS g (asgM n (nameN i))) := by
  refine ps_locks hp fun D σ H ⟨r, env, m, s, k, h⟩ => ?_
  refine ⟨r, env, m, s, k, ?_⟩
  have z := h
  unfold asgM onE at z
  cases hx : n env m with
  | bad =>
    rw [hx] at z
    exact z.elim
  | exc e m1 =>
    rw [hx] at z
    have z : ∀ r' H' σ' c od, Ext r H r' H' → StoOk g.K r' H' m1 → EnvOk g.K r' H' env σ' → g.X e r' H' c od → g.W c od σ' H' := z
    exact fun r' H' c d x1 s1 z1 => z r' H' σ c d x1 s1 (k.kp (x1.toKp s)) z1
  | ok d m1 =>
    rw [hx] at z
    dsimp only at z
    rintro r' H' b x1 s1 ⟨ds, p, vs, rfl, rfl, hp, hn, t, h0⟩
    refine .inr ⟨p, vs, hp, fun o => ?_⟩
    obtain ⟨q, z⟩ := fin_name (z.ext x1)
    have k1 := k.kp (x1.toKp s)
    have x2 : Ext r H r' (upd H' p (.frz o (.lst vs))) := x1.lock h0
    have z2 := fin_name (D := D) (i := i) (env := env) (m := m1) (d := .lst ds) (r := r) (H := H) (by
      have zz := h
      unfold asgM onE at zz
      rw [hx] at zz
      exact zz)
    exact z2.2 r' _ _ x2 (s1.lock hp hn) ((k1.kp (Kp.lock hp)).set q ⟨p, vs, rfl, .inl ⟨o, upd_same⟩, Rps.kp (Kp.lock hp) _ _ t⟩)
/-- a list that changes later -/
theorem ss_setLcN {n : Env → M D} (hp : PS X (.Assign [.Name y py] (.ListComp elt [⟨tg, iter, ifs, 0⟩] scope pos) spos) (tAsg (tRawS g n) (gName i))) : PS X (.Assign [.Name y py] (.ListComp elt [⟨tg, iter, ifs, 0⟩] scope pos) spos) (tS g (asgM (fun env => bnd (n env) fun d => match d with
    | .lst ds => alloc ds
    | _ => bad) (nameN i))) := by
  refine PS.weak hp fun D σ H ⟨r, env, m, s, k, h⟩ => ?_
  refine ⟨r, env, m, s, k, ?_⟩
  unfold asgM onE at h
  dsimp only at h
  cases hx : n env m with
  | bad =>
    rw [bnd_bad hx] at h
    exact h.elim
  | exc e m1 =>
    rw [bnd_exc hx] at h
    have z : ∀ r' H' σ' c od, Ext r H r' H' → StoOk g.K r' H' m1 → EnvOk g.K r' H' env σ' → g.X e r' H' c od → g.W c od σ' H' := h
    exact fun r' H' c d x1 s1 z1 => z r' H' σ c d x1 s1 (k.kp (x1.toKp s)) z1
  | ok d m1 =>
    rw [bnd_ok hx] at h
    rintro r' H' b x1 s1 ⟨ds, p, vs, rfl, rfl, hp, hn, t, h0⟩
    dsimp only [alloc] at h
    obtain ⟨q, z⟩ := fin_name h
    have kk : Kp r' H' (r' ++ [p]) H' := ⟨List.prefix_append _ _, fun _ _ h => h, fun _ _ _ h => h⟩
    refine z (r' ++ [p]) H' _ ⟨x1.pre.trans (List.prefix_append _ _), fun a o e1 e2 => ?_⟩ (s1.push hp hn t) (((k.kp (x1.toKp s)).kp kk).set q ⟨p, rfl, ?_⟩)
    · obtain ⟨z1, z2⟩ := x1.kp a o e1 e2
      refine ⟨z1, fun q => ?_⟩
      rcases List.mem_append.mp q with q | q
      · exact z2 q
      · have z : a = p := by simpa using q
        rw [z, h0] at e1
        cases e1
    · rw [← s1.len]
      simp
end
/-! ### isdigit, {} -/
theorem digit_of : ∀ c, c < 128 → Unicode.isDigit c = decide (48 ≤ c ∧ c ≤ 57) := by decide +kernel
section
variable {X : Cx} {g : Gd} {o : Expr} {mo : Env → M D} {pos apos : Pos}
theorem se_isdigit (ho : PE X o (tOf g mo)) (hbase : attributeBase o "isdigit" X.env (eval o X.env) = eval o X.env) (hline : (apos.endLine == pos.line) = true) :
    PE X (.Call (.Attribute o "isdigit" apos) [] [] pos) (tOf g fun env => bnd (mo env) fun d => fun m => ofO (blt m .isdigit [d]) m) := by
  refine PE.weak (pe_m0 F.slot_str_isdigit F.type_str_isdigit mt_isdigit ho hbase hline) fun σ H Q ⟨r, env, m, c⟩ => ⟨r, env, m, c.bnd.mono ?_⟩
  rintro v H1 ⟨r1, d, m1, x1, t1, _, c1⟩
  match d with
  | .str [ch] =>
    have z := c1.2.2
    dsimp only [blt] at z
    by_cases q : ch < 128
    · rw [if_pos q] at z
      refine ⟨⟨_, t1⟩, _, t1, rfl, trivial, ?_⟩
      have e : Txt.isdigit ⟨[ch].toArray⟩ = decide (48 ≤ ch ∧ ch ≤ 57) := by
        rw [← digit_of ch q]
        simp [Txt.isdigit, Str.length]
      rw [e]
      exact z r1 H1 _ (Ext.refl _ _) c1.1 rfl
    · rw [if_neg q] at z
      exact z.elim
  | .str [] => exact c1.2.2.elim
  | .str (_ :: _ :: _) => exact c1.2.2.elim
  | .non => exact c1.2.2.elim
  | .bl _ => exact c1.2.2.elim
  | .int _ => exact c1.2.2.elim
  | .tup _ => exact c1.2.2.elim
  | .lst _ => exact c1.2.2.elim
  | .edict => exact c1.2.2.elim
  | .loc _ => exact c1.2.2.elim
end
theorem Inv.frozenD {X : Cx} {pins : List (Addr × Obj)} {σ : L2.St} {H : Hp} {s : Shared} {p : Addr} (I : Inv X pins σ H s) (hp : H p = some (.dK [])) : ∃ o, Inv X pins σ (upd H p (.frz o (.dK []))) s := by
  have q0 := I.hok p _ hp
  obtain ⟨hz, hs, vs, hk, od, es, ep, ho, _⟩ := id q0
  have nb : ∀ b, H b = none → b ≠ p := fun b hb z => by rw [z, hp] at hb; cases hb
  have no : ∀ b o, H b = some o → o ≠ .dK [] → b ≠ p := fun b o hb hn z => by
    rw [z, hp] at hb
    cases hb
    exact hn rfl
  refine ⟨od, I.ok, I.os, I.bare, ⟨I.base.keep, I.base.slot, fun b o h1 h2 h3 => ?_, I.base.there, fun b ys h => ?_, fun b o u h => ?_, fun b ps h => ?_⟩, I.loc, I.cell, ?_, fun x c h => ?_, fun q hq => ?_, fun b u q => ?_, I.len⟩
  · have z := I.base.free b o h1 h2 h3
    exact (upd_ne (nb b z)).trans z
  · have z := I.base.tups b ys h
    exact (upd_ne (no b _ z fun w => by cases w)).trans z
  · have z := I.base.frzs b o u h
    exact (upd_ne (no b _ z fun w => by cases w)).trans z
  · obtain ⟨more, z⟩ := I.base.tbls b ps h
    exact ⟨more, (upd_ne (no b _ z fun w => by cases w)).trans z⟩
  · exact (upd_ne (nb _ I.free)).trans I.free
  · exact (upd_ne (nb _ (I.freeC x c h))).trans (I.freeC x c h)
  · obtain ⟨h1, h2, h3⟩ := I.pin q hq
    exact ⟨h1, (upd_ne (nb _ h2)).trans h2, h3⟩
  · by_cases hb : b = p
    · subst hb
      rw [upd_same] at q
      cases q
      exact ⟨ho, q0⟩
    · rw [upd_ne hb] at q
      refine (I.hok b u q).stay (fun _ _ _ z => z) (fun c z => ?_) fun c ys z => ?_
      · exact (upd_ne (no c _ z fun w => by cases w)).trans z
      · exact (upd_ne (no c _ z fun w => by cases w)).trans z
theorem se_dict0 {X : Cx} {g : Gd} {pos : Pos} : PE X (.Dict [] [] pos) (tOf g fun _ => ret .edict) := by
  refine ⟨fun pins s σ H Q I ⟨r, env, m, c⟩ => ?_⟩
  refine thn (pe_dnewK.run pins s σ H (fun v H' => ∃ p, v = .ref p ∧ H p = none ∧ H' = upd H p (.dK [])) I fun p hp => ⟨p, rfl, hp, rfl⟩) fun u s' ⟨v, H', I', rv, p, e1, hp, e2⟩ => ?_
  subst e1 e2
  obtain ⟨o, I2⟩ := Dh.Inv.frozenD I' upd_same
  rw [L2.upd_upd] at I2
  exact ⟨.ref p, _, I2, rv, c.2.2 r _ _ (Ext.new hp) (c.1.new hp) ⟨p, o, rfl, upd_same⟩⟩
/-! ### list + list -/
def rCatL (K : Frag) : L2.R2 := fun x y H Q => ∃ a b xs ys, x = .ref a ∧ y = .ref b ∧ SqL K H a xs ∧ SqL K H b ys ∧ xs.length + ys.length ≤ sizeLine ∧ ∀ p, H p = none → Q (.ref p) (upd H p (.lst (xs ++ ys)))
theorem op_catL {X : Cx} : OpR X (binaryOp .Add) (rCatL X.K) := by
  intro pins s σ H x y v u Q I rx ry h
  obtain ⟨a, b, xs, ys, rfl, rfl, ha, hb, hz, q⟩ := h
  cases rx
  cases ry
  obtain ⟨i1, r1, ⟨⟨c1, d1, t1, s1⟩, n1, e1, k1, k2, k3⟩, _⟩ := I.list ha
  obtain ⟨i2, r2, ⟨⟨c2, d2, t2, s2⟩, n2, e2, k4, k5, k6⟩, _⟩ := I.list hb
  simp only at k1 k2 k3 k4 k5 k6
  subst k1 k2 k3 k4 k5 k6
  have hl1 := r1.length
  have hl2 := r2.length
  refine concat_meets ⟨_, e1, rfl⟩ ⟨_, e2, rfl⟩ noFill_list_add seq_list_add PySem.F.slot_list_add PySem.F.entry_list_add (PySem.F.args_list_add_2 _ _) (list_addW a b i1.toArray i2.toArray n1 n2 none none s1 s2 (by rw [List.size_toArray, List.size_toArray]; omega)) ⟨e1, e2, ?_⟩
  have e : i1.toArray ++ i2.toArray = (i1 ++ i2).toArray := by simp
  rw [e]
  refine ⟨.ref s.heap.objs.size, _, I.laid (t' := s.toks) (o := .lst (xs ++ ys)) (fun b ob q => Heap.get?_push_of_some _ q) (Nat.le_refl _) ⟨by rw [List.length_append]; exact hz, _, 0, r1.append r2, ?_⟩, rfl, q _ (I.hok.fresh (Nat.le_refl _))⟩
  exact Heap.get?_push_size _ rfl
theorem se_cat {X : Cx} {g : Gd} {a b : Expr} {ma mb : Env → M D} {pos : Pos} (hg : g.K = X.K) (ha : PE X a (tOf g ma)) (hb : PE X b (tOf g mb)) : PE X (.BinOp a .Add b pos) (tRawS g fun env => bnd (ma env) fun x => bnd (mb env) fun y => fun m => ofO (catD m x y) m) := by
  refine PE.weak (pe_op op_catL ha hb) fun σ H Q ⟨r, env, m, c⟩ => ⟨r, env, m, c.bnd.mono ?_⟩
  rintro v H1 ⟨r1, d1, m1, x1, t1, _, c1⟩
  refine ⟨r1, env, m1, c1.bnd.mono ?_⟩
  rintro w H2 ⟨r2, d2, m2, x2, t2, _, c2⟩
  have z := c2.2.2
  unfold catD at z
  dsimp only at z
  have t1' := Rp.kp (x2.toKp c1.1) _ _ t1
  cases hx : lstOf m2 d1 with
  | none =>
    rw [hx] at z
    exact z.elim
  | some xs =>
    cases hy : lstOf m2 d2 with
    | none =>
      rw [hx, hy] at z
      exact z.elim
    | some ys =>
      rw [hx, hy] at z
      dsimp only at z
      by_cases hl : xs.length + ys.length ≤ lim
      · rw [if_pos hl] at z
        obtain ⟨p, vs, rfl, q1, q2⟩ := c2.1.lseq t1' hx
        obtain ⟨q, ws, rfl, q3, q4⟩ := c2.1.lseq t2 hy
        have l1 := q2.len
        have l2 := q4.len
        have ll := limLe
        refine ⟨p, q, vs, ws, rfl, rfl, hg ▸ q1, hg ▸ q3, by omega, fun l hl => ?_⟩
        have fin : ∀ r' H' b, Ext r2 H2 r' H' → StoOk g.K r' H' m2 → RfS g.K H r' H' (.lst (xs ++ ys)) b → Q b H' := z
        exact fin r2 _ _ (Ext.new hl) (c2.1.new hl) ⟨_, l, vs ++ ws, rfl, rfl, upd_same, c2.1.fresh hl, Rps.kp (Kp.new hl) _ _ (q2.app q4), (x1.trans x2).gone c.1 c2.1 hl⟩
      · rw [if_neg hl] at z
        exact z.elim
/-- a new list * int -/
theorem se_rep {X : Cx} {g : Gd} {a b : Expr} {ma mb : Env → M D} {pos : Pos} (hg : g.K = X.K) (ha : PE X a (tRawS g ma)) (hb : PE X b (tOf g mb)) : PE X (.BinOp a .Mult b pos) (tRawS g fun env => bnd (ma env) fun x => bnd (mb env) fun y => ofO (repD x y)) := by
  refine PE.weak (pe_op op_rep ha hb) fun σ H Q ⟨r, env, m, c⟩ => ⟨r, env, m, c.bnd.mono ?_⟩
  rintro v H1 ⟨r1, d1, m1, x1, t1, _, c1⟩
  refine ⟨r1, env, m1, c1.bnd.mono ?_⟩
  rintro w H2 ⟨r2, d2, m2, x2, t2, _, c2⟩
  obtain ⟨ds, p, vs, rfl, rfl, hp, hn, t1, h0⟩ := t1
  have z := c2.2.2
  cases d2 with
  | int k =>
    unfold repD at z
    dsimp only at z
    by_cases hl : 0 ≤ k ∧ k ≤ 1000 ∧ ds.length ≤ 1000
    · rw [if_pos hl] at z
      have p2 := (x2.kp p _ hp hn).1
      have t1' := Rps.kp (x2.toKp c1.1) _ _ t1
      have l1 := t1'.len
      have ll := limLe
      have lm : vs.length * k.toNat ≤ 1000 * 1000 := Nat.mul_le_mul (by omega) (by omega)
      have e6 : (1000 * 1000 : Nat) ≤ lim := by unfold lim; decide
      have fin : ∀ r' H' b, Ext r2 H2 r' H' → StoOk g.K r' H' m2 → RfS g.K H r' H' (.lst (List.replicate k.toNat ds).flatten) b → Q b H' := z
      exact ⟨p, k, vs, rfl, t2, p2, by omega, by omega, by omega, fun l hl => fin r2 _ _ (Ext.new hl) (c2.1.new hl) ⟨_, l, _, rfl, rfl, upd_same, c2.1.fresh hl, Rps.kp (Kp.new hl) _ _ (t1'.rep k.toNat), (x1.trans x2).gone c.1 c2.1 hl⟩⟩
    · rw [if_neg hl] at z
      exact z.elim
  | _ => exact z.elim
/-! ### f(k = e, ..) -/
/-- how a call by keywords alone binds -/
def KwB (K : Frag) (fd : FuncData) (ps : List Str) : Prop := ∀ (s : Shared) (us : List Value), K.In s.heap → us.length = ps.length → BindsTo s fd ⟨[], ps.zip us⟩ (ps.zip us)
theorem PK.weak {X : Cx} {kws : List Keyword} {t t' : L2.TA} (h : PK X kws t) (w : ∀ σ H Q, t' σ H Q → t σ H Q) : PK X kws t' := ⟨fun pos pins s σ H Q I q => h.run pos pins s σ H Q I (w σ H Q q)⟩
section
variable {X : Cx} {g : Gd} {k : Nat} {f : Addr} {fd : FuncData} {ps : List Str} {F : List D → M D} {x : Str} {p pos kpos : Pos} {e : Expr} {kws : List Keyword} {n : Env → M D} {ms : Env → M (List D)} {nm : Option Str}
theorem sk_nil : PK X [] (tOfs g fun _ => ret []) := PK.weak pk_nil fun σ H Q ⟨r, env, m, c⟩ => c.here rfl
theorem sk_cons (he : PE X e (tOf g n)) (hr : PK X kws (tOfs g ms)) : PK X (⟨nm, e, kpos⟩ :: kws) (tOfs g fun env => bnd (n env) fun d => bnd (ms env) fun ds => ret (d :: ds)) :=
  PK.weak (pk_cons he hr) fun σ H Q ⟨r, env, m, c⟩ =>
    ⟨r, env, m, c.bnd.mono fun v H1 ⟨r1, d1, m1, x1, t1, _, c1⟩ => ⟨r1, env, m1, c1.bnd.mono fun w H2 ⟨r2, d2, m2, x2, t2, _, c2⟩ => c2.here ⟨v, w, rfl, Rp.kp (x2.toKp c1.1) _ _ t1, t2⟩⟩⟩
theorem se_callKW (hg : g.K = X.K) (G : FnG X.prog X.w X.K X.mg X.base k f fd ps (spOf X.K g.X ps.length F)) (hr : Roomy k X.A) (tk : Takes X g.W) (hgl : Gl X x) (hm : X.mg x = some (.ref f)) (hk : PySem.W.keepIn X.K (.ref f) = true) (hb : KwB X.K fd ps)
    (ha : PK X kws (tOfs g ms)) (hdb : (x == ("__debug__" : Str)) = false) (hall : (backToKw pos (keywordEach kws X.env)).all (·.1.isSome) = true) (hks : (backToKw pos (keywordEach kws X.env)).filterMap (·.1) = ps)
    (hpl : ((backTo pos (starEach [] X.env)).any (·.1) || (backToKw pos (keywordEach kws X.env)).any (·.1.isNone)) = false) (hl : Len ms ps.length) : PE X (.Call (.Name x p) [] kws pos) (tOf g fun env => bnd (ms env) fun ds => F ds) := by
  refine ⟨fun pins s σ H Q I ⟨r, env, m, c⟩ => ?_⟩
  refine wpAny_Call_Name_kw (ld_glob I hgl hm ?_ hdb)
  refine PySem.W.callWith_KW0 (h₀ := X.base) I.ok.mod.kin hk hall (thn (ha.run pos pins s σ H _ I ⟨r, env, m, c.bnd⟩) fun us s1 hu => ?_) hpl
  obtain ⟨vs, H1, I1, rv, r1, ds, m1, x1, t1, e1, c1⟩ := hu
  have hlen : vs.length = ps.length := by rw [t1.len]; exact hl env m ds m1 e1
  refine ⟨I1.kIn, ?_⟩
  rw [hks]
  have bd := hb s1 us I1.kIn (by rw [← rv.length]; exact hlen)
  have z := run_g (Q := Q) G hr tk I1 bd rv (by rw [← hg]; exact c1.call t1 hlen)
  refine wpAny_call (codeAny_mono z fun r s' hq => ?_)
  cases r with
  | error e => exact hq
  | ok fl => cases fl with
    | ret u => exact hq
    | _ => exact hq.elim
end
end Dh


set_option Elab.async false
set_option linter.all false
set_option maxRecDepth 100000
set_option maxHeartbeats 4000000
/-! DhJoin: sep.join(texts). -/
namespace Dh
open PySem PySem.Spec PyProof.Rows L2
theorem joinN_eq (a : List Nat) : ∀ ss, joinN a ss = TL.joinL a ss
  | [] => rfl
  | [_] => rfl
  | s :: t :: r => by
    rw [joinN, joinN_eq a (t :: r)]
    rfl
theorem rps_strs {K : Frag} {r : List Addr} {H : Hp} : ∀ {ds : List D} {vs : List V} {ss : List (List Nat)}, Rps K r H ds vs → strsOf ds = some ss → vs = (ss.map SX.S).map V.str
  | [], _, ss, h, hs => by
    cases hs
    exact h
  | d :: ds, _, ss, ⟨v, w, e, h1, h2⟩, hs => by
    subst e
    cases d with
    | str s =>
      rw [strsOf] at hs
      obtain ⟨ss', h3, rfl⟩ := Option.map_eq_some_iff.mp hs
      rw [rps_strs h2 h3, show v = .str ⟨s.toArray⟩ from h1]
      rfl
    | _ => cases hs
section
variable {X : Cx} {g : Gd} {e : Expr} {me : Env → M D} {pos apos cp : Pos} {a : List Nat}
theorem se_join {cj} (hg : g.K = X.K) (he : PE X e (tOf g me)) (hbase : attributeBase (.Constant (.str (txt a)) cj cp) "join" X.env (eval (.Constant (.str (txt a)) cj cp) X.env) = eval (.Constant (.str (txt a)) cj cp) X.env) (hs : starEach [e] X.env = [(false, eval e X.env)]) (hline : (apos.endLine == pos.line) = true) :
    PE X (.Call (.Attribute (.Constant (.str (txt a)) cj cp) "join" apos) [e] [] pos) (tOf g fun env => bnd (me env) fun d2 => fun m => ofO (blt m .join [.str a, d2]) m) := by
  refine PE.weak (pe_join pe_str he hs hbase hline) fun σ H Q ⟨r, env, m, c⟩ => ?_
  refine ⟨⟨_, rfl⟩, r, env, m, c.bnd.mono ?_⟩
  rintro w H2 ⟨r2, d2, m2, x2, t2, _, c2⟩
  have z := c2.2.2
  dsimp only [blt] at z
  cases hq : seqOf m2 d2 with
  | none =>
    rw [hq] at z
    exact z.elim
  | some ds =>
    rw [hq] at z
    dsimp only [Option.bind] at z
    cases hs2 : strsOf ds with
    | none =>
      rw [hs2] at z
      exact z.elim
    | some ss =>
      rw [hs2] at z
      dsimp only at z
      by_cases hl : (ss.map List.length).sum + ss.length * a.length ≤ lim
      · rw [if_pos hl] at z
        obtain ⟨p, vs, rfl, hp, hr⟩ := c2.1.seq t2 hq
        have e1 := rps_strs hr hs2
        subst e1
        have ll : lim ≤ 16777216 := by unfold lim; decide
        refine ⟨SX.S a, p, ss.map SX.S, rfl, rfl, ?_, ?_, ?_⟩
        · rw [← hg]
          exact hp
        · rw [SX.lens, List.length_map, SX.S_len]
          exact Nat.le_trans hl ll
        · rw [SX.join_S, ← joinN_eq]
          exact z r2 H2 _ (Ext.refl _ _) c2.1 rfl
      · rw [if_neg hl] at z
        exact z.elim
end
end Dh


set_option Elab.async false
set_option linter.all false
set_option maxRecDepth 100000
set_option maxHeartbeats 4000000
/-! DhZip3: zip of three tuples. -/
namespace Dh
open PySem PySem.Spec PyProof.Rows L2
theorem neA {a b : Nat} (h : a < b ∨ b < a) : (a : Addr) ≠ b := fun e => by
  have e2 : a = b := e
  omega
/-- a tuple of three at an address -/
abbrev Tri (h : Heap) (T : Addr) (a b c : Value) : Prop := h.get? T = some { cls := .type "tuple", data := .seq #[a, b, c] }
section
variable {prog : Program} {w : World} {A : Around} {E : Value → Shared → Prop} {s : Shared}
theorem upd_tri {T : Addr} {a b c x : Value} {k : Nat} {Q : Unit → Shared → Prop} (hT : Tri s.heap T a b c)
    (q : ∀ h2, h2.get? T = some { cls := .type "tuple", data := .seq ((#[a, b, c] : Array Value).setIfInBounds k x) } → Heap.SameBut T s.heap h2 → Q () { s with heap := h2 }) :
    wpAny (model prog w) A (updateSeq T (·.setIfInBounds k x)) Q E s := by
  refine wpAny_updateSeq hT rfl (q _ ?_ (Heap.SameBut.update ..))
  rw [Heap.get?_update_self _ hT rfl]
  simp [Obj.mapSeq]
/-- an iterator stays where another object changes -/
theorem it_kept {h h2 : Heap} {i l j : Addr} {k : Nat} (x : h.IsTupleIter i l k) (e : Heap.SameBut j h h2) (n : i ≠ j) : h2.IsTupleIter i l k := x.extBut e.extBut n
theorem tu_kept {h h2 : Heap} {l j : Addr} {xs : Array Value} (x : h.IsTuple l xs) (e : Heap.SameBut j h h2) (n : l ≠ j) : h2.IsTuple l xs := x.extBut e.extBut n
variable {n l1 l2 l3 : Nat} {k : Nat} {xs ys zs : Array Value} {a b c : Value}
/-- what stands while the three are walked: iterators at n.., their tuple, the kept tuple, the zip -/
structure Z3 (h : Heap) (n l1 l2 l3 : Nat) (k : Nat) (f : Value) : Prop where
  z : IsZip h (n + 5) (n + 3) (n + 4) f
  ti : Tri h (n + 3) (.ref n) (.ref (n + 1)) (.ref (n + 2))
  to : ∃ a b c, Tri h (n + 4) a b c
  i1 : h.IsTupleIter n l1 k
  i2 : h.IsTupleIter (n + 1) l2 k
  i3 : h.IsTupleIter (n + 2) l3 k
theorem z3_item {x y v : Value} {Q : Value → Shared → Prop} (g1 : l1 < n) (g2 : l2 < n) (g3 : l3 < n) (Z : Z3 s.heap n l1 l2 l3 k .none)
    (t1 : s.heap.IsTuple l1 xs) (t2 : s.heap.IsTuple l2 ys) (t3 : s.heap.IsTuple l3 zs) (hx : xs[k]? = some x) (hy : ys[k]? = some y) (hv : zs[k]? = some v)
    (hQ : ∀ h2, Z3 h2 n l1 l2 l3 (k + 1) (rawInt s.heap.objs.size) → Tri h2 s.heap.objs.size x y v → h2.objs.size = s.heap.objs.size + 1 →
      (∀ c o, c ≠ n + 5 → c ≠ n + 4 → c ≠ n → c ≠ n + 1 → c ≠ n + 2 → s.heap.get? c = some o → h2.get? c = some o) → Q (.ref s.heap.objs.size) { s with heap := h2 }) :
    wpAny (model prog w) A (Builtin.«zip.__next__» ⟨[.ref (n + 5)], []⟩) (fun fin s2 => ∃ r, fin = .done (.ret r) ∧ Q r s2) E s := by
  obtain ⟨hz, hTI, ⟨a, b, c, hTO⟩, h1, h2, h3⟩ := Z
  show wpAny _ _ (field (.ref (n + 5)) 2 >>= _) _ _ _
  refine wpAny_bind (wpAny_field hz rfl (x := .bool false) rfl ?_)
  show wpAny _ _ (field (.ref (n + 5)) 3 >>= _) _ _ _
  refine wpAny_bind (wpAny_field hz rfl (x := .ref (n + 3)) rfl ?_)
  refine wpAny_bind (wpAny_seqItems hTI rfl ?_)
  show wpAny _ _ (Builtin.SmallTypes.ownedTupleIsFree (.ref (n + 5)) >>= _) _ _ _
  refine wpAny_bind ?_
  unfold Builtin.SmallTypes.ownedTupleIsFree
  refine wpAny_bind (wpAny_field hz rfl (x := .none) rfl (wpAny_pure ?_))
  simp only [if_true]
  refine wpAny_bind (wpAny_rule ?_)
  refine wpAny_bind (wpAny_field hz rfl (x := .ref (n + 4)) rfl ?_)
  refine wpAny_bind (wpAny_setField_rec hz (by simp) fun p1 z1 s1 => ?_)
  replace z1 : IsZip p1 (n + 5) (n + 3) (n + 4) .ellipsis := z1
  refine wpAny_bind ?_
  simp only [List.zipIdx_cons, List.zipIdx_nil, List.forIn_cons, List.forIn_nil]
  have o1 : Tri p1 (n + 4) a b c := s1.extBut _ _ (neA (by omega)) hTO
  -- the first
  refine wpAny_bind (wpAny_bind (wpAny_onRaise ?_))
  show wpAny _ _ (Builtin.SmallTypes.nextOf (.ref n) >>= _) _ _ _
  refine wpAny_bind (RZ.nextOf_tuple_item (it_kept h1 s1 (neA (by omega))) (tu_kept t1 s1 (neA (by omega))) hx fun p2 j1 s2 => wpAny_pure ?_)
  have o2 : Tri p2 (n + 4) a b c := s2.extBut _ _ (neA (by omega)) o1
  refine wpAny_bind (wpAny_seqItems o2 rfl ?_)
  refine wpAny_bind (upd_tri o2 fun p3 o3 s3 => ?_)
  replace o3 : Tri p3 (n + 4) x b c := o3
  refine wpAny_bind (wpAny_letGo (wpAny_pure ?_))
  -- the second
  refine wpAny_bind (wpAny_bind (wpAny_onRaise ?_))
  show wpAny _ _ (Builtin.SmallTypes.nextOf (.ref (n + 1)) >>= _) _ _ _
  refine wpAny_bind (RZ.nextOf_tuple_item (it_kept (it_kept (it_kept h2 s1 (neA (by omega))) s2 (neA (by omega))) s3 (neA (by omega))) (tu_kept (tu_kept (tu_kept t2 s1 (neA (by omega))) s2 (neA (by omega))) s3 (neA (by omega))) hy fun p4 j2 s4 => wpAny_pure ?_)
  have o4 : Tri p4 (n + 4) x b c := s4.extBut _ _ (neA (by omega)) o3
  refine wpAny_bind (wpAny_seqItems o4 rfl ?_)
  refine wpAny_bind (upd_tri o4 fun p5 o5 s5 => ?_)
  replace o5 : Tri p5 (n + 4) x y c := o5
  refine wpAny_bind (wpAny_letGo (wpAny_pure ?_))
  -- the third
  refine wpAny_bind (wpAny_bind (wpAny_onRaise ?_))
  show wpAny _ _ (Builtin.SmallTypes.nextOf (.ref (n + 2)) >>= _) _ _ _
  refine wpAny_bind (RZ.nextOf_tuple_item (it_kept (it_kept (it_kept (it_kept (it_kept h3 s1 (neA (by omega))) s2 (neA (by omega))) s3 (neA (by omega))) s4 (neA (by omega))) s5 (neA (by omega)))
    (tu_kept (tu_kept (tu_kept (tu_kept (tu_kept t3 s1 (neA (by omega))) s2 (neA (by omega))) s3 (neA (by omega))) s4 (neA (by omega))) s5 (neA (by omega))) hv fun p6 j3 s6 => wpAny_pure ?_)
  have o6 : Tri p6 (n + 4) x y c := s6.extBut _ _ (neA (by omega)) o5
  refine wpAny_bind (wpAny_seqItems o6 rfl ?_)
  refine wpAny_bind (upd_tri o6 fun p7 o7 s7 => ?_)
  replace o7 : Tri p7 (n + 4) x y v := o7
  refine wpAny_bind (wpAny_letGo (wpAny_pure (wpAny_pure ?_)))
  refine wpAny_bind (wpAny_seqItems o7 rfl ?_)
  refine wpAny_bind (wpAny_newTuple ?_)
  have hsz : p7.objs.size = s.heap.objs.size := by rw [s7.1, s6.1, s5.1, s4.1, s3.1, s2.1, s1.1]
  have hk : ∀ c o, c ≠ n + 5 → c ≠ n + 4 → c ≠ n → c ≠ n + 1 → c ≠ n + 2 → s.heap.get? c = some o → p7.get? c = some o := fun c o c1 c2 c3 c4 c5 e =>
    s7.extBut _ _ c2 (s6.extBut _ _ c5 (s5.extBut _ _ c2 (s4.extBut _ _ c4 (s3.extBut _ _ c2 (s2.extBut _ _ c3 (s1.extBut _ _ c1 e))))))
  have z7 : IsZip p7 (n + 5) (n + 3) (n + 4) .ellipsis := s7.extBut _ _ (neA (by omega)) (s6.extBut _ _ (neA (by omega)) (s5.extBut _ _ (neA (by omega)) (s4.extBut _ _ (neA (by omega)) (s3.extBut _ _ (neA (by omega)) (s2.extBut _ _ (neA (by omega)) z1)))))
  have i7 : p7.IsTupleIter n l1 (k + 1) := it_kept (it_kept (it_kept (it_kept (it_kept j1 s3 (neA (by omega))) s4 (neA (by omega))) s5 (neA (by omega))) s6 (neA (by omega))) s7 (neA (by omega))
  have i8 : p7.IsTupleIter (n + 1) l2 (k + 1) := it_kept (it_kept (it_kept j2 s5 (neA (by omega))) s6 (neA (by omega))) s7 (neA (by omega))
  have i9 : p7.IsTupleIter (n + 2) l3 (k + 1) := it_kept j3 s7 (neA (by omega))
  have zl : n + 5 < p7.objs.size := Heap.lt_size z7
  show wpAny _ _ (Builtin.SmallTypes.ownedTupleHandOut (.ref (n + 5)) (.ref p7.objs.size) >>= _) _ _ _
  refine wpAny_bind ?_
  unfold Builtin.SmallTypes.ownedTupleHandOut
  have z8 : IsZip (p7.push { cls := .type "tuple", data := .seq #[x, y, v] }) (n + 5) (n + 3) (n + 4) .ellipsis := Heap.get?_push_of_some _ z7
  refine wpAny_bind (wpAny_setField_rec z8 (by simp) fun p9 z9 s9 => ?_)
  replace z9 : IsZip p9 (n + 5) (n + 3) (n + 4) (rawInt p7.objs.size) := z9
  refine wpAny_setField_rec z9 (by simp) fun p10 z10 s10 => ?_
  replace z10 : IsZip p10 (n + 5) (n + 3) (n + 4) (rawInt p7.objs.size) := z10
  have up : ∀ c o, c ≠ n + 5 → p7.get? c = some o → p10.get? c = some o := fun c o c1 e => s10.extBut _ _ c1 (s9.extBut _ _ c1 (Heap.get?_push_of_some _ e))
  have tr : Tri p10 p7.objs.size x y v := s10.extBut _ _ (neA (by omega)) (s9.extBut _ _ (neA (by omega)) (Heap.get?_push_size _ rfl))
  have sz : p10.objs.size = p7.objs.size + 1 := by rw [s10.1, s9.1, Heap.size_push]
  rw [hsz] at z10 tr sz
  refine wpAny_pure ⟨_, rfl, ?_⟩
  show Q (.ref p7.objs.size) _
  rw [hsz]
  exact hQ p10 ⟨z10, up _ _ (neA (by omega)) (hk _ _ (neA (by omega)) (neA (by omega)) (neA (by omega)) (neA (by omega)) (neA (by omega)) hTI), ⟨_, _, _, up _ _ (neA (by omega)) o7⟩, i7.at fun o e => up _ o (neA (by omega)) e, i8.at fun o e => up _ o (neA (by omega)) e, i9.at fun o e => up _ o (neA (by omega)) e⟩ tr sz
    fun c o c1 c2 c3 c4 c5 e => up c o c1 (hk c o c1 c2 c3 c4 c5 e)
theorem z3_end {Q : PySem.Fin → Shared → Prop} (hh : A.handled = none) (g1 : l1 < n) (g2 : l2 < n) (g3 : l3 < n) (Z : Z3 s.heap n l1 l2 l3 k .none)
    (t1 : s.heap.IsTuple l1 xs) (t2 : s.heap.IsTuple l2 ys) (t3 : s.heap.IsTuple l3 zs) (he : xs[k]? = none ∨ ys[k]? = none ∨ zs[k]? = none)
    (hE : ∀ h2 e, (∀ c o, c ≠ n + 5 → c ≠ n + 4 → c ≠ n → c ≠ n + 1 → c ≠ n + 2 → s.heap.get? c = some o → h2.get? c = some o) → (∃ o, h2.get? e = some o ∧ o.cls = .type "StopIteration") → E (.ref e) { s with heap := h2 }) :
    wpAny (model prog w) A (Builtin.«zip.__next__» ⟨[.ref (n + 5)], []⟩) Q E s := by
  obtain ⟨hz, hTI, ⟨a, b, c, hTO⟩, h1, h2, h3⟩ := Z
  show wpAny _ _ (field (.ref (n + 5)) 2 >>= _) _ _ _
  refine wpAny_bind (wpAny_field hz rfl (x := .bool false) rfl ?_)
  show wpAny _ _ (field (.ref (n + 5)) 3 >>= _) _ _ _
  refine wpAny_bind (wpAny_field hz rfl (x := .ref (n + 3)) rfl ?_)
  refine wpAny_bind (wpAny_seqItems hTI rfl ?_)
  show wpAny _ _ (Builtin.SmallTypes.ownedTupleIsFree (.ref (n + 5)) >>= _) _ _ _
  refine wpAny_bind ?_
  unfold Builtin.SmallTypes.ownedTupleIsFree
  refine wpAny_bind (wpAny_field hz rfl (x := .none) rfl (wpAny_pure ?_))
  simp only [if_true]
  refine wpAny_bind (wpAny_rule ?_)
  refine wpAny_bind (wpAny_field hz rfl (x := .ref (n + 4)) rfl ?_)
  refine wpAny_bind (wpAny_setField_rec hz (by simp) fun p1 z1 s1 => ?_)
  replace z1 : IsZip p1 (n + 5) (n + 3) (n + 4) .ellipsis := z1
  refine wpAny_bind ?_
  simp only [List.zipIdx_cons, List.zipIdx_nil, List.forIn_cons, List.forIn_nil]
  have o1 : Tri p1 (n + 4) a b c := s1.extBut _ _ (neA (by omega)) hTO
  refine wpAny_bind (wpAny_bind (wpAny_onRaise ?_))
  show wpAny _ _ (Builtin.SmallTypes.nextOf (.ref n) >>= _) _ _ _
  cases hx : xs[k]? with
  | none =>
    refine wpAny_bind (RZ.nextOf_tuple_end hh (it_kept h1 s1 (neA (by omega))) (tu_kept t1 s1 (neA (by omega))) hx fun p2 e s2 q => ?_)
    obtain ⟨oe, q1, q2⟩ := q
    have z2 : IsZip p2 (n + 5) (n + 3) (n + 4) .ellipsis := s2 _ _ (neA (by omega)) z1
    have ez : e ≠ n + 5 := fun x => by subst x; rw [z2] at q1; cases q1; simp at q2
    exact wpAny_setField_rec z2 (by simp) fun p3 _ s3 => hE p3 e (fun c o c1 _ c3 _ _ x => s3.extBut _ _ c1 (s2 _ _ c3 (s1.extBut _ _ c1 x))) ⟨oe, s3.extBut _ _ ez q1, q2⟩
  | some x =>
    refine wpAny_bind (RZ.nextOf_tuple_item (it_kept h1 s1 (neA (by omega))) (tu_kept t1 s1 (neA (by omega))) hx fun p2 j1 s2 => wpAny_pure ?_)
    have o2 : Tri p2 (n + 4) a b c := s2.extBut _ _ (neA (by omega)) o1
    refine wpAny_bind (wpAny_seqItems o2 rfl ?_)
    refine wpAny_bind (upd_tri o2 fun p3 o3 s3 => ?_)
    replace o3 : Tri p3 (n + 4) x b c := o3
    refine wpAny_bind (wpAny_letGo (wpAny_pure ?_))
    refine wpAny_bind (wpAny_bind (wpAny_onRaise ?_))
    show wpAny _ _ (Builtin.SmallTypes.nextOf (.ref (n + 1)) >>= _) _ _ _
    have k3 : ∀ c o, c ≠ n + 5 → c ≠ n + 4 → c ≠ n → s.heap.get? c = some o → p3.get? c = some o := fun c o c1 c2 c3 e => s3.extBut _ _ c2 (s2.extBut _ _ c3 (s1.extBut _ _ c1 e))
    have z3 : IsZip p3 (n + 5) (n + 3) (n + 4) .ellipsis := s3.extBut _ _ (neA (by omega)) (s2.extBut _ _ (neA (by omega)) z1)
    have i2' := it_kept (it_kept (it_kept h2 s1 (neA (by omega))) s2 (neA (by omega))) s3 (neA (by omega))
    have t2' := tu_kept (tu_kept (tu_kept t2 s1 (neA (by omega))) s2 (neA (by omega))) s3 (neA (by omega))
    have i3' := it_kept (it_kept (it_kept h3 s1 (neA (by omega))) s2 (neA (by omega))) s3 (neA (by omega))
    have t3' := tu_kept (tu_kept (tu_kept t3 s1 (neA (by omega))) s2 (neA (by omega))) s3 (neA (by omega))
    cases hy : ys[k]? with
    | none =>
      refine wpAny_bind (RZ.nextOf_tuple_end hh i2' t2' hy fun p4 e s4 q => ?_)
      obtain ⟨oe, q1, q2⟩ := q
      have z4 : IsZip p4 (n + 5) (n + 3) (n + 4) .ellipsis := s4 _ _ (neA (by omega)) z3
      have ez : e ≠ n + 5 := fun x => by subst x; rw [z4] at q1; cases q1; simp at q2
      exact wpAny_setField_rec z4 (by simp) fun p5 _ s5 => hE p5 e (fun c o c1 c2 c3 c4 _ x => s5.extBut _ _ c1 (s4 _ _ c4 (k3 _ _ c1 c2 c3 x))) ⟨oe, s5.extBut _ _ ez q1, q2⟩
    | some y =>
      have hv : zs[k]? = none := by
        rcases he with h | h | h
        · rw [hx] at h
          cases h
        · rw [hy] at h
          cases h
        · exact h
      refine wpAny_bind (RZ.nextOf_tuple_item i2' t2' hy fun p4 j2 s4 => wpAny_pure ?_)
      have o4 : Tri p4 (n + 4) x b c := s4.extBut _ _ (neA (by omega)) o3
      refine wpAny_bind (wpAny_seqItems o4 rfl ?_)
      refine wpAny_bind (upd_tri o4 fun p5 o5 s5 => ?_)
      refine wpAny_bind (wpAny_letGo (wpAny_pure ?_))
      refine wpAny_bind (wpAny_bind (wpAny_onRaise ?_))
      show wpAny _ _ (Builtin.SmallTypes.nextOf (.ref (n + 2)) >>= _) _ _ _
      refine wpAny_bind (RZ.nextOf_tuple_end hh (it_kept (it_kept i3' s4 (neA (by omega))) s5 (neA (by omega))) (tu_kept (tu_kept t3' s4 (neA (by omega))) s5 (neA (by omega))) hv fun p6 e s6 q => ?_)
      obtain ⟨oe, q1, q2⟩ := q
      have z6 : IsZip p6 (n + 5) (n + 3) (n + 4) .ellipsis := s6 _ _ (neA (by omega)) (s5.extBut _ _ (neA (by omega)) (s4.extBut _ _ (neA (by omega)) z3))
      have ez : e ≠ n + 5 := fun x => by subst x; rw [z6] at q1; cases q1; simp at q2
      exact wpAny_setField_rec z6 (by simp) fun p7 _ s7 => hE p7 e (fun c o c1 c2 c3 c4 c5 x => s7.extBut _ _ c1 (s6 _ _ c5 (s5.extBut _ _ c2 (s4.extBut _ _ c4 (k3 _ _ c1 c2 c3 x))))) ⟨oe, s7.extBut _ _ ez q1, q2⟩
theorem z3_next {x y v : Value} {Q : Option Value → Shared → Prop} (g1 : l1 < n) (g2 : l2 < n) (g3 : l3 < n) (Z : Z3 s.heap n l1 l2 l3 k .none)
    (t1 : s.heap.IsTuple l1 xs) (t2 : s.heap.IsTuple l2 ys) (t3 : s.heap.IsTuple l3 zs) (hx : xs[k]? = some x) (hy : ys[k]? = some y) (hv : zs[k]? = some v)
    (hQ : ∀ h2, Z3 h2 n l1 l2 l3 (k + 1) (rawInt s.heap.objs.size) → Tri h2 s.heap.objs.size x y v → h2.objs.size = s.heap.objs.size + 1 →
      (∀ c o, c ≠ n + 5 → c ≠ n + 4 → c ≠ n → c ≠ n + 1 → c ≠ n + 2 → s.heap.get? c = some o → h2.get? c = some o) → Q (some (.ref s.heap.objs.size)) { s with heap := h2 }) :
    wpAny (model prog w) A (pyNext (.ref (n + 5))) Q E s := by
  have ty : s.TypeIs (.ref (n + 5)) "zip" := ⟨_, Z.z, rfl⟩
  unfold pyNext
  exact wpAny_bind (wpAny_attempt (wpAny_callSpecial?_slot (name := Str.ofString "__next__") ty F.slot_zip_next
    (wpAny_call_entry F.slot_zip_next ty F.entry_zip_next (z3_item g1 g2 g3 Z t1 t2 t3 hx hy hv fun h2 a1 a2 a3 a4 => wpAny_pure (hQ h2 a1 a2 a3 a4)) (F.args_zip_next_1 _))))
theorem z3_stop {Q : Option Value → Shared → Prop} (hh : A.handled = none) (g1 : l1 < n) (g2 : l2 < n) (g3 : l3 < n) (Z : Z3 s.heap n l1 l2 l3 k .none)
    (t1 : s.heap.IsTuple l1 xs) (t2 : s.heap.IsTuple l2 ys) (t3 : s.heap.IsTuple l3 zs) (he : xs[k]? = none ∨ ys[k]? = none ∨ zs[k]? = none)
    (hQ : ∀ h2, (∀ c o, c ≠ n + 5 → c ≠ n + 4 → c ≠ n → c ≠ n + 1 → c ≠ n + 2 → s.heap.get? c = some o → h2.get? c = some o) → Q none { s with heap := h2 }) : wpAny (model prog w) A (pyNext (.ref (n + 5))) Q E s := by
  have ty : s.TypeIs (.ref (n + 5)) "zip" := ⟨_, Z.z, rfl⟩
  unfold pyNext
  refine wpAny_bind (wpAny_attempt (wpAny_callSpecial?_slot (name := Str.ofString "__next__") ty F.slot_zip_next
    (wpAny_call_entry F.slot_zip_next ty F.entry_zip_next (z3_end hh g1 g2 g3 Z t1 t2 t3 he fun h2 e hk q => ?_) (F.args_zip_next_1 _))))
  obtain ⟨o, ho, hc⟩ := q
  refine wpAny_bind (wpAny_isInstance (T := "StopIteration") (b := true) ⟨o, ho, hc⟩ isSubtype_stop ?_)
  exact wpAny_pure (hQ _ hk)
end
/-! ### zip called -/
theorem type_call3 (a b c : Value) : checkTypeCall "zip" ⟨[a, b, c], []⟩ = pure () := by kernel_rfl
theorem new_call3 (a b c : Value) : checkBuiltinCall "zip.__new__" ⟨[.type "zip", a, b, c], []⟩ = pure () := by kernel_rfl
theorem init_args4 (a b c d : Value) : argsOk "object.__init__" ⟨[a, b, c, d], []⟩ := by
  have o := signature?_of (id := "object.__init__") (n := ['_', '_', 't', 'i', 'n', 'i', '_', '_']) (o := ['t', 'c', 'e', 'j', 'b', 'o']) (by kernel_rfl) F.owner_object
  unfold argsOk
  rw [o]
  kernel_rfl
abbrev zh1 (h : Heap) (l1 : Addr) : Heap := h.push { cls := .type "tuple_iterator", data := .fields #[.ref l1, .int 0 0] }
abbrev zh2 (h : Heap) (l1 l2 : Addr) : Heap := zh1 (zh1 h l1) l2
abbrev zh3 (h : Heap) (l1 l2 l3 : Addr) : Heap := zh1 (zh2 h l1 l2) l3
abbrev zh4 (h : Heap) (l1 l2 l3 : Addr) : Heap := (zh3 h l1 l2 l3).push { cls := .type "tuple", data := .seq #[.ref h.objs.size, .ref (zh1 h l1).objs.size, .ref (zh2 h l1 l2).objs.size] }
abbrev zh5 (h : Heap) (l1 l2 l3 : Addr) : Heap := (zh4 h l1 l2 l3).push { cls := .type "tuple", data := .seq #[.none, .none, .none] }
abbrev zh6 (h : Heap) (l1 l2 l3 : Addr) : Heap := (zh5 h l1 l2 l3).push { cls := .type "zip", data := .fields #[.none, .bool false, .bool false, .ref (zh3 h l1 l2 l3).objs.size, .ref (zh4 h l1 l2 l3).objs.size] }
theorem meets_z3 (l1 l2 l3 : Addr) (xs ys zs : Array Value) :
    Meets (Builtin.«zip.__new__» ⟨[.type "zip", .ref l1, .ref l2, .ref l3], []⟩) (fun _ R s => s.heap.IsTuple l1 xs ∧ s.heap.IsTuple l2 ys ∧ s.heap.IsTuple l3 zs ∧
      R (.ok (.ret (.ref (zh5 s.heap l1 l2 l3).objs.size))) { s with heap := zh6 s.heap l1 l2 l3 }) :=
  .of_wp fun prog w A R s h => by
    obtain ⟨hp, g, d, tk, os⟩ := s
    obtain ⟨q1, q2, q3, h⟩ := h
    have sub := sub_zip
    have m1 : Heap.IsTuple (Shared.heap ⟨hp, g, d, tk, os⟩) l1 xs := q1
    have m2 : Heap.IsTuple (Shared.heap ⟨zh1 hp l1, g, d, tk, os⟩) l2 ys := Heap.IsTuple.push q2 _
    have m3 : Heap.IsTuple (Shared.heap ⟨zh2 hp l1 l2, g, d, tk, os⟩) l3 zs := Heap.IsTuple.push (Heap.IsTuple.push q3 _) _
    wp_walk using wpAny_pyIter_tuple m1, wpAny_pyIter_tuple m2, wpAny_pyIter_tuple m3
    exact ⟨_, rfl, h⟩
section
variable {prog : Program} {w : World} {A : Around} {E : Value → Shared → Prop} {s : Shared}
theorem call_z3 {l1 l2 l3 : Addr} {xs ys zs : Array Value} {Q : Value → Shared → Prop} (t1 : s.heap.IsTuple l1 xs) (t2 : s.heap.IsTuple l2 ys) (t3 : s.heap.IsTuple l3 zs)
    (q : ∀ h2, Z3 h2 s.heap.objs.size l1 l2 l3 0 .none → h2.objs.size = s.heap.objs.size + 6 → (∀ c o, s.heap.get? c = some o → h2.get? c = some o) → Q (.ref (s.heap.objs.size + 5)) { s with heap := h2 }) :
    wpAny (model prog w) A (call (.type "zip") [.ref l1, .ref l2, .ref l3]) Q E s := by
  refine callType_new F.called_zip (by decide) (type_call3 _ _ _) (new_call3 _ _ _) (fun o => init_args4 o _ _ _) F.entry_zip_new (meets_z3 l1 l2 l3 xs ys zs) ⟨t1, t2, t3, ?_⟩
  have n1 : (zh1 s.heap l1).objs.size = s.heap.objs.size + 1 := Heap.size_push ..
  have n2 : (zh2 s.heap l1 l2).objs.size = s.heap.objs.size + 2 := by rw [Heap.size_push, n1]
  have n3 : (zh3 s.heap l1 l2 l3).objs.size = s.heap.objs.size + 3 := by rw [Heap.size_push, n2]
  have n4 : (zh4 s.heap l1 l2 l3).objs.size = s.heap.objs.size + 4 := by rw [Heap.size_push, n3]
  have n5 : (zh5 s.heap l1 l2 l3).objs.size = s.heap.objs.size + 5 := by rw [Heap.size_push, n4]
  have n6 : (zh6 s.heap l1 l2 l3).objs.size = s.heap.objs.size + 6 := by rw [Heap.size_push, n5]
  have k1 : ∀ c o, (zh1 s.heap l1).get? c = some o → (zh6 s.heap l1 l2 l3).get? c = some o := fun c o x => Heap.get?_push_of_some _ (Heap.get?_push_of_some _ (Heap.get?_push_of_some _ (Heap.get?_push_of_some _ (Heap.get?_push_of_some _ x))))
  have k2 : ∀ c o, (zh2 s.heap l1 l2).get? c = some o → (zh6 s.heap l1 l2 l3).get? c = some o := fun c o x => Heap.get?_push_of_some _ (Heap.get?_push_of_some _ (Heap.get?_push_of_some _ (Heap.get?_push_of_some _ x)))
  have k3 : ∀ c o, (zh3 s.heap l1 l2 l3).get? c = some o → (zh6 s.heap l1 l2 l3).get? c = some o := fun c o x => Heap.get?_push_of_some _ (Heap.get?_push_of_some _ (Heap.get?_push_of_some _ x))
  have e1 : (zh6 s.heap l1 l2 l3).get? s.heap.objs.size = some _ := k1 _ _ (Heap.get?_push_size _ rfl)
  have e2 : (zh6 s.heap l1 l2 l3).get? (zh1 s.heap l1).objs.size = some _ := k2 _ _ (Heap.get?_push_size _ rfl)
  have e3 : (zh6 s.heap l1 l2 l3).get? (zh2 s.heap l1 l2).objs.size = some _ := k3 _ _ (Heap.get?_push_size _ rfl)
  have e4 : (zh6 s.heap l1 l2 l3).get? (zh3 s.heap l1 l2 l3).objs.size = some _ := Heap.get?_push_of_some _ (Heap.get?_push_of_some _ (Heap.get?_push_size _ rfl))
  have e5 : (zh6 s.heap l1 l2 l3).get? (zh4 s.heap l1 l2 l3).objs.size = some _ := Heap.get?_push_of_some _ (Heap.get?_push_size _ rfl)
  have e6 : (zh6 s.heap l1 l2 l3).get? (zh5 s.heap l1 l2 l3).objs.size = some _ := Heap.get?_push_size _ rfl
  show _ ∧ _
  rw [n3, n4, n5] at e6
  rw [n4] at e5
  rw [n1, n2, n3] at e4
  rw [n2] at e3
  rw [n1] at e2
  rw [n5]
  exact ⟨⟨_, e6, rfl⟩, q _ ⟨e6, e4, ⟨_, _, _, e5⟩, ⟨_, e1, rfl, rfl⟩, ⟨_, e2, rfl, rfl⟩, ⟨_, e3, rfl, rfl⟩⟩ n6 fun c o x => k1 c o (Heap.get?_push_of_some _ x)⟩
end
/-! ### as an iterable -/
/-- the tuples at a, b, c as they stand at each turn, the items in new triples -/
def Itz3 (K : Frag) (a b c : Addr) : It :=
  ⟨fun i H => ∃ (xs ys zs : List V) (x y z : V), SqT K H a xs ∧ SqT K H b ys ∧ SqT K H c zs ∧ xs[i]? = some x ∧ ys[i]? = some y ∧ zs[i]? = some z,
    fun i H v H' => ∃ T x y z, v = .ref T ∧ H T = none ∧ H' = upd H T (.tup [x, y, z]) ∧ (∀ xs, SqT K H a xs → xs[i]? = some x) ∧ (∀ ys, SqT K H b ys → ys[i]? = some y) ∧ ∀ zs, SqT K H c zs → zs[i]? = some z,
    fun i H => ∃ xs ys zs : List V, SqT K H a xs ∧ SqT K H b ys ∧ SqT K H c zs ∧ (xs.length ≤ i ∨ ys.length ≤ i ∨ zs.length ≤ i)⟩
theorem turn_z3 {P : Program} {w : World} {K : Frag} {elts : List Expr} {kk : Nat} {tpos : Pos} {a b c n : Nat} (g1 : a < n) (g2 : b < n) (g3 : c < n) :
    Turn P w K (.Tuple elts kk tpos) (Itz3 K a b c) [n + 5, n + 3, n + 4, n, n + 1, n + 2] (n + 5) (fun i h => Z3 h n a b c i .none) where
  mem := by simp
  obj := fun i h st d hd => by
    obtain ⟨hz, hTI, ⟨x, y, v, hTO⟩, ⟨o1, e1, _, d1⟩, ⟨o2, e2, _, d2⟩, ⟨o3, e3, _, d3⟩⟩ := st
    have e' : d = n + 5 ∨ d = n + 3 ∨ d = n + 4 ∨ d = n ∨ d = n + 1 ∨ d = n + 2 := by simpa using hd
    rcases e' with q | q | q | q | q | q
    · rw [q]; exact ⟨_, hz, fun v q => nomatch q⟩
    · rw [q]; exact ⟨_, hTI, fun v q => nomatch q⟩
    · rw [q]; exact ⟨_, hTO, fun v q => nomatch q⟩
    · rw [q]; exact ⟨o1, e1, fun v q => by rw [d1] at q; cases q⟩
    · rw [q]; exact ⟨o2, e2, fun v q => by rw [d2] at q; cases q⟩
    · rw [q]; exact ⟨o3, e3, fun v q => by rw [d3] at q; cases q⟩
  keep := fun i h h' st k => by
    obtain ⟨hz, hTI, ⟨x, y, v, hTO⟩, h1, h2, h3⟩ := st
    exact ⟨k (n + 5) (by simp) _ hz, k (n + 3) (by simp) _ hTI, ⟨x, y, v, k (n + 4) (by simp) _ hTO⟩, h1.at fun o q => k n (by simp) o q, h2.at fun o q => k (n + 1) (by simp) o q, h3.at fun o q => k (n + 2) (by simp) o q⟩
  item := by
    intro X hP hw hK hc i pins s σ H E I hf st hg
    subst hP hw hK
    obtain ⟨xs, ys, zs, x, y, z, hqx, hqy, hqz, hx, hy, hv⟩ := hg
    obtain ⟨its, rv, p, _⟩ := I.tuple hqx
    obtain ⟨its2, rv2, p2, _⟩ := I.tuple hqy
    obtain ⟨its3, rv3, p3, _⟩ := I.tuple hqz
    obtain ⟨u, hu, ru⟩ := rv.get hx
    obtain ⟨u2, hu2, ru2⟩ := rv2.get hy
    obtain ⟨u3, hu3, ru3⟩ := rv3.get hv
    have zl : n + 5 < s.heap.objs.size := Heap.lt_size st.z
    refine z3_next g1 g2 g3 st p p2 p3 (x := u) (y := u2) (v := u3) (by simpa using hu) (by simpa using hu2) (by simpa using hu3) fun h2 Z2 hT sz hk => ?_
    refine ⟨_, rfl, wpAny_letOwnedTupleGo_zip (s := { s with heap := h2 }) Z2.z fun h3 z3 sb => ?_⟩
    have hT2 : h3.get? s.heap.objs.size = some { cls := .type "tuple", data := .seq #[u, u2, u3] } := (sb.2 _ (neA (by omega))).trans hT
    have new : ObjOk X.prog X.w (upd H s.heap.objs.size (.tup [x, y, z])) h3 s.heap.objs.size (.tup [x, y, z]) :=
      ⟨by show 3 ≤ sizeLine; decide, [u, u2, u3], .cons ru (.cons ru2 (.cons ru3 .nil)), ⟨_, hT2, rfl, _, rfl⟩⟩
    have I1 : Inv X pins σ (upd H s.heap.objs.size (.tup [x, y, z])) { s with heap := h3 } :=
      I.turnedNew (t' := s.toks) (ch := [n + 5, n + 3, n + 4, n, n + 1, n + 2]) (fun c o hb q => (sb.2 c (fun q' => hb (by simp [q']))).trans (hk c o (fun q' => hb (by simp [q'])) (fun q' => hb (by simp [q'])) (fun q' => hb (by simp [q'])) (fun q' => hb (by simp [q'])) (fun q' => hb (by simp [q'])) q)) hf (Nat.le_refl _) new
    refine ⟨.ref s.heap.objs.size, _, I1, rfl, ⟨_, x, y, z, rfl, I.hok.fresh (Nat.le_refl _), rfl, fun l hl => by rw [I.tuple_inj hl hqx]; exact hx, fun l hl => by rw [I.tuple_inj hl hqy]; exact hy, fun l hl => by rw [I.tuple_inj hl hqz]; exact hv⟩, ?_, fun c hcm => ?_⟩
    · obtain ⟨_, ti2, ⟨a2, b2, c2, to2⟩, j1, j2, j3⟩ := Z2
      exact ⟨z3, (sb.2 _ (neA (by omega))).trans ti2, ⟨a2, b2, c2, (sb.2 _ (neA (by omega))).trans to2⟩, j1.at fun o q => (sb.2 _ (neA (by omega))).trans q, j2.at fun o q => (sb.2 _ (neA (by omega))).trans q, j3.at fun o q => (sb.2 _ (neA (by omega))).trans q⟩
    · have hlt : (c : Nat) < s.heap.objs.size := by
        have e' : c = n + 5 ∨ c = n + 3 ∨ c = n + 4 ∨ c = n ∨ c = n + 1 ∨ c = n + 2 := by simpa using hcm
        have e2 : (c : Nat) ≤ n + 5 := by
          rcases e' with q | q | q | q | q | q <;> rw [q]
          · exact Nat.le_refl _
          · exact Nat.le_of_lt (show n + 3 < n + 5 by omega)
          · exact Nat.le_of_lt (show n + 4 < n + 5 by omega)
          · exact Nat.le_of_lt (show n < n + 5 by omega)
          · exact Nat.le_of_lt (show n + 1 < n + 5 by omega)
          · exact Nat.le_of_lt (show n + 2 < n + 5 by omega)
        exact Nat.lt_of_le_of_lt e2 zl
      rw [upd_ne (Nat.ne_of_lt hlt)]
      exact (hf c hcm).1
  done := by
    intro X hP hw hK hc i pins s σ H E I hf st hg
    subst hP hw hK
    obtain ⟨xs, ys, zs, hqx, hqy, hqz, hend⟩ := hg
    obtain ⟨its, rv, p, _⟩ := I.tuple hqx
    obtain ⟨its2, rv2, p2, _⟩ := I.tuple hqy
    obtain ⟨its3, rv3, p3, _⟩ := I.tuple hqz
    have e1 := rv.length
    have e2 := rv2.length
    have e3 := rv3.length
    have he : its.toArray[i]? = none ∨ its2.toArray[i]? = none ∨ its3.toArray[i]? = none := by
      rcases hend with q | q | q
      · exact .inl (by simp; omega)
      · exact .inr (.inl (by simp; omega))
      · exact .inr (.inr (by simp; omega))
    exact z3_stop (I.ok.hd hc) g1 g2 g3 st p p2 p3 he fun h2 hk => ⟨rfl, I.turnedL (t' := s.toks) (ch := [n + 5, n + 3, n + 4, n, n + 1, n + 2]) (fun c o hb q =>
      hk c o (fun q' => hb (by simp [q'])) (fun q' => hb (by simp [q'])) (fun q' => hb (by simp [q'])) (fun q' => hb (by simp [q'])) (fun q' => hb (by simp [q'])) q) hf⟩
  self := fun A i s Q E st h => wpAny_pyIter_zip st.z h
theorem pi_z3 {X : Cx} {e e2 e3 : Expr} {ta : TA} {p pos tpos : Pos} {elts : List Expr} {kk : Nat} (hg : Gl X "zip") (hm : X.mg "zip" = none) (ha : PA X [e, e2, e3] ta)
    (hs : starEach [e, e2, e3] X.env = (false, eval e X.env) :: starEach [e2, e3] X.env) (hpl : (backTo pos (starEach [e2, e3] X.env)).any (·.1) = false) :
    PI X (.Tuple elts kk tpos) (.Call (.Name "zip" p) [e, e2, e3] [] pos) (fun σ H R => ta σ H fun vs H1 => ∃ a b c xs ys zs, vs = [.ref a, .ref b, .ref c] ∧ SqT X.K H1 a xs ∧ SqT X.K H1 b ys ∧ SqT X.K H1 c zs ∧ R (Itz3 X.K a b c) H1) := by
  refine ⟨fun pins s σ H R I h => ?_⟩
  refine Call_ (ld_blt I hg hm PyProof.Rows.boot_zip (PyProof.Rows.callWith_type1 (thn (ha.run pos pins s σ H _ I h) fun us s1 ⟨vs, H1, I1, r1, q1⟩ => ?_) hs hpl))
  obtain ⟨a, b, c, xs, ys, zs, ex, hqx, hqy, hqz, q⟩ := q1
  subst ex
  cases r1 with
  | cons r rr =>
    cases rr with
    | cons r' rr =>
      cases rr with
      | cons r'' rr =>
        cases rr
        cases r
        cases r'
        cases r''
        obtain ⟨its, rv, p1, _⟩ := I1.tuple hqx
        obtain ⟨its2, rv2, p2, _⟩ := I1.tuple hqy
        obtain ⟨its3, rv3, p3, _⟩ := I1.tuple hqz
        obtain ⟨o1, ho1, _⟩ := id p1
        obtain ⟨o2, ho2, _⟩ := id p2
        obtain ⟨o3, ho3, _⟩ := id p3
        have fresh : ∀ d, d ∈ [s1.heap.objs.size + 5, s1.heap.objs.size + 3, s1.heap.objs.size + 4, s1.heap.objs.size, s1.heap.objs.size + 1, s1.heap.objs.size + 2] → FpOk X pins H1 d := fun d hd => by
          have e' : d = s1.heap.objs.size + 5 ∨ d = s1.heap.objs.size + 3 ∨ d = s1.heap.objs.size + 4 ∨ d = s1.heap.objs.size ∨ d = s1.heap.objs.size + 1 ∨ d = s1.heap.objs.size + 2 := by simpa using hd
          have hle : s1.heap.objs.size ≤ d := by
            rcases e' with z | z | z | z | z | z <;> rw [z]
            · exact Nat.le_add_right _ _
            · exact Nat.le_add_right _ _
            · exact Nat.le_add_right _ _
            · exact Nat.le_refl _
            · exact Nat.le_add_right _ _
            · exact Nat.le_add_right _ _
          exact I1.fpOk hle (I1.hok.fresh hle)
        refine call_z3 (show s1.heap.IsTuple a its.toArray from p1) (show s1.heap.IsTuple b its2.toArray from p2) (show s1.heap.IsTuple c its3.toArray from p3) fun h2 Z hsz hk => wpAny_pyIter_zip Z.z ?_
        have I2 : Inv X pins σ H1 { s1 with heap := h2 } := I1.kept (t' := s1.toks) hk
        exact ⟨s1.heap.objs.size + 5, _, _, _, H1, rfl, I2, turn_z3 (Heap.lt_size ho1) (Heap.lt_size ho2) (Heap.lt_size ho3), Z, fresh, q⟩
/-! ### in the own syntax -/
theorem zip3D_len : ∀ (xs ys zs : List D), (zip3D xs ys zs).length = min xs.length (min ys.length zs.length)
  | [], _, _ => by simp [zip3D]
  | _ :: _, [], _ => by simp [zip3D]
  | _ :: _, _ :: _, [] => by simp [zip3D]
  | x :: xs, y :: ys, z :: zs => by
    rw [zip3D, List.length_cons, List.length_cons, List.length_cons, List.length_cons, zip3D_len]
    omega
theorem zip3D_at : ∀ {i : Nat} {xs ys zs : List D} {e : D}, (zip3D xs ys zs)[i]? = some e → ∃ x y z, xs[i]? = some x ∧ ys[i]? = some y ∧ zs[i]? = some z ∧ e = .tup [x, y, z]
  | _, [], _, _, _, h => by simp [zip3D] at h
  | _, _ :: _, [], _, _, h => by simp [zip3D] at h
  | _, _ :: _, _ :: _, [], _, h => by simp [zip3D] at h
  | 0, x :: xs, y :: ys, z :: zs, e, h => by
    have h' : D.tup [x, y, z] = e := by simpa [zip3D] using h
    exact ⟨x, y, z, rfl, rfl, rfl, h'.symm⟩
  | i + 1, x :: xs, y :: ys, z :: zs, e, h => by
    have h' : (zip3D xs ys zs)[i]? = some e := by simpa [zip3D] using h
    obtain ⟨x', y', z', h1, h2, h3, h4⟩ := zip3D_at h'
    exact ⟨x', y', z', by simpa using h1, by simpa using h2, by simpa using h3, h4⟩
section
variable {K : Frag} {r r' : List Addr} {H H' : Hp} {m m' : Sto}
theorem trip_new {a : Addr} {x y z : V} {d e f : D} (s : StoOk K r H m) (h : H a = none) (h1 : Rp K r H d x) (h2 : Rp K r H e y) (h3 : Rp K r H f z) :
    Ext r H r (upd H a (.tup [x, y, z])) ∧ StoOk K r (upd H a (.tup [x, y, z])) m ∧ Rp K r (upd H a (.tup [x, y, z])) (.tup [d, e, f]) (.ref a) :=
  ⟨Ext.new h, s.new h, a, [x, y, z], rfl, SqT.of upd_same, x, [y, z], rfl, Rp.kp (Kp.new h) _ _ h1, y, [z], rfl, Rp.kp (Kp.new h) _ _ h2, z, [], rfl, Rp.kp (Kp.new h) _ _ h3, rfl⟩
theorem Wk.zip3 {a b c : Addr} {xs ys zs : List D} {vs ws us : List V} (s : StoOk K r H m) (h : SqT K H a vs) (t : Rps K r H xs vs) (h2 : SqT K H b ws) (t2 : Rps K r H ys ws) (h3 : SqT K H c us) (t3 : Rps K r H zs us) : Wk K (Itz3 K a b c) (zip3D xs ys zs) r H := by
  refine fun r1 H1 m1 x s1 => ⟨fun i d hd => ?_, ?_⟩
  · have q1 := SqT.kp (x.toKp s) h
    have q2 := SqT.kp (x.toKp s) h2
    have q3 := SqT.kp (x.toKp s) h3
    obtain ⟨d1, d2, d3, e1, e2, e3, rfl⟩ := zip3D_at hd
    obtain ⟨z1, a1, b1⟩ := (Rps.kp (x.toKp s) _ _ t).get e1
    obtain ⟨z2, a2, b2⟩ := (Rps.kp (x.toKp s) _ _ t2).get e2
    obtain ⟨z3, a3, b3⟩ := (Rps.kp (x.toKp s) _ _ t3).get e3
    refine ⟨⟨vs, ws, us, z1, z2, z3, q1, q2, q3, a1, a2, a3⟩, fun v H2 y => ?_⟩
    obtain ⟨T, u1, u2, u3, rfl, f0, rfl, f1, f2, f3⟩ := y
    have g1 := f1 vs q1
    have g2 := f2 ws q2
    have g3 := f3 us q3
    rw [a1] at g1
    rw [a2] at g2
    rw [a3] at g3
    cases g1
    cases g2
    cases g3
    exact trip_new s1 f0 b1 b2 b3
  · exact ⟨vs, ws, us, SqT.kp (x.toKp s) h, SqT.kp (x.toKp s) h2, SqT.kp (x.toKp s) h3, by rw [zip3D_len, t.len, t2.len, t3.len]; omega⟩
end
section
variable {X : Cx} {g : Gd} {tg e e2 e3 : Expr} {n n2 n3 : Env → M D} {p pos : Pos}
theorem si_zip3 {elts : List Expr} {kk : Nat} {tpos : Pos} (hg : g.K = X.K) (hgl : Gl X "zip") (hm : X.mg "zip" = none) (he : PE X e (tOf g n)) (he2 : PE X e2 (tOf g n2)) (he3 : PE X e3 (tOf g n3))
    (hs : starEach [e, e2, e3] X.env = (false, eval e X.env) :: starEach [e2, e3] X.env) (hs2 : starEach [e2, e3] X.env = (false, eval e2 X.env) :: starEach [e3] X.env)
    (hs3 : starEach [e3] X.env = (false, eval e3 X.env) :: starEach [] X.env) (hpl : (backTo pos (starEach [e2, e3] X.env)).any (·.1) = false) :
    PI X (.Tuple elts kk tpos) (.Call (.Name "zip" p) [e, e2, e3] [] pos) (tI g fun env => bnd (n env) fun x => bnd (n2 env) fun y => bnd (n3 env) fun z => match x, y, z with
      | .tup xs, .tup ys, .tup zs => ret (.fix (zip3D xs ys zs))
      | _, _, _ => bad) := by
  refine PI.weak (pi_z3 hgl hm (pa_cons he (pa_cons he2 (pa_cons he3 pa_nil hs3) hs2) hs) hs hpl) fun σ H R ⟨r, env, m, c⟩ => ⟨r, env, m, c.bnd.mono ?_⟩
  rintro v H1 ⟨r1, d, m1, x1, t1, _, c1⟩
  refine ⟨r1, env, m1, c1.bnd.mono ?_⟩
  rintro w H2 ⟨r2, d2, m2, x2, t2, _, c2⟩
  refine ⟨r2, env, m2, c2.bnd.mono ?_⟩
  rintro u H3 ⟨r3, d3, m3, x3, t3, _, c3⟩
  have k := x2.toKp c1.1
  have k2 := x3.toKp c2.1
  cases d with
  | tup xs =>
    cases d2 with
    | tup ys =>
      cases d3 with
      | tup zs =>
        obtain ⟨a, vs, rfl, q, t⟩ := t1
        obtain ⟨b, ws, rfl, q2, t2⟩ := t2
        obtain ⟨c', us, rfl, q3, t3⟩ := t3
        exact ⟨a, b, c', vs, ws, us, rfl, hg ▸ SqT.kp k2 (SqT.kp k q), hg ▸ SqT.kp k2 q2, hg ▸ q3, c3.2.2 r3 H3 _ (Ext.refl _ _) c3.1 (hg ▸ Wk.zip3 c3.1 (SqT.kp k2 (SqT.kp k q)) (Rps.kp k2 _ _ (Rps.kp k _ _ t)) (SqT.kp k2 q2) (Rps.kp k2 _ _ t2) q3 t3)⟩
      | _ => exact c3.2.2.elim
    | _ => exact c3.2.2.elim
  | _ => exact c3.2.2.elim
end
end Dh



set_option Elab.async false
set_option linter.all false
set_option maxRecDepth 100000
set_option maxHeartbeats 4000000
/-! DhRev: x[::-1] of a tuple or a list. -/
namespace Dh
open PySem PySem.Spec PyProof.Rows L2 HT
section
variable {prog : Program} {w : World} {A : Around} {E : Value → Shared → Prop} {s : Shared}
theorem adj_rev (n : Nat) : Builtin.Slice.sliceAdjust none none (-1) (n : Int) = ((n : Int) - 1, -1) := rfl
theorem places_rev (n : Nat) : Builtin.Slice.slicePlaces ((n : Int) - 1) (-1) (-1) = n := by
  unfold Builtin.Slice.slicePlaces
  have h1 : ¬ ((-1 : Int) > 0) := by decide
  simp only [h1, if_false]
  by_cases h : (n : Int) - 1 > -1
  · rw [if_pos h, show (- -1 : Int) = 1 by decide, Int.ediv_one]
    omega
  · rw [if_neg h]
    omega
theorem applied_rev {sl : Addr} {vs : Value} {n : Nat} {Q : Int × Int × Nat → Shared → Prop} (hs : s.heap.IsSliceOf sl .none .none vs) (ps : IsPart vs (some (-1)))
    (h : Q ((n : Int) - 1, -1, n) s) : wpAny (model prog w) A (Builtin.Slice.sliceApplied (.ref sl) (pure (n : Int))) Q E s := by
  obtain ⟨os, hos, hcs, hds⟩ := id hs
  unfold Builtin.Slice.sliceApplied Builtin.Slice.sliceFields
  refine wpAny_bind (wpAny_bind (wpAny_field hos hds (x := .none) rfl (wpAny_bind (wpAny_field hos hds (x := .none) rfl (wpAny_bind (wpAny_field hos hds (x := vs) rfl (wpAny_pure ?_)))))))
  refine wpAny_bind (HT.slicePart_ ps ?_)
  show wpAny _ _ (if ((-1 : Int) == 0) = true then _ else _) _ _ s
  rw [if_neg (by decide)]
  refine wpAny_bind (HT.slicePart_ .none (wpAny_bind (HT.slicePart_ .none (wpAny_bind (wpAny_pure ?_)))))
  show wpAny _ _ (match Builtin.Slice.sliceAdjust none none (-1) (n : Int) with | (lo, hi) => pure (lo, (-1 : Int), Builtin.Slice.slicePlaces lo hi (-1))) _ _ s
  rw [adj_rev]
  show wpAny _ _ (pure ((n : Int) - 1, (-1 : Int), Builtin.Slice.slicePlaces ((n : Int) - 1) (-1) (-1))) _ _ s
  rw [places_rev]
  exact wpAny_pure h
theorem pick_rev (xs : Array Value) : ((List.range xs.size).filterMap fun (k : Nat) => xs[(((xs.size : Int) - 1) + (k : Int) * (-1)).toNat]?).toArray = xs.toList.reverse.toArray := by
  congr 1
  have e : (List.range xs.size).filterMap (fun (k : Nat) => xs[(((xs.size : Int) - 1) + (k : Int) * (-1)).toNat]?) = ((List.range xs.size).map (fun k => xs.size - 1 - k)).filterMap (xs[·]?) := by
    have e1 : (List.range xs.size).filterMap (fun (k : Nat) => xs[(((xs.size : Int) - 1) + (k : Int) * (-1)).toNat]?) = ((List.range xs.size).map (fun (k : Nat) => (((xs.size : Int) - 1) + (k : Int) * (-1)).toNat)).filterMap (xs[·]?) := by
      rw [List.filterMap_map]
      rfl
    rw [e1]
    congr 1
    refine List.map_congr_left fun k hk => ?_
    have := List.mem_range.mp hk
    omega
  rw [e, PySem.W.krv_range, List.filterMap_reverse, PySem.W.krv_all]
theorem getItem_tuple_rev {t sl : Addr} {items : Array Value} {vs : Value} {Q : Value → Shared → Prop} (ht : IsTup s.heap t items) (hs : s.heap.IsSliceOf sl .none .none vs) (ps : IsPart vs (some (-1)))
    (h : Q (.ref s.heap.objs.size) { s with heap := s.heap.push { cls := .type "tuple", data := .seq items.toList.reverse.toArray } })
    (hsz : items.size ≤ sizeLine) : wpAny (model prog w) A (getItem (.ref t) (.ref sl)) Q E s := by
  have htake : sizeOk (.seq items.toList.reverse.toArray) := by
    show items.toList.reverse.toArray.size ≤ sizeLine
    rw [List.size_toArray, List.length_reverse, Array.length_toList]
    exact hsz
  obtain ⟨os, hos, hcs, hds⟩ := id hs
  have hTs : s.TypeIs (.ref sl) "slice" := ⟨os, hos, hcs⟩
  unfold getItem
  try with_reducible refine wpAny_holding ?_
  first | refine wpAny_bind (wpAny_pure ?_) | skip
  refine wpAny_bind (wpAny_sequenceKey ht.typeIs (by decide) ?_)
  refine wpAny_bind (wpAny_callSpecial?_slot (name := Str.ofString "__getitem__") ht.typeIs PyProof.Rows.slot_tuple_getitem
    (wpAny_call_entry PyProof.Rows.slot_tuple_getitem ht.typeIs entry_tuple_getitem ?_ (args_tuple_getitem _ _)))
  show wpAny _ _ (Builtin.Tuple.tupleItemsOf (.ref t) >>= _) _ _ s
  refine wpAny_bind (tupleItemsOf_ ht ?_)
  refine wpAny_bind (wpAny_typeOf hTs ?_)
  rw [if_pos (by decide)]
  refine wpAny_bind (applied_rev hs ps ?_)
  have hno : ¬ ((((items.size : Int) - 1) == 0 && (-1 : Int) == 1 && items.size == items.size) = true) := by
    intro q
    rw [Bool.and_eq_true, Bool.and_eq_true] at q
    have q1 : (-1 : Int) = 1 := eq_of_beq q.1.2
    cases q1
  show wpAny _ _ (if (((items.size : Int) - 1) == 0 && (-1 : Int) == 1 && items.size == items.size) = true then _ else _) _ _ s
  rw [if_neg hno, pick_rev]
  first
    | exact wpAny_bind (m := Builtin.Tuple.tupleExact _) (wpAny_newObj_type (wpAny_pure ⟨_, rfl, wpAny_pure h⟩) htake)
    | exact wpAny_bind (m := Builtin.Tuple.tupleExact _) (wpAny_newObj_type (wpAny_bind (wpAny_pure (wpAny_pure ⟨_, rfl, wpAny_pure h⟩))) htake)
    | exact wpAny_bind (wpAny_bind (m := Builtin.Tuple.tupleExact _) (wpAny_newObj_type (wpAny_pure (wpAny_pure ⟨_, rfl, wpAny_pure h⟩)) htake))
    | exact wpAny_bind (wpAny_bind (m := Builtin.Tuple.tupleExact _) (wpAny_newObj_type (wpAny_pure ⟨_, rfl, wpAny_pure h⟩) htake))
end
def tRevA (K : Frag) (te : L2.TE) : L2.TE := fun σ H Q => te σ H fun x H1 => ∃ a xs, x = .ref a ∧ ((SqL K H1 a xs ∧ ∀ p, H1 p = none → Q (.ref p) (upd H1 p (.lst xs.reverse))) ∨ (SqT K H1 a xs ∧ ∀ p, H1 p = none → Q (.ref p) (upd H1 p (.tup xs.reverse))))
section
variable {X : Cx} {g : Gd} {e : Expr} {n : Env → M D}
theorem pe_revA {te : L2.TE} {k : Nat} {p1 p2 p3 pos : Pos} (he : PE X e te) : PE X (.Subscript e (.Slice none none (some (.UnaryOp .USub (.Constant (.int 1) k p1) p2)) p3) pos) (tRevA X.K te) := by
  refine ⟨fun pins s σ H Q I h => ?_⟩
  refine Subscript_ (thn (he.run pins s σ H _ I h) fun v s1 ⟨x, H1, I1, r1, q1⟩ => ?_)
  obtain ⟨a, xs, ex, q⟩ := q1
  subst ex
  cases r1
  have hst : PO X (some (.UnaryOp .USub (.Constant (.int 1) k p1) p2)) (tPart (tUn (rU fun i => .int (-i)) (tC (.int 1)))) := po_some (pe_un un_neg pe_int)
  refine wpAny_Slice (thn (po_none.run pins s1 σ H1 (fun o H2 => o = none ∧ H2 = H1) I1 ⟨rfl, rfl⟩) fun vl s2 ⟨l, H2, I2, pl, el, e2⟩ => ?_)
  subst el e2
  refine thn (po_none.run pins s2 σ H2 (fun o H3 => o = none ∧ H3 = H2) I2 ⟨rfl, rfl⟩) fun vu s3 ⟨u, H3, I3, pu, eu, e3⟩ => ?_
  subst eu e3
  refine thn (hst.run pins s3 σ H3 (fun o H4 => o = some (-1) ∧ H4 = H3) I3 ⟨1, rfl, -1, rfl, rfl, rfl⟩) fun vs s4 ⟨o, H4, I4, ps, eo, e4⟩ => ?_
  subst eo e4
  have I5 : Inv X pins σ H4 { s4 with heap := s4.heap.push { cls := .type "slice", data := .fields #[vl, vu, vs] } } := I4.kept (t' := s4.toks) fun b ob q => Heap.get?_push_of_some _ q
  show wpAny (model X.prog X.w) X.A (subscriptTail e (.Slice none none (some (.UnaryOp .USub (.Constant (.int 1) k p1) p2)) p3) (.ref a) (.ref s4.heap.objs.size)) (EP X pins σ Q) X.xe { s4 with heap := s4.heap.push { cls := .type "slice", data := .fields #[vl, vu, vs] } }
  rcases q with ⟨hx, q⟩ | ⟨hx, q⟩
  · obtain ⟨its, r, ht, hz⟩ := I5.list hx
    have hlen := r.length
    refine tail_any (ops := [.ref a, .ref s4.heap.objs.size]) ht.isList.typeIs (PySem.slot_list_getitem.lookup) ?_ (by with_unfolding_all rfl)
    refine wpAny_getItem_list_slice ht.isList (Heap.IsSliceOf.new _ vl vu vs) pl pu ps (by decide) ?_ (by rw [List.size_toArray]; omega)
    rw [PySem.W.krv_pick]
    refine ⟨.ref _, _, I5.laid (t' := s4.toks) (o := .lst xs.reverse) (fun b ob q => Heap.get?_push_of_some _ q) (Nat.le_refl _) ?_, rfl, q _ (I5.hok.fresh (Nat.le_refl _))⟩
    exact ⟨by rw [List.length_reverse]; exact hz, _, 0, r.reverse, Heap.get?_push_size _ rfl⟩
  · obtain ⟨its, r, ht, hz⟩ := I5.tuple hx
    have hlen := r.length
    cases pl
    cases pu
    refine tail_any (ops := [.ref a, .ref s4.heap.objs.size]) ht.typeIs (PyProof.Rows.slot_tuple_getitem.lookup) ?_ (by with_unfolding_all rfl)
    refine getItem_tuple_rev ht (Heap.IsSliceOf.new _ .none .none vs) ps ?_ (by rw [List.size_toArray]; omega)
    refine ⟨.ref _, _, I5.laid (t' := s4.toks) (o := .tup xs.reverse) (fun b ob q => Heap.get?_push_of_some _ q) (Nat.le_refl _) ?_, rfl, q _ (I5.hok.fresh (Nat.le_refl _))⟩
    exact ⟨by rw [List.length_reverse]; exact hz, _, r.reverse, IsTup.new _ _⟩
theorem Rps.rev {K : Frag} {r : List Addr} {H : Hp} : ∀ {ds : List D} {vs : List V}, Rps K r H ds vs → Rps K r H ds.reverse vs.reverse
  | [], _, h => by rw [show _ = [] from h]; rfl
  | d :: ds, _, ⟨v, w, e, h, t⟩ => by
    rw [e, List.reverse_cons, List.reverse_cons]
    exact Rps.app (Rps.rev t) (Rps.one h)
theorem se_rev {k : Nat} {p1 p2 p3 pos : Pos} (hg : g.K = X.K) (he : PE X e (tOf g n)) :
    PE X (.Subscript e (.Slice none none (some (.UnaryOp .USub (.Constant (.int 1) k p1) p2)) p3) pos) (tRaw g fun env => bnd (n env) fun x => fun m => ofO (revD m x) m) := by
  refine PE.weak (pe_revA he) fun σ H Q ⟨r, env, m, c⟩ => ⟨r, env, m, c.bnd.mono fun v H1 ⟨r1, d, m1, x1, t1, _, c1⟩ => ?_⟩
  have z := c1.2.2
  dsimp only at z
  cases hs : revD m1 d with
  | none =>
    rw [hs] at z
    exact z.elim
  | some o =>
    rw [hs] at z
    have fin : ∀ r' H' b, Ext r1 H1 r' H' → StoOk g.K r' H' m1 → Rf g.K H r' H' o b → Q b H' := z
    unfold revD at hs
    split at hs
    · cases hs
      rename_i ds
      obtain ⟨a, vs, e, q, t⟩ := t1
      exact ⟨a, vs, e, .inr ⟨hg ▸ q, fun p hp => fin r1 _ _ (Ext.new hp) (c1.1.new hp) (.inl ⟨p, _, rfl, SqT.of upd_same, Rps.kp (Kp.new hp) _ _ t.rev⟩)⟩⟩
    · obtain ⟨ds, hs', e⟩ := Option.map_eq_some_iff.mp hs
      subst e
      obtain ⟨a, vs, e1, q, t⟩ := c1.1.lseq t1 hs'
      exact ⟨a, vs, e1, .inl ⟨hg ▸ q, fun p hp => fin r1 _ _ (Ext.new hp) (c1.1.new hp) (.inr ⟨_, p, _, rfl, rfl, upd_same, c1.1.fresh hp, Rps.kp (Kp.new hp) _ _ t.rev, x1.gone c.1 c1.1 hp⟩)⟩⟩
end
end Dh


set_option Elab.async false
set_option linter.all false
set_option maxRecDepth 100000
set_option maxHeartbeats 4000000
/-! DhChk: does the own syntax tell a piece of the program? -/
namespace Dh
open PySem PySem.Spec PyProof.Rows L2

/-! ### names -/
def nEq : List Nat → List Nat → Bool
  | [], [] => true
  | a :: l, b :: r => if Nat.beq a b then nEq l r else false
  | _, _ => false
theorem nEq_iff : ∀ {a b : List Nat}, nEq a b = true → a = b
  | [], [], _ => rfl
  | [], _ :: _, h => by cases h
  | _ :: _, [], h => by cases h
  | a :: l, b :: r, h => by
    rw [nEq] at h
    split at h
    · rename_i e
      rw [Nat.eq_of_beq_eq_true e, nEq_iff h]
    · cases h
theorem nEq_self : ∀ a : List Nat, nEq a a = true
  | [] => rfl
  | a :: l => by rw [nEq, if_pos (Nat.beq_refl a), nEq_self l]
def sEq (x : Str) (l : List Nat) : Bool := nEq x.cps.toList l
theorem sEq_iff {x : Str} {l : List Nat} (h : sEq x l = true) : x = txt l := by
  have e := nEq_iff h
  rw [← e]
def look : List (Str × NameKind) → List Nat → Option NameKind
  | [], _ => none
  | (n, k) :: r, x => if nEq n.cps.toList x then some k else look r x
theorem look_eq : ∀ (ns : List (Str × NameKind)) (x : Str), look ns x.cps.toList = ns.lookup x
  | [], x => rfl
  | (n, k) :: r, x => by
    rw [look, List.lookup]
    by_cases e : n = x
    · subst e
      rw [if_pos (nEq_self _), beq_self_eq_true]
    · have h1 : nEq n.cps.toList x.cps.toList = false := by
        cases q : nEq n.cps.toList x.cps.toList with
        | false => rfl
        | true =>
          have z := nEq_iff q
          exact (e (by rw [← Str.self n, ← Str.self x, z])).elim
      have h2 : (x == n) = false := beq_eq_false_iff_ne.mpr fun z => e z.symm
      rw [h1, h2]
      exact look_eq r x
def kEq : NameKind → NameKind → Bool
  | .local, .local => true
  | .cell, .cell => true
  | .free, .free => true
  | .globalExplicit, .globalExplicit => true
  | .globalImplicit, .globalImplicit => true
  | _, _ => false
theorem kEq_iff {a b : NameKind} (h : kEq a b = true) : a = b := by cases a <;> cases b <;> first | rfl | cases h
def kIs (k : NameKind) : Option NameKind → Bool
  | some a => kEq a k
  | none => false
theorem kIs_iff {k : NameKind} {o : Option NameKind} (h : kIs k o = true) : o = some k := by
  cases o with
  | none => cases h
  | some a => rw [kEq_iff h]

/-- a def of the program: name, parameters, called by keywords too -/
structure Sig where
  nm : List Nat
  ps : List (List Nat)
  kw : Bool
/-- what is known where an expression stands -/
structure Ctx where
  N : List (List Nat)
  sc : Scope
  own : Option Scope
  fs : List Sig
  gs : List (List Nat × D)
def Ctx.fn (c : Ctx) (x : Str) : Bool := match c.own with
  | none => true
  | some s => s.names.lookup x == some .cell
def ixOf : List (List Nat) → List Nat → Nat → Option Nat
  | [], _, _ => none
  | a :: r, x, i => if nEq a x then some i else ixOf r x (i + 1)
def slotIs (c : Ctx) (i : Nat) (x : Str) : Bool := match c.N[i]? with
  | some l => sEq x l
  | none => false
def kindOfS (c : Ctx) (x : Str) : Option NameKind := look c.sc.names x.cps.toList
def visS (c : Ctx) (x : Str) : Bool := match kindOfS c x with
  | some .local => true
  | some .cell => true
  | some .free => true
  | _ => false
def globS (c : Ctx) (x : Str) : Bool := kIs .globalImplicit (kindOfS c x)
def odd1 : List Nat := [95, 95, 100, 101, 98, 117, 103, 95, 95]
def odd2 : List Nat := [95, 95, 99, 108, 97, 115, 115, 100, 105, 99, 116, 95, 95]
def odd3 : List Nat := [95, 95, 110, 97, 109, 101, 95, 95]
/-- not one of the odd names -/
def calmName (x : Str) : Bool := !(sEq x odd1) && !(sEq x odd2) && !(sEq x odd3)
theorem sEq_txt {x : Str} {l : List Nat} (h : sEq x l = false) : x ≠ txt l := fun e => by
  rw [e] at h
  have z : sEq (txt l) l = true := nEq_self l
  rw [z] at h
  cases h
theorem calm_ok {x : Str} (h : calmName x = true) : (x == ("__debug__" : Str)) = false ∧ (x == ("__classdict__" : Str)) = false ∧ x ≠ "__name__" := by
  unfold calmName at h
  simp only [Bool.and_eq_true, Bool.not_eq_true'] at h
  obtain ⟨⟨h1, h2⟩, h3⟩ := h
  have e1 : ("__debug__" : Str) = txt odd1 := by decide +kernel
  have e2 : ("__classdict__" : Str) = txt odd2 := by decide +kernel
  have e3 : ("__name__" : Str) = txt odd3 := by decide +kernel
  rw [e1, e2, e3]
  exact ⟨beq_eq_false_iff_ne.mpr (sEq_txt h1), beq_eq_false_iff_ne.mpr (sEq_txt h2), sEq_txt h3⟩

/-! ### forms of expressions -/
def isStar : Expr → Bool
  | .Starred .. => true
  | _ => false
def noStar (es : List Expr) : Bool := es.all fun e => !isStar e
theorem star_cons {e : Expr} {es : List Expr} {env : PySem.Env} (h : isStar e = false) : starEach (e :: es) env = (false, eval e env) :: starEach es env := by
  cases e <;> first | rfl | cases h
theorem star_any {es : List Expr} {env : PySem.Env} {pos : Pos} (h : noStar es = true) : (backTo pos (starEach es env)).any (·.1) = false := by
  induction es with
  | nil => rfl
  | cons e es ih =>
    unfold noStar at h ih
    rw [List.all_cons, Bool.and_eq_true] at h
    rw [star_cons (by simpa using h.1)]
    show (false || (backTo pos (starEach es env)).any (·.1)) = false
    rw [ih h.2]
    rfl
theorem asg_cons {e : Expr} {es : List Expr} {env : PySem.Env} (h : isStar e = false) : (assignEach (e :: es) env).map (·.2) = assign e env :: (assignEach es env).map (·.2) := by
  cases e <;> first | rfl | cases h
theorem asg_len {env : PySem.Env} : ∀ {es : List Expr}, (assignEach es env).length = es.length
  | [] => rfl
  | e :: es => by
    cases e <;> (show (assignEach es env).length + 1 = _; rw [asg_len]; rfl)
theorem asg_star {env : PySem.Env} : ∀ {es : List Expr}, noStar es = true → (assignEach es env).findIdx? (·.1) = none
  | [], _ => rfl
  | e :: es, h => by
    unfold noStar at h
    rw [List.all_cons, Bool.and_eq_true] at h
    have ih := asg_star (env := env) (es := es) h.2
    have e1 : ∃ t, assignEach (e :: es) env = (false, t) :: assignEach es env := by
      cases e <;> first | exact ⟨_, rfl⟩ | (exact absurd h.1 (by simp [isStar]))
    obtain ⟨t, e1⟩ := e1
    rw [e1, List.findIdx?_cons, ih]
    rfl
def isSlice : Expr → Bool
  | .Slice .. => true
  | _ => false
theorem plainIx_of {b : Expr} (h : isSlice b = false) : PlainIx b := by
  intro o i
  cases b <;> first | rfl | cases h
theorem sub_of {o i : Expr} {pos : Pos} {env : PySem.Env} (h : isSlice i = false) (v : Value) : assign (.Subscript o i pos) env v = (do
    let ov ← holding [v] (eval o env)
    let iv ← holding [v, ov] (eval i env)
    standAt pos
    holding [v, ov, iv] (setItem ov iv v)
    release [v, ov, iv] []) := by
  cases i <;> first | rfl | cases h
def isSet : Expr → Bool
  | .Set .. => true
  | _ => false
theorem behind_of {op : CmpOp} {b : Expr} (h : isSet b = false) : behindInMarks op b = false := by
  cases b <;> first | rfl | cases h
theorem folded_of {e : Expr} {env : PySem.Env} (h : isSet e = false) (x : Value) : foldedSetIterable e env x = pure x := by
  cases e <;> first | rfl | cases h
/-- super() -/
def isCall0 : Expr → Bool
  | .Call (.Name ..) [] [] _ => true
  | _ => false
theorem base_of {o : Expr} {a : Str} {env : PySem.Env} {t : Sem Value} (h : isCall0 o = false) : attributeBase o a env t = t := by
  unfold attributeBase
  split
  · cases h
  · rfl
def isTest : Expr → Bool
  | .UnaryOp .Not _ _ => true
  | .BoolOp .. => true
  | .IfExp .. => true
  | .Compare .. => true
  | _ => false
theorem test_of {e : Expr} {env : PySem.Env} (h : isTest e = false) (whole : Sem Value) : isTrue e env whole = (do let v ← whole; standAt e.pos; holding [v] (truthy v)) := by
  cases e with
  | UnaryOp op x p => cases op <;> first | rfl | cases h
  | BoolOp op vs p => cases h
  | IfExp a b c p => cases h
  | Compare a b c p => cases h
  | _ => rfl
/-! what turns on the scope alone -/
def dummy (sc : Scope) : PySem.Env := { (default : PySem.Env) with scope := sc }
theorem swaps_sc {v : Expr} {t : Option Expr} {l : Nat} {env : PySem.Env} : swapsWith v t l env = swapsWith v t l (dummy env.scope) := by
  unfold swapsWith
  rfl
theorem stores_sc {ts : List Expr} {v : Expr} {env : PySem.Env} : swappedStores ts v env = swappedStores ts v (dummy env.scope) := by
  unfold swappedStores
  rfl
def pureB : Sem Bool → Option Bool
  | .pure b => some b
  | _ => none
theorem pureB_iff {t : Sem Bool} {b : Bool} (h : pureB t = some b) : t = pure b := by
  cases t <;> first | (cases h; rfl) | cases h
inductive Sw where
  | no | some (ns : List Str) | odd
def pureS : Sem (Option (List Str)) → Sw
  | .pure none => .no
  | .pure (some ns) => .some ns
  | _ => .odd
theorem pureS_no {t : Sem (Option (List Str))} (h : pureS t = .no) : t = pure none := by
  cases t with
  | pure a => cases a with
    | none => rfl
    | some ns => cases h
  | _ => cases h
theorem pureS_some {t : Sem (Option (List Str))} {ns : List Str} (h : pureS t = .some ns) : t = pure (some ns) := by
  cases t with
  | pure a => cases a with
    | none => cases h
    | some ns =>
      cases h
      rfl
  | _ => cases h
end Dh


set_option Elab.async false
set_option linter.all false
set_option maxRecDepth 100000
set_option maxHeartbeats 4000000
/-! DhChk2: the check of expressions, and what it is about. -/
namespace Dh
open PySem PySem.Spec PyProof.Rows L2

mutual
def dEq : D → D → Bool
  | .non, .non => true
  | .bl a, .bl b => a == b
  | .int i, .int j => decide (i = j)
  | .str s, .str t => nEq s t
  | .tup s, .tup t => dEqs s t
  | .lst s, .lst t => dEqs s t
  | .edict, .edict => true
  | _, _ => false
def dEqs : List D → List D → Bool
  | [], [] => true
  | a :: l, b :: r => if dEq a b then dEqs l r else false
  | _, _ => false
end
mutual
theorem dEq_iff : ∀ (a b : D), dEq a b = true → a = b
  | .non, b, h => by cases b <;> first | rfl | cases h
  | .bl x, b, h => by
    cases b with
    | bl y => rw [show x = y from by simpa [dEq] using h]
    | _ => cases h
  | .int x, b, h => by
    cases b with
    | int y => rw [show x = y from by simpa [dEq] using h]
    | _ => cases h
  | .str x, b, h => by
    cases b with
    | str y => rw [nEq_iff h]
    | _ => cases h
  | .tup x, b, h => by
    cases b with
    | tup y => rw [dEqs_iff x y h]
    | _ => cases h
  | .lst x, b, h => by
    cases b with
    | lst y => rw [dEqs_iff x y h]
    | _ => cases h
  | .edict, b, h => by cases b <;> first | rfl | cases h
  | .loc n, b, h => by cases b <;> cases h
theorem dEqs_iff : ∀ (a b : List D), dEqs a b = true → a = b
  | [], b, h => by cases b <;> first | rfl | cases h
  | x :: a, b, h => by
    cases b with
    | nil => cases h
    | cons y b =>
      rw [dEqs] at h
      split at h
      · rename_i e
        rw [dEq_iff x y e, dEqs_iff a b h]
      · cases h
end
def isFn : ScopeKind → Bool
  | .function => true
  | _ => false
/-- the scope of a comprehension's block within another one -/
def relQ (scope sc : Scope) : Scope := { scope with names := scope.names.map fun p => if kEq p.2 .free && isFn sc.kind && kIs .cell (look sc.names p.1.cps.toList) then (p.1, .cell) else p }
theorem relQ_eq {scope sc : Scope} : relQ scope sc = relS scope sc := by
  unfold relQ relS
  congr 1
  refine List.map_congr_left fun p _ => ?_
  obtain ⟨n, k⟩ := p
  have e1 : kEq k .free = (k == .free) := by cases k <;> rfl
  have e2 : isFn sc.kind = (sc.kind == .function) := by cases sc.kind <;> rfl
  have e3 : kIs .cell (look sc.names n.cps.toList) = (sc.names.lookup n == some .cell) := by
    rw [look_eq]
    cases sc.names.lookup n with
    | none => rfl
    | some k => cases k <;> rfl
  simp only [e1, e2, e3]
def Ctx.blk (c : Ctx) (scope : Scope) : Ctx := { c with sc := relQ scope c.sc, own := some scope }

/-! ### operators, built-ins by name -/
def opIs : Bop → Operator → Bool
  | .add, .Add => true
  | .sub, .Sub => true
  | .mul, .Mult => true
  | .fdiv, .FloorDiv => true
  | .mod, .Mod => true
  | .pow, .Pow => true
  | _, _ => false
def copIs : Cop → CmpOp → Bool
  | .eq, .Eq => true
  | .ne, .NotEq => true
  | .lt, .Lt => true
  | .le, .LtE => true
  | .gt, .Gt => true
  | .ge, .GtE => true
  | .isin, .In => true
  | .notin, .NotIn => true
  | .isN, .Is => true
  | .isnotN, .IsNot => true
  | _, _ => false
def bname : Bf → List Nat
  | .abs => [97, 98, 115]
  | .all => [97, 108, 108]
  | .any => [97, 110, 121]
  | .divmod => [100, 105, 118, 109, 111, 100]
  | .gcd => [103, 99, 100]
  | .int => [105, 110, 116]
  | .len => [108, 101, 110]
  | .max2 => [109, 97, 120]
  | .min2 => [109, 105, 110]
  | .repr => [114, 101, 112, 114]
  | .str => [115, 116, 114]
  | .sum => [115, 117, 109]
  | .tuple => [116, 117, 112, 108, 101]
  | _ => []
def tname : Ty → List Nat
  | .int => [105, 110, 116]
  | .bool => [98, 111, 111, 108]
  | .tuple => [116, 117, 112, 108, 101]
  | .str => [115, 116, 114]
  | .list => [108, 105, 115, 116]
  | .dict => [100, 105, 99, 116]
def frees : List (List Nat) := [[97, 98, 115], [97, 108, 108], [97, 110, 121], [98, 111, 111, 108], [100, 105, 99, 116], [100, 105, 118, 109, 111, 100], [101, 110, 117, 109, 101, 114, 97, 116, 101], [105, 110, 116], [105, 115, 105, 110, 115, 116, 97, 110, 99, 101], [108, 101, 110], [108, 105, 115, 116], [109, 97, 120], [109, 105, 110], [114, 97, 110, 103, 101], [114, 101, 112, 114], [115, 101, 116], [115, 111, 114, 116, 101, 100], [115, 116, 114], [115, 117, 109], [116, 117, 112, 108, 101], [122, 105, 112]]
def n_append : List Nat := [97, 112, 112, 101, 110, 100]
def n_join : List Nat := [106, 111, 105, 110]
def n_isdigit : List Nat := [105, 115, 100, 105, 103, 105, 116]
def n_isinstance : List Nat := [105, 115, 105, 110, 115, 116, 97, 110, 99, 101]
def n_list : List Nat := [108, 105, 115, 116]
def n_sorted : List Nat := [115, 111, 114, 116, 101, 100]
def n_set : List Nat := [115, 101, 116]
def n_len : List Nat := [108, 101, 110]
def n_range : List Nat := [114, 97, 110, 103, 101]
def n_enumerate : List Nat := [101, 110, 117, 109, 101, 114, 97, 116, 101]
def n_zip : List Nat := [122, 105, 112]
/-! ### the check -/
def chkC (c : Ctx) : D → Expr → Bool
  | .int i, .Constant (.int j) _ _ => decide (i = j)
  | .str s, .Constant (.str x) _ _ => sEq x s
  | .bl a, .Constant (.bool b) _ _ => a == b
  | .non, .Constant .none _ _ => true
  | d, .Name x _ => globS c x && calmName x && c.gs.any fun p => sEq x p.1 && dEq p.2 d
  | _, _ => false
/-- a name of the built-ins -/
def bltS (c : Ctx) (x : Str) (l : List Nat) : Bool := sEq x l && globS c x
def ownOf (N : List (List Nat)) (names : List (Str × NameKind)) : List (Str × Nat) := names.filterMap fun p => match p.2 with
  | .local => (ixOf N p.1.cps.toList 0).map fun i => (p.1, i)
  | .cell => (ixOf N p.1.cps.toList 0).map fun i => (p.1, i)
  | _ => none
def blkB (c : Ctx) (scope : Scope) : Bool := isFn scope.kind && scope.names.all fun y => kIs y.2 (look scope.names y.1.cps.toList) && (match y.2 with
  | .free => (match look c.sc.names y.1.cps.toList with
    | some .cell => true
    | some .free => true
    | _ => false)
  | .local => (ownOf c.N scope.names).any (fun p => sEq p.1 y.1.cps.toList && slotIs c p.2 p.1) || !(c.N.any fun l => nEq l y.1.cps.toList)
  | .cell => (ownOf c.N scope.names).any (fun p => sEq p.1 y.1.cps.toList && slotIs c p.2 p.1) || !(c.N.any fun l => nEq l y.1.cps.toList)
  | _ => true) && (ownOf c.N scope.names).all fun p => slotIs c p.2 p.1
mutual
def T.nm : T → List Nat
  | .name i => [i]
  | .sub _ _ => []
  | .tup ts => Ts.nm ts
def Ts.nm : Ts → List Nat
  | .nil => []
  | .cons t ts => T.nm t ++ Ts.nm ts
end
mutual
/-- names alone -/
def T.only : T → Bool
  | .name _ => true
  | .sub _ _ => false
  | .tup ts => Ts.only ts
def Ts.only : Ts → Bool
  | .nil => true
  | .cons t ts => T.only t && Ts.only ts
end
def Ts.len : Ts → Nat
  | .nil => 0
  | .cons _ ts => Ts.len ts + 1
def Es.len : Es → Nat
  | .nil => 0
  | .cons _ es => Es.len es + 1
def isRaw : E → Bool
  | .lst _ => true
  | .listOf _ => true
  | .sortOf _ => true
  | .rep _ _ => true
  | .comp _ _ _ _ => true
  | .cat _ _ => true
  | _ => false
/-- may stand as a test -/
def tst : E → Bool
  | .and a b => tst a && tst b
  | .or a b => tst a && tst b
  | .not a => tst a
  | .ite _ _ _ => false
  | _ => true
def nMem (i : Nat) : List Nat → Bool
  | [] => false
  | j :: r => if Nat.beq i j then true else nMem i r
/-- a comprehension's block and its target -/
def compB2 (c : Ctx) (scope : Scope) (t : T) : Bool := blkB c scope && T.only t && (ownOf c.N scope.names).all (fun p => nMem p.2 (T.nm t)) && (T.nm t).all fun i => (ownOf c.N scope.names).any fun p => Nat.beq p.2 i
def isEd : D → Bool
  | .edict => true
  | _ => false
def isDict0 : Expr → Bool
  | .Dict [] [] _ => true
  | _ => false
mutual
def chkE (c : Ctx) : E → Expr → Bool
  | .var i, x => (match x with
    | .Name n _ => slotIs c i n && visS c n && calmName n
    | _ => false)
  | .cst d, x => if isEd d then isDict0 x else chkC c d x
  | .tup es, x => (match x with
    | .Tuple l _ _ => chkEs c es l && Nat.ble l.length 1000
    | _ => false)
  | .lst es, x => (match x with
    | .List l _ => chkEs c es l && Nat.ble l.length 1000
    | _ => false)
  | .new e, x => isRaw e && chkE c e x
  | .bin o a b, x => (match x with
    | .BinOp l op r _ => opIs o op && chkE c a l && chkE c b r
    | _ => false)
  | .neg a, x => (match x with
    | .UnaryOp .USub y _ => chkE c a y
    | _ => false)
  | .cmp o a b, x => (match x with
    | .Compare l [op] [r] _ => copIs o op && !isSet r && chkE c a l && chkE c b r
    | _ => false)
  | .chn o p a b d, x => (match x with
    | .Compare l [op, op2] [r, r2] _ => copIs o op && copIs p op2 && !isSet r2 && chkE c a l && chkE c b r && chkE c d r2
    | _ => false)
  | .and a b, x => (match x with
    | .BoolOp .And (l :: r :: rest) p => chkE c a l && (match rest with
      | [] => chkE c b r
      | s :: rest => chkE c b (.BoolOp .And (r :: s :: rest) p))
    | _ => false)
  | .or a b, x => (match x with
    | .BoolOp .Or (l :: r :: rest) p => chkE c a l && (match rest with
      | [] => chkE c b r
      | s :: rest => chkE c b (.BoolOp .Or (r :: s :: rest) p))
    | _ => false)
  | .not a, x => (match x with
    | .UnaryOp .Not y _ => chkE c a y
    | _ => false)
  | .ite d a b, x => (match x with
    | .IfExp y l r _ => tst d && chkE c d y && chkE c a l && chkE c b r
    | _ => false)
  | .idx a i, x => (match x with
    | .Subscript l r _ => !isSlice r && chkE c a l && chkE c i r
    | _ => false)
  | .sl a lo hi, x => (match x with
    | .Subscript l (.Slice y z none _) _ => chkE c a l && (match y with
      | none => isNop lo
      | some y => !isNop lo && chkE c lo y) && (match z with
      | none => isNop hi
      | some z => !isNop hi && chkE c hi z)
    | _ => false)
  | .call f es, x => (match x with
    | .Call (.Name n _) args kws _ => (match c.fs[f]? with
      | some s => sEq n s.nm && globS c n && calmName n && (match kws with
        | [] => chkEs c es args && Nat.beq args.length s.ps.length
        | _ :: _ => (match args with
          | [] => s.kw && chkKs c es kws s.ps
          | _ => false))
      | none => false)
    | _ => false)
  | .blt f es, x => (match f with
    | .isdigit => (match es with
      | .cons e .nil => (match x with
        | .Call (.Attribute o n ap) [] [] p => sEq n n_isdigit && !isCall0 o && Nat.beq ap.endLine p.line && chkE c e o
        | _ => false)
      | _ => false)
    | .join => (match es with
      | .cons (.cst (.str a)) (.cons e2 .nil) => (match x with
        | .Call (.Attribute (.Constant (.str v) _ _) n ap) [y] [] p => sEq v a && sEq n n_join && !isStar y && Nat.beq ap.endLine p.line && chkE c e2 y
        | _ => false)
      | _ => false)
    | .lenset => (match es with
      | .cons e .nil => (match x with
        | .Call (.Name n _) [.Call (.Name n2 _) [y] [] _] [] _ => bltS c n n_len && bltS c n2 n_set && !isStar y && chkE c e y
        | _ => false)
      | _ => false)
    | f => (match x with
      | .Call (.Name n _) (y :: args) [] _ => bltS c n (bname f) && chkEs c es (y :: args)
      | _ => false))
  | .isa t e, x => (match x with
    | .Call (.Name n _) [y, .Name n2 _] [] _ => bltS c n n_isinstance && bltS c n2 (tname t) && !isStar y && chkE c e y
    | _ => false)
  | .listOf e, x => (match x with
    | .Call (.Name n _) [y] [] _ => bltS c n n_list && !isStar y && chkE c e y
    | _ => false)
  | .sortOf e, x => (match x with
    | .Call (.Name n _) [y] [] _ => bltS c n n_sorted && !isStar y && chkE c e y
    | _ => false)
  | .newd, x => isDict0 x
  | .rev e, x => (match x with
    | .Subscript l (.Slice none none (some (.UnaryOp .USub (.Constant (.int 1) _ _) _)) _) _ => chkE c e l
    | _ => false)
  | .rep a b, x => (match x with
    | .BinOp l .Mult r _ => isRaw a && chkE c a l && chkE c b r
    | _ => false)
  | .cat a b, x => (match x with
    | .BinOp l .Add r _ => chkE c a l && chkE c b r
    | _ => false)
  | .app o e, x => (match x with
    | .Call (.Attribute y n ap) [z] [] p => sEq n n_append && !isCall0 y && !isStar z && Nat.beq ap.endLine p.line && chkE c o y && chkE c e z
    | _ => false)
  | .nop, _ => false
  | .fstr es, x => (match x with
    | .JoinedStr (y :: z :: rest) _ => chkEs c es (y :: z :: rest)
    | _ => false)
  | .fv e, x => (match x with
    | .FormattedValue y (-1) none _ => chkE c e y
    | .JoinedStr [.FormattedValue y (-1) none _] _ => chkE c e y
    | _ => false)
  | .comp elt t it d, x => (match x with
    | .ListComp y [⟨tg, iter, ifs, 0⟩] scope _ => compB2 c scope t && chkI c it tg iter && chkTg (c.blk scope) t tg && (match ifs with
      | [] => (match d with
        | .cst (.bl true) => true
        | _ => false)
      | [z] => tst d && chkE (c.blk scope) d z
      | _ => false) && chkE (c.blk scope) elt y
    | _ => false)
def chkEs (c : Ctx) : Es → List Expr → Bool
  | .nil, l => (match l with
    | [] => true
    | _ => false)
  | .cons e es, l => (match l with
    | x :: l => !isStar x && chkE c e x && chkEs c es l
    | [] => false)
def chkKs (c : Ctx) : Es → List Keyword → List (List Nat) → Bool
  | .nil, l, ps => (match l, ps with
    | [], [] => true
    | _, _ => false)
  | .cons e es, l, ps => (match l, ps with
    | k :: l, p :: ps => (match k.arg with
      | some a => sEq a p
      | none => false) && chkE c e k.value && chkKs c es l ps
    | _, _ => false)
def chkI (c : Ctx) : I → Expr → Expr → Bool
  | .seq e, _, x => !isSet x && chkE c e x
  | .chars e, _, x => !isSet x && chkE c e x
  | .range es, _, x => (match x with
    | .Call (.Name n _) [a] [] _ => bltS c n n_range && chkEs c es [a]
    | .Call (.Name n _) [a, b] [] _ => bltS c n n_range && chkEs c es [a, b]
    | .Call (.Name n _) [a, b, e3] [] _ => bltS c n n_range && chkEs c es [a, b, e3]
    | _ => false)
  | .enum e, tg, x => (match tg with
    | .Tuple _ _ _ => (match x with
      | .Call (.Name n _) [a] [] _ => bltS c n n_enumerate && !isStar a && chkE c e a
      | _ => false)
    | _ => false)
  | .zip a b, tg, x => (match tg with
    | .Tuple _ _ _ => (match x with
      | .Call (.Name n _) [y, z] [] _ => bltS c n n_zip && !isStar y && !isStar z && chkE c a y && chkE c b z
      | _ => false)
    | _ => false)
  | .zip3 a b d, tg, x => (match tg with
    | .Tuple _ _ _ => (match x with
      | .Call (.Name n _) [y, z, u] [] _ => bltS c n n_zip && !isStar y && !isStar z && !isStar u && chkE c a y && chkE c b z && chkE c d u
      | _ => false)
    | _ => false)
def chkTg (c : Ctx) : T → Expr → Bool
  | .name i, x => (match x with
    | .Name n _ => slotIs c i n && (match kindOfS c n with
      | some .local => true
      | some .cell => c.fn n
      | _ => false)
    | _ => false)
  | .sub a i, x => (match x with
    | .Subscript y z _ => !isSlice z && chkE c a y && chkE c i z
    | _ => false)
  | .tup ts, x => (match x with
    | .Tuple l _ _ => noStar l && chkTgs c ts l
    | _ => false)
def chkTgs (c : Ctx) : Ts → List Expr → Bool
  | .nil, l => (match l with
    | [] => true
    | _ => false)
  | .cons t ts, l => (match l with
    | x :: l => chkTg c t x && chkTgs c ts l
    | [] => false)
end
/-! ### where it stands -/
structure Site (c : Ctx) (F : Fn) (k : Nat) (X : Cx) (g : Gd) : Prop where
  hg : g.K = X.K
  calm : X.calm = true
  nd : X.N.Nodup
  N : X.N = c.N.map txt
  sc : X.env.scope = c.sc
  fn : ∀ x, c.fn x = true → X.fn x = true
  room : Roomy k X.A
  tk : Takes X g.W
  free : ∀ l, l ∈ frees → X.mg (txt l) = none
  gcd : ∀ x, sEq x (bname .gcd) = true → X.mg x = some (.builtin "math.gcd")
  fs : ∀ (i : Nat) (s : Sig), c.fs[i]? = some s → ∃ f fd, X.mg (txt s.nm) = some (.ref f) ∧ PySem.W.keepIn X.K (.ref f) = true ∧ Binds X.K fd (s.ps.map txt) [] ∧ (s.kw = true → KwB X.K fd (s.ps.map txt)) ∧
    FnG X.prog X.w X.K X.mg X.base k f fd (s.ps.map txt) (spOf X.K g.X (s.ps.map txt).length (F i))
  gs : ∀ p, p ∈ c.gs → ∃ v u, X.mg (txt p.1) = some u ∧ RelV v u ∧ ∀ r H, Rp X.K r H p.2 v
theorem Site.units {c : Ctx} {F : Fn} {k : Nat} {X : Cx} {g : Gd} (S : Site c F k X g) : X.A.units + 100 < cLine := by
  have := S.room.room.un
  omega
theorem Site.blk {c : Ctx} {F : Fn} {k : Nat} {X : Cx} {g : Gd} (S : Site c F k X g) (s : Shared) (H : Hp) (scope : Scope) (C : Addr) (cl : List (Str × Addr)) (fp : List Addr) : Site (c.blk scope) F k (X.blk s H scope (compEnvC scope cl C X.env) fp) g.off where
  hg := S.hg
  calm := S.calm
  nd := S.nd
  N := S.N
  sc := by
    show relS scope X.env.scope = relQ scope c.sc
    rw [relQ_eq, S.sc]
  fn := fun x h => h
  room := S.room
  tk := fun u s' ⟨_, _, _, _, _, _, _, _, _, _, _, _, _, _, _, _, w⟩ => w.elim
  free := S.free
  gcd := S.gcd
  fs := S.fs
  gs := S.gs
section
variable {c : Ctx} {F : Fn} {k : Nat} {X : Cx} {g : Gd}
theorem Site.slot (S : Site c F k X g) {i : Nat} {x : Str} (h : slotIs c i x = true) : X.N[i]? = some x := by
  unfold slotIs at h
  rw [S.N, List.getElem?_map]
  cases e : c.N[i]? with
  | none =>
    rw [e] at h
    cases h
  | some l =>
    rw [e] at h
    rw [sEq_iff h]
    rfl
theorem Site.kind (S : Site c F k X g) (x : Str) : X.env.scope.names.lookup x = kindOfS c x := by
  rw [S.sc]
  exact (look_eq _ _).symm
theorem Site.vis (S : Site c F k X g) {x : Str} (h : visS c x = true) : Vis X.env.scope x := by
  unfold visS at h
  unfold Vis
  rw [S.kind x]
  split at h <;> first | (rename_i e; rw [e]; simp) | cases h
theorem Site.glob (S : Site c F k X g) {x : Str} (h : globS c x = true) : Gl X x := (S.kind x).trans (kIs_iff h)
theorem Site.blt (S : Site c F k X g) {x : Str} {l : List Nat} (h : bltS c x l = true) : x = txt l ∧ Gl X x := by
  unfold bltS at h
  rw [Bool.and_eq_true] at h
  exact ⟨sEq_iff h.1, S.glob h.2⟩
theorem blkB_ok (S : Site c F k X g) {scope : Scope} (h : blkB c scope = true) : BlkOk X.N X.env.scope scope (ownOf c.N scope.names) := by
  unfold blkB at h
  rw [Bool.and_eq_true, List.all_eq_true] at h
  obtain ⟨h1, h2⟩ := h
  have ixs : ∀ p ∈ ownOf c.N scope.names, X.N[p.2]? = some p.1 := by
    intro p hp
    obtain ⟨y, hy, _⟩ := List.mem_filterMap.mp hp
    have z := h2 y hy
    rw [Bool.and_eq_true, Bool.and_eq_true, List.all_eq_true] at z
    exact S.slot (z.2 p hp)
  refine ⟨?_, fun y hy => ?_, ixs, fun y hy e => ?_, fun y hy e => ?_⟩
  · cases hk : scope.kind <;> rw [hk] at h1 <;> first | rfl | cases h1
  · have z := h2 y hy
    rw [Bool.and_eq_true, Bool.and_eq_true] at z
    rw [← look_eq]
    exact kIs_iff z.1.1
  · have z := h2 y hy
    rw [Bool.and_eq_true, Bool.and_eq_true, e] at z
    have z := z.1.2
    dsimp only at z
    rw [S.sc, ← look_eq]
    split at z <;> first | exact .inl (by assumption) | exact .inr (by assumption) | cases z
  · have z := h2 y hy
    rw [Bool.and_eq_true, Bool.and_eq_true] at z
    have z := z.1.2
    have key : (ownOf c.N scope.names).any (fun p => sEq p.1 y.1.cps.toList && slotIs c p.2 p.1) = true → y.1 ∈ (ownOf c.N scope.names).map (·.1) := by
      intro q
      obtain ⟨p, hp, q⟩ := List.any_eq_true.mp q
      rw [Bool.and_eq_true] at q
      have q1 := sEq_iff q.1
      refine List.mem_map.mpr ⟨p, hp, ?_⟩
      rw [q1]
    have key2 : (!(c.N.any fun l => nEq l y.1.cps.toList)) = true → y.1 ∉ X.N := by
      intro q hm
      rw [S.N] at hm
      obtain ⟨l, hl, e⟩ := List.mem_map.mp hm
      have z : (c.N.any fun l => nEq l y.1.cps.toList) = true := List.any_eq_true.mpr ⟨l, hl, by rw [← e]; exact nEq_self l⟩
      rw [z] at q
      cases q
    rcases e with e | e
    · rw [e] at z
      dsimp only at z
      rw [Bool.or_eq_true] at z
      exact z.imp key key2
    · rw [e] at z
      dsimp only at z
      rw [Bool.or_eq_true] at z
      exact z.imp key key2
end
end Dh


set_option Elab.async false
set_option linter.all false
set_option maxRecDepth 100000
set_option maxHeartbeats 4000000
/-! DhSnd: what the check says of expressions is so. -/
namespace Dh
open PySem PySem.Spec PyProof.Rows L2

abbrev OkE (F : Fn) (k : Nat) (e : E) : Prop := ∀ (c : Ctx) (X : Cx) (g : Gd), Site c F k X g → ∀ x : Expr, chkE c e x = true → PE X x (tOf g (ev F e)) ∧ (tst e = true → PT X x (tTe g (ev F e))) ∧ (isRaw e = true → PE X x (tRawS g (ev F e)))
abbrev OkEs (F : Fn) (k : Nat) (es : Es) : Prop := ∀ (c : Ctx) (X : Cx) (g : Gd), Site c F k X g →
  (∀ l, chkEs c es l = true → PA X l (tOfs g (evs F es)) ∧ noStar l = true ∧ l.length = es.len ∧ ∃ ts, PJs X g l ts (evj F es)) ∧
  (∀ l ps, chkKs c es l ps = true → PK X l (tOfs g (evs F es)) ∧ l.map (·.arg) = ps.map (fun p => some (txt p)) ∧ ps.length = es.len) ∧ Len (evs F es) es.len
abbrev OkI (F : Fn) (k : Nat) (it : I) : Prop := ∀ (c : Ctx) (X : Cx) (g : Gd), Site c F k X g → ∀ tg x : Expr, chkI c it tg x = true → PI X tg x (tI g (evI F it)) ∧ isSet x = false
abbrev OkT (F : Fn) (k : Nat) (t : T) : Prop := ∀ (c : Ctx) (X : Cx) (g : Gd), Site c F k X g → ∀ x : Expr, chkTg c t x = true → PG X x (tG g (T.nm t) (bindT F t)) ∧ isStar x = false
abbrev OkTs (F : Fn) (k : Nat) (ts : Ts) : Prop := ∀ (c : Ctx) (X : Cx) (g : Gd), Site c F k X g → ∀ l : List Expr, chkTgs c ts l = true → PGs X l (tGs g (Ts.nm ts) (bindTs F ts)) ∧ l.length = ts.len ∧ ∀ ds env m e m', bindTs F ts ds env m = .ok e m' → ds.length = ts.len
section
variable {F : Fn} {k : Nat} {c : Ctx} {X : Cx} {g : Gd}
/-- a form that is no test of its own -/
theorem val_ok {e : E} {x : Expr} (h : PE X x (tOf g (ev F e))) (ht : isTest x = false) (hr : isRaw e = false) : PE X x (tOf g (ev F e)) ∧ (tst e = true → PT X x (tTe g (ev F e))) ∧ (isRaw e = true → PE X x (tRawS g (ev F e))) :=
  ⟨h, fun _ => st_val h (test_of ht), fun z => by rw [hr] at z; cases z⟩
theorem raw_ok {e : E} {x : Expr} (h : PE X x (tRawS g (ev F e))) (ht : isTest x = false) : PE X x (tOf g (ev F e)) ∧ (tst e = true → PT X x (tTe g (ev F e))) ∧ (isRaw e = true → PE X x (tRawS g (ev F e))) :=
  have z := pe_freeze (tRaw.ofS h)
  ⟨z, fun _ => st_val z (test_of ht), fun _ => h⟩
theorem o_var (i : Nat) : OkE F k (.var i) := by
  intro c X g S x h
  unfold chkE at h
  split at h
  · rename_i n p
    rw [Bool.and_eq_true, Bool.and_eq_true] at h
    have q := calm_ok h.2
    exact val_ok (se_var (S.slot h.1.1) (S.vis h.1.2) q.1 q.2.1) rfl rfl
  · cases h
theorem chkC_ok (S : Site c F k X g) {d : D} {x : Expr} (h : chkC c d x = true) : ∃ v, PE X x (tC v) ∧ (∀ r H, Rp g.K r H d v) ∧ isTest x = false := by
  unfold chkC at h
  split at h
  · rw [of_decide_eq_true h]
    exact ⟨_, pe_int, fun _ _ => rfl, rfl⟩
  · rw [sEq_iff h]
    exact ⟨_, pe_str, fun _ _ => rfl, rfl⟩
  · rw [show _ = _ from eq_of_beq h]
    exact ⟨_, pe_bl, fun _ _ => rfl, rfl⟩
  · exact ⟨_, pe_non, fun _ _ => rfl, rfl⟩
  · rw [Bool.and_eq_true, Bool.and_eq_true] at h
    obtain ⟨p, hp, q⟩ := List.any_eq_true.mp h.2
    rw [Bool.and_eq_true] at q
    obtain ⟨v, u, h1, h2, h3⟩ := S.gs p hp
    rw [← sEq_iff q.1] at h1
    refine ⟨v, pe_glob (S.glob h.1.1) h1 h2 (calm_ok h.1.2).1, fun r H => ?_, rfl⟩
    rw [S.hg, ← dEq_iff _ _ q.2]
    exact h3 r H
  · cases h
theorem o_cst (d : D) : OkE F k (.cst d) := by
  intro c X g S x h
  unfold chkE at h
  split at h
  · rename_i e1
    have e2 : d = .edict := by cases d <;> first | rfl | cases e1
    subst e2
    unfold isDict0 at h
    split at h
    · exact val_ok se_dict0 rfl rfl
    · cases h
  · obtain ⟨v, h1, h2, h3⟩ := chkC_ok S h
    exact val_ok (se_cst h1 h2) h3 rfl
theorem Cn.len {ms : Env → M (List D)} {n : Nat} (hl : Len ms n) {σ : L2.St} {env : Env} {r : List Addr} {H : Hp} {m : Sto} {Q : List V → Hp → Prop} (h : Cn g (Rps g.K) σ env r H (ms env) m Q) : Cn g (Rps g.K) σ env r H (ms env) m fun vs H' => vs.length = n ∧ Q vs H' := by
  obtain ⟨s, e, h⟩ := h
  refine ⟨s, e, ?_⟩
  cases hx : ms env m with
  | bad =>
    rw [hx] at h
    exact h
  | exc z m' =>
    rw [hx] at h
    exact h
  | ok a m' =>
    rw [hx] at h
    exact fun r' H' b x1 s1 t1 => ⟨by rw [t1.len]; exact hl env m a m' hx, h r' H' b x1 s1 t1⟩
theorem size_of {n : Nat} (h : Nat.ble n 1000 = true) : n ≤ sizeLine := Nat.le_trans (Nat.le_of_ble_eq_true h) (Nat.le_trans (by unfold lim; decide) limLe)
theorem o_tup {es : Es} (hs : OkEs F k es) : OkE F k (.tup es) := by
  intro c X g S x h
  unfold chkE at h
  split at h
  · rw [Bool.and_eq_true] at h
    obtain ⟨h1, h2, h3, _⟩ := (hs c X g S).1 _ h.1
    have hl := (hs c X g S).2.2
    have z := size_of h.2
    exact val_ok (se_tup z h1 fun r H σ env m Q q => (q.len hl).mono fun vs H' w => ⟨by rw [w.1, ← h3]; exact z, w.2⟩) rfl rfl
  · cases h
theorem o_lst {es : Es} (hs : OkEs F k es) : OkE F k (.lst es) := by
  intro c X g S x h
  unfold chkE at h
  split at h
  · rw [Bool.and_eq_true] at h
    obtain ⟨h1, h2, h3, _⟩ := (hs c X g S).1 _ h.1
    have hl := (hs c X g S).2.2
    have z := size_of h.2
    exact raw_ok (se_lst z h1 fun r H σ env m Q q => (q.len hl).mono fun vs H' w => ⟨by rw [w.1, ← h3]; exact z, w.2⟩) rfl
  · cases h
theorem o_new {e : E} (he : OkE F k e) : OkE F k (.new e) := by
  intro c X g S x h
  unfold chkE at h
  rw [Bool.and_eq_true] at h
  have z := (he c X g S x h.2).2.2 h.1
  have ht : isTest x = false := by
    have q := h.2
    cases e <;> first | (cases h.1; done) | skip
    · unfold chkE at q
      split at q <;> first | rfl | cases q
    · unfold chkE at q
      split at q <;> first | rfl | cases q
    · unfold chkE at q
      split at q <;> first | rfl | cases q
    · unfold chkE at q
      split at q <;> first | rfl | cases q
    · unfold chkE at q
      split at q <;> first | rfl | cases q
    · unfold chkE at q
      split at q <;> first | rfl | cases q
  exact val_ok (pe_new z) ht rfl
theorem o_bin (o : Bop) {a b : E} (ha : OkE F k a) (hb : OkE F k b) : OkE F k (.bin o a b) := by
  intro c X g S x h
  unfold chkE at h
  split at h
  · rename_i l op r p
    rw [Bool.and_eq_true, Bool.and_eq_true] at h
    have z := se_bin (pos := p) S.hg o (ha c X g S _ h.1.2).1 (hb c X g S _ h.2).1
    have q := h.1.1
    cases o <;> cases op <;> first | exact val_ok z rfl rfl | cases q
  · cases h
theorem o_neg {a : E} (ha : OkE F k a) : OkE F k (.neg a) := by
  intro c X g S x h
  unfold chkE at h
  split at h
  · exact val_ok (se_neg (ha c X g S _ h).1) rfl rfl
  · cases h
theorem cop_of {o : Cop} {op : CmpOp} (h : copIs o op = true) : copOf o = op := by cases o <;> cases op <;> first | rfl | cases h
theorem o_cmp (o : Cop) {a b : E} (ha : OkE F k a) (hb : OkE F k b) : OkE F k (.cmp o a b) := by
  intro c X g S x h
  unfold chkE at h
  split at h
  · rename_i l op r p
    simp only [Bool.and_eq_true, Bool.not_eq_true'] at h
    obtain ⟨⟨⟨h1, h2⟩, h3⟩, h4⟩ := h
    have e := cop_of h1
    subst e
    have hu := S.units
    exact ⟨se_cmp S.hg (by omega) o (ha c X g S _ h3).1 (hb c X g S _ h4).1 (behind_of h2), fun _ => st_cmp S.hg (by omega) o (ha c X g S _ h3).1 (hb c X g S _ h4).1 (behind_of h2), fun z => by cases z⟩
  · cases h
theorem o_chn (o p : Cop) {a b d : E} (ha : OkE F k a) (hb : OkE F k b) (hd : OkE F k d) : OkE F k (.chn o p a b d) := by
  intro c X g S x h
  unfold chkE at h
  split at h
  · rename_i l op op2 r r2 ps
    simp only [Bool.and_eq_true, Bool.not_eq_true'] at h
    obtain ⟨⟨⟨⟨⟨h1, h2⟩, h3⟩, h4⟩, h5⟩, h6⟩ := h
    have e := cop_of h1
    have e2 := cop_of h2
    subst e e2
    have hu := S.units
    have hm : lastMarks [copOf o, copOf p] [r, r2] = false := behind_of (op := copOf p) h3
    exact ⟨se_chn S.hg (by omega) o p (ha c X g S _ h4).1 (hb c X g S _ h5).1 (hd c X g S _ h6).1 hm, fun _ => st_chn S.hg (by omega) o p (ha c X g S _ h4).1 (hb c X g S _ h5).1 (hd c X g S _ h6).1 hm, fun z => by cases z⟩
  · cases h
theorem o_and {a b : E} (ha : OkE F k a) (hb : OkE F k b) : OkE F k (.and a b) := by
  intro c X g S x h
  unfold chkE at h
  split at h
  · rename_i l r rest p
    rw [Bool.and_eq_true] at h
    obtain ⟨h1, h2⟩ := h
    have za := ha c X g S _ h1
    cases rest with
    | nil =>
      have zb := hb c X g S _ h2
      refine ⟨and_v za.1 (pe_one zb.1), fun ht => ?_, fun z => by cases z⟩
      have ht : (tst a && tst b) = true := ht
      rw [Bool.and_eq_true] at ht
      exact (and_t (za.2.1 ht.1) (pw_and1 (zb.2.1 ht.2))).pt
    | cons s rest =>
      have zb := hb c X g S _ h2
      refine ⟨and_v za.1 zb.1, fun ht => ?_, fun z => by cases z⟩
      have ht : (tst a && tst b) = true := ht
      rw [Bool.and_eq_true] at ht
      exact (and_t (za.2.1 ht.1) ⟨fun wh => (zb.2.1 ht.2).run⟩).pt
  · cases h
theorem o_or {a b : E} (ha : OkE F k a) (hb : OkE F k b) : OkE F k (.or a b) := by
  intro c X g S x h
  unfold chkE at h
  split at h
  · rename_i l r rest p
    rw [Bool.and_eq_true] at h
    obtain ⟨h1, h2⟩ := h
    have za := ha c X g S _ h1
    cases rest with
    | nil =>
      have zb := hb c X g S _ h2
      refine ⟨or_v za.1 (pe_one zb.1), fun ht => ?_, fun z => by cases z⟩
      have ht : (tst a && tst b) = true := ht
      rw [Bool.and_eq_true] at ht
      exact (or_t (za.2.1 ht.1) (pw_or1 (zb.2.1 ht.2))).pt
    | cons s rest =>
      have zb := hb c X g S _ h2
      refine ⟨or_v za.1 zb.1, fun ht => ?_, fun z => by cases z⟩
      have ht : (tst a && tst b) = true := ht
      rw [Bool.and_eq_true] at ht
      exact (or_t (za.2.1 ht.1) ⟨fun wh => (zb.2.1 ht.2).run⟩).pt
  · cases h
theorem o_not {a : E} (ha : OkE F k a) : OkE F k (.not a) := by
  intro c X g S x h
  unfold chkE at h
  split at h
  · have za := ha c X g S _ h
    exact ⟨not_v za.1, fun ht => not_t (za.2.1 ht), fun z => by cases z⟩
  · cases h
theorem o_ite {d a b : E} (hd : OkE F k d) (ha : OkE F k a) (hb : OkE F k b) : OkE F k (.ite d a b) := by
  intro c X g S x h
  unfold chkE at h
  split at h
  · simp only [Bool.and_eq_true] at h
    obtain ⟨⟨⟨h1, h2⟩, h3⟩, h4⟩ := h
    exact ⟨ite_v ((hd c X g S _ h2).2.1 h1) (ha c X g S _ h3).1 (hb c X g S _ h4).1, (fun ht => by cases ht), fun z => by cases z⟩
  · cases h
theorem o_idx {a i : E} (ha : OkE F k a) (hi : OkE F k i) : OkE F k (.idx a i) := by
  intro c X g S x h
  unfold chkE at h
  split at h
  · simp only [Bool.and_eq_true, Bool.not_eq_true'] at h
    obtain ⟨⟨h1, h2⟩, h3⟩ := h
    have hu := S.units
    exact val_ok (se_idx S.hg (by omega) (ha c X g S _ h2).1 (hi c X g S _ h3).1 (plainIx_of h1)) rfl rfl
  · cases h
theorem nop_of {e : E} (h : isNop e = true) : e = .nop := by cases e <;> first | rfl | cases h
theorem bound_of {lo : E} (hl : OkE F k lo) (S : Site c F k X g) {y : Option Expr} (h : (match y with
    | none => isNop lo
    | some y => !isNop lo && chkE c lo y) = true) : PO X y (tPo g fun env => bnd (ev F lo env) fun d => ofO (partOf (isNop lo) d)) := by
  cases y with
  | none =>
    have e := nop_of h
    subst e
    exact sp_none
  | some y =>
    dsimp only at h
    rw [Bool.and_eq_true, Bool.not_eq_true'] at h
    rw [h.1]
    exact sp_some (hl c X g S _ h.2).1
theorem o_sl {a lo hi : E} (ha : OkE F k a) (hl : OkE F k lo) (hh : OkE F k hi) : OkE F k (.sl a lo hi) := by
  intro c X g S x h
  unfold chkE at h
  split at h
  · rw [Bool.and_eq_true, Bool.and_eq_true] at h
    obtain ⟨⟨h1, h2⟩, h3⟩ := h
    exact val_ok (pe_freeze (se_sl S.hg (ha c X g S _ h1).1 (bound_of hl S h2) (bound_of hh S h3))) rfl rfl
  · cases h
theorem o_rev {a : E} (ha : OkE F k a) : OkE F k (.rev a) := by
  intro c X g S x h
  unfold chkE at h
  split at h
  · exact val_ok (pe_freeze (se_rev S.hg (ha c X g S _ h).1)) rfl rfl
  · cases h
theorem kw_names {pos : Pos} {env : PySem.Env} : ∀ {l : List Keyword} {ps : List (List Nat)}, l.map (·.arg) = ps.map (fun p => some (txt p)) →
    (backToKw pos (keywordEach l env)).all (·.1.isSome) = true ∧ (backToKw pos (keywordEach l env)).filterMap (·.1) = ps.map txt ∧ (backToKw pos (keywordEach l env)).any (·.1.isNone) = false
  | [], [], _ => ⟨rfl, rfl, rfl⟩
  | [], _ :: _, h => by cases h
  | _ :: _, [], h => by cases h
  | ⟨a, v, q⟩ :: l, p :: ps, h => by
    rw [List.map_cons, List.map_cons] at h
    injection h with h1 h2
    have h1 : a = some (txt p) := h1
    subst h1
    obtain ⟨i1, i2, i3⟩ := kw_names (pos := pos) (env := env) h2
    refine ⟨?_, ?_, ?_⟩
    · show (true && (backToKw pos (keywordEach l env)).all (·.1.isSome)) = true
      rw [i1]
      rfl
    · show txt p :: (backToKw pos (keywordEach l env)).filterMap (·.1) = txt p :: ps.map txt
      rw [i2]
    · show (false || (backToKw pos (keywordEach l env)).any (·.1.isNone)) = false
      rw [i3]
      rfl
theorem o_call (f : Nat) {es : Es} (hs : OkEs F k es) : OkE F k (.call f es) := by
  intro c X g S x h
  unfold chkE at h
  split at h
  · rename_i n np args kws pos
    split at h
    · rename_i s hf
      rw [Bool.and_eq_true, Bool.and_eq_true, Bool.and_eq_true] at h
      obtain ⟨⟨⟨h1, h2⟩, h3⟩, h4⟩ := h
      obtain ⟨fa, fd, q1, q2, q3, q4, q5⟩ := S.fs f s hf
      rw [← sEq_iff h1] at q1
      have hdb := (calm_ok h3).1
      have hgl := S.glob h2
      obtain ⟨z1, z2, z3⟩ := hs c X g S
      cases kws with
      | nil =>
        dsimp only at h4
        rw [Bool.and_eq_true] at h4
        obtain ⟨w1, w2, w3, _⟩ := z1 _ h4.1
        have hl : args.length = (s.ps.map txt).length := by
          rw [List.length_map]
          exact Nat.eq_of_beq_eq_true h4.2
        cases args with
        | nil =>
          have e0 : s.ps.map txt = [] := List.eq_nil_of_length_eq_zero hl.symm
          rw [e0] at q3 q5
          have e1 : es = .nil := by
            cases es with
            | nil => rfl
            | cons e es => cases w3
          subst e1
          exact val_ok (se_call0 S.hg q5 S.room S.tk hgl q1 q2 q3 hdb) rfl rfl
        | cons a args =>
          have hst := w2
          unfold noStar at hst
          rw [List.all_cons, Bool.and_eq_true, Bool.not_eq_true'] at hst
          exact val_ok (se_call S.hg q5 S.room S.tk hgl q1 q2 q3 w1 hdb (star_cons hst.1) (star_any hst.2) fun r H σ env m Q q => (q.len z3).mono fun vs H' w => ⟨by rw [w.1, ← w3, hl], w.2⟩) rfl rfl
      | cons kw kws =>
        cases args with
        | nil =>
          dsimp only at h4
          rw [Bool.and_eq_true] at h4
          obtain ⟨w1, w2, w3⟩ := z2 _ _ h4.2
          obtain ⟨n1, n2, n3⟩ := kw_names (pos := pos) (env := X.env) w2
          refine val_ok (se_callKW S.hg q5 S.room S.tk hgl q1 q2 (q4 h4.1) w1 hdb n1 n2 ?_ fun env m ds m' e => ?_) rfl rfl
          · rw [n3]
            rfl
          · rw [List.length_map, w3]
            exact z3 env m ds m' e
        | cons a args => cases h4
    · cases h
  · cases h
end
section
variable {F : Fn} {k : Nat} {c : Ctx} {X : Cx} {g : Gd}
theorem boot_b : ∀ f : Bf, (match f with
    | .abs => bootBuiltins (txt (bname f)) = some (.builtin "abs")
    | .all => bootBuiltins (txt (bname f)) = some (.builtin "all")
    | .any => bootBuiltins (txt (bname f)) = some (.builtin "any")
    | .divmod => bootBuiltins (txt (bname f)) = some (.builtin "divmod")
    | .int => bootBuiltins (txt (bname f)) = some (.type "int")
    | .len => bootBuiltins (txt (bname f)) = some (.builtin "len")
    | .max2 => bootBuiltins (txt (bname f)) = some (.builtin "max")
    | .min2 => bootBuiltins (txt (bname f)) = some (.builtin "min")
    | .repr => bootBuiltins (txt (bname f)) = some (.builtin "repr")
    | .str => bootBuiltins (txt (bname f)) = some (.type "str")
    | .sum => bootBuiltins (txt (bname f)) = some (.builtin "sum")
    | .tuple => bootBuiltins (txt (bname f)) = some (.type "tuple")
    | _ => True) := by
  intro f
  cases f <;> first | trivial | (dsimp only; decide +kernel)
theorem calm_b : ∀ f : Bf, (txt (bname f) == ("__debug__" : Str)) = false ∧ txt (bname f) ≠ ("__name__" : Str) := by
  intro f
  cases f <;> (constructor <;> decide +kernel)
theorem free_b (S : Site c F k X g) (f : Bf) (h : f ≠ .gcd) (h2 : f ≠ .isdigit) (h3 : f ≠ .lenset) (h4 : f ≠ .join) : X.mg (txt (bname f)) = none := by
  refine S.free _ ?_
  cases f <;> first | exact absurd rfl h | exact absurd rfl h2 | exact absurd rfl h3 | exact absurd rfl h4 | decide +kernel
theorem e_len : ("len" : Str) = txt n_len := by decide +kernel
theorem e_set : ("set" : Str) = txt n_set := by decide +kernel
theorem e_list : ("list" : Str) = txt n_list := by decide +kernel
theorem e_sorted : ("sorted" : Str) = txt n_sorted := by decide +kernel
theorem e_isinstance : ("isinstance" : Str) = txt n_isinstance := by decide +kernel
theorem e_append : ("append" : Str) = txt n_append := by decide +kernel
theorem e_join : ("join" : Str) = txt n_join := by decide +kernel
theorem e_isdigit : ("isdigit" : Str) = txt n_isdigit := by decide +kernel
theorem e_range : ("range" : Str) = txt n_range := by decide +kernel
theorem e_enumerate : ("enumerate" : Str) = txt n_enumerate := by decide +kernel
theorem e_zip : ("zip" : Str) = txt n_zip := by decide +kernel
theorem frB (S : Site c F k X g) {l : List Nat} (h : l ∈ frees) : X.mg (txt l) = none := S.free l h
theorem o_blt (f : Bf) {es : Es} (hs : OkEs F k es) (h1 : ∀ e, es = .cons e .nil → OkE F k e) (h2 : ∀ e e2, es = .cons e (.cons e2 .nil) → OkE F k e2) : OkE F k (.blt f es) := by
  intro c X g S x h
  have hu := S.units
  have plain : ∀ (n : Str) (np : Pos) (y : Expr) (args : List Expr) (pos : Pos), (bltS c n (bname f) && chkEs c es (y :: args)) = true → f ≠ .isdigit → f ≠ .lenset → f ≠ .join → PE X (.Call (.Name n np) (y :: args) [] pos) (tOf g (ev F (.blt f es))) := by
    intro n np y args pos h n1 n2 n3
    rw [Bool.and_eq_true] at h
    obtain ⟨e, hgl⟩ := S.blt h.1
    subst e
    obtain ⟨w1, w2, w3, _⟩ := (hs c X g S).1 _ h.2
    unfold noStar at w2
    rw [List.all_cons, Bool.and_eq_true, Bool.not_eq_true'] at w2
    have st := star_cons (env := X.env) (es := args) w2.1
    have sa := star_any (env := X.env) (pos := pos) (es := args) w2.2
    have bt := boot_b f
    obtain ⟨c1, c2⟩ := calm_b f
    cases f with
    | abs => exact se_bltB cl_abs hgl (free_b S .abs (by decide) (by decide) (by decide) (by decide)) bt w1 c2 c1 st sa
    | all => exact se_bltB (cl_all S.hg S.calm) hgl (free_b S .all (by decide) (by decide) (by decide) (by decide)) bt w1 c2 c1 st sa
    | any => exact se_bltB (cl_any S.hg S.calm) hgl (free_b S .any (by decide) (by decide) (by decide) (by decide)) bt w1 c2 c1 st sa
    | divmod => exact se_bltB cl_divmod hgl (free_b S .divmod (by decide) (by decide) (by decide) (by decide)) bt w1 c2 c1 st sa
    | gcd => exact se_bltM cl_gcd hgl (S.gcd _ (nEq_self _)) w1 c1 st sa
    | int => exact se_bltT cl_int hgl (free_b S .int (by decide) (by decide) (by decide) (by decide)) bt w1 c2 c1 st sa
    | len => exact se_bltB (cl_len S.hg) hgl (free_b S .len (by decide) (by decide) (by decide) (by decide)) bt w1 c2 c1 st sa
    | max2 => exact se_bltB (cl_max2 S.calm) hgl (free_b S .max2 (by decide) (by decide) (by decide) (by decide)) bt w1 c2 c1 st sa
    | min2 => exact se_bltB (cl_min2 S.calm) hgl (free_b S .min2 (by decide) (by decide) (by decide) (by decide)) bt w1 c2 c1 st sa
    | repr => exact se_bltB (cl_repr S.hg S.room.gd hu) hgl (free_b S .repr (by decide) (by decide) (by decide) (by decide)) bt w1 c2 c1 st sa
    | str => exact se_bltT cl_str hgl (free_b S .str (by decide) (by decide) (by decide) (by decide)) bt w1 c2 c1 st sa
    | sum => exact se_bltB (cl_sum S.hg S.calm) hgl (free_b S .sum (by decide) (by decide) (by decide) (by decide)) bt w1 c2 c1 st sa
    | tuple => exact se_bltT (cl_tuple S.hg) hgl (free_b S .tuple (by decide) (by decide) (by decide) (by decide)) bt w1 c2 c1 st sa
    | isdigit => exact absurd rfl n1
    | lenset => exact absurd rfl n2
    | join => exact absurd rfl n3
  cases f with
  | isdigit =>
    unfold chkE at h
    dsimp only at h
    split at h
    · rename_i e
      split at h
      · rename_i o n ap p
        simp only [Bool.and_eq_true, Bool.not_eq_true'] at h
        obtain ⟨⟨⟨q1, q2⟩, q3⟩, q4⟩ := h
        have e0 := sEq_iff q1
        rw [← e_isdigit] at e0
        subst e0
        have z := se_isdigit (pos := p) (apos := ap) (h1 e rfl c X g S _ q4).1 (base_of q2) (by rw [Nat.eq_of_beq_eq_true q3]; exact beq_self_eq_true _)
        refine val_ok (PE.weak z fun σ H Q ⟨r, env, m, w⟩ => ⟨r, env, m, ?_⟩) rfl rfl
        have e1 : ev F (.blt .isdigit (.cons e .nil)) env = bnd (ev F e env) fun d => fun m => ofO (blt m .isdigit [d]) m := by
          funext m'
          show bnd (bnd (ev F e env) fun d => bnd (ret []) fun ds => ret (d :: ds)) (fun ds => fun m => ofO (blt m .isdigit ds) m) m' = _
          unfold Dh.bnd
          cases ev F e env m' <;> rfl
        rw [e1] at w
        exact w
      · cases h
    · cases h
  | join =>
    unfold chkE at h
    dsimp only at h
    split at h
    · rename_i a e2
      split at h
      · rename_i v cj cp n ap y p
        simp only [Bool.and_eq_true, Bool.not_eq_true'] at h
        obtain ⟨⟨⟨⟨q1, q2⟩, q3⟩, q4⟩, q5⟩ := h
        have e0 := sEq_iff q2
        rw [← e_join] at e0
        subst e0
        have e1 := sEq_iff q1
        subst e1
        have z := se_join (cj := cj) (cp := cp) (pos := p) (apos := ap) (a := a) S.hg (h2 _ e2 rfl c X g S _ q5).1 (base_of rfl) (star_cons (env := X.env) (es := []) q3) (by rw [Nat.eq_of_beq_eq_true q4]; exact beq_self_eq_true _)
        refine val_ok (PE.weak z fun σ H Q ⟨r, env, m, w⟩ => ⟨r, env, m, ?_⟩) rfl rfl
        have e1 : ev F (.blt .join (.cons (.cst (.str a)) (.cons e2 .nil))) env = bnd (ev F e2 env) fun d2 => fun m => ofO (blt m .join [.str a, d2]) m := by
          funext m'
          show bnd (bnd (ret (D.str a)) fun d => bnd (bnd (ev F e2 env) fun d2 => bnd (ret []) fun ds => ret (d2 :: ds)) fun ds => ret (d :: ds)) (fun ds => fun m => ofO (blt m .join ds) m) m' = _
          unfold Dh.bnd ret
          dsimp only
          cases ev F e2 env m' <;> rfl
        rw [e1] at w
        exact w
      · cases h
    · cases h
  | lenset =>
    unfold chkE at h
    dsimp only at h
    split at h
    · rename_i e
      split at h
      · rename_i n np n2 np2 y q pos
        simp only [Bool.and_eq_true, Bool.not_eq_true'] at h
        obtain ⟨⟨⟨q1, q2⟩, q3⟩, q4⟩ := h
        obtain ⟨e1, g1⟩ := S.blt q1
        obtain ⟨e2, g2⟩ := S.blt q2
        subst e1 e2
        have f1 := frB S (l := n_len) (by decide)
        have f2 := frB S (l := n_set) (by decide)
        rw [← e_len] at g1 f1
        rw [← e_set] at g2 f2
        have z := se_lenset (p := np) (p2 := np2) (q := q) (pos := pos) S.hg S.calm g1 f1 g2 f2 (h1 e rfl c X g S _ q4).1 (star_cons q3)
        rw [e_len, e_set] at z
        refine val_ok (PE.weak z fun σ H Q ⟨r, env, m, w⟩ => ⟨r, env, m, ?_⟩) rfl rfl
        have e1 : ev F (.blt .lenset (.cons e .nil)) env = bnd (ev F e env) fun d => fun m => ofO (blt m .lenset [d]) m := by
          funext m'
          show bnd (bnd (ev F e env) fun d => bnd (ret []) fun ds => ret (d :: ds)) (fun ds => fun m => ofO (blt m .lenset ds) m) m' = _
          unfold Dh.bnd
          cases ev F e env m' <;> rfl
        rw [e1] at w
        exact w
      · cases h
    · cases h
  | _ =>
    unfold chkE at h
    dsimp only at h
    split at h
    · exact val_ok (plain _ _ _ _ _ h (by decide) (by decide) (by decide)) rfl rfl
    · cases h
theorem tname_ok : ∀ t : Ty, bootBuiltins (txt (tname t)) = some (.type (tyName t)) ∧ tname t ∈ frees ∧ txt (tname t) ≠ ("__name__" : Str) ∧ (txt (tname t) == ("__debug__" : Str)) = false := by
  intro t
  cases t <;> (refine ⟨?_, ?_, ?_, ?_⟩ <;> decide +kernel)
theorem o_isa (t : Ty) {e : E} (he : OkE F k e) : OkE F k (.isa t e) := by
  intro c X g S x h
  unfold chkE at h
  split at h
  · simp only [Bool.and_eq_true, Bool.not_eq_true'] at h
    obtain ⟨⟨⟨q1, q2⟩, q3⟩, q4⟩ := h
    obtain ⟨e1, g1⟩ := S.blt q1
    obtain ⟨e2, g2⟩ := S.blt q2
    subst e1 e2
    have f1 := frB S (l := n_isinstance) (by decide)
    rw [← e_isinstance] at g1 f1
    obtain ⟨b1, b2, b3, b4⟩ := tname_ok t
    refine val_ok ?_ rfl rfl
    rw [← e_isinstance]
    exact se_isa S.hg t (he c X g S _ q4).1 g1 f1 g2 (frB S b2) b1 b3 b4 (star_cons q3)
  · cases h
theorem o_listOf {e : E} (he : OkE F k e) : OkE F k (.listOf e) := by
  intro c X g S x h
  unfold chkE at h
  split at h
  · simp only [Bool.and_eq_true, Bool.not_eq_true'] at h
    obtain ⟨⟨q1, q2⟩, q3⟩ := h
    obtain ⟨e1, g1⟩ := S.blt q1
    subst e1
    have f1 := frB S (l := n_list) (by decide)
    rw [← e_list] at g1 f1
    refine raw_ok ?_ rfl
    rw [← e_list]
    exact se_listOf S.hg (he c X g S _ q3).1 g1 f1 (star_cons q2)
  · cases h
theorem o_sortOf {e : E} (he : OkE F k e) : OkE F k (.sortOf e) := by
  intro c X g S x h
  unfold chkE at h
  split at h
  · simp only [Bool.and_eq_true, Bool.not_eq_true'] at h
    obtain ⟨⟨q1, q2⟩, q3⟩ := h
    obtain ⟨e1, g1⟩ := S.blt q1
    subst e1
    have f1 := frB S (l := n_sorted) (by decide)
    have hu := S.units
    rw [← e_sorted] at g1 f1
    refine raw_ok ?_ rfl
    rw [← e_sorted]
    exact se_sortOf S.hg S.calm (by omega) (he c X g S _ q3).1 g1 f1 (star_cons q2)
  · cases h
theorem o_rep {a b : E} (ha : OkE F k a) (hb : OkE F k b) : OkE F k (.rep a b) := by
  intro c X g S x h
  unfold chkE at h
  split at h
  · rw [Bool.and_eq_true, Bool.and_eq_true] at h
    exact raw_ok (se_rep S.hg ((ha c X g S _ h.1.2).2.2 h.1.1) (hb c X g S _ h.2).1) rfl
  · cases h
theorem o_newd : OkE F k .newd := by
  intro c X g S x h
  unfold chkE at h
  unfold isDict0 at h
  split at h
  · exact val_ok se_newd rfl rfl
  · cases h
theorem o_cat {a b : E} (ha : OkE F k a) (hb : OkE F k b) : OkE F k (.cat a b) := by
  intro c X g S x h
  unfold chkE at h
  split at h
  · rw [Bool.and_eq_true] at h
    exact raw_ok (se_cat S.hg (ha c X g S _ h.1).1 (hb c X g S _ h.2).1) rfl
  · cases h
theorem o_app {o e : E} (ho : OkE F k o) (he : OkE F k e) : OkE F k (.app o e) := by
  intro c X g S x h
  unfold chkE at h
  split at h
  · rename_i y n ap z p
    simp only [Bool.and_eq_true, Bool.not_eq_true'] at h
    obtain ⟨⟨⟨⟨⟨q1, q2⟩, q3⟩, q4⟩, q5⟩, q6⟩ := h
    have e0 := sEq_iff q1
    rw [← e_append] at e0
    subst e0
    have st := star_cons (env := X.env) (es := []) q3
    exact val_ok (se_app S.hg (ho c X g S _ q5).1 (he c X g S _ q6).1 (base_of q2) (by rw [Nat.eq_of_beq_eq_true q4]; exact beq_self_eq_true _) st (by rw [st]; rfl)) rfl rfl
  · cases h
theorem o_nop : OkE F k .nop := by
  intro c X g S x h
  cases h
theorem o_fstr {es : Es} (hs : OkEs F k es) : OkE F k (.fstr es) := by
  intro c X g S x h
  unfold chkE at h
  split at h
  · obtain ⟨_, _, _, ts, w⟩ := (hs c X g S).1 _ h
    exact val_ok (se_fstr w) rfl rfl
  · cases h
theorem o_fv {e : E} (he : OkE F k e) : OkE F k (.fv e) := by
  intro c X g S x h
  unfold chkE at h
  split at h
  · exact val_ok (se_fv (he c X g S _ h).1) rfl rfl
  · exact val_ok (pe_joined1 (se_fv (he c X g S _ h).1)) rfl rfl
  · cases h
end
end Dh


set_option Elab.async false
set_option linter.all false
set_option maxRecDepth 100000
set_option maxHeartbeats 4000000
/-! DhSnd2: .. of comprehensions, iterables, targets; all expressions. -/
namespace Dh
open PySem PySem.Spec PyProof.Rows L2

/-- alike but at P -/
structure Ag (P : Nat → Prop) (e1 e2 : Env) : Prop where
  len : e1.length = e2.length
  at_ : ∀ i, ¬ P i → e1[i]? = e2[i]?
def ResAg (P : Nat → Prop) : R Env → R Env → Prop
  | .ok e1 m1, .ok e2 m2 => m1 = m2 ∧ Ag P e1 e2
  | .bad, .bad => True
  | _, _ => False
mutual
theorem bindT_ag {F : Fn} : ∀ (t : T) (d : D) (P : Nat → Prop) (e1 e2 : Env) (m : Sto), T.only t = true → Ag P e1 e2 → ResAg (fun i => P i ∧ i ∉ T.nm t) (bindT F t d e1 m) (bindT F t d e2 m)
  | .name i, d, P, e1, e2, m, _, a => by
    rw [bindT, bindT, ← a.len]
    by_cases h : i < e1.length
    · rw [if_pos h, if_pos h]
      refine ⟨rfl, ⟨by rw [List.length_set, List.length_set, a.len], fun j hj => ?_⟩⟩
      by_cases e : i = j
      · subst e
        rw [List.getElem?_set_self h, List.getElem?_set_self (by rw [← a.len]; exact h)]
      · rw [List.getElem?_set_ne e, List.getElem?_set_ne e]
        refine a.at_ j fun p => hj ⟨p, ?_⟩
        show j ∉ [i]
        simp [Ne.symm e]
    · rw [if_neg h, if_neg h]
      trivial
  | .sub a i, _, _, _, _, _, h, _ => by cases h
  | .tup ts, d, P, e1, e2, m, h, a => by
    cases d with
    | tup ds => exact bindTs_ag (F := F) ts ds P e1 e2 m h a
    | _ => exact (trivial : ResAg _ .bad .bad)
theorem bindTs_ag {F : Fn} : ∀ (ts : Ts) (ds : List D) (P : Nat → Prop) (e1 e2 : Env) (m : Sto), Ts.only ts = true → Ag P e1 e2 → ResAg (fun i => P i ∧ i ∉ Ts.nm ts) (bindTs F ts ds e1 m) (bindTs F ts ds e2 m)
  | .nil, [], P, e1, e2, m, _, a => ⟨rfl, a.len, fun i hi => a.at_ i fun p => hi ⟨p, by simp [Ts.nm]⟩⟩
  | .nil, _ :: _, _, _, _, _, _, _ => trivial
  | .cons _ _, [], _, _, _, _, _, _ => trivial
  | .cons t ts, d :: ds, P, e1, e2, m, h, a => by
    rw [bindTs, bindTs]
    have h : (T.only t && Ts.only ts) = true := h
    rw [Bool.and_eq_true] at h
    have z := bindT_ag (F := F) t d P e1 e2 m h.1 a
    cases q1 : bindT F t d e1 m with
    | ok f1 m1 =>
      cases q2 : bindT F t d e2 m with
      | ok f2 m2 =>
        rw [q1, q2] at z
        obtain ⟨rfl, z⟩ := z
        rw [bnd_ok q1, bnd_ok q2]
        have w := bindTs_ag (F := F) ts ds _ f1 f2 m1 h.2 z
        have e : (fun i => (P i ∧ i ∉ T.nm t) ∧ i ∉ Ts.nm ts) = fun i => P i ∧ i ∉ Ts.nm (.cons t ts) := by
          funext i
          rw [Ts.nm, List.mem_append, not_or]
          exact propext ⟨fun ⟨⟨x, y⟩, z⟩ => ⟨x, y, z⟩, fun ⟨x, y, z⟩ => ⟨⟨x, y⟩, z⟩⟩
        rw [← e]
        exact w
      | bad =>
        rw [q1, q2] at z
        exact z.elim
      | exc x m2 =>
        rw [q1, q2] at z
        exact z.elim
    | bad =>
      cases q2 : bindT F t d e2 m with
      | ok f2 m2 =>
        rw [q1, q2] at z
        exact z.elim
      | bad =>
        rw [bnd_bad q1, bnd_bad q2]
        trivial
      | exc x m2 =>
        rw [q1, q2] at z
        exact z.elim
    | exc x m1 =>
      rw [q1] at z
      cases q2 : bindT F t d e2 m <;> (rw [q2] at z; exact z.elim)
end
theorem bindT_wipe {F : Fn} {t : T} {vs : List Nat} (h : T.only t = true) (hv : ∀ i ∈ vs, i ∈ T.nm t) (d : D) (env : Env) (m : Sto) : bindT F t d (wipeE env vs) m = bindT F t d env m := by
  have z := bindT_ag (F := F) t d (fun i => i ∈ vs) (wipeE env vs) env m h ⟨wipeE_length _ _, fun i hi => wipeE_out env hi⟩
  cases q1 : bindT F t d (wipeE env vs) m with
  | ok f1 m1 =>
    cases q2 : bindT F t d env m with
    | ok f2 m2 =>
      rw [q1, q2] at z
      obtain ⟨rfl, z⟩ := z
      have e : f1 = f2 := List.ext_getElem? fun i => z.at_ i fun ⟨p, n⟩ => n (hv i p)
      rw [e]
    | bad =>
      rw [q1, q2] at z
      exact z.elim
    | exc x m2 =>
      rw [q1, q2] at z
      exact z.elim
  | bad =>
    cases q2 : bindT F t d env m with
    | bad => rfl
    | ok f2 m2 =>
      rw [q1, q2] at z
      exact z.elim
    | exc x m2 =>
      rw [q1, q2] at z
      exact z.elim
  | exc x m1 =>
    rw [q1] at z
    cases q2 : bindT F t d env m <;> (rw [q2] at z; exact z.elim)
theorem nMem_iff {i : Nat} : ∀ {l : List Nat}, nMem i l = true → i ∈ l
  | [], h => by cases h
  | j :: r, h => by
    rw [nMem] at h
    split at h
    · rename_i e
      rw [Nat.eq_of_beq_eq_true e]
      exact List.mem_cons_self
    · exact List.mem_cons_of_mem _ (nMem_iff h)
section
variable {F : Fn} {k : Nat} {c : Ctx} {X : Cx} {g : Gd}
/-- what a comprehension's rule asks -/
structure CompOk (c : Ctx) (F : Fn) (X : Cx) (g : Gd) (elt : E) (t : T) (it : I) (d : E) (y tg iter : Expr) (ifs : List Expr) (scope : Scope) : Prop where
  blk : BlkOk X.N X.env.scope scope (ownOf c.N scope.names)
  hn : ∀ i ∈ T.nm t, i ∈ (ownOf c.N scope.names).map (·.2)
  hw : ∀ d env m, bindT F t d (wipeE env ((ownOf c.N scope.names).map (·.2))) m = bindT F t d env m
  it : PI X tg iter (tI g (evI F it))
  fo : ∀ x, foldedSetIterable iter X.env x = pure x
  tg : ∀ (s : Shared) (H : Hp) (C : Addr) (cl : List (Str × Addr)) (fp : List Addr), PG (X.blk s H scope (compEnvC scope cl C X.env) fp) tg (tG g.off (T.nm t) (bindT F t))
  te : ∀ (s : Shared) (H : Hp) (C : Addr) (cl : List (Str × Addr)) (fp : List Addr), PTs (X.blk s H scope (compEnvC scope cl C X.env) fp) ifs (tTe g.off (ev F d))
  el : ∀ (s : Shared) (H : Hp) (C : Addr) (cl : List (Str × Addr)) (fp : List Addr), PE (X.blk s H scope (compEnvC scope cl C X.env) fp) y (tOf g.off (ev F elt))
theorem compOk (S : Site c F k X g) {elt : E} {t : T} {it : I} {d : E} (he : OkE F k elt) (ht : OkT F k t) (hi : OkI F k it) (hd : OkE F k d) {y tg iter : Expr} {ifs : List Expr} {scope : Scope}
    (h : (compB2 c scope t && chkI c it tg iter && chkTg (c.blk scope) t tg && (match ifs with
      | [] => (match (generalizing := false) d with
        | .cst (.bl true) => true
        | _ => false)
      | [z] => tst d && chkE (c.blk scope) d z
      | _ => false) && chkE (c.blk scope) elt y) = true) : CompOk c F X g elt t it d y tg iter ifs scope := by
  rw [Bool.and_eq_true, Bool.and_eq_true, Bool.and_eq_true, Bool.and_eq_true] at h
  obtain ⟨⟨⟨⟨h1, h2⟩, h3⟩, h4⟩, h5⟩ := h
  unfold compB2 at h1
  simp only [Bool.and_eq_true, List.all_eq_true] at h1
  obtain ⟨⟨⟨b1, b2⟩, b3⟩, b4⟩ := h1
  obtain ⟨i1, i2⟩ := hi c X g S tg iter h2
  refine ⟨blkB_ok S b1, fun i hi => ?_, bindT_wipe b2 fun i hi => ?_, i1, folded_of i2, fun s H C cl fp => (ht _ _ _ (S.blk s H scope C cl fp) tg h3).1, fun s H C cl fp => ?_, fun s H C cl fp => (he _ _ _ (S.blk s H scope C cl fp) y h5).1⟩
  · obtain ⟨p, hp, e⟩ := List.any_eq_true.mp (b4 i hi)
    exact List.mem_map.mpr ⟨p, hp, Nat.eq_of_beq_eq_true e⟩
  · obtain ⟨p, hp, e⟩ := List.mem_map.mp hi
    rw [← e]
    exact nMem_iff (b3 p hp)
  · have S2 := S.blk s H scope C cl fp
    cases ifs with
    | nil =>
      dsimp only at h4
      split at h4
      · exact sts_nil
      · cases h4
    | cons z rest =>
      cases rest with
      | nil =>
        dsimp only at h4
        rw [Bool.and_eq_true] at h4
        exact pts_one ((hd _ _ _ S2 z h4.2).2.1 h4.1)
      | cons z2 rest => cases h4
theorem o_comp {elt : E} {t : T} {it : I} {d : E} (he : OkE F k elt) (ht : OkT F k t) (hi : OkI F k it) (hd : OkE F k d) : OkE F k (.comp elt t it d) := by
  intro c X g S x h
  unfold chkE at h
  split at h
  · have z := compOk S he ht hi hd h
    exact raw_ok (se_comp S.hg S.calm S.nd z.it z.blk z.hn z.hw z.tg z.te z.el z.fo) rfl
  · cases h
/-! ### rows -/
theorem os_nil : OkEs F k .nil := by
  refine fun c X g S => ⟨fun l h => ?_, fun l ps h => ?_, fun env m ds m' e => ?_⟩
  · unfold chkEs at h
    split at h
    · exact ⟨sa_nil, rfl, rfl, [], .nil⟩
    · cases h
  · unfold chkKs at h
    split at h
    · exact ⟨sk_nil, rfl, rfl⟩
    · cases h
  · have e : R.ok [] m = R.ok ds m' := e
    cases e
    rfl
theorem os_cons {e : E} {es : Es} (he : OkE F k e) (hs : OkEs F k es) : OkEs F k (.cons e es) := by
  refine fun c X g S => ⟨fun l h => ?_, fun l ps h => ?_, fun env m ds m' q => ?_⟩
  · unfold chkEs at h
    split at h
    · rename_i x l
      simp only [Bool.and_eq_true, Bool.not_eq_true'] at h
      obtain ⟨⟨h1, h2⟩, h3⟩ := h
      obtain ⟨w1, w2, w3, ts, w4⟩ := (hs c X g S).1 _ h3
      have ze := (he c X g S _ h2).1
      refine ⟨sa_cons ze w1 (star_cons h1), ?_, by rw [List.length_cons, w3]; rfl, _, .cons ze w4⟩
      unfold noStar at w2 ⊢
      rw [List.all_cons, w2, h1]
      rfl
    · cases h
  · unfold chkKs at h
    split at h
    · rename_i kw l p ps
      simp only [Bool.and_eq_true] at h
      obtain ⟨⟨h1, h2⟩, h3⟩ := h
      obtain ⟨w1, w2, w3⟩ := (hs c X g S).2.1 _ _ h3
      have ze := (he c X g S _ h2).1
      obtain ⟨a, v, q⟩ := kw
      refine ⟨sk_cons ze w1, ?_, by rw [List.length_cons, w3]; rfl⟩
      rw [List.map_cons, List.map_cons, w2]
      dsimp only at h1 ⊢
      split at h1
      · rw [sEq_iff h1]
      · cases h1
    · cases h
  · have w3 := (hs c X g S).2.2
    have q : bnd (ev F e env) (fun d => bnd (evs F es env) fun ds => ret (d :: ds)) m = .ok ds m' := q
    cases h1 : ev F e env m with
    | ok d m1 =>
      rw [bnd_ok h1] at q
      cases h2 : evs F es env m1 with
      | ok ds2 m2 =>
        rw [bnd_ok h2] at q
        have q : R.ok (d :: ds2) m2 = .ok ds m' := q
        cases q
        rw [List.length_cons, w3 env m1 _ _ h2]
        rfl
      | bad =>
        rw [bnd_bad h2] at q
        cases q
      | exc x m2 =>
        rw [bnd_exc h2] at q
        cases q
    | bad =>
      rw [bnd_bad h1] at q
      cases q
    | exc x m2 =>
      rw [bnd_exc h1] at q
      cases q
/-! ### iterables -/
theorem oi_seq {e : E} (he : OkE F k e) : OkI F k (.seq e) := by
  intro c X g S tg x h
  unfold chkI at h
  rw [Bool.and_eq_true, Bool.not_eq_true'] at h
  exact ⟨si_seq S.hg (he c X g S _ h.2).1, h.1⟩
theorem oi_chars {e : E} (he : OkE F k e) : OkI F k (.chars e) := by
  intro c X g S tg x h
  unfold chkI at h
  rw [Bool.and_eq_true, Bool.not_eq_true'] at h
  exact ⟨si_chars (he c X g S _ h.2).1, h.1⟩
theorem oi_range {es : Es} (hs : OkEs F k es) : OkI F k (.range es) := by
  intro c X g S tg x h
  unfold chkI at h
  have f1 := frB S (l := n_range) (by decide)
  rw [← e_range] at f1
  split at h
  · rw [Bool.and_eq_true] at h
    obtain ⟨e1, g1⟩ := S.blt h.1
    subst e1
    obtain ⟨w1, w2, w3, _⟩ := (hs c X g S).1 _ h.2
    have hl := (hs c X g S).2.2
    rw [← w3] at hl
    unfold noStar at w2
    rw [List.all_cons, Bool.and_eq_true, Bool.not_eq_true'] at w2
    rw [← e_range] at g1 ⊢
    exact ⟨si_range1 g1 f1 w1 hl (star_cons w2.1), rfl⟩
  · rw [Bool.and_eq_true] at h
    obtain ⟨e1, g1⟩ := S.blt h.1
    subst e1
    obtain ⟨w1, w2, w3, _⟩ := (hs c X g S).1 _ h.2
    have hl := (hs c X g S).2.2
    rw [← w3] at hl
    unfold noStar at w2
    rw [List.all_cons, Bool.and_eq_true, Bool.not_eq_true', List.all_cons, Bool.and_eq_true, Bool.not_eq_true'] at w2
    rw [← e_range] at g1 ⊢
    refine ⟨si_range2 g1 f1 w1 hl ?_ (star_cons w2.2.1), rfl⟩
    rw [star_cons w2.1, star_cons w2.2.1]
    rfl
  · rw [Bool.and_eq_true] at h
    obtain ⟨e1, g1⟩ := S.blt h.1
    subst e1
    obtain ⟨w1, w2, w3, _⟩ := (hs c X g S).1 _ h.2
    have hl := (hs c X g S).2.2
    rw [← w3] at hl
    unfold noStar at w2
    rw [List.all_cons, Bool.and_eq_true, Bool.not_eq_true'] at w2
    rw [← e_range] at g1 ⊢
    exact ⟨si_range3 g1 f1 w1 hl (star_cons w2.1) (star_any w2.2), rfl⟩
  · cases h
theorem oi_enum {e : E} (he : OkE F k e) : OkI F k (.enum e) := by
  intro c X g S tg x h
  unfold chkI at h
  split at h
  · split at h
    · simp only [Bool.and_eq_true, Bool.not_eq_true'] at h
      obtain ⟨⟨q1, q2⟩, q3⟩ := h
      obtain ⟨e1, g1⟩ := S.blt q1
      subst e1
      have f1 := frB S (l := n_enumerate) (by decide)
      rw [← e_enumerate] at f1 g1 ⊢
      exact ⟨si_enum S.hg g1 f1 (he c X g S _ q3).1 (star_cons q2), rfl⟩
    · cases h
  · cases h
theorem oi_zip {a b : E} (ha : OkE F k a) (hb : OkE F k b) : OkI F k (.zip a b) := by
  intro c X g S tg x h
  unfold chkI at h
  split at h
  · split at h
    · rename_i n np y z pos
      simp only [Bool.and_eq_true, Bool.not_eq_true'] at h
      obtain ⟨⟨⟨⟨q1, q2⟩, q3⟩, q4⟩, q5⟩ := h
      obtain ⟨e1, g1⟩ := S.blt q1
      subst e1
      have f1 := frB S (l := n_zip) (by decide)
      rw [← e_zip] at f1 g1 ⊢
      exact ⟨si_zip S.hg g1 f1 (ha c X g S _ q4).1 (hb c X g S _ q5).1 (star_cons q2) (star_cons q3) (star_any (by unfold noStar; rw [List.all_cons, q3]; rfl)), rfl⟩
    · cases h
  · cases h
theorem oi_zip3 {a b d : E} (ha : OkE F k a) (hb : OkE F k b) (hd : OkE F k d) : OkI F k (.zip3 a b d) := by
  intro c X g S tg x h
  unfold chkI at h
  split at h
  · split at h
    · rename_i n np y z u pos
      simp only [Bool.and_eq_true, Bool.not_eq_true'] at h
      obtain ⟨⟨⟨⟨⟨⟨q1, q2⟩, q3⟩, q4⟩, q5⟩, q6⟩, q7⟩ := h
      obtain ⟨e1, g1⟩ := S.blt q1
      subst e1
      have f1 := frB S (l := n_zip) (by decide)
      rw [← e_zip] at f1 g1 ⊢
      exact ⟨si_zip3 S.hg g1 f1 (ha c X g S _ q5).1 (hb c X g S _ q6).1 (hd c X g S _ q7).1 (star_cons q2) (star_cons q3) (star_cons q4) (star_any (by unfold noStar; rw [List.all_cons, List.all_cons, q3, q4]; rfl)), rfl⟩
    · cases h
  · cases h
/-! ### targets -/
theorem ot_name (i : Nat) : OkT F k (.name i) := by
  intro c X g S x h
  unfold chkTg at h
  split at h
  · rename_i n p
    rw [Bool.and_eq_true] at h
    have hk := S.kind n
    refine ⟨?_, rfl⟩
    have q := h.2
    split at q
    · rename_i e
      rw [e] at hk
      exact sg_name S.nd (S.slot h.1) (.inl hk) (.inr hk)
    · rename_i e
      rw [e] at hk
      exact sg_name S.nd (S.slot h.1) (.inr hk) (.inl (S.fn n q))
    · cases q
  · cases h
theorem ot_sub {a i : E} (ha : OkE F k a) (hi : OkE F k i) : OkT F k (.sub a i) := by
  intro c X g S x h
  unfold chkTg at h
  split at h
  · simp only [Bool.and_eq_true, Bool.not_eq_true'] at h
    obtain ⟨⟨h1, h2⟩, h3⟩ := h
    have hu := S.units
    exact ⟨sg_sub S.hg (by omega) (ha c X g S _ h2).1 (hi c X g S _ h3).1 (sub_of h1), rfl⟩
  · cases h
theorem ot_tup {ts : Ts} (hs : OkTs F k ts) : OkT F k (.tup ts) := by
  intro c X g S x h
  unfold chkTg at h
  split at h
  · rw [Bool.and_eq_true] at h
    obtain ⟨w1, w2, w3⟩ := hs c X g S _ h.2
    refine ⟨?_, rfl⟩
    exact sg_tup S.hg S.calm w1 (asg_len.trans w2) (asg_star h.1) w3
  · cases h
theorem ots_nil : OkTs F k .nil := by
  intro c X g S l h
  unfold chkTgs at h
  split at h
  · refine ⟨?_, rfl, fun ds env m e' m' e => ?_⟩
    · have z : (fun (ds : List D) (env : Env) => (match ds with
        | [] => ret env
        | _ => bad : M Env)) = bindTs F .nil := by
        funext ds env
        cases ds <;> rfl
      rw [← z]
      exact sgs_nil
    · cases ds with
      | nil => rfl
      | cons d ds => cases e
  · cases h
theorem ots_cons {t : T} {ts : Ts} (ht : OkT F k t) (hs : OkTs F k ts) : OkTs F k (.cons t ts) := by
  intro c X g S l h
  unfold chkTgs at h
  split at h
  · rw [Bool.and_eq_true] at h
    obtain ⟨w1, w2, w3⟩ := hs c X g S _ h.2
    obtain ⟨z1, z2⟩ := ht c X g S _ h.1
    refine ⟨?_, by rw [List.length_cons, w2]; rfl, fun ds env m e' m' e => ?_⟩
    · have z : (fun (ds : List D) (env : Env) => (match ds with
        | d :: ds => bnd (bindT F t d env) fun env' => bindTs F ts ds env'
        | _ => bad : M Env)) = bindTs F (.cons t ts) := by
        funext ds env
        cases ds <;> rfl
      rw [← z]
      exact sgs_cons z1 w1 (asg_cons z2)
    · cases ds with
      | nil => cases e
      | cons d ds =>
        rw [bindTs] at e
        cases q : bindT F t d env m with
        | ok e1 m1 =>
          rw [bnd_ok q] at e
          rw [List.length_cons, w3 ds e1 m1 _ _ e]
          rfl
        | bad =>
          rw [bnd_bad q] at e
          cases e
        | exc x m1 =>
          rw [bnd_exc q] at e
          cases e
  · cases h
end
mutual
theorem okE (F : Fn) (k : Nat) : ∀ e : E, OkE F k e
  | .var i => o_var i
  | .cst d => o_cst d
  | .tup es => o_tup (okEs F k es)
  | .lst es => o_lst (okEs F k es)
  | .new e => o_new (okE F k e)
  | .bin o a b => o_bin o (okE F k a) (okE F k b)
  | .neg a => o_neg (okE F k a)
  | .cmp o a b => o_cmp o (okE F k a) (okE F k b)
  | .chn o p a b d => o_chn o p (okE F k a) (okE F k b) (okE F k d)
  | .and a b => o_and (okE F k a) (okE F k b)
  | .or a b => o_or (okE F k a) (okE F k b)
  | .not a => o_not (okE F k a)
  | .ite d a b => o_ite (okE F k d) (okE F k a) (okE F k b)
  | .idx a i => o_idx (okE F k a) (okE F k i)
  | .sl a lo hi => o_sl (okE F k a) (okE F k lo) (okE F k hi)
  | .call f es => o_call f (okEs F k es)
  | .blt f es => o_blt f (okEs F k es) (okOne F k es) (okTwo F k es)
  | .isa t e => o_isa t (okE F k e)
  | .listOf e => o_listOf (okE F k e)
  | .rev e => o_rev (okE F k e)
  | .sortOf e => o_sortOf (okE F k e)
  | .newd => o_newd
  | .rep a b => o_rep (okE F k a) (okE F k b)
  | .cat a b => o_cat (okE F k a) (okE F k b)
  | .app o e => o_app (okE F k o) (okE F k e)
  | .nop => o_nop
  | .fstr es => o_fstr (okEs F k es)
  | .fv e => o_fv (okE F k e)
  | .comp elt t it d => o_comp (okE F k elt) (okT F k t) (okI F k it) (okE F k d)
theorem okEs (F : Fn) (k : Nat) : ∀ es : Es, OkEs F k es
  | .nil => os_nil
  | .cons e es => os_cons (okE F k e) (okEs F k es)
theorem okOne (F : Fn) (k : Nat) : ∀ (es : Es) (e : E), es = .cons e .nil → OkE F k e
  | .nil, e, h => by cases h
  | .cons a es, e, h => by
    have z := okE F k a
    have h1 : a = e := by
      injection h
    rw [← h1]
    exact z
theorem okTwo (F : Fn) (k : Nat) : ∀ (es : Es) (e e2 : E), es = .cons e (.cons e2 .nil) → OkE F k e2
  | .nil, _, _, h => by cases h
  | .cons _ .nil, _, _, h => by cases h
  | .cons a (.cons b es), e, e2, h => by
    have z := okE F k b
    have h1 : b = e2 := by
      injection h with h3 h4
      injection h4
    rw [← h1]
    exact z
theorem okI (F : Fn) (k : Nat) : ∀ it : I, OkI F k it
  | .seq e => oi_seq (okE F k e)
  | .chars e => oi_chars (okE F k e)
  | .range es => oi_range (okEs F k es)
  | .enum e => oi_enum (okE F k e)
  | .zip a b => oi_zip (okE F k a) (okE F k b)
  | .zip3 a b c => oi_zip3 (okE F k a) (okE F k b) (okE F k c)
theorem okT (F : Fn) (k : Nat) : ∀ t : T, OkT F k t
  | .name i => ot_name i
  | .sub a i => ot_sub (okE F k a) (okE F k i)
  | .tup ts => ot_tup (okTs F k ts)
theorem okTs (F : Fn) (k : Nat) : ∀ ts : Ts, OkTs F k ts
  | .nil => ots_nil
  | .cons t ts => ots_cons (okT F k t) (okTs F k ts)
end
end Dh


set_option Elab.async false
set_option linter.all false
set_option maxRecDepth 100000
set_option maxHeartbeats 4000000
/-! DhSnd3: the check of statements; what it says is so. -/
namespace Dh
open PySem PySem.Spec PyProof.Rows L2

def locS (c : Ctx) (x : Str) : Bool := kIs .local (kindOfS c x)
def chkLc (c : Ctx) (t : T) (e : E) (tg v : Expr) : Bool := match tg with
  | .Name y _ => (match t with
    | .name i => slotIs c i y && locS c y && (match v with
      | .ListComp _ [⟨_, _, _, 0⟩] _ _ => (match e with
        | .comp elt t it d => chkE c (.comp elt t it d) v
        | .new (.comp elt t it d) => chkE c (.comp elt t it d) v
        | _ => false)
      | _ => false)
    | _ => false)
  | _ => false
def chkPar (c : Ctx) (ns : List Str) (t : T) (e : E) (tg v : Expr) : Bool := match e with
  | .tup es => (match tg with
    | .Tuple [.Name x _, .Name y _] _ _ => (match v with
      | .Tuple [a, b] _ _ => (match t with
        | .tup (.cons (.name i) (.cons (.name j) .nil)) => slotIs c i x && slotIs c j y && !(Nat.beq i j) && locS c x && locS c y && chkEs c es [a, b] && (match ns with
          | [m, n] => sEq m x.cps.toList && sEq n y.cps.toList
          | _ => false)
        | _ => false)
      | _ => false)
    | .Tuple [.Name x _, .Name y _, .Name z _] _ _ => (match v with
      | .Tuple [a, b, d] _ _ => (match t with
        | .tup (.cons (.name i) (.cons (.name j) (.cons (.name l) .nil))) => slotIs c i x && slotIs c j y && slotIs c l z && !(Nat.beq i j) && !(Nat.beq i l) && !(Nat.beq j l) && locS c x && locS c y && locS c z && chkEs c es [a, b, d] && (match ns with
          | [m, n, o] => sEq m x.cps.toList && sEq n y.cps.toList && sEq o z.cps.toList
          | _ => false)
        | _ => false)
      | _ => false)
    | _ => false)
  | _ => false
mutual
def chkS (c : Ctx) : S → Stmt → Bool
  | .asg t e, x => (match x with
    | .Assign [tg] v p => (match pureB (swapsWithSole [tg] v p.line (dummy c.sc)) with
      | some true => chkLc c t e tg v
      | some false => (match pureS (swappedStores [tg] v (dummy c.sc)) with
        | .no => chkTg c t tg && chkE c e v
        | .some ns => chkPar c ns t e tg v
        | .odd => false)
      | none => false)
    | _ => false)
  | .expr e, x => (match x with
    | .Expr v p => (match pureB (swapsWith v none p.line (dummy c.sc)) with
      | some false => chkE c e v
      | _ => false)
    | _ => false)
  | .ret e, x => (match x with
    | .Return (some v) _ => chkE c e v
    | .Return none _ => (match e with
      | .cst .non => true
      | _ => false)
    | _ => false)
  | .ifs d a b, x => (match x with
    | .If t l r _ => tst d && chkE c d t && chkSs c a l && chkSs c b r
    | _ => false)
  | .fors t it b, x => (match x with
    | .For tg iter body [] _ => chkTg c t tg && chkI c it tg iter && chkSs c b body
    | _ => false)
  | .whiles d b, x => (match x with
    | .While t body [] _ => tst d && chkE c d t && chkSs c b body
    | _ => false)
  | .pass, x => (match x with
    | .Pass _ => true
    | .Expr (.Constant (.str _) _ _) _ => true
    | _ => false)
  | .brk, x => (match x with
    | .Break _ => true
    | _ => false)
  | .cont, x => (match x with
    | .Continue _ => true
    | _ => false)
  | .raise, _ => true
def chkSs (c : Ctx) : Ss → List Stmt → Bool
  | .nil, l => (match l with
    | [] => true
    | _ => false)
  | .cons s ss, l => (match l with
    | x :: l => chkS c s x && chkSs c ss l
    | [] => false)
end
abbrev OkS (F : Fn) (k : Nat) (s : S) : Prop := ∀ (c : Ctx) (X : Cx) (g : Gd), Site c F k X g → PassesOwn (model X.prog X.w) X.A X.env X.xe → ∀ x : Stmt, chkS c s x = true → PS X x (tS g (run F s))
abbrev OkSs (F : Fn) (k : Nat) (ss : Ss) : Prop := ∀ (c : Ctx) (X : Cx) (g : Gd), Site c F k X g → PassesOwn (model X.prog X.w) X.A X.env X.xe → ∀ l : List Stmt, chkSs c ss l = true → PSs X l (tS g (runs F ss))
section
variable {F : Fn} {k : Nat} {c : Ctx} {X : Cx} {g : Gd}
theorem Site.loc (S : Site c F k X g) {x : Str} (h : locS c x = true) : X.env.scope.names.lookup x = some .local := (S.kind x).trans (kIs_iff h)
theorem nb {i j : Nat} (h : Nat.beq i j = false) : i ≠ j := fun e => by
  rw [e, Nat.beq_refl] at h
  cases h
theorem sEq_same {m x : Str} (h : sEq m x.cps.toList = true) : m = x := (sEq_iff h).trans (Str.self x)
theorem par_ok (S : Site c F k X g) {ns : List Str} {t : T} {e : E} {tg v : Expr} {pos : Pos} (h : chkPar c ns t e tg v = true) (hw : swappedStores [tg] v X.env = pure (some ns)) (hs : swapsWithSole [tg] v pos.line X.env = pure false) :
    PS X (.Assign [tg] v pos) (tS g (run F (.asg t e))) := by
  unfold chkPar at h
  split at h
  · rename_i es
    split at h
    · split at h
      · split at h
        · split at h
          · simp only [Bool.and_eq_true, Bool.not_eq_true'] at h
            obtain ⟨⟨⟨⟨⟨⟨h1, h2⟩, h3⟩, h4⟩, h5⟩, h6⟩, h7, h8⟩ := h
            have e1 := sEq_same h7
            have e2 := sEq_same h8
            subst e1 e2
            exact ss_par2 S.calm S.nd (S.slot h1) (S.slot h2) (nb h3) (S.loc h4) (S.loc h5) ((okEs F k es c X g S).1 _ h6).1 hw hs
          · simp at h
        · cases h
      · cases h
    · split at h
      · split at h
        · split at h
          · simp only [Bool.and_eq_true, Bool.not_eq_true'] at h
            obtain ⟨⟨⟨⟨⟨⟨⟨⟨⟨⟨h1, h2⟩, h3⟩, h4⟩, h5⟩, h6⟩, h7⟩, h8⟩, h9⟩, ha⟩, ⟨hb, hc⟩, hd⟩ := h
            have e1 := sEq_same hb
            have e2 := sEq_same hc
            have e3 := sEq_same hd
            subst e1 e2 e3
            exact ss_par3 S.calm S.nd (S.slot h1) (S.slot h2) (S.slot h3) (nb h4) (nb h5) (nb h6) (S.loc h7) (S.loc h8) (S.loc h9) ((okEs F k es c X g S).1 _ ha).1 hw hs
          · simp at h
        · cases h
      · cases h
    · cases h
  · cases h
theorem lc_ok (S : Site c F k X g) {t : T} {e : E} {tg v : Expr} {pos : Pos} (h : chkLc c t e tg v = true) (hs : swapsWithSole [tg] v pos.line X.env = pure true) : PS X (.Assign [tg] v pos) (tS g (run F (.asg t e))) := by
  unfold chkLc at h
  split at h
  · rename_i y py
    split at h
    · rename_i i
      rw [Bool.and_eq_true, Bool.and_eq_true] at h
      obtain ⟨⟨h1, h2⟩, h3⟩ := h
      split at h3
      · rename_i ey tg2 iter ifs scope p2
        have key : ∀ (elt : E) (t2 : T) (it : I) (d : E), chkE c (.comp elt t2 it d) (.ListComp ey [⟨tg2, iter, ifs, 0⟩] scope p2) = true →
            PS X (.Assign [.Name y py] (.ListComp ey [⟨tg2, iter, ifs, 0⟩] scope p2) pos) (tAsg (tRawS g (compN (evI F it) (bindT F t2) (ev F d) (ev F elt))) (gName i)) := fun elt t2 it d h => by
          unfold chkE at h
          have z := compOk S (okE F k elt) (okT F k t2) (okI F k it) (okE F k d) h
          exact setLc_of S.hg S.calm S.nd (S.slot h1) (S.loc h2) hs z.it z.blk z.hn z.hw z.tg z.te z.el z.fo
        split at h3
        · exact ss_setLc (key _ _ _ _ h3)
        · exact ss_setLcN (key _ _ _ _ h3)
        · cases h3
      · cases h3
    · cases h
  · cases h
theorem s_asg (t : T) (e : E) : OkS F k (.asg t e) := by
  intro c X g S hp x h
  unfold chkS at h
  split at h
  · rename_i tg v p
    have hsc : swapsWithSole [tg] v p.line X.env = swapsWithSole [tg] v p.line (dummy c.sc) := by
      rw [← S.sc]
      exact swaps_sc
    have hst : swappedStores [tg] v X.env = swappedStores [tg] v (dummy c.sc) := by
      rw [← S.sc]
      exact stores_sc
    split at h
    · rename_i e1
      exact lc_ok S h (hsc.trans (pureB_iff e1))
    · rename_i e1
      have hs := hsc.trans (pureB_iff e1)
      split at h
      · rename_i e2
        rw [Bool.and_eq_true] at h
        obtain ⟨z1, z2⟩ := okT F k t c X g S tg h.1
        exact ss_asg (okE F k e c X g S v h.2).1 z1 hs (hst.trans (pureS_no e2)) (asg_cons z2)
      · rename_i ns e2
        exact par_ok S h (hst.trans (pureS_some e2)) hs
      · cases h
    · cases h
  · cases h
theorem s_expr (e : E) : OkS F k (.expr e) := by
  intro c X g S hp x h
  unfold chkS at h
  split at h
  · rename_i v p
    split at h
    · rename_i e1
      have hsc : swapsWith v none p.line X.env = swapsWith v none p.line (dummy c.sc) := by
        rw [← S.sc]
        exact swaps_sc
      exact ss_expr (okE F k e c X g S v h).1 (hsc.trans (pureB_iff e1))
    · cases h
  · cases h
theorem s_ret (e : E) : OkS F k (.ret e) := by
  intro c X g S hp x h
  unfold chkS at h
  split at h
  · exact ss_ret (okE F k e c X g S _ h).1
  · split at h
    · exact ss_retN
    · cases h
  · cases h
theorem s_if (d : E) {a b : Ss} (ha : OkSs F k a) (hb : OkSs F k b) : OkS F k (.ifs d a b) := by
  intro c X g S hp x h
  unfold chkS at h
  split at h
  · simp only [Bool.and_eq_true] at h
    obtain ⟨⟨⟨h1, h2⟩, h3⟩, h4⟩ := h
    exact ss_if ((okE F k d c X g S _ h2).2.1 h1) (ha c X g S hp _ h3) (hb c X g S hp _ h4)
  · cases h
theorem s_for (t : T) (it : I) {b : Ss} (hb : OkSs F k b) : OkS F k (.fors t it b) := by
  intro c X g S hp x h
  unfold chkS at h
  split at h
  · simp only [Bool.and_eq_true] at h
    obtain ⟨⟨h1, h2⟩, h3⟩ := h
    obtain ⟨i1, i2⟩ := okI F k it c X g S _ _ h2
    exact ss_for hp S.calm S.hg i1 (okT F k t c X g S _ h1).1 (hb c X g S hp _ h3) (folded_of i2)
  · cases h
theorem s_while (d : E) {b : Ss} (hb : OkSs F k b) : OkS F k (.whiles d b) := by
  intro c X g S hp x h
  unfold chkS at h
  split at h
  · simp only [Bool.and_eq_true] at h
    obtain ⟨⟨h1, h2⟩, h3⟩ := h
    exact ss_while hp ((okE F k d c X g S _ h2).2.1 h1) (hb c X g S hp _ h3)
  · cases h
theorem s_pass : OkS F k .pass := by
  intro c X g S hp x h
  unfold chkS at h
  split at h
  · exact ss_pass
  · exact ss_doc
  · cases h
theorem s_brk : OkS F k .brk := by
  intro c X g S hp x h
  unfold chkS at h
  split at h
  · exact ss_brk
  · cases h
theorem s_cont : OkS F k .cont := by
  intro c X g S hp x h
  unfold chkS at h
  split at h
  · exact ss_cont
  · cases h
theorem s_raise : OkS F k .raise := by
  intro c X g S hp x h
  exact PS.weak ps_never fun D σ H ⟨r, env, m, s, e, z⟩ => z
theorem ss0_nil : OkSs F k .nil := by
  intro c X g S hp l h
  unfold chkSs at h
  split at h
  · exact ss_nil
  · cases h
theorem ss0_cons {s : S} {ss : Ss} (h1 : OkS F k s) (h2 : OkSs F k ss) : OkSs F k (.cons s ss) := by
  intro c X g S hp l h
  unfold chkSs at h
  split at h
  · rw [Bool.and_eq_true] at h
    exact ss_cons (h1 c X g S hp _ h.1) (h2 c X g S hp _ h.2)
  · cases h
end
mutual
theorem okS (F : Fn) (k : Nat) : ∀ s : S, OkS F k s
  | .asg t e => s_asg t e
  | .expr e => s_expr e
  | .ret e => s_ret e
  | .ifs d a b => s_if d (okSs F k a) (okSs F k b)
  | .fors t it b => s_for t it (okSs F k b)
  | .whiles d b => s_while d (okSs F k b)
  | .pass => s_pass
  | .brk => s_brk
  | .cont => s_cont
  | .raise => s_raise
theorem okSs (F : Fn) (k : Nat) : ∀ ss : Ss, OkSs F k ss
  | .nil => ss0_nil
  | .cons s ss => ss0_cons (okS F k s) (okSs F k ss)
end
end Dh


set_option Elab.async false
set_option linter.all false
set_option maxRecDepth 100000
set_option maxHeartbeats 4000000
/-! DhBind: plain parameters bound by their places. -/
namespace Dh
open PySem PySem.Spec PyProof.Rows L2

theorem zip_look {ns : List Str} {us : List Value} : ns.Nodup → us.length = ns.length → ∀ n ∈ ns, ((ns.zip us).lookup n).isSome = true := by
  induction ns generalizing us with
  | nil => intro _ _ n h; cases h
  | cons a ns ih =>
    intro nd hl n hn
    cases us with
    | nil => cases hl
    | cons u us =>
      rw [List.zip_cons_cons, List.lookup]
      by_cases e : n = a
      · subst e
        rw [beq_self_eq_true]
        rfl
      · rw [beq_eq_false_iff_ne.mpr e]
        exact ih (List.nodup_cons.mp nd).2 (by simpa using hl) n (by simpa [e] using hn)
theorem fm_congr {α β : Type} {f g : α → Option β} : ∀ {l : List α}, (∀ x ∈ l, f x = g x) → l.filterMap f = l.filterMap g
  | [], _ => rfl
  | a :: l, h => by
    rw [List.filterMap_cons, List.filterMap_cons, h a List.mem_cons_self, fm_congr fun x hx => h x (List.mem_cons_of_mem _ hx)]
theorem zip_map {ns : List Str} {us : List Value} : ns.Nodup → us.length = ns.length → ns.filterMap (fun n => ((ns.zip us).lookup n).map (n, ·)) = ns.zip us := by
  induction ns generalizing us with
  | nil => intro _ _; rfl
  | cons a ns ih =>
    intro nd hl
    cases us with
    | nil => cases hl
    | cons u us =>
      have nd2 := List.nodup_cons.mp nd
      rw [List.zip_cons_cons, List.filterMap_cons, List.lookup, beq_self_eq_true]
      show (a, u) :: _ = _
      congr 1
      have z := ih nd2.2 (us := us) (by simpa using hl)
      refine (fm_congr fun n hn => ?_).trans z
      have e : n ≠ a := fun z => nd2.1 (z ▸ hn)
      rw [List.lookup, beq_eq_false_iff_ne.mpr e]
theorem bind_pos {fd : FuncData} {as : List Arg} (h1 : fd.params = ⟨[], as, none, [], [], none, []⟩) (h2 : fd.defaults = .none) (nd : (as.map (·.arg)).Nodup) {us : List Value} (hl : us.length = as.length) : bindArgs fd ⟨us, []⟩ = pure ((as.map (·.arg)).zip us) := by
  have hl2 : us.length = (as.map (·.arg)).length := by rw [List.length_map]; exact hl
  have e1 : ((as.map (·.arg)).filter fun n => (((as.map (·.arg)).zip us).lookup n).isNone) = [] := by
    rw [List.filter_eq_nil_iff]
    intro n hn
    have z := zip_look nd hl2 n hn
    cases q : ((as.map (·.arg)).zip us).lookup n with
    | none =>
      rw [q] at z
      cases z
    | some v => simp
  have e2 := zip_map nd hl2
  have pb : ∀ {α β : Type} (a : α) (f : α → Sem β), ((pure a : Sem α) >>= f) = f a := fun _ _ => rfl
  have sq : seqItems? Value.none = pure none := rfl
  have e3 : decide (us.length > (as.map (·.arg)).length) = false := decide_eq_false (by omega)
  unfold bindArgs
  rw [h1, h2]
  simp only [List.map_nil, List.nil_append, List.append_nil, List.forIn_nil, pb, sq, Option.getD_none, Array.toList_empty, List.length_nil, Nat.zero_sub, Nat.sub_zero, List.drop_nil, List.take_length, e1, e3, Bool.false_and, Bool.false_eq_true, if_false, List.isEmpty_nil, Bool.not_true, List.drop_length, List.zip_nil_right, List.zip_nil_left, e2]

theorem look_app {s : List (Str × Value)} {k a : Str} {v : Value} (h : s.lookup k = none) (e : k ≠ a) : (s ++ [(a, v)]).lookup k = none := by
  induction s with
  | nil =>
    show (match k == a with
      | true => some v
      | false => none) = none
    rw [beq_eq_false_iff_ne.mpr e]
  | cons p s ih =>
    obtain ⟨b, u⟩ := p
    rw [List.cons_append, List.lookup]
    rw [List.lookup] at h
    cases q : k == b with
    | true =>
      rw [q] at h
      cases h
    | false =>
      rw [q] at h
      exact ih h
theorem kw_turns {β : Type} {e0 : β} {ns : List Str} (f : Str × Value → List (Str × Value) × β → Sem (ForInStep (List (Str × Value) × β))) (hf : ∀ k v s, k ∈ ns → s.lookup k = none → f (k, v) (s, e0) = pure (.yield (s ++ [(k, v)], e0))) :
    ∀ (l : List Str) (us : List Value) (s : List (Str × Value)), l.Nodup → (∀ k ∈ l, k ∈ ns ∧ s.lookup k = none) → us.length = l.length → forIn (l.zip us) (s, e0) f = (pure (s ++ l.zip us, e0) : Sem _)
  | [], us, s, _, _, _ => by
    rw [List.zip_nil_left, List.append_nil]
    rfl
  | k :: l, [], s, _, _, h => by cases h
  | k :: l, u :: us, s, nd, hs, hl => by
    have nd2 := List.nodup_cons.mp nd
    rw [List.zip_cons_cons, List.forIn_cons, hf k u s (hs k List.mem_cons_self).1 (hs k List.mem_cons_self).2]
    show forIn (l.zip us) (s ++ [(k, u)], e0) f = _
    rw [kw_turns f hf l us (s ++ [(k, u)]) nd2.2 (fun n hn => ⟨(hs n (List.mem_cons_of_mem _ hn)).1, look_app (hs n (List.mem_cons_of_mem _ hn)).2 fun z => nd2.1 (z ▸ hn)⟩) (by simpa using hl)]
    rw [List.append_assoc]
    rfl
theorem bind_kw {fd : FuncData} {as : List Arg} (h1 : fd.params = ⟨[], as, none, [], [], none, []⟩) (h2 : fd.defaults = .none) (nd : (as.map (·.arg)).Nodup) {us : List Value} (hl : us.length = as.length) : bindArgs fd ⟨[], (as.map (·.arg)).zip us⟩ = pure ((as.map (·.arg)).zip us) := by
  have hl2 : us.length = (as.map (·.arg)).length := by rw [List.length_map]; exact hl
  have e1 : ((as.map (·.arg)).filter fun n => (((as.map (·.arg)).zip us).lookup n).isNone) = [] := by
    rw [List.filter_eq_nil_iff]
    intro n hn
    have z := zip_look nd hl2 n hn
    cases q : ((as.map (·.arg)).zip us).lookup n with
    | none =>
      rw [q] at z
      cases z
    | some v => simp
  have e2 := zip_map nd hl2
  have pb : ∀ {α β : Type} (a : α) (f : α → Sem β), ((pure a : Sem α) >>= f) = f a := fun _ _ => rfl
  have sq : seqItems? Value.none = pure none := rfl
  unfold bindArgs
  rw [h1, h2]
  simp only [List.map_nil, List.nil_append, List.append_nil, List.zip_nil_right]
  rw [kw_turns (ns := as.map (·.arg)) (e0 := []) _ (fun k v s hk hs => ?_) (as.map (·.arg)) us [] nd (fun k hk => ⟨hk, rfl⟩) hl2]
  · have e3 : decide (0 > (as.map (·.arg)).length) = false := decide_eq_false (by omega)
    simp only [List.nil_append, pb, sq, Option.getD_none, Array.toList_empty, List.length_nil, Nat.zero_sub, Nat.sub_zero, List.drop_nil, List.take_length, e1, e3, Bool.false_and, Bool.false_eq_true, if_false, List.isEmpty_nil, Bool.not_true, List.drop_length, List.zip_nil_right, List.zip_nil_left, e2, List.forIn_nil]
  · have c1 : ((as.map (·.arg)).contains k) = true := List.contains_iff_mem.mpr hk
    simp only [c1, hs, Bool.true_or, if_true, Option.isSome_none, Bool.false_eq_true, if_false]
/-- both ways of a call -/
theorem binds_of {K : Frag} {x qual : Str} {as : List Arg} {body : List Stmt} {scope : Scope} {f : Addr} {fd : FuncData} (F : FunD K x qual ⟨[], as, none, [], [], none, []⟩ body scope [] [] f fd) (nd : (as.map (·.arg)).Nodup) : Binds K fd (as.map (·.arg)) [] ∧ KwB K fd (as.map (·.arg)) := by
  obtain ⟨oc, od, dV, kV, doc, pm, an, cdv, ct, osl, rfl, lk, hcd, hD, hK⟩ := F.ex
  rcases hD with ⟨_, rfl⟩ | ⟨e, _⟩
  · refine ⟨.all fun us hl => bind_pos rfl rfl nd (by rw [hl, List.length_map]), fun s us _ hl => .of_eq (bind_kw rfl rfl nd (by rw [hl, List.length_map]))⟩
  · exact absurd rfl e
end Dh


set_option Elab.async false
set_option linter.all false
set_option maxRecDepth 100000
set_option maxHeartbeats 4000000
/-! DhTab: all defs of the program keep what their meanings tell. -/
namespace Dh
open PySem PySem.Spec PyProof.Rows L2

/-- a def: its signature, its names, its meaning, its text -/
structure Ent where
  sig : Sig
  N : List (List Nat)
  ir : Ss
  st : Stmt
def Ent.df (e : Ent) : Df := ⟨e.sig.ps.length, e.N.length, e.ir⟩
def progOf (tbl : List Ent) (i : Nat) : Option Df := (tbl[i]?).map Ent.df
def noDup : List (List Nat) → Bool
  | [] => true
  | a :: l => !(l.any (nEq a)) && noDup l
theorem noDup_iff : ∀ {l : List (List Nat)}, noDup l = true → l.Nodup
  | [], _ => List.nodup_nil
  | a :: l, h => by
    rw [noDup, Bool.and_eq_true, Bool.not_eq_true'] at h
    refine List.nodup_cons.mpr ⟨fun hm => ?_, noDup_iff h.2⟩
    have z : l.any (nEq a) = true := List.any_eq_true.mpr ⟨a, hm, nEq_self a⟩
    rw [z] at h
    cases h.1
theorem nodup_txt {l : List (List Nat)} (h : l.Nodup) : (l.map txt).Nodup := List.Pairwise.map _ (fun _ _ n e => n (txt_inj e)) h
def argsAre : List Arg → List (List Nat) → Bool
  | [], [] => true
  | a :: l, p :: r => if sEq a.arg p then argsAre l r else false
  | _, _ => false
theorem argsAre_iff : ∀ {l : List Arg} {r : List (List Nat)}, argsAre l r = true → l.map (·.arg) = r.map txt
  | [], [], _ => rfl
  | [], _ :: _, h => by cases h
  | _ :: _, [], h => by cases h
  | a :: l, p :: r, h => by
    rw [argsAre] at h
    split at h
    · rename_i e
      rw [List.map_cons, List.map_cons, argsAre_iff h, sEq_iff e]
    · cases h
/-- the parameters come first -/
def firsts : List (List Nat) → List (List Nat) → Bool
  | [], _ => true
  | p :: ps, n :: N => if nEq p n then firsts ps N else false
  | _ :: _, [] => false
theorem firsts_iff : ∀ {ps N : List (List Nat)}, firsts ps N = true → N.take ps.length = ps
  | [], _, _ => rfl
  | p :: ps, [], h => by cases h
  | p :: ps, n :: N, h => by
    rw [firsts] at h
    split at h
    · rename_i e
      rw [List.length_cons, List.take_succ_cons, firsts_iff h, nEq_iff e]
    · cases h
def locOrCell : Option NameKind → Bool
  | some .local => true
  | some .cell => true
  | _ => false
def scopeB (ps N : List (List Nat)) (sc : Scope) : Bool := isFn sc.kind && !sc.isCoroutine && !sc.isGenerator && noDup N && firsts ps N && ps.all (fun p => locOrCell (look sc.names p)) && sc.names.all fun y => !(kEq y.2 .free)
theorem scopeB_ok {ps N : List (List Nat)} {sc : Scope} (h : scopeB ps N sc = true) : FnScope (N.map txt) (ps.map txt) sc := by
  unfold scopeB at h
  simp only [Bool.and_eq_true, Bool.not_eq_true', List.all_eq_true] at h
  obtain ⟨⟨⟨⟨⟨⟨h1, h2⟩, h3⟩, h4⟩, h5⟩, h6⟩, h7⟩ := h
  refine ⟨?_, h2, h3, nodup_txt (noDup_iff h4), ?_, fun x hx => ?_, fun y hy e => ?_⟩
  · cases hk : sc.kind <;> rw [hk] at h1 <;> first | rfl | cases h1
  · rw [List.length_map, ← List.map_take, firsts_iff h5]
  · obtain ⟨p, hp, rfl⟩ := List.mem_map.mp hx
    have z := h6 p hp
    have e := look_eq sc.names (txt p)
    have e : look sc.names p = sc.names.lookup (txt p) := e
    rw [e] at z
    cases q : sc.names.lookup (txt p) with
    | none =>
      rw [q] at z
      cases z
    | some k =>
      rw [q] at z
      cases k with
      | «local» => exact .inl rfl
      | cell => exact .inr rfl
      | _ => cases z
  · have z := h7 y hy
    rw [e] at z
    cases z
def Ent.ctx (fs : List Sig) (gs : List (List Nat × D)) (e : Ent) (sc : Scope) : Ctx := ⟨e.N, sc, none, fs, gs⟩
def chkEnt (fs : List Sig) (gs : List (List Nat × D)) (e : Ent) : Bool := match e.st with
  | .FunctionDef n ⟨[], as, none, [], [], none, []⟩ body _ _ _ sc _ _ _ => sEq n e.sig.nm && argsAre as e.sig.ps && scopeB e.sig.ps e.N sc && chkSs (e.ctx fs gs sc) e.ir body
  | _ => false
/-- a text's def as the head knows it -/
def defOf (st : Stmt) : He.DefD := match st with
  | .FunctionDef n a body _ _ _ sc _ _ _ => ⟨(n, none), n, n, a, body, sc, [], []⟩
  | _ => ⟨("", none), "", "", ⟨[], [], none, [], [], none, []⟩, [], ⟨.function, [], false, false, []⟩, [], []⟩
/-- what is known of the module's names -/
structure Known (K : Frag) (mg : Str → Option Value) (tbl : List Ent) (gs : List (List Nat × D)) : Prop where
  defs : ∀ e ∈ tbl, ∃ f fd, FunD K (defOf e.st).name (defOf e.st).qual (defOf e.st).params (defOf e.st).body (defOf e.st).scope [] [] f fd ∧ mg (txt e.sig.nm) = some (.ref f)
  free : ∀ l, l ∈ frees → mg (txt l) = none
  gcd : mg (txt (bname .gcd)) = some (.builtin "math.gcd")
  gs : ∀ p, p ∈ gs → ∃ v u, mg (txt p.1) = some u ∧ RelV v u ∧ ∀ r H, Rp K r H p.2 v
/-- the wish behind an exception that leaves -/
abbrev XRel := Ex → List Addr → Hp → Value → Option Addr → Prop
section
variable {P : Program} {w : World} {K : Frag} {mg : Str → Option Value} {base : Heap} {tbl : List Ent} {gs : List (List Nat × D)} {XR : XRel}
theorem start_env {r : List Addr} {H : Hp} {ds : List D} {vs : List V} {n : Nat} {N : List Str} (t : Rps K r H ds vs) (hn : N.length = n) : EnvOk K r H (ds.map some ++ List.replicate (n - ds.length) none) (L2.start N vs) := by
  have hl := t.len
  subst hn
  refine ⟨?_, fun i d h => ?_⟩
  · unfold L2.start
    simp [hl]
  · unfold L2.start
    by_cases hi : i < ds.length
    · rw [List.getElem?_append_left (by simpa using hi), List.getElem?_map] at h
      obtain ⟨d', h1, h2⟩ := Option.map_eq_some_iff.mp h
      cases h2
      obtain ⟨v, h3, h4⟩ := t.get h1
      refine ⟨v, ?_, h4⟩
      rw [List.getElem?_append_left (by simp; omega), List.getElem?_map, h3]
      rfl
    · rw [List.getElem?_append_right (by simpa using hi)] at h
      rw [List.getElem?_replicate] at h
      split at h
      · cases h
      · cases h
theorem tab_ok (hK : Known K mg tbl gs) (hc : ∀ e ∈ tbl, chkEnt (tbl.map Ent.sig) gs e = true) : ∀ (k i : Nat) (e : Ent), tbl[i]? = some e →
    ∀ f fd, FunD K (defOf e.st).name (defOf e.st).qual (defOf e.st).params (defOf e.st).body (defOf e.st).scope [] [] f fd → FnG P w K mg base k f fd (e.sig.ps.map txt) (spOf K XR (e.sig.ps.map txt).length (callP (progOf tbl) k i)) := by
  intro k
  induction k with
  | zero =>
    intro i e he f fd F
    refine ⟨fun vs H Q E h => h.1, fun A o s H ar us vs Q E _ _ _ _ h => ?_⟩
    obtain ⟨_, r, ds, m, _, _, z⟩ := h
    exact z.elim
  | succ k ih =>
    intro i e he f fd F
    have hm := List.mem_of_getElem? he
    have h := hc e hm
    unfold chkEnt at h
    split at h
    · rename_i n as body dl rt tp sc ts bd ps hst
      simp only [Bool.and_eq_true] at h
      obtain ⟨⟨⟨h1, h2⟩, h3⟩, h4⟩ := h
      have hps := argsAre_iff h2
      rw [hst] at F
      have F : FunD K n n ⟨[], as, none, [], [], none, []⟩ body sc [] [] f fd := F
      refine fnG_of F (scopeB_ok h3) (fun vs H Q E h => h.1) fun cdv A o s H vs Q E hr hsp => ?_
      obtain ⟨hl, r, ds, m, st, t, z⟩ := hsp
      refine ⟨tS ⟨K, fun c d _ H => E c d H, XR⟩ (runs (callP (progOf tbl) k) e.ir), ?_, r, ds.map some ++ List.replicate (e.N.length - ds.length) none, m, st, start_env t (by rw [List.length_map]), ?_⟩
      · have S : Site (e.ctx (tbl.map Ent.sig) gs sc) (callP (progOf tbl) k) k (cxOf (L2.CX P w) P w K mg base (e.N.map txt) n sc f cdv A o s H E) ⟨K, fun c d _ H => E c d H, XR⟩ := {
          hg := rfl
          calm := rfl
          nd := (scopeB_ok h3).nd
          N := rfl
          sc := rfl
          fn := fun _ _ => rfl
          room := hr
          tk := takes_of rfl rfl rfl rfl
          free := hK.free
          gcd := fun x hx => by
            rw [sEq_iff hx]
            exact hK.gcd
          fs := fun j sg hj => by
            have hj : (tbl.map Ent.sig)[j]? = some sg := hj
            rw [List.getElem?_map] at hj
            obtain ⟨e2, q1, q2⟩ := Option.map_eq_some_iff.mp hj
            obtain ⟨f2, fd2, F2, g2⟩ := hK.defs e2 (List.mem_of_getElem? q1)
            have G2 := ih j e2 q1 f2 fd2 F2
            have c2 := hc e2 (List.mem_of_getElem? q1)
            unfold chkEnt at c2
            split at c2
            · rename_i n2 as2 body2 dl2 rt2 tp2 sc2 ts2 bd2 ps2 hst2
              simp only [Bool.and_eq_true] at c2
              obtain ⟨⟨⟨d1, d2⟩, d3⟩, d4⟩ := c2
              have hps2 := argsAre_iff d2
              have F3 := F2
              rw [hst2] at F3
              have F3 : FunD K n2 n2 ⟨[], as2, none, [], [], none, []⟩ body2 sc2 [] [] f2 fd2 := F3
              have sk := scopeB_ok d3
              have nd : (as2.map (·.arg)).Nodup := by
                rw [hps2, ← sk.pre]
                exact sk.nd.sublist (List.take_sublist _ _)
              obtain ⟨b1, b2⟩ := binds_of F3 nd
              rw [hps2] at b1 b2
              subst q2
              exact ⟨f2, fd2, g2, F2.kp, b1, fun _ => b2, G2⟩
            · cases c2
          gs := hK.gs }
        exact okSs _ _ e.ir _ _ _ S (passes_of rfl) body h4
      · have hpl : (e.sig.ps.map txt).length = e.sig.ps.length := List.length_map ..
        have e0 : callP (progOf tbl) (k + 1) i ds = callD (callP (progOf tbl) k) e.df ds := by
          have e1 : progOf tbl i = some e.df := by
            unfold progOf
            rw [he]
            rfl
          show (match progOf tbl i with
            | some d => callD (callP (progOf tbl) k) d ds
            | none => bad) = _
          rw [e1]
        rw [e0] at z
        unfold callD at z
        have hd : ds.length = e.df.ar := by
          have := t.len
          show ds.length = e.sig.ps.length
          omega
        rw [if_pos hd] at z
        have e2 : (e.df.n - e.df.ar) = e.N.length - ds.length := by
          show e.N.length - e.sig.ps.length = _
          rw [hd]
          rfl
        rw [e2] at z
        cases hx : runs (callP (progOf tbl) k) e.ir (ds.map some ++ List.replicate (e.N.length - ds.length) none) m with
        | bad =>
          have z := z
          rw [bnd_bad (show noExc (runs (callP (progOf tbl) k) e.df.body _) m = .bad by unfold noExc; rw [show runs (callP (progOf tbl) k) e.df.body _ m = .bad from hx])] at z
          exact z.elim
        | exc y m' =>
          rw [bnd_bad (show noExc (runs (callP (progOf tbl) k) e.df.body _) m = .bad by unfold noExc; rw [show runs (callP (progOf tbl) k) e.df.body _ m = .exc y m' from hx])] at z
          exact z.elim
        | ok fl m' =>
          rw [bnd_ok (show noExc (runs (callP (progOf tbl) k) e.df.body _) m = .ok fl m' by unfold noExc; rw [show runs (callP (progOf tbl) k) e.df.body _ m = .ok fl m' from hx])] at z
          cases fl with
          | nx e' => exact fun r' H' σ' x1 s1 k1 => z r' H' .non x1 s1 rfl
          | rt d => exact z
          | bk e' => exact z.elim
          | ct e' => exact z.elim
          | ex y e' => exact fun r' H' σ' c od x1 s1 k1 w1 => z r' H' c od x1 s1 w1
    · cases h
end
end Dh


set_option Elab.async false
set_option linter.all false
set_option maxRecDepth 100000
set_option maxHeartbeats 4000000
/-! DhHead: from the top of the program to the law's call. -/
namespace Dh
open PySem PySem.Spec PyProof.Rows L2

/-! ### the module's constants -/
mutual
def gvB (K : Frag) : Nat → Value → D → Bool
  | 0, _, _ => false
  | n + 1, u, d => (match u, d with
    | .int i _, .int j => decide (i = j)
    | .str x _, .str s => sEq x s
    | .bool a, .bl b => a == b
    | .none, .non => true
    | .ref a, .tup ds => (match K.lookup a with
      | some ⟨.type c, _, .seq its _, _⟩ => decide (c = "tuple") && Nat.ble its.size 1000 && gvBs K n its.toList ds
      | _ => false)
    | .ref a, .lst ds => (match K.lookup a with
      | some ⟨.type c, none, .seq its _, _⟩ => decide (c = "list") && Nat.ble its.size 1000 && gvBs K n its.toList ds
      | _ => false)
    | _, _ => false)
def gvBs (K : Frag) : Nat → List Value → List D → Bool
  | 0, _, _ => false
  | n + 1, us, ds => (match us, ds with
    | [], [] => true
    | u :: us, d :: ds => gvB K n u d && gvBs K n us ds
    | _, _ => false)
end
mutual
theorem gvB_ok {K : Frag} : ∀ (n : Nat) (u : Value) (d : D), gvB K n u d = true → ∃ v, RelV v u ∧ ∀ r H, Rp K r H d v
  | 0, u, d, h => by cases h
  | n + 1, u, d, h => by
    unfold gvB at h
    split at h
    · rw [of_decide_eq_true h]
      exact ⟨.int _, ⟨_, rfl⟩, fun _ _ => rfl⟩
    · rw [sEq_iff h]
      exact ⟨.str _, ⟨_, rfl⟩, fun _ _ => rfl⟩
    · rw [show _ = _ from eq_of_beq h]
      exact ⟨.bl _, rfl, fun _ _ => rfl⟩
    · exact ⟨.non, rfl, fun _ _ => rfl⟩
    · rename_i a ds
      split at h
      · rename_i q
        rw [Bool.and_eq_true, Bool.and_eq_true] at h
        obtain ⟨vs, h1, h2⟩ := gvBs_ok n _ _ h.2
        exact ⟨.ref a, rfl, fun r H => ⟨a, vs, rfl, .inr ⟨_, _, _, q, congrArg Value.type (of_decide_eq_true h.1.1), rfl, size_of h.1.2, h1⟩, h2 r H⟩⟩
      · cases h
    · rename_i a ds
      split at h
      · rename_i q
        rw [Bool.and_eq_true, Bool.and_eq_true] at h
        obtain ⟨vs, h1, h2⟩ := gvBs_ok n _ _ h.2
        exact ⟨.ref a, rfl, fun r H => ⟨a, vs, rfl, .inr (.inr ⟨_, _, _, q, congrArg Value.type (of_decide_eq_true h.1.1), rfl, rfl, size_of h.1.2, h1⟩), h2 r H⟩⟩
      · cases h
    · cases h
theorem gvBs_ok {K : Frag} : ∀ (n : Nat) (us : List Value) (ds : List D), gvBs K n us ds = true → ∃ vs, Vals vs us ∧ ∀ r H, Rps K r H ds vs
  | 0, us, ds, h => by cases h
  | n + 1, us, ds, h => by
    unfold gvBs at h
    split at h
    · exact ⟨[], .nil, fun _ _ => rfl⟩
    · rename_i u us d ds
      rw [Bool.and_eq_true] at h
      obtain ⟨v, h1, h2⟩ := gvB_ok n _ _ h.1
      obtain ⟨vs, h3, h4⟩ := gvBs_ok n _ _ h.2
      exact ⟨v :: vs, .cons h1 h3, fun r H => ⟨v, vs, rfl, h2 r H, h4 r H⟩⟩
    · cases h
end
/-- a constant of the module -/
def gcB (K : Frag) (p : List Nat × D) : Bool := match PySem.W.nsIn K mainGlobals (txt p.1) with
  | some (some u) => gvB K 60 u p.2
  | _ => false
def gcdB (K : Frag) : Bool := match PySem.W.nsIn K mainGlobals (txt (bname .gcd)) with
  | some (some (.builtin s)) => decide (s = "math.gcd")
  | _ => false
def extraB (gs : List (List Nat × D)) (K : Frag) : Bool := gcdB K && gs.all (gcB K)
/-! ### what is seen behind the top -/
def faOf (tbl : List Ent) : List He.Fa := tbl.map (fun e => .glo (defOf e.st).name) ++ frees.map (fun l => .free (txt l))
def fnOf' (tbl : List Ent) : List He.DefD := tbl.map fun e => defOf e.st
abbrev AlX : Type := He.AlD × Bool
def obsX (n : Nat) (tbl : List Ent) (gs : List (List Nat × D)) (g : Addr → Option Obj) : AlX := (He.obsDG n (faOf tbl) (fnOf' tbl) g, extraB gs (He.frG g (He.asD g n)))
def hookX (n : Nat) (tbl : List Ent) (gs : List (List Nat × D)) : PySem.W.Hook where
  α := AlX
  obs := fun s => obsX n tbl gs s.heap.get?
  val := fun _ => (He.valD (fnOf' tbl), true)
  says := fun _ h => ∃ K : Frag, K.In h ∧ He.SaysD (faOf tbl) (fnOf' tbl) K ∧ extraB gs K = true
  of := fun _ s e => ⟨_, He.frG_in, congrArg Prod.fst e, congrArg Prod.snd e⟩
  keeps := fun _ _ _ ⟨K, hK, c⟩ k => ⟨K, PySem.W.Frag.In.keeps hK k, c⟩
theorem obsX_eq {n : Nat} {tbl : List Ent} {gs : List (List Nat × D)} {g : Addr → Option Obj} {s : Shared} (h : ∀ a, g a = s.heap.get? a) : obsX n tbl gs g = (hookX n tbl gs).obs s := by
  have e : g = s.heap.get? := funext h
  rw [e]
  rfl
theorem known_of {K : Frag} {h : Heap} {mg : Str → Option Value} {tbl : List Ent} {gs : List (List Nat × D)} (X : K.In h) (G : h.Ns mainGlobals mg) (c : He.SaysD (faOf tbl) (fnOf' tbl) K) (x : extraB gs K = true) (hn : ∀ e ∈ tbl, sEq (defOf e.st).name e.sig.nm = true)
    (hd : ∀ e ∈ tbl, (defOf e.st).dfl = [] ∧ (defOf e.st).kwd = [] ∧ (defOf e.st).at_ = ((defOf e.st).name, none)) : Known K mg tbl gs := by
  have facts : ∀ f ∈ faOf tbl, f.ok K = true := fun f hf => by
    obtain ⟨i, hi, e⟩ := List.mem_iff_getElem.mp hf
    exact c.fact i (f := f) (by rw [List.getElem?_eq_getElem hi, e])
  unfold extraB at x
  rw [Bool.and_eq_true, List.all_eq_true] at x
  refine ⟨fun e he => ?_, fun l hl => ?_, ?_, fun p hp => ?_⟩
  · obtain ⟨i, hi⟩ := List.mem_iff_getElem?.mp he
    obtain ⟨fd, F⟩ := c.def_ i (d := defOf e.st) (by unfold fnOf'; rw [List.getElem?_map, hi]; rfl)
    obtain ⟨h1, h2, h3⟩ := hd e he
    have g1 := He.glo_ok X G (facts (.glo (defOf e.st).name) (by unfold faOf; exact List.mem_append_left _ (List.mem_map.mpr ⟨e, he, rfl⟩)))
    have e1 : He.fAd K (defOf e.st).at_ = He.ga K (defOf e.st).name := by rw [h3]; rfl
    have e2 : (defOf e.st).dvs K = [] := by unfold He.DefD.dvs; rw [h1]; rfl
    have e3 : (defOf e.st).kws K = [] := by unfold He.DefD.kws; rw [h2]; rfl
    rw [e1, e2, e3] at F
    exact ⟨_, fd, F, by rw [← sEq_iff (hn e he)]; exact g1⟩
  · exact He.free_ok X G (facts (.free (txt l)) (by unfold faOf; exact List.mem_append_right _ (List.mem_map.mpr ⟨l, hl, rfl⟩)))
  · have z := x.1
    unfold gcdB at z
    split at z
    · rename_i s q
      rw [of_decide_eq_true z] at q
      exact PySem.W.mg_of X G q
    · cases z
  · have z := x.2 p hp
    unfold gcB at z
    split at z
    · rename_i u q
      obtain ⟨v, h1, h2⟩ := gvB_ok _ _ _ z
      exact ⟨v, u, PySem.W.mg_of X G q, h1, h2⟩
    · cases z
/-! ### the law's call -/
theorem sto_nil {K : Frag} {H : Hp} : StoOk K [] H [] := ⟨rfl, List.nodup_nil, fun n a o h _ => by simp at h⟩
theorem rps_ints {K : Frag} {r : List Addr} {H : Hp} : ∀ ns : List Int, Rps K r H (ns.map D.int) (ns.map V.int)
  | [] => rfl
  | n :: ns => ⟨.int n, ns.map V.int, rfl, rfl, rps_ints ns⟩
theorem law_ends {P : Program} {w : World} {K : Frag} {mg mb : Str → Option Value} {k : Nat} {fa a : Addr} {fd : FuncData} {x : Str} {F : List D → M D} {XR : XRel} {s1 : Shared} {vs : List Value} {ns : List Int}
    (KX : K.In s1.heap) (hns : s1.heap.Ns mainGlobals mg) (hb : s1.heap.Ns builtinsNs mb) (hbb : ∀ x : Str, x ≠ "__name__" → mb x = bootBuiltins x) (hlim : s1.heap.NoLimit) (hg : s1.gens = #[])
    (ha : s1.heap.get? a = some { cls := .type "list", data := .seq vs.toArray }) (hi : IntsAre vs ns) (hl : ns.length ≤ sizeLine) (hr : Roomy k callerA)
    (G : ∀ base : Heap, FnG P w K mg base k fa fd [x] (spOf K XR 1 F)) (hbind : ∀ (s : Shared) (u : Value), BindsTo s fd ⟨[u], []⟩ [(x, u)]) (hF : ∃ m', F [.lst (ns.map .int)] [] = .ok (.bl true) m') :
    codeAny (model P w) callerA (.call (.ref fa) ⟨[.ref a], []⟩) (fun r s' => r = .ok (.ret (.bool true)) ∧ OldK s1.heap s'.heap ∧ s'.os = s1.os ∧ AllBare s'.gens) s1 := by
  have rv := vals_ints hi
  have lv := hi.length
  -- H: nothing, or the script as a list that stays
  have core : ∀ H : Hp, (H = (fun _ => none) ∨ (K.lookup a = none ∧ H = fun b => if b = a then some (.frz { cls := .type "list", data := .seq vs.toArray } (.lst (ns.map V.int))) else none)) → Fz K H a (ns.map V.int) →
      codeAny (model P w) callerA (.call (.ref fa) ⟨[.ref a], []⟩) (fun r s' => r = .ok (.ret (.bool true)) ∧ OldK s1.heap s'.heap ∧ s'.os = s1.os ∧ AllBare s'.gens) s1 := by
    intro H hH hz
    have only : ∀ b u, H b = some u → b = a ∧ u = .frz { cls := .type "list", data := .seq vs.toArray } (.lst (ns.map V.int)) ∧ K.lookup a = none := fun b u e => by
      rcases hH with rfl | ⟨q, rfl⟩
      · exact absurd e (by simp)
      · dsimp only at e
        split at e
        · cases e
          exact ⟨by assumption, rfl, q⟩
        · cases e
    have none_of : ∀ b, (∀ u, H b ≠ some u) → H b = none := fun b h => by
      cases q : H b with
      | none => rfl
      | some u => exact absurd q (h u)
    have hok : HOk P w H s1.heap := fun b u e => by
      obtain ⟨rfl, rfl, _⟩ := only b u e
      exact ⟨ha, by rw [List.length_map]; exact hl, vs, _, rv, ha⟩
    have dicts : ∀ {b : Addr} {o : Obj} {es : Array DictEntry} {ep : Nat}, s1.heap.get? b = some o → o.data = .dict es ep → H b = none := fun {b o es ep} e d => none_of b fun u q => by
      obtain ⟨rfl, _, _⟩ := only b u q
      rw [ha] at e
      cases e
      cases d
    have nsK : ∀ {b : Addr} {m : Str → Option Value}, s1.heap.Ns b m → (hidT s1.heap H).Ns b m := fun ⟨o, es, ep, e, d, q⟩ => ⟨o, es, ep, hidT_get e (dicts e d), d, q⟩
    have hKb : K.In (hidT s1.heap H) := fun b o e => hidT_get (KX b o e) (none_of b fun u q => by
      obtain ⟨rfl, _, n⟩ := only b u q
      rw [n] at e
      cases e)
    have hM : Mod K mg (hidT s1.heap H) := ⟨hKb, nsK hns, ⟨mb, nsK hb, hbb⟩, let ⟨mc, h1, h2⟩ := hlim; ⟨mc, nsK h1, h2⟩⟩
    have e0 : Env0 P w K mg (hidT s1.heap H) callerA [] s1 H := ⟨rfl, hM, fun b o e => of_hidT e, Nat.le_of_eq (hidT_size _ _), trivial, fun b hb => absurd hb List.not_mem_nil, hok, .of_eq hg⟩
    obtain ⟨m', hF⟩ := hF
    have sp : spOf K XR 1 F [.ref a] H (fun v _ => v = .bl true) fun _ _ _ => False := by
      refine ⟨rfl, [], [.lst (ns.map .int)], [], sto_nil, Rps.one ⟨a, _, rfl, hz, rps_ints ns⟩, ?_⟩
      rw [hF]
      exact fun r' H' v _ _ t => t
    refine codeAny_mono ((G _).go callerA [] s1 H ⟨[.ref a], []⟩ [.ref a] [.ref a] _ _ hr e0 (hbind s1 (.ref a)) (.cons rfl .nil) sp) fun r s' h => ?_
    cases r with
    | error e =>
      obtain ⟨_, _, _, _, _, _, _, _, _, _, _, _, z⟩ := h
      exact z.elim
    | ok fl =>
      cases fl with
      | ret u =>
        obtain ⟨v, H', os, bare, un, hok', r', q⟩ := h
        have q' : v = .bl true := q
        subst q'
        obtain rfl : u = Value.bool true := r'
        refine ⟨rfl, OldK.of_keep fun b o e => ?_, os, bare⟩
        cases q : H b with
        | none => exact un.keep b o e q List.not_mem_nil List.not_mem_nil
        | some u =>
          obtain ⟨rfl, rfl, _⟩ := only b u q
          obtain ⟨e2, _⟩ := hok' b _ (un.frzs b _ _ q)
          rw [ha] at e
          cases e
          exact e2
      | _ => exact h.elim
  cases hk : K.lookup a with
  | some o =>
    have e := KX a o hk
    rw [ha] at e
    cases e
    exact core (fun _ => none) (.inl rfl) (.inr (.inr ⟨_, vs.toArray, _, hk, rfl, rfl, rfl, by rw [List.size_toArray, lv]; exact hl, by simpa using rv⟩))
  | none => exact core _ (.inr ⟨hk, rfl⟩) (.inl ⟨_, if_pos rfl⟩)
/-- the goal that the head leaves -/
theorem walkX {l : PySem.W.OpenLaw} {n k i N : Nat} {q : Program} {loose : List Str} {XP : (Str → Option Value) → Heap → Prop} {d : DefRec} {tbl : List Ent} {gs : List (List Nat × D)} {e : Ent} {x : List Nat}
    (hn : l.most = some n) (hn2 : n ≤ sizeLine) (hdf : d.params.defaults = []) (hr : Room k callerA) (hi : tbl[i]? = some e) (hc : (tbl.all fun e => chkEnt (tbl.map Ent.sig) gs e && sEq (defOf e.st).name e.sig.nm) = true)
    (hx : e.sig.ps = [x]) (hnm : sEq d.name e.sig.nm = true) (hF : ∀ ns : List Int, ns.length ≤ n → ∃ m', callP (progOf tbl) k i [.lst (ns.map .int)] [] = .ok (.bl true) m') :
    PySem.W.WalkO q loose XP (hookX N tbl gs).says l.row.toRowW d [] (fun f vs => PySem.call f vs) := by
  rw [List.all_eq_true] at hc
  have c1 : ∀ e ∈ tbl, chkEnt (tbl.map Ent.sig) gs e = true := fun e he => by
    have z := hc e he
    rw [Bool.and_eq_true] at z
    exact z.1
  have c2 : ∀ e ∈ tbl, sEq (defOf e.st).name e.sig.nm = true := fun e he => by
    have z := hc e he
    rw [Bool.and_eq_true] at z
    exact z.2
  have c3 : ∀ e ∈ tbl, (defOf e.st).dfl = [] ∧ (defOf e.st).kwd = [] ∧ (defOf e.st).at_ = ((defOf e.st).name, none) := fun e he => by
    unfold defOf
    split <;> exact ⟨rfl, rfl, rfl⟩
  refine Att.attach_call hn hdf fun w s0 s1 mg mb fa o pm cd doc a vs ns G Y ho hd hcd hmg hobj hints hlen hg => ?_
  obtain ⟨K, KX, c, xx⟩ := Y
  have kn := known_of KX G.T.g c xx c2 c3
  have he := List.mem_of_getElem? hi
  obtain ⟨f, fd, F, g1⟩ := kn.defs e he
  have ef : fa = f := by
    rw [sEq_iff hnm, g1] at hmg
    cases hmg
    rfl
  subst ef
  have T : ∀ base : Heap, FnG l.prog w K mg base k fa fd (e.sig.ps.map txt) (spOf K (fun _ _ _ _ _ => False) (e.sig.ps.map txt).length (callP (progOf tbl) k i)) := fun base => tab_ok kn c1 k i e hi fa fd F
  rw [hx] at T
  refine law_ends (x := txt x) KX G.T.g G.T.b G.T.builtins G.T.nolimit hg hobj hints (Nat.le_trans hlen hn2) ⟨hr, rfl⟩ T (fun s u => ?_) (hF ns hlen)
  have z := c1 e he
  unfold chkEnt at z
  split at z
  · rename_i n2 as2 body2 dl2 rt2 tp2 sc2 ts2 bd2 ps2 hst2
    simp only [Bool.and_eq_true] at z
    obtain ⟨⟨⟨d1, d2⟩, d3⟩, d4⟩ := z
    have hps2 := argsAre_iff d2
    rw [hst2] at F
    have F : FunD K n2 n2 ⟨[], as2, none, [], [], none, []⟩ body2 sc2 [] [] fa fd := F
    obtain ⟨oc, od, dV, kV, doc, pm, an, cdv, ct, osl, rfl, lk, hcd, hD, hK⟩ := F.ex
    rcases hD with ⟨_, rfl⟩ | ⟨q, _⟩
    · have nd : (as2.map (·.arg)).Nodup := by
        rw [hps2, hx]
        exact List.pairwise_singleton _ _
      have hl2 : [u].length = as2.length := by
        have := congrArg List.length hps2
        rw [List.length_map, List.length_map, hx] at this
        exact this.symm
      have b := bind_pos (fd := PySem.W.fnOf n2 n2 ⟨[], as2, none, [], [], none, []⟩ body2 sc2 .none kV doc pm an cdv ct) rfl rfl nd (us := [u]) hl2
      rw [hps2, hx] at b
      exact .of_eq b
    · exact absurd rfl q
  · cases z
end Dh


set_option Elab.async false
set_option linter.all false
set_option maxRecDepth 100000
/-! DhMath: reckoning with meanings. -/
namespace Dh
theorem call_at {P : Nat → Option Df} {k f : Nat} {d : Df} {ds : List D} (h : P f = some d) : callP P (k + 1) f ds = callD (callP P k) d ds := by
  show (match P f with
    | some d => callD (callP P k) d ds
    | none => bad) = _
  rw [h]
/-- a call's end by its body's -/
def endR : R Fl → R D
  | .ok (.nx _) m => .ok .non m
  | .ok (.rt d) m => .ok d m
  | .ok (.ex x _) m => .exc x m
  | _ => .bad
theorem callD_eq {F : Fn} {d : Df} {ds : List D} {m : Sto} (h : ds.length = d.ar) : callD F d ds m = endR (runs F d.body (ds.map some ++ List.replicate (d.n - d.ar) none) m) := by
  unfold callD
  rw [if_pos h]
  unfold bnd noExc
  cases runs F d.body (ds.map some ++ List.replicate (d.n - d.ar) none) m with
  | bad => rfl
  | exc x m => rfl
  | ok f m => cases f <;> rfl
theorem call_eq {P : Nat → Option Df} {k f : Nat} {d : Df} {ds : List D} {m : Sto} (h : P f = some d) (hl : ds.length = d.ar) : callP P (k + 1) f ds m = endR (runs (callP P k) d.body (ds.map some ++ List.replicate (d.n - d.ar) none) m) := by
  rw [call_at h, callD_eq hl]
section
variable {α β : Type} {m m1 : Sto}
@[simp] theorem r_ret (a : α) : ret a m = .ok a m := rfl
@[simp] theorem r_bad : (bad : M α) m = .bad := rfl
@[simp] theorem r_ofO (a : α) : ofO (some a) m = .ok a m := rfl
@[simp] theorem r_ofN : ofO (none : Option α) m = .bad := rfl
theorem r_bnd {x : M α} {f : α → M β} {a : α} (h : x m = .ok a m1) : bnd x f m = f a m1 := by
  unfold bnd
  rw [h]
end
end Dh
namespace Dh
open PySem
/-! ### the meaning's steps -/
section
variable {F : Fn} {env : Env} {m : Sto} {α β : Type}
@[simp] theorem q_bnd (x : M α) (f : α → M β) : bnd x f m = (match x m with
  | .ok a m1 => f a m1
  | .exc x m1 => .exc x m1
  | .bad => .bad) := rfl
@[simp] theorem q_onE (x : M α) (f : α → M Fl) : onE x env f m = (match x m with
  | .ok a m1 => f a m1
  | .exc e m1 => .ok (.ex e env) m1
  | .bad => .bad) := rfl
@[simp] theorem q_noExc (x : M α) : noExc x m = (match x m with
  | .ok a m1 => .ok a m1
  | _ => .bad) := rfl
@[simp] theorem q_var (i : Nat) : ev F (.var i) env = ofO (getV env i) := rfl
@[simp] theorem q_cst (d : D) : ev F (.cst d) env = ret d := rfl
@[simp] theorem q_tup (es : Es) : ev F (.tup es) env = bnd (evs F es env) fun ds => ret (.tup ds) := rfl
@[simp] theorem q_lst (es : Es) : ev F (.lst es) env = bnd (evs F es env) fun ds => ret (.lst ds) := rfl
@[simp] theorem q_new (e : E) : ev F (.new e) env = bnd (ev F e env) fun d => (match d with
  | .lst ds => alloc ds
  | _ => bad) := rfl
@[simp] theorem q_bin (o : Bop) (a b : E) : ev F (.bin o a b) env = bnd (ev F a env) fun x => bnd (ev F b env) fun y => ofO (bin o x y) := rfl
@[simp] theorem q_neg (a : E) : ev F (.neg a) env = bnd (ev F a env) fun x => (match x with
  | .int i => ret (.int (-i))
  | _ => bad) := rfl
@[simp] theorem q_cmp (o : Cop) (a b : E) : ev F (.cmp o a b) env = bnd (ev F a env) fun x => bnd (ev F b env) fun y => fun m => ofO (cmp m o x y) m := rfl
/-- by a test -/
def sel (b : Bool) (x y : M α) : M α := if b then x else y
@[simp] theorem sel_t (x y : M α) : sel true x y = x := rfl
@[simp] theorem sel_f (x y : M α) : sel false x y = y := rfl
@[simp] theorem sel_m (b : Bool) (x y : M α) : sel b x y m = if b then x m else y m := by cases b <;> rfl
def selD (d : D) (x y : M α) : M α := match d with
  | .bl b => sel b x y
  | _ => bad
@[simp] theorem selD_b (b : Bool) (x y : M α) : selD (.bl b) x y = sel b x y := rfl
@[simp] theorem q_chn (o p : Cop) (a b c : E) : ev F (.chn o p a b c) env = bnd (ev F a env) fun x => bnd (ev F b env) fun y => bnd (fun m => ofO (cmp m o x y) m) fun r => selD r (bnd (ev F c env) fun z m => ofO (cmp m p y z) m) (ret (.bl false)) := by
  show bnd _ _ = _
  congr 1
  funext x
  congr 1
  funext y
  congr 1
  funext r
  cases r with
  | bl b => cases b <;> rfl
  | _ => rfl
@[simp] theorem q_and (a b : E) : ev F (.and a b) env = bnd (ev F a env) fun x => selD x (ev F b env) (ret (.bl false)) := by
  show bnd _ _ = _
  congr 1
  funext x
  cases x with
  | bl b => cases b <;> rfl
  | _ => rfl
@[simp] theorem q_or (a b : E) : ev F (.or a b) env = bnd (ev F a env) fun x => selD x (ret (.bl true)) (ev F b env) := by
  show bnd _ _ = _
  congr 1
  funext x
  cases x with
  | bl b => cases b <;> rfl
  | _ => rfl
@[simp] theorem q_not (a : E) : ev F (.not a) env = bnd (ev F a env) fun x => (match x with
  | .bl b => ret (.bl (!b))
  | _ => bad) := rfl
@[simp] theorem q_ite (c a b : E) : ev F (.ite c a b) env = bnd (ev F c env) fun x => selD x (ev F a env) (ev F b env) := by
  show bnd _ _ = _
  congr 1
  funext x
  cases x with
  | bl b => cases b <;> rfl
  | _ => rfl
@[simp] theorem q_idx (a i : E) : ev F (.idx a i) env = bnd (ev F a env) fun x => bnd (ev F i env) fun y => fun m => ofO (idxD m x y) m := rfl
@[simp] theorem q_sl (a lo hi : E) : ev F (.sl a lo hi) env = bnd (ev F a env) fun x => bnd (bnd (ev F lo env) fun l => ofO (partOf (isNop lo) l)) fun l => bnd (bnd (ev F hi env) fun h => ofO (partOf (isNop hi) h)) fun h => fun m => ofO (slD m x l h) m := rfl
@[simp] theorem q_nop : ev F .nop env = ret .non := rfl
@[simp] theorem q_call (f : Nat) (es : Es) : ev F (.call f es) env = bnd (evs F es env) fun ds => F f ds := rfl
@[simp] theorem q_blt (f : Bf) (es : Es) : ev F (.blt f es) env = bnd (evs F es env) fun ds => fun m => ofO (blt m f ds) m := rfl
@[simp] theorem q_isa (t : Ty) (e : E) : ev F (.isa t e) env = bnd (ev F e env) fun d => fun m => .ok (.bl (isaM m t d)) m := rfl
@[simp] theorem q_listOf (e : E) : ev F (.listOf e) env = bnd (ev F e env) fun d => fun m => ofO ((seqOf m d).map .lst) m := rfl
@[simp] theorem q_sortOf (e : E) : ev F (.sortOf e) env = bnd (ev F e env) fun d => fun m => ofO (sortedD m d) m := rfl
@[simp] theorem q_rev (e : E) : ev F (.rev e) env = bnd (ev F e env) fun d => fun m => ofO (revD m d) m := rfl
@[simp] theorem q_rep (a b : E) : ev F (.rep a b) env = bnd (ev F a env) fun x => bnd (ev F b env) fun y => ofO (repD x y) := rfl
@[simp] theorem q_newd : ev F .newd env = fun m => .ok (.loc m.length) (m ++ [.dic []]) := rfl
@[simp] theorem q_cat (a b : E) : ev F (.cat a b) env = bnd (ev F a env) fun x => bnd (ev F b env) fun y => fun m => ofO (catD m x y) m := rfl
@[simp] theorem q_app (o e : E) : ev F (.app o e) env = bnd (ev F o env) fun x => (match x with
  | .loc n => fun m => if isDic m n then .bad else bnd (ev F e env) (fun d => appD (.loc n) d) m
  | _ => bad) := rfl
@[simp] theorem q_fstr (es : Es) : ev F (.fstr es) env = evj F es [] env := rfl
@[simp] theorem q_fv (e : E) : ev F (.fv e) env = bnd (ev F e env) fun d => ofO (fmtD d) := rfl
@[simp] theorem q_snil : evs F .nil env = ret [] := rfl
@[simp] theorem q_scons (e : E) (es : Es) : evs F (.cons e es) env = bnd (ev F e env) fun d => bnd (evs F es env) fun ds => ret (d :: ds) := rfl
@[simp] theorem q_jnil (acc : List Nat) : evj F .nil acc env = ret (.str acc) := rfl
@[simp] theorem q_jcons (e : E) (es : Es) (acc : List Nat) : evj F (.cons e es) acc env = bnd (ev F e env) fun d => (match d with
  | .str s => if acc.length + s.length ≤ lim then evj F es (acc ++ s) env else bad
  | _ => bad) := rfl
@[simp] theorem q_name (i : Nat) (d : D) : bindT F (.name i) d env = if i < env.length then ret (env.set i (some d)) else bad := rfl
@[simp] theorem q_sub (a i : E) (d : D) : bindT F (.sub a i) d env = bnd (ev F a env) fun x => bnd (ev F i env) fun y => bnd (setSub x y d) fun _ => ret env := rfl
@[simp] theorem q_ttup (ts : Ts) (ds : List D) : bindT F (.tup ts) (.tup ds) env = bindTs F ts ds env := rfl
@[simp] theorem q_tnil : bindTs F .nil [] env = ret env := rfl
@[simp] theorem q_tcons (t : T) (ts : Ts) (d : D) (ds : List D) : bindTs F (.cons t ts) (d :: ds) env = bnd (bindT F t d env) fun env' => bindTs F ts ds env' := rfl
@[simp] theorem q_asg (t : T) (e : E) : run F (.asg t e) env = onE (ev F e env) env fun d => bnd (noExc (bindT F t d env)) fun env' => ret (.nx env') := rfl
@[simp] theorem q_expr (e : E) : run F (.expr e) env = onE (ev F e env) env fun _ => ret (.nx env) := rfl
@[simp] theorem q_retS (e : E) : run F (.ret e) env = onE (ev F e env) env fun d => ret (.rt d) := rfl
@[simp] theorem q_ifs (c : E) (a b : Ss) : run F (.ifs c a b) env = onE (ev F c env) env fun x => selD x (runs F a env) (runs F b env) := by
  show onE _ _ _ = _
  congr 1
  funext x
  cases x with
  | bl b => cases b <;> rfl
  | _ => rfl
@[simp] theorem q_pass : run F .pass env = ret (.nx env) := rfl
@[simp] theorem q_rnil : runs F .nil env = ret (.nx env) := rfl
@[simp] theorem q_rcons (s : S) (ss : Ss) : runs F (.cons s ss) env = bnd (run F s env) fun f => (match f with
  | .nx e => runs F ss e
  | f => ret f) := rfl
@[simp] theorem q_end1 (d : D) : endR (.ok (.rt d) m) = .ok d m := rfl
@[simp] theorem q_end2 (e : Env) : endR (.ok (.nx e) m) = .ok .non m := rfl
@[simp] theorem q_getV0 (d : Option D) (r : Env) : getV (d :: r) 0 = d := rfl
@[simp] theorem q_getVs (d : Option D) (r : Env) (n : Nat) : getV (d :: r) (n + 1) = getV r n := rfl
end
/-! ### equality of plain things -/
theorem eqB_int (i j : Int) : eqB (.int i) (.int j) = some (decide (i = j)) := by
  have e : eqB (.int i) (.int j) = some (PyData.eqv (.int i) (.int j)) := rfl
  rw [e]
  simp [PyData.eqv]
  rfl
@[simp] theorem c_eqI (m : Sto) (i j : Int) : cmp m .eq (.int i) (.int j) = some (.bl (decide (i = j))) := by
  show (eqB (.int i) (.int j)).map D.bl = _
  rw [eqB_int]
  rfl
@[simp] theorem c_neI (m : Sto) (i j : Int) : cmp m .ne (.int i) (.int j) = some (.bl (!decide (i = j))) := by
  show (eqB (.int i) (.int j)).map (fun b => D.bl (!b)) = _
  rw [eqB_int]
  rfl
@[simp] theorem c_lt (m : Sto) (i j : Int) : cmp m .lt (.int i) (.int j) = some (.bl (decide (i < j))) := rfl
@[simp] theorem c_le (m : Sto) (i j : Int) : cmp m .le (.int i) (.int j) = some (.bl (decide (i ≤ j))) := rfl
@[simp] theorem c_gt (m : Sto) (i j : Int) : cmp m .gt (.int i) (.int j) = some (.bl (decide (j < i))) := rfl
@[simp] theorem c_ge (m : Sto) (i j : Int) : cmp m .ge (.int i) (.int j) = some (.bl (decide (j ≤ i))) := rfl
@[simp] theorem i_tup (m : Sto) (ds : List D) (i : Int) : idxD m (.tup ds) (.int i) = atIx ds i := rfl
@[simp] theorem i_lst (m : Sto) (ds : List D) (i : Int) : idxD m (.lst ds) (.int i) = atIx ds i := rfl
@[simp] theorem a_0 {α : Type} (x : α) (l : List α) : atIx (x :: l) 0 = some x := rfl
@[simp] theorem a_1 {α : Type} (x y : α) (l : List α) : atIx (x :: y :: l) 1 = some y := rfl
@[simp] theorem a_2 {α : Type} (x y z : α) (l : List α) : atIx (x :: y :: z :: l) 2 = some z := rfl
@[simp] theorem b_add (i j : Int) : bin .add (.int i) (.int j) = some (.int (i + j)) := rfl
@[simp] theorem b_sub (i j : Int) : bin .sub (.int i) (.int j) = some (.int (i - j)) := rfl
@[simp] theorem l_tup (m : Sto) (ds : List D) : blt m .len [.tup ds] = some (.int ds.length) := rfl
@[simp] theorem l_lst (m : Sto) (ds : List D) : blt m .len [.lst ds] = some (.int ds.length) := rfl
@[simp] theorem l_gcd (m : Sto) (a b : Int) : blt m .gcd [.int a, .int b] = some (.int (Nat.gcd a.natAbs b.natAbs : Nat)) := rfl
@[simp] theorem l_all (m : Sto) (ds : List D) : blt m .all [.lst ds] = (allB ds).map .bl := rfl
@[simp] theorem l_tuple (m : Sto) (ds : List D) : blt m .tuple [.lst ds] = some (.tup ds) := rfl
@[simp] theorem l_int (m : Sto) (i : Int) : blt m .int [.int i] = some (.int i) := rfl
@[simp] theorem s_tup (ds : List D) : isa .tuple (.tup ds) = true := rfl
@[simp] theorem im_int (m : Sto) (d : D) : isaM m .int d = isa .int d := by cases d <;> rfl
@[simp] theorem im_bool (m : Sto) (d : D) : isaM m .bool d = isa .bool d := by cases d <;> rfl
@[simp] theorem im_tuple (m : Sto) (d : D) : isaM m .tuple d = isa .tuple d := by cases d <;> rfl
@[simp] theorem im_str (m : Sto) (d : D) : isaM m .str d = isa .str d := by cases d <;> rfl
@[simp] theorem im_non (m : Sto) (t : Ty) : isaM m t .non = isa t .non := by cases t <;> rfl
@[simp] theorem im_bl (m : Sto) (t : Ty) (b : Bool) : isaM m t (.bl b) = isa t (.bl b) := by cases t <;> rfl
@[simp] theorem im_i (m : Sto) (t : Ty) (i : Int) : isaM m t (.int i) = isa t (.int i) := by cases t <;> rfl
@[simp] theorem im_s (m : Sto) (t : Ty) (s : List Nat) : isaM m t (.str s) = isa t (.str s) := by cases t <;> rfl
@[simp] theorem im_t (m : Sto) (t : Ty) (ds : List D) : isaM m t (.tup ds) = isa t (.tup ds) := by cases t <;> rfl
@[simp] theorem im_l (m : Sto) (t : Ty) (ds : List D) : isaM m t (.lst ds) = isa t (.lst ds) := by cases t <;> rfl
@[simp] theorem im_e (m : Sto) (t : Ty) : isaM m t .edict = isa t .edict := by cases t <;> rfl
theorem isDic_lst {m : Sto} {n : Nat} {ds : List D} (h : m[n]? = some (.lst ds)) : isDic m n = false := by
  unfold isDic
  rw [h]
theorem dicOf_lst {m : Sto} {n : Nat} {ds : List D} (h : m[n]? = some (.lst ds)) : dicOf m (.loc n) = none := by
  unfold dicOf
  dsimp only
  rw [h]
theorem dicOf_dic {m : Sto} {n : Nat} {kvs : List (NestedKey × D)} (h : m[n]? = some (.dic kvs)) : dicOf m (.loc n) = some kvs := by
  unfold dicOf
  dsimp only
  rw [h]
theorem b_fdiv {i j : Int} (h : 0 < j) (h2 : j.natAbs < 2 ^ 9000) : bin .fdiv (.int i) (.int j) = some (.int (i / j)) := by
  show (if (decide (0 < j) && big j 9000) = true then some (D.int (i / j)) else none) = _
  rw [show big j 9000 = true from decide_eq_true h2, decide_eq_true h]
  rfl
theorem b_mod {i j : Int} (h : 0 < j) : bin .mod (.int i) (.int j) = some (.int (i % j)) := if_pos h
theorem b_mul {i j : Int} (h : i.natAbs < 2 ^ 400000) (h2 : j.natAbs < 2 ^ 400000) : bin .mul (.int i) (.int j) = some (.int (i * j)) := by
  show (if (big i 400000 && big j 400000) = true then some (D.int (i * j)) else none) = _
  rw [show big i 400000 = true from decide_eq_true h, show big j 400000 = true from decide_eq_true h2]
  rfl
/-! ### how many bits -/
def Bt (i : Int) (n : Nat) : Prop := i.natAbs < 2 ^ n
theorem Bt.mono {i : Int} {a b : Nat} (h : Bt i a) (l : a ≤ b) : Bt i b := Nat.lt_of_lt_of_le h (Nat.pow_le_pow_right (by decide) l)
theorem Bt.mul {i j : Int} {a b : Nat} (h : Bt i a) (h2 : Bt j b) : Bt (i * j) (a + b) := by
  unfold Bt
  rw [Int.natAbs_mul, Nat.pow_add]
  exact Nat.mul_lt_mul'' h h2
theorem Bt.add {i j : Int} {a : Nat} (h : Bt i a) (h2 : Bt j a) : Bt (i + j) (a + 1) := by
  unfold Bt at *
  have := Int.natAbs_add_le i j
  rw [Nat.pow_succ]
  omega
theorem Bt.div {i j : Int} {a : Nat} (h : Bt i a) : Bt (i / j) a := by
  unfold Bt at *
  exact Nat.lt_of_le_of_lt (Int.natAbs_ediv_le_natAbs i j) h
theorem Bt.small {i : Int} {n : Nat} (h : i.natAbs < 1024) (l : 10 ≤ n) : Bt i n := (show Bt i 10 from h).mono l
theorem b_mulB {i j : Int} {a b : Nat} (h : Bt i a) (h2 : Bt j b) (ha : a ≤ 400000) (hb : b ≤ 400000) : bin .mul (.int i) (.int j) = some (.int (i * j)) := b_mul (h.mono ha) (h2.mono hb)
theorem b_fdivB {i j : Int} {a : Nat} (h : 0 < j) (h2 : Bt j a) (ha : a ≤ 9000) : bin .fdiv (.int i) (.int j) = some (.int (i / j)) := b_fdiv h (h2.mono ha)
theorem whileN_sel (c : Env → M D) (b : Env → M Fl) (n : Nat) (env : Env) : whileN c b (n + 1) env = onE (c env) env fun x => selD x (bnd (b env) fun f => (match f with
  | .nx e => whileN c b n e
  | .ct e => whileN c b n e
  | .bk e => ret (.nx e)
  | f => ret f)) (ret (.nx env)) := by
  show onE _ _ _ = _
  congr 1
  funext x
  cases x with
  | bl b => cases b <;> rfl
  | _ => rfl
theorem while_of {F : Fn} {c : E} {b : Ss} {env e : Env} {m m1 : Sto} (n : Nat) (h : whileN (ev F c) (runs F b) n env m = .ok (.nx e) m1) : run F (.whiles c b) env m = .ok (.nx e) m1 := by
  have w := whileM_of n (show isBad (whileN (ev F c) (runs F b) n env m) = false by rw [h]; rfl)
  rw [h] at w
  exact w
/-! ### comprehensions -/
theorem compL_map {f : D → M (Option D)} {g : D → Option D} {m : Sto} : ∀ {ds : List D}, (∀ d ∈ ds, f d m = .ok (g d) m) → compL f ds m = .ok (ds.filterMap g) m
  | [], _ => rfl
  | d :: ds, h => by
    rw [compL, r_bnd (h d List.mem_cons_self), r_bnd (compL_map fun x hx => h x (List.mem_cons_of_mem _ hx)), List.filterMap_cons]
    cases g d <;> rfl
theorem noExc_ok {α : Type} {x : M α} {a : α} {m m1 : Sto} (h : x m = .ok a m1) : noExc x m = .ok a m1 := by
  unfold noExc
  rw [h]
theorem ev_comp {F : Fn} {elt : E} {t : T} {it : I} {c : E} {env : Env} {m : Sto} {ds : List D} (g : D → Option D) (h1 : evI F it env m = .ok (.fix ds) m) (hl : ds.length ≤ lim)
    (h2 : ∀ d ∈ ds, ∃ env' b, bindT F t d env m = .ok env' m ∧ ev F c env' m = .ok (.bl b) m ∧ (b = true → ∃ y, ev F elt env' m = .ok y m ∧ g d = some y) ∧ (b = false → g d = none)) : ev F (.comp elt t it c) env m = .ok (.lst (ds.filterMap g)) m := by
  unfold ev
  rw [r_bnd h1]
  dsimp only
  rw [if_pos hl]
  refine (r_bnd (compL_map (g := g) fun d hd => ?_)).trans rfl
  obtain ⟨env', b, e1, e2, e3, e4⟩ := h2 d hd
  refine noExc_ok ?_
  rw [r_bnd e1, r_bnd e2]
  cases b with
  | true =>
    obtain ⟨y, e5, e6⟩ := e3 rfl
    dsimp only
    rw [r_bnd e5, e6]
    rfl
  | false =>
    rw [e4 rfl]
    rfl
theorem filterMap_some {α β : Type} (f : α → β) : ∀ l : List α, l.filterMap (fun x => some (f x)) = l.map f
  | [] => rfl
  | a :: l => by rw [List.filterMap_cons, List.map_cons, filterMap_some f l]
theorem filterMap_if {α : Type} (p : α → Bool) : ∀ l : List α, l.filterMap (fun x => if p x then some x else none) = l.filter p
  | [] => rfl
  | a :: l => by
    rw [List.filterMap_cons, List.filter_cons, filterMap_if p l]
    cases p a <;> rfl
/-- [elt for name in it] -/
theorem ev_map {F : Fn} {elt : E} {i : Nat} {it : I} {env : Env} {m : Sto} {ds : List D} (g : D → D) (h1 : evI F it env m = .ok (.fix ds) m) (hl : ds.length ≤ lim) (hi : i < env.length) (h2 : ∀ d ∈ ds, ev F elt (env.set i (some d)) m = .ok (g d) m) :
    ev F (.comp elt (.name i) it (.cst (.bl true))) env m = .ok (.lst (ds.map g)) m := by
  rw [ev_comp (fun d => some (g d)) h1 hl fun d hd => ⟨env.set i (some d), true, by rw [bindT, if_pos hi]; rfl, rfl, fun _ => ⟨_, h2 d hd, rfl⟩, fun z => by cases z⟩, filterMap_some]
/-- [name for name in it if c] -/
theorem ev_filter {F : Fn} {i : Nat} {it : I} {c : E} {env : Env} {m : Sto} {ds : List D} (p : D → Bool) (h1 : evI F it env m = .ok (.fix ds) m) (hl : ds.length ≤ lim) (hi : i < env.length) (h2 : ∀ d ∈ ds, ev F c (env.set i (some d)) m = .ok (.bl (p d)) m) :
    ev F (.comp (.var i) (.name i) it c) env m = .ok (.lst (ds.filter p)) m := by
  rw [ev_comp (fun d => if p d then some d else none) h1 hl fun d hd => ⟨env.set i (some d), p d, by rw [bindT, if_pos hi]; rfl, h2 d hd, fun z => ⟨d, ?_, by rw [z]; rfl⟩, fun z => by rw [z]; rfl⟩, filterMap_if]
  rw [ev]
  unfold getV
  rw [List.getElem?_set_self hi]
  rfl
theorem allB_map (p : D → Bool) : ∀ ds : List D, allB (ds.map fun d => .bl (p d)) = some (ds.all p)
  | [] => rfl
  | d :: ds => by
    rw [List.map_cons, allB, allB_map p ds, List.all_cons]
    rfl
theorem seq_tup {F : Fn} {e : E} {env : Env} {m m1 : Sto} {ds : List D} (h : ev F e env m = .ok (.tup ds) m1) : evI F (.seq e) env m = .ok (.fix ds) m1 := by
  rw [evI, r_bnd h]
  rfl
theorem seq_lst {F : Fn} {e : E} {env : Env} {m m1 : Sto} {ds : List D} (h : ev F e env m = .ok (.lst ds) m1) : evI F (.seq e) env m = .ok (.fix ds) m1 := by
  rw [evI, r_bnd h]
  rfl
theorem seq_str {F : Fn} {e : E} {env : Env} {m m1 : Sto} {s : List Nat} (h : ev F e env m = .ok (.str s) m1) (hl : s.length ≤ lim) : evI F (.seq e) env m = .ok (.fix (s.map fun c => .str [c])) m1 := by
  rw [evI, r_bnd h]
  dsimp only
  rw [if_pos hl]
  rfl
theorem for_fix {F : Fn} {t : T} {it : I} {b : Ss} {env : Env} {m m1 : Sto} {ds : List D} (h : evI F it env m = .ok (.fix ds) m1) : run F (.fors t it b) env m = forL (bindT F t) (runs F b) ds env m1 := by
  rw [run]
  unfold onE
  rw [h]
theorem rng1 {F : Fn} {e : E} {env : Env} {m m1 : Sto} {j : Int} (h : ev F e env m = .ok (.int j) m1) (h1 : -(lim : Int) ≤ j) (h2 : j ≤ lim) : evI F (.range (.cons e .nil)) env m = .ok (.fix (ranged 0 j)) m1 := by
  have e0 : evs F (.cons e .nil) env m = .ok [.int j] m1 := by
    show bnd _ _ m = _
    rw [r_bnd h]
    rfl
  rw [evI, r_bnd e0]
  dsimp only
  rw [if_pos ⟨h1, h2⟩]
  rfl
theorem eqB_fr (a b c d : Int) : eqB (.tup [.int a, .int b]) (.tup [.int c, .int d]) = some (decide (a = c ∧ b = d)) := by
  have e : eqB (.tup [.int a, .int b]) (.tup [.int c, .int d]) = some (PyData.eqv (.tuple [.int a, .int b]) (.tuple [.int c, .int d])) := rfl
  rw [e]
  congr 1
  have e2 : PyData.eqv (.tuple [.int a, .int b]) (.tuple [.int c, .int d]) = (decide (a = c) && decide (b = d)) := by
    simp [PyData.eqv, PyData.eqvAll]
    try rfl
  rw [e2]
  by_cases h1 : a = c <;> by_cases h2 : b = d <;> simp [h1, h2]
@[simp] theorem c_eqF (m : Sto) (a b c d : Int) : cmp m .eq (.tup [.int a, .int b]) (.tup [.int c, .int d]) = some (.bl (decide (a = c ∧ b = d))) := by
  show (eqB (.tup [.int a, .int b]) (.tup [.int c, .int d])).map D.bl = _
  rw [eqB_fr]
  rfl
theorem cut_tail {α : Type} (xs : List α) : cutL xs (some 1) none = xs.drop 1 := by
  unfold cutL slB
  simp
  cases xs with
  | nil => rfl
  | cons x xs => simp
/-- [elt for a, b in it] -/
theorem ev_mapP {F : Fn} {elt : E} {i j : Nat} {it : I} {env : Env} {m : Sto} {ds : List D} (g : D → D) (h1 : evI F it env m = .ok (.fix ds) m) (hl : ds.length ≤ lim) (hi : i < env.length) (hj : j < env.length)
    (h2 : ∀ d ∈ ds, ∃ x y, d = .tup [x, y] ∧ ev F elt ((env.set i (some x)).set j (some y)) m = .ok (g d) m) : ev F (.comp elt (.tup (.cons (.name i) (.cons (.name j) .nil))) it (.cst (.bl true))) env m = .ok (.lst (ds.map g)) m := by
  rw [ev_comp (fun d => some (g d)) h1 hl fun d hd => ?_, filterMap_some]
  obtain ⟨x, y, rfl, e⟩ := h2 d hd
  refine ⟨(env.set i (some x)).set j (some y), true, ?_, rfl, fun _ => ⟨_, e, rfl⟩, fun z => by cases z⟩
  simp [hi, hj]
theorem zip_lst {F : Fn} {a b : E} {env : Env} {m : Sto} {xs ys : List D} (h1 : ev F a env m = .ok (.lst xs) m) (h2 : ev F b env m = .ok (.lst ys) m) : evI F (.zip a b) env m = .ok (.fix (zipD xs ys)) m := by
  rw [evI, r_bnd h1, r_bnd h2]
  rfl
theorem zip_tup {F : Fn} {a b : E} {env : Env} {m : Sto} {xs ys : List D} (h1 : ev F a env m = .ok (.tup xs) m) (h2 : ev F b env m = .ok (.tup ys) m) : evI F (.zip a b) env m = .ok (.fix (zipD xs ys)) m := by
  rw [evI, r_bnd h1, r_bnd h2]
  rfl
theorem zipD_len' : ∀ (xs ys : List D), (zipD xs ys).length = min xs.length ys.length
  | [], ys => by simp [zipD]
  | x :: xs, [] => by simp [zipD]
  | x :: xs, y :: ys => by
    rw [zipD, List.length_cons, List.length_cons, List.length_cons, zipD_len']
    omega
theorem zipD_map {α β : Type} (f : α → D) (g : β → D) : ∀ (xs : List α) (ys : List β), zipD (xs.map f) (ys.map g) = (xs.zip ys).map fun p => .tup [f p.1, g p.2]
  | [], ys => by cases ys <;> rfl
  | x :: xs, [] => rfl
  | x :: xs, y :: ys => by
    rw [List.map_cons, List.map_cons, zipD, zipD_map f g xs ys]
    rfl
theorem sl_tail (m : Sto) (xs : List D) : slD m (.lst xs) (some 1) none = some (.lst (xs.drop 1)) := by
  show some (D.lst (cutL xs (some 1) none)) = _
  rw [cut_tail]
/-- a pair of ints, ascending -/
def ltD : D → Bool
  | .tup [.int x, .int y] => decide (x < y)
  | _ => false
theorem zip_asc (xs : List Int) : ((zipD (xs.map D.int) ((xs.map D.int).drop 1)).all ltD) = ((xs.zip (xs.drop 1)).all fun p => decide (p.1 < p.2)) := by
  rw [← List.map_drop, zipD_map, List.all_map]
  rfl
/-! ### sizes -/
mutual
/-- ints below b, lengths of at most l, no place of the store -/
def Bd (b l : Nat) : D → Prop
  | .int i => i.natAbs < b
  | .str s => s.length ≤ l
  | .tup ds => ds.length ≤ l ∧ Bds b l ds
  | .lst ds => ds.length ≤ l ∧ Bds b l ds
  | .loc _ => False
  | _ => True
def Bds (b l : Nat) : List D → Prop
  | [] => True
  | d :: ds => Bd b l d ∧ Bds b l ds
end
theorem Bds.all {b l : Nat} : ∀ {ds : List D}, Bds b l ds → ∀ d ∈ ds, Bd b l d
  | [], _, d, h => by cases h
  | x :: ds, ⟨h1, h2⟩, d, h => by
    rcases List.mem_cons.mp h with e | h
    · rw [e]
      exact h1
    · exact Bds.all h2 d h
theorem Bds.of {b l : Nat} : ∀ {ds : List D}, (∀ d ∈ ds, Bd b l d) → Bds b l ds
  | [], _ => trivial
  | x :: ds, h => ⟨h x List.mem_cons_self, Bds.of fun d hd => h d (List.mem_cons_of_mem _ hd)⟩
mutual
theorem Bd.mono {b l b2 l2 : Nat} (h1 : b ≤ b2) (h2 : l ≤ l2) : ∀ {d : D}, Bd b l d → Bd b2 l2 d
  | .int i, h => Nat.lt_of_lt_of_le h h1
  | .str s, h => Nat.le_trans h h2
  | .tup ds, h => ⟨Nat.le_trans h.1 h2, Bds.mono h1 h2 h.2⟩
  | .lst ds, h => ⟨Nat.le_trans h.1 h2, Bds.mono h1 h2 h.2⟩
  | .loc _, h => h.elim
  | .non, _ => trivial
  | .bl _, _ => trivial
  | .edict, _ => trivial
theorem Bds.mono {b l b2 l2 : Nat} (h1 : b ≤ b2) (h2 : l ≤ l2) : ∀ {ds : List D}, Bds b l ds → Bds b2 l2 ds
  | [], _ => trivial
  | d :: ds, h => ⟨Bd.mono h1 h2 h.1, Bds.mono h1 h2 h.2⟩
end
abbrev Sz (d : D) : Prop := Bd (2 ^ 200) 1000 d
abbrev Szs (ds : List D) : Prop := Bds (2 ^ 200) 1000 ds
abbrev Sm (d : D) : Prop := Bd (2 ^ 100) 100 d
abbrev Sms (ds : List D) : Prop := Bds (2 ^ 100) 100 ds
theorem Szs.all {ds : List D} (h : Szs ds) : ∀ d ∈ ds, Sz d := Bds.all h
theorem Szs.of {ds : List D} (h : ∀ d ∈ ds, Sz d) : Szs ds := Bds.of h
theorem Sms.all {ds : List D} (h : Sms ds) : ∀ d ∈ ds, Sm d := Bds.all h
theorem Sms.of {ds : List D} (h : ∀ d ∈ ds, Sm d) : Sms ds := Bds.of h
theorem Sm.sz {d : D} (h : Sm d) : Sz d := Bd.mono (Nat.pow_le_pow_right (by decide) (by decide)) (by decide) h
theorem small_lim {n : Nat} (h : n ≤ 1000) : n ≤ lim := Nat.le_trans h (by unfold lim; decide)
theorem Sz.at2 {x y : D} (h : Sz (.tup [x, y])) : Sz x ∧ Sz y := ⟨h.2.1, h.2.2.1⟩
theorem Sz.at3 {x y z : D} (h : Sz (.tup [x, y, z])) : Sz x ∧ Sz y ∧ Sz z := ⟨h.2.1, h.2.2.1, h.2.2.2.1⟩
theorem allB_of_map (p : D → Bool) (ds : List D) : ∃ L, ds.map (fun d => D.bl (p d)) = L ∧ allB L = some (ds.all p) := ⟨_, rfl, allB_map p ds⟩
/-- all([test for name in it]) -/
theorem ev_all {F : Fn} {elt : E} {i : Nat} {it : I} {env : Env} {m : Sto} {ds : List D} (p : D → Bool) (h1 : evI F it env m = .ok (.fix ds) m) (hl : ds.length ≤ lim) (hi : i < env.length) (h2 : ∀ d ∈ ds, ev F elt (env.set i (some d)) m = .ok (.bl (p d)) m) :
    ev F (.blt .all (.cons (.comp elt (.name i) it (.cst (.bl true))) .nil)) env m = .ok (.bl (ds.all p)) m := by
  have z := ev_map (fun d => D.bl (p d)) h1 hl hi h2
  simp [z, allB_map]
theorem ev_allP {F : Fn} {elt : E} {i j : Nat} {it : I} {env : Env} {m : Sto} {ds : List D} (p : D → Bool) (h1 : evI F it env m = .ok (.fix ds) m) (hl : ds.length ≤ lim) (hi : i < env.length) (hj : j < env.length)
    (h2 : ∀ d ∈ ds, ∃ x y, d = .tup [x, y] ∧ ev F elt ((env.set i (some x)).set j (some y)) m = .ok (.bl (p d)) m) : ev F (.blt .all (.cons (.comp elt (.tup (.cons (.name i) (.cons (.name j) .nil))) it (.cst (.bl true))) .nil)) env m = .ok (.bl (ds.all p)) m := by
  have z := ev_mapP (fun d => D.bl (p d)) h1 hl hi hj h2
  simp [z, allB_map]
/-! ### the store -/
/-- all as it was but the n-th, and what is new -/
def Chg (n : Nat) (m m' : Sto) : Prop := m.length ≤ m'.length ∧ ∀ i, i < m.length → i ≠ n → m'[i]? = m[i]?
theorem Chg.refl (n : Nat) (m : Sto) : Chg n m m := ⟨Nat.le_refl _, fun _ _ _ => rfl⟩
theorem Chg.trans {n : Nat} {a b c : Sto} (h : Chg n a b) (g : Chg n b c) : Chg n a c :=
  ⟨Nat.le_trans h.1 g.1, fun i hi hn => (g.2 i (Nat.lt_of_lt_of_le hi h.1) hn).trans (h.2 i hi hn)⟩
theorem Chg.set (n : Nat) (m : Sto) (o : O) : Chg n m (m.set n o) := ⟨by rw [List.length_set]; exact Nat.le_refl _, fun i _ hn => List.getElem?_set_ne (Ne.symm hn)⟩
/-- a new object -/
theorem Chg.app (n : Nat) (m : Sto) (o : O) : Chg n m (m ++ [o]) := ⟨by rw [List.length_append]; exact Nat.le_add_right _ _, fun i hi _ => List.getElem?_append_left hi⟩
/-- a change of a newer object -/
theorem Chg.setNew {n j : Nat} {a b : Sto} (h : Chg n a b) (o : O) (hj : a.length ≤ j) : Chg n a (b.set j o) :=
  ⟨by rw [List.length_set]; exact h.1, fun i hi hn => by rw [List.getElem?_set_ne (by omega)]; exact h.2 i hi hn⟩
theorem lt_of_get {m : Sto} {n : Nat} {o : O} (h : m[n]? = some o) : n < m.length := (List.getElem?_eq_some_iff.mp h).1
theorem idx_loc {m : Sto} {n : Nat} {ds : List D} {i : Int} (h : m[n]? = some (.lst ds)) : idxD m (.loc n) (.int i) = atIx ds i := by
  unfold idxD
  rw [dicOf_lst h]
  show ((match m[n]? with
    | some (.lst ds) => some ds
    | _ => none).bind fun ds => atIx ds i) = _
  rw [h]
  rfl
theorem sub_lst0 {m : Sto} {x y d : D} (h : dicOf m x = none) : setSub x y d m = setLst x y d m := by
  unfold setSub
  rw [h]
  cases x <;> rfl
theorem sub_dic0 {m : Sto} {n : Nat} {y d : D} {kvs : List (NestedKey × D)} (h : dicOf m (.loc n) = some kvs) : setSub (.loc n) y d m = setDic n kvs y d m := by
  unfold setSub
  rw [h]
theorem sub_loc {m : Sto} {n : Nat} {ds ds' : List D} {i : Int} {d : D} (h : m[n]? = some (.lst ds)) (h2 : setIx ds i d = some ds') : setSub (.loc n) (.int i) d m = .ok () (m.set n (.lst ds')) := by
  rw [sub_lst0 (dicOf_lst h)]
  show (match m[n]? with
    | some (.lst ds) => (match setIx ds i d with
      | some ds' => R.ok () (m.set n (.lst ds'))
      | none => .bad)
    | _ => .bad) = _
  rw [h]
  dsimp only
  rw [h2]
theorem app_loc {m : Sto} {n : Nat} {ds : List D} {d : D} (h : m[n]? = some (.lst ds)) (h2 : ds.length < lim) : appD (.loc n) d m = .ok .non (m.set n (.lst (ds ++ [d]))) := by
  show (match m[n]? with
    | some (.lst ds) => if ds.length < lim then R.ok D.non (m.set n (.lst (ds ++ [d]))) else .bad
    | _ => .bad) = _
  rw [h]
  exact if_pos h2
theorem seq_loc {m : Sto} {n : Nat} {ds : List D} (h : m[n]? = some (.lst ds)) : seqOf m (.loc n) = some ds := by
  show (match m[n]? with
    | some (.lst ds) => some ds
    | _ => none) = _
  rw [h]
/-- the drawing list -/
def Urn (m : Sto) (n k : Nat) : Prop := ∃ a b c : Int, m[n]? = some (.lst [.int a, .int b, .int c]) ∧ 0 ≤ a ∧ (0 ≤ b ∧ b < 2147483648) ∧ 0 ≤ c ∧ c ≤ k
theorem Urn.mono {m : Sto} {n k l : Nat} (h : Urn m n k) (hl : k ≤ l) : Urn m n l := by
  obtain ⟨a, b, c, h1, h2, h3, h4, h5⟩ := h
  exact ⟨a, b, c, h1, h2, h3, h4, by omega⟩
theorem Urn.chg {m m' : Sto} {n j k : Nat} (h : Urn m n k) (c : Chg j m m') (hj : n ≠ j) : Urn m' n k := by
  obtain ⟨a, b, e, h1, r⟩ := h
  exact ⟨a, b, e, (c.2 n (lt_of_get h1) hj).trans h1, r⟩
theorem Urn.lt {m : Sto} {n k : Nat} (h : Urn m n k) : n < m.length := by
  obtain ⟨a, b, c, h1, _⟩ := h
  exact lt_of_get h1
theorem compR_map {f : D → M (Option D)} {g : D → Option D} {n : Nat} {ds : List D} {m : Sto} (hm : m[n]? = some (.lst ds)) (h : ∀ d ∈ ds, f d m = .ok (g d) m) : ∀ (k i : Nat), ds.length ≤ k + i → compR f n k i m = .ok ((ds.drop i).filterMap g) m := by
  intro k
  induction k with
  | zero =>
    intro i hi
    unfold compR
    rw [hm]
    dsimp only
    rw [List.getElem?_eq_none (by omega), List.drop_eq_nil_of_le (by omega)]
    rfl
  | succ k ih =>
    intro i hi
    unfold compR
    rw [hm]
    dsimp only
    by_cases hl : i < ds.length
    · rw [List.getElem?_eq_getElem hl]
      dsimp only
      rw [r_bnd (h ds[i] (List.getElem_mem hl)), r_bnd (ih (i + 1) (by omega)), List.drop_eq_getElem_cons hl, List.filterMap_cons]
      cases g ds[i] <;> rfl
    · rw [List.getElem?_eq_none (by omega), List.drop_eq_nil_of_le (by omega)]
      rfl
/-- [elt for name in a list that changes at other times] -/
theorem ev_mapR {F : Fn} {elt e : E} {i n : Nat} {env : Env} {m : Sto} {ds : List D} (g : D → D) (h0 : ev F e env m = .ok (.loc n) m) (hm : m[n]? = some (.lst ds)) (hl : ds.length ≤ lim) (hi : i < env.length) (h2 : ∀ d ∈ ds, ev F elt (env.set i (some d)) m = .ok (g d) m) :
    ev F (.comp elt (.name i) (.seq e) (.cst (.bl true))) env m = .ok (.lst (ds.map g)) m := by
  have h1 : evI F (.seq e) env m = .ok (.loc n) m := by
    rw [evI, r_bnd h0]
    dsimp only
    rw [isDic_lst hm]
    rfl
  unfold ev
  rw [r_bnd h1]
  dsimp only
  rw [r_bnd (compR_map (g := fun d => some (g d)) hm (fun d hd => ?_) lim 0 (by omega)), List.drop_zero, filterMap_some]
  · rfl
  · refine noExc_ok ?_
    have e1 : bindT F (.name i) d env m = .ok (env.set i (some d)) m := by
      rw [bindT, if_pos hi]
      rfl
    rw [r_bnd e1]
    refine (r_bnd (show ev F (.cst (.bl true)) (env.set i (some d)) m = .ok (.bl true) m from rfl)).trans ?_
    dsimp only
    rw [r_bnd (h2 d hd)]
    rfl
theorem sum_ints : ∀ ps : List Int, sumI (ps.map D.int) = some ps.sum
  | [] => rfl
  | p :: ps => by
    rw [List.map_cons, sumI, sum_ints ps]
    rfl
theorem sum_loc {m : Sto} {n : Nat} {ps : List Int} (h : m[n]? = some (.lst (ps.map D.int))) : blt m .sum [.loc n] = some (.int ps.sum) := by
  show ((lstOf m (.loc n)).bind sumI).map D.int = _
  have e : lstOf m (.loc n) = some (ps.map D.int) := seq_loc h
  rw [e]
  show (sumI (ps.map D.int)).map D.int = _
  rw [sum_ints]
  rfl
theorem tuple_loc {m : Sto} {n : Nat} {ds : List D} (h : m[n]? = some (.lst ds)) : blt m .tuple [.loc n] = some (.tup ds) := by
  show (seqOf m (.loc n)).map D.tup = _
  rw [seq_loc h]
  rfl
theorem alloc_eq (ds : List D) (m : Sto) : alloc ds m = .ok (.loc m.length) (m ++ [.lst ds]) := rfl
theorem get_last (m : Sto) (o : O) : (m ++ [o])[m.length]? = some o := List.getElem?_concat_length
theorem ranged_len (j : Nat) : (ranged 0 j).length = j := by
  unfold ranged
  rw [List.length_map, List.length_range]
  omega
theorem runs_step {F : Fn} {s : S} {ss : Ss} {env e : Env} {m m1 : Sto} (h : run F s env m = .ok (.nx e) m1) : runs F (.cons s ss) env m = runs F ss e m1 := by
  show bnd (run F s env) _ m = _
  rw [r_bnd h]
end Dh


set_option Elab.async false
set_option linter.all false
set_option maxRecDepth 100000
/-! DhWp: what holds at the end of a run. -/
namespace Dh
universe u
/-- a sign that keeps what follows from being looked at -/
structure Tg {α : Sort u} (a : α) : Type where
def No : Ex → Sto → Prop := fun _ _ => False
/-- a run ends well with Q, or with an exception and E -/
def Wq0 {α : Type} (r : R α) (Q : α → Sto → Prop) (E : Ex → Sto → Prop) : Prop := match r with
  | .ok a m => Q a m
  | .exc x m => E x m
  | .bad => False
/-- .. kept from being reckoned out -/
structure Wq {α : Type} (r : R α) (Q : α → Sto → Prop) (E : Ex → Sto → Prop) (_ : Tg (Q, E)) : Prop where
  un : Wq0 r Q E
theorem wq_iff {α : Type} {r : R α} {Q : α → Sto → Prop} {E : Ex → Sto → Prop} {t} : Wq r Q E t ↔ Wq0 r Q E := ⟨fun h => h.un, fun h => ⟨h⟩⟩
section
variable {α β : Type} {m m1 : Sto} {F : Fn} {env : Env} {E : Ex → Sto → Prop}
/-- what simp does not look into -/
def Keep (P : Prop) (_ : Tg P) : Prop := P
theorem kp {P : Prop} {t : Tg P} (h : P) : Keep P t := h
theorem Keep.un {P : Prop} {t : Tg P} (h : Keep P t) : P := h
theorem wq_ex {r : R α} {Q : α → Sto → Prop} (h : Wq r (fun a m' => Keep (Q a m') ⟨⟩) No ⟨⟩) : ∃ a m', r = .ok a m' ∧ Q a m' := by
  cases r with
  | ok a m' => exact ⟨a, m', rfl, h.un⟩
  | exc x m' => exact h.un.elim
  | bad => exact h.un.elim
theorem wq_of {r : R α} {a : α} {m' : Sto} {Q : α → Sto → Prop} {t} (h : r = .ok a m') (q : Q a m') : Wq r Q E t := by
  rw [h]
  exact ⟨q⟩
theorem wq_imp {r : R α} {Q Q2 : α → Sto → Prop} {E2 : Ex → Sto → Prop} {t t2} (h : Wq r Q E t) (q : ∀ a m', Q a m' → Q2 a m') (e : ∀ x m', E x m' → E2 x m') : Wq r Q2 E2 t2 := by
  cases r with
  | ok a m' => exact ⟨q a m' h.un⟩
  | exc x m' => exact ⟨e x m' h.un⟩
  | bad => exact h.un.elim
theorem wq_mono {r : R α} {Q Q2 : α → Sto → Prop} {t t2} (h : Wq r Q No t) (q : ∀ a m', Q a m' → Q2 a m') : Wq r Q2 E t2 := wq_imp h q fun _ _ h => h.elim
@[simp ↓] theorem w_ok (a : α) (Q : α → Sto → Prop) (t) : Wq (.ok a m) Q E t ↔ Q a m := wq_iff
@[simp ↓] theorem w_exc (x : Ex) (Q : α → Sto → Prop) (t) : Wq (.exc x m) Q E t ↔ E x m := wq_iff
@[simp ↓] theorem w_bad (Q : α → Sto → Prop) (t) : Wq .bad Q E t ↔ False := wq_iff
@[simp ↓] theorem w_ret (a : α) (Q : α → Sto → Prop) (t) : Wq (ret a m) Q E t ↔ Q a m := wq_iff
@[simp ↓] theorem w_bnd (x : M α) (f : α → M β) (Q : β → Sto → Prop) (t) : Wq (bnd x f m) Q E t ↔ Wq (x m) (fun a m1 => Wq (f a m1) Q E ⟨⟩) E ⟨⟩ := by
  rw [wq_iff, wq_iff]
  unfold bnd
  cases x m with
  | ok a m1 => exact wq_iff.symm
  | exc x m1 => exact Iff.rfl
  | bad => exact Iff.rfl
@[simp ↓] theorem w_onE (x : M α) (f : α → M Fl) (Q : Fl → Sto → Prop) (t) : Wq (onE x env f m) Q E t ↔ Wq (x m) (fun a m1 => Wq (f a m1) Q E ⟨⟩) (fun x m1 => Q (.ex x env) m1) ⟨⟩ := by
  rw [wq_iff, wq_iff]
  unfold onE
  cases x m with
  | ok a m1 => exact wq_iff.symm
  | exc x m1 => exact Iff.rfl
  | bad => exact Iff.rfl
@[simp ↓] theorem w_noExc (x : M α) (Q : α → Sto → Prop) (t) : Wq (noExc x m) Q E t ↔ Wq (x m) Q No ⟨⟩ := by
  rw [wq_iff, wq_iff]
  unfold noExc
  cases x m <;> exact Iff.rfl
@[simp ↓] theorem w_ofO (a : α) (Q : α → Sto → Prop) (t) : Wq (ofO (some a) m) Q E t ↔ Q a m := wq_iff
theorem w_wr {x : M α} {y : M β} {f : α → M β} {Q : β → Sto → Prop} {t} (e : y = bnd x f) : Wq (y m) Q E t ↔ Wq (x m) (fun a m1 => Wq (f a m1) Q E ⟨⟩) E ⟨⟩ := by
  rw [e]
  exact w_bnd x f Q t
@[simp ↓] theorem w_sel (b : Bool) (x y : M α) (Q : α → Sto → Prop) (t) : Wq (selD (.bl b) x y m) Q E t ↔ (if b = true then Wq (x m) Q E ⟨⟩ else Wq (y m) Q E ⟨⟩) := by
  cases b with
  | true =>
    rw [if_pos rfl]
    exact wq_iff.trans wq_iff.symm
  | false =>
    rw [if_neg (by decide)]
    exact wq_iff.trans wq_iff.symm
theorem wq_congr {r : R α} {Q Q2 : α → Sto → Prop} {t t2} (h : ∀ a m', Q a m' ↔ Q2 a m') : Wq r Q E t ↔ Wq r Q2 E t2 := by
  rw [wq_iff, wq_iff]
  cases r with
  | ok a m' => exact h a m'
  | exc x m' => exact Iff.rfl
  | bad => exact Iff.rfl
theorem wq_congr' {r : R α} {Q Q2 : α → Sto → Prop} {E2 : Ex → Sto → Prop} {t t2} (h : ∀ a m', Q a m' ↔ Q2 a m') : Wq r Q E2 t ↔ Wq r Q2 E2 t2 := by
  rw [wq_iff, wq_iff]
  cases r with
  | ok a m' => exact h a m'
  | exc x m' => exact Iff.rfl
  | bad => exact Iff.rfl
theorem w_bndr (x : M α) (g : α → β) (Q : β → Sto → Prop) (t) : Wq (bnd x (fun a => ret (g a)) m) Q E t ↔ Wq (x m) (fun a m1 => Q (g a) m1) E ⟨⟩ := (w_bnd x _ Q t).trans (wq_congr fun a m1 => wq_iff)
theorem w_bnd2 {γ : Type} (x : M α) (y : α → M γ) (f : α → γ → M β) (Q : β → Sto → Prop) (t) : Wq (bnd x (fun a => bnd (y a) (f a)) m) Q E t ↔ Wq (x m) (fun a m1 => Wq (y a m1) (fun b m2 => Wq (f a b m2) Q E ⟨⟩) E ⟨⟩) E ⟨⟩ :=
  (w_bnd x _ Q t).trans (wq_congr fun a m1 => w_bnd (y a) (f a) Q _)
variable {Q : D → Sto → Prop}
@[simp ↓] theorem w_tup (es : Es) (t) : Wq (ev F (.tup es) env m) Q E t ↔ Wq (evs F es env m) (fun ds m1 => Q (.tup ds) m1) E ⟨⟩ := w_bndr (evs F es env) D.tup Q t
@[simp ↓] theorem w_lst (es : Es) (t) : Wq (ev F (.lst es) env m) Q E t ↔ Wq (evs F es env m) (fun ds m1 => Q (.lst ds) m1) E ⟨⟩ := w_bndr (evs F es env) D.lst Q t
@[simp ↓] theorem w_bin (o : Bop) (a b : Dh.E) (t) : Wq (ev F (.bin o a b) env m) Q E t ↔ Wq (ev F a env m) (fun x m1 => Wq (ev F b env m1) (fun y m2 => Wq (ofO (bin o x y) m2) Q E ⟨⟩) E ⟨⟩) E ⟨⟩ := by
  rw [q_bin o a b]
  exact w_bnd2 _ _ _ Q t
@[simp ↓] theorem w_cmp (o : Cop) (a b : Dh.E) (t) : Wq (ev F (.cmp o a b) env m) Q E t ↔ Wq (ev F a env m) (fun x m1 => Wq (ev F b env m1) (fun y m2 => Wq (ofO (cmp m2 o x y) m2) Q E ⟨⟩) E ⟨⟩) E ⟨⟩ := by
  rw [q_cmp o a b]
  exact w_bnd2 _ _ _ Q t
@[simp ↓] theorem w_and (a b : Dh.E) (t) : Wq (ev F (.and a b) env m) Q E t ↔ Wq (ev F a env m) (fun x m1 => Wq (selD x (ev F b env) (ret (.bl false)) m1) Q E ⟨⟩) E ⟨⟩ := w_wr (q_and a b)
@[simp ↓] theorem w_or (a b : Dh.E) (t) : Wq (ev F (.or a b) env m) Q E t ↔ Wq (ev F a env m) (fun x m1 => Wq (selD x (ret (.bl true)) (ev F b env) m1) Q E ⟨⟩) E ⟨⟩ := w_wr (q_or a b)
@[simp ↓] theorem w_ite (c a b : Dh.E) (t) : Wq (ev F (.ite c a b) env m) Q E t ↔ Wq (ev F c env m) (fun x m1 => Wq (selD x (ev F a env) (ev F b env) m1) Q E ⟨⟩) E ⟨⟩ := w_wr (q_ite c a b)
@[simp ↓] theorem w_idx (a i : Dh.E) (t) : Wq (ev F (.idx a i) env m) Q E t ↔ Wq (ev F a env m) (fun x m1 => Wq (ev F i env m1) (fun y m2 => Wq (ofO (idxD m2 x y) m2) Q E ⟨⟩) E ⟨⟩) E ⟨⟩ := by
  rw [q_idx a i]
  exact w_bnd2 _ _ _ Q t
@[simp ↓] theorem w_call (f : Nat) (es : Es) (t) : Wq (ev F (.call f es) env m) Q E t ↔ Wq (evs F es env m) (fun ds m1 => Wq (F f ds m1) Q E ⟨⟩) E ⟨⟩ := w_wr rfl
@[simp ↓] theorem w_blt (f : Bf) (es : Es) (t) : Wq (ev F (.blt f es) env m) Q E t ↔ Wq (evs F es env m) (fun ds m1 => Wq (ofO (blt m1 f ds) m1) Q E ⟨⟩) E ⟨⟩ := w_wr rfl
@[simp ↓] theorem w_isa (ty : Ty) (e : Dh.E) (t) : Wq (ev F (.isa ty e) env m) Q E t ↔ Wq (ev F e env m) (fun d m1 => Q (.bl (isaM m1 ty d)) m1) E ⟨⟩ := by
  rw [q_isa, w_bnd]
  exact Iff.of_eq (congrArg (fun z => Wq (ev F e env m) z E ⟨⟩) (funext fun d => funext fun m1 => propext wq_iff))
@[simp ↓] theorem w_cat (a b : Dh.E) (t) : Wq (ev F (.cat a b) env m) Q E t ↔ Wq (ev F a env m) (fun x m1 => Wq (ev F b env m1) (fun y m2 => Wq (ofO (catD m2 x y) m2) Q E ⟨⟩) E ⟨⟩) E ⟨⟩ := by
  rw [q_cat a b]
  exact w_bnd2 _ _ _ Q t
@[simp ↓] theorem w_listOf (e : Dh.E) (t) : Wq (ev F (.listOf e) env m) Q E t ↔ Wq (ev F e env m) (fun d m1 => Wq (ofO ((seqOf m1 d).map .lst) m1) Q E ⟨⟩) E ⟨⟩ := w_wr rfl
@[simp ↓] theorem w_rev (e : Dh.E) (t) : Wq (ev F (.rev e) env m) Q E t ↔ Wq (ev F e env m) (fun d m1 => Wq (ofO (revD m1 d) m1) Q E ⟨⟩) E ⟨⟩ := w_wr rfl
@[simp ↓] theorem w_sortOf (e : Dh.E) (t) : Wq (ev F (.sortOf e) env m) Q E t ↔ Wq (ev F e env m) (fun d m1 => Wq (ofO (sortedD m1 d) m1) Q E ⟨⟩) E ⟨⟩ := w_wr rfl
@[simp ↓] theorem w_rep (a b : Dh.E) (t) : Wq (ev F (.rep a b) env m) Q E t ↔ Wq (ev F a env m) (fun x m1 => Wq (ev F b env m1) (fun y m2 => Wq (ofO (repD x y) m2) Q E ⟨⟩) E ⟨⟩) E ⟨⟩ := by
  rw [q_rep a b]
  exact w_bnd2 _ _ _ Q t
@[simp ↓] theorem w_newd (t) : Wq (ev F .newd env m) Q E t ↔ Q (.loc m.length) (m ++ [.dic []]) := wq_iff
theorem bnd_eqR {x y : M α} {f : α → M β} {Q : β → Sto → Prop} {t} : Wq (bnd x f m) Q E t ↔ Wq (x m) (fun a m1 => Wq (f a m1) Q E ⟨⟩) E ⟨⟩ := w_bnd x f Q t
/-- not, minus, app, new: what is made of a value -/
def notW (x : D) : M D := match x with
  | .bl b => ret (.bl (!b))
  | _ => bad
def negM (x : D) : M D := match x with
  | .int i => ret (.int (-i))
  | _ => bad
def newM (x : D) : M D := match x with
  | .lst ds => alloc ds
  | _ => bad
@[simp ↓] theorem w_notW (b : Bool) (t) : Wq (notW (.bl b) m) Q E t ↔ Q (.bl (!b)) m := wq_iff
@[simp ↓] theorem w_negM (i : Int) (t) : Wq (negM (.int i) m) Q E t ↔ Q (.int (-i)) m := wq_iff
@[simp ↓] theorem w_newM (ds : List D) (t) : Wq (newM (.lst ds) m) Q E t ↔ Q (.loc m.length) (m ++ [.lst ds]) := wq_iff
@[simp ↓] theorem w_not (a : Dh.E) (t) : Wq (ev F (.not a) env m) Q E t ↔ Wq (ev F a env m) (fun x m1 => Wq (notW x m1) Q E ⟨⟩) E ⟨⟩ := w_wr rfl
@[simp ↓] theorem w_neg (a : Dh.E) (t) : Wq (ev F (.neg a) env m) Q E t ↔ Wq (ev F a env m) (fun x m1 => Wq (negM x m1) Q E ⟨⟩) E ⟨⟩ := w_wr rfl
@[simp ↓] theorem w_new (a : Dh.E) (t) : Wq (ev F (.new a) env m) Q E t ↔ Wq (ev F a env m) (fun x m1 => Wq (newM x m1) Q E ⟨⟩) E ⟨⟩ := w_wr rfl
def appM (F : Fn) (x : D) (e : Dh.E) (env : Env) : M D := match x with
  | .loc n => fun m => if isDic m n then .bad else bnd (ev F e env) (fun d => appD (.loc n) d) m
  | _ => bad
@[simp ↓] theorem w_appM (n : Nat) (e : Dh.E) (t) : Wq (appM F (.loc n) e env m) Q E t ↔ isDic m n = false ∧ Wq (ev F e env m) (fun d m1 => Wq (appD (.loc n) d m1) Q E ⟨⟩) E ⟨⟩ := by
  unfold appM
  dsimp only
  cases h : isDic m n with
  | true =>
    simp only [if_true, Bool.true_eq_false, false_and, iff_false]
    exact fun z => (wq_iff.mp z)
  | false =>
    simp only [Bool.false_eq_true, if_false, true_and]
    exact w_bnd _ _ Q t
@[simp ↓] theorem w_app (o e : Dh.E) (t) : Wq (ev F (.app o e) env m) Q E t ↔ Wq (ev F o env m) (fun x m1 => Wq (appM F x e env m1) Q E ⟨⟩) E ⟨⟩ := w_wr rfl
@[simp] theorem n_nop : isNop .nop = true := rfl
@[simp] theorem n_var (i : Nat) : isNop (.var i) = false := rfl
@[simp] theorem n_cst (d : D) : isNop (.cst d) = false := rfl
@[simp] theorem n_bin (o : Bop) (a b : Dh.E) : isNop (.bin o a b) = false := rfl
@[simp] theorem n_neg (a : Dh.E) : isNop (.neg a) = false := rfl
@[simp] theorem n_blt (f : Bf) (es : Es) : isNop (.blt f es) = false := rfl
@[simp] theorem n_idx (a b : Dh.E) : isNop (.idx a b) = false := rfl
@[simp] theorem n_call (f : Nat) (es : Es) : isNop (.call f es) = false := rfl
@[simp] theorem n_t (d : D) : partOf true d = some none := rfl
@[simp] theorem n_f (i : Int) : partOf false (.int i) = some (some i) := rfl
@[simp ↓] theorem w_sl (a lo hi : Dh.E) (t) : Wq (ev F (.sl a lo hi) env m) Q E t ↔ Wq (ev F a env m) (fun x m1 => Wq (bnd (ev F lo env) (fun l => ofO (partOf (isNop lo) l)) m1) (fun l m2 => Wq (bnd (ev F hi env) (fun h => ofO (partOf (isNop hi) h)) m2) (fun h m3 => Wq (ofO (slD m3 x l h) m3) Q E ⟨⟩) E ⟨⟩) E ⟨⟩) E ⟨⟩ := by
  rw [q_sl a lo hi, w_bnd]
  refine wq_congr fun x m1 => ?_
  exact w_bnd2 _ _ _ Q _
@[simp ↓] theorem w_snil (Q : List D → Sto → Prop) (t) : Wq (evs F .nil env m) Q E t ↔ Q [] m := wq_iff
@[simp ↓] theorem w_scons (e : Dh.E) (es : Es) (Q : List D → Sto → Prop) (t) : Wq (evs F (.cons e es) env m) Q E t ↔ Wq (ev F e env m) (fun d m1 => Wq (evs F es env m1) (fun ds m2 => Q (d :: ds) m2) E ⟨⟩) E ⟨⟩ := by
  rw [q_scons e es, w_bnd]
  refine wq_congr fun d m1 => ?_
  exact w_bndr _ _ Q _
@[simp ↓] theorem w_fstr (es : Es) (t) : Wq (ev F (.fstr es) env m) Q E t ↔ Wq (evj F es [] env m) Q E ⟨⟩ := wq_iff.trans wq_iff.symm
@[simp ↓] theorem w_fv (e : Dh.E) (t) : Wq (ev F (.fv e) env m) Q E t ↔ Wq (ev F e env m) (fun d m1 => Wq (ofO (fmtD d) m1) Q E ⟨⟩) E ⟨⟩ := w_wr rfl
def jnM (F : Fn) (d : D) (es : Es) (acc : List Nat) (env : Env) : M D := match d with
  | .str s => if acc.length + s.length ≤ lim then evj F es (acc ++ s) env else bad
  | _ => bad
@[simp ↓] theorem w_jnil (acc : List Nat) (t) : Wq (evj F .nil acc env m) Q E t ↔ Q (.str acc) m := wq_iff
@[simp ↓] theorem w_jcons (e : Dh.E) (es : Es) (acc : List Nat) (t) : Wq (evj F (.cons e es) acc env m) Q E t ↔ Wq (ev F e env m) (fun d m1 => Wq (jnM F d es acc env m1) Q E ⟨⟩) E ⟨⟩ := w_wr rfl
theorem w_jn {s : List Nat} {es : Es} {acc : List Nat} {t} (h : acc.length + s.length ≤ lim) : Wq (jnM F (.str s) es acc env m) Q E t ↔ Wq (evj F es (acc ++ s) env m) Q E ⟨⟩ := by
  have e : jnM F (.str s) es acc env = evj F es (acc ++ s) env := if_pos h
  rw [e]
/-! statements -/
def seqQ (F : Fn) (ss : Ss) (Q : Fl → Sto → Prop) (E : Ex → Sto → Prop) : Fl → Sto → Prop := fun f m => match f with
  | .nx e => Wq (runs F ss e m) Q E ⟨⟩
  | f => Q f m
section
variable (ss : Ss) (Q : Fl → Sto → Prop)
@[simp ↓] theorem s_nx (e : Env) : seqQ F ss Q E (.nx e) m ↔ Wq (runs F ss e m) Q E ⟨⟩ := Iff.rfl
@[simp ↓] theorem s_rt (d : D) : seqQ F ss Q E (.rt d) m ↔ Q (.rt d) m := Iff.rfl
@[simp ↓] theorem s_bk (e : Env) : seqQ F ss Q E (.bk e) m ↔ Q (.bk e) m := Iff.rfl
@[simp ↓] theorem s_ct (e : Env) : seqQ F ss Q E (.ct e) m ↔ Q (.ct e) m := Iff.rfl
@[simp ↓] theorem s_ex (x : Ex) (e : Env) : seqQ F ss Q E (.ex x e) m ↔ Q (.ex x e) m := Iff.rfl
@[simp ↓] theorem w_rnil (t) : Wq (runs F .nil env m) Q E t ↔ Q (.nx env) m := wq_iff
@[simp ↓] theorem w_rcons (s : S) (t) : Wq (runs F (.cons s ss) env m) Q E t ↔ Wq (run F s env m) (seqQ F ss Q E) E ⟨⟩ := by
  rw [w_wr (q_rcons s ss)]
  refine wq_congr fun f m1 => ?_
  cases f <;> first | exact Iff.rfl | exact wq_iff
def retQ (Q : D → Sto → Prop) (E : Ex → Sto → Prop) : Fl → Sto → Prop := fun f m => match f with
  | .nx _ => Q .non m
  | .rt d => Q d m
  | .ex x _ => E x m
  | _ => False
variable (Q : D → Sto → Prop)
@[simp ↓] theorem t_nx (e : Env) : retQ Q E (.nx e) m ↔ Q .non m := Iff.rfl
@[simp ↓] theorem t_rt (d : D) : retQ Q E (.rt d) m ↔ Q d m := Iff.rfl
@[simp ↓] theorem t_ex (x : Ex) (e : Env) : retQ Q E (.ex x e) m ↔ E x m := Iff.rfl
@[simp ↓] theorem t_bk (e : Env) : retQ Q E (.bk e) m ↔ False := Iff.rfl
@[simp ↓] theorem t_ct (e : Env) : retQ Q E (.ct e) m ↔ False := Iff.rfl
theorem w_fn {P : Nat → Option Df} {k f : Nat} {d : Df} {ds : List D} {t} (h : P f = some d) (hl : ds.length = d.ar) : Wq (callP P (k + 1) f ds m) Q E t ↔ Wq (runs (callP P k) d.body (ds.map some ++ List.replicate (d.n - d.ar) none) m) (retQ Q E) No ⟨⟩ := by
  rw [call_eq h hl, wq_iff, wq_iff]
  cases runs (callP P k) d.body (ds.map some ++ List.replicate (d.n - d.ar) none) m with
  | ok f m1 => cases f <;> exact Iff.rfl
  | _ => exact Iff.rfl
end
section
variable {Q : Fl → Sto → Prop}
/-- an end by a value that is bound -/
def bndM (F : Fn) (t : T) (d : D) (env : Env) : M Fl := bnd (noExc (bindT F t d env)) fun env' => ret (.nx env')
@[simp ↓] theorem w_bndM (t : T) (d : D) (g) : Wq (bndM F t d env m) Q E g ↔ Wq (bindT F t d env m) (fun e m1 => Q (.nx e) m1) No ⟨⟩ := by
  unfold bndM
  rw [w_bndr, w_noExc]
@[simp ↓] theorem w_asg (t : T) (e : Dh.E) (g) : Wq (run F (.asg t e) env m) Q E g ↔ Wq (ev F e env m) (fun d m1 => Wq (bndM F t d env m1) Q E ⟨⟩) (fun x m1 => Q (.ex x env) m1) ⟨⟩ := w_onE (ev F e env) (bndM F t · env) Q g
@[simp ↓] theorem w_expr (e : Dh.E) (g) : Wq (run F (.expr e) env m) Q E g ↔ Wq (ev F e env m) (fun _ m1 => Q (.nx env) m1) (fun x m1 => Q (.ex x env) m1) ⟨⟩ := (w_onE (ev F e env) (fun _ => ret (.nx env)) Q g).trans (wq_congr fun _ _ => wq_iff)
@[simp ↓] theorem w_retS (e : Dh.E) (g) : Wq (run F (.ret e) env m) Q E g ↔ Wq (ev F e env m) (fun d m1 => Q (.rt d) m1) (fun x m1 => Q (.ex x env) m1) ⟨⟩ := (w_onE (ev F e env) (fun d => ret (.rt d)) Q g).trans (wq_congr fun _ _ => wq_iff)
@[simp ↓] theorem w_ifs (c : Dh.E) (a b : Ss) (g) : Wq (run F (.ifs c a b) env m) Q E g ↔ Wq (ev F c env m) (fun x m1 => Wq (selD x (runs F a env) (runs F b env) m1) Q E ⟨⟩) (fun x m1 => Q (.ex x env) m1) ⟨⟩ := by
  rw [q_ifs]
  exact w_onE (ev F c env) _ Q g
@[simp ↓] theorem w_pass (g) : Wq (run F .pass env m) Q E g ↔ Q (.nx env) m := wq_iff
@[simp ↓] theorem w_brk (g) : Wq (run F .brk env m) Q E g ↔ Q (.bk env) m := wq_iff
@[simp ↓] theorem w_cont (g) : Wq (run F .cont env m) Q E g ↔ Q (.ct env) m := wq_iff
noncomputable def forS (F : Fn) (t : T) (b : Ss) (s : Src) (env : Env) : M Fl := match s with
  | .fix ds => forL (bindT F t) (runs F b) ds env
  | .loc n => forR (bindT F t) (runs F b) n lim 0 env
@[simp ↓] theorem w_for (t : T) (it : I) (b : Ss) (g) : Wq (run F (.fors t it b) env m) Q E g ↔ Wq (evI F it env m) (fun s m1 => Wq (forS F t b s env m1) Q E ⟨⟩) (fun x m1 => Q (.ex x env) m1) ⟨⟩ := w_onE (evI F it env) (fun s => forS F t b s env) Q g
@[simp ↓] theorem w_forS (t : T) (b : Ss) (ds : List D) (g) : Wq (forS F t b (.fix ds) env m) Q E g ↔ Wq (forL (bindT F t) (runs F b) ds env m) Q E ⟨⟩ := wq_iff.trans wq_iff.symm
@[simp ↓] theorem w_forN (t : T) (b : Ss) (n : Nat) (g) : Wq (forS F t b (.loc n) env m) Q E g ↔ Wq (forR (bindT F t) (runs F b) n lim 0 env m) Q E ⟨⟩ := wq_iff.trans wq_iff.symm
/-- how a round ends: J, or the loop's end -/
def loopQ (J : Env → Sto → Prop) (Q : Fl → Sto → Prop) : Fl → Sto → Prop := fun f m => match f with
  | .nx e => J e m
  | .ct e => J e m
  | .bk e => Q (.nx e) m
  | f => Q f m
variable (J : Env → Sto → Prop)
@[simp ↓] theorem l_nx (e : Env) : loopQ J Q (.nx e) m ↔ J e m := Iff.rfl
@[simp ↓] theorem l_ct (e : Env) : loopQ J Q (.ct e) m ↔ J e m := Iff.rfl
@[simp ↓] theorem l_bk (e : Env) : loopQ J Q (.bk e) m ↔ Q (.nx e) m := Iff.rfl
@[simp ↓] theorem l_rt (d : D) : loopQ J Q (.rt d) m ↔ Q (.rt d) m := Iff.rfl
@[simp ↓] theorem l_ex (x : Ex) (e : Env) : loopQ J Q (.ex x e) m ↔ Q (.ex x e) m := Iff.rfl
end
theorem w_forL_cons (t : D → Env → M Env) (b : Env → M Fl) (d : D) (ds : List D) (Q : Fl → Sto → Prop) (g) : Wq (forL t b (d :: ds) env m) Q E g ↔ Wq (t d env m) (fun e m1 => Wq (b e m1) (loopQ (fun e m2 => Wq (forL t b ds e m2) Q E ⟨⟩) Q) E ⟨⟩) No ⟨⟩ := by
  rw [forL]
  rw [w_bnd, w_noExc]
  refine wq_congr' (fun e m1 => ?_)
  rw [w_bnd]
  refine wq_congr fun f m2 => ?_
  cases f <;> first | exact Iff.rfl | exact wq_iff
theorem w_forL_nil (t : D → Env → M Env) (b : Env → M Fl) (Q : Fl → Sto → Prop) (g) : Wq (forL t b [] env m) Q E g ↔ Q (.nx env) m := wq_iff
/-- a for over rows that stay: I by what is done -/
theorem w_forI {t : D → Env → M Env} {b : Env → M Fl} {f : α → D} {xs : List α} {Q : Fl → Sto → Prop} {g} (I : List α → Env → Sto → Prop) (h0 : I [] env m)
    (hs : ∀ pre x post e m1, xs = pre ++ x :: post → I pre e m1 → Wq (t (f x) e m1) (fun e m2 => Wq (b e m2) (loopQ (fun e m => Keep (I (pre ++ [x]) e m) ⟨⟩) Q) E ⟨⟩) No ⟨⟩) (he : ∀ e m1, I xs e m1 → Q (.nx e) m1) : Wq (forL t b (xs.map f) env m) Q E g := by
  have key : ∀ post pre env m, xs = pre ++ post → I pre env m → Wq (forL t b (post.map f) env m) Q E ⟨⟩ := by
    intro post
    induction post with
    | nil =>
      intro pre env m e hi
      rw [List.append_nil] at e
      subst e
      exact ⟨he _ _ hi⟩
    | cons x post ih =>
      intro pre env m e hi
      rw [List.map_cons, w_forL_cons]
      refine wq_imp (hs pre x post env m e hi) (fun e1 m1 h1 => ?_) (fun _ _ h => h)
      refine wq_imp h1 (fun fl m2 h2 => ?_) (fun _ _ h => h)
      cases fl with
      | nx e2 => exact ih (pre ++ [x]) e2 m2 (by rw [e]; simp) h2
      | ct e2 => exact ih (pre ++ [x]) e2 m2 (by rw [e]; simp) h2
      | bk e2 => exact h2
      | rt d => exact h2
      | ex x e2 => exact h2
  exact key xs [] env m rfl h0
/-- .. of data as they are -/
theorem w_forD {t : D → Env → M Env} {b : Env → M Fl} {xs : List D} {Q : Fl → Sto → Prop} {g} (I : List D → Env → Sto → Prop) (h0 : I [] env m)
    (hs : ∀ pre x post e m1, xs = pre ++ x :: post → I pre e m1 → Wq (t x e m1) (fun e m2 => Wq (b e m2) (loopQ (fun e m => Keep (I (pre ++ [x]) e m) ⟨⟩) Q) E ⟨⟩) No ⟨⟩) (he : ∀ e m1, I xs e m1 → Q (.nx e) m1) : Wq (forL t b xs env m) Q E g := by
  have z := w_forI (t := t) (b := b) (f := id) (xs := xs) (g := g) I h0 hs he
  rwa [List.map_id] at z
/-- .. of range(n), by how many are done -/
theorem w_forN' {t : D → Env → M Env} {b : Env → M Fl} {n : Nat} {Q : Fl → Sto → Prop} {g} (I : Nat → Env → Sto → Prop) (h0 : I 0 env m)
    (hs : ∀ j e m1, j < n → I j e m1 → Wq (t (.int j) e m1) (fun e m2 => Wq (b e m2) (loopQ (fun e m => Keep (I (j + 1) e m) ⟨⟩) Q) E ⟨⟩) No ⟨⟩) (he : ∀ e m1, I n e m1 → Q (.nx e) m1) : Wq (forL t b (ranged 0 n) env m) Q E g := by
  have e0 : ranged 0 n = (List.range n).map fun i => D.int (i : Nat) := by
    unfold ranged
    have : ((n : Int) - 0).toNat = n := by omega
    rw [this]
    congr 1
    funext i
    rw [Int.zero_add]
  rw [e0]
  refine w_forI (fun pre => I pre.length) h0 (fun pre x post e m1 hx hi => ?_) (fun e m1 hi => he e m1 (by rwa [List.length_range] at hi))
  have hl : pre.length < n := by
    have := congrArg List.length hx
    rw [List.length_range, List.length_append, List.length_cons] at this
    omega
  have hx2 : x = pre.length := by
    have h := congrArg (fun l => l[pre.length]?) hx
    simp only [List.getElem?_append_right (Nat.le_refl _), Nat.sub_self, List.getElem?_cons_zero] at h
    rw [List.getElem?_range hl] at h
    injection h with h
    exact h.symm
  rw [hx2, List.length_append, List.length_singleton]
  exact hs pre.length e m1 hl hi
/-- .. over a list that is not changed meanwhile -/
theorem w_forR {t : D → Env → M Env} {b : Env → M Fl} {n : Nat} {xs : List D} {Q : Fl → Sto → Prop} {g} (I : List D → Env → Sto → Prop) (hl : xs.length ≤ lim) (hx : ∀ pre e m1, I pre e m1 → m1[n]? = some (.lst xs)) (h0 : I [] env m)
    (hs : ∀ pre x post e m1, xs = pre ++ x :: post → I pre e m1 → Wq (t x e m1) (fun e m2 => Wq (b e m2) (loopQ (fun e m => Keep (I (pre ++ [x]) e m) ⟨⟩) Q) E ⟨⟩) No ⟨⟩) (he : ∀ e m1, I xs e m1 → Q (.nx e) m1) : Wq (forR t b n lim 0 env m) Q E g := by
  have key : ∀ post pre env m k, xs = pre ++ post → post.length ≤ k → I pre env m → Wq (forR t b n k pre.length env m) Q E ⟨⟩ := by
    intro post
    induction post with
    | nil =>
      intro pre env m k e hk hi
      unfold forR
      rw [hx _ _ _ hi]
      dsimp only
      rw [List.append_nil] at e
      rw [e, List.getElem?_eq_none (Nat.le_refl _)]
      subst e
      exact ⟨he _ _ hi⟩
    | cons x post ih =>
      intro pre env m k e hk hi
      rw [List.length_cons] at hk
      unfold forR
      rw [hx _ _ _ hi]
      dsimp only
      have hg : xs[pre.length]? = some x := by
        rw [e, List.getElem?_append_right (Nat.le_refl _), Nat.sub_self]
        rfl
      rw [hg]
      dsimp only
      cases k with
      | zero => omega
      | succ k =>
        dsimp only
        rw [w_bnd, w_noExc]
        refine wq_imp (hs pre x post env m e hi) (fun e1 m1 h1 => ?_) (fun _ _ h => h)
        rw [w_bnd]
        refine wq_imp h1 (fun fl m2 h2 => ?_) (fun _ _ h => h)
        have z : (pre ++ [x]).length = pre.length + 1 := by rw [List.length_append, List.length_singleton]
        cases fl with
        | nx e2 =>
          have := ih (pre ++ [x]) e2 m2 k (by rw [e]; simp) (by omega) h2
          rwa [z] at this
        | ct e2 =>
          have := ih (pre ++ [x]) e2 m2 k (by rw [e]; simp) (by omega) h2
          rwa [z] at this
        | bk e2 => exact ⟨h2⟩
        | rt d => exact ⟨h2⟩
        | ex x e2 => exact ⟨h2⟩
  exact key xs [] env m lim rfl hl h0
/-- a while: I falls -/
theorem w_while {c : Dh.E} {b : Ss} {Q : Fl → Sto → Prop} {g} (I : Nat → Env → Sto → Prop) {n : Nat} (h0 : I n env m)
    (hs : ∀ n e m1, I n e m1 → Wq (ev F c e m1) (fun x m2 => match x with
      | .bl true => Wq (runs F b e m2) (loopQ (fun e m3 => Keep (∃ j, j < n ∧ I j e m3) ⟨⟩) Q) E ⟨⟩
      | .bl false => Q (.nx e) m2
      | _ => False) (fun x m2 => Q (.ex x e) m2) ⟨⟩) : Wq (run F (.whiles c b) env m) Q E g := by
  have key : ∀ n env m, I n env m → Wq (whileN (ev F c) (runs F b) (n + 1) env m) Q E ⟨⟩ := by
    intro n
    induction n using Nat.strongRecOn with
    | ind n ih =>
      intro env m hi
      rw [whileN_sel]
      rw [w_onE]
      refine wq_imp (hs n env m hi) (fun x m2 h => ?_) (fun _ _ h => h)
      cases x with
      | bl t =>
        cases t with
        | true =>
          dsimp only at h
          rw [w_sel, if_pos rfl, w_bnd]
          refine wq_imp h (fun f m3 h3 => ?_) (fun _ _ h => h)
          have up : ∀ e j, j < n → I j e m3 → Wq (whileN (ev F c) (runs F b) n e m3) Q E ⟨⟩ := by
            intro e j hj hi
            have z := ih j hj e m3 hi
            have nb : isBad (whileN (ev F c) (runs F b) (j + 1) e m3) = false := by
              cases hw : whileN (ev F c) (runs F b) (j + 1) e m3 with
              | bad =>
                rw [hw] at z
                exact z.un.elim
              | _ => rfl
            have w := whileN_le nb (n - (j + 1))
            have e2 : j + 1 + (n - (j + 1)) = n := by omega
            rw [e2] at w
            rw [w]
            exact z
          cases f with
          | nx e =>
            obtain ⟨j, hj, hi⟩ := h3
            exact up e j hj hi
          | ct e =>
            obtain ⟨j, hj, hi⟩ := h3
            exact up e j hj hi
          | bk e => exact ⟨h3⟩
          | rt d => exact ⟨h3⟩
          | ex x e => exact ⟨h3⟩
        | false => exact ⟨h⟩
      | _ => exact h.elim
  have z := key n env m h0
  have nb : isBad (whileN (ev F c) (runs F b) (n + 1) env m) = false := by
    cases hw : whileN (ev F c) (runs F b) (n + 1) env m with
    | bad =>
      rw [hw] at z
      exact z.un.elim
    | _ => rfl
  have e : run F (.whiles c b) env m = whileM (ev F c) (runs F b) env m := rfl
  rw [e, whileM_of (n + 1) nb]
  exact z
/-! comprehensions -/
/-- a turn of a comprehension -/
def turn (F : Fn) (elt : Dh.E) (t : T) (c : Dh.E) (env : Env) (d : D) : M (Option D) := noExc (bnd (bindT F t d env) fun env' => bnd (ev F c env') fun b => match b with
        | .bl true => bnd (ev F elt env') fun y => ret (some y)
        | .bl false => ret none
        | _ => bad)
def compS (F : Fn) (elt : Dh.E) (t : T) (c : Dh.E) (env : Env) (s : Src) : M D := match s with
    | .fix ds => if ds.length ≤ lim then bnd (compL (turn F elt t c env) ds) fun ys => ret (.lst ys) else bad
    | .loc n => bnd (compR (turn F elt t c env) n lim 0) fun ys => ret (.lst ys)
theorem w_comp (elt : Dh.E) (t : T) (it : I) (c : Dh.E) (g) : Wq (ev F (.comp elt t it c) env m) Q E g ↔ Wq (evI F it env m) (fun s m1 => Wq (compS F elt t c env s m1) Q E ⟨⟩) E ⟨⟩ := by
  have e : ev F (.comp elt t it c) env = bnd (evI F it env) (compS F elt t c env) := by
    unfold ev
    congr 1
  rw [e, w_bnd]
/-- by I: what is done, what is made -/
theorem w_compI {elt : Dh.E} {t : T} {c : Dh.E} {f : α → D} {xs : List α} {g} (I : List α → List D → Sto → Prop) (hl : xs.length ≤ lim) (h0 : I [] [] m)
    (hs : ∀ pre x post ys m1, xs = pre ++ x :: post → I pre ys m1 → Wq (bindT F t (f x) env m1) (fun e m2 => Wq (ev F c e m2) (fun b m3 => match b with
      | .bl true => Wq (ev F elt e m3) (fun y m4 => I (pre ++ [x]) (ys ++ [y]) m4) No ⟨⟩
      | .bl false => I (pre ++ [x]) ys m3
      | _ => False) No ⟨⟩) No ⟨⟩) (he : ∀ ys m1, I xs ys m1 → Q (.lst ys) m1) : Wq (compS F elt t c env (.fix (xs.map f)) m) Q E g := by
  have key : ∀ post pre ys m, xs = pre ++ post → I pre ys m → Wq (compL (turn F elt t c env) (post.map f) m) (fun zs m1 => I xs (ys ++ zs) m1) E ⟨⟩ := by
    intro post
    induction post with
    | nil =>
      intro pre ys m e hi
      rw [List.append_nil] at e
      subst e
      refine ⟨?_⟩
      show I _ (ys ++ []) m
      rw [List.append_nil]
      exact hi
    | cons x post ih =>
      intro pre ys m e hi
      rw [List.map_cons, compL, w_bnd]
      unfold turn
      rw [w_noExc, w_bnd]
      refine wq_imp (hs pre x post ys m e hi) (fun e1 m1 h1 => ?_) (fun _ _ h => h)
      rw [w_bnd]
      refine wq_imp h1 (fun b m2 h2 => ?_) (fun _ _ h => h)
      have e2 : xs = (pre ++ [x]) ++ post := by rw [e]; simp
      cases b with
      | bl b =>
        cases b with
        | true =>
          dsimp only at h2 ⊢
          rw [w_bnd]
          refine wq_imp h2 (fun y m3 h3 => ?_) (fun _ _ h => h)
          rw [w_ret, w_bnd]
          refine wq_imp (ih (pre ++ [x]) (ys ++ [y]) m3 e2 h3) (fun zs m4 h4 => ?_) (fun _ _ h => h)
          rw [w_ret]
          rwa [List.append_assoc] at h4
        | false =>
          dsimp only at h2 ⊢
          rw [w_ret, w_bnd]
          exact wq_imp (ih (pre ++ [x]) ys m2 e2 h2) (fun zs m4 h4 => ⟨h4⟩) (fun _ _ h => h)
      | _ => exact h2.elim
  unfold compS
  dsimp only
  rw [List.length_map, if_pos hl, w_bnd]
  refine wq_imp (key xs [] [] m rfl h0) (fun ys m1 h => ?_) (fun _ _ h => h)
  exact ⟨he ys m1 h⟩
end
section
variable {m : Sto} {F : Fn} {env : Env} {E : Ex → Sto → Prop}
@[simp ↓] theorem w_name (i : Nat) (d : D) (Q : Env → Sto → Prop) (t) : Wq (bindT F (.name i) d env m) Q E t ↔ (i < env.length ∧ Q (env.set i (some d)) m) := by
  rw [q_name]
  by_cases h : i < env.length
  · rw [if_pos h]
    exact ⟨fun q => ⟨h, q.un⟩, fun q => ⟨q.2⟩⟩
  · rw [if_neg h]
    exact ⟨fun q => q.un.elim, fun q => (h q.1).elim⟩
@[simp ↓] theorem w_sub (a i : Dh.E) (d : D) (Q : Env → Sto → Prop) (t) : Wq (bindT F (.sub a i) d env m) Q E t ↔ Wq (ev F a env m) (fun x m1 => Wq (ev F i env m1) (fun y m2 => Wq (setSub x y d m2) (fun _ m3 => Q env m3) E ⟨⟩) E ⟨⟩) E ⟨⟩ := by
  rw [q_sub a i d, w_bnd]
  refine wq_congr fun x m1 => ?_
  rw [w_bnd]
  refine wq_congr fun y m2 => ?_
  exact w_bndr _ _ Q _
@[simp ↓] theorem w_ttup (ts : Ts) (ds : List D) (Q : Env → Sto → Prop) (t) : Wq (bindT F (.tup ts) (.tup ds) env m) Q E t ↔ Wq (bindTs F ts ds env m) Q E ⟨⟩ := wq_iff.trans wq_iff.symm
@[simp ↓] theorem w_tnil (Q : Env → Sto → Prop) (t) : Wq (bindTs F .nil [] env m) Q E t ↔ Q env m := wq_iff
@[simp ↓] theorem w_tcons (t : T) (ts : Ts) (d : D) (ds : List D) (Q : Env → Sto → Prop) (g) : Wq (bindTs F (.cons t ts) (d :: ds) env m) Q E g ↔ Wq (bindT F t d env m) (fun e m1 => Wq (bindTs F ts ds e m1) Q E ⟨⟩) E ⟨⟩ := w_wr rfl
/-- what a for or a comprehension goes along -/
def srcM (d : D) : M Src := match d with
    | .tup ds => ret (.fix ds)
    | .lst ds => ret (.fix ds)
    | .loc n => fun m => if isDic m n then .bad else .ok (.loc n) m
    | .str s => if s.length ≤ lim then ret (.fix (s.map fun c => .str [c])) else bad
    | _ => bad
variable (Q : Src → Sto → Prop)
@[simp ↓] theorem w_seq (e : Dh.E) (t) : Wq (evI F (.seq e) env m) Q E t ↔ Wq (ev F e env m) (fun d m1 => Wq (srcM d m1) Q E ⟨⟩) E ⟨⟩ := by
  have z : evI F (.seq e) env = bnd (ev F e env) srcM := by
    rw [evI]
    congr 1
  rw [z, w_bnd]
@[simp ↓] theorem w_src1 (ds : List D) (t) : Wq (srcM (.tup ds) m) Q E t ↔ Q (.fix ds) m := wq_iff
@[simp ↓] theorem w_src2 (ds : List D) (t) : Wq (srcM (.lst ds) m) Q E t ↔ Q (.fix ds) m := wq_iff
@[simp ↓] theorem w_src3 (n : Nat) (t) : Wq (srcM (.loc n) m) Q E t ↔ isDic m n = false ∧ Q (.loc n) m := by
  unfold srcM
  dsimp only
  cases h : isDic m n with
  | true =>
    simp only [if_true, Bool.true_eq_false, false_and, iff_false]
    exact fun z => (wq_iff.mp z)
  | false =>
    simp only [Bool.false_eq_true, if_false, true_and]
    exact wq_iff
variable {Q} in
theorem w_src4 {s : List Nat} {t} (h : s.length ≤ lim) : Wq (srcM (.str s) m) Q E t ↔ Q (.fix (s.map fun c => .str [c])) m := by
  unfold srcM
  dsimp only
  rw [if_pos h]
  exact wq_iff
def rngW (ds : List D) : M Src := match ds with
    | [.int j] => if -(lim : Int) ≤ j ∧ j ≤ lim then ret (.fix (ranged 0 j)) else bad
    | [.int i, .int j] => if (-(lim : Int) ≤ i ∧ i ≤ lim) ∧ -(lim : Int) ≤ j ∧ j ≤ lim then ret (.fix (ranged i j)) else bad
    | [.int i, .int j, .int c] => if ((-(lim : Int) ≤ i ∧ i ≤ lim) ∧ -(lim : Int) ≤ j ∧ j ≤ lim) ∧ 1 ≤ c ∧ c ≤ 1000 then ret (.fix (rangedC i j c)) else bad
    | _ => bad
@[simp ↓] theorem w_range (es : Es) (t) : Wq (evI F (.range es) env m) Q E t ↔ Wq (evs F es env m) (fun ds m1 => Wq (rngW ds m1) Q E ⟨⟩) E ⟨⟩ := by
  have z : evI F (.range es) env = bnd (evs F es env) rngW := by
    rw [evI]
    congr 1
  rw [z, w_bnd]
variable {Q} in
theorem w_rng1 {j : Nat} {t} (h : j ≤ lim) : Wq (rngW [.int j] m) Q E t ↔ Q (.fix (ranged 0 j)) m := by
  unfold rngW
  dsimp only
  rw [if_pos ⟨by omega, by omega⟩]
  exact wq_iff
variable {Q} in
theorem w_rngC {i j c : Int} {t} (h : -(lim : Int) ≤ i ∧ i ≤ lim) (h2 : -(lim : Int) ≤ j ∧ j ≤ lim) (h3 : 1 ≤ c ∧ c ≤ 1000) : Wq (rngW [.int i, .int j, .int c] m) Q E t ↔ Q (.fix (rangedC i j c)) m := by
  unfold rngW
  dsimp only
  rw [if_pos ⟨⟨h, h2⟩, h3⟩]
  exact wq_iff
theorem w_enumT (e : Dh.E) (ds : List D) (t) (h : ev F e env m = .ok (.tup ds) m) : Wq (evI F (.enum e) env m) Q E t ↔ Q (.fix (enumD 0 ds)) m := by
  rw [evI, w_bnd, h]
  exact wq_iff.trans wq_iff
@[simp ↓] theorem w_enum (e : Dh.E) (ds : List D) (t) (h : ev F e env m = .ok (.lst ds) m) : Wq (evI F (.enum e) env m) Q E t ↔ Q (.fix (enumD 0 ds)) m := by
  rw [evI, w_bnd, h]
  exact wq_iff.trans wq_iff
def zipM (x y : D) : M Src := match x, y with
    | .tup xs, .tup ys => ret (.fix (zipD xs ys))
    | .lst xs, .lst ys => ret (.fix (zipD xs ys))
    | _, _ => bad
@[simp ↓] theorem w_zip (a b : Dh.E) (t) : Wq (evI F (.zip a b) env m) Q E t ↔ Wq (ev F a env m) (fun x m1 => Wq (ev F b env m1) (fun y m2 => Wq (zipM x y m2) Q E ⟨⟩) E ⟨⟩) E ⟨⟩ := by
  have z : evI F (.zip a b) env = bnd (ev F a env) fun x => bnd (ev F b env) (zipM x) := by
    rw [evI]
    congr 1
  rw [z]
  exact w_bnd2 _ _ _ Q t
def zip3W (x y z : D) : M Src := match x, y, z with
    | .tup xs, .tup ys, .tup zs => ret (.fix (zip3D xs ys zs))
    | _, _, _ => bad
@[simp ↓] theorem w_zip3 (a b c : Dh.E) (t) : Wq (evI F (.zip3 a b c) env m) Q E t ↔ Wq (ev F a env m) (fun x m1 => Wq (ev F b env m1) (fun y m2 => Wq (ev F c env m2) (fun z m3 => Wq (zip3W x y z m3) Q E ⟨⟩) E ⟨⟩) E ⟨⟩) E ⟨⟩ := by
  have z : evI F (.zip3 a b c) env = bnd (ev F a env) fun x => bnd (ev F b env) fun y => bnd (ev F c env) (zip3W x y) := by
    rw [evI]
    congr 1
  rw [z, w_bnd]
  refine wq_congr fun x m1 => ?_
  exact w_bnd2 _ _ _ Q _
@[simp ↓] theorem w_zip31 (xs ys zs : List D) (t) : Wq (zip3W (.tup xs) (.tup ys) (.tup zs) m) Q E t ↔ Q (.fix (zip3D xs ys zs)) m := wq_iff
@[simp ↓] theorem w_zip1 (xs ys : List D) (t) : Wq (zipM (.tup xs) (.tup ys) m) Q E t ↔ Q (.fix (zipD xs ys)) m := wq_iff
@[simp ↓] theorem w_zip2 (xs ys : List D) (t) : Wq (zipM (.lst xs) (.lst ys) m) Q E t ↔ Q (.fix (zipD xs ys)) m := wq_iff
end
/-- an urn and a list of one's own -/
structure St (n L k : Nat) (xs : List D) (m0 m : Sto) : Prop where
  hn : n < L
  hL : m0.length ≤ L
  urn : Urn m n k
  own : m[L]? = some (.lst xs)
  chg : Chg n m0 m
namespace St
variable {n L k k2 : Nat} {xs : List D} {m0 m m1 : Sto}
theorem new (hu : Urn m n k) : St n m.length k [] m (m ++ [.lst []]) := ⟨hu.lt, Nat.le_refl _, hu.chg (Chg.app m.length m _) (Nat.ne_of_lt hu.lt), get_last m _, Chg.app n m _⟩
theorem call (h : St n L k xs m0 m) (u : Urn m1 n k2) (c : Chg n m m1) : St n L k2 xs m0 m1 :=
  ⟨h.hn, h.hL, u, (c.2 L (lt_of_get h.own) (Nat.ne_of_gt h.hn)).trans h.own, h.chg.trans c⟩
theorem mono (h : St n L k xs m0 m) (hk : k ≤ k2) : St n L k2 xs m0 m := ⟨h.hn, h.hL, h.urn.mono hk, h.own, h.chg⟩
theorem app (h : St n L k xs m0 m) (d : D) (hl : xs.length < lim) : appD (.loc L) d m = .ok .non (m.set L (.lst (xs ++ [d]))) ∧ St n L k (xs ++ [d]) m0 (m.set L (.lst (xs ++ [d]))) :=
  ⟨app_loc h.own hl, h.hn, h.hL, h.urn.chg (Chg.set L m _) (Nat.ne_of_lt h.hn), List.getElem?_set_self (lt_of_get h.own), h.chg.setNew _ h.hL⟩
theorem tup (h : St n L k xs m0 m) : blt m .tuple [.loc L] = some (.tup xs) := tuple_loc h.own
end St
end Dh


set_option Elab.async false
set_option linter.all false
set_option maxRecDepth 100000
/-! DhRepr: repr of plain data, and texts that are compared. -/
namespace Dh
open PySem
def shownL (d : D) : List Nat := d.py.shown.cps.toList
/-- plain data whose repr is at most w long and h deep -/
structure Rs (w h : Nat) (d : D) : Prop where
  flat : d.flat = true
  sh : d.py.showable = true
  len : d.py.shown.length ≤ w
  dep : d.py.depth ≤ h
theorem Rs.mono {w h w2 h2 : Nat} {d : D} (r : Rs w h d) (a : w ≤ w2) (b : h ≤ h2) : Rs w2 h2 d := ⟨r.flat, r.sh, Nat.le_trans r.len a, Nat.le_trans r.dep b⟩
theorem repr_eq {w h : Nat} {d : D} (m : Sto) (r : Rs w h d) (hw : w ≤ lim) (hh : h ≤ 64) : blt m .repr [d] = some (.str (shownL d)) := by
  show (if (d.flat && d.py.showable && decide (d.py.shown.length ≤ lim) && decide (d.py.depth ≤ 64)) = true then some (D.str d.py.shown.cps.toList) else none) = _
  rw [r.flat, r.sh, decide_eq_true (Nat.le_trans r.len hw), decide_eq_true (Nat.le_trans r.dep hh)]
  rfl
theorem Rs.int {i : Int} {k : Nat} (h : i.natAbs < 2 ^ k) (h0 : 0 < k) (hk : k < 1920) : Rs (k + 1) 0 (.int i) := by
  have hl : i.natAbs.log2 < k := by
    by_cases z : i.natAbs = 0
    · rw [z]
      exact h0
    · exact (Nat.log2_lt z).mpr h
  refine ⟨rfl, decide_eq_true (show i.natAbs.log2 < 1920 by omega), ?_, Nat.le_refl _⟩
  have e := int_text_length_le h0 hl
  show (Str.ofString (toString i)).length ≤ k + 1
  rw [ofString_length]
  exact e
theorem Rs.str {s : List Nat} {n : Nat} (h : s.length ≤ n) (hc : ∀ c ∈ s, c < 16 ^ 8) : Rs (10 * n + 2) 0 (.str s) := by
  refine ⟨rfl, rfl, ?_, Nat.le_refl _⟩
  have e := StrLaws.reprText_len ⟨s.toArray⟩ (by simpa using hc)
  have e2 : (⟨s.toArray⟩ : Str).length = s.length := by
    show s.toArray.size = s.length
    simp
  rw [e2] at e
  show (reprText ⟨s.toArray⟩).length ≤ _
  omega
theorem Rs.bl (b : Bool) : Rs 5 0 (.bl b) := ⟨rfl, rfl, by cases b <;> decide, Nat.le_refl _⟩
theorem rs_all {w h : Nat} : ∀ {ds : List D}, (∀ d ∈ ds, Rs w h d) → D.flats ds = true ∧ PyData.showableAll (D.pys ds) = true ∧ ((PyData.shownAll (D.pys ds)).map (·.length)).sum ≤ ds.length * w ∧ (PyData.shownAll (D.pys ds)).length = ds.length ∧ PyData.depthAll (D.pys ds) ≤ h
  | [], _ => ⟨rfl, rfl, by simp [D.pys, PyData.shownAll], rfl, Nat.zero_le _⟩
  | d :: ds, r => by
    obtain ⟨a, b, c, l, e⟩ := rs_all (ds := ds) fun x hx => r x (List.mem_cons_of_mem _ hx)
    have q := r d List.mem_cons_self
    refine ⟨?_, ?_, ?_, ?_, ?_⟩
    · show (d.flat && D.flats ds) = true
      rw [q.flat, a]
      rfl
    · show (d.py.showable && PyData.showableAll (D.pys ds)) = true
      rw [q.sh, b]
      rfl
    · show (((d.py.shown) :: PyData.shownAll (D.pys ds)).map (·.length)).sum ≤ (ds.length + 1) * w
      rw [List.map_cons, List.sum_cons, Nat.add_mul, Nat.one_mul]
      have := q.len
      omega
    · show (d.py.shown :: PyData.shownAll (D.pys ds)).length = ds.length + 1
      rw [List.length_cons, l]
    · show max d.py.depth (PyData.depthAll (D.pys ds)) ≤ h
      have := q.dep
      omega
theorem Rs.tup {w h n : Nat} {ds : List D} (r : ∀ d ∈ ds, Rs w h d) (hl : ds.length ≤ n) : Rs (n * (w + 2) + 3) (h + 1) (.tup ds) := by
  obtain ⟨a, b, c, l, e⟩ := rs_all r
  refine ⟨a, b, ?_, Nat.succ_le_succ e⟩
  have z := tupleText_len_le (PyData.shownAll (D.pys ds))
  have k : ds.length * w ≤ n * w := Nat.mul_le_mul_right w hl
  have k2 : n * (w + 2) = n * w + n * 2 := Nat.mul_add ..
  show (tupleText (PyData.shownAll (D.pys ds))).length ≤ _
  omega
theorem Rs.lst {w h n : Nat} {ds : List D} (r : ∀ d ∈ ds, Rs w h d) (hl : ds.length ≤ n) : Rs (n * (w + 2) + 3) (h + 1) (.lst ds) := by
  obtain ⟨a, b, c, l, e⟩ := rs_all r
  refine ⟨a, b, ?_, Nat.succ_le_succ e⟩
  have z := listText_len_le (PyData.shownAll (D.pys ds))
  have k : ds.length * w ≤ n * w := Nat.mul_le_mul_right w hl
  have k2 : n * (w + 2) = n * w + n * 2 := Nat.mul_add ..
  show (listText (PyData.shownAll (D.pys ds))).length ≤ _
  omega
theorem Rs.pair {w h : Nat} {x y : D} (a : Rs w h x) (b : Rs w h y) : Rs (2 * (w + 2) + 3) (h + 1) (.tup [x, y]) :=
  Rs.tup (fun d hd => by
    rcases List.mem_cons.mp hd with e | hd
    · rw [e]
      exact a
    · rw [List.mem_singleton.mp hd]
      exact b) (by simp)
@[simp] theorem c_eqS (m : Sto) (s t : List Nat) : cmp m .eq (.str s) (.str t) = some (.bl (decide (s = t))) := by
  cases s <;> rfl
@[simp] theorem c_neS (m : Sto) (s t : List Nat) : cmp m .ne (.str s) (.str t) = some (.bl (!decide (s = t))) := by
  cases s <;> rfl
theorem repr_bl (m : Sto) (b : Bool) : blt m .repr [.bl b] = some (.str (shownL (.bl b))) := repr_eq m (Rs.bl b) (by unfold lim; decide) (by decide)
theorem shown_true : shownL (.bl true) = [84, 114, 117, 101] := by decide
theorem shown_false : shownL (.bl false) = [70, 97, 108, 115, 101] := by decide
end Dh


set_option Elab.async false
set_option linter.all false
set_option maxRecDepth 100000
/-! K79: the program in the own syntax. -/
namespace K79
open Dh

abbrev f_is_whole : Nat := 0
abbrev f_is_between : Nat := 1
abbrev f_is_tuple_of : Nat := 2
abbrev f_is_ratio : Nat := 3
abbrev f_is_row : Nat := 4
abbrev f_ratio : Nat := 5
abbrev f_plus : Nat := 6
abbrev f_total : Nat := 7
abbrev f_is_chance_row : Nat := 8
abbrev f_is_still_by : Nat := 9
abbrev f_are_odds : Nat := 10
abbrev f_are_nexts : Nat := 11
abbrev f_is_minded_by : Nat := 12
abbrev f_are_chances : Nat := 13
abbrev f_is_deed : Nat := 14
abbrev f_is_stand : Nat := 15
abbrev f_is_share : Nat := 16
abbrev f_is_house_by : Nat := 17
abbrev f_check_house : Nat := 18
abbrev f_is_memory : Nat := 19
abbrev f_is_told_by : Nat := 20
abbrev f_is_player_by : Nat := 21
abbrev f_is_told : Nat := 22
abbrev f_is_player : Nat := 23
abbrev f__law_urn : Nat := 24
abbrev f__law_draw : Nat := 25
abbrev f__law_pick : Nat := 26
abbrev f__law_cut : Nat := 27
abbrev f__law_plus : Nat := 28
abbrev f__law_odds : Nat := 29
abbrev f__law_hall : Nat := 30
abbrev f__law_habit : Nat := 31
abbrev f__law_memory : Nat := 32
abbrev f__law_recalled : Nat := 33
abbrev f__law_mindful : Nat := 34
abbrev f__law_hero : Nat := 35
abbrev f__law_is_whole : Nat := 36
abbrev f__law_is_part : Nat := 37
abbrev f__law_is_band : Nat := 38
abbrev f__law_is_odds : Nat := 39
abbrev f__law_odd : Nat := 40
abbrev f__law_bent : Nat := 41
abbrev f__law_is_habit : Nat := 42
abbrev f__law_is_mindful : Nat := 43
abbrev f__law_is_memory : Nat := 44
abbrev f__law_is_recalled : Nat := 45
abbrev f__law_is_hero : Nat := 46
abbrev f__law_crowd : Nat := 47
abbrev f__law_otherwise : Nat := 48
abbrev f__law_is_right : Nat := 49
abbrev f_law : Nat := 50
abbrev g_ZERO : D := .tup [.int 0, .int 1]
abbrev g_ONE : D := .tup [.int 1, .int 1]
abbrev g_MOST_MINDS : D := .int 4
abbrev g_MOST_DEEDS : D := .int 4
abbrev g_MOST_PAYS : D := .int 4
abbrev g_MOST_STANDS : D := .int 8
abbrev g_MOST_MEMORY : D := .int 9
abbrev g_MOST_LISTS : D := .int 32
/-- is_whole: 0 value -/
def b_is_whole : Ss := .cons (.ret (.and (.isa .int (.var 0)) (.not (.isa .bool (.var 0))))) .nil
abbrev d_is_whole : Df := ⟨1, 1, b_is_whole⟩
/-- is_between: 0 value, 1 low, 2 high -/
def b_is_between : Ss := .cons (.ret (.and (.call f_is_whole (.cons (.var 0) .nil)) (.chn .le .le (.var 1) (.var 0) (.var 2)))) .nil
abbrev d_is_between : Df := ⟨3, 3, b_is_between⟩
/-- is_tuple_of: 0 value, 1 many -/
def b_is_tuple_of : Ss := .cons (.ret (.and (.isa .tuple (.var 0)) (.cmp .eq (.blt .len (.cons (.var 0) .nil)) (.var 1)))) .nil
abbrev d_is_tuple_of : Df := ⟨2, 2, b_is_tuple_of⟩
/-- is_ratio: 0 value -/
def b_is_ratio : Ss := .cons (.ifs (.or (.not (.call f_is_tuple_of (.cons (.var 0) (.cons (.cst (.int 2)) .nil)))) (.or (.not (.call f_is_whole (.cons (.idx (.var 0) (.cst (.int 0))) .nil))) (.not (.call f_is_whole (.cons (.idx (.var 0) (.cst (.int 1))) .nil))))) (.cons (.ret (.cst (.bl false))) .nil) (.nil)) (.cons (.ret (.and (.cmp .gt (.idx (.var 0) (.cst (.int 1))) (.cst (.int 0))) (.cmp .eq (.blt .gcd (.cons (.idx (.var 0) (.cst (.int 0))) (.cons (.idx (.var 0) (.cst (.int 1))) .nil))) (.cst (.int 1))))) .nil)
abbrev d_is_ratio : Df := ⟨1, 1, b_is_ratio⟩
/-- is_row: 0 value, 1 many, 2 each -/
def b_is_row : Ss := .cons (.ret (.and (.call f_is_tuple_of (.cons (.var 0) (.cons (.var 1) .nil))) (.blt .all (.cons (.comp (.call f_is_ratio (.cons (.var 2) .nil)) (.name 2) (.seq (.var 0)) (.cst (.bl true))) .nil)))) .nil
abbrev d_is_row : Df := ⟨2, 3, b_is_row⟩
/-- ratio: 0 top, 1 low, 2 part -/
def b_ratio : Ss := .cons (.asg (.name 2) (.ite (.cmp .gt (.var 1) (.cst (.int 0))) (.blt .gcd (.cons (.var 0) (.cons (.var 1) .nil))) (.neg (.blt .gcd (.cons (.var 0) (.cons (.var 1) .nil)))))) (.cons (.ret (.tup (.cons (.bin .fdiv (.var 0) (.var 2)) (.cons (.bin .fdiv (.var 1) (.var 2)) .nil)))) .nil)
abbrev d_ratio : Df := ⟨2, 3, b_ratio⟩
/-- plus: 0 one, 1 two -/
def b_plus : Ss := .cons (.ret (.call f_ratio (.cons (.bin .add (.bin .mul (.idx (.var 0) (.cst (.int 0))) (.idx (.var 1) (.cst (.int 1)))) (.bin .mul (.idx (.var 1) (.cst (.int 0))) (.idx (.var 0) (.cst (.int 1))))) (.cons (.bin .mul (.idx (.var 0) (.cst (.int 1))) (.idx (.var 1) (.cst (.int 1)))) .nil)))) .nil
abbrev d_plus : Df := ⟨2, 2, b_plus⟩
/-- total: 0 fractions, 1 found, 2 each -/
def b_total : Ss := .cons (.asg (.name 1) (.cst g_ZERO)) (.cons (.fors (.name 2) (.seq (.var 0)) (.cons (.asg (.name 1) (.call f_plus (.cons (.var 1) (.cons (.var 2) .nil)))) .nil)) (.cons (.ret (.var 1)) .nil))
abbrev d_total : Df := ⟨1, 3, b_total⟩
/-- is_chance_row: 0 value, 1 many, 2 each -/
def b_is_chance_row : Ss := .cons (.ret (.and (.call f_is_row (.cons (.var 0) (.cons (.var 1) .nil))) (.and (.blt .all (.cons (.comp (.cmp .ge (.idx (.var 2) (.cst (.int 0))) (.cst (.int 0))) (.name 2) (.seq (.var 0)) (.cst (.bl true))) .nil)) (.cmp .eq (.call f_total (.cons (.var 0) .nil)) (.cst g_ONE))))) .nil
abbrev d_is_chance_row : Df := ⟨2, 3, b_is_chance_row⟩
/-- is_still_by: 0 house, 1 value, 2 odds, 3 deeds -/
def b_is_still_by : Ss := .cons (.ifs (.not (.call f_is_tuple_of (.cons (.var 1) (.cons (.blt .len (.cons (.idx (.var 0) (.cst (.int 2))) .nil)) .nil)))) (.cons (.ret (.cst (.bl false))) .nil) (.nil)) (.cons (.ret (.blt .all (.cons (.comp (.call f_is_chance_row (.cons (.var 2) (.cons (.blt .len (.cons (.var 3) .nil)) .nil))) (.tup (.cons (.name 2) (.cons (.name 3) .nil))) (.zip (.var 1) (.idx (.var 0) (.cst (.int 2)))) (.cst (.bl true))) .nil))) .nil)
abbrev d_is_still_by : Df := ⟨2, 4, b_is_still_by⟩
/-- are_odds: 0 value, 1 minds, 2 deeds, 3 odds -/
def b_are_odds : Ss := .cons (.ret (.and (.call f_is_tuple_of (.cons (.var 0) (.cons (.var 1) .nil))) (.blt .all (.cons (.comp (.call f_is_chance_row (.cons (.var 3) (.cons (.blt .len (.cons (.var 2) .nil)) .nil))) (.name 3) (.seq (.var 0)) (.cst (.bl true))) .nil)))) .nil
abbrev d_are_odds : Df := ⟨3, 4, b_are_odds⟩
/-- are_nexts: 0 value, 1 minds, 2 deeds, 3 row, 4 mind -/
def b_are_nexts : Ss := .cons (.ifs (.not (.call f_is_tuple_of (.cons (.var 0) (.cons (.blt .len (.cons (.var 2) .nil)) .nil)))) (.cons (.ret (.cst (.bl false))) .nil) (.nil)) (.cons (.ret (.blt .all (.cons (.comp (.and (.call f_is_tuple_of (.cons (.var 3) (.cons (.var 1) .nil))) (.blt .all (.cons (.comp (.call f_is_between (.cons (.var 4) (.cons (.cst (.int 0)) (.cons (.bin .sub (.var 1) (.cst (.int 1))) .nil)))) (.name 4) (.seq (.var 3)) (.cst (.bl true))) .nil))) (.name 3) (.seq (.var 0)) (.cst (.bl true))) .nil))) .nil)
abbrev d_are_nexts : Df := ⟨3, 5, b_are_nexts⟩
/-- is_minded_by: 0 house, 1 value, 2 minds, 3 odds_rows, 4 nexts, 5 each, 6 deeds -/
def b_is_minded_by : Ss := .cons (.ifs (.or (.not (.call f_is_tuple_of (.cons (.var 1) (.cons (.cst (.int 3)) .nil)))) (.not (.call f_is_between (.cons (.idx (.var 1) (.cst (.int 0))) (.cons (.cst (.int 1)) (.cons (.cst g_MOST_MINDS) .nil)))))) (.cons (.ret (.cst (.bl false))) .nil) (.nil)) (.cons (.asg (.tup (.cons (.name 2) (.cons (.name 3) (.cons (.name 4) .nil)))) (.var 1)) (.cons (.ifs (.or (.not (.call f_is_tuple_of (.cons (.var 3) (.cons (.blt .len (.cons (.idx (.var 0) (.cst (.int 2))) .nil)) .nil)))) (.not (.call f_is_tuple_of (.cons (.var 4) (.cons (.blt .len (.cons (.idx (.var 0) (.cst (.int 2))) .nil)) .nil))))) (.cons (.ret (.cst (.bl false))) .nil) (.nil)) (.cons (.ifs (.not (.blt .all (.cons (.comp (.call f_are_odds (.cons (.var 5) (.cons (.var 2) (.cons (.var 6) .nil)))) (.tup (.cons (.name 5) (.cons (.name 6) .nil))) (.zip (.var 3) (.idx (.var 0) (.cst (.int 2)))) (.cst (.bl true))) .nil))) (.cons (.ret (.cst (.bl false))) .nil) (.nil)) (.cons (.ret (.blt .all (.cons (.comp (.call f_are_nexts (.cons (.var 5) (.cons (.var 2) (.cons (.var 6) .nil)))) (.tup (.cons (.name 5) (.cons (.name 6) .nil))) (.zip (.var 4) (.idx (.var 0) (.cst (.int 2)))) (.cst (.bl true))) .nil))) .nil))))
abbrev d_is_minded_by : Df := ⟨2, 7, b_is_minded_by⟩
/-- are_chances: 0 value, 1 stands, 2 goals, 3 stand, 4 _, 5 each, 6 chance, 7 one, 8 two -/
def b_are_chances : Ss := .cons (.ifs (.or (.not (.isa .tuple (.var 0))) (.not (.blt .all (.cons (.comp (.call f_is_tuple_of (.cons (.var 5) (.cons (.cst (.int 2)) .nil))) (.name 5) (.seq (.var 0)) (.cst (.bl true))) .nil)))) (.cons (.ret (.cst (.bl false))) .nil) (.nil)) (.cons (.ifs (.not (.blt .all (.cons (.comp (.and (.call f_is_between (.cons (.var 3) (.cons (.cst (.int 0)) (.cons (.bin .sub (.var 1) (.cst (.int 1))) .nil)))) (.and (.call f_is_ratio (.cons (.var 6) .nil)) (.cmp .gt (.idx (.var 6) (.cst (.int 0))) (.cst (.int 0))))) (.tup (.cons (.name 3) (.cons (.name 6) .nil))) (.seq (.var 0)) (.cst (.bl true))) .nil))) (.cons (.ret (.cst (.bl false))) .nil) (.nil)) (.cons (.asg (.name 2) (.comp (.var 3) (.tup (.cons (.name 3) (.cons (.name 4) .nil))) (.seq (.var 0)) (.cst (.bl true)))) (.cons (.ret (.and (.blt .all (.cons (.comp (.cmp .lt (.var 7) (.var 8)) (.tup (.cons (.name 7) (.cons (.name 8) .nil))) (.zip (.var 2) (.sl (.var 2) (.cst (.int 1)) (.nop))) (.cst (.bl true))) .nil)) (.cmp .eq (.call f_total (.cons (.comp (.var 6) (.tup (.cons (.name 4) (.cons (.name 6) .nil))) (.seq (.var 0)) (.cst (.bl true))) .nil)) (.cst g_ONE)))) .nil)))
abbrev d_are_chances : Df := ⟨2, 9, b_are_chances⟩
/-- is_deed: 0 value, 1 pays, 2 stands -/
def b_is_deed : Ss := .cons (.ret (.and (.call f_is_tuple_of (.cons (.var 0) (.cons (.cst (.int 2)) .nil))) (.and (.call f_are_chances (.cons (.idx (.var 0) (.cst (.int 0))) (.cons (.var 2) .nil))) (.call f_is_row (.cons (.idx (.var 0) (.cst (.int 1))) (.cons (.var 1) .nil)))))) .nil
abbrev d_is_deed : Df := ⟨3, 3, b_is_deed⟩
/-- is_stand: 0 value, 1 pays, 2 stands, 3 each -/
def b_is_stand : Ss := .cons (.ifs (.or (.not (.isa .tuple (.var 0))) (.not (.call f_is_between (.cons (.blt .len (.cons (.var 0) .nil)) (.cons (.cst (.int 1)) (.cons (.cst g_MOST_DEEDS) .nil)))))) (.cons (.ret (.cst (.bl false))) .nil) (.nil)) (.cons (.ret (.blt .all (.cons (.comp (.call f_is_deed (.cons (.var 3) (.cons (.var 1) (.cons (.var 2) .nil)))) (.name 3) (.seq (.var 0)) (.cst (.bl true))) .nil))) .nil)
abbrev d_is_stand : Df := ⟨3, 4, b_is_stand⟩
/-- is_share: 0 value -/
def b_is_share : Ss := .cons (.ret (.and (.call f_is_ratio (.cons (.var 0) .nil)) (.chn .le .lt (.cst (.int 0)) (.idx (.var 0) (.cst (.int 0))) (.idx (.var 0) (.cst (.int 1)))))) .nil
abbrev d_is_share : Df := ⟨1, 1, b_is_share⟩
/-- is_house_by: 0 value, 1 stands, 2 each -/
def b_is_house_by : Ss := .cons (.ifs (.or (.not (.call f_is_tuple_of (.cons (.var 0) (.cons (.cst (.int 3)) .nil)))) (.or (.not (.call f_is_share (.cons (.idx (.var 0) (.cst (.int 0))) .nil))) (.not (.call f_is_between (.cons (.idx (.var 0) (.cst (.int 1))) (.cons (.cst (.int 1)) (.cons (.cst g_MOST_PAYS) .nil))))))) (.cons (.ret (.cst (.bl false))) .nil) (.nil)) (.cons (.asg (.name 1) (.idx (.var 0) (.cst (.int 2)))) (.cons (.ifs (.or (.not (.isa .tuple (.var 1))) (.not (.call f_is_between (.cons (.blt .len (.cons (.var 1) .nil)) (.cons (.cst (.int 1)) (.cons (.cst g_MOST_STANDS) .nil)))))) (.cons (.ret (.cst (.bl false))) .nil) (.nil)) (.cons (.ret (.blt .all (.cons (.comp (.call f_is_stand (.cons (.var 2) (.cons (.idx (.var 0) (.cst (.int 1))) (.cons (.blt .len (.cons (.var 1) .nil)) .nil)))) (.name 2) (.seq (.var 1)) (.cst (.bl true))) .nil))) .nil)))
abbrev d_is_house_by : Df := ⟨1, 3, b_is_house_by⟩
/-- check_house: 0 value -/
def b_check_house : Ss := .cons (.ifs (.not (.call f_is_house_by (.cons (.var 0) .nil))) (.cons (.raise) .nil) (.nil)) .nil
abbrev d_check_house : Df := ⟨1, 1, b_check_house⟩
/-- is_memory: 0 house, 1 value, 2 at, 3 deeds, 4 goal, 5 _ -/
def b_is_memory : Ss := .cons (.ifs (.or (.not (.isa .tuple (.var 1))) (.or (.not (.chn .le .le (.cst (.int 1)) (.blt .len (.cons (.var 1) .nil)) (.cst g_MOST_MEMORY))) (.cmp .eq (.bin .mod (.blt .len (.cons (.var 1) .nil)) (.cst (.int 2))) (.cst (.int 0))))) (.cons (.ret (.cst (.bl false))) .nil) (.nil)) (.cons (.ifs (.not (.call f_is_between (.cons (.idx (.var 1) (.cst (.int 0))) (.cons (.cst (.int 0)) (.cons (.bin .sub (.blt .len (.cons (.idx (.var 0) (.cst (.int 2))) .nil)) (.cst (.int 1))) .nil))))) (.cons (.ret (.cst (.bl false))) .nil) (.nil)) (.cons (.fors (.name 2) (.range (.cons (.cst (.int 1)) (.cons (.blt .len (.cons (.var 1) .nil)) (.cons (.cst (.int 2)) .nil)))) (.cons (.asg (.name 3) (.idx (.idx (.var 0) (.cst (.int 2))) (.idx (.var 1) (.bin .sub (.var 2) (.cst (.int 1)))))) (.cons (.ifs (.or (.not (.call f_is_between (.cons (.idx (.var 1) (.var 2)) (.cons (.cst (.int 0)) (.cons (.bin .sub (.blt .len (.cons (.var 3) .nil)) (.cst (.int 1))) .nil))))) (.not (.call f_is_between (.cons (.idx (.var 1) (.bin .add (.var 2) (.cst (.int 1)))) (.cons (.cst (.int 0)) (.cons (.bin .sub (.blt .len (.cons (.idx (.var 0) (.cst (.int 2))) .nil)) (.cst (.int 1))) .nil)))))) (.cons (.ret (.cst (.bl false))) .nil) (.nil)) (.cons (.ifs (.cmp .notin (.idx (.var 1) (.bin .add (.var 2) (.cst (.int 1)))) (.comp (.var 4) (.tup (.cons (.name 4) (.cons (.name 5) .nil))) (.seq (.idx (.idx (.var 3) (.idx (.var 1) (.var 2))) (.cst (.int 0)))) (.cst (.bl true)))) (.cons (.ret (.cst (.bl false))) .nil) (.nil)) .nil)))) (.cons (.ret (.cst (.bl true))) .nil)))
abbrev d_is_memory : Df := ⟨2, 6, b_is_memory⟩
/-- is_told_by: 0 house, 1 value, 2 each, 3 one, 4 two, 5 memory, 6 odds -/
def b_is_told_by : Ss := .cons (.ifs (.or (.not (.call f_is_tuple_of (.cons (.var 1) (.cons (.cst (.int 2)) .nil)))) (.or (.not (.isa .tuple (.idx (.var 1) (.cst (.int 0))))) (.cmp .gt (.blt .len (.cons (.idx (.var 1) (.cst (.int 0))) .nil)) (.cst g_MOST_LISTS)))) (.cons (.ret (.cst (.bl false))) .nil) (.nil)) (.cons (.ifs (.not (.blt .all (.cons (.comp (.and (.call f_is_tuple_of (.cons (.var 2) (.cons (.cst (.int 2)) .nil))) (.call f_is_memory (.cons (.var 0) (.cons (.idx (.var 2) (.cst (.int 0))) .nil)))) (.name 2) (.seq (.idx (.var 1) (.cst (.int 0)))) (.cst (.bl true))) .nil))) (.cons (.ret (.cst (.bl false))) .nil) (.nil)) (.cons (.ifs (.not (.blt .all (.cons (.comp (.cmp .lt (.idx (.var 3) (.cst (.int 0))) (.idx (.var 4) (.cst (.int 0)))) (.tup (.cons (.name 3) (.cons (.name 4) .nil))) (.zip (.idx (.var 1) (.cst (.int 0))) (.sl (.idx (.var 1) (.cst (.int 0))) (.cst (.int 1)) (.nop))) (.cst (.bl true))) .nil))) (.cons (.ret (.cst (.bl false))) .nil) (.nil)) (.cons (.ifs (.not (.blt .all (.cons (.comp (.call f_is_chance_row (.cons (.var 6) (.cons (.blt .len (.cons (.idx (.idx (.var 0) (.cst (.int 2))) (.idx (.var 5) (.neg (.cst (.int 1))))) .nil)) .nil))) (.tup (.cons (.name 5) (.cons (.name 6) .nil))) (.seq (.idx (.var 1) (.cst (.int 0)))) (.cst (.bl true))) .nil))) (.cons (.ret (.cst (.bl false))) .nil) (.nil)) (.cons (.ret (.call f_is_still_by (.cons (.var 0) (.cons (.idx (.var 1) (.cst (.int 1))) .nil)))) .nil))))
abbrev d_is_told_by : Df := ⟨2, 7, b_is_told_by⟩
/-- is_player_by: 0 house, 1 value -/
def b_is_player_by : Ss := .cons (.ifs (.or (.not (.call f_is_tuple_of (.cons (.var 1) (.cons (.cst (.int 2)) .nil)))) (.not (.isa .str (.idx (.var 1) (.cst (.int 0)))))) (.cons (.ret (.cst (.bl false))) .nil) (.nil)) (.cons (.ifs (.cmp .eq (.idx (.var 1) (.cst (.int 0))) (.cst (.str [115, 116, 105, 108, 108]))) (.cons (.ret (.call f_is_still_by (.cons (.var 0) (.cons (.idx (.var 1) (.cst (.int 1))) .nil)))) .nil) (.nil)) (.cons (.ifs (.cmp .eq (.idx (.var 1) (.cst (.int 0))) (.cst (.str [109, 105, 110, 100, 101, 100]))) (.cons (.ret (.call f_is_minded_by (.cons (.var 0) (.cons (.idx (.var 1) (.cst (.int 1))) .nil)))) .nil) (.nil)) (.cons (.ret (.and (.cmp .eq (.idx (.var 1) (.cst (.int 0))) (.cst (.str [116, 111, 108, 100]))) (.call f_is_told_by (.cons (.var 0) (.cons (.idx (.var 1) (.cst (.int 1))) .nil))))) .nil)))
abbrev d_is_player_by : Df := ⟨2, 2, b_is_player_by⟩
/-- is_told: 0 house, 1 value -/
def b_is_told : Ss := .cons (.expr (.call f_check_house (.cons (.var 0) .nil))) (.cons (.ret (.call f_is_told_by (.cons (.var 0) (.cons (.var 1) .nil)))) .nil)
abbrev d_is_told : Df := ⟨2, 2, b_is_told⟩
/-- is_player: 0 house, 1 value -/
def b_is_player : Ss := .cons (.expr (.call f_check_house (.cons (.var 0) .nil))) (.cons (.ret (.call f_is_player_by (.cons (.var 0) (.cons (.var 1) .nil)))) .nil)
abbrev d_is_player : Df := ⟨2, 2, b_is_player⟩
/-- _law_urn: 0 _law_script, 1 _law_salt, 2 _law_mixed, 3 _law_cell, 4 _law_great -/
def b__law_urn : Ss := .cons (.asg (.name 2) (.bin .add (.cst (.int 9522)) (.bin .mul (.cst (.int 331)) (.var 1)))) (.cons (.fors (.name 3) (.seq (.sl (.var 0) (.nop) (.cst (.int 10)))) (.cons (.asg (.name 2) (.bin .mod (.blt .int (.cons (.bin .add (.bin .add (.bin .mul (.var 2) (.cst (.int 52361))) (.bin .mod (.blt .int (.cons (.var 3) .nil)) (.cst (.int 2147483629)))) (.cst (.int 17))) .nil)) (.cst (.int 2147483587)))) .nil)) (.cons (.asg (.name 4) (.ite (.cmp .lt (.var 1) (.blt .len (.cons (.var 0) .nil))) (.blt .int (.cons (.idx (.var 0) (.var 1)) .nil)) (.cst (.int 0)))) (.cons (.ret (.new (.lst (.cons (.ite (.or (.cmp .lt (.var 4) (.cst (.int 0))) (.cmp .ge (.var 4) (.bin .pow (.cst (.int 10)) (.cst (.int 16))))) (.blt .abs (.cons (.var 4) .nil)) (.cst (.int 0))) (.cons (.var 2) (.cons (.cst (.int 0)) .nil)))))) .nil)))
abbrev d__law_urn : Df := ⟨2, 5, b__law_urn⟩
/-- _law_draw: 0 _law_urn_here, 1 _law_size, 2 _law_mixed, 3 _law_digit -/
def b__law_draw : Ss := .cons (.ifs (.cmp .gt (.idx (.var 0) (.cst (.int 0))) (.cst (.int 0))) (.cons (.asg (.tup (.cons (.sub (.var 0) (.cst (.int 0))) (.cons (.name 3) .nil))) (.blt .divmod (.cons (.idx (.var 0) (.cst (.int 0))) (.cons (.var 1) .nil)))) (.cons (.ret (.var 3)) .nil)) (.nil)) (.cons (.asg (.sub (.var 0) (.cst (.int 2))) (.bin .add (.idx (.var 0) (.cst (.int 2))) (.cst (.int 1)))) (.cons (.asg (.name 2) (.bin .mod (.blt .int (.cons (.bin .add (.bin .add (.bin .mul (.idx (.var 0) (.cst (.int 1))) (.cst (.int 48271))) (.bin .mul (.idx (.var 0) (.cst (.int 2))) (.cst (.int 69621)))) (.cst (.int 11))) .nil)) (.cst (.int 2147483587)))) (.cons (.asg (.sub (.var 0) (.cst (.int 1))) (.var 2)) (.cons (.ret (.bin .mod (.blt .int (.cons (.bin .fdiv (.blt .int (.cons (.bin .mul (.var 2) (.bin .add (.bin .mod (.blt .int (.cons (.var 2) .nil)) (.cst (.int 8191))) (.cst (.int 30029)))) .nil)) (.cst (.int 4099))) .nil)) (.var 1))) .nil))))
abbrev d__law_draw : Df := ⟨2, 4, b__law_draw⟩
/-- _law_pick: 0 _law_urn_here, 1 _law_some -/
def b__law_pick : Ss := .cons (.ret (.idx (.var 1) (.call f__law_draw (.cons (.var 0) (.cons (.blt .len (.cons (.var 1) .nil)) .nil))))) .nil
abbrev d__law_pick : Df := ⟨2, 2, b__law_pick⟩
/-- _law_cut: 0 _law_top, 1 _law_below, 2 _law_high, 3 _law_low -/
def b__law_cut : Ss := .cons (.asg (.tup (.cons (.name 2) (.cons (.name 3) .nil))) (.tup (.cons (.blt .abs (.cons (.var 0) .nil)) (.cons (.var 1) .nil)))) (.cons (.whiles (.cmp .gt (.var 3) (.cst (.int 0))) (.cons (.asg (.tup (.cons (.name 2) (.cons (.name 3) .nil))) (.tup (.cons (.var 3) (.cons (.bin .mod (.blt .int (.cons (.var 2) .nil)) (.var 3)) .nil)))) .nil)) (.cons (.ret (.tup (.cons (.bin .fdiv (.var 0) (.var 2)) (.cons (.bin .fdiv (.var 1) (.var 2)) .nil)))) .nil))
abbrev d__law_cut : Df := ⟨2, 4, b__law_cut⟩
/-- _law_plus: 0 _law_first, 1 _law_second -/
def b__law_plus : Ss := .cons (.ret (.call f__law_cut (.cons (.bin .add (.bin .mul (.idx (.var 0) (.cst (.int 0))) (.idx (.var 1) (.cst (.int 1)))) (.bin .mul (.idx (.var 1) (.cst (.int 0))) (.idx (.var 0) (.cst (.int 1))))) (.cons (.bin .mul (.idx (.var 0) (.cst (.int 1))) (.idx (.var 1) (.cst (.int 1)))) .nil)))) .nil
abbrev d__law_plus : Df := ⟨2, 2, b__law_plus⟩
/-- _law_odds: 0 _law_urn_here, 1 _law_size, 2 _law_parts, 3 _law_lap, 4 _law_whole, 5 _law_each -/
def b__law_odds : Ss := .cons (.asg (.name 2) (.new (.lst (.nil)))) (.cons (.fors (.name 3) (.range (.cons (.var 1) .nil)) (.cons (.expr (.app (.var 2) (.call f__law_pick (.cons (.var 0) (.cons (.lst (.cons (.cst (.int 0)) (.cons (.cst (.int 0)) (.cons (.cst (.int 1)) (.cons (.cst (.int 1)) (.cons (.cst (.int 1)) (.cons (.cst (.int 2)) (.cons (.cst (.int 3)) .nil)))))))) .nil))))) .nil)) (.cons (.ifs (.cmp .eq (.blt .sum (.cons (.var 2) .nil)) (.cst (.int 0))) (.cons (.asg (.sub (.var 2) (.call f__law_draw (.cons (.var 0) (.cons (.var 1) .nil)))) (.cst (.int 1))) .nil) (.nil)) (.cons (.asg (.name 4) (.blt .sum (.cons (.var 2) .nil))) (.cons (.ret (.blt .tuple (.cons (.comp (.call f__law_cut (.cons (.var 5) (.cons (.var 4) .nil))) (.name 5) (.seq (.var 2)) (.cst (.bl true))) .nil))) .nil))))
abbrev d__law_odds : Df := ⟨2, 6, b__law_odds⟩
/-- _law_hall: 0 _law_urn_here, 1 _law_most, 2 _law_purse, 3 _law_at, 4 _law_size, 5 _law_rooms, 6 _law_acts, 7 _law_lap, 8 _law_turned, 9 _law_odds_here, 10 _law_gains, 11 _law_k -/
def b__law_hall : Ss := .cons (.asg (.tup (.cons (.name 4) (.cons (.name 5) .nil))) (.tup (.cons (.bin .add (.cst (.int 1)) (.call f__law_draw (.cons (.var 0) (.cons (.var 1) .nil)))) (.cons (.new (.lst (.nil))) .nil)))) (.cons (.fors (.name 3) (.range (.cons (.var 4) .nil)) (.cons (.asg (.name 6) (.new (.lst (.nil)))) (.cons (.fors (.name 7) (.range (.cons (.call f__law_pick (.cons (.var 0) (.cons (.lst (.cons (.cst (.int 1)) (.cons (.cst (.int 2)) (.cons (.cst (.int 2)) (.cons (.cst (.int 3)) .nil))))) .nil))) .nil)) (.cons (.asg (.tup (.cons (.name 9) (.cons (.name 10) .nil))) (.tup (.cons (.call f__law_odds (.cons (.var 0) (.cons (.var 4) .nil))) (.cons (.new (.lst (.nil))) .nil)))) (.cons (.fors (.name 8) (.range (.cons (.var 2) .nil)) (.cons (.expr (.app (.var 10) (.call f__law_cut (.cons (.bin .sub (.call f__law_draw (.cons (.var 0) (.cons (.cst (.int 11)) .nil))) (.cst (.int 4))) (.cons (.call f__law_pick (.cons (.var 0) (.cons (.lst (.cons (.cst (.int 1)) (.cons (.cst (.int 1)) (.cons (.cst (.int 2)) .nil)))) .nil))) .nil))))) .nil)) (.cons (.expr (.app (.var 6) (.tup (.cons (.blt .tuple (.cons (.comp (.tup (.cons (.var 11) (.cons (.idx (.var 9) (.var 11)) .nil))) (.name 11) (.range (.cons (.var 4) .nil)) (.cmp .gt (.idx (.idx (.var 9) (.var 11)) (.cst (.int 0))) (.cst (.int 0)))) .nil)) (.cons (.blt .tuple (.cons (.var 10) .nil)) .nil))))) .nil)))) (.cons (.expr (.app (.var 5) (.blt .tuple (.cons (.var 6) .nil)))) .nil)))) (.cons (.ret (.tup (.cons (.call f__law_pick (.cons (.var 0) (.cons (.lst (.cons (.tup (.cons (.cst (.int 0)) (.cons (.cst (.int 1)) .nil))) (.cons (.tup (.cons (.cst (.int 1)) (.cons (.cst (.int 2)) .nil))) (.cons (.tup (.cons (.cst (.int 1)) (.cons (.cst (.int 2)) .nil))) (.cons (.tup (.cons (.cst (.int 1)) (.cons (.cst (.int 3)) .nil))) (.cons (.tup (.cons (.cst (.int 2)) (.cons (.cst (.int 3)) .nil))) (.cons (.tup (.cons (.cst (.int 3)) (.cons (.cst (.int 4)) .nil))) .nil))))))) .nil))) (.cons (.var 2) (.cons (.blt .tuple (.cons (.var 5) .nil)) .nil))))) .nil))
abbrev d__law_hall : Df := ⟨3, 12, b__law_hall⟩
/-- _law_habit: 0 _law_urn_here, 1 _law_hall_here, 2 _law_found, 3 _law_acts -/
def b__law_habit : Ss := .cons (.asg (.name 2) (.new (.lst (.nil)))) (.cons (.fors (.name 3) (.seq (.idx (.var 1) (.cst (.int 2)))) (.cons (.expr (.app (.var 2) (.call f__law_odds (.cons (.var 0) (.cons (.blt .len (.cons (.var 3) .nil)) .nil))))) .nil)) (.cons (.ret (.blt .tuple (.cons (.var 2) .nil))) .nil))
abbrev d__law_habit : Df := ⟨2, 4, b__law_habit⟩
/-- _law_memory: 0 _law_urn_here, 1 _law_hall_here, 2 _law_path, 3 _law_lap, 4 _law_act -/
def b__law_memory : Ss := .cons (.asg (.name 2) (.tup (.cons (.call f__law_draw (.cons (.var 0) (.cons (.blt .len (.cons (.idx (.var 1) (.cst (.int 2))) .nil)) .nil))) .nil))) (.cons (.fors (.name 3) (.range (.cons (.call f__law_pick (.cons (.var 0) (.cons (.lst (.cons (.cst (.int 0)) (.cons (.cst (.int 0)) (.cons (.cst (.int 1)) (.cons (.cst (.int 1)) (.cons (.cst (.int 2)) (.cons (.cst (.int 3)) (.cons (.cst (.int 4)) .nil)))))))) .nil))) .nil)) (.cons (.asg (.name 4) (.call f__law_draw (.cons (.var 0) (.cons (.blt .len (.cons (.idx (.idx (.var 1) (.cst (.int 2))) (.idx (.var 2) (.neg (.cst (.int 1))))) .nil)) .nil)))) (.cons (.asg (.name 2) (.bin .add (.var 2) (.tup (.cons (.var 4) (.cons (.idx (.call f__law_pick (.cons (.var 0) (.cons (.idx (.idx (.idx (.idx (.var 1) (.cst (.int 2))) (.idx (.var 2) (.neg (.cst (.int 1))))) (.var 4)) (.cst (.int 0))) .nil))) (.cst (.int 0))) .nil))))) .nil))) (.cons (.ret (.var 2)) .nil))
abbrev d__law_memory : Df := ⟨2, 5, b__law_memory⟩
/-- _law_recalled: 0 _law_urn_here, 1 _law_hall_here, 2 _law_table, 3 _law_lap, 4 _law_path -/
def b__law_recalled : Ss := .cons (.asg (.name 2) (.newd)) (.cons (.fors (.name 3) (.range (.cons (.call f__law_pick (.cons (.var 0) (.cons (.lst (.cons (.cst (.int 0)) (.cons (.cst (.int 1)) (.cons (.cst (.int 2)) (.cons (.cst (.int 3)) (.cons (.cst (.int 4)) .nil)))))) .nil))) .nil)) (.cons (.asg (.name 4) (.call f__law_memory (.cons (.var 0) (.cons (.var 1) .nil)))) (.cons (.asg (.sub (.var 2) (.var 4)) (.call f__law_odds (.cons (.var 0) (.cons (.blt .len (.cons (.idx (.idx (.var 1) (.cst (.int 2))) (.idx (.var 4) (.neg (.cst (.int 1))))) .nil)) .nil)))) .nil))) (.cons (.ret (.tup (.cons (.blt .tuple (.cons (.comp (.tup (.cons (.var 4) (.cons (.idx (.var 2) (.var 4)) .nil))) (.name 4) (.seq (.sortOf (.var 2))) (.cst (.bl true))) .nil)) (.cons (.call f__law_habit (.cons (.var 0) (.cons (.var 1) .nil))) .nil)))) .nil))
abbrev d__law_recalled : Df := ⟨2, 5, b__law_recalled⟩
/-- _law_mindful: 0 _law_urn_here, 1 _law_hall_here, 2 _law_acts, 3 _law_minds, 4 _law_odds_here, 5 _law_after, 6 _law_lap, 7 _law_act, 8 _law_some, 9 _law_behind, 10 _law_goals -/
def b__law_mindful : Ss := .cons (.asg (.tup (.cons (.name 3) (.cons (.name 4) (.cons (.name 5) .nil)))) (.tup (.cons (.bin .add (.cst (.int 1)) (.call f__law_draw (.cons (.var 0) (.cons (.cst (.int 3)) .nil)))) (.cons (.new (.lst (.nil))) (.cons (.new (.lst (.nil))) .nil))))) (.cons (.fors (.name 2) (.seq (.idx (.var 1) (.cst (.int 2)))) (.cons (.asg (.tup (.cons (.name 8) (.cons (.name 9) .nil))) (.tup (.cons (.new (.lst (.nil))) (.cons (.new (.lst (.nil))) .nil)))) (.cons (.fors (.name 6) (.range (.cons (.var 3) .nil)) (.cons (.expr (.app (.var 8) (.call f__law_odds (.cons (.var 0) (.cons (.blt .len (.cons (.var 2) .nil)) .nil))))) .nil)) (.cons (.fors (.name 7) (.seq (.var 2)) (.cons (.asg (.name 10) (.new (.lst (.nil)))) (.cons (.fors (.name 6) (.range (.cons (.var 3) .nil)) (.cons (.expr (.app (.var 10) (.call f__law_draw (.cons (.var 0) (.cons (.var 3) .nil))))) .nil)) (.cons (.expr (.app (.var 9) (.blt .tuple (.cons (.var 10) .nil)))) .nil)))) (.cons (.expr (.app (.var 4) (.blt .tuple (.cons (.var 8) .nil)))) (.cons (.expr (.app (.var 5) (.blt .tuple (.cons (.var 9) .nil)))) .nil)))))) (.cons (.ret (.tup (.cons (.var 3) (.cons (.blt .tuple (.cons (.var 4) .nil)) (.cons (.blt .tuple (.cons (.var 5) .nil)) .nil))))) .nil))
abbrev d__law_mindful : Df := ⟨2, 11, b__law_mindful⟩
/-- _law_hero: 0 _law_urn_here, 1 _law_hall_here, 2 _law_kind -/
def b__law_hero : Ss := .cons (.asg (.name 2) (.call f__law_pick (.cons (.var 0) (.cons (.lst (.cons (.cst (.str [115, 116, 105, 108, 108])) (.cons (.cst (.str [109, 105, 110, 100, 101, 100])) (.cons (.cst (.str [109, 105, 110, 100, 101, 100])) (.cons (.cst (.str [116, 111, 108, 100])) (.cons (.cst (.str [116, 111, 108, 100])) (.cons (.cst (.str [116, 111, 108, 100])) .nil))))))) .nil)))) (.cons (.ifs (.cmp .eq (.var 2) (.cst (.str [116, 111, 108, 100]))) (.cons (.ret (.tup (.cons (.var 2) (.cons (.call f__law_recalled (.cons (.var 0) (.cons (.var 1) .nil))) .nil)))) .nil) (.nil)) (.cons (.ret (.tup (.cons (.var 2) (.cons (.ite (.cmp .eq (.var 2) (.cst (.str [115, 116, 105, 108, 108]))) (.call f__law_habit (.cons (.var 0) (.cons (.var 1) .nil))) (.call f__law_mindful (.cons (.var 0) (.cons (.var 1) .nil)))) .nil)))) .nil))
abbrev d__law_hero : Df := ⟨2, 3, b__law_hero⟩
/-- _law_is_whole: 0 _law_thing -/
def b__law_is_whole : Ss := .cons (.ret (.and (.isa .int (.var 0)) (.not (.isa .bool (.var 0))))) .nil
abbrev d__law_is_whole : Df := ⟨1, 1, b__law_is_whole⟩
/-- _law_is_part: 0 _law_thing -/
def b__law_is_part : Ss := .cons (.ifs (.or (.not (.isa .tuple (.var 0))) (.or (.cmp .ne (.blt .len (.cons (.var 0) .nil)) (.cst (.int 2))) (.or (.not (.call f__law_is_whole (.cons (.idx (.var 0) (.cst (.int 0))) .nil))) (.not (.call f__law_is_whole (.cons (.idx (.var 0) (.cst (.int 1))) .nil)))))) (.cons (.ret (.cst (.bl false))) .nil) (.nil)) (.cons (.ret (.and (.cmp .gt (.idx (.var 0) (.cst (.int 1))) (.cst (.int 0))) (.cmp .eq (.call f__law_cut (.cons (.idx (.var 0) (.cst (.int 0))) (.cons (.idx (.var 0) (.cst (.int 1))) .nil))) (.var 0)))) .nil)
abbrev d__law_is_part : Df := ⟨1, 1, b__law_is_part⟩
/-- _law_is_band: 0 _law_thing, 1 _law_size, 2 _law_each -/
def b__law_is_band : Ss := .cons (.ifs (.or (.not (.isa .tuple (.var 0))) (.cmp .ne (.blt .len (.cons (.var 0) .nil)) (.var 1))) (.cons (.ret (.cst (.bl false))) .nil) (.nil)) (.cons (.ret (.cmp .eq (.comp (.var 2) (.name 2) (.seq (.var 0)) (.not (.call f__law_is_part (.cons (.var 2) .nil)))) (.lst (.nil)))) .nil)
abbrev d__law_is_band : Df := ⟨2, 3, b__law_is_band⟩
/-- _law_is_odds: 0 _law_thing, 1 _law_size, 2 _law_total, 3 _law_each -/
def b__law_is_odds : Ss := .cons (.ifs (.not (.call f__law_is_band (.cons (.var 0) (.cons (.var 1) .nil)))) (.cons (.ret (.cst (.bl false))) .nil) (.nil)) (.cons (.asg (.name 2) (.tup (.cons (.cst (.int 0)) (.cons (.cst (.int 1)) .nil)))) (.cons (.fors (.name 3) (.seq (.var 0)) (.cons (.ifs (.cmp .lt (.idx (.var 3) (.cst (.int 0))) (.cst (.int 0))) (.cons (.ret (.cst (.bl false))) .nil) (.nil)) (.cons (.asg (.name 2) (.call f__law_plus (.cons (.var 2) (.cons (.var 3) .nil)))) .nil))) (.cons (.ret (.cmp .eq (.var 2) (.tup (.cons (.cst (.int 1)) (.cons (.cst (.int 1)) .nil))))) .nil)))
abbrev d__law_is_odds : Df := ⟨2, 4, b__law_is_odds⟩
/-- _law_odd: 0 _law_urn_here, 1 _law_some -/
def b__law_odd : Ss := .cons (.asg (.name 1) (.lst (.cons (.cst (.non)) (.cons (.cst (.bl true)) (.cons (.cst (.bl false)) (.cons (.cst (.int 0)) (.cons (.cst (.int 1)) (.cons (.neg (.cst (.int 1))) (.cons (.cst (.int 2)) (.cons (.cst (.int 9)) (.cons (.bin .pow (.cst (.int 10)) (.cst (.int 40))) (.cons (.cst (.str [])) (.cons (.cst (.str [97])) (.cons (.cst (.str [65])) (.cons (.cst (.str [97, 32, 98])) (.cons (.cst (.str [49, 97])) (.cons (.cst (.str [97, 98, 99, 100, 101, 102, 103, 104, 105, 106, 107, 108])) (.cons (.cst (.str [97, 98, 99, 100, 101, 102, 103, 104, 105, 106, 107, 108, 109])) .nil)))))))))))))))))) (.cons (.asg (.name 1) (.cat (.var 1) (.lst (.cons (.tup (.nil)) (.cons (.tup (.cons (.cst (.int 0)) (.cons (.cst (.int 1)) .nil))) (.cons (.tup (.cons (.cst (.int 1)) (.cons (.cst (.int 1)) .nil))) (.cons (.tup (.cons (.cst (.int 1)) (.cons (.cst (.int 2)) .nil))) (.cons (.tup (.cons (.cst (.int 2)) (.cons (.cst (.int 2)) .nil))) (.cons (.tup (.cons (.cst (.int 1)) (.cons (.neg (.cst (.int 2))) .nil))) (.cons (.tup (.cons (.neg (.cst (.int 1))) (.cons (.cst (.int 2)) .nil))) (.cons (.tup (.cons (.cst (.int 0)) (.cons (.cst (.int 2)) .nil))) (.cons (.tup (.cons (.cst (.bl true)) (.cons (.cst (.int 1)) .nil))) (.cons (.tup (.cons (.cst (.int 1)) (.cons (.cst (.bl true)) .nil))) (.cons (.tup (.cons (.cst (.int 1)) (.cons (.cst (.int 0)) .nil))) (.cons (.tup (.cons (.cst (.str [97])) .nil)) .nil))))))))))))))) (.cons (.ret (.call f__law_pick (.cons (.var 0) (.cons (.cat (.var 1) (.lst (.cons (.cst (.str [97, 49])) (.cons (.cst (.str [110, 111, 110, 101])) (.cons (.cst (.str [115, 116, 105, 108, 108])) (.cons (.cst (.str [116, 111, 108, 100])) (.cons (.tup (.cons (.cst (.int 0)) .nil)) (.cons (.tup (.cons (.cst (.int 0)) (.cons (.cst (.int 0)) (.cons (.cst (.int 0)) .nil)))) (.cons (.lst (.nil)) (.cons (.lst (.cons (.cst (.int 1)) .nil)) (.cons (.cst .edict) (.cons (.lst (.cons (.tup (.cons (.cst (.int 1)) (.cons (.cst (.int 1)) .nil))) .nil)) (.cons (.tup (.cons (.tup (.cons (.cst (.int 1)) (.cons (.cst (.int 1)) .nil))) .nil)) .nil))))))))))))) .nil)))) .nil))
abbrev d__law_odd : Df := ⟨1, 2, b__law_odd⟩
/-- _law_bent: 0 _law_urn_here, 1 _law_thing, 2 _law_at, 3 _law_way_on, 4 _law_each -/
def b__law_bent : Ss := .cons (.ifs (.or (.not (.isa .tuple (.var 1))) (.or (.cmp .eq (.var 1) (.tup (.nil))) (.cmp .eq (.call f__law_draw (.cons (.var 0) (.cons (.cst (.int 9)) .nil))) (.cst (.int 0))))) (.cons (.ret (.call f__law_odd (.cons (.var 0) .nil))) .nil) (.nil)) (.cons (.asg (.tup (.cons (.name 2) (.cons (.name 3) .nil))) (.tup (.cons (.call f__law_draw (.cons (.var 0) (.cons (.blt .len (.cons (.var 1) .nil)) .nil))) (.cons (.call f__law_draw (.cons (.var 0) (.cons (.cst (.int 14)) .nil))) .nil)))) (.cons (.ifs (.cmp .lt (.var 3) (.cst (.int 7))) (.cons (.ret (.bin .add (.bin .add (.sl (.var 1) (.nop) (.var 2)) (.tup (.cons (.call f__law_bent (.cons (.var 0) (.cons (.idx (.var 1) (.var 2)) .nil))) .nil))) (.sl (.var 1) (.bin .add (.var 2) (.cst (.int 1))) (.nop)))) .nil) (.nil)) (.cons (.ifs (.cmp .eq (.var 3) (.cst (.int 7))) (.cons (.ret (.bin .add (.sl (.var 1) (.nop) (.var 2)) (.sl (.var 1) (.bin .add (.var 2) (.cst (.int 1))) (.nop)))) .nil) (.nil)) (.cons (.ifs (.cmp .eq (.var 3) (.cst (.int 8))) (.cons (.ret (.bin .add (.bin .add (.sl (.var 1) (.nop) (.var 2)) (.tup (.cons (.idx (.var 1) (.var 2)) .nil))) (.sl (.var 1) (.var 2) (.nop)))) .nil) (.nil)) (.cons (.ifs (.cmp .eq (.var 3) (.cst (.int 9))) (.cons (.ret (.listOf (.var 1))) .nil) (.nil)) (.cons (.ifs (.cmp .eq (.var 3) (.cst (.int 10))) (.cons (.ret (.bin .add (.var 1) (.tup (.cons (.call f__law_odd (.cons (.var 0) .nil)) .nil)))) .nil) (.nil)) (.cons (.ifs (.cmp .eq (.var 3) (.cst (.int 11))) (.cons (.ret (.bin .add (.bin .add (.sl (.var 1) (.nop) (.var 2)) (.tup (.cons (.idx (.var 1) (.neg (.cst (.int 1)))) .nil))) (.sl (.var 1) (.bin .add (.var 2) (.cst (.int 1))) (.nop)))) .nil) (.nil)) (.cons (.ifs (.and (.cmp .eq (.var 3) (.cst (.int 12))) (.cmp .eq (.blt .len (.cons (.comp (.var 4) (.name 4) (.seq (.var 1)) (.isa .int (.var 4))) .nil)) (.blt .len (.cons (.var 1) .nil)))) (.cons (.ret (.blt .tuple (.cons (.comp (.bin .mul (.cst (.int 2)) (.var 4)) (.name 4) (.seq (.var 1)) (.cst (.bl true))) .nil))) .nil) (.nil)) (.cons (.ret (.bin .add (.sl (.var 1) (.var 2) (.nop)) (.sl (.var 1) (.nop) (.var 2)))) .nil)))))))))
abbrev d__law_bent : Df := ⟨2, 5, b__law_bent⟩
/-- _law_is_habit: 0 _law_thing, 1 _law_hall_here, 2 _law_k -/
def b__law_is_habit : Ss := .cons (.ifs (.or (.not (.isa .tuple (.var 0))) (.cmp .ne (.blt .len (.cons (.var 0) .nil)) (.blt .len (.cons (.idx (.var 1) (.cst (.int 2))) .nil)))) (.cons (.ret (.cst (.bl false))) .nil) (.nil)) (.cons (.ret (.cmp .eq (.comp (.var 2) (.name 2) (.range (.cons (.blt .len (.cons (.var 0) .nil)) .nil)) (.not (.call f__law_is_odds (.cons (.idx (.var 0) (.var 2)) (.cons (.blt .len (.cons (.idx (.idx (.var 1) (.cst (.int 2))) (.var 2)) .nil)) .nil))))) (.lst (.nil)))) .nil)
abbrev d__law_is_habit : Df := ⟨2, 3, b__law_is_habit⟩
/-- _law_is_mindful: 0 _law_thing, 1 _law_hall_here, 2 _law_part, 3 _law_at, 4 _law_minds, 5 _law_size, 6 _law_each, 7 _law_odds_here, 8 _law_after, 9 _law_acts, 10 _law_mind -/
def b__law_is_mindful : Ss := .cons (.ifs (.or (.not (.isa .tuple (.var 0))) (.or (.cmp .ne (.blt .len (.cons (.var 0) .nil)) (.cst (.int 3))) (.or (.not (.call f__law_is_whole (.cons (.idx (.var 0) (.cst (.int 0))) .nil))) (.not (.chn .le .le (.cst (.int 1)) (.idx (.var 0) (.cst (.int 0))) (.cst (.int 4))))))) (.cons (.ret (.cst (.bl false))) .nil) (.nil)) (.cons (.asg (.tup (.cons (.name 4) (.cons (.name 5) .nil))) (.tup (.cons (.idx (.var 0) (.cst (.int 0))) (.cons (.blt .len (.cons (.idx (.var 1) (.cst (.int 2))) .nil)) .nil)))) (.cons (.fors (.name 2) (.seq (.sl (.var 0) (.cst (.int 1)) (.nop))) (.cons (.ifs (.or (.not (.isa .tuple (.var 2))) (.cmp .ne (.blt .len (.cons (.var 2) .nil)) (.var 5))) (.cons (.ret (.cst (.bl false))) .nil) (.nil)) (.cons (.ifs (.cmp .ne (.comp (.var 6) (.name 6) (.seq (.var 2)) (.not (.isa .tuple (.var 6)))) (.lst (.nil))) (.cons (.ret (.cst (.bl false))) .nil) (.nil)) .nil))) (.cons (.fors (.name 3) (.range (.cons (.var 5) .nil)) (.cons (.asg (.tup (.cons (.name 7) (.cons (.name 8) (.cons (.name 9) .nil)))) (.tup (.cons (.idx (.idx (.var 0) (.cst (.int 1))) (.var 3)) (.cons (.idx (.idx (.var 0) (.cst (.int 2))) (.var 3)) (.cons (.idx (.idx (.var 1) (.cst (.int 2))) (.var 3)) .nil))))) (.cons (.ifs (.or (.cmp .ne (.blt .len (.cons (.var 7) .nil)) (.var 4)) (.cmp .ne (.comp (.var 6) (.name 6) (.seq (.var 7)) (.not (.call f__law_is_odds (.cons (.var 6) (.cons (.blt .len (.cons (.var 9) .nil)) .nil))))) (.lst (.nil)))) (.cons (.ret (.cst (.bl false))) .nil) (.nil)) (.cons (.ifs (.cmp .ne (.blt .len (.cons (.var 8) .nil)) (.blt .len (.cons (.var 9) .nil))) (.cons (.ret (.cst (.bl false))) .nil) (.nil)) (.cons (.fors (.name 6) (.seq (.var 8)) (.cons (.ifs (.or (.not (.isa .tuple (.var 6))) (.cmp .ne (.blt .len (.cons (.var 6) .nil)) (.var 4))) (.cons (.ret (.cst (.bl false))) .nil) (.nil)) (.cons (.ifs (.cmp .ne (.comp (.var 10) (.name 10) (.seq (.var 6)) (.or (.not (.call f__law_is_whole (.cons (.var 10) .nil))) (.not (.chn .le .lt (.cst (.int 0)) (.var 10) (.var 4))))) (.lst (.nil))) (.cons (.ret (.cst (.bl false))) .nil) (.nil)) .nil))) .nil))))) (.cons (.ret (.cst (.bl true))) .nil))))
abbrev d__law_is_mindful : Df := ⟨2, 11, b__law_is_mindful⟩
/-- _law_is_memory: 0 _law_thing, 1 _law_hall_here, 2 _law_k, 3 _law_acts, 4 _law_each, 5 _law_pair -/
def b__law_is_memory : Ss := .cons (.ifs (.or (.not (.isa .tuple (.var 0))) (.cmp .notin (.blt .len (.cons (.var 0) .nil)) (.lst (.cons (.cst (.int 1)) (.cons (.cst (.int 3)) (.cons (.cst (.int 5)) (.cons (.cst (.int 7)) (.cons (.cst (.int 9)) .nil)))))))) (.cons (.ret (.cst (.bl false))) .nil) (.nil)) (.cons (.ifs (.or (.cmp .ne (.comp (.var 4) (.name 4) (.seq (.var 0)) (.not (.call f__law_is_whole (.cons (.var 4) .nil)))) (.lst (.nil))) (.not (.chn .le .lt (.cst (.int 0)) (.idx (.var 0) (.cst (.int 0))) (.blt .len (.cons (.idx (.var 1) (.cst (.int 2))) .nil))))) (.cons (.ret (.cst (.bl false))) .nil) (.nil)) (.cons (.fors (.name 2) (.range (.cons (.cst (.int 1)) (.cons (.blt .len (.cons (.var 0) .nil)) (.cons (.cst (.int 2)) .nil)))) (.cons (.asg (.name 3) (.idx (.idx (.var 1) (.cst (.int 2))) (.idx (.var 0) (.bin .sub (.var 2) (.cst (.int 1)))))) (.cons (.ifs (.or (.not (.chn .le .lt (.cst (.int 0)) (.idx (.var 0) (.var 2)) (.blt .len (.cons (.var 3) .nil)))) (.cmp .notin (.idx (.var 0) (.bin .add (.var 2) (.cst (.int 1)))) (.comp (.idx (.var 5) (.cst (.int 0))) (.name 5) (.seq (.idx (.idx (.var 3) (.idx (.var 0) (.var 2))) (.cst (.int 0)))) (.cst (.bl true))))) (.cons (.ret (.cst (.bl false))) .nil) (.nil)) .nil))) (.cons (.ret (.cst (.bl true))) .nil)))
abbrev d__law_is_memory : Df := ⟨2, 6, b__law_is_memory⟩
/-- _law_is_recalled: 0 _law_thing, 1 _law_hall_here, 2 _law_last, 3 _law_pair -/
def b__law_is_recalled : Ss := .cons (.ifs (.or (.not (.isa .tuple (.var 0))) (.or (.cmp .ne (.blt .len (.cons (.var 0) .nil)) (.cst (.int 2))) (.or (.not (.isa .tuple (.idx (.var 0) (.cst (.int 0))))) (.cmp .gt (.blt .len (.cons (.idx (.var 0) (.cst (.int 0))) .nil)) (.cst (.int 32)))))) (.cons (.ret (.cst (.bl false))) .nil) (.nil)) (.cons (.asg (.name 2) (.tup (.nil))) (.cons (.fors (.name 3) (.seq (.idx (.var 0) (.cst (.int 0)))) (.cons (.ifs (.or (.not (.isa .tuple (.var 3))) (.or (.cmp .ne (.blt .len (.cons (.var 3) .nil)) (.cst (.int 2))) (.or (.not (.call f__law_is_memory (.cons (.idx (.var 3) (.cst (.int 0))) (.cons (.var 1) .nil)))) (.not (.cmp .lt (.var 2) (.idx (.var 3) (.cst (.int 0)))))))) (.cons (.ret (.cst (.bl false))) .nil) (.nil)) (.cons (.ifs (.not (.call f__law_is_odds (.cons (.idx (.var 3) (.cst (.int 1))) (.cons (.blt .len (.cons (.idx (.idx (.var 1) (.cst (.int 2))) (.idx (.idx (.var 3) (.cst (.int 0))) (.neg (.cst (.int 1))))) .nil)) .nil)))) (.cons (.ret (.cst (.bl false))) .nil) (.nil)) (.cons (.asg (.name 2) (.idx (.var 3) (.cst (.int 0)))) .nil)))) (.cons (.ret (.call f__law_is_habit (.cons (.idx (.var 0) (.cst (.int 1))) (.cons (.var 1) .nil)))) .nil)))
abbrev d__law_is_recalled : Df := ⟨2, 4, b__law_is_recalled⟩
/-- _law_is_hero: 0 _law_thing, 1 _law_hall_here -/
def b__law_is_hero : Ss := .cons (.ifs (.or (.not (.isa .tuple (.var 0))) (.or (.cmp .ne (.blt .len (.cons (.var 0) .nil)) (.cst (.int 2))) (.not (.isa .str (.idx (.var 0) (.cst (.int 0))))))) (.cons (.ret (.cst (.bl false))) .nil) (.nil)) (.cons (.ifs (.cmp .eq (.idx (.var 0) (.cst (.int 0))) (.cst (.str [115, 116, 105, 108, 108]))) (.cons (.ret (.call f__law_is_habit (.cons (.idx (.var 0) (.cst (.int 1))) (.cons (.var 1) .nil)))) .nil) (.nil)) (.cons (.ifs (.cmp .eq (.idx (.var 0) (.cst (.int 0))) (.cst (.str [109, 105, 110, 100, 101, 100]))) (.cons (.ret (.call f__law_is_mindful (.cons (.idx (.var 0) (.cst (.int 1))) (.cons (.var 1) .nil)))) .nil) (.nil)) (.cons (.ret (.and (.cmp .eq (.idx (.var 0) (.cst (.int 0))) (.cst (.str [116, 111, 108, 100]))) (.call f__law_is_recalled (.cons (.idx (.var 0) (.cst (.int 1))) (.cons (.var 1) .nil))))) .nil)))
abbrev d__law_is_hero : Df := ⟨2, 2, b__law_is_hero⟩
/-- _law_crowd: 0 _law_urn_here, 1 _law_hall_here, 2 _law_size, 3 _law_lap, 4 _law_some, 5 _law_odds_here, 6 _law_lists, 7 _law_paths, 8 _law_done, 9 _law_fresh, 10 _law_path, 11 _law_acts, 12 _law_act, 13 _law_at, 14 _law_pair -/
def b__law_crowd : Ss := .cons (.asg (.tup (.cons (.name 7) (.cons (.name 8) .nil))) (.tup (.cons (.comp (.tup (.cons (.var 13) .nil)) (.name 13) (.range (.cons (.blt .len (.cons (.idx (.var 1) (.cst (.int 2))) .nil)) .nil)) (.cst (.bl true))) (.cons (.lst (.nil)) .nil)))) (.cons (.fors (.name 3) (.range (.cons (.cst (.int 3)) .nil)) (.cons (.asg (.name 9) (.lst (.nil))) (.cons (.fors (.name 10) (.seq (.sl (.var 7) (.nop) (.cst (.int 20)))) (.cons (.asg (.name 11) (.idx (.idx (.var 1) (.cst (.int 2))) (.idx (.var 10) (.neg (.cst (.int 1)))))) (.cons (.fors (.name 12) (.range (.cons (.blt .len (.cons (.var 11) .nil)) .nil)) (.cons (.asg (.name 9) (.cat (.var 9) (.comp (.bin .add (.var 10) (.tup (.cons (.var 12) (.cons (.idx (.var 14) (.cst (.int 0))) .nil)))) (.name 14) (.seq (.idx (.idx (.var 11) (.var 12)) (.cst (.int 0)))) (.cst (.bl true))))) .nil)) .nil))) (.cons (.asg (.tup (.cons (.name 8) (.cons (.name 7) .nil))) (.tup (.cons (.cat (.var 8) (.sl (.var 7) (.nop) (.cst (.int 20)))) (.cons (.var 9) .nil)))) .nil)))) (.cons (.asg (.name 4) (.sl (.sortOf (.cat (.var 8) (.var 7))) (.nop) (.var 2))) (.cons (.asg (.name 5) (.call f__law_odds (.cons (.var 0) (.cons (.cst (.int 4)) .nil)))) (.cons (.asg (.name 6) (.blt .tuple (.cons (.comp (.tup (.cons (.var 10) (.cons (.blt .tuple (.cons (.cat (.lst (.cons (.tup (.cons (.cst (.int 1)) (.cons (.cst (.int 1)) .nil))) .nil)) (.rep (.lst (.cons (.tup (.cons (.cst (.int 0)) (.cons (.cst (.int 1)) .nil))) .nil)) (.bin .sub (.blt .len (.cons (.idx (.idx (.var 1) (.cst (.int 2))) (.idx (.var 10) (.neg (.cst (.int 1))))) .nil)) (.cst (.int 1))))) .nil)) .nil))) (.name 10) (.seq (.var 4)) (.cst (.bl true))) .nil))) (.cons (.ret (.ite (.cmp .gt (.idx (.idx (.var 5) (.cst (.int 0))) (.cst (.int 0))) (.cst (.int 0))) (.tup (.cons (.var 6) (.cons (.call f__law_habit (.cons (.var 0) (.cons (.var 1) .nil))) .nil))) (.tup (.cons (.var 6) (.cons (.sl (.call f__law_habit (.cons (.var 0) (.cons (.var 1) .nil))) (.cst (.int 1)) (.nop)) .nil))))) .nil)))))
abbrev d__law_crowd : Df := ⟨3, 15, b__law_crowd⟩
/-- _law_otherwise: 0 _law_urn_here, 1 _law_hall_here, 2 _law_plan, 3 _law_path, 4 _law_lap, 5 _law_more, 6 _law_some, 7 _law_other, 8 _law_lists, 9 _law_habit_here, 10 _law_far, 11 _law_odds_here, 12 _law_act -/
def b__law_otherwise : Ss := .cons (.asg (.tup (.cons (.name 8) (.cons (.name 9) .nil))) (.var 2)) (.cons (.asg (.name 3) (.call f__law_memory (.cons (.var 0) (.cons (.var 1) .nil)))) (.cons (.asg (.tup (.cons (.name 10) (.cons (.name 11) .nil))) (.tup (.cons (.var 3) (.cons (.call f__law_odds (.cons (.var 0) (.cons (.blt .len (.cons (.idx (.idx (.var 1) (.cst (.int 2))) (.idx (.var 3) (.neg (.cst (.int 1))))) .nil)) .nil))) .nil)))) (.cons (.fors (.name 4) (.range (.cons (.call f__law_pick (.cons (.var 0) (.cons (.lst (.cons (.cst (.int 1)) (.cons (.cst (.int 2)) (.cons (.cst (.int 5)) .nil)))) .nil))) .nil)) (.cons (.asg (.name 12) (.call f__law_draw (.cons (.var 0) (.cons (.blt .len (.cons (.idx (.idx (.var 1) (.cst (.int 2))) (.idx (.var 10) (.neg (.cst (.int 1))))) .nil)) .nil)))) (.cons (.asg (.name 10) (.bin .add (.var 10) (.tup (.cons (.var 12) (.cons (.idx (.call f__law_pick (.cons (.var 0) (.cons (.idx (.idx (.idx (.idx (.var 1) (.cst (.int 2))) (.idx (.var 10) (.neg (.cst (.int 1))))) (.var 12)) (.cst (.int 0))) .nil))) (.cst (.int 0))) .nil))))) .nil))) (.cons (.asg (.name 5) (.bin .add (.tup (.cons (.tup (.cons (.var 3) (.cons (.var 11) .nil))) .nil)) (.var 8))) (.cons (.asg (.name 6) (.lst (.cons (.tup (.cons (.rev (.var 8)) (.cons (.var 9) .nil))) (.cons (.tup (.cons (.bin .add (.var 8) (.sl (.var 8) (.neg (.cst (.int 1))) (.nop))) (.cons (.var 9) .nil))) (.cons (.tup (.cons (.var 5) (.cons (.var 9) .nil))) (.cons (.tup (.cons (.blt .tuple (.cons (.sortOf (.var 5)) .nil)) (.cons (.var 9) .nil))) .nil)))))) (.cons (.asg (.name 7) (.tup (.cons (.var 10) (.cons (.call f__law_odds (.cons (.var 0) (.cons (.blt .len (.cons (.idx (.idx (.var 1) (.cst (.int 2))) (.idx (.var 10) (.neg (.cst (.int 1))))) .nil)) .nil))) .nil)))) (.cons (.asg (.name 6) (.cat (.var 6) (.lst (.cons (.tup (.cons (.tup (.cons (.var 7) .nil)) (.cons (.var 9) .nil))) (.cons (.tup (.cons (.tup (.cons (.tup (.cons (.sl (.var 3) (.nop) (.neg (.cst (.int 1)))) (.cons (.var 11) .nil))) .nil)) (.cons (.var 9) .nil))) (.cons (.tup (.cons (.tup (.cons (.tup (.cons (.var 3) (.cons (.sl (.var 11) (.cst (.int 1)) (.nop)) .nil))) .nil)) (.cons (.var 9) .nil))) .nil)))))) (.cons (.asg (.name 6) (.cat (.var 6) (.lst (.cons (.tup (.cons (.bin .add (.tup (.cons (.var 7) .nil)) (.var 5)) (.cons (.var 9) .nil))) .nil)))) (.cons (.ret (.call f__law_pick (.cons (.var 0) (.cons (.cat (.var 6) (.lst (.cons (.tup (.cons (.var 8) (.cons (.rev (.var 9)) .nil))) (.cons (.tup (.cons (.var 8) .nil)) (.cons (.tup (.cons (.var 9) (.cons (.var 8) .nil))) (.cons (.tup (.cons (.tup (.nil)) (.cons (.var 9) .nil))) .nil)))))) .nil)))) .nil)))))))))
abbrev d__law_otherwise : Df := ⟨3, 13, b__law_otherwise⟩
/-- _law_is_right: 0 _law_urn_here, 1 _law_hall_here, 2 _law_some, 3 _law_thing, 4 _law_plan, 5 _law_hero_here, 6 _law_bent_here, 7 _law_odd_here, 8 _law_due, 9 _law_word -/
def b__law_is_right : Ss := .cons (.asg (.name 1) (.call f__law_hall (.cons (.var 0) (.cons (.cst (.int 3)) (.cons (.cst (.int 1)) .nil))))) (.cons (.asg (.tup (.cons (.name 4) (.cons (.name 5) .nil))) (.tup (.cons (.call f__law_recalled (.cons (.var 0) (.cons (.var 1) .nil))) (.cons (.call f__law_hero (.cons (.var 0) (.cons (.var 1) .nil))) .nil)))) (.cons (.asg (.tup (.cons (.name 6) (.cons (.name 7) .nil))) (.tup (.cons (.call f__law_bent (.cons (.var 0) (.cons (.var 4) .nil))) (.cons (.call f__law_otherwise (.cons (.var 0) (.cons (.var 1) (.cons (.var 4) .nil)))) .nil)))) (.cons (.asg (.name 2) (.lst (.cons (.var 4) (.cons (.var 6) (.cons (.call f__law_bent (.cons (.var 0) (.cons (.var 6) .nil))) (.cons (.var 7) (.cons (.call f__law_crowd (.cons (.var 0) (.cons (.var 1) (.cons (.call f__law_pick (.cons (.var 0) (.cons (.lst (.cons (.cst (.int 31)) (.cons (.cst (.int 32)) (.cons (.cst (.int 33)) .nil)))) .nil))) .nil)))) (.cons (.idx (.var 5) (.cst (.int 1))) .nil)))))))) (.cons (.fors (.name 3) (.seq (.cat (.var 2) (.lst (.cons (.call f__law_odd (.cons (.var 0) .nil)) (.cons (.listOf (.var 4)) .nil))))) (.cons (.asg (.name 8) (.blt .repr (.cons (.call f__law_is_recalled (.cons (.var 3) (.cons (.var 1) .nil))) .nil))) (.cons (.ifs (.or (.cmp .ne (.blt .repr (.cons (.call f_is_told (.cons (.var 1) (.cons (.var 3) .nil))) .nil)) (.var 8)) (.cmp .ne (.blt .repr (.cons (.call f_is_told (.cons (.var 1) (.cons (.var 3) .nil))) .nil)) (.var 8))) (.cons (.ret (.cst (.bl false))) .nil) (.nil)) .nil))) (.cons (.asg (.tup (.cons (.name 6) (.cons (.name 9) .nil))) (.tup (.cons (.call f__law_bent (.cons (.var 0) (.cons (.var 5) .nil))) (.cons (.call f__law_pick (.cons (.var 0) (.cons (.lst (.cons (.cst (.str [115, 116, 105, 108, 108])) (.cons (.cst (.str [109, 105, 110, 100, 101, 100])) (.cons (.cst (.str [116, 111, 108, 100])) (.cons (.cst (.str [84, 111, 108, 100])) (.cons (.cst (.str [])) .nil)))))) .nil))) .nil)))) (.cons (.asg (.name 2) (.lst (.cons (.var 5) (.cons (.var 6) (.cons (.call f__law_bent (.cons (.var 0) (.cons (.var 6) .nil))) (.cons (.tup (.cons (.var 9) (.cons (.idx (.var 5) (.cst (.int 1))) .nil))) (.cons (.tup (.cons (.cst (.str [116, 111, 108, 100])) (.cons (.var 7) .nil))) (.cons (.tup (.cons (.cst (.str [116, 111, 108, 100])) (.cons (.idx (.var 2) (.cst (.int 4))) .nil))) (.cons (.bin .add (.var 5) (.tup (.cons (.tup (.nil)) .nil))) .nil))))))))) (.cons (.fors (.name 3) (.seq (.cat (.var 2) (.lst (.cons (.call f__law_odd (.cons (.var 0) .nil)) (.cons (.listOf (.var 5)) (.cons (.idx (.var 5) (.cst (.int 1))) (.cons (.tup (.cons (.cst (.str [109, 105, 110, 100, 101, 100])) (.cons (.call f__law_bent (.cons (.var 0) (.cons (.call f__law_mindful (.cons (.var 0) (.cons (.var 1) .nil))) .nil))) .nil))) .nil))))))) (.cons (.asg (.name 8) (.blt .repr (.cons (.call f__law_is_hero (.cons (.var 3) (.cons (.var 1) .nil))) .nil))) (.cons (.ifs (.or (.cmp .ne (.blt .repr (.cons (.call f_is_player (.cons (.var 1) (.cons (.var 3) .nil))) .nil)) (.var 8)) (.cmp .ne (.blt .repr (.cons (.call f_is_player (.cons (.var 1) (.cons (.var 3) .nil))) .nil)) (.var 8))) (.cons (.ret (.cst (.bl false))) .nil) (.nil)) .nil))) (.cons (.ret (.cst (.bl true))) .nil))))))))
abbrev d__law_is_right : Df := ⟨1, 10, b__law_is_right⟩
/-- law: 0 _law_script, 1 _law_lap -/
def b_law : Ss := .cons (.fors (.name 1) (.range (.cons (.cst (.int 2)) .nil)) (.cons (.ifs (.not (.call f__law_is_right (.cons (.call f__law_urn (.cons (.var 0) (.cons (.var 1) .nil))) .nil))) (.cons (.ret (.cst (.bl false))) .nil) (.nil)) .nil)) (.cons (.ret (.cst (.bl true))) .nil)
abbrev d_law : Df := ⟨1, 2, b_law⟩
def dfs : List Df := [d_is_whole, d_is_between, d_is_tuple_of, d_is_ratio, d_is_row, d_ratio, d_plus, d_total, d_is_chance_row, d_is_still_by, d_are_odds, d_are_nexts, d_is_minded_by, d_are_chances, d_is_deed, d_is_stand, d_is_share, d_is_house_by, d_check_house, d_is_memory, d_is_told_by, d_is_player_by, d_is_told, d_is_player, d__law_urn, d__law_draw, d__law_pick, d__law_cut, d__law_plus, d__law_odds, d__law_hall, d__law_habit, d__law_memory, d__law_recalled, d__law_mindful, d__law_hero, d__law_is_whole, d__law_is_part, d__law_is_band, d__law_is_odds, d__law_odd, d__law_bent, d__law_is_habit, d__law_is_mindful, d__law_is_memory, d__law_is_recalled, d__law_is_hero, d__law_crowd, d__law_otherwise, d__law_is_right, d_law]
def prog (i : Nat) : Option Df := dfs[i]?
noncomputable abbrev call (k : Nat) : Fn := callP prog k
theorem at_is_whole : prog f_is_whole = some d_is_whole := rfl
theorem at_is_between : prog f_is_between = some d_is_between := rfl
theorem at_is_tuple_of : prog f_is_tuple_of = some d_is_tuple_of := rfl
theorem at_is_ratio : prog f_is_ratio = some d_is_ratio := rfl
theorem at_is_row : prog f_is_row = some d_is_row := rfl
theorem at_ratio : prog f_ratio = some d_ratio := rfl
theorem at_plus : prog f_plus = some d_plus := rfl
theorem at_total : prog f_total = some d_total := rfl
theorem at_is_chance_row : prog f_is_chance_row = some d_is_chance_row := rfl
theorem at_is_still_by : prog f_is_still_by = some d_is_still_by := rfl
theorem at_are_odds : prog f_are_odds = some d_are_odds := rfl
theorem at_are_nexts : prog f_are_nexts = some d_are_nexts := rfl
theorem at_is_minded_by : prog f_is_minded_by = some d_is_minded_by := rfl
theorem at_are_chances : prog f_are_chances = some d_are_chances := rfl
theorem at_is_deed : prog f_is_deed = some d_is_deed := rfl
theorem at_is_stand : prog f_is_stand = some d_is_stand := rfl
theorem at_is_share : prog f_is_share = some d_is_share := rfl
theorem at_is_house_by : prog f_is_house_by = some d_is_house_by := rfl
theorem at_check_house : prog f_check_house = some d_check_house := rfl
theorem at_is_memory : prog f_is_memory = some d_is_memory := rfl
theorem at_is_told_by : prog f_is_told_by = some d_is_told_by := rfl
theorem at_is_player_by : prog f_is_player_by = some d_is_player_by := rfl
theorem at_is_told : prog f_is_told = some d_is_told := rfl
theorem at_is_player : prog f_is_player = some d_is_player := rfl
theorem at__law_urn : prog f__law_urn = some d__law_urn := rfl
theorem at__law_draw : prog f__law_draw = some d__law_draw := rfl
theorem at__law_pick : prog f__law_pick = some d__law_pick := rfl
theorem at__law_cut : prog f__law_cut = some d__law_cut := rfl
theorem at__law_plus : prog f__law_plus = some d__law_plus := rfl
theorem at__law_odds : prog f__law_odds = some d__law_odds := rfl
theorem at__law_hall : prog f__law_hall = some d__law_hall := rfl
theorem at__law_habit : prog f__law_habit = some d__law_habit := rfl
theorem at__law_memory : prog f__law_memory = some d__law_memory := rfl
theorem at__law_recalled : prog f__law_recalled = some d__law_recalled := rfl
theorem at__law_mindful : prog f__law_mindful = some d__law_mindful := rfl
theorem at__law_hero : prog f__law_hero = some d__law_hero := rfl
theorem at__law_is_whole : prog f__law_is_whole = some d__law_is_whole := rfl
theorem at__law_is_part : prog f__law_is_part = some d__law_is_part := rfl
theorem at__law_is_band : prog f__law_is_band = some d__law_is_band := rfl
theorem at__law_is_odds : prog f__law_is_odds = some d__law_is_odds := rfl
theorem at__law_odd : prog f__law_odd = some d__law_odd := rfl
theorem at__law_bent : prog f__law_bent = some d__law_bent := rfl
theorem at__law_is_habit : prog f__law_is_habit = some d__law_is_habit := rfl
theorem at__law_is_mindful : prog f__law_is_mindful = some d__law_is_mindful := rfl
theorem at__law_is_memory : prog f__law_is_memory = some d__law_is_memory := rfl
theorem at__law_is_recalled : prog f__law_is_recalled = some d__law_is_recalled := rfl
theorem at__law_is_hero : prog f__law_is_hero = some d__law_is_hero := rfl
theorem at__law_crowd : prog f__law_crowd = some d__law_crowd := rfl
theorem at__law_otherwise : prog f__law_otherwise = some d__law_otherwise := rfl
theorem at__law_is_right : prog f__law_is_right = some d__law_is_right := rfl
theorem at_law : prog f_law = some d_law := rfl
end K79


set_option Elab.async false
set_option linter.all false
set_option maxRecDepth 100000
/-! K79A: what the program's own reading tells. -/
namespace K79
open Dh
def whole : D → Bool
  | .int _ => true
  | _ => false
theorem c_is_whole (k : Nat) (d : D) (m : Sto) : callP prog (k + 1) f_is_whole [d] m = .ok (.bl (whole d)) m := by
  rw [call_eq at_is_whole rfl]
  cases d <;> rfl
def tupOf (d : D) (n : Int) : Bool := match d with
  | .tup ds => decide ((ds.length : Int) = n)
  | _ => false
theorem tup2 {d : D} (h : tupOf d 2 = true) : ∃ x y, d = .tup [x, y] := by
  cases d with
  | tup ds =>
    have h : ((ds.length : Int) = 2) := of_decide_eq_true h
    match ds, h with
    | [x, y], _ => exact ⟨x, y, rfl⟩
    | [], h => simp at h
    | [_], h => simp at h
    | _ :: _ :: _ :: _, h => simp at h; omega
  | _ => cases h
theorem c_is_tuple_of (k : Nat) (d : D) (n : Int) (m : Sto) : callP prog (k + 1) f_is_tuple_of [d, .int n] m = .ok (.bl (tupOf d n)) m := by
  rw [call_eq at_is_tuple_of rfl]
  cases d with
  | tup ds => simp [b_is_tuple_of, tupOf]
  | _ => rfl
def betw (d : D) (a b : Int) : Bool := match d with
  | .int i => decide (a ≤ i) && decide (i ≤ b)
  | _ => false
theorem c_is_between (k : Nat) (d : D) (a b : Int) (m : Sto) : callP prog (k + 2) f_is_between [d, .int a, .int b] m = .ok (.bl (betw d a b)) m := by
  rw [call_eq at_is_between rfl]
  cases d with
  | int i =>
    by_cases h : a ≤ i <;> simp [b_is_between, c_is_whole, whole, betw, h]
  | _ => simp [b_is_between, c_is_whole, whole, betw]
def ratB : D → Bool
  | .tup [.int a, .int b] => decide (0 < b) && decide (Nat.gcd a.natAbs b.natAbs = 1)
  | _ => false
theorem ratB_not {d : D} (h : tupOf d 2 = false) : ratB d = false := by
  unfold ratB
  split
  · cases h
  · rfl
theorem c_is_ratio (k : Nat) (d : D) (m : Sto) : callP prog (k + 2) f_is_ratio [d] m = .ok (.bl (ratB d)) m := by
  rw [call_eq at_is_ratio rfl]
  cases h : tupOf d 2 with
  | false => simp [b_is_ratio, c_is_tuple_of, h, ratB_not h]
  | true =>
    obtain ⟨x, y, rfl⟩ := tup2 h
    cases x with
    | int a =>
      cases y with
      | int b => by_cases q : 0 < b <;> simp [b_is_ratio, c_is_tuple_of, c_is_whole, whole, h, ratB, q] <;> omega
      | _ => simp [b_is_ratio, c_is_tuple_of, c_is_whole, whole, h, ratB]
    | _ => simp [b_is_ratio, c_is_tuple_of, c_is_whole, whole, h, ratB]
def rowB (d : D) (n : Int) : Bool := match d with
  | .tup ds => decide ((ds.length : Int) = n) && ds.all ratB
  | _ => false
theorem c_is_row (k : Nat) (d : D) (n : Int) (m : Sto) (hn : n ≤ 1000) : callP prog (k + 3) f_is_row [d, .int n] m = .ok (.bl (rowB d n)) m := by
  rw [call_eq at_is_row rfl]
  cases d with
  | tup ds =>
    by_cases q : (ds.length : Int) = n
    · have hl : ds.length ≤ lim := small_lim (by omega)
      have z := ev_map (F := callP prog (k + 2)) (elt := .call f_is_ratio (.cons (.var 2) .nil)) (i := 2) (it := .seq (.var 0)) (env := [some (.tup ds), some (.int n), none]) (m := m) (ds := ds) (fun d => .bl (ratB d)) (seq_tup (by simp)) hl (by simp) fun d _ => by simp [c_is_ratio]
      simp [b_is_row, c_is_tuple_of, tupOf, q, z, allB_map, rowB]
    · simp [b_is_row, c_is_tuple_of, tupOf, q, rowB]
  | _ => simp [b_is_row, c_is_tuple_of, tupOf, rowB]
def ratZ (t l : Int) : Int × Int := (t / (Nat.gcd t.natAbs l.natAbs : Nat), l / (Nat.gcd t.natAbs l.natAbs : Nat))
abbrev fr (p : Int × Int) : D := .tup [.int p.1, .int p.2]
theorem gcd_pos {t l : Int} (hl : 0 < l) : (0 : Int) < (Nat.gcd t.natAbs l.natAbs : Nat) ∧ Bt (Nat.gcd t.natAbs l.natAbs : Nat) 0 ∨ (0 : Int) < (Nat.gcd t.natAbs l.natAbs : Nat) := .inr (by
  have := Nat.gcd_pos_of_pos_right t.natAbs (n := l.natAbs) (by omega)
  omega)
theorem gcd_bt {t l : Int} {n : Nat} (hl : 0 < l) (h : Bt l n) : Bt (Nat.gcd t.natAbs l.natAbs : Nat) n := by
  unfold Bt at *
  have := Nat.gcd_le_right (m := t.natAbs) (n := l.natAbs) (by omega)
  rw [Int.natAbs_natCast]
  omega
theorem c_ratio (k : Nat) (t l : Int) (m : Sto) (hl : 0 < l) (hb : Bt l 9000) : callP prog (k + 1) f_ratio [.int t, .int l] m = .ok (fr (ratZ t l)) m := by
  rw [call_eq at_ratio rfl]
  have g2 : (0 : Int) < (Nat.gcd t.natAbs l.natAbs : Nat) := (gcd_pos hl).elim (·.1) id
  have g3 := gcd_bt (t := t) hl hb
  have e1 : ∀ i, bin .fdiv (.int i) (.int (Nat.gcd t.natAbs l.natAbs : Nat)) = some (.int (i / (Nat.gcd t.natAbs l.natAbs : Nat))) := fun i => b_fdivB g2 g3 (by decide)
  simp [b_ratio, hl, e1, ratZ]
def plusZ (p q : Int × Int) : Int × Int := ratZ (p.1 * q.2 + q.1 * p.2) (p.2 * q.2)
theorem c_plus (k : Nat) (p q : Int × Int) (m : Sto) (h1 : 0 < p.2) (h2 : 0 < q.2) {a b : Nat} (hp1 : Bt p.1 a) (hp2 : Bt p.2 a) (hq1 : Bt q.1 b) (hq2 : Bt q.2 b) (hab : a + b ≤ 9000) : callP prog (k + 2) f_plus [fr p, fr q] m = .ok (fr (plusZ p q)) m := by
  rw [call_eq at_plus rfl]
  have e : ∀ {x y : Int}, Bt x 9000 → Bt y 9000 → bin .mul (.int x) (.int y) = some (.int (x * y)) := fun h h' => b_mulB h h' (by decide) (by decide)
  have l1 := hp1.mono (b := 9000) (by omega)
  have l2 := hp2.mono (b := 9000) (by omega)
  have l3 := hq1.mono (b := 9000) (by omega)
  have l4 := hq2.mono (b := 9000) (by omega)
  have z := c_ratio k (p.1 * q.2 + q.1 * p.2) (p.2 * q.2) m (Int.mul_pos h1 h2) ((hp2.mul hq2).mono hab)
  simp [b_plus, e l1 l4, e l3 l2, e l2 l4, z, plusZ]
/-- Euclid's rounds -/
theorem euclid (F : Fn) (t l : D) (m : Sto) : ∀ (b a : Nat), ∃ n, whileN (ev F (.cmp .gt (.var 3) (.cst (.int 0)))) (runs F (.cons (.asg (.tup (.cons (.name 2) (.cons (.name 3) .nil))) (.tup (.cons (.var 3) (.cons (.bin .mod (.blt .int (.cons (.var 2) .nil)) (.var 3)) .nil)))) .nil)) n [some t, some l, some (.int a), some (.int b)] m
    = .ok (.nx [some t, some l, some (.int (Nat.gcd a b : Nat)), some (.int 0)]) m := by
  intro b
  induction b using Nat.strongRecOn with
  | ind b ih =>
    intro a
    by_cases hb : b = 0
    · subst hb
      exact ⟨1, by rw [whileN_sel]; simp⟩
    · obtain ⟨n, hn⟩ := ih (a % b) (Nat.mod_lt _ (by omega)) b
      refine ⟨n + 1, ?_⟩
      have h0 : (0 : Int) < (b : Int) := by omega
      have e1 : bin .mod (.int a) (.int b) = some (.int ((a % b : Nat) : Int)) := by rw [b_mod h0]; rfl
      have e2 : Nat.gcd b (a % b) = Nat.gcd a b := by rw [Nat.gcd_comm a b, Nat.gcd_rec b a, Nat.gcd_comm]
      rw [e2] at hn
      rw [whileN_sel]
      have hp : 0 < b := by omega
      have e3 : bin .mod (.int a) (.int b) = some (.int ((a : Int) % (b : Int))) := b_mod h0
      have e4 : (((a % b : Nat) : Int)) = (a : Int) % (b : Int) := rfl
      rw [e4] at hn
      simp [hp, e3]
      exact hn
theorem c_cut (k : Nat) (t l : Int) (m : Sto) (hl : 0 < l) (hb : Bt l 9000) : callP prog (k + 1) f__law_cut [.int t, .int l] m = .ok (fr (ratZ t l)) m := by
  rw [call_eq at__law_cut rfl]
  have g2 : (0 : Int) < (Nat.gcd t.natAbs l.natAbs : Nat) := (gcd_pos hl).elim (·.1) id
  have g3 := gcd_bt (t := t) hl hb
  have e1 : ∀ i, bin .fdiv (.int i) (.int (Nat.gcd t.natAbs l.natAbs : Nat)) = some (.int (i / (Nat.gcd t.natAbs l.natAbs : Nat))) := fun i => b_fdivB g2 g3 (by decide)
  obtain ⟨n, hn⟩ := euclid (callP prog k) (.int t) (.int l) m l.natAbs t.natAbs
  have e0 : (if t < 0 then -t else t) = (t.natAbs : Int) := by split <;> omega
  have e2 : l = (l.natAbs : Int) := by omega
  have w := while_of n hn
  have a1 : blt m .abs [.int t] = some (.int t.natAbs) := by
    show some (D.int (if t < 0 then -t else t)) = _
    rw [e0]
  rw [← e2] at w
  simp [b__law_cut, a1, w, e1, ratZ]
/-! ### chances -/
def totZ (cs : List (Int × Int)) : Int × Int := cs.foldl plusZ (0, 1)
theorem plusZ_pos {p q : Int × Int} (h1 : 0 < p.2) (h2 : 0 < q.2) : 0 < (plusZ p q).2 := by
  have hl : 0 < p.2 * q.2 := Int.mul_pos h1 h2
  have g2 : (0 : Int) < (Nat.gcd (p.1 * q.2 + q.1 * p.2).natAbs (p.2 * q.2).natAbs : Nat) := (gcd_pos hl).elim (·.1) id
  have g3 : ((Nat.gcd (p.1 * q.2 + q.1 * p.2).natAbs (p.2 * q.2).natAbs : Nat) : Int) ∣ p.2 * q.2 := by
    have := Nat.gcd_dvd_right (p.1 * q.2 + q.1 * p.2).natAbs (p.2 * q.2).natAbs
    exact Int.ofNat_dvd_left.mpr this
  exact Int.ediv_pos_of_pos_of_dvd hl (Int.le_of_lt g2) g3
theorem plusZ_bt {p q : Int × Int} {a b : Nat} (hp1 : Bt p.1 a) (hp2 : Bt p.2 a) (hq1 : Bt q.1 b) (hq2 : Bt q.2 b) : Bt (plusZ p q).1 (a + b + 1) ∧ Bt (plusZ p q).2 (a + b + 1) :=
  ⟨Bt.div ((hp1.mul hq2).add ((hq1.mul hp2).mono (by omega))), Bt.div ((hp2.mul hq2).mono (by omega))⟩
theorem total_turns (k : Nat) (m : Sto) (L : D) : ∀ (cs : List (Int × Int)) (acc : Int × Int) (j : Nat) (e : Option D), (∀ c ∈ cs, 0 < c.2 ∧ Bt c.1 200 ∧ Bt c.2 200) → 0 < acc.2 → Bt acc.1 (201 * j + 1) → Bt acc.2 (201 * j + 1) → j + cs.length ≤ 40 →
    ∃ e', forL (bindT (callP prog (k + 2)) (.name 2)) (runs (callP prog (k + 2)) (.cons (.asg (.name 1) (.call f_plus (.cons (.var 1) (.cons (.var 2) .nil)))) .nil)) (cs.map fr) [some L, some (fr acc), e] m = .ok (.nx [some L, some (fr (cs.foldl plusZ acc)), e']) m
  | [], acc, j, e, _, _, _, _, _ => ⟨e, rfl⟩
  | c :: cs, acc, j, e, h, h1, h2, h3, h4 => by
    obtain ⟨q1, q2, q3⟩ := h c List.mem_cons_self
    rw [List.length_cons] at h4
    have z := c_plus k acc c m h1 q1 h2 h3 q2 q3 (by omega)
    have w := plusZ_bt h2 h3 q2 q3
    obtain ⟨e', ih⟩ := total_turns k m L cs (plusZ acc c) (j + 1) (some (fr c)) (fun x hx => h x (List.mem_cons_of_mem _ hx)) (plusZ_pos h1 q1) (w.1.mono (by omega)) (w.2.mono (by omega)) (by omega)
    refine ⟨e', ?_⟩
    rw [List.map_cons, forL]
    simp [z]
    exact ih
theorem c_total (k : Nat) (cs : List (Int × Int)) (m : Sto) (h : ∀ c ∈ cs, 0 < c.2 ∧ Bt c.1 200 ∧ Bt c.2 200) (hl : cs.length ≤ 40) : callP prog (k + 3) f_total [.lst (cs.map fr)] m = .ok (fr (totZ cs)) m := by
  rw [call_eq at_total rfl]
  obtain ⟨e', z⟩ := total_turns k m (.lst (cs.map fr)) cs (0, 1) 0 none h (by decide) (by unfold Bt; decide) (by unfold Bt; decide) (by omega)
  have w := for_fix (F := callP prog (k + 2)) (t := .name 2) (b := .cons (.asg (.name 1) (.call f_plus (.cons (.var 1) (.cons (.var 2) .nil)))) .nil) (seq_lst (F := callP prog (k + 2)) (e := .var 0) (env := [some (.lst (cs.map fr)), some (fr (0, 1)), none]) (m := m) (m1 := m) (ds := cs.map fr) (by simp))
  rw [z] at w
  simp [b_total, w, totZ]

def ascB (xs : List Int) : Bool := (xs.zip (xs.drop 1)).all fun p => decide (p.1 < p.2)
def posN : D → Bool
  | .tup (.int a :: _) => decide (0 < a)
  | _ => false
/-- a pair of a place below s and a chance -/
def chOk (s : Int) : D → Bool
  | .tup [x, c] => betw x 0 (s - 1) && (ratB c && posN c)
  | _ => false
def stI : D → Int
  | .tup (.int i :: _) => i
  | _ => 0
def frI : D → Int × Int
  | .tup [_, .tup [.int a, .int b]] => (a, b)
  | _ => (0, 1)
def chB (d : D) (s : Int) : Bool := match d with
  | .tup ds => ds.all (chOk s) && (ascB (ds.map stI) && decide (totZ (ds.map frI) = (1, 1)))
  | _ => false
theorem chOk_sh {s : Int} {d : D} (h : chOk s d = true) : ∃ i a b, d = .tup [.int i, fr (a, b)] ∧ 0 ≤ i ∧ i ≤ s - 1 ∧ 0 < b ∧ 0 < a ∧ Nat.gcd a.natAbs b.natAbs = 1 := by
  unfold chOk at h
  split at h
  · rename_i x c
    rw [Bool.and_eq_true, Bool.and_eq_true] at h
    obtain ⟨h1, h2, h3⟩ := h
    cases x with
    | int i =>
      have h1 : (decide (0 ≤ i) && decide (i ≤ s - 1)) = true := h1
      unfold ratB at h2
      split at h2
      · rename_i a b
        have h3 : decide (0 < a) = true := h3
        simp only [Bool.and_eq_true, decide_eq_true_eq] at h1 h2 h3
        exact ⟨i, a, b, rfl, h1.1, h1.2, h2.1, h3, h2.2⟩
      · cases h2
    | _ => cases h1
  · cases h
theorem asc_len : ∀ (xs : List Int) (lo s : Int), (∀ x ∈ xs, lo ≤ x ∧ x ≤ s - 1) → ascB xs = true → (xs.length : Int) ≤ max 0 (s - lo)
  | [], lo, s, _, _ => by simp; omega
  | [x], lo, s, h, _ => by
    have := h x List.mem_cons_self
    simp
    omega
  | x :: y :: xs, lo, s, h, a => by
    have hx := h x List.mem_cons_self
    unfold ascB at a
    have a' : (decide (x < y) && ((y :: xs).zip ((y :: xs).drop 1)).all fun p => decide (p.1 < p.2)) = true := a
    rw [Bool.and_eq_true, decide_eq_true_eq] at a'
    have ih := asc_len (y :: xs) (lo + 1) s (fun z hz => ?_) a'.2
    · rw [List.length_cons]
      have hy := h y (by simp)
      omega
    · have hz' := h z (List.mem_cons_of_mem _ hz)
      refine ⟨?_, hz'.2⟩
      -- the later ones are no smaller than y
      have up : ∀ (ys : List Int) (v : Int), (((v :: ys).zip ((v :: ys).drop 1)).all fun p => decide (p.1 < p.2)) = true → ∀ z ∈ v :: ys, v ≤ z := by
        intro ys
        induction ys with
        | nil =>
          intro v _ z hz
          simp at hz
          omega
        | cons w ys ih =>
          intro v q z hz
          have q' : (decide (v < w) && ((w :: ys).zip ((w :: ys).drop 1)).all fun p => decide (p.1 < p.2)) = true := q
          rw [Bool.and_eq_true, decide_eq_true_eq] at q'
          rcases List.mem_cons.mp hz with e | hz
          · omega
          · have := ih w q'.2 z hz
            omega
      have := up xs y a'.2 z hz
      omega
theorem c_are_chances (k : Nat) (d : D) (s : Int) (m : Sto) (hs : s ≤ 8) (hz : Sz d) : callP prog (k + 4) f_are_chances [d, .int s] m = .ok (.bl (chB d s)) m := by
  rw [call_eq at_are_chances rfl]
  cases d with
  | tup ds =>
    obtain ⟨hl, hz⟩ := hz
    have hl := small_lim hl
    have z1 := ev_map (F := callP prog (k + 3)) (elt := .call f_is_tuple_of (.cons (.var 5) (.cons (.cst (.int 2)) .nil))) (i := 5) (it := .seq (.var 0)) (env := [some (.tup ds), some (.int s), none, none, none, none, none, none, none]) (m := m) (ds := ds) (fun d => .bl (tupOf d 2)) (seq_tup (by simp)) hl (by simp) fun d _ => by simp [c_is_tuple_of]
    cases q1 : ds.all fun d => tupOf d 2 with
    | false =>
      have e : ds.all (chOk s) = false := by
        cases q : ds.all (chOk s) with
        | false => rfl
        | true =>
          rw [List.all_eq_true] at q
          have w : (ds.all fun d => tupOf d 2) = true := List.all_eq_true.mpr fun d hd => by
            obtain ⟨i, a, b, rfl, _⟩ := chOk_sh (q d hd)
            rfl
          rw [w] at q1
          cases q1
      simp [b_are_chances, z1, allB_map, q1, chB, e]
    | true =>
      rw [List.all_eq_true] at q1
      have z2 := ev_mapP (F := callP prog (k + 3)) (elt := .and (.call f_is_between (.cons (.var 3) (.cons (.cst (.int 0)) (.cons (.bin .sub (.var 1) (.cst (.int 1))) .nil)))) (.and (.call f_is_ratio (.cons (.var 6) .nil)) (.cmp .gt (.idx (.var 6) (.cst (.int 0))) (.cst (.int 0))))) (i := 3) (j := 6) (it := .seq (.var 0)) (env := [some (.tup ds), some (.int s), none, none, none, none, none, none, none]) (m := m) (ds := ds) (fun d => .bl (chOk s d)) (seq_tup (by simp)) hl (by simp) (by simp) fun d hd => by
        obtain ⟨x, y, rfl⟩ := tup2 (q1 d hd)
        refine ⟨x, y, rfl, ?_⟩
        cases hb : betw x 0 (s - 1) with
        | false => simp [c_is_between, c_is_ratio, hb, chOk]
        | true =>
          cases hr : ratB y with
          | false => simp [c_is_between, c_is_ratio, hb, hr, chOk]
          | true =>
            unfold ratB at hr
            split at hr
            · simp [c_is_between, c_is_ratio, hb, hr, chOk, posN, ratB]
            · cases hr
      have e1 : ([some (.tup ds), some (.int s), none, none, none, none, none, none, none] : Env).length = 9 := rfl
      cases q2 : ds.all (chOk s) with
      | false => simp [b_are_chances, z1, z2, allB_map, List.all_eq_true.mpr q1, q2, chB]
      | true =>
        have q3 := List.all_eq_true.mp q2
        have z3 := ev_mapP (F := callP prog (k + 3)) (elt := .var 3) (i := 3) (j := 4) (it := .seq (.var 0)) (env := [some (.tup ds), some (.int s), none, none, none, none, none, none, none]) (m := m) (ds := ds) (fun d => .int (stI d)) (seq_tup (by simp)) hl (by simp) (by simp) fun d hd => by
          obtain ⟨i, a, b, rfl, _⟩ := chOk_sh (q3 d hd)
          exact ⟨_, _, rfl, rfl⟩
        have e2 : ds.map (fun d => D.int (stI d)) = (ds.map stI).map D.int := by rw [List.map_map]; rfl
        have z4 := ev_mapP (F := callP prog (k + 3)) (elt := .cmp .lt (.var 7) (.var 8)) (i := 7) (j := 8) (it := .zip (.var 2) (.sl (.var 2) (.cst (.int 1)) (.nop))) (env := [some (.tup ds), some (.int s), some (.lst (ds.map fun d => .int (stI d))), none, none, none, none, none, none]) (m := m)
          (ds := zipD (ds.map fun d => .int (stI d)) ((ds.map fun d => .int (stI d)).drop 1)) (fun d => .bl (ltD d)) (zip_lst (by simp) (by simp [partOf, isNop, sl_tail])) (by rw [zipD_len', List.length_map]; exact Nat.le_trans (Nat.min_le_left _ _) hl) (by simp) (by simp) fun d hd => by
          rw [e2, ← List.map_drop, zipD_map] at hd
          obtain ⟨p, _, rfl⟩ := List.mem_map.mp hd
          exact ⟨_, _, rfl, by simp [ltD]⟩
        have e3 : (zipD (ds.map fun d => D.int (stI d)) ((ds.map fun d => D.int (stI d)).drop 1)).all ltD = ascB (ds.map stI) := by
          rw [e2, zip_asc]
          rfl
        have a4 := allB_map ltD (zipD (ds.map fun d => D.int (stI d)) ((ds.map fun d => D.int (stI d)).drop 1))
        rw [e3] at a4
        generalize (zipD (ds.map fun d => D.int (stI d)) ((ds.map fun d => D.int (stI d)).drop 1)).map (fun d => D.bl (ltD d)) = L4 at z4 a4
        cases q4 : ascB (ds.map stI) with
        | false =>
          rw [q4] at a4
          simp [b_are_chances, z1, z2, z3, z4, a4, allB_map, List.all_eq_true.mpr q1, q2, chB, q4]
        | true =>
          rw [q4] at a4
          have hlen : ((ds.map stI).length : Int) ≤ max 0 (s - 0) := asc_len (ds.map stI) 0 s (fun x hx => by
            obtain ⟨d, hd, rfl⟩ := List.mem_map.mp hx
            obtain ⟨i, a, b, rfl, h1, h2, _⟩ := chOk_sh (q3 d hd)
            exact ⟨h1, h2⟩) q4
          rw [List.length_map] at hlen
          have z5 := ev_mapP (F := callP prog (k + 3)) (elt := .var 6) (i := 4) (j := 6) (it := .seq (.var 0)) (env := [some (.tup ds), some (.int s), some (.lst (ds.map fun d => .int (stI d))), none, none, none, none, none, none]) (m := m) (ds := ds) (fun d => fr (frI d)) (seq_tup (by simp)) hl (by simp) (by simp) fun d hd => by
            obtain ⟨i, a, b, rfl, _⟩ := chOk_sh (q3 d hd)
            exact ⟨_, _, rfl, rfl⟩
          have e4 : ds.map (fun d => fr (frI d)) = (ds.map frI).map fr := by rw [List.map_map]; rfl
          have z6 := c_total k (ds.map frI) m (fun c hc => by
            obtain ⟨d, hd, rfl⟩ := List.mem_map.mp hc
            have sz := hz.all d hd
            obtain ⟨i, a, b, rfl, _, _, h3, _⟩ := chOk_sh (q3 d hd)
            obtain ⟨_, _, ⟨_, sa, sb, _⟩, _⟩ := sz
            exact ⟨h3, sa, sb⟩) (by rw [List.length_map]; omega)
          rw [← e4] at z6
          have z7 : cmp m .eq (fr (totZ (ds.map frI))) (.tup [.int 1, .int 1]) = some (.bl (decide (totZ (ds.map frI) = (1, 1)))) := by
            rw [c_eqF]
            congr 3
            exact propext ⟨fun h => Prod.ext h.1 h.2, fun h => by rw [h]; exact ⟨rfl, rfl⟩⟩
          simp only [fr] at z7 z5 z6
          simp [b_are_chances, z1, z2, z3, z4, a4, z5, z6, z7, allB_map, List.all_eq_true.mpr q1, q2, chB, q4]
  | _ => simp [b_are_chances, chB, isa]
/-! ### houses -/
def deedB (p s : Int) : D → Bool
  | .tup [x, y] => chB x s && rowB y p
  | _ => false
theorem c_is_deed (k : Nat) (d : D) (p s : Int) (m : Sto) (hs : s ≤ 8) (hp : p ≤ 1000) (hz : Sz d) : callP prog (k + 5) f_is_deed [d, .int p, .int s] m = .ok (.bl (deedB p s d)) m := by
  rw [call_eq at_is_deed rfl]
  cases h : tupOf d 2 with
  | false =>
    have e : deedB p s d = false := by
      unfold deedB
      split
      · cases h
      · rfl
    simp [b_is_deed, c_is_tuple_of, h, e]
  | true =>
    obtain ⟨x, y, rfl⟩ := tup2 h
    have z1 := c_are_chances k x s m hs hz.at2.1
    have z2 := c_is_row (k + 1) y p m hp
    cases q : chB x s <;> simp [b_is_deed, c_is_tuple_of, h, z1, z2, q, deedB]
def standB (p s : Int) : D → Bool
  | .tup ds => (decide (1 ≤ (ds.length : Int)) && decide ((ds.length : Int) ≤ 4)) && ds.all (deedB p s)
  | _ => false
theorem c_is_stand (k : Nat) (d : D) (p s : Int) (m : Sto) (hs : s ≤ 8) (hp : p ≤ 1000) (hz : Sz d) : callP prog (k + 6) f_is_stand [d, .int p, .int s] m = .ok (.bl (standB p s d)) m := by
  rw [call_eq at_is_stand rfl]
  cases d with
  | tup ds =>
    have hl := small_lim hz.1
    have z := ev_map (F := callP prog (k + 5)) (elt := .call f_is_deed (.cons (.var 3) (.cons (.var 1) (.cons (.var 2) .nil)))) (i := 3) (it := .seq (.var 0)) (env := [some (.tup ds), some (.int p), some (.int s), none]) (m := m) (ds := ds) (fun d => .bl (deedB p s d)) (seq_tup (by simp)) hl (by simp) fun d hd => by simp [c_is_deed k d p s m hs hp (hz.2.all d hd)]
    have z1 := c_is_between (k + 3) (.int ds.length) 1 4 m
    cases q : betw (.int ds.length) 1 4 with
    | false =>
      have e : standB p s (.tup ds) = false := by
        show ((decide (1 ≤ (ds.length : Int)) && decide ((ds.length : Int) ≤ 4)) && ds.all (deedB p s)) = false
        rw [show (decide (1 ≤ (ds.length : Int)) && decide ((ds.length : Int) ≤ 4)) = false from q]
        rfl
      simp [b_is_stand, z1, q, e]
    | true =>
      have e : standB p s (.tup ds) = ds.all (deedB p s) := by
        show ((decide (1 ≤ (ds.length : Int)) && decide ((ds.length : Int) ≤ 4)) && ds.all (deedB p s)) = _
        rw [show (decide (1 ≤ (ds.length : Int)) && decide ((ds.length : Int) ≤ 4)) = true from q]
        rfl
      rw [e]
      simp [-List.all_eq_true, b_is_stand, z1, q, z, allB_map]
  | _ => simp [b_is_stand, standB, isa]
def shareB : D → Bool
  | .tup [.int a, .int b] => ratB (.tup [.int a, .int b]) && (decide (0 ≤ a) && decide (a < b))
  | _ => false
theorem c_is_share (k : Nat) (d : D) (m : Sto) : callP prog (k + 3) f_is_share [d] m = .ok (.bl (shareB d)) m := by
  rw [call_eq at_is_share rfl]
  have z := c_is_ratio k d m
  cases q : ratB d with
  | false =>
    have e : shareB d = false := by
      unfold shareB
      split
      · rw [q]
        rfl
      · rfl
    simp [b_is_share, z, q, e]
  | true =>
    have q' := q
    unfold ratB at q'
    split at q'
    · rename_i a b
      by_cases h : 0 ≤ a <;> simp [b_is_share, z, q, shareB, h]
    · cases q'
def houseB : D → Bool
  | .tup [x, .int p, .tup ss] => shareB x && ((decide (1 ≤ p) && decide (p ≤ 4)) && ((decide (1 ≤ (ss.length : Int)) && decide ((ss.length : Int) ≤ 8)) && ss.all (standB p ss.length)))
  | _ => false
theorem tup3 {d : D} (h : tupOf d 3 = true) : ∃ x y z, d = .tup [x, y, z] := by
  cases d with
  | tup ds =>
    have h : ((ds.length : Int) = 3) := of_decide_eq_true h
    match ds, h with
    | [x, y, z], _ => exact ⟨x, y, z, rfl⟩
    | [], h => simp at h
    | [_], h => simp at h
    | [_, _], h => simp at h
    | _ :: _ :: _ :: _ :: _, h => simp at h; omega
  | _ => cases h
theorem c_is_house_by (k : Nat) (d : D) (m : Sto) (hz : Sz d) : callP prog (k + 7) f_is_house_by [d] m = .ok (.bl (houseB d)) m := by
  rw [call_eq at_is_house_by rfl]
  cases h : tupOf d 3 with
  | false =>
    have e : houseB d = false := by
      unfold houseB
      split
      · cases h
      · rfl
    simp [b_is_house_by, c_is_tuple_of, h, e]
  | true =>
    obtain ⟨x, y, z, rfl⟩ := tup3 h
    have s1 := c_is_share (k + 3) x m
    have s2 := c_is_between (k + 4) y 1 4 m
    cases q1 : shareB x with
    | false =>
      have e : houseB (.tup [x, y, z]) = false := by
        unfold houseB
        split
        · rename_i e
          cases e
          rw [q1]
          rfl
        · rfl
      simp [b_is_house_by, c_is_tuple_of, h, e, s1, q1]
    | true =>
      cases q2 : betw y 1 4 with
      | false =>
        have e : houseB (.tup [x, y, z]) = false := by
          unfold houseB
          split
          · rename_i p ss e
            cases e
            rw [show (decide (1 ≤ p) && decide (p ≤ 4)) = false from q2, q1]
            rfl
          · rfl
        simp [b_is_house_by, c_is_tuple_of, h, e, s1, q1, s2, q2]
      | true =>
        cases y with
        | int p =>
          have q2' : (decide (1 ≤ p) && decide (p ≤ 4)) = true := q2
          cases z with
          | tup ss =>
            have s3 := c_is_between (k + 4) (.int ss.length) 1 8 m
            cases q3 : betw (.int ss.length) 1 8 with
            | false =>
              have e : houseB (.tup [x, .int p, .tup ss]) = false := by
                show (shareB x && ((decide (1 ≤ p) && decide (p ≤ 4)) && ((decide (1 ≤ (ss.length : Int)) && decide ((ss.length : Int) ≤ 8)) && ss.all (standB p ss.length)))) = false
                rw [show (decide (1 ≤ (ss.length : Int)) && decide ((ss.length : Int) ≤ 8)) = false from q3, q1, q2']
                rfl
              simp [b_is_house_by, c_is_tuple_of, h, e, s1, q1, s2, q2, s3, q3]
            | true =>
              have q3' : (decide (1 ≤ (ss.length : Int)) && decide ((ss.length : Int) ≤ 8)) = true := q3
              have e : houseB (.tup [x, .int p, .tup ss]) = ss.all (standB p ss.length) := by
                show (shareB x && ((decide (1 ≤ p) && decide (p ≤ 4)) && ((decide (1 ≤ (ss.length : Int)) && decide ((ss.length : Int) ≤ 8)) && ss.all (standB p ss.length)))) = _
                rw [q3', q1, q2']
                rfl
              rw [Bool.and_eq_true, decide_eq_true_eq, decide_eq_true_eq] at q2' q3'
              have hzs := hz.at3.2.2
              have w := ev_map (F := callP prog (k + 6)) (elt := .call f_is_stand (.cons (.var 2) (.cons (.idx (.var 0) (.cst (.int 1))) (.cons (.blt .len (.cons (.var 1) .nil)) .nil)))) (i := 2) (it := .seq (.var 1)) (env := [some (.tup [x, .int p, .tup ss]), some (.tup ss), none]) (m := m) (ds := ss) (fun d => .bl (standB p ss.length d)) (seq_tup (by simp)) (small_lim hzs.1) (by simp)
                fun d hd => by simp [c_is_stand k d p ss.length m (by omega) (by omega) (hzs.2.all d hd)]
              rw [e]
              simp [-List.all_eq_true, b_is_house_by, c_is_tuple_of, h, s1, q1, s2, q2, s3, q3, w, allB_map]
          | _ =>
            have e : ∀ z, (∀ ss, z ≠ D.tup ss) → houseB (.tup [x, .int p, z]) = false := fun z hz => by
              unfold houseB
              split
              · rename_i e
                cases e
                exact absurd rfl (hz _)
              · rfl
            simp [b_is_house_by, c_is_tuple_of, h, e, s1, q1, s2, q2, isa]
        | _ => cases q2
/-! ### names -/
abbrev letters : List Nat := [97, 98, 99, 100, 101, 102, 103, 104, 105, 106, 107, 108, 109, 110, 111, 112, 113, 114, 115, 116, 117, 118, 119, 120, 121, 122]
abbrev digitsL : List Nat := [48, 49, 50, 51, 52, 53, 54, 55, 56, 57]
def nameB : D → Bool
  | .str s => (decide (1 ≤ (s.length : Int)) && decide ((s.length : Int) ≤ 12)) && ((match s with
    | c :: _ => chrIn c letters
    | [] => false) && s.all fun c => chrIn c (letters ++ digitsL))
  | _ => false
def strOf : D → List Nat
  | .str s => s
  | _ => []
theorem len_str (m : Sto) (s : List Nat) (h : s.length ≤ lim) : blt m .len [.str s] = some (.int s.length) := if_pos h
theorem idx_str (m : Sto) (c : Nat) (s : List Nat) (h : (c :: s).length ≤ lim) : idxD m (.str (c :: s)) (.int 0) = some (.str [c]) := by
  show (if (c :: s).length ≤ lim then (atIx (c :: s) 0).map fun c => D.str [c] else none) = _
  rw [if_pos h]
  rfl
@[simp] theorem in_str (m : Sto) (c : Nat) (t : List Nat) : cmp m .isin (.str [c]) (.str t) = some (.bl (chrIn c t)) := rfl
@[simp] theorem notin_str (m : Sto) (c : Nat) (t : List Nat) : cmp m .notin (.str [c]) (.str t) = some (.bl (!chrIn c t)) := rfl
theorem add_str (s t : List Nat) (h : s.length + t.length ≤ lim) : bin .add (.str s) (.str t) = some (.str (s ++ t)) := if_pos h
def namesB (d : D) (n : Int) : Bool := match d with
  | .tup ds => decide ((ds.length : Int) = n) && (ds.all nameB && decide ((dist (ds.map strOf) [] : Int) = n))
  | _ => false
theorem strsOf_map : ∀ {ds : List D}, (∀ d ∈ ds, nameB d = true) → strsOf ds = some (ds.map strOf)
  | [], _ => rfl
  | d :: ds, h => by
    have ih := strsOf_map fun x hx => h x (List.mem_cons_of_mem _ hx)
    have h0 := h d List.mem_cons_self
    cases d with
    | str s =>
      rw [strsOf, ih]
      rfl
    | _ => cases h0
def lenD : D → Int
  | .tup ds => ds.length
  | _ => 0
def pairB : D → Bool
  | .tup [x, y] => namesB x (lenD y)
  | _ => false
def dnB (ss : List D) : D → Bool
  | .tup dns => decide ((dns.length : Int) = ss.length) && (zipD dns ss).all pairB
  | _ => false
def titledB : D → Bool
  | .tup [.tup [x, .int p, .tup ss], .tup [pn, sn, dn]] => houseB (.tup [x, .int p, .tup ss]) && ((namesB pn p && namesB sn ss.length) && dnB ss dn)
  | _ => false
theorem house_sh {d : D} (h : houseB d = true) : ∃ x p ss, d = .tup [x, .int p, .tup ss] ∧ 1 ≤ p ∧ p ≤ 4 ∧ 1 ≤ ss.length ∧ ss.length ≤ 8 ∧ ∀ t ∈ ss, standB p ss.length t = true := by
  unfold houseB at h
  split at h
  · rename_i x p ss
    simp only [Bool.and_eq_true, decide_eq_true_eq, List.all_eq_true] at h
    exact ⟨x, p, ss, rfl, h.2.1.1, h.2.1.2, by omega, by omega, h.2.2.2⟩
  · cases h
theorem zipD_mem : ∀ {xs ys : List D} {d : D}, d ∈ zipD xs ys → ∃ x y, d = .tup [x, y] ∧ x ∈ xs ∧ y ∈ ys
  | [], _, _, h => by simp [zipD] at h
  | _ :: _, [], _, h => by simp [zipD] at h
  | x :: xs, y :: ys, d, h => by
    rw [zipD] at h
    rcases List.mem_cons.mp h with e | h
    · exact ⟨x, y, e, List.mem_cons_self, List.mem_cons_self⟩
    · obtain ⟨a, b, e, h1, h2⟩ := zipD_mem h
      exact ⟨a, b, e, List.mem_cons_of_mem _ h1, List.mem_cons_of_mem _ h2⟩
end K79


set_option Elab.async false
set_option linter.all false
set_option maxRecDepth 100000
/-! K79B: what the law's own reading tells. -/
namespace K79
open Dh
@[simp] theorem c_eqL (m : Sto) (X : List D) : cmp m .eq (.lst X) (.lst []) = some (.bl X.isEmpty) := by cases X <;> rfl
@[simp] theorem c_neL (m : Sto) (X : List D) : cmp m .ne (.lst X) (.lst []) = some (.bl (!X.isEmpty)) := by cases X <;> rfl
theorem filt_empty (p : D → Bool) : ∀ ds : List D, (ds.filter fun d => !p d).isEmpty = ds.all p
  | [] => rfl
  | d :: ds => by
    rw [List.filter_cons, List.all_cons]
    cases p d
    · rfl
    · exact filt_empty p ds
theorem filt_of (p : D → Bool) (ds : List D) : ∃ L, (ds.filter fun d => !p d) = L ∧ L.isEmpty = ds.all p := ⟨_, rfl, filt_empty p ds⟩
theorem ratZ_self {a b : Int} (hb : 0 < b) : decide (ratZ a b = (a, b)) = decide (Nat.gcd a.natAbs b.natAbs = 1) := by
  have g2 : (0 : Int) < (Nat.gcd a.natAbs b.natAbs : Nat) := (gcd_pos hb).elim (·.1) id
  congr 1
  apply propext
  constructor
  · intro h
    have h2 : b / (Nat.gcd a.natAbs b.natAbs : Nat) = b := congrArg Prod.snd h
    by_cases e : Nat.gcd a.natAbs b.natAbs = 1
    · exact e
    · exfalso
      have : (1 : Int) < (Nat.gcd a.natAbs b.natAbs : Nat) := by omega
      have w := Int.mul_lt_mul_of_pos_left this hb
      rw [Int.mul_one] at w
      have z := Int.ediv_lt_of_lt_mul g2 w
      omega
  · intro h
    unfold ratZ
    rw [h]
    simp
/-! ### deeds: the chances one by one -/
/-- the loop over chances: what it tells of the rest -/
def actW (s : Int) : Int → Int × Int → List D → Option (Int × Int)
  | _, t, [] => some t
  | last, t, d :: ds => if chOk s d && decide (last < stI d) then actW s (stI d) (plusZ t (frI d)) ds else none
theorem actW_eq (s : Int) : ∀ (ds : List D) (last : Int) (t : Int × Int), -1 ≤ last → (actW s last t ds = if ds.all (chOk s) && (ascB (ds.map stI) && (match ds with
      | [] => true
      | d :: _ => decide (last < stI d))) then some ((ds.map frI).foldl plusZ t) else none)
  | [], _, _, _ => rfl
  | [d], last, t, _ => by
    rw [actW]
    cases h1 : chOk s d <;> cases h2 : decide (last < stI d) <;> simp [h1, h2, actW, ascB]
  | d :: e :: ds, last, t, hl => by
    rw [actW]
    cases h1 : chOk s d with
    | false => simp [h1]
    | true =>
      obtain ⟨i, a, b, rfl, i0, _⟩ := chOk_sh h1
      have ih : actW s i (plusZ t (a, b)) (e :: ds) = if ((e :: ds).all (chOk s) && (ascB ((e :: ds).map stI) && decide (i < stI e))) = true then some (((e :: ds).map frI).foldl plusZ (plusZ t (a, b))) else none := actW_eq s (e :: ds) i (plusZ t (a, b)) (by omega)
      have e1 : ascB ((D.tup [.int i, fr (a, b)] :: e :: ds).map stI) = (decide (i < stI e) && ascB ((e :: ds).map stI)) := rfl
      rw [e1]
      show (if (true && decide (last < i)) = true then actW s i (plusZ t (a, b)) (e :: ds) else none) = _
      rw [ih]
      have e2 : (D.tup [.int i, fr (a, b)] :: e :: ds).all (chOk s) = (e :: ds).all (chOk s) := by rw [List.all_cons, h1]; rfl
      rw [e2]
      show _ = (if ((e :: ds).all (chOk s) && ((decide (i < stI e) && ascB ((e :: ds).map stI)) && decide (last < i))) = true then some (((e :: ds).map frI).foldl plusZ (plusZ t (a, b))) else none)
      cases (e :: ds).all (chOk s) <;> cases decide (last < i) <;> cases decide (i < stI e) <;> cases ascB ((e :: ds).map stI) <;> rfl
theorem actW_start (s : Int) (ds : List D) : actW s (-1) (0, 1) ds = if ds.all (chOk s) && ascB (ds.map stI) then some (totZ (ds.map frI)) else none := by
  rw [actW_eq s ds (-1) (0, 1) (by omega)]
  cases h : ds.all (chOk s) with
  | false => rfl
  | true =>
    cases ds with
    | nil => rfl
    | cons d ds =>
      rw [List.all_cons, Bool.and_eq_true] at h
      obtain ⟨i, a, b, rfl, i0, _⟩ := chOk_sh h.1
      show (if (true && (_ && decide (-1 < i))) = true then _ else _) = _
      rw [decide_eq_true (show -1 < i by omega), Bool.and_true]
      rfl
/-! ### halls -/
/-! ### words -/
theorem sign_filt (p : Nat → Bool) (s : List Nat) : ∃ L, ((s.map fun c => D.str [c]).filter fun d => !((strOf d).all p)) = L ∧ L.isEmpty = s.all p := by
  refine ⟨_, rfl, ?_⟩
  rw [filt_empty, List.all_map]
  congr 1
  funext x
  show ([x].all p) = _
  rw [List.all_cons, List.all_nil, Bool.and_true]
/-! distinct ones -/
theorem dist_le : ∀ (xs seen : List (List Nat)), dist xs seen ≤ xs.length
  | [], _ => Nat.le_refl _
  | x :: xs, seen => by
    rw [dist, List.length_cons]
    split
    · exact Nat.le_succ_of_le (dist_le xs seen)
    · exact Nat.succ_le_succ (dist_le xs _)
theorem dist_eq : ∀ (xs seen : List (List Nat)), dist xs seen = xs.length ↔ xs.Nodup ∧ ∀ x ∈ xs, x ∉ seen
  | [], _ => by simp [dist]
  | x :: xs, seen => by
    rw [dist, List.length_cons, List.nodup_cons]
    have h1 := dist_le xs seen
    have ih := dist_eq xs (x :: seen)
    by_cases h : seen.contains x = true
    · rw [if_pos h]
      constructor
      · intro e
        omega
      · intro ⟨_, z⟩
        exact absurd (List.contains_iff_mem.mp h) (z x List.mem_cons_self)
    · rw [if_neg h]
      have h' : x ∉ seen := fun z => h (List.contains_iff_mem.mpr z)
      constructor
      · intro e
        obtain ⟨n, z⟩ := ih.mp (by omega)
        refine ⟨⟨fun hx => z x hx List.mem_cons_self, n⟩, fun y hy => ?_⟩
        rcases List.mem_cons.mp hy with e | hy
        · rw [e]
          exact h'
        · exact fun q => z y hy (List.mem_cons_of_mem _ q)
      · intro ⟨⟨n1, n2⟩, z⟩
        have := ih.mpr ⟨n2, fun y hy q => by
          rcases List.mem_cons.mp q with e | q
          · rw [e] at hy
            exact n1 hy
          · exact z y (List.mem_cons_of_mem _ hy) q⟩
        omega
/-- no element stands among those ahead of it -/
theorem nodup_take {α : Type} [DecidableEq α] (xs : List α) : xs.Nodup ↔ ∀ k (h : k < xs.length), xs[k] ∉ xs.take k := by
  constructor
  · intro n k h q
    obtain ⟨i, hi, e⟩ := List.getElem_of_mem q
    rw [List.length_take] at hi
    rw [List.getElem_take] at e
    have := (List.getElem_inj n).mp e
    omega
  · intro h
    rw [List.nodup_iff_pairwise_ne, List.pairwise_iff_getElem]
    intro i j hi hj hij e
    refine h j hj ?_
    rw [← e]
    have hi2 : i < (xs.take j).length := by
      rw [List.length_take]
      omega
    have e2 : (xs.take j)[i] = xs[i] := List.getElem_take
    rw [← e2]
    exact List.getElem_mem hi2
theorem chr_small {c : Nat} (h : chrIn c (letters ++ digitsL) = true) : c < 128 := by
  unfold chrIn at h
  rw [List.any_eq_true] at h
  obtain ⟨x, hx, e⟩ := h
  have e := eq_of_beq e
  rw [← e]
  have : ∀ x ∈ letters ++ digitsL, x < 128 := by decide
  exact this x hx
theorem name_sh {d : D} (h : nameB d = true) : ∃ s, d = .str s ∧ ∀ c ∈ s, c < 128 := by
  cases d with
  | str s =>
    refine ⟨s, rfl, fun c hc => ?_⟩
    have h : (_ && (_ && s.all fun c => chrIn c (letters ++ digitsL))) = true := h
    rw [Bool.and_eq_true] at h
    have h2 := h.2
    rw [Bool.and_eq_true] at h2
    exact chr_small (List.all_eq_true.mp h2.2 c hc)
  | _ => cases h
theorem str_shaped {s : List Nat} (h : ∀ c ∈ s, c < 128) : PySem.PyData.canLay0 (.str ⟨s.toArray⟩) = true := by
  show PySem.PyData.strOk ⟨s.toArray⟩ = true
  unfold PySem.PyData.strOk
  rw [Array.all_eq_true']
  intro c hc
  have := h c (by simpa using hc)
  exact decide_eq_true (by omega)
theorem words_lay : ∀ {ds : List D}, (∀ d ∈ ds, nameB d = true) → PySem.PyData.canLayAll0 (D.pys ds) = true ∧ PySem.PyData.depthAll (D.pys ds) = 0 ∧ D.flats ds = true
  | [], _ => ⟨rfl, rfl, rfl⟩
  | d :: ds, h => by
    obtain ⟨s, rfl, hs⟩ := name_sh (h d List.mem_cons_self)
    obtain ⟨h1, h2, h3⟩ := words_lay fun x hx => h x (List.mem_cons_of_mem _ hx)
    refine ⟨?_, ?_, ?_⟩
    · show (PySem.PyData.canLay0 (.str ⟨s.toArray⟩) && PySem.PyData.canLayAll0 (D.pys ds)) = true
      rw [str_shaped hs, h1]
      rfl
    · show max (PySem.PyData.depth (.str ⟨s.toArray⟩)) (PySem.PyData.depthAll (D.pys ds)) = 0
      rw [h2]
      rfl
    · show (true && D.flats ds) = true
      rw [h3]
      rfl
theorem words_shaped {ds : List D} (h : ∀ d ∈ ds, nameB d = true) : D.shaped (.lst ds) = true := by
  obtain ⟨h1, h2, h3⟩ := words_lay h
  show (D.flats ds && (PySem.PyData.canLayAll0 (D.pys ds) && decide (PySem.PyData.depthAll (D.pys ds) + 1 ≤ 64))) = true
  rw [h1, h2, h3]
  rfl
theorem word_shaped {s : List Nat} (h : ∀ c ∈ s, c < 128) : D.shaped (.str s) = true := by
  show (true && (PySem.PyData.canLay0 (.str ⟨s.toArray⟩) && decide (0 ≤ 64))) = true
  rw [str_shaped h]
  rfl
theorem eqv_str (a b : List Nat) : PySem.PyData.eqv (.str ⟨a.toArray⟩) (.str ⟨b.toArray⟩) = decide (a = b) := by
  by_cases h : a = b
  · subst h
    simp [PySem.PyData.eqv]
  · have e : ¬ ((⟨a.toArray⟩ : PySem.Str) = ⟨b.toArray⟩) := fun z => h (by
      have z2 := congrArg (fun x : PySem.Str => x.cps.toList) z
      simpa using z2)
    rw [decide_eq_false h]
    simp [PySem.PyData.eqv, h]
theorem in_words (m : Sto) {s : List Nat} {ys : List D} (h : ∀ c ∈ s, c < 128) (hy : ∀ d ∈ ys, nameB d = true) : cmp m .isin (.str s) (.tup ys) = some (.bl (ys.any fun z => decide (strOf z = s))) := by
  have e0 : cmp m .isin (.str s) (.tup ys) = if (D.str s).shaped && (D.lst ys).shaped then some (.bl (ys.any fun z => PySem.PyData.eqv z.py (D.str s).py)) else none := by
    match s with
    | [] => rfl
    | [_] => rfl
    | _ :: _ :: _ => rfl
  rw [e0, word_shaped h, words_shaped hy]
  show some (D.bl _) = _
  congr 2
  induction ys with
  | nil => rfl
  | cons y ys ih =>
    rw [List.any_cons, List.any_cons, ih (fun d hd => hy d (List.mem_cons_of_mem _ hd)) (by
      match s with
      | [] => rfl
      | [_] => rfl
      | _ :: _ :: _ => rfl)]
    obtain ⟨t, rfl, _⟩ := name_sh (hy y List.mem_cons_self)
    congr 1
    exact eqv_str t s
theorem cut_take {α : Type} (xs : List α) (k : Nat) (h : k ≤ xs.length) : cutL xs none (some (k : Int)) = xs.take k := by
  have e1 : slB xs.length xs.length (some (k : Int)) = k := by
    show (if (k : Int) < 0 then ((k : Int) + (xs.length : Int)).toNat else min ((k : Int)).toNat xs.length) = k
    rw [if_neg (by omega), Int.toNat_natCast]
    omega
  show (xs.drop 0).take (slB xs.length xs.length (some (k : Int)) - 0) = _
  rw [e1]
  rfl
theorem ranged_filt (p : D → Bool) (n : Nat) : ((ranged 0 n).filter p).isEmpty = decide (∀ k, k < n → p (.int (k : Nat)) = false) := by
  by_cases h : ∀ k, k < n → p (.int (k : Nat)) = false
  · rw [decide_eq_true h]
    have e : (ranged 0 n).filter p = [] := by
      rw [List.filter_eq_nil_iff]
      intro d hd
      unfold ranged at hd
      obtain ⟨i, hi, rfl⟩ := List.mem_map.mp hd
      have hi' : i < n := by
        have := List.mem_range.mp hi
        omega
      have := h i hi'
      simp [this]
    rw [e]
    rfl
  · rw [decide_eq_false h]
    cases q : ((ranged 0 n).filter p).isEmpty with
    | false => rfl
    | true =>
      exfalso
      refine h fun k hk => ?_
      have e := List.isEmpty_iff.mp q
      rw [List.filter_eq_nil_iff] at e
      have hm : D.int (k : Nat) ∈ ranged 0 n := by
        unfold ranged
        refine List.mem_map.mpr ⟨k, List.mem_range.mpr (by omega), ?_⟩
        simp
      have := e _ hm
      simpa using this
theorem zip_all : ∀ (xs ys : List D), (zipD xs ys).all pairB = true ↔ ∀ (k : Nat) (x y : D), xs[k]? = some x → ys[k]? = some y → namesB x (lenD y) = true
  | [], ys => by simp [zipD]
  | x :: xs, [] => by simp [zipD]
  | x :: xs, y :: ys => by
    rw [zipD, List.all_cons, Bool.and_eq_true, zip_all xs ys]
    constructor
    · intro ⟨h1, h2⟩ k a b ha hb
      cases k with
      | zero =>
        rw [List.getElem?_cons_zero] at ha hb
        cases ha
        cases hb
        exact h1
      | succ k => exact h2 k a b (by simpa using ha) (by simpa using hb)
    · intro h
      exact ⟨h 0 x y rfl rfl, fun k a b ha hb => h (k + 1) a b (by simpa using ha) (by simpa using hb)⟩
end K79


set_option Elab.async false
set_option linter.all false
set_option maxRecDepth 100000
/-! K79C: what the law draws. -/
namespace K79
open Dh
theorem c_draw (k : Nat) {m : Sto} {n c0 : Nat} {s : Int} (hu : Urn m n c0) (hc : c0 ≤ 1000000) (h1 : 1 ≤ s) (h2 : s ≤ 1000000000) : ∃ v m', callP prog (k + 1) f__law_draw [.loc n, .int s] m = .ok (.int v) m' ∧ 0 ≤ v ∧ v < s ∧ Urn m' n (c0 + 1) ∧ Chg n m m' := by
  obtain ⟨a, b, c, hm, ha, ⟨hb0, hb1⟩, hc0, hc1⟩ := hu
  have hn := lt_of_get hm
  have i0 := idx_loc (i := 0) hm
  by_cases q : 0 < a
  · have d1 : blt m .divmod [.int a, .int s] = some (.tup [.int (a / s), .int (a % s)]) := if_pos ⟨by omega, by omega⟩
    have st := sub_loc (i := 0) (d := .int (a / s)) hm rfl
    refine ⟨a % s, m.set n (.lst [.int (a / s), .int b, .int c]), ?_, Int.emod_nonneg _ (by omega), Int.emod_lt_of_pos _ (by omega), ⟨a / s, b, c, List.getElem?_set_self hn, Int.ediv_nonneg ha (by omega), ⟨hb0, hb1⟩, hc0, by omega⟩, Chg.set _ _ _⟩
    rw [call_eq at__law_draw rfl]
    simp [b__law_draw, i0, q, d1, st]
  · have e0 : a = 0 := by omega
    have i2 := idx_loc (i := 2) hm
    have st1 := sub_loc (i := 2) (d := .int (c + 1)) hm rfl
    have g1 : (m.set n (.lst [.int a, .int b, .int (c + 1)]))[n]? = some (.lst [.int a, .int b, .int (c + 1)]) := List.getElem?_set_self hn
    have j1 := idx_loc (i := 1) g1
    have j2 := idx_loc (i := 2) g1
    have m1 := b_mulB (i := b) (j := 48271) (a := 31) (b := 31) (by unfold Bt; omega) (by unfold Bt; decide) (by decide) (by decide)
    have m2 := b_mulB (i := c + 1) (j := 69621) (a := 31) (b := 31) (by unfold Bt; omega) (by unfold Bt; decide) (by decide) (by decide)
    have w0 := Int.emod_nonneg (b * 48271 + (c + 1) * 69621 + 11) (show (2147483587 : Int) ≠ 0 by decide)
    have w1 := Int.emod_lt_of_pos (b * 48271 + (c + 1) * 69621 + 11) (show (0 : Int) < 2147483587 by decide)
    have o1 : bin .mod (.int (b * 48271 + (c + 1) * 69621 + 11)) (.int 2147483587) = some (.int ((b * 48271 + (c + 1) * 69621 + 11) % 2147483587)) := b_mod (by decide)
    generalize hv : (b * 48271 + (c + 1) * 69621 + 11) % 2147483587 = v at *
    have st2 := sub_loc (i := 1) (d := .int v) g1 rfl
    have o2 : bin .mod (.int v) (.int 8191) = some (.int (v % 8191)) := b_mod (by decide)
    have w2 := Int.emod_nonneg v (show (8191 : Int) ≠ 0 by decide)
    have w3 := Int.emod_lt_of_pos v (show (0 : Int) < 8191 by decide)
    have m3 := b_mulB (i := v) (j := v % 8191 + 30029) (a := 31) (b := 31) (by unfold Bt; omega) (by unfold Bt; omega) (by decide) (by decide)
    have o3 : bin .fdiv (.int (v * (v % 8191 + 30029))) (.int 4099) = some (.int (v * (v % 8191 + 30029) / 4099)) := b_fdivB (a := 13) (by decide) (by unfold Bt; decide) (by decide)
    have o4 : bin .mod (.int (v * (v % 8191 + 30029) / 4099)) (.int s) = some (.int (v * (v % 8191 + 30029) / 4099 % s)) := b_mod (by omega)
    refine ⟨v * (v % 8191 + 30029) / 4099 % s, (m.set n (.lst [.int a, .int b, .int (c + 1)])).set n (.lst [.int a, .int v, .int (c + 1)]), ?_, Int.emod_nonneg _ (by omega), Int.emod_lt_of_pos _ (by omega), ⟨a, v, c + 1, List.getElem?_set_self (by rw [List.length_set]; exact hn), ha, ⟨by omega, by omega⟩, by omega, by omega⟩, (Chg.set _ _ _).trans (Chg.set _ _ _)⟩
    rw [call_eq at__law_draw rfl]
    simp [b__law_draw, i0, q, i2, st1, j1, j2, m1, m2, o1, hv, st2, o2, m3, o3, o4]
theorem at_mem {α : Type} {xs : List α} {i : Int} (h0 : 0 ≤ i) (h1 : i < xs.length) : ∃ x, atIx xs i = some x ∧ x ∈ xs := by
  have hl : i.toNat < xs.length := by omega
  refine ⟨xs[i.toNat], ?_, List.getElem_mem hl⟩
  unfold atIx
  rw [if_pos h0, List.getElem?_eq_getElem hl]
theorem c_pick (k : Nat) {m : Sto} {n c0 : Nat} {ds : List D} (hu : Urn m n c0) (hc : c0 ≤ 1000000) (h1 : 1 ≤ ds.length) (h2 : ds.length ≤ 1000000) : ∃ d m', callP prog (k + 2) f__law_pick [.loc n, .lst ds] m = .ok d m' ∧ d ∈ ds ∧ Urn m' n (c0 + 1) ∧ Chg n m m' := by
  obtain ⟨v, m', e, v0, v1, hu', hc'⟩ := c_draw k hu hc (show (1 : Int) ≤ ds.length by omega) (show (ds.length : Int) ≤ 1000000000 by omega)
  obtain ⟨d, hd, hm⟩ := at_mem v0 v1
  refine ⟨d, m', ?_, hm, hu', hc'⟩
  rw [call_eq at__law_pick rfl]
  simp [b__law_pick, e, hd]
theorem c_pickS (k : Nat) {m : Sto} {n c0 : Nat} {s : List Nat} (hu : Urn m n c0) (hc : c0 ≤ 1000000) (h1 : 1 ≤ s.length) (h2 : s.length ≤ 1000000) : ∃ x m', callP prog (k + 2) f__law_pick [.loc n, .str s] m = .ok (.str [x]) m' ∧ x ∈ s ∧ Urn m' n (c0 + 1) ∧ Chg n m m' := by
  have hl : s.length ≤ lim := by unfold lim; omega
  obtain ⟨v, m', e, v0, v1, hu', hc'⟩ := c_draw k hu hc (show (1 : Int) ≤ s.length by omega) (show (s.length : Int) ≤ 1000000000 by omega)
  obtain ⟨x, hd, hm⟩ := at_mem v0 v1
  refine ⟨x, m', ?_, hm, hu', hc'⟩
  have i1 : idxD m' (.str s) (.int v) = some (.str [x]) := by
    show (if s.length ≤ lim then (atIx s v).map fun c => D.str [c] else none) = _
    rw [if_pos hl, hd]
    rfl
  rw [call_eq at__law_pick rfl]
  simp [b__law_pick, len_str m s hl, e, i1]
theorem c_urn (k : Nat) (m : Sto) (ns : List Int) (s : Int) (h0 : 0 ≤ s) (h1 : s ≤ 1000) (hl : ns.length ≤ 1000) : ∃ o, callP prog (k + 1) f__law_urn [.lst (ns.map .int), .int s] m = .ok (.loc m.length) (m ++ [o]) ∧ Urn (m ++ [o]) m.length 0 := by
  have turns : ∀ (cs : List Int) (v : Int) (e : Option D), 0 ≤ v → v < 2147483648 → ∃ v' e', 0 ≤ v' ∧ v' < 2147483648 ∧ forL (bindT (callP prog k) (.name 3)) (runs (callP prog k) (.cons (.asg (.name 2) (.bin .mod (.blt .int (.cons (.bin .add (.bin .add (.bin .mul (.var 2) (.cst (.int 52361))) (.bin .mod (.blt .int (.cons (.var 3) .nil)) (.cst (.int 2147483629)))) (.cst (.int 17))) .nil)) (.cst (.int 2147483587)))) .nil)) (cs.map .int) [some (.lst (ns.map .int)), some (.int s), some (.int v), e, none] m
      = .ok (.nx [some (.lst (ns.map .int)), some (.int s), some (.int v'), e', none]) m := by
    intro cs
    induction cs with
    | nil => exact fun v e h1 h2 => ⟨v, e, h1, h2, rfl⟩
    | cons c cs ih =>
      intro v e h1 h2
      have w0 := Int.emod_nonneg c (show (2147483629 : Int) ≠ 0 by decide)
      have w1 := Int.emod_lt_of_pos c (show (0 : Int) < 2147483629 by decide)
      have m1 := b_mulB (i := v) (j := 52361) (a := 31) (b := 31) (by unfold Bt; omega) (by unfold Bt; decide) (by decide) (by decide)
      have o1 : bin .mod (.int c) (.int 2147483629) = some (.int (c % 2147483629)) := b_mod (by decide)
      have o2 : bin .mod (.int (v * 52361 + c % 2147483629 + 17)) (.int 2147483587) = some (.int ((v * 52361 + c % 2147483629 + 17) % 2147483587)) := b_mod (by decide)
      have u0 := Int.emod_nonneg (v * 52361 + c % 2147483629 + 17) (show (2147483587 : Int) ≠ 0 by decide)
      have u1 := Int.emod_lt_of_pos (v * 52361 + c % 2147483629 + 17) (show (0 : Int) < 2147483587 by decide)
      obtain ⟨v', e', i1, i2, i3⟩ := ih ((v * 52361 + c % 2147483629 + 17) % 2147483587) (some (.int c)) u0 (by omega)
      refine ⟨v', e', i1, i2, ?_⟩
      rw [List.map_cons, forL]
      simp [m1, o1, o2]
      exact i3
  have p1 := b_mulB (i := 331) (j := s) (a := 31) (b := 31) (by unfold Bt; decide) (by unfold Bt; omega) (by decide) (by decide)
  have sl : slD m (.lst (ns.map D.int)) none (some 10) = some (.lst ((cutL ns none (some 10)).map D.int)) := by
    show some (D.lst (cutL (ns.map D.int) none (some 10))) = _
    unfold cutL
    rw [List.length_map, ← List.map_drop, ← List.map_take]
  obtain ⟨v', e', v0, v1, w⟩ := turns (cutL ns none (some 10)) (9522 + 331 * s) none (by omega) (by omega)
  have w2 := for_fix (F := callP prog k) (t := .name 3) (b := .cons (.asg (.name 2) (.bin .mod (.blt .int (.cons (.bin .add (.bin .add (.bin .mul (.var 2) (.cst (.int 52361))) (.bin .mod (.blt .int (.cons (.var 3) .nil)) (.cst (.int 2147483629)))) (.cst (.int 17))) .nil)) (.cst (.int 2147483587)))) .nil) (seq_lst (F := callP prog k) (e := .sl (.var 0) (.nop) (.cst (.int 10))) (env := [some (.lst (ns.map .int)), some (.int s), some (.int (9522 + 331 * s)), none, none]) (m := m) (m1 := m) (ds := (cutL ns none (some 10)).map D.int) (by simp [partOf, isNop, sl]))
  rw [w] at w2
  have gr : ∃ gt, 0 ≤ (if gt < 0 ∨ 10000000000000000 ≤ gt then (if gt < 0 then -gt else gt) else (0 : Int)) ∧ ev (callP prog k) (.ite (.cmp .lt (.var 1) (.blt .len (.cons (.var 0) .nil))) (.blt .int (.cons (.idx (.var 0) (.var 1)) .nil)) (.cst (.int 0))) [some (.lst (ns.map .int)), some (.int s), some (.int v'), e', none] m = .ok (.int gt) m := by
    by_cases q : s < (ns.length : Int)
    · have a1 : ∃ x, atIx (ns.map D.int) s = some (.int x) := by
        obtain ⟨d, hd, hm⟩ := at_mem (xs := ns.map D.int) h0 (by rw [List.length_map]; exact q)
        obtain ⟨x, _, rfl⟩ := List.mem_map.mp hm
        exact ⟨x, hd⟩
      obtain ⟨x, a1⟩ := a1
      exact ⟨x, by split <;> (try split) <;> omega, by simp [q, a1]⟩
    · exact ⟨0, by simp, by simp [q]⟩
  obtain ⟨gt, g0, gr⟩ := gr
  have pw : bin .pow (.int 10) (.int 16) = some (.int 10000000000000000) := by
    show (if (0 : Int) ≤ 16 ∧ (16 : Int) ≤ 1000 ∧ (10 : Int).natAbs < 1000 then some (D.int (10 ^ (16 : Int).toNat)) else none) = _
    rw [if_pos (by decide)]
    rfl
  have ab : blt m .abs [.int gt] = some (.int (if gt < 0 then -gt else gt)) := rfl
  refine ⟨.lst [.int (if gt < 0 ∨ 10000000000000000 ≤ gt then (if gt < 0 then -gt else gt) else 0), .int v', .int 0], ?_, ⟨_, _, _, List.getElem?_concat_length, g0, ⟨v0, v1⟩, Int.le_refl _, by omega⟩⟩
  rw [call_eq at__law_urn rfl]
  have g5 := gr
  simp only [q_ite, q_cmp, q_blt, q_scons, q_snil] at g5
  by_cases q1 : gt < 0
  · simp [b__law_urn, p1, w2, -q_ite, gr]
    simp [q1, pw, ab, alloc]
  · by_cases q2 : 10000000000000000 ≤ gt
    · simp [b__law_urn, p1, w2, -q_ite, gr]
      simp [q1, q2, pw, ab, alloc]
    · simp [b__law_urn, p1, w2, -q_ite, gr]
      simp [q1, q2, pw, ab, alloc]
/-! ### odds -/
abbrev oddsBody : Ss := (.cons (.expr (.app (.var 2) (.call f__law_pick (.cons (.var 0) (.cons (.lst (.cons (.cst (.int 0)) (.cons (.cst (.int 0)) (.cons (.cst (.int 1)) (.cons (.cst (.int 1)) (.cons (.cst (.int 1)) (.cons (.cst (.int 2)) (.cons (.cst (.int 3)) .nil)))))))) .nil))))) .nil)
theorem odds_turns (k n L : Nat) (m0 : Sto) (s : Int) (hn : n < m0.length) (hL : m0.length ≤ L) : ∀ (ds : List D) (ps : List Int) (m : Sto) (c : Nat) (e : Option D), Urn m n c → Chg n m0 m → m[L]? = some (.lst (ps.map .int)) → (∀ p ∈ ps, 0 ≤ p ∧ p ≤ 3) → ps.length + ds.length ≤ 1000 → c + ds.length ≤ 1000000 →
    ∃ (ps' : List Int) (m' : Sto) (e' : Option D), forL (bindT (callP prog (k + 2)) (.name 3)) (runs (callP prog (k + 2)) oddsBody) ds [some (.loc n), some (.int s), some (.loc L), e, none, none] m = .ok (.nx [some (.loc n), some (.int s), some (.loc L), e', none, none]) m' ∧
      Urn m' n (c + ds.length) ∧ Chg n m0 m' ∧ m'[L]? = some (.lst (ps'.map .int)) ∧ (∀ p ∈ ps', 0 ≤ p ∧ p ≤ 3) ∧ ps'.length = ps.length + ds.length
  | [], ps, m, c, e, h1, h2, h3, h4, h5, h6 => ⟨ps, m, e, rfl, h1, h2, h3, h4, rfl⟩
  | d :: ds, ps, m, c, e, h1, h2, h3, h4, h5, h6 => by
    rw [List.length_cons] at h5 h6
    obtain ⟨v, m1, e1, hv, u1, c1⟩ := c_pick k (ds := [.int 0, .int 0, .int 1, .int 1, .int 1, .int 2, .int 3]) h1 (by omega) (by decide) (by decide)
    have hx : ∃ x : Int, v = .int x ∧ 0 ≤ x ∧ x ≤ 3 := by
      simp only [List.mem_cons, List.not_mem_nil, or_false] at hv
      rcases hv with h | h | h | h | h | h | h <;> exact ⟨_, h, by decide, by decide⟩
    obtain ⟨x, rfl, x0, x1⟩ := hx
    have g1 : m1[L]? = some (.lst (ps.map .int)) := (c1.2 L (lt_of_get h3) (by omega)).trans h3
    have a1 := app_loc (d := .int x) g1 (by rw [List.length_map]; unfold lim; omega)
    have e2 : ps.map D.int ++ [D.int x] = (ps ++ [x]).map D.int := by rw [List.map_append]; rfl
    rw [e2] at a1
    have u2 : Urn (m1.set L (.lst ((ps ++ [x]).map .int))) n (c + 1) := u1.chg (Chg.set L m1 _) (by omega)
    obtain ⟨ps', m', e', i1, i2, i3, i4, i5, i6⟩ := odds_turns k n L m0 s hn hL ds (ps ++ [x]) (m1.set L (.lst ((ps ++ [x]).map .int))) (c + 1) (some d) u2 ((h2.trans c1).setNew _ hL) (List.getElem?_set_self (lt_of_get g1)) (fun p hp => by
      rcases List.mem_append.mp hp with hp | hp
      · exact h4 p hp
      · rw [List.mem_singleton.mp hp]
        exact ⟨x0, x1⟩) (by rw [List.length_append, List.length_singleton]; omega) (by omega)
    refine ⟨ps', m', e', ?_, i2.mono (by rw [List.length_cons]; omega), i3, i4, i5, by rw [i6, List.length_append, List.length_singleton, List.length_cons]; omega⟩
    rw [forL]
    simp [-List.map_append, e1, a1, isDic_lst h3]
    exact i1
theorem sum_nonneg : ∀ {ps : List Int}, (∀ p ∈ ps, 0 ≤ p ∧ p ≤ 3) → 0 ≤ ps.sum ∧ ps.sum ≤ 3 * ps.length
  | [], _ => by simp
  | p :: ps, h => by
    have ih := sum_nonneg fun x hx => h x (List.mem_cons_of_mem _ hx)
    have := h p List.mem_cons_self
    rw [List.sum_cons, List.length_cons]
    omega
theorem setIx_nat {α : Type} {xs : List α} {i : Int} {a : α} (h0 : 0 ≤ i) (h1 : i < xs.length) : setIx xs i a = some (xs.set i.toNat a) := by
  unfold setIx
  rw [if_pos h0, if_pos (by omega)]
theorem sum_pos : ∀ {ps : List Int}, (∀ p ∈ ps, 0 ≤ p ∧ p ≤ 3) → ∀ j, j < ps.length → 1 ≤ (ps.set j 1).sum
  | [], _, j, h => by simp at h
  | p :: ps, h, 0, _ => by
    have ih := sum_nonneg fun x hx => h x (List.mem_cons_of_mem _ hx)
    rw [List.set_cons_zero, List.sum_cons]
    omega
  | p :: ps, h, j + 1, hj => by
    have ih := sum_pos (ps := ps) (fun x hx => h x (List.mem_cons_of_mem _ hx)) j (by simpa using hj)
    have := h p List.mem_cons_self
    rw [List.set_cons_succ, List.sum_cons]
    omega
theorem c_odds (k : Nat) {m : Sto} {n c : Nat} {s : Int} (hu : Urn m n c) (hc : c + 1000 ≤ 1000000) (h1 : 1 ≤ s) (h2 : s ≤ 100) : ∃ (ps : List Int) (m' : Sto), callP prog (k + 3) f__law_odds [.loc n, .int s] m = .ok (.tup (ps.map fun p => fr (ratZ p ps.sum))) m' ∧
    (ps.length : Int) = s ∧ (∀ p ∈ ps, 0 ≤ p ∧ p ≤ 3) ∧ 1 ≤ ps.sum ∧ Urn m' n (c + 101) ∧ Chg n m m' := by
  have hn := hu.lt
  have hr : (ranged 0 s).length = s.toNat := by
    unfold ranged
    rw [List.length_map, List.length_range]
    omega
  obtain ⟨ps, m1, e1, t1, u1, c1, g1, b1, l1⟩ := odds_turns k n m.length m s hn (Nat.le_refl _) (ranged 0 s) [] (m ++ [.lst []]) c none (hu.chg (Chg.app m.length m _) (by omega)) (Chg.app n m _) (get_last m _) (fun _ h => by cases h) (by rw [hr, List.length_nil]; omega) (by rw [hr]; omega)
  rw [hr, List.length_nil, Nat.zero_add] at l1
  rw [hr] at u1
  have w1 := for_fix (F := callP prog (k + 2)) (t := .name 3) (b := oddsBody) (rng1 (F := callP prog (k + 2)) (e := .var 1) (env := [some (.loc n), some (.int s), some (.loc m.length), none, none, none]) (m := m ++ [.lst []]) (m1 := m ++ [.lst []]) (j := s) (by simp) (by unfold lim; omega) (by unfold lim; omega))
  rw [t1] at w1
  have s1 := sum_loc g1
  obtain ⟨n0, n1⟩ := sum_nonneg b1
  -- the end, from parts that sum to one or more
  have fin : ∀ (qs : List Int) (m2 : Sto), m2[m.length]? = some (.lst (qs.map .int)) → qs.length = s.toNat → (∀ p ∈ qs, 0 ≤ p ∧ p ≤ 3) → 1 ≤ qs.sum →
      runs (callP prog (k + 2)) (.cons (.asg (.name 4) (.blt .sum (.cons (.var 2) .nil))) (.cons (.ret (.blt .tuple (.cons (.comp (.call f__law_cut (.cons (.var 5) (.cons (.var 4) .nil))) (.name 5) (.seq (.var 2)) (.cst (.bl true))) .nil))) .nil)) [some (.loc n), some (.int s), some (.loc m.length), e1, none, none] m2 = .ok (.rt (.tup (qs.map fun p => fr (ratZ p qs.sum)))) m2 := by
    intro qs m2 g2 l2 b2 p2
    have s2 := sum_loc g2
    obtain ⟨_, n2⟩ := sum_nonneg b2
    have z := ev_mapR (F := callP prog (k + 2)) (elt := .call f__law_cut (.cons (.var 5) (.cons (.var 4) .nil))) (e := .var 2) (i := 5) (n := m.length) (env := [some (.loc n), some (.int s), some (.loc m.length), e1, some (.int qs.sum), none]) (m := m2) (ds := qs.map .int) (fun d => match d with
      | .int p => fr (ratZ p qs.sum)
      | d => d) (by simp) g2 (by rw [List.length_map, l2]; unfold lim; omega) (by simp) fun d hd => by
      obtain ⟨p, _, rfl⟩ := List.mem_map.mp hd
      have := c_cut (k + 1) p qs.sum m2 (by omega) (Bt.mono (a := 20) (by unfold Bt; omega) (by decide))
      simp [this]
    rw [List.map_map] at z
    have e3 : qs.map ((fun d => match d with
      | .int p => fr (ratZ p qs.sum)
      | d => d) ∘ D.int) = qs.map fun p => fr (ratZ p qs.sum) := rfl
    rw [e3] at z
    simp [s2, z]
  by_cases q : ps.sum = 0
  · obtain ⟨v, m2, e2, v0, v1, u2, c2⟩ := c_draw (k + 1) u1 (by omega) h1 (by omega)
    have g2 : m2[m.length]? = some (.lst (ps.map .int)) := (c2.2 m.length (lt_of_get g1) (by omega)).trans g1
    have ss := sub_loc (d := .int 1) g2 (setIx_nat (a := D.int 1) v0 (by rw [List.length_map, l1]; omega))
    have e4 : (ps.map D.int).set v.toNat (.int 1) = (ps.set v.toNat 1).map D.int := by rw [List.map_set]
    rw [e4] at ss
    have f1 := fin (ps.set v.toNat 1) (m2.set m.length (.lst ((ps.set v.toNat 1).map .int))) (List.getElem?_set_self (lt_of_get g2)) (by rw [List.length_set]; exact l1) (fun p hp => by
      rcases List.mem_or_eq_of_mem_set hp with h | h
      · exact b1 p h
      · rw [h]
        decide) (sum_pos b1 v.toNat (by omega))
    refine ⟨ps.set v.toNat 1, m2.set m.length (.lst ((ps.set v.toNat 1).map .int)), ?_, by rw [List.length_set, l1]; omega, fun p hp => ?_, sum_pos b1 v.toNat (by omega), (u2.chg (Chg.set m.length m2 _) (by omega)).mono (by omega), (c1.trans c2).setNew _ (Nat.le_refl _)⟩
    · rw [call_eq at__law_odds rfl]
      have k1 : run (callP prog (k + 2)) (.asg (.name 2) (.new (.lst (.nil)))) [some (.loc n), some (.int s), none, none, none, none] m = .ok (.nx [some (.loc n), some (.int s), some (.loc m.length), none, none, none]) (m ++ [.lst []]) := by simp [alloc_eq]
      have k3 : run (callP prog (k + 2)) (.ifs (.cmp .eq (.blt .sum (.cons (.var 2) .nil)) (.cst (.int 0))) (.cons (.asg (.sub (.var 2) (.call f__law_draw (.cons (.var 0) (.cons (.var 1) .nil)))) (.cst (.int 1))) .nil) (.nil)) [some (.loc n), some (.int s), some (.loc m.length), e1, none, none] m1 = .ok (.nx [some (.loc n), some (.int s), some (.loc m.length), e1, none, none]) (m2.set m.length (.lst ((ps.set v.toNat 1).map .int))) := by simp [s1, q, e2, ss]
      show endR (runs _ b__law_odds [some (.loc n), some (.int s), none, none, none, none] m) = _
      unfold b__law_odds
      rw [runs_step k1, runs_step w1, runs_step k3, f1]
      rfl
    · rcases List.mem_or_eq_of_mem_set hp with h | h
      · exact b1 p h
      · rw [h]
        decide
  · have f1 := fin ps m1 g1 l1 b1 (by omega)
    refine ⟨ps, m1, ?_, by omega, b1, by omega, u1.mono (by omega), c1⟩
    rw [call_eq at__law_odds rfl]
    have k1 : run (callP prog (k + 2)) (.asg (.name 2) (.new (.lst (.nil)))) [some (.loc n), some (.int s), none, none, none, none] m = .ok (.nx [some (.loc n), some (.int s), some (.loc m.length), none, none, none]) (m ++ [.lst []]) := by simp [alloc_eq]
    have k3 : run (callP prog (k + 2)) (.ifs (.cmp .eq (.blt .sum (.cons (.var 2) .nil)) (.cst (.int 0))) (.cons (.asg (.sub (.var 2) (.call f__law_draw (.cons (.var 0) (.cons (.var 1) .nil)))) (.cst (.int 1))) .nil) (.nil)) [some (.loc n), some (.int s), some (.loc m.length), e1, none, none] m1 = .ok (.nx [some (.loc n), some (.int s), some (.loc m.length), e1, none, none]) m1 := by simp [s1, q]
    show endR (runs _ b__law_odds [some (.loc n), some (.int s), none, none, none, none] m) = _
    unfold b__law_odds
    rw [runs_step k1, runs_step w1, runs_step k3, f1]
    rfl
end K79


set_option Elab.async false
set_option linter.all false
set_option maxRecDepth 100000
/-! K79D: halls that the law draws are houses. -/
namespace K79
open Dh
/-- small things: ints of ten bits -/
abbrev Sq (d : D) : Prop := Bd (2 ^ 10) 100 d
abbrev Sqs (ds : List D) : Prop := Bds (2 ^ 10) 100 ds
theorem Sqs.of {ds : List D} (h : ∀ d ∈ ds, Sq d) : Sqs ds := Bds.of h
theorem Sqs.all {ds : List D} (h : Sqs ds) : ∀ d ∈ ds, Sq d := Bds.all h
theorem Sq.sm {d : D} (h : Sq d) : Sm d := Bd.mono (Nat.pow_le_pow_right (by decide) (by decide)) (Nat.le_refl _) h
/-- ratZ: the same ratio, in lowest terms -/
theorem ratZ_facts {t l : Int} (hl : 0 < l) : ∃ g : Int, 0 < g ∧ t = g * (ratZ t l).1 ∧ l = g * (ratZ t l).2 ∧ 0 < (ratZ t l).2 ∧ Nat.gcd (ratZ t l).1.natAbs (ratZ t l).2.natAbs = 1 := by
  have g2 : (0 : Int) < (Nat.gcd t.natAbs l.natAbs : Nat) := (gcd_pos hl).elim (·.1) id
  have d1 : ((Nat.gcd t.natAbs l.natAbs : Nat) : Int) ∣ t := Int.ofNat_dvd_left.mpr (Nat.gcd_dvd_left _ _)
  have d2 : ((Nat.gcd t.natAbs l.natAbs : Nat) : Int) ∣ l := Int.ofNat_dvd_left.mpr (Nat.gcd_dvd_right _ _)
  have e1 := (Int.mul_ediv_cancel' d1).symm
  have e2 := (Int.mul_ediv_cancel' d2).symm
  have p2 := Int.ediv_pos_of_pos_of_dvd hl (Int.le_of_lt g2) d2
  refine ⟨(Nat.gcd t.natAbs l.natAbs : Nat), g2, e1, e2, p2, ?_⟩
  show Nat.gcd (t / (Nat.gcd t.natAbs l.natAbs : Nat)).natAbs (l / (Nat.gcd t.natAbs l.natAbs : Nat)).natAbs = 1
  have h1 : (t / (Nat.gcd t.natAbs l.natAbs : Nat)).natAbs = t.natAbs / Nat.gcd t.natAbs l.natAbs := by
    rw [Int.natAbs_ediv_of_dvd d1, Int.natAbs_natCast]
  have h2 : (l / (Nat.gcd t.natAbs l.natAbs : Nat)).natAbs = l.natAbs / Nat.gcd t.natAbs l.natAbs := by
    rw [Int.natAbs_ediv_of_dvd d2, Int.natAbs_natCast]
  rw [h1, h2]
  exact Nat.coprime_div_gcd_div_gcd (by omega)
/-- a fraction that tells T of W -/
def Rep (W T : Int) (p : Int × Int) : Prop := 0 < p.2 ∧ p.1 * W = T * p.2 ∧ Nat.gcd p.1.natAbs p.2.natAbs = 1
theorem rep_ratZ {p W : Int} (hW : 0 < W) : Rep W p (ratZ p W) := by
  obtain ⟨g, g0, e1, e2, h1, h2⟩ := ratZ_facts (t := p) hW
  refine ⟨h1, ?_, h2⟩
  generalize (ratZ p W).1 = a at *
  generalize (ratZ p W).2 = b at *
  rw [e1, e2]
  rw [← Int.mul_assoc, Int.mul_comm a g]
theorem rep_plus {W T p : Int} {x y : Int × Int} (hx : Rep W T x) (hy : Rep W p y) : Rep W (T + p) (plusZ x y) := by
  obtain ⟨x0, x1, _⟩ := hx
  obtain ⟨y0, y1, _⟩ := hy
  have hl : 0 < x.2 * y.2 := Int.mul_pos x0 y0
  obtain ⟨g, g0, e1, e2, h1, h2⟩ := ratZ_facts (t := x.1 * y.2 + y.1 * x.2) hl
  refine ⟨h1, ?_, h2⟩
  show (ratZ (x.1 * y.2 + y.1 * x.2) (x.2 * y.2)).1 * W = (T + p) * (ratZ (x.1 * y.2 + y.1 * x.2) (x.2 * y.2)).2
  generalize (ratZ (x.1 * y.2 + y.1 * x.2) (x.2 * y.2)).1 = a at *
  generalize (ratZ (x.1 * y.2 + y.1 * x.2) (x.2 * y.2)).2 = b at *
  have k1 : (x.1 * y.2 + y.1 * x.2) * W = (T + p) * (x.2 * y.2) := by
    have a1 : x.1 * y.2 * W = T * (x.2 * y.2) := by
      rw [Int.mul_assoc, Int.mul_comm y.2 W, ← Int.mul_assoc, x1, Int.mul_assoc]
    have a2 : y.1 * x.2 * W = p * (x.2 * y.2) := by
      rw [Int.mul_assoc, Int.mul_comm x.2 W, ← Int.mul_assoc, y1, Int.mul_assoc, Int.mul_comm y.2 x.2]
    rw [Int.add_mul, Int.add_mul, a1, a2]
  rw [e1, e2] at k1
  have k2 : g * (a * W) = g * ((T + p) * b) := by
    rw [← Int.mul_assoc, k1, ← Int.mul_assoc, ← Int.mul_assoc, Int.mul_comm (T + p) g]
  exact Int.eq_of_mul_eq_mul_left (by omega) k2
theorem rep_total {W : Int} (hW : 0 < W) : ∀ (ps : List Int) (T : Int) (x : Int × Int), Rep W T x → Rep W (T + ps.sum) ((ps.map fun p => ratZ p W).foldl plusZ x)
  | [], T, x, h => by
    rw [List.sum_nil, Int.add_zero]
    exact h
  | p :: ps, T, x, h => by
    rw [List.map_cons, List.foldl_cons, List.sum_cons, ← Int.add_assoc]
    exact rep_total hW ps (T + p) _ (rep_plus h (rep_ratZ hW))
theorem rep_one {W : Int} (hW : 0 < W) {x : Int × Int} (h : Rep W W x) : x = (1, 1) := by
  obtain ⟨h0, h1, h2⟩ := h
  have e : x.1 = x.2 := by
    rw [Int.mul_comm] at h1
    exact Int.eq_of_mul_eq_mul_left (by omega) h1
  have e2 : x.2.natAbs = 1 := by
    rw [e, Nat.gcd_self] at h2
    exact h2
  have e3 : x.2 = 1 := by omega
  exact Prod.ext (e.trans e3) e3
/-- chances of parts that sum to one or more add up to one -/
theorem tot_one {ps : List Int} (h : 1 ≤ ps.sum) : totZ (ps.map fun p => ratZ p ps.sum) = (1, 1) := by
  have z := rep_total (W := ps.sum) (by omega) ps 0 (0, 1) ⟨by decide, by simp, rfl⟩
  rw [Int.zero_add] at z
  exact rep_one (by omega) z
theorem sum_filter : ∀ {ps : List Int}, (∀ p ∈ ps, 0 ≤ p) → (ps.filter fun p => decide (0 < p)).sum = ps.sum
  | [], _ => rfl
  | p :: ps, h => by
    have ih := sum_filter (ps := ps) fun x hx => h x (List.mem_cons_of_mem _ hx)
    have hp := h p List.mem_cons_self
    rw [List.filter_cons]
    by_cases q : 0 < p
    · rw [decide_eq_true q, if_pos rfl, List.sum_cons, List.sum_cons, ih]
    · rw [decide_eq_false q, if_neg (by decide), ih, List.sum_cons]
      omega
theorem ratZ_pos {p W : Int} (hW : 0 < W) (hp : 0 ≤ p) : (0 < (ratZ p W).1 ↔ 0 < p) ∧ 0 ≤ (ratZ p W).1 := by
  obtain ⟨g, g0, e1, _⟩ := ratZ_facts (t := p) hW
  have key : ∀ a : Int, p = g * a → ((0 < a ↔ 0 < p) ∧ 0 ≤ a) := by
    intro a e
    have h3 : 0 ≤ a := by
      by_cases q : 0 ≤ a
      · exact q
      · exfalso
        have := Int.mul_neg_of_pos_of_neg g0 (show a < 0 by omega)
        omega
    refine ⟨⟨fun h => by rw [e]; exact Int.mul_pos g0 h, fun h => ?_⟩, h3⟩
    by_cases q : 0 < a
    · exact q
    · have : a = 0 := by omega
      rw [this, Int.mul_zero] at e
      omega
  exact key _ e1
/-! ### gains -/
/-- all as it was but at P, and what is new -/
def ChgP (P : Nat → Prop) (m m' : Sto) : Prop := m.length ≤ m'.length ∧ ∀ i, i < m.length → ¬ P i → m'[i]? = m[i]?
theorem ChgP.refl (P : Nat → Prop) (m : Sto) : ChgP P m m := ⟨Nat.le_refl _, fun _ _ _ => rfl⟩
theorem ChgP.trans {P : Nat → Prop} {a b c : Sto} (h : ChgP P a b) (g : ChgP P b c) : ChgP P a c :=
  ⟨Nat.le_trans h.1 g.1, fun i hi hn => (g.2 i (Nat.lt_of_lt_of_le hi h.1) hn).trans (h.2 i hi hn)⟩
theorem ChgP.of {P : Nat → Prop} {n : Nat} {a b : Sto} (h : Chg n a b) (hp : P n) : ChgP P a b := ⟨h.1, fun i hi hn => h.2 i hi fun e => hn (by rw [e]; exact hp)⟩
theorem ChgP.imp {P Q : Nat → Prop} {a b : Sto} (h : ChgP P a b) (hq : ∀ i, i < a.length → P i → Q i) : ChgP Q a b := ⟨h.1, fun i hi hn => h.2 i hi fun p => hn (hq i hi p)⟩
/-- a small fraction in lowest terms -/
def Good (g : Int × Int) : Prop := ratB (fr g) = true ∧ g.1.natAbs ≤ 10 ∧ g.2.natAbs ≤ 30
theorem ratZ_ratB {t l : Int} (hl : 0 < l) : ratB (fr (ratZ t l)) = true := by
  obtain ⟨g, g0, _, _, h1, h2⟩ := ratZ_facts (t := t) hl
  show (decide (0 < (ratZ t l).2) && decide (Nat.gcd (ratZ t l).1.natAbs (ratZ t l).2.natAbs = 1)) = true
  rw [decide_eq_true h1, decide_eq_true h2]
  rfl
theorem ratZ_good {t l : Int} (hl : 0 < l) (h1 : t.natAbs ≤ 10) (h2 : l.natAbs ≤ 30) : Good (ratZ t l) :=
  ⟨ratZ_ratB hl, Nat.le_trans (Int.natAbs_ediv_le_natAbs _ _) h1, Nat.le_trans (Int.natAbs_ediv_le_natAbs _ _) h2⟩
abbrev gainBody : Ss := (.cons (.expr (.app (.var 10) (.call f__law_cut (.cons (.bin .sub (.call f__law_draw (.cons (.var 0) (.cons (.cst (.int 11)) .nil))) (.cst (.int 4))) (.cons (.call f__law_pick (.cons (.var 0) (.cons (.lst (.cons (.cst (.int 1)) (.cons (.cst (.int 1)) (.cons (.cst (.int 2)) .nil)))) .nil))) .nil))))) .nil)
theorem gain_turns (k n G : Nat) (hG : n ≠ G) (e1 e2 e3 e4 e5 e6 e7 e9 e11 : Option D) : ∀ (ds : List D) (gs : List (Int × Int)) (m : Sto) (c : Nat) (e : Option D), Urn m n c → m[G]? = some (.lst (gs.map fr)) → (∀ g ∈ gs, Good g) → gs.length + ds.length ≤ 1000 → c + 2 * ds.length ≤ 1000000 →
    ∃ (gs' : List (Int × Int)) (m' : Sto) (e' : Option D), forL (bindT (callP prog (k + 2)) (.name 8)) (runs (callP prog (k + 2)) gainBody) ds [some (.loc n), e1, e2, e3, e4, e5, e6, e7, e, e9, some (.loc G), e11] m = .ok (.nx [some (.loc n), e1, e2, e3, e4, e5, e6, e7, e', e9, some (.loc G), e11]) m' ∧
      Urn m' n (c + 2 * ds.length) ∧ ChgP (fun i => i = n ∨ i = G) m m' ∧ m'[G]? = some (.lst (gs'.map fr)) ∧ (∀ g ∈ gs', Good g) ∧ gs'.length = gs.length + ds.length
  | [], gs, m, c, e, h1, h2, h3, h4, h5 => ⟨gs, m, e, rfl, h1, ChgP.refl _ _, h2, h3, rfl⟩
  | d :: ds, gs, m, c, e, h1, h2, h3, h4, h5 => by
    rw [List.length_cons] at h4 h5
    obtain ⟨v, m1, q1, v0, v1, u1, c1⟩ := c_draw (k + 1) (s := 11) h1 (by omega) (by decide) (by decide)
    obtain ⟨w, m2, q2, hw, u2, c2⟩ := c_pick k (ds := [.int 1, .int 1, .int 2]) u1 (by omega) (by decide) (by decide)
    have hx : ∃ x : Int, w = .int x ∧ 1 ≤ x ∧ x ≤ 2 := by
      simp only [List.mem_cons, List.not_mem_nil, or_false] at hw
      rcases hw with h | h | h <;> exact ⟨_, h, by decide, by decide⟩
    obtain ⟨x, rfl, x0, x1⟩ := hx
    have q3 := c_cut (k + 1) (v - 4) x m2 (by omega) (Bt.mono (a := 10) (by unfold Bt; omega) (by decide))
    have g2 : m2[G]? = some (.lst (gs.map fr)) := (c2.2 G (Nat.lt_of_lt_of_le (lt_of_get h2) c1.1) (Ne.symm hG)).trans ((c1.2 G (lt_of_get h2) (Ne.symm hG)).trans h2)
    have a1 := app_loc (d := fr (ratZ (v - 4) x)) g2 (by rw [List.length_map]; unfold lim; omega)
    have e0 : gs.map fr ++ [fr (ratZ (v - 4) x)] = (gs ++ [ratZ (v - 4) x]).map fr := by rw [List.map_append]; rfl
    rw [e0] at a1
    obtain ⟨gs', m', e', i1, i2, i3, i4, i5, i6⟩ := gain_turns k n G hG e1 e2 e3 e4 e5 e6 e7 e9 e11 ds (gs ++ [ratZ (v - 4) x]) (m2.set G (.lst ((gs ++ [ratZ (v - 4) x]).map fr))) (c + 2) (some d) ((u2.chg (Chg.set G m2 _) hG).mono (by omega)) (List.getElem?_set_self (lt_of_get g2)) (fun g hg => by
      rcases List.mem_append.mp hg with hg | hg
      · exact h3 g hg
      · rw [List.mem_singleton.mp hg]
        exact ratZ_good (by omega) (by omega) (by omega)) (by rw [List.length_append, List.length_singleton]; omega) (by omega)
    refine ⟨gs', m', e', ?_, i2.mono (by rw [List.length_cons]; omega), ?_, i4, i5, by rw [i6, List.length_append, List.length_singleton, List.length_cons]; omega⟩
    · rw [forL]
      simp only [fr] at q3 a1 i1
      simp [-List.map_append, q1, q2, q3, a1, isDic_lst h2]
      exact i1
    · exact (((ChgP.of c1 (.inl rfl)).trans (ChgP.of c2 (.inl rfl))).trans (ChgP.of (Chg.set G m2 _) (.inr rfl))).trans i3
/-! ### chances from parts -/
def chsOf (W : Int) : Nat → List Int → List D
  | _, [] => []
  | j, p :: ps => if 0 < p then .tup [.int j, fr (ratZ p W)] :: chsOf W (j + 1) ps else chsOf W (j + 1) ps
theorem chs_range (W : Int) : ∀ (ps : List Int) (j : Nat) (f : Nat → Option D), (∀ i p, ps[i]? = some p → f (j + i) = if 0 < p then some (.tup [.int (j + i : Nat), fr (ratZ p W)]) else none) → (List.range' j ps.length).filterMap f = chsOf W j ps
  | [], j, f, _ => rfl
  | p :: ps, j, f, h => by
    rw [List.length_cons, List.range'_succ, List.filterMap_cons, chsOf]
    have h0 := h 0 p rfl
    rw [Nat.add_zero] at h0
    have ih := chs_range W ps (j + 1) f fun i q hq => by
      have := h (i + 1) q (by simpa using hq)
      have e : j + (i + 1) = j + 1 + i := by omega
      rw [e] at this
      exact this
    rw [ih, h0]
    by_cases q : 0 < p
    · rw [if_pos q, if_pos q]
    · rw [if_neg q, if_neg q]
theorem chs_ok {W s : Int} (hW : 0 < W) : ∀ (ps : List Int) (j : Nat), (j : Int) + ps.length ≤ s → ∀ d ∈ chsOf W j ps, chOk s d = true ∧ (j : Int) ≤ stI d
  | [], j, _, d, h => by cases h
  | p :: ps, j, hs, d, h => by
    rw [List.length_cons] at hs
    rw [chsOf] at h
    have ih := chs_ok (s := s) hW ps (j + 1) (by omega)
    by_cases q : 0 < p
    · rw [if_pos q] at h
      rcases List.mem_cons.mp h with e | h
      · rw [e]
        refine ⟨?_, Int.le_refl _⟩
        show ((decide ((0 : Int) ≤ (j : Int)) && decide ((j : Int) ≤ s - 1)) && (ratB (fr (ratZ p W)) && decide (0 < (ratZ p W).1))) = true
        rw [decide_eq_true (show (0 : Int) ≤ (j : Int) by omega), decide_eq_true (show (j : Int) ≤ s - 1 by omega), ratZ_ratB hW, decide_eq_true ((ratZ_pos hW (by omega)).1.mpr q)]
        rfl
      · obtain ⟨a, b⟩ := ih d h
        exact ⟨a, by omega⟩
    · rw [if_neg q] at h
      obtain ⟨a, b⟩ := ih d h
      exact ⟨a, by omega⟩
theorem asc_cons {x : Int} {l : List Int} (h : ascB l = true) (hx : ∀ y ∈ l, x < y) : ascB (x :: l) = true := by
  cases l with
  | nil => rfl
  | cons y l =>
    show (decide (x < y) && ((y :: l).zip ((y :: l).drop 1)).all fun p => decide (p.1 < p.2)) = true
    rw [decide_eq_true (hx y List.mem_cons_self)]
    exact h
theorem chs_asc {W s : Int} (hW : 0 < W) : ∀ (ps : List Int) (j : Nat), (j : Int) + ps.length ≤ s → ascB ((chsOf W j ps).map stI) = true
  | [], j, _ => rfl
  | p :: ps, j, hs => by
    rw [List.length_cons] at hs
    have ih := chs_asc (s := s) hW ps (j + 1) (by omega)
    rw [chsOf]
    by_cases q : 0 < p
    · rw [if_pos q, List.map_cons]
      refine asc_cons ih fun y hy => ?_
      obtain ⟨d, hd, rfl⟩ := List.mem_map.mp hy
      have := (chs_ok (s := s) hW ps (j + 1) (by omega) d hd).2
      show (j : Int) < stI d
      omega
    · rw [if_neg q]
      exact ih
theorem chs_fr (W : Int) : ∀ (ps : List Int) (j : Nat), (chsOf W j ps).map frI = (ps.filter fun p => decide (0 < p)).map fun p => ratZ p W
  | [], j => rfl
  | p :: ps, j => by
    rw [chsOf, List.filter_cons]
    by_cases q : 0 < p
    · rw [if_pos q, decide_eq_true q, if_pos rfl, List.map_cons, List.map_cons, chs_fr W ps (j + 1)]
      rfl
    · rw [if_neg q, decide_eq_false q, if_neg (by decide)]
      exact chs_fr W ps (j + 1)
theorem chs_chB {ps : List Int} {s : Int} (hs : (ps.length : Int) = s) (h0 : ∀ p ∈ ps, 0 ≤ p) (h1 : 1 ≤ ps.sum) : chB (.tup (chsOf ps.sum 0 ps)) s = true := by
  have hW : 0 < ps.sum := by omega
  show ((chsOf ps.sum 0 ps).all (chOk s) && (ascB ((chsOf ps.sum 0 ps).map stI) && decide (totZ ((chsOf ps.sum 0 ps).map frI) = (1, 1)))) = true
  rw [List.all_eq_true.mpr fun d hd => (chs_ok (s := s) hW ps 0 (by omega) d hd).1, chs_asc (s := s) hW ps 0 (by omega), chs_fr]
  have e := sum_filter h0
  have z := tot_one (ps := ps.filter fun p => decide (0 < p)) (by omega)
  rw [e] at z
  rw [z]
  rfl
theorem chs_sz {W : Int} (hW : 0 < W) (hW2 : W ≤ 30) : ∀ (ps : List Int) (j : Nat), (∀ p ∈ ps, 0 ≤ p ∧ p ≤ 3) → j + ps.length ≤ 1000 → (chsOf W j ps).length ≤ ps.length ∧ Sqs (chsOf W j ps)
  | [], j, _, _ => ⟨Nat.le_refl _, trivial⟩
  | p :: ps, j, h, hl => by
    rw [List.length_cons] at hl
    have ih := chs_sz hW hW2 ps (j + 1) (fun x hx => h x (List.mem_cons_of_mem _ hx)) (by omega)
    have hp := h p List.mem_cons_self
    obtain ⟨_, g1, g2⟩ := ratZ_good (t := p) hW (by omega) (by omega)
    rw [chsOf]
    by_cases q : 0 < p
    · rw [if_pos q]
      refine ⟨by rw [List.length_cons, List.length_cons]; omega, ⟨by simp, ?_, ⟨by simp, ?_, ?_, trivial⟩, trivial⟩, ih.2⟩
      · show (j : Int).natAbs < 2 ^ 10
        exact Nat.lt_of_lt_of_le (show (j : Int).natAbs < 1024 by omega) (by decide)
      · show (ratZ p W).1.natAbs < 2 ^ 10
        exact Nat.lt_of_le_of_lt g1 (by decide)
      · show (ratZ p W).2.natAbs < 2 ^ 10
        exact Nat.lt_of_le_of_lt g2 (by decide)
    · rw [if_neg q]
      exact ⟨by rw [List.length_cons]; omega, ih.2⟩
/-! ### acts -/
abbrev chComp : E := .comp (.tup (.cons (.var 11) (.cons (.idx (.var 9) (.var 11)) .nil))) (.name 11) (.range (.cons (.var 4) .nil)) (.cmp .gt (.idx (.idx (.var 9) (.var 11)) (.cst (.int 0))) (.cst (.int 0)))
theorem ch_comp (F : Fn) (m : Sto) (ps : List Int) (s : Int) (hs : (ps.length : Int) = s) (h8 : s ≤ 100) (h0 : ∀ p ∈ ps, 0 ≤ p) (h1 : 1 ≤ ps.sum) (e0 e1 e2 e3 e5 e6 e7 e8 e10 e11 : Option D) :
    ev F chComp [e0, e1, e2, e3, some (.int s), e5, e6, e7, e8, some (.tup (ps.map fun p => fr (ratZ p ps.sum))), e10, e11] m = .ok (.lst (chsOf ps.sum 0 ps)) m := by
  have hW : 0 < ps.sum := by omega
  have z := ev_comp (F := F) (elt := .tup (.cons (.var 11) (.cons (.idx (.var 9) (.var 11)) .nil))) (t := .name 11) (it := .range (.cons (.var 4) .nil)) (c := .cmp .gt (.idx (.idx (.var 9) (.var 11)) (.cst (.int 0))) (.cst (.int 0))) (env := [e0, e1, e2, e3, some (.int s), e5, e6, e7, e8, some (.tup (ps.map fun p => fr (ratZ p ps.sum))), e10, e11]) (m := m) (ds := ranged 0 s)
    (fun d => match d with
      | .int i => (match ps[i.toNat]? with
        | some p => if 0 < p then some (.tup [.int i, fr (ratZ p ps.sum)]) else none
        | none => none)
      | _ => none) (rng1 (by simp) (by unfold lim; omega) (by unfold lim; omega)) (by unfold ranged; rw [List.length_map, List.length_range]; unfold lim; omega) fun d hd => by
    unfold ranged at hd
    obtain ⟨i, hi, rfl⟩ := List.mem_map.mp hd
    have hi' : i < ps.length := by
      have := List.mem_range.mp hi
      omega
    have b1 : ps[i]? = some ps[i] := List.getElem?_eq_getElem hi'
    have hp := h0 ps[i] (List.getElem_mem hi')
    have a1 : atIx (ps.map fun p => fr (ratZ p ps.sum)) ((i : Nat) : Int) = some (fr (ratZ ps[i] ps.sum)) := by
      unfold atIx
      rw [if_pos (by omega)]
      simp [hi']
    have k1 := (ratZ_pos (W := ps.sum) (p := ps[i]) hW hp).1
    refine ⟨[e0, e1, e2, e3, some (.int s), e5, e6, e7, e8, some (.tup (ps.map fun p => fr (ratZ p ps.sum))), e10, some (.int (0 + (i : Nat)))], decide (0 < ps[i]), by simp, ?_, fun q => ⟨.tup [.int (0 + (i : Nat)), fr (ratZ ps[i] ps.sum)], ?_, ?_⟩, fun q => ?_⟩
    · simp only [fr] at a1
      simp [a1, k1]
    · simp only [fr] at a1
      simp [a1]
    · have q := of_decide_eq_true q
      simp [b1, q]
    · have q := of_decide_eq_false q
      simp [b1, q]
  have e : (ranged 0 s).filterMap (fun d => match d with
      | .int i => (match ps[i.toNat]? with
        | some p => if 0 < p then some (D.tup [.int i, fr (ratZ p ps.sum)]) else none
        | none => none)
      | _ => none) = chsOf ps.sum 0 ps := by
    unfold ranged
    rw [List.filterMap_map]
    have el : (s - 0).toNat = ps.length := by omega
    rw [el, List.range_eq_range']
    refine chs_range ps.sum ps 0 _ fun i p hp => ?_
    have e3 : ((0 : Int) + ((0 + i : Nat) : Int)).toNat = i := by omega
    have e4 : (0 : Int) + ((0 + i : Nat) : Int) = ((0 + i : Nat) : Int) := by omega
    show (match ps[((0 : Int) + ((0 + i : Nat) : Int)).toNat]? with
        | some p => if 0 < p then some (D.tup [.int ((0 : Int) + ((0 + i : Nat) : Int)), fr (ratZ p ps.sum)]) else none
        | none => none) = _
    rw [e3, hp, e4]
  rw [e] at z
  exact z
theorem gains_row {gs : List (Int × Int)} (h : ∀ g ∈ gs, Good g) : rowB (.tup (gs.map fr)) gs.length = true := by
  show (decide (((gs.map fr).length : Int) = gs.length) && (gs.map fr).all ratB) = true
  rw [List.length_map, decide_eq_true rfl, List.all_eq_true.mpr fun d hd => by
    obtain ⟨g, hg, rfl⟩ := List.mem_map.mp hd
    exact (h g hg).1]
  rfl
theorem gains_sz {gs : List (Int × Int)} (h : ∀ g ∈ gs, Good g) (hl : gs.length ≤ 100) : Sq (.tup (gs.map fr)) :=
  ⟨by rw [List.length_map]; exact hl, Sqs.of fun d hd => by
    obtain ⟨g, hg, rfl⟩ := List.mem_map.mp hd
    obtain ⟨_, g1, g2⟩ := h g hg
    exact ⟨by simp, Nat.lt_of_le_of_lt g1 (by decide), Nat.lt_of_le_of_lt g2 (by decide), trivial⟩⟩
abbrev actGen : Ss := (.cons (.asg (.tup (.cons (.name 9) (.cons (.name 10) .nil))) (.tup (.cons (.call f__law_odds (.cons (.var 0) (.cons (.var 4) .nil))) (.cons (.new (.lst (.nil))) .nil)))) (.cons (.fors (.name 8) (.range (.cons (.var 2) .nil)) gainBody) (.cons (.expr (.app (.var 6) (.tup (.cons (.blt .tuple (.cons chComp .nil)) (.cons (.blt .tuple (.cons (.var 10) .nil)) .nil))))) .nil)))
theorem actgen_turns (k n A : Nat) (hA : n ≠ A) (s p : Int) (s1 : 1 ≤ s) (s8 : s ≤ 8) (p1 : 1 ≤ p) (p4 : p ≤ 4) (e1 e3 e5 e11 : Option D) : ∀ (ds as : List D) (m : Sto) (c : Nat) (e7 e8 e9 e10 : Option D), Urn m n c → m[A]? = some (.lst as) → (∀ a ∈ as, deedB p s a = true ∧ Sq a) → as.length + ds.length ≤ 1000 → c + 2000 + 300 * ds.length ≤ 1000000 →
    ∃ (as' : List D) (m' : Sto) (e7' e8' e9' e10' : Option D), forL (bindT (callP prog (k + 3)) (.name 7)) (runs (callP prog (k + 3)) actGen) ds [some (.loc n), e1, some (.int p), e3, some (.int s), e5, some (.loc A), e7, e8, e9, e10, e11] m = .ok (.nx [some (.loc n), e1, some (.int p), e3, some (.int s), e5, some (.loc A), e7', e8', e9', e10', e11]) m' ∧
      Urn m' n (c + 300 * ds.length) ∧ ChgP (fun i => i = n ∨ i = A) m m' ∧ m'[A]? = some (.lst as') ∧ (∀ a ∈ as', deedB p s a = true ∧ Sq a) ∧ as'.length = as.length + ds.length
  | [], as, m, c, e7, e8, e9, e10, h1, h2, h3, h4, h5 => ⟨as, m, e7, e8, e9, e10, rfl, h1, ChgP.refl _ _, h2, h3, rfl⟩
  | d :: ds, as, m, c, e7, e8, e9, e10, h1, h2, h3, h4, h5 => by
    rw [List.length_cons] at h4 h5
    have hAl := lt_of_get h2
    obtain ⟨ps, m1, q1, lp, bp, sp, u1, c1⟩ := c_odds k h1 (by omega) s1 (by omega)
    have g1 : m1[A]? = some (.lst as) := (c1.2 A hAl (Ne.symm hA)).trans h2
    have n1 := u1.lt
    have hG : n ≠ m1.length := by omega
    have rl : (ranged 0 p).length = p.toNat := by
      unfold ranged
      rw [List.length_map, List.length_range]
      omega
    obtain ⟨gs, m3, e8', t3, u3, c3, g3, b3, l3⟩ := gain_turns (k + 1) n m1.length hG e1 (some (.int p)) e3 (some (.int s)) e5 (some (.loc A)) (some d) (some (.tup (ps.map fun p => fr (ratZ p ps.sum)))) e11 (ranged 0 p) [] (m1 ++ [.lst []]) (c + 101) e8 (u1.chg (Chg.app m1.length m1 _) hG) (get_last m1 _) (fun _ h => by cases h) (by rw [rl]; simp; omega) (by rw [rl]; omega)
    rw [rl, List.length_nil, Nat.zero_add] at l3
    rw [rl] at u3
    have w3 := for_fix (F := callP prog (k + 3)) (t := .name 8) (b := gainBody) (rng1 (F := callP prog (k + 3)) (e := .var 2) (env := [some (.loc n), e1, some (.int p), e3, some (.int s), e5, some (.loc A), some d, e8, some (.tup (ps.map fun p => fr (ratZ p ps.sum))), some (.loc m1.length), e11]) (m := m1 ++ [.lst []]) (m1 := m1 ++ [.lst []]) (j := p) (by simp) (by unfold lim; omega) (by unfold lim; omega))
    rw [t3] at w3
    have gA : m3[A]? = some (.lst as) := by
      have hA1 : A < m1.length := lt_of_get g1
      rw [c3.2 A (by rw [List.length_append]; simp; omega) (by intro h; rcases h with h | h <;> omega), List.getElem?_append_left hA1]
      exact g1
    have z4 := ch_comp (callP prog (k + 3)) m3 ps s lp (by omega) (fun p hp => (bp p hp).1) sp (some (.loc n)) e1 (some (.int p)) e3 e5 (some (.loc A)) (some d) e8' (some (.loc m1.length)) e11
    have t4 := tuple_loc g3
    have act_ok : deedB p s (.tup [.tup (chsOf ps.sum 0 ps), .tup (gs.map fr)]) = true := by
      show (chB (.tup (chsOf ps.sum 0 ps)) s && rowB (.tup (gs.map fr)) p) = true
      have r := gains_row b3
      rw [l3] at r
      have ep : ((p.toNat : Nat) : Int) = p := by omega
      rw [ep] at r
      rw [chs_chB lp (fun p hp => (bp p hp).1) sp, r]
      rfl
    have smax := (sum_nonneg bp).2
    have sz := chs_sz (W := ps.sum) (by omega) (by omega) ps 0 bp (by omega)
    have act_sz : Sq (.tup [.tup (chsOf ps.sum 0 ps), .tup (gs.map fr)]) := ⟨by simp, ⟨by omega, sz.2⟩, gains_sz b3 (by omega), trivial⟩
    have a1 := app_loc (d := .tup [.tup (chsOf ps.sum 0 ps), .tup (gs.map fr)]) gA (by unfold lim; omega)
    obtain ⟨as', m', e7', e8'', e9', e10', i1, i2, i3, i4, i5, i6⟩ := actgen_turns k n A hA s p s1 s8 p1 p4 e1 e3 e5 e11 ds (as ++ [.tup [.tup (chsOf ps.sum 0 ps), .tup (gs.map fr)]]) (m3.set A (.lst (as ++ [.tup [.tup (chsOf ps.sum 0 ps), .tup (gs.map fr)]]))) (c + 300) (some d) e8' (some (.tup (ps.map fun p => fr (ratZ p ps.sum)))) (some (.loc m1.length))
      ((u3.chg (Chg.set A m3 _) hA).mono (by omega)) (List.getElem?_set_self (lt_of_get gA)) (fun a ha => by
        rcases List.mem_append.mp ha with ha | ha
        · exact h3 a ha
        · rw [List.mem_singleton.mp ha]
          exact ⟨act_ok, act_sz⟩) (by rw [List.length_append, List.length_singleton]; omega) (by omega)
    refine ⟨as', m', e7', e8'', e9', e10', ?_, i2.mono (by rw [List.length_cons]; omega), ?_, i4, i5, by rw [i6, List.length_append, List.length_singleton, List.length_cons]; omega⟩
    · have k1 : run (callP prog (k + 3)) (.asg (.tup (.cons (.name 9) (.cons (.name 10) .nil))) (.tup (.cons (.call f__law_odds (.cons (.var 0) (.cons (.var 4) .nil))) (.cons (.new (.lst (.nil))) .nil)))) [some (.loc n), e1, some (.int p), e3, some (.int s), e5, some (.loc A), some d, e8, e9, e10, e11] m = .ok (.nx [some (.loc n), e1, some (.int p), e3, some (.int s), e5, some (.loc A), some d, e8, some (.tup (ps.map fun p => fr (ratZ p ps.sum))), some (.loc m1.length), e11]) (m1 ++ [.lst []]) := by
        simp only [fr] at q1
        simp [q1, alloc_eq]
      have k3 : run (callP prog (k + 3)) (.expr (.app (.var 6) (.tup (.cons (.blt .tuple (.cons chComp .nil)) (.cons (.blt .tuple (.cons (.var 10) .nil)) .nil))))) [some (.loc n), e1, some (.int p), e3, some (.int s), e5, some (.loc A), some d, e8', some (.tup (ps.map fun p => fr (ratZ p ps.sum))), some (.loc m1.length), e11] m3 = .ok (.nx [some (.loc n), e1, some (.int p), e3, some (.int s), e5, some (.loc A), some d, e8', some (.tup (ps.map fun p => fr (ratZ p ps.sum))), some (.loc m1.length), e11]) (m3.set A (.lst (as ++ [.tup [.tup (chsOf ps.sum 0 ps), .tup (gs.map fr)]]))) := by
        simp [z4, t4, a1, isDic_lst gA]
      rw [forL]
      have kb : bindT (callP prog (k + 3)) (.name 7) d [some (.loc n), e1, some (.int p), e3, some (.int s), e5, some (.loc A), e7, e8, e9, e10, e11] m = .ok [some (.loc n), e1, some (.int p), e3, some (.int s), e5, some (.loc A), some d, e8, e9, e10, e11] m := by simp
      rw [r_bnd (noExc_ok kb)]
      have kr : runs (callP prog (k + 3)) actGen [some (.loc n), e1, some (.int p), e3, some (.int s), e5, some (.loc A), some d, e8, e9, e10, e11] m = .ok (.nx [some (.loc n), e1, some (.int p), e3, some (.int s), e5, some (.loc A), some d, e8', some (.tup (ps.map fun p => fr (ratZ p ps.sum))), some (.loc m1.length), e11]) (m3.set A (.lst (as ++ [.tup [.tup (chsOf ps.sum 0 ps), .tup (gs.map fr)]]))) := by
        show runs _ (.cons _ (.cons _ (.cons _ .nil))) _ _ = _
        rw [runs_step k1, runs_step w3, runs_step k3]
        rfl
      rw [r_bnd kr]
      exact i1
    · have x1 : ChgP (fun i => i = n ∨ i = A) m m3 := by
        have y1 : ChgP (fun i => i = n ∨ i = A) m m1 := ChgP.of c1 (.inl rfl)
        refine ⟨Nat.le_trans y1.1 (Nat.le_trans (by rw [List.length_append]; exact Nat.le_add_right _ _) c3.1), fun i hi hn => ?_⟩
        have hi1 : i < m1.length := Nat.lt_of_lt_of_le hi y1.1
        rw [c3.2 i (by rw [List.length_append]; simp; omega) (fun h => by
          rcases h with h | h
          · exact hn (.inl h)
          · omega), List.getElem?_append_left hi1]
        exact y1.2 i hi hn
      exact (x1.trans (ChgP.of (Chg.set A m3 _) (.inr rfl))).trans i3
/-! ### rooms, halls -/
abbrev roomGen : Ss := (.cons (.asg (.name 6) (.new (.lst (.nil)))) (.cons (.fors (.name 7) (.range (.cons (.call f__law_pick (.cons (.var 0) (.cons (.lst (.cons (.cst (.int 1)) (.cons (.cst (.int 2)) (.cons (.cst (.int 2)) (.cons (.cst (.int 3)) .nil))))) .nil))) .nil)) actGen) (.cons (.expr (.app (.var 5) (.blt .tuple (.cons (.var 6) .nil)))) .nil)))
theorem room_turns (k n R : Nat) (hR : n ≠ R) (s p : Int) (s1 : 1 ≤ s) (s8 : s ≤ 8) (p1 : 1 ≤ p) (p4 : p ≤ 4) (e1 e11 : Option D) : ∀ (ds rs : List D) (m : Sto) (c : Nat) (e3 e6 e7 e8 e9 e10 : Option D), Urn m n c → m[R]? = some (.lst rs) → (∀ a ∈ rs, standB p s a = true ∧ Sq a) → rs.length + ds.length ≤ 1000 → c + 4000 + 2000 * ds.length ≤ 1000000 →
    ∃ (rs' : List D) (m' : Sto) (e3' e6' e7' e8' e9' e10' : Option D), forL (bindT (callP prog (k + 3)) (.name 3)) (runs (callP prog (k + 3)) roomGen) ds [some (.loc n), e1, some (.int p), e3, some (.int s), some (.loc R), e6, e7, e8, e9, e10, e11] m = .ok (.nx [some (.loc n), e1, some (.int p), e3', some (.int s), some (.loc R), e6', e7', e8', e9', e10', e11]) m' ∧
      Urn m' n (c + 2000 * ds.length) ∧ ChgP (fun i => i = n ∨ i = R) m m' ∧ m'[R]? = some (.lst rs') ∧ (∀ a ∈ rs', standB p s a = true ∧ Sq a) ∧ rs'.length = rs.length + ds.length
  | [], rs, m, c, e3, e6, e7, e8, e9, e10, h1, h2, h3, h4, h5 => ⟨rs, m, e3, e6, e7, e8, e9, e10, rfl, h1, ChgP.refl _ _, h2, h3, rfl⟩
  | d :: ds, rs, m, c, e3, e6, e7, e8, e9, e10, h1, h2, h3, h4, h5 => by
    rw [List.length_cons] at h4 h5
    have hRl := lt_of_get h2
    have n0 := h1.lt
    have hA : n ≠ m.length := by omega
    obtain ⟨v, m1, q1, hv, u1, c1⟩ := c_pick (k + 1) (ds := [.int 1, .int 2, .int 2, .int 3]) (h1.chg (Chg.app m.length m (.lst [])) hA) (by omega) (by decide) (by decide)
    have hx : ∃ x : Int, v = .int x ∧ 1 ≤ x ∧ x ≤ 3 := by
      simp only [List.mem_cons, List.not_mem_nil, or_false] at hv
      rcases hv with h | h | h | h <;> exact ⟨_, h, by decide, by decide⟩
    obtain ⟨x, rfl, x0, x1⟩ := hx
    have rl : (ranged 0 x).length = x.toNat := by
      unfold ranged
      rw [List.length_map, List.length_range]
      omega
    have g1 : m1[m.length]? = some (.lst []) := (c1.2 m.length (by rw [List.length_append]; simp) (by omega)).trans (get_last m _)
    obtain ⟨as, m3, e7', e8', e9', e10', t3, u3, c3, g3, b3, l3⟩ := actgen_turns k n m.length hA s p s1 s8 p1 p4 e1 (some d) (some (.loc R)) e11 (ranged 0 x) [] m1 (c + 1) e7 e8 e9 e10 u1 g1 (fun _ h => by cases h) (by rw [rl]; simp; omega) (by rw [rl]; omega)
    rw [rl, List.length_nil, Nat.zero_add] at l3
    rw [rl] at u3
    have hr1 : evI (callP prog (k + 3)) (.range (.cons (.call f__law_pick (.cons (.var 0) (.cons (.lst (.cons (.cst (.int 1)) (.cons (.cst (.int 2)) (.cons (.cst (.int 2)) (.cons (.cst (.int 3)) .nil))))) .nil))) .nil)) [some (.loc n), e1, some (.int p), some d, some (.int s), some (.loc R), some (.loc m.length), e7, e8, e9, e10, e11] (m ++ [.lst []]) = .ok (.fix (ranged 0 x)) m1 := rng1 (by simp [q1]) (by unfold lim; omega) (by unfold lim; omega)
    have w3 := for_fix (F := callP prog (k + 3)) (t := .name 7) (b := actGen) hr1
    rw [t3] at w3
    have gR : m3[R]? = some (.lst rs) := by
      have hR1 : R < m1.length := Nat.lt_of_lt_of_le hRl (Nat.le_trans (by rw [List.length_append]; exact Nat.le_add_right _ _) c1.1)
      rw [c3.2 R hR1 (fun h => by rcases h with h | h <;> omega), c1.2 R (by rw [List.length_append]; simp; omega) (Ne.symm hR), List.getElem?_append_left hRl]
      exact h2
    have t4 := tuple_loc g3
    have room_ok : standB p s (.tup as) = true := by
      show ((decide (1 ≤ (as.length : Int)) && decide ((as.length : Int) ≤ 4)) && as.all (deedB p s)) = true
      rw [decide_eq_true (show 1 ≤ (as.length : Int) by omega), decide_eq_true (show (as.length : Int) ≤ 4 by omega), List.all_eq_true.mpr fun a ha => (b3 a ha).1]
      rfl
    have room_sz : Sq (.tup as) := ⟨by omega, Sqs.of fun a ha => (b3 a ha).2⟩
    have a1 := app_loc (d := .tup as) gR (by unfold lim; omega)
    obtain ⟨rs', m', e3', e6', e7'', e8'', e9'', e10'', i1, i2, i3, i4, i5, i6⟩ := room_turns k n R hR s p s1 s8 p1 p4 e1 e11 ds (rs ++ [.tup as]) (m3.set R (.lst (rs ++ [.tup as]))) (c + 2000) (some d) (some (.loc m.length)) e7' e8' e9' e10'
      ((u3.chg (Chg.set R m3 _) hR).mono (by omega)) (List.getElem?_set_self (lt_of_get gR)) (fun a ha => by
        rcases List.mem_append.mp ha with ha | ha
        · exact h3 a ha
        · rw [List.mem_singleton.mp ha]
          exact ⟨room_ok, room_sz⟩) (by rw [List.length_append, List.length_singleton]; omega) (by omega)
    refine ⟨rs', m', e3', e6', e7'', e8'', e9'', e10'', ?_, i2.mono (by rw [List.length_cons]; omega), ?_, i4, i5, by rw [i6, List.length_append, List.length_singleton, List.length_cons]; omega⟩
    · have k1 : run (callP prog (k + 3)) (.asg (.name 6) (.new (.lst (.nil)))) [some (.loc n), e1, some (.int p), some d, some (.int s), some (.loc R), e6, e7, e8, e9, e10, e11] m = .ok (.nx [some (.loc n), e1, some (.int p), some d, some (.int s), some (.loc R), some (.loc m.length), e7, e8, e9, e10, e11]) (m ++ [.lst []]) := by simp [alloc_eq]
      have k3 : run (callP prog (k + 3)) (.expr (.app (.var 5) (.blt .tuple (.cons (.var 6) .nil)))) [some (.loc n), e1, some (.int p), some d, some (.int s), some (.loc R), some (.loc m.length), e7', e8', e9', e10', e11] m3 = .ok (.nx [some (.loc n), e1, some (.int p), some d, some (.int s), some (.loc R), some (.loc m.length), e7', e8', e9', e10', e11]) (m3.set R (.lst (rs ++ [.tup as]))) := by
        simp [t4, a1, isDic_lst gR]
      rw [forL]
      have kb : bindT (callP prog (k + 3)) (.name 3) d [some (.loc n), e1, some (.int p), e3, some (.int s), some (.loc R), e6, e7, e8, e9, e10, e11] m = .ok [some (.loc n), e1, some (.int p), some d, some (.int s), some (.loc R), e6, e7, e8, e9, e10, e11] m := by simp
      rw [r_bnd (noExc_ok kb)]
      have kr : runs (callP prog (k + 3)) roomGen [some (.loc n), e1, some (.int p), some d, some (.int s), some (.loc R), e6, e7, e8, e9, e10, e11] m = .ok (.nx [some (.loc n), e1, some (.int p), some d, some (.int s), some (.loc R), some (.loc m.length), e7', e8', e9', e10', e11]) (m3.set R (.lst (rs ++ [.tup as]))) := by
        show runs _ (.cons _ (.cons _ (.cons _ .nil))) _ _ = _
        rw [runs_step k1, runs_step w3, runs_step k3]
        rfl
      rw [r_bnd kr]
      exact i1
    · have x1 : ChgP (fun i => i = n ∨ i = R) m m3 := by
        refine ⟨Nat.le_trans (Nat.le_trans (by rw [List.length_append]; exact Nat.le_add_right _ _) c1.1) c3.1, fun i hi hn => ?_⟩
        have hi1 : i < m1.length := Nat.lt_of_lt_of_le hi (Nat.le_trans (by rw [List.length_append]; exact Nat.le_add_right _ _) c1.1)
        rw [c3.2 i hi1 (fun h => by
          rcases h with h | h
          · exact hn (.inl h)
          · omega), c1.2 i (by rw [List.length_append]; simp; omega) (fun h => hn (.inl h)), List.getElem?_append_left hi]
      exact (x1.trans (ChgP.of (Chg.set R m3 _) (.inr rfl))).trans i3
/-- a house with a size of at most b stands -/
theorem c_hall (k : Nat) {m : Sto} {n c : Nat} {b p : Int} (hu : Urn m n c) (hc : c + 30000 ≤ 1000000) (b1 : 1 ≤ b) (b8 : b ≤ 8) (p1 : 1 ≤ p) (p4 : p ≤ 4) : ∃ d m', callP prog (k + 4) f__law_hall [.loc n, .int b, .int p] m = .ok d m' ∧ houseB d = true ∧ Sq d ∧ Urn m' n (c + 25000) ∧ Chg n m m' := by
  have hn := hu.lt
  obtain ⟨v, m1, q1, v0, v1, u1, c1⟩ := c_draw (k + 2) hu (by omega) b1 (by omega)
  have n1 := u1.lt
  have hR : n ≠ m1.length := by omega
  have rl : (ranged 0 (1 + v)).length = (1 + v).toNat := by
    unfold ranged
    rw [List.length_map, List.length_range]
    omega
  obtain ⟨rs, m3, e3', e6', e7', e8', e9', e10', t3, u3, c3, g3, b3, l3⟩ := room_turns k n m1.length hR (1 + v) p (by omega) (by omega) p1 p4 (some (.int b)) none (ranged 0 (1 + v)) [] (m1 ++ [.lst []]) (c + 1) none none none none none none (u1.chg (Chg.app m1.length m1 _) hR) (get_last m1 _) (fun _ h => by cases h) (by rw [rl]; simp; omega) (by rw [rl]; omega)
  rw [rl, List.length_nil, Nat.zero_add] at l3
  rw [rl] at u3
  have w3 := for_fix (F := callP prog (k + 3)) (t := .name 3) (b := roomGen) (rng1 (F := callP prog (k + 3)) (e := .var 4) (env := [some (.loc n), some (.int b), some (.int p), none, some (.int (1 + v)), some (.loc m1.length), none, none, none, none, none, none]) (m := m1 ++ [.lst []]) (m1 := m1 ++ [.lst []]) (j := 1 + v) (by simp) (by unfold lim; omega) (by unfold lim; omega))
  rw [t3] at w3
  obtain ⟨sh, m4, q4, hsh, u4, c4⟩ := c_pick (k + 1) (ds := [fr (0, 1), fr (1, 2), fr (1, 2), fr (1, 3), fr (2, 3), fr (3, 4)]) u3 (by omega) (by decide) (by decide)
  have g4 : m4[m1.length]? = some (.lst rs) := (c4.2 m1.length (lt_of_get g3) (by omega)).trans g3
  have t4 := tuple_loc g4
  have sh_ok : shareB sh = true ∧ Sq sh := by
    simp only [List.mem_cons, List.not_mem_nil, or_false] at hsh
    have f : ∀ a b : Int, shareB (fr (a, b)) = true → a.natAbs < 1024 → b.natAbs < 1024 → shareB (fr (a, b)) = true ∧ Sq (fr (a, b)) := fun a b h h1 h2 => ⟨h, by simp, Nat.lt_of_lt_of_le h1 (by decide), Nat.lt_of_lt_of_le h2 (by decide), trivial⟩
    rcases hsh with h | h | h | h | h | h <;> (rw [h]; exact f _ _ (by decide) (by decide) (by decide))
  have lv : (rs.length : Int) = 1 + v := by omega
  refine ⟨.tup [sh, .int p, .tup rs], m4, ?_, ?_, ?_, u4.mono (by omega), ?_⟩
  · have k1 : run (callP prog (k + 3)) (.asg (.tup (.cons (.name 4) (.cons (.name 5) .nil))) (.tup (.cons (.bin .add (.cst (.int 1)) (.call f__law_draw (.cons (.var 0) (.cons (.var 1) .nil)))) (.cons (.new (.lst (.nil))) .nil)))) [some (.loc n), some (.int b), some (.int p), none, none, none, none, none, none, none, none, none] m = .ok (.nx [some (.loc n), some (.int b), some (.int p), none, some (.int (1 + v)), some (.loc m1.length), none, none, none, none, none, none]) (m1 ++ [.lst []]) := by
      simp [q1, alloc_eq]
    rw [call_eq at__law_hall rfl]
    show endR (runs _ b__law_hall [some (.loc n), some (.int b), some (.int p), none, none, none, none, none, none, none, none, none] m) = _
    unfold b__law_hall
    rw [runs_step k1, runs_step w3]
    simp only [fr] at q4
    simp [q4, t4]
  · show (shareB sh && ((decide (1 ≤ p) && decide (p ≤ 4)) && ((decide (1 ≤ (rs.length : Int)) && decide ((rs.length : Int) ≤ 8)) && rs.all (standB p rs.length)))) = true
    rw [sh_ok.1, decide_eq_true p1, decide_eq_true p4, decide_eq_true (show 1 ≤ (rs.length : Int) by omega), decide_eq_true (show (rs.length : Int) ≤ 8 by omega), lv, List.all_eq_true.mpr fun a ha => (b3 a ha).1]
    rfl
  · refine ⟨by simp, sh_ok.2, Nat.lt_of_lt_of_le (show p.natAbs < 1024 by omega) (by decide), ⟨by omega, Sqs.of fun a ha => (b3 a ha).2⟩, trivial⟩
  · refine ⟨Nat.le_trans c1.1 (Nat.le_trans (by rw [List.length_append]; exact Nat.le_add_right _ _) (Nat.le_trans c3.1 c4.1)), fun i hi hne => ?_⟩
    have hi1 : i < m1.length := Nat.lt_of_lt_of_le hi c1.1
    have hi2 : i < (m1 ++ [O.lst []]).length := by rw [List.length_append]; simp; omega
    rw [c4.2 i (Nat.lt_of_lt_of_le hi2 c3.1) hne, c3.2 i hi2 (fun h => by rcases h with h | h <;> omega), List.getElem?_append_left hi1]
    exact c1.2 i hi hne
end K79


set_option Elab.async false
set_option linter.all false
set_option maxRecDepth 100000
/-! K79E: plans, as the program tells them. -/
namespace K79
open Dh
theorem ratB_sh {d : D} (h : ratB d = true) : ∃ a b, d = fr (a, b) ∧ 0 < b ∧ Nat.gcd a.natAbs b.natAbs = 1 := by
  unfold ratB at h
  split at h
  · rename_i a b
    simp only [Bool.and_eq_true, decide_eq_true_eq] at h
    exact ⟨a, b, rfl, h.1, h.2⟩
  · cases h
def nonneg : D → Bool
  | .tup (.int a :: _) => decide (0 ≤ a)
  | _ => false
def rtI : D → Int × Int
  | .tup [.int a, .int b] => (a, b)
  | _ => (0, 1)
/-- a row of n chances -/
def chanceB (d : D) (n : Int) : Bool := match d with
  | .tup ds => (decide ((ds.length : Int) = n) && ds.all ratB) && (ds.all nonneg && decide (totZ (ds.map rtI) = (1, 1)))
  | _ => false
theorem c_totalT (k : Nat) (cs : List (Int × Int)) (m : Sto) (h : ∀ c ∈ cs, 0 < c.2 ∧ Bt c.1 200 ∧ Bt c.2 200) (hl : cs.length ≤ 40) : callP prog (k + 3) f_total [.tup (cs.map fr)] m = .ok (fr (totZ cs)) m := by
  rw [call_eq at_total rfl]
  obtain ⟨e', z⟩ := total_turns k m (.tup (cs.map fr)) cs (0, 1) 0 none h (by decide) (by unfold Bt; decide) (by unfold Bt; decide) (by omega)
  have w := for_fix (F := callP prog (k + 2)) (t := .name 2) (b := .cons (.asg (.name 1) (.call f_plus (.cons (.var 1) (.cons (.var 2) .nil)))) .nil) (seq_tup (F := callP prog (k + 2)) (e := .var 0) (env := [some (.tup (cs.map fr)), some (fr (0, 1)), none]) (m := m) (m1 := m) (ds := cs.map fr) (by simp))
  rw [z] at w
  simp [b_total, w, totZ]
theorem frs_of {ds : List D} (h : ds.all ratB = true) : ds = (ds.map rtI).map fr := by
  induction ds with
  | nil => rfl
  | cons d ds ih =>
    rw [List.all_cons, Bool.and_eq_true] at h
    obtain ⟨a, b, rfl, _⟩ := ratB_sh h.1
    rw [List.map_cons, List.map_cons, ← ih h.2]
    rfl
theorem eq_one (m : Sto) (p : Int × Int) : cmp m .eq (fr p) (.tup [.int 1, .int 1]) = some (.bl (decide (p = (1, 1)))) := by
  rw [c_eqF]
  congr 3
  exact propext ⟨fun h => Prod.ext h.1 h.2, fun h => by rw [h]; exact ⟨rfl, rfl⟩⟩
theorem c_is_chance_row (k : Nat) (d : D) (n : Int) (m : Sto) (hn : n ≤ 8) (hz : Sz d) : callP prog (k + 4) f_is_chance_row [d, .int n] m = .ok (.bl (chanceB d n)) m := by
  rw [call_eq at_is_chance_row rfl]
  have r := c_is_row k d n m (by omega)
  cases d with
  | tup ds =>
    have e0 : rowB (.tup ds) n = (decide ((ds.length : Int) = n) && ds.all ratB) := rfl
    obtain ⟨hl, hz⟩ := hz
    cases q : rowB (.tup ds) n with
    | false =>
      rw [q] at r e0
      simp [b_is_chance_row, r, chanceB, ← e0]
    | true =>
      rw [q] at r e0
      have e1 := e0.symm
      rw [Bool.and_eq_true, decide_eq_true_eq] at e1
      have ra := List.all_eq_true.mp e1.2
      have z1 := ev_map (F := callP prog (k + 3)) (elt := .cmp .ge (.idx (.var 2) (.cst (.int 0))) (.cst (.int 0))) (i := 2) (it := .seq (.var 0)) (env := [some (.tup ds), some (.int n), none]) (m := m) (ds := ds) (fun d => .bl (nonneg d)) (seq_tup (by simp)) (small_lim (by omega)) (by simp) fun d hd => by
        obtain ⟨a, b, rfl, _⟩ := ratB_sh (ra d hd)
        simp [nonneg]
      have z2 := c_totalT k (ds.map rtI) m (fun c hc => by
        obtain ⟨d, hd, rfl⟩ := List.mem_map.mp hc
        have sz := hz.all d hd
        obtain ⟨a, b, rfl, h3, _⟩ := ratB_sh (ra d hd)
        obtain ⟨_, sa, sb, _⟩ := sz
        exact ⟨h3, sa, sb⟩) (by rw [List.length_map]; omega)
      rw [← frs_of e1.2] at z2
      have z3 := eq_one m (totZ (ds.map rtI))
      simp only [fr] at z2 z3
      cases q2 : ds.all nonneg with
      | false =>
        simp [allB_map, b_is_chance_row, r, z1, chanceB, ← e0, q2]
      | true =>
        simp [allB_map, b_is_chance_row, r, z1, z2, z3, chanceB, ← e0, q2]
  | _ => simp [b_is_chance_row, r, rowB, chanceB]
def seqLen : D → Nat
  | .tup ds => ds.length
  | _ => 0
/-- the stands, each a row of deeds -/
def Rooms (ss : List D) : Prop := ss.length ≤ 8 ∧ ∀ t ∈ ss, ∃ ts, t = .tup ts ∧ ts.length ≤ 8
theorem tupN {d : D} {n : Int} (h : tupOf d n = true) : ∃ ds, d = .tup ds ∧ (ds.length : Int) = n := by
  cases d with
  | tup ds => exact ⟨ds, rfl, of_decide_eq_true h⟩
  | _ => cases h
def stPair : D → Bool
  | .tup [o, t] => chanceB o (seqLen t)
  | _ => false
def stillB (ss : List D) (d : D) : Bool := match d with
  | .tup os => tupOf (.tup os) ss.length && (zipD os ss).all stPair
  | _ => false
theorem c_is_still_by (k : Nat) (x p : D) (ss : List D) (d : D) (m : Sto) (hr : Rooms ss) (hz : Sz d) : callP prog (k + 5) f_is_still_by [.tup [x, p, .tup ss], d] m = .ok (.bl (stillB ss d)) m := by
  rw [call_eq at_is_still_by rfl]
  have r := c_is_tuple_of (k + 3) d ss.length m
  cases h : tupOf d ss.length with
  | false =>
    rw [h] at r
    have e : stillB ss d = false := by
      unfold stillB
      split
      · rw [h]
        rfl
      · rfl
    simp [b_is_still_by, r, e]
  | true =>
    rw [h] at r
    obtain ⟨os, rfl, hl⟩ := tupN h
    have z := ev_mapP (F := callP prog (k + 4)) (elt := .call f_is_chance_row (.cons (.var 2) (.cons (.blt .len (.cons (.var 3) .nil)) .nil))) (i := 2) (j := 3) (it := .zip (.var 1) (.idx (.var 0) (.cst (.int 2)))) (env := [some (.tup [x, p, .tup ss]), some (.tup os), none, none]) (m := m) (ds := zipD os ss) (fun d => .bl (stPair d)) (zip_tup (by simp) (by simp))
      (by rw [zipD_len']; have := hr.1; exact small_lim (by omega)) (by simp) (by simp) fun d hd => by
        obtain ⟨o, t, rfl, ho, ht⟩ := zipD_mem hd
        obtain ⟨ts, rfl, hl⟩ := hr.2 t ht
        refine ⟨_, _, rfl, ?_⟩
        have y := c_is_chance_row k o ts.length m (by omega) (hz.2.all o ho)
        simp [y, stPair, seqLen]
    simp [allB_map, b_is_still_by, r, z, stillB, h]
/-- a row of rows of chances -/
def oddsB (n : Int) (l : Nat) (d : D) : Bool := match d with
  | .tup rs => tupOf (.tup rs) n && rs.all fun r => chanceB r l
  | _ => false
theorem c_are_odds (k : Nat) (d : D) (n : Int) (ts : List D) (m : Sto) (hn : n ≤ 8) (ht : ts.length ≤ 8) (hz : Sz d) : callP prog (k + 5) f_are_odds [d, .int n, .tup ts] m = .ok (.bl (oddsB n ts.length d)) m := by
  rw [call_eq at_are_odds rfl]
  have r := c_is_tuple_of (k + 3) d n m
  cases h : tupOf d n with
  | false =>
    rw [h] at r
    have e : oddsB n ts.length d = false := by
      unfold oddsB
      split
      · rw [h]
        rfl
      · rfl
    simp [b_are_odds, r, e]
  | true =>
    rw [h] at r
    obtain ⟨rs, rfl, hl⟩ := tupN h
    have z := ev_map (F := callP prog (k + 4)) (elt := .call f_is_chance_row (.cons (.var 3) (.cons (.blt .len (.cons (.var 2) .nil)) .nil))) (i := 3) (it := .seq (.var 0)) (env := [some (.tup rs), some (.int n), some (.tup ts), none]) (m := m) (ds := rs) (fun r => .bl (chanceB r ts.length)) (seq_tup (by simp)) (small_lim (by omega)) (by simp) fun d hd => by
      have y := c_is_chance_row k d ts.length m (by omega) (hz.2.all d hd)
      simp [y]
    simp [allB_map, b_are_odds, r, z, oddsB, h]
def nextB (n : Int) (d : D) : Bool := match d with
  | .tup rs => tupOf (.tup rs) n && rs.all fun r => betw r 0 (n - 1)
  | _ => false
def nextsB (n : Int) (l : Nat) (d : D) : Bool := match d with
  | .tup rs => tupOf (.tup rs) l && rs.all (nextB n)
  | _ => false
theorem c_are_nexts (k : Nat) (d : D) (n : Int) (ts : List D) (m : Sto) (hn : n ≤ 8) (ht : ts.length ≤ 8) : callP prog (k + 3) f_are_nexts [d, .int n, .tup ts] m = .ok (.bl (nextsB n ts.length d)) m := by
  rw [call_eq at_are_nexts rfl]
  have r := c_is_tuple_of (k + 1) d ts.length m
  cases h : tupOf d ts.length with
  | false =>
    rw [h] at r
    have e : nextsB n ts.length d = false := by
      unfold nextsB
      split
      · rw [h]
        rfl
      · rfl
    simp [b_are_nexts, r, e]
  | true =>
    rw [h] at r
    obtain ⟨rs, rfl, hl⟩ := tupN h
    have z := ev_map (F := callP prog (k + 2)) (elt := .and (.call f_is_tuple_of (.cons (.var 3) (.cons (.var 1) .nil))) (.blt .all (.cons (.comp (.call f_is_between (.cons (.var 4) (.cons (.cst (.int 0)) (.cons (.bin .sub (.var 1) (.cst (.int 1))) .nil)))) (.name 4) (.seq (.var 3)) (.cst (.bl true))) .nil))) (i := 3) (it := .seq (.var 0)) (env := [some (.tup rs), some (.int n), some (.tup ts), none, none]) (m := m) (ds := rs) (fun d => .bl (nextB n d)) (seq_tup (by simp)) (small_lim (by omega)) (by simp) fun d hd => by
      have r2 := c_is_tuple_of (k + 1) d n m
      cases h2 : tupOf d n with
      | false =>
        rw [h2] at r2
        have e : nextB n d = false := by
          unfold nextB
          split
          · rw [h2]
            rfl
          · rfl
        simp [r2, e]
      | true =>
        rw [h2] at r2
        obtain ⟨us, rfl, hl2⟩ := tupN h2
        have z2 := ev_map (F := callP prog (k + 2)) (elt := .call f_is_between (.cons (.var 4) (.cons (.cst (.int 0)) (.cons (.bin .sub (.var 1) (.cst (.int 1))) .nil)))) (i := 4) (it := .seq (.var 3)) (env := [some (.tup rs), some (.int n), some (.tup ts), some (.tup us), none]) (m := m) (ds := us) (fun r => .bl (betw r 0 (n - 1))) (seq_tup (by simp)) (small_lim (by omega)) (by simp) fun d hd => by
          have y := c_is_between k d 0 (n - 1) m
          simp [y]
        simp [allB_map, r2, z2, nextB, h2]
    simp [allB_map, b_are_nexts, r, z, nextsB, h]
end K79


set_option Elab.async false
set_option linter.all false
set_option maxRecDepth 100000
/-! K79F: rows of chances, as they are drawn. -/
namespace K79
open Dh
abbrev Fr := Int × Int
abbrev rowT (cs : List Fr) : D := .tup (cs.map fr)
/-- n chances, together 1 -/
structure GoodRow (n : Nat) (cs : List Fr) : Prop where
  len : cs.length = n
  pos : 1 ≤ n
  le : n ≤ 8
  ok : ∀ c ∈ cs, 0 < c.2 ∧ 0 ≤ c.1 ∧ Nat.gcd c.1.natAbs c.2.natAbs = 1 ∧ Bt c.1 100 ∧ Bt c.2 100
  tot : totZ cs = (1, 1)
theorem good_ratB {n : Nat} {cs : List Fr} (h : GoodRow n cs) : (cs.map fr).all ratB = true := List.all_eq_true.mpr fun d hd => by
  obtain ⟨c, hc, rfl⟩ := List.mem_map.mp hd
  obtain ⟨a, _, b, _⟩ := h.ok c hc
  show (decide (0 < c.2) && decide (Nat.gcd c.1.natAbs c.2.natAbs = 1)) = true
  simp [a, b]
theorem rt_fr (cs : List Fr) : (cs.map fr).map rtI = cs := by
  rw [List.map_map]
  exact (List.map_congr_left fun c _ => rfl).trans (List.map_id cs)
theorem good_chance {n : Nat} {cs : List Fr} (h : GoodRow n cs) : chanceB (rowT cs) n = true := by
  show ((decide (((cs.map fr).length : Int) = n) && (cs.map fr).all ratB) && ((cs.map fr).all nonneg && decide (totZ ((cs.map fr).map rtI) = (1, 1)))) = true
  rw [good_ratB h, rt_fr, h.tot, List.length_map, h.len]
  have : (cs.map fr).all nonneg = true := List.all_eq_true.mpr fun d hd => by
    obtain ⟨c, hc, rfl⟩ := List.mem_map.mp hd
    obtain ⟨_, a, _⟩ := h.ok c hc
    show decide (0 ≤ c.1) = true
    simp [a]
  simp [this]
theorem good_sz {n : Nat} {cs : List Fr} (h : GoodRow n cs) : Sm (rowT cs) := by
  refine ⟨by rw [List.length_map, h.len]; have := h.le; omega, Bds.of fun d hd => ?_⟩
  obtain ⟨c, hc, rfl⟩ := List.mem_map.mp hd
  obtain ⟨_, _, _, a, b⟩ := h.ok c hc
  exact ⟨by simp, a, b, trivial⟩
theorem le_mulp {g x : Int} (h : 0 ≤ x) (g1 : 1 ≤ g) : x ≤ g * x := by
  have z := Int.mul_le_mul_of_nonneg_right g1 h
  rwa [Int.one_mul] at z
theorem c_oddsG (k : Nat) {m : Sto} {n c s : Nat} (hu : Urn m n c) (hc : c + 1000 ≤ 1000000) (h1 : 1 ≤ s) (h2 : s ≤ 8) : ∃ (d : D) (m' : Sto), callP prog (k + 3) f__law_odds [.loc n, .int s] m = .ok d m' ∧ (∃ cs, d = rowT cs ∧ GoodRow s cs) ∧ Urn m' n (c + 101) ∧ Chg n m m' := by
  obtain ⟨ps, m', e, hl, hp, hs, u, ch⟩ := c_odds k hu hc (s := s) (by omega) (by omega)
  refine ⟨_, m', e, ⟨ps.map fun p => ratZ p ps.sum, by rw [rowT, List.map_map]; rfl, ?_⟩, u, ch⟩
  have hsum := (sum_nonneg hp).2
  refine ⟨by rw [List.length_map]; omega, h1, h2, fun c hc => ?_, tot_one hs⟩
  obtain ⟨p, hp1, rfl⟩ := List.mem_map.mp hc
  obtain ⟨p0, p3⟩ := hp p hp1
  obtain ⟨g, g0, e1, e2, e3, e4⟩ := ratZ_facts (t := p) (l := ps.sum) (by omega)
  have b1 := (ratZ_pos (p := p) (W := ps.sum) (by omega) p0).2
  refine ⟨e3, b1, e4, Bt.mono (a := 10) ?_ (by decide), Bt.mono (a := 10) ?_ (by decide)⟩
  · have := le_mulp b1 (show 1 ≤ g by omega)
    unfold Bt
    omega
  · have : (ratZ p ps.sum).2 ≤ ps.sum := by
      have := le_mulp (Int.le_of_lt e3) (show 1 ≤ g by omega)
      omega
    unfold Bt
    omega
/-- rows beside the stands -/
structure Rows (ss : List D) (rows : List (List Fr)) : Prop where
  len : rows.length = ss.length
  row : ∀ (j : Nat) (cs : List Fr) (t : D), rows[j]? = some cs → ss[j]? = some t → GoodRow (seqLen t) cs
/-- the stands of a house: rows of deeds -/
structure Stands (ss : List D) : Prop where
  pos : 1 ≤ ss.length
  le : ss.length ≤ 8
  row : ∀ t ∈ ss, ∃ ts, t = .tup ts ∧ 1 ≤ ts.length ∧ ts.length ≤ 4
theorem Stands.rooms {ss : List D} (h : Stands ss) : Rooms ss := ⟨h.le, fun t ht => by
  obtain ⟨ts, e, _, l⟩ := h.row t ht
  exact ⟨ts, e, by omega⟩⟩
theorem zip_get : ∀ {j : Nat} {xs ys : List D} {d : D}, (zipD xs ys)[j]? = some d → ∃ x y, xs[j]? = some x ∧ ys[j]? = some y ∧ d = .tup [x, y]
  | _, [], _, _, h => by simp [zipD] at h
  | _, _ :: _, [], _, h => by simp [zipD] at h
  | 0, x :: xs, y :: ys, d, h => by
    have h' : D.tup [x, y] = d := by simpa [zipD] using h
    exact ⟨x, y, rfl, rfl, h'.symm⟩
  | j + 1, x :: xs, y :: ys, d, h => by
    have h' : (zipD xs ys)[j]? = some d := by simpa [zipD] using h
    obtain ⟨x', y', h1, h2, h3⟩ := zip_get h'
    exact ⟨x', y', by simpa using h1, by simpa using h2, h3⟩
theorem rows_still {ss : List D} {rows : List (List Fr)} (h : Rows ss rows) (S : Stands ss) : stillB ss (.tup (rows.map rowT)) = true := by
  show (decide (((rows.map rowT).length : Int) = ss.length) && (zipD (rows.map rowT) ss).all stPair) = true
  rw [List.length_map, h.len]
  simp only [decide_true, Bool.true_and, List.all_eq_true]
  intro d hd
  obtain ⟨j, hj⟩ := List.mem_iff_getElem?.mp hd
  obtain ⟨x, t, h1, h2, rfl⟩ := zip_get hj
  rw [List.getElem?_map] at h1
  obtain ⟨cs, h3, rfl⟩ := Option.map_eq_some_iff.mp h1
  exact good_chance (h.row j cs t h3 h2)
theorem c_habit (k : Nat) {m : Sto} {n c : Nat} {x p : D} {ss : List D} (hu : Urn m n c) (hc : c + 10000 ≤ 1000000) (S : Stands ss) :
    ∃ d m', callP prog (k + 4) f__law_habit [.loc n, .tup [x, p, .tup ss]] m = .ok d m' ∧ ((∃ rows, d = .tup (rows.map rowT) ∧ Rows ss rows) ∧ Urn m' n (c + 1000) ∧ Chg n m m') := by
  refine wq_ex ?_
  rw [w_fn _ at__law_habit rfl]
  dsimp only [d__law_habit, b__law_habit]
  simp -dsimp
  have hl8 := S.le
  refine w_forD (fun pre e m1 => ∃ rows e3, e = [some (.loc n), some (.tup [x, p, .tup ss]), some (.loc m.length), e3] ∧ St n m.length (c + 101 * pre.length) (rows.map rowT) m m1 ∧ Rows pre rows)
    ⟨[], none, rfl, St.new hu, ⟨rfl, fun j cs t h => by simp at h⟩⟩ ?_ ?_
  · rintro pre y post e m1 he ⟨rows, e3, rfl, st, R⟩
    have hpre : pre.length + 1 ≤ ss.length := by rw [he]; simp
    obtain ⟨ts, rfl, t1, t4⟩ := S.row y (by rw [he]; simp)
    obtain ⟨d, m2, q1, ⟨cs, rfl, gr⟩, u2, c2⟩ := c_oddsG k (s := ts.length) st.urn (by omega) t1 (by omega)
    have nd := isDic_lst st.own
    have st2 := st.call u2 c2
    obtain ⟨a1, st3⟩ := st2.app (rowT cs) (by rw [List.length_map, R.len]; unfold lim; omega)
    simp -dsimp [q1, a1, nd]
    refine kp ⟨rows ++ [cs], _, rfl, by simpa using st3.mono (by omega), ⟨by simp [R.len], fun j ds t h1 h2 => ?_⟩⟩
    by_cases hj : j < rows.length
    · rw [List.getElem?_append_left hj] at h1
      rw [List.getElem?_append_left (by rw [← R.len]; exact hj)] at h2
      exact R.row j ds t h1 h2
    · rw [List.getElem?_append_right (by omega)] at h1
      rw [List.getElem?_append_right (by rw [← R.len]; omega), ← R.len] at h2
      have hz : j - rows.length = 0 := by
        by_cases z : j - rows.length = 0
        · exact z
        · rw [List.getElem?_eq_none (by simp; omega)] at h1
          cases h1
      rw [hz] at h1 h2
      cases h1
      cases h2
      exact gr
  · rintro e m1 ⟨rows, e3, rfl, st, R⟩
    have t4 := st.tup
    simp -dsimp [t4]
    exact kp ⟨⟨rows, rfl, R⟩, st.urn.mono (by omega), st.chg⟩
end K79


set_option Elab.async false
set_option linter.all false
set_option maxRecDepth 100000
/-! K79G: the house with its parts; memories. -/
namespace K79
open Dh
/-- goals with their chances -/
abbrev chT (cl : List (Int × Fr)) : D := .tup (cl.map fun c => .tup [.int c.1, fr c.2])
structure Chs (n : Nat) (cl : List (Int × Fr)) : Prop where
  at_ : ∀ c ∈ cl, 0 ≤ c.1 ∧ c.1 < n
  row : GoodRow cl.length (cl.map (·.2))
/-- a deed -/
structure Deed (n p : Nat) (d : D) (cl : List (Int × Fr)) (gl : List Fr) : Prop where
  eq : d = .tup [chT cl, rowT gl]
  ch : Chs n cl
  gn : gl.length = p
  gk : ∀ g ∈ gl, 0 < g.2 ∧ Nat.gcd g.1.natAbs g.2.natAbs = 1 ∧ Bt g.1 10 ∧ Bt g.2 10
structure Hall (d : D) (q : Fr) (p : Nat) (ss : List D) : Prop where
  eq : d = .tup [fr q, .int p, .tup ss]
  S : Stands ss
  p1 : 1 ≤ p
  p4 : p ≤ 4
  sh : 0 < q.2 ∧ 0 ≤ q.1 ∧ q.1 < q.2 ∧ Nat.gcd q.1.natAbs q.2.natAbs = 1 ∧ Bt q.1 10 ∧ Bt q.2 10
  deed : ∀ t ∈ ss, ∀ ts, t = .tup ts → ∀ a ∈ ts, ∃ cl gl, Deed ss.length p a cl gl
  house : houseB d = true
  sm : Sm d
theorem house_sh2 {d : D} (h : houseB d = true) : ∃ x p ss, d = .tup [x, .int p, .tup ss] ∧ shareB x = true ∧ 1 ≤ p ∧ p ≤ 4 ∧ 1 ≤ ss.length ∧ ss.length ≤ 8 ∧ ∀ t ∈ ss, standB p ss.length t = true := by
  unfold houseB at h
  split at h
  · rename_i x p ss
    simp only [Bool.and_eq_true, decide_eq_true_eq, List.all_eq_true] at h
    exact ⟨x, p, ss, rfl, h.1, h.2.1.1, h.2.1.2, by omega, by omega, h.2.2.2⟩
  · cases h
theorem stand_sh {p s : Int} {d : D} (h : standB p s d = true) : ∃ ds, d = .tup ds ∧ 1 ≤ ds.length ∧ ds.length ≤ 4 ∧ ∀ x ∈ ds, deedB p s x = true := by
  unfold standB at h
  split at h
  · rename_i ds
    simp only [Bool.and_eq_true, decide_eq_true_eq, List.all_eq_true] at h
    exact ⟨ds, rfl, by omega, by omega, h.2⟩
  · cases h
theorem deed_sh {p s : Int} {d : D} (h : deedB p s d = true) : ∃ chs gs, d = .tup [.tup chs, .tup gs] ∧ chB (.tup chs) s = true ∧ rowB (.tup gs) p = true := by
  unfold deedB at h
  split at h
  · rename_i x y
    rw [Bool.and_eq_true] at h
    cases x with
    | tup chs =>
      cases y with
      | tup gs => exact ⟨chs, gs, rfl, h.1, h.2⟩
      | _ => exact absurd h.2 (by simp [rowB])
    | _ => exact absurd h.1 (by simp [chB])
  · cases h
theorem share_sh {d : D} (h : shareB d = true) : ∃ a b, d = fr (a, b) ∧ 0 < b ∧ Nat.gcd a.natAbs b.natAbs = 1 ∧ 0 ≤ a ∧ a < b := by
  unfold shareB at h
  split at h
  · rename_i a b
    simp only [ratB, Bool.and_eq_true, decide_eq_true_eq] at h
    exact ⟨a, b, rfl, by omega, by omega, by omega, by omega⟩
  · cases h
theorem chs_of {n : Nat} {chs : List D} (hn : n ≤ 8) (h : chB (.tup chs) n = true) (hs : Sm (.tup chs)) : ∃ cl, .tup chs = chT cl ∧ Chs n cl := by
  have h' : (chs.all (chOk n) && (ascB (chs.map stI) && decide (totZ (chs.map frI) = (1, 1)))) = true := h
  rw [Bool.and_eq_true, Bool.and_eq_true, List.all_eq_true, decide_eq_true_eq] at h'
  obtain ⟨h1, h2, h3⟩ := h'
  have sh := fun d hd => chOk_sh (h1 d hd)
  have e : chs = (chs.map fun d => (stI d, frI d)).map fun c => .tup [.int c.1, fr c.2] := by
    rw [List.map_map]
    refine ((List.map_congr_left fun d hd => ?_).trans (List.map_id chs)).symm
    obtain ⟨i, a, b, rfl, _⟩ := sh d hd
    rfl
  have len : ((chs.map stI).length : Int) ≤ max 0 ((n : Int) - 0) := asc_len (chs.map stI) 0 n (fun x hx => by
    obtain ⟨d, hd, rfl⟩ := List.mem_map.mp hx
    obtain ⟨i, a, b, rfl, q1, q2, _⟩ := sh d hd
    exact ⟨q1, q2⟩) h2
  rw [List.length_map] at len
  refine ⟨chs.map fun d => (stI d, frI d), by rw [chT, ← e], fun c hc => ?_, ?_⟩
  · obtain ⟨d, hd, rfl⟩ := List.mem_map.mp hc
    obtain ⟨i, a, b, rfl, q1, q2, _⟩ := sh d hd
    exact ⟨q1, by show i < n; omega⟩
  · have em : (chs.map fun d => (stI d, frI d)).map (·.2) = chs.map frI := by rw [List.map_map]; rfl
    rw [em]
    refine ⟨by simp, ?_, by rw [List.length_map]; omega, fun c hc => ?_, h3⟩
    · rw [List.length_map]
      cases chs with
      | nil => cases h3
      | cons _ _ => simp
    · obtain ⟨d, hd, rfl⟩ := List.mem_map.mp hc
      have sz := Bds.all hs.2 d hd
      obtain ⟨i, a, b, rfl, _, _, q3, q4, q5⟩ := sh d hd
      obtain ⟨_, _, ⟨_, sa, sb, _⟩, _⟩ := sz
      exact ⟨q3, Int.le_of_lt q4, q5, sa, sb⟩
theorem hall_of {d : D} (h : houseB d = true) (hs : Sq d) : ∃ q p ss, Hall d q p ss := by
  obtain ⟨x, p, ss, rfl, h1, p1, p4, l1, l8, h2⟩ := house_sh2 h
  obtain ⟨a, b, rfl, b0, g, a0, ab⟩ := share_sh h1
  obtain ⟨_, ⟨_, sa, sb, _⟩, _, ⟨_, sS⟩, _⟩ := id hs
  obtain ⟨P, rfl⟩ : ∃ P : Nat, p = P := ⟨p.toNat, by omega⟩
  refine ⟨(a, b), P, ss, rfl, ⟨l1, l8, fun t ht => ?_⟩, by omega, by omega, ⟨b0, a0, ab, g, sa, sb⟩, fun t ht ts e x hx => ?_, h, hs.sm⟩
  · obtain ⟨ds, rfl, d1, d4, _⟩ := stand_sh (h2 t ht)
    exact ⟨ds, rfl, d1, d4⟩
  · obtain ⟨ds, e2, _, _, hd⟩ := stand_sh (h2 t ht)
    rw [e] at e2
    cases e2
    obtain ⟨chs, gs, rfl, c1, c2⟩ := deed_sh (hd x hx)
    have sT := Bds.all sS t ht
    rw [e] at sT
    obtain ⟨_, sc, ⟨sgl, sg⟩, _⟩ := Bds.all sT.2 _ hx
    obtain ⟨cl, ec, hc⟩ := chs_of l8 c1 (Sq.sm sc)
    have c2' : (decide ((gs.length : Int) = P) && gs.all ratB) = true := c2
    rw [Bool.and_eq_true, decide_eq_true_eq] at c2'
    refine ⟨cl, gs.map rtI, by rw [ec, rowT, ← frs_of c2'.2], hc, by rw [List.length_map]; omega, fun g hg => ?_⟩
    obtain ⟨y, hy, rfl⟩ := List.mem_map.mp hg
    have sy := Bds.all sg y hy
    obtain ⟨a, b, rfl, q1, q2⟩ := ratB_sh (List.all_eq_true.mp c2'.2 y hy)
    obtain ⟨_, sa, sb, _⟩ := sy
    exact ⟨q1, q2, sa, sb⟩
theorem c_hallH (k : Nat) {m : Sto} {n c : Nat} {b p : Int} (hu : Urn m n c) (hc : c + 30000 ≤ 1000000) (b1 : 1 ≤ b) (b8 : b ≤ 8) (p1 : 1 ≤ p) (p4 : p ≤ 4) : ∃ d m', callP prog (k + 4) f__law_hall [.loc n, .int b, .int p] m = .ok d m' ∧ (∃ q p ss, Hall d q p ss) ∧ Urn m' n (c + 25000) ∧ Chg n m m' := by
  obtain ⟨d, m', e, h, s, u, ch⟩ := c_hall k hu hc b1 b8 p1 p4
  exact ⟨d, m', e, hall_of h s, u, ch⟩
/-! ### memories -/
/-- the deed a at the stand s -/
structure At (ss : List D) (s a : Int) (ts : List D) (cl : List (Int × Fr)) (gl : List Fr) : Prop where
  s0 : 0 ≤ s
  sl : s < ss.length
  st : ss[s.toNat]? = some (.tup ts)
  a0 : 0 ≤ a
  al : a < ts.length
  at_ : ts[a.toNat]? = some (.tup [chT cl, rowT gl])
  ch : Chs ss.length cl
inductive Mem (ss : List D) : List Int → Prop
  | one (s : Int) : 0 ≤ s → s < ss.length → Mem ss [s]
  | more (p : List Int) (s a g : Int) (ts : List D) (cl : List (Int × Fr)) (gl : List Fr) : Mem ss (p ++ [s]) → At ss s a ts cl gl → g ∈ cl.map (·.1) → Mem ss (p ++ [s, a, g])
theorem Hall.at_ {d : D} {q : Fr} {p : Nat} {ss : List D} (H : Hall d q p ss) {s : Int} (h0 : 0 ≤ s) (h1 : s < ss.length) : ∃ ts, ss[s.toNat]? = some (.tup ts) ∧ atIx ss s = some (.tup ts) ∧ 1 ≤ ts.length ∧ ts.length ≤ 4 ∧
    ∀ a : Int, 0 ≤ a → a < ts.length → ∃ cl gl, At ss s a ts cl gl ∧ atIx ts a = some (.tup [chT cl, rowT gl]) ∧ Deed ss.length p (.tup [chT cl, rowT gl]) cl gl := by
  have hl : s.toNat < ss.length := by omega
  obtain ⟨ts, e, t1, t4⟩ := H.S.row _ (List.getElem_mem hl)
  have e1 : ss[s.toNat]? = some (.tup ts) := by rw [List.getElem?_eq_getElem hl, e]
  refine ⟨ts, e1, by unfold atIx; rw [if_pos h0, e1], t1, t4, fun a a0 al => ?_⟩
  have ha : a.toNat < ts.length := by omega
  obtain ⟨cl, gl, Dd⟩ := H.deed _ (List.getElem_mem hl) ts e _ (List.getElem_mem ha)
  have e2 : ts[a.toNat]? = some (.tup [chT cl, rowT gl]) := by rw [List.getElem?_eq_getElem ha, Dd.eq]
  exact ⟨cl, gl, ⟨h0, h1, e1, a0, al, e2, Dd.ch⟩, by unfold atIx; rw [if_pos a0, e2], ⟨rfl, Dd.ch, Dd.gn, Dd.gk⟩⟩
theorem at_last {α : Type} (xs : List α) (x : α) : atIx (xs ++ [x]) (-1) = some x := by
  unfold atIx
  rw [if_neg (by decide), if_pos (by rw [List.length_append, List.length_singleton]; omega)]
  have : ((-1 : Int) + ((xs ++ [x]).length : Nat)).toNat = xs.length := by rw [List.length_append, List.length_singleton]; omega
  rw [this]
  simp
theorem addT (s t : List D) (h : s.length + t.length ≤ 1000) : bin .add (.tup s) (.tup t) = some (.tup (s ++ t)) := if_pos (small_lim h)
theorem c_pickT (k : Nat) {m : Sto} {n c0 : Nat} {ds : List D} (hu : Urn m n c0) (hc : c0 ≤ 1000000) (h1 : 1 ≤ ds.length) (h2 : ds.length ≤ 1000000) : ∃ d m', callP prog (k + 2) f__law_pick [.loc n, .tup ds] m = .ok d m' ∧ d ∈ ds ∧ Urn m' n (c0 + 1) ∧ Chg n m m' := by
  obtain ⟨v, m', e, v0, v1, hu', hc'⟩ := c_draw k hu hc (show (1 : Int) ≤ ds.length by omega) (show (ds.length : Int) ≤ 1000000000 by omega)
  obtain ⟨d, hd, hm⟩ := at_mem v0 v1
  refine ⟨d, m', ?_, hm, hu', hc'⟩
  rw [call_eq at__law_pick rfl]
  simp [b__law_pick, e, hd]
theorem c_memory (k : Nat) {m : Sto} {n c : Nat} {d : D} {q : Fr} {p : Nat} {ss : List D} (hu : Urn m n c) (hc : c + 1000 ≤ 1000000) (H : Hall d q p ss) :
    ∃ v m', callP prog (k + 3) f__law_memory [.loc n, d] m = .ok v m' ∧ ((∃ pr s, v = .tup ((pr ++ [s]).map .int) ∧ Mem ss (pr ++ [s]) ∧ pr.length ≤ 8 ∧ 0 ≤ s ∧ s < ss.length) ∧ Urn m' n (c + 20) ∧ Chg n m m') := by
  obtain rfl := H.eq
  have s1 := H.S.pos
  have s8 := H.S.le
  obtain ⟨v, m1, e1, v0, v1, u1, c1⟩ := c_draw (k + 1) (s := ss.length) hu (by omega) (by omega) (by omega)
  obtain ⟨w, m2, e2, hw, u2, c2⟩ := c_pick k (ds := [.int 0, .int 0, .int 1, .int 1, .int 2, .int 3, .int 4]) u1 (by omega) (by decide) (by decide)
  have hx : ∃ x : Nat, w = .int x ∧ x ≤ 4 := by
    simp only [List.mem_cons, List.not_mem_nil, or_false] at hw
    rcases hw with h | h | h | h | h | h | h
    · exact ⟨0, h, by decide⟩
    · exact ⟨0, h, by decide⟩
    · exact ⟨1, h, by decide⟩
    · exact ⟨1, h, by decide⟩
    · exact ⟨2, h, by decide⟩
    · exact ⟨3, h, by decide⟩
    · exact ⟨4, h, by decide⟩
  obtain ⟨x, rfl, x4⟩ := hx
  have sq : ∀ (m : Sto) (ds : List D), seqOf m (.tup ds) = some ds := fun _ _ => rfl
  refine wq_ex ?_
  rw [w_fn _ at__law_memory rfl]
  dsimp only [d__law_memory, b__law_memory]
  simp -dsimp [e1, e2]
  rw [w_rng1 (by unfold lim; omega)]
  simp -dsimp
  refine w_forN' (fun j e mm => ∃ pr s e3 e4, e = [some (.loc n), some (.tup [fr q, .int p, .tup ss]), some (.tup ((pr ++ [s]).map .int)), e3, e4] ∧ Mem ss (pr ++ [s]) ∧ pr.length ≤ 2 * j ∧ (0 ≤ s ∧ s < ss.length) ∧ Urn mm n (c + 2 + 2 * j) ∧ Chg n m mm)
    ⟨[], v, none, none, rfl, .one v v0 v1, by simp, ⟨v0, v1⟩, u2.mono (by omega), c1.trans c2⟩ ?_ ?_
  · rintro j e mm hj ⟨pr, s, e3, e4, rfl, hm, hl, ⟨h0, h1⟩, u, ch⟩
    obtain ⟨ts, g1, g2, t1, t4, hd⟩ := H.at_ h0 h1
    obtain ⟨a, m3, q3, a0, a1, u3, c3⟩ := c_draw (k + 1) (s := ts.length) u (by omega) (by omega) (by omega)
    obtain ⟨cl, gl, At1, g3, Dd⟩ := hd a a0 a1
    have l1 := Dd.ch.row.len
    have l2 := Dd.ch.row.pos
    have l3 := Dd.ch.row.le
    obtain ⟨v4, m4, q4, hv, u4, c4⟩ := c_pickT k (ds := cl.map fun c => .tup [.int c.1, fr c.2]) u3 (by omega) (by rw [List.length_map]; omega) (by rw [List.length_map]; omega)
    obtain ⟨cg, hcg, rfl⟩ := List.mem_map.mp hv
    have i0 := at_last (pr.map D.int) (D.int s)
    have ad := addT (pr.map D.int ++ [D.int s]) [.int a, .int cg.1] (by simp; omega)
    simp -dsimp [i0, g2, q3, g3, q4, ad]
    obtain ⟨b0, b1⟩ := Dd.ch.at_ cg hcg
    have hm2 := Mem.more pr s a cg.1 ts cl gl hm At1 (List.mem_map.mpr ⟨cg, hcg, rfl⟩)
    refine kp ⟨pr ++ [s, a], cg.1, some (.int j), some (.int a), by simp, by simpa using hm2, by simp; omega, ⟨b0, b1⟩, u4.mono (by omega), ch.trans (c3.trans c4)⟩
  · rintro e mm ⟨pr, s, e3, e4, rfl, hm, hl, ⟨h0, h1⟩, u, ch⟩
    simp -dsimp [-List.map_append]
    exact kp ⟨⟨pr, s, rfl, hm, by omega, h0, h1⟩, u.mono (by omega), ch⟩
end K79


set_option Elab.async false
set_option linter.all false
set_option maxRecDepth 100000
/-! K79H: told plans, drawn. -/
namespace K79
open Dh PySem
theorem putD_all {P : NestedKey × D → Prop} {kvs : List (NestedKey × D)} {k : NestedKey} {d : D} (h : ∀ e ∈ kvs, P e) (hk : P (k, d)) : ∀ e ∈ putD kvs k d, P e := by
  intro e he
  unfold putD at he
  split at he
  · obtain ⟨p, hp, rfl⟩ := List.mem_map.mp he
    split
    · rename_i q
      rw [q]
      exact hk
    · exact h p hp
  · rcases List.mem_append.mp he with he | he
    · exact h e he
    · rw [List.mem_singleton.mp he]
      exact hk
theorem putD_len {kvs : List (NestedKey × D)} {k : NestedKey} {d : D} : (putD kvs k d).length ≤ kvs.length + 1 := by
  unfold putD
  split
  · rw [List.length_map]
    omega
  · simp
theorem putD_nodup {kvs : List (NestedKey × D)} {k : NestedKey} {d : D} (h : (kvs.map (·.1)).Nodup) : ((putD kvs k d).map (·.1)).Nodup := by
  unfold putD
  split
  · have e : (kvs.map fun p => if p.1 = k then (p.1, d) else p).map (·.1) = kvs.map (·.1) := by
      rw [List.map_map]
      refine List.map_congr_left fun p _ => ?_
      show (if p.1 = k then (p.1, d) else p).1 = p.1
      split <;> rfl
    rw [e]
    exact h
  · rename_i q
    rw [List.map_append, List.nodup_append]
    refine ⟨h, by simp, fun x hx y hy e => ?_⟩
    have hy2 : y = k := by simpa using hy
    obtain ⟨p, hp, rfl⟩ := List.mem_map.mp hx
    exact q (List.any_eq_true.mpr ⟨p, hp, decide_eq_true (e.trans hy2)⟩)
theorem getK_mem : ∀ {kvs : List (NestedKey × D)} {k : NestedKey} {d : D}, (kvs.map (·.1)).Nodup → (k, d) ∈ kvs → getK kvs k = some d
  | [], _, _, _, h => by simp at h
  | p :: l, k, d, n, h => by
    rw [List.map_cons, List.nodup_cons] at n
    rcases List.mem_cons.mp h with e | h
    · rw [← e]
      simp [getK]
    · have ne : ¬ p.1 = k := fun e => n.1 (e ▸ List.mem_map.mpr ⟨(k, d), h, rfl⟩)
      have ih := getK_mem n.2 h
      unfold getK at ih ⊢
      rw [List.find?_cons_of_neg (by simpa using ne)]
      exact ih
/-- ints as a key -/
abbrev keyN (xs : List Int) : NestedKey := .tup (xs.map .num)
theorem nks_ints : ∀ xs : List Int, nksOf (xs.map D.int) = some (xs.map .num)
  | [] => rfl
  | x :: xs => by
    rw [List.map_cons, nksOf, nks_ints xs]
    rfl
theorem dep_ints : ∀ xs : List Int, NestedKey.depthAll (xs.map .num) = 0
  | [] => rfl
  | x :: xs => by
    rw [List.map_cons, NestedKey.depthAll, dep_ints xs]
    rfl
theorem key_ints (xs : List Int) : keyOf (.tup (xs.map .int)) = some (keyN xs) := by
  show ((nksOf (xs.map D.int)).bind fun ks => if (NestedKey.tup ks).depth ≤ 8 then some (NestedKey.tup ks) else none) = _
  rw [nks_ints]
  show (if (NestedKey.tup (xs.map .num)).depth ≤ 8 then some (NestedKey.tup (xs.map .num)) else none) = _
  rw [if_pos (by rw [NestedKey.depth, dep_ints]; decide)]
theorem ds_ints : ∀ xs : List Int, dsOf (xs.map .num) = xs.map D.int
  | [] => rfl
  | x :: xs => by
    rw [List.map_cons, dsOf, ds_ints xs]
    rfl
theorem d_ints (xs : List Int) : dOf (keyN xs) = .tup (xs.map .int) := by rw [dOf, ds_ints]
theorem ok_ints : ∀ xs ys : List Int, okNs (xs.map .num) (ys.map .num) = true
  | [], _ => rfl
  | _ :: _, [] => rfl
  | x :: xs, y :: ys => by
    rw [List.map_cons, List.map_cons, okNs, ok_ints xs ys]
    rfl
theorem ntx_ints : ∀ xs : List Int, ntxs (xs.map .num) = true
  | [] => rfl
  | x :: xs => by
    rw [List.map_cons, ntxs, ntx_ints xs]
    rfl
theorem sub_dic {m : Sto} {n : Nat} {kvs : List (NestedKey × D)} {xs : List Int} {d : D} (h : m[n]? = some (.dic kvs)) (hl : kvs.length < lim) : setSub (.loc n) (.tup (xs.map .int)) d m = .ok () (m.set n (.dic (putD kvs (keyN xs) d))) := by
  rw [sub_dic0 (dicOf_dic h)]
  unfold setDic
  rw [key_ints]
  dsimp only
  rw [if_pos hl]
theorem get_dic {m : Sto} {n : Nat} {kvs : List (NestedKey × D)} {xs : List Int} {d : D} (h : m[n]? = some (.dic kvs)) (g : getK kvs (keyN xs) = some d) : idxD m (.loc n) (.tup (xs.map .int)) = some d := by
  unfold idxD
  rw [dicOf_dic h]
  dsimp only
  rw [key_ints]
  exact g
/-- a memory with its row -/
structure MemE (ss : List D) (e : List Int × List Fr) : Prop where
  mem : Mem ss e.1
  len : e.1.length ≤ 9
  row : ∃ (pr : List Int) (s : Int) (ts : List D), e.1 = pr ++ [s] ∧ 0 ≤ s ∧ s < ss.length ∧ ss[s.toNat]? = some (.tup ts) ∧ GoodRow ts.length e.2
abbrev entT (e : List Int × List Fr) : D := .tup [.tup (e.1.map .int), rowT e.2]
/-- a told plan's lists -/
structure Told (ss : List D) (L : List (List Int × List Fr)) : Prop where
  len : L.length ≤ 4
  ent : ∀ e ∈ L, MemE ss e
  asc : (L.map fun e => keyN e.1).Pairwise fun a b => ltN a b = true
def Ent (ss : List D) (e : NestedKey × D) : Prop := ∃ x : List Int × List Fr, MemE ss x ∧ e = (keyN x.1, rowT x.2)
theorem mem_ne {ss : List D} {xs : List Int} (h : Mem ss xs) : ∃ x r, xs = x :: r := by
  cases h with
  | one s _ _ => exact ⟨s, [], rfl⟩
  | more p s a g ts cl gl h1 h2 h3 =>
    cases p with
    | nil => exact ⟨s, [a, g], rfl⟩
    | cons x r => exact ⟨x, r ++ [s, a, g], rfl⟩
theorem ents_sortable {ss : List D} {ks : List NestedKey} (h : ∀ k ∈ ks, ∃ x : List Int × List Fr, MemE ss x ∧ k = keyN x.1) : sortable ks = true := by
  unfold sortable
  rw [Bool.and_eq_true, Bool.or_eq_true]
  refine ⟨.inl (List.all_eq_true.mpr fun k hk => ?_), List.all_eq_true.mpr fun a ha => ?_⟩
  · obtain ⟨x, hx, rfl⟩ := h k hk
    obtain ⟨y, r, e⟩ := mem_ne hx.mem
    rw [e]
    rfl
  · obtain ⟨x, hx, rfl⟩ := h a ha
    rw [Bool.and_eq_true]
    refine ⟨decide_eq_true (by rw [NestedKey.depth, dep_ints]; decide), List.all_eq_true.mpr fun b hb => ?_⟩
    obtain ⟨y, hy, rfl⟩ := h b hb
    exact ok_ints x.1 y.1
theorem sorted_told {ss : List D} {kvs : List (NestedKey × D)} (hn : (kvs.map (·.1)).Nodup) (he : ∀ e ∈ kvs, Ent ss e) (hl : kvs.length ≤ 4) :
    ∃ L, Told ss L ∧ sortN (kvs.map (·.1)) = L.map (fun e => keyN e.1) ∧ ∀ e ∈ L, getK kvs (keyN e.1) = some (rowT e.2) := by
  have build : ∀ l : List NestedKey, (∀ k ∈ l, k ∈ kvs.map (·.1)) → ∃ L : List (List Int × List Fr), l = L.map (fun e => keyN e.1) ∧ (∀ e ∈ L, MemE ss e ∧ getK kvs (keyN e.1) = some (rowT e.2)) := by
    intro l
    induction l with
    | nil => exact fun _ => ⟨[], rfl, fun e h => (List.not_mem_nil h).elim⟩
    | cons k l ih =>
      intro h
      obtain ⟨L, e1, e2⟩ := ih fun x hx => h x (List.mem_cons_of_mem _ hx)
      obtain ⟨⟨k', d⟩, hp, rfl⟩ := List.mem_map.mp (h k (List.mem_cons_self ..))
      obtain ⟨x, hx, e⟩ := he _ hp
      cases e
      refine ⟨x :: L, by rw [List.map_cons, ← e1], fun y hy => ?_⟩
      rcases List.mem_cons.mp hy with rfl | hy
      · exact ⟨hx, getK_mem hn hp⟩
      · exact e2 y hy
  have pm := sortN_perm (kvs.map (·.1))
  obtain ⟨L, e1, e2⟩ := build (sortN (kvs.map (·.1))) fun k hk => pm.mem_iff.mp hk
  have ntx_ok : ∀ k ∈ kvs.map (·.1), ntx k = true := by
    intro k hk
    obtain ⟨p, hp, rfl⟩ := List.mem_map.mp hk
    obtain ⟨x, _, rfl⟩ := he p hp
    exact ntx_ints x.1
  have srt := sortN_srt (kvs.map (·.1)) ntx_ok
  have nd : (sortN (kvs.map (·.1))).Nodup := pm.nodup_iff.mpr hn
  refine ⟨L, ⟨?_, fun e h => (e2 e h).1, ?_⟩, e1, fun e h => (e2 e h).2⟩
  · have := congrArg List.length e1
    rw [pm.length_eq, List.length_map, List.length_map] at this
    omega
  · rw [← e1]
    have both := List.Pairwise.and srt nd
    refine List.Pairwise.imp_of_mem (fun {a b} ha hb h => ?_) both
    cases q : ltN a b with
    | true => rfl
    | false => exact (h.2 (ltN_tot a b (ntx_ok a (pm.mem_iff.mp ha)) (ntx_ok b (pm.mem_iff.mp hb)) q h.1)).elim
theorem ds_map : ∀ l : List NestedKey, dsOf l = l.map dOf
  | [] => rfl
  | k :: l => by rw [dsOf, ds_map l, List.map_cons]
theorem c_recalled (k : Nat) {m : Sto} {n c : Nat} {d : D} {q : Fr} {p : Nat} {ss : List D} (hu : Urn m n c) (hc : c + 20000 ≤ 1000000) (H : Hall d q p ss) :
    ∃ v m', callP prog (k + 5) f__law_recalled [.loc n, d] m = .ok v m' ∧ ((∃ L rows, v = .tup [.tup (L.map entT), .tup (rows.map rowT)] ∧ Told ss L ∧ Rows ss rows) ∧ Urn m' n (c + 2000) ∧ Chg n m m') := by
  obtain rfl := H.eq
  have s1 := H.S.pos
  have s8 := H.S.le
  have u0 : Urn (m ++ [.dic []]) n c := hu.chg (Chg.app m.length m _) (Nat.ne_of_lt hu.lt)
  obtain ⟨w, m2, e2, hw, u2, c2⟩ := c_pick (k + 2) (ds := [.int 0, .int 1, .int 2, .int 3, .int 4]) u0 (by omega) (by decide) (by decide)
  have hx : ∃ x : Nat, w = .int x ∧ x ≤ 4 := by
    simp only [List.mem_cons, List.not_mem_nil, or_false] at hw
    rcases hw with h | h | h | h | h
    · exact ⟨0, h, by decide⟩
    · exact ⟨1, h, by decide⟩
    · exact ⟨2, h, by decide⟩
    · exact ⟨3, h, by decide⟩
    · exact ⟨4, h, by decide⟩
  obtain ⟨x, rfl, x4⟩ := hx
  have hn := hu.lt
  have g0 : m2[m.length]? = some (.dic []) := (c2.2 m.length (by simp) (Nat.ne_of_gt hn)).trans (by simp)
  refine wq_ex ?_
  rw [w_fn _ at__law_recalled rfl]
  dsimp only [d__law_recalled, b__law_recalled]
  simp -dsimp [e2]
  rw [w_rng1 (by unfold lim; omega)]
  simp -dsimp
  refine w_forN' (fun j e mm => ∃ kvs e3 e4, e = [some (.loc n), some (.tup [fr q, .int p, .tup ss]), some (.loc m.length), e3, e4] ∧ mm[m.length]? = some (.dic kvs) ∧ (kvs.map (·.1)).Nodup ∧ (∀ e ∈ kvs, Ent ss e) ∧ kvs.length ≤ j ∧ Urn mm n (c + 1 + 200 * j) ∧ Chg n m mm)
    ⟨[], none, none, rfl, g0, List.nodup_nil, fun e h => (List.not_mem_nil h).elim, Nat.le_refl _, u2, (Chg.app n m _).trans c2⟩ ?_ ?_
  · rintro j e mm hj ⟨kvs, e3, e4, rfl, g, hnd, hen, hl, u, ch⟩
    obtain ⟨v, m3, q3, ⟨pr, s, rfl, hm, hpl, h0, h1⟩, u3, c3⟩ := c_memory (k + 1) u (by omega) H
    obtain ⟨ts, g1, g2, t1, t4, hd⟩ := H.at_ h0 h1
    obtain ⟨r, m4, q4, ⟨cs, rfl, gr⟩, u4, c4⟩ := c_oddsG (k + 1) (s := ts.length) u3 (by omega) t1 (by omega)
    have gL : m4[m.length]? = some (.dic kvs) := (c4.2 _ (Nat.lt_of_lt_of_le (lt_of_get g) c3.1) (Nat.ne_of_gt hn)).trans ((c3.2 _ (lt_of_get g) (Nat.ne_of_gt hn)).trans g)
    have i0 := at_last (pr.map D.int) (D.int s)
    have sd := sub_dic (xs := pr ++ [s]) (d := rowT cs) gL (by unfold lim; omega)
    rw [List.map_append, List.map_singleton] at q3 sd
    simp -dsimp [q3, i0, g2, q4, sd]
    refine kp ⟨_, some (.int j), some (.tup (pr.map .int ++ [.int s])), rfl, List.getElem?_set_self (lt_of_get gL), putD_nodup hnd, putD_all hen ⟨(pr ++ [s], cs), ⟨hm, by simp; omega, pr, s, ts, rfl, h0, h1, g1, gr⟩, rfl⟩, Nat.le_trans putD_len (by omega), (u4.chg (Chg.set m.length m4 _) (Nat.ne_of_lt hn)).mono (by omega), ((ch.trans (c3.trans c4)).setNew _ (Nat.le_refl _))⟩
  · rintro e mm ⟨kvs, e3, e4, rfl, g, hnd, hen, hl, u, ch⟩
    obtain ⟨L, T, eL, gL⟩ := sorted_told hnd hen (by omega)
    have so : sortedD mm (.loc m.length) = some (.lst ((L.map fun e => keyN e.1).map dOf)) := by
      unfold sortedD keysOf
      rw [dicOf_dic g]
      show (if (sortable (kvs.map (·.1)) && decide ((kvs.map (·.1)).length ≤ lim)) = true then some (D.lst (dsOf (sortN (kvs.map (·.1))))) else none) = _
      rw [ents_sortable (ss := ss) (fun k hk => by
        obtain ⟨p, hp, rfl⟩ := List.mem_map.mp hk
        obtain ⟨x, hx, rfl⟩ := hen p hp
        exact ⟨x, hx, rfl⟩), decide_eq_true (by rw [List.length_map]; unfold lim; omega), eL, ds_map]
      rfl
    have zc := ev_map (F := callP prog (k + 4)) (elt := .tup (.cons (.var 4) (.cons (.idx (.var 2) (.var 4)) .nil))) (i := 4) (it := .seq (.sortOf (.var 2))) (env := [some (.loc n), some (.tup [fr q, .int p, .tup ss]), some (.loc m.length), e3, e4]) (m := mm) (ds := (L.map fun e => keyN e.1).map dOf)
      (fun d => .tup [d, ((idxD mm (.loc m.length) d).getD .non)]) (seq_lst (by simp [so])) (by rw [List.length_map, List.length_map]; have := T.len; unfold lim; omega) (by simp) fun d hd => by
        obtain ⟨kk, hk, rfl⟩ := List.mem_map.mp hd
        obtain ⟨x, hx, rfl⟩ := List.mem_map.mp hk
        have y := get_dic g (gL x hx)
        rw [d_ints]
        simp [y]
    have em : ((L.map fun e => keyN e.1).map dOf).map (fun d => D.tup [d, ((idxD mm (.loc m.length) d).getD .non)]) = L.map entT := by
      rw [List.map_map, List.map_map]
      refine List.map_congr_left fun x hx => ?_
      have y := get_dic g (gL x hx)
      show D.tup [dOf (keyN x.1), ((idxD mm (.loc m.length) (dOf (keyN x.1))).getD .non)] = _
      rw [d_ints, y]
      rfl
    rw [em] at zc
    obtain ⟨v, m5, q5, ⟨rows, rfl, R⟩, u5, c5⟩ := c_habit k (x := fr q) (p := .int p) u (by omega) H.S
    simp -dsimp [zc, q5]
    exact kp ⟨⟨L, rows, rfl, T, R⟩, u5.mono (by omega), ch.trans c5⟩
end K79


set_option Elab.async false
set_option linter.all false
set_option maxRecDepth 100000
/-! K79I: minded plans, drawn; players. -/
namespace K79
open Dh PySem
theorem keepG {n i : Nat} {x x' : Sto} {o : O} (c : Chg n x x') (h : x[i]? = some o) (ne : i ≠ n) : x'[i]? = some o := (c.2 i (lt_of_get h) ne).trans h
theorem pushG {i : Nat} {x : Sto} {o o' : O} (h : x[i]? = some o) : (x ++ [o'])[i]? = some o := by
  rw [List.getElem?_append_left (lt_of_get h)]
  exact h
theorem setG {i j : Nat} {x : Sto} {o o' : O} (h : x[i]? = some o) (ne : j ≠ i) : (x.set j o')[i]? = some o := by
  rw [List.getElem?_set_ne ne]
  exact h
abbrev rowsT (rs : List (List Fr)) : D := .tup (rs.map rowT)
abbrev intsT (r : List Int) : D := .tup (r.map .int)
abbrev nextT (b : List (List Int)) : D := .tup (b.map intsT)
/-- what minds bring, for the first stands -/
structure Minds (M : Nat) (ss : List D) (A : List (List (List Fr))) (B : List (List (List Int))) : Prop where
  la : A.length = ss.length
  lb : B.length = ss.length
  a : ∀ (j : Nat) (rs : List (List Fr)) (t : D), A[j]? = some rs → ss[j]? = some t → rs.length = M ∧ ∀ cs ∈ rs, GoodRow (seqLen t) cs
  b : ∀ (j : Nat) (r : List (List Int)) (t : D), B[j]? = some r → ss[j]? = some t → r.length = seqLen t ∧ ∀ x ∈ r, x.length = M ∧ ∀ i ∈ x, 0 ≤ i ∧ i < M
theorem snoc_at {α : Type} {xs : List α} {x y : α} {j : Nat} (h : (xs ++ [x])[j]? = some y) : (j < xs.length ∧ xs[j]? = some y) ∨ (j = xs.length ∧ x = y) := by
  by_cases hj : j < xs.length
  · rw [List.getElem?_append_left hj] at h
    exact .inl ⟨hj, h⟩
  · rw [List.getElem?_append_right (by omega)] at h
    have hz : j - xs.length = 0 := by
      by_cases z : j - xs.length = 0
      · exact z
      · rw [List.getElem?_eq_none (by simp; omega)] at h
        cases h
    rw [hz] at h
    exact .inr ⟨by omega, by simpa using h⟩
theorem Minds.snoc {M : Nat} {ss : List D} {A : List (List (List Fr))} {B : List (List (List Int))} {t : D} {rs : List (List Fr)} {r : List (List Int)} (h : Minds M ss A B) (h1 : rs.length = M) (h2 : ∀ cs ∈ rs, GoodRow (seqLen t) cs) (h3 : r.length = seqLen t)
    (h4 : ∀ x ∈ r, x.length = M ∧ ∀ i ∈ x, 0 ≤ i ∧ i < M) : Minds M (ss ++ [t]) (A ++ [rs]) (B ++ [r]) := by
  refine ⟨by simp [h.la], by simp [h.lb], fun j x y e1 e2 => ?_, fun j x y e1 e2 => ?_⟩
  · rcases snoc_at e1 with ⟨l1, e1⟩ | ⟨l1, rfl⟩
    · rcases snoc_at e2 with ⟨l2, e2⟩ | ⟨l2, rfl⟩
      · exact h.a j x y e1 e2
      · have := h.la
        omega
    · rcases snoc_at e2 with ⟨l2, e2⟩ | ⟨l2, rfl⟩
      · have := h.la
        omega
      · exact ⟨h1, h2⟩
  · rcases snoc_at e1 with ⟨l1, e1⟩ | ⟨l1, rfl⟩
    · rcases snoc_at e2 with ⟨l2, e2⟩ | ⟨l2, rfl⟩
      · exact h.b j x y e1 e2
      · have := h.lb
        omega
    · rcases snoc_at e2 with ⟨l2, e2⟩ | ⟨l2, rfl⟩
      · have := h.lb
        omega
      · exact ⟨h3, h4⟩
theorem c_mindful (k : Nat) {m : Sto} {n c : Nat} {d : D} {q : Fr} {p : Nat} {ss : List D} (hu : Urn m n c) (hc : c + 20000 ≤ 1000000) (H : Hall d q p ss) :
    ∃ v m', callP prog (k + 4) f__law_mindful [.loc n, d] m = .ok v m' ∧ ((∃ M A B, v = .tup [.int (M : Nat), .tup (A.map rowsT), .tup (B.map nextT)] ∧ 1 ≤ M ∧ M ≤ 3 ∧ Minds M ss A B) ∧ Urn m' n (c + 10000) ∧ Chg n m m') := by
  obtain rfl := H.eq
  have s1 := H.S.pos
  have s8 := H.S.le
  obtain ⟨v, m1, e1, v0, v1, u1, c1⟩ := c_draw (k + 2) (s := 3) hu (by omega) (by omega) (by omega)
  obtain ⟨M, hM, M1, M3⟩ : ∃ M : Nat, 1 + v = M ∧ 1 ≤ M ∧ M ≤ 3 := ⟨(1 + v).toNat, by omega, by omega, by omega⟩
  have ba : bin .add (.int 1) (.int v) = some (.int (M : Nat)) := by rw [b_add, hM]
  have hn : n < m1.length := Nat.lt_of_lt_of_le hu.lt c1.1
  refine wq_ex ?_
  rw [w_fn _ at__law_mindful rfl]
  dsimp only [d__law_mindful, b__law_mindful]
  simp -dsimp [-List.append_assoc, -b_add, e1, ba]
  refine w_forD (fun pre e mm => ∃ e2 e6 e7 e8 e9 e10 A B, e = [some (.loc n), some (.tup [fr q, .int p, .tup ss]), e2, some (.int (M : Nat)), some (.loc m1.length), some (.loc (m1.length + 1)), e6, e7, e8, e9, e10] ∧ mm[m1.length]? = some (.lst (A.map rowsT)) ∧ mm[m1.length + 1]? = some (.lst (B.map nextT)) ∧ Minds M pre A B ∧ Urn mm n (c + 1 + 1000 * pre.length) ∧ Chg n m mm)
    ⟨none, none, none, none, none, none, [], [], rfl, by simp, by simp, ⟨rfl, rfl, by simp, by simp⟩, (u1.chg (Chg.app m1.length m1 _) (Nat.ne_of_lt hn)).chg (Chg.app (m1.length + 1) _ _) (by omega), (c1.trans (Chg.app n m1 _)).trans (Chg.app n _ _)⟩ ?_ ?_
  · rintro pre t post e mm he ⟨e2, e6, e7, e8, e9, e10, A, B, rfl, gA, gB, Mi, u, ch⟩
    have hpre : pre.length + 1 ≤ ss.length := by rw [he]; simp
    obtain ⟨ts, rfl, t1, t4⟩ := H.S.row t (by rw [he]; simp)
    have hb := lt_of_get gB
    simp -dsimp [-List.append_assoc]
    rw [w_rng1 (by unfold lim; omega)]
    simp -dsimp [-List.append_assoc]
    have p0 : ∀ (x : Sto), (mm ++ [O.lst []] ++ [O.lst []])[mm.length]? = some (.lst []) ∧ (mm ++ [O.lst []] ++ [O.lst []])[mm.length + 1]? = some (.lst []) := fun _ => by simp
    have u0 : Urn (mm ++ [O.lst []] ++ [O.lst []]) n (c + 1 + 1000 * pre.length) := (u.chg (Chg.app mm.length mm _) (by omega)).chg (Chg.app (mm.length + 1) _ _) (by omega)
    have ch0 : Chg n m (mm ++ [O.lst []] ++ [O.lst []]) := (ch.trans (Chg.app n mm _)).trans (Chg.app n _ _)
    refine w_forN' (fun j e x => ∃ e6 S, e = [some (.loc n), some (.tup [fr q, .int p, .tup ss]), some (.tup ts), some (.int (M : Nat)), some (.loc m1.length), some (.loc (m1.length + 1)), e6, e7, some (.loc mm.length), some (.loc (mm.length + 1)), e10] ∧
      x[m1.length]? = some (.lst (A.map rowsT)) ∧ x[m1.length + 1]? = some (.lst (B.map nextT)) ∧ x[mm.length]? = some (.lst (S.map rowT)) ∧ x[mm.length + 1]? = some (.lst []) ∧ (S.length = j ∧ ∀ cs ∈ S, GoodRow ts.length cs) ∧ Urn x n (c + 1 + 1000 * pre.length + 101 * j) ∧ Chg n m x)
      ⟨e6, [], rfl, pushG (pushG gA), pushG (pushG gB), (p0 m).1, (p0 m).2, ⟨rfl, fun _ h => (List.not_mem_nil h).elim⟩, u0, ch0⟩ ?_ ?_
    · rintro j e x hj ⟨e6, S, rfl, xA, xB, x8, x9, ⟨sl, sg⟩, ux, cx⟩
      obtain ⟨r, x2, q3, ⟨cs, rfl, gr⟩, u3, c3⟩ := c_oddsG k (s := ts.length) ux (by omega) t1 (by omega)
      have y8 := keepG c3 x8 (by omega)
      have nd := isDic_lst x8
      have ap := app_loc (d := rowT cs) y8 (by rw [List.length_map]; unfold lim; omega)
      simp -dsimp [-List.map_append, q3, nd, ap]
      refine kp ⟨some (.int j), S ++ [cs], rfl, setG (keepG c3 xA (by omega)) (by omega), setG (keepG c3 xB (by omega)) (by omega), by rw [List.getElem?_set_self (lt_of_get y8), List.map_append]; rfl, setG (keepG c3 x9 (by omega)) (by omega), ⟨by simp [sl], fun z hz => ?_⟩, (u3.chg (Chg.set mm.length x2 _) (by omega)).mono (by omega), (cx.trans c3).setNew _ (Nat.le_trans (by have := ch.1; omega) (Nat.le_refl _))⟩
      rcases List.mem_append.mp hz with hz | hz
      · exact sg z hz
      · rw [List.mem_singleton.mp hz]
        exact gr
    · rintro e x ⟨e6, S, rfl, xA, xB, x8, x9, ⟨sl, sg⟩, ux, cx⟩
      simp -dsimp [-List.append_assoc]
      refine w_forD (fun pr e y => ∃ e6 e7 e10 Bh, e = [some (.loc n), some (.tup [fr q, .int p, .tup ss]), some (.tup ts), some (.int (M : Nat)), some (.loc m1.length), some (.loc (m1.length + 1)), e6, e7, some (.loc mm.length), some (.loc (mm.length + 1)), e10] ∧
        y[m1.length]? = some (.lst (A.map rowsT)) ∧ y[m1.length + 1]? = some (.lst (B.map nextT)) ∧ y[mm.length]? = some (.lst (S.map rowT)) ∧ y[mm.length + 1]? = some (.lst (Bh.map intsT)) ∧ (Bh.length = pr.length ∧ ∀ r ∈ Bh, r.length = M ∧ ∀ i ∈ r, 0 ≤ i ∧ i < (M : Int)) ∧ Urn y n (c + 1 + 1000 * pre.length + 303 + 10 * pr.length) ∧ Chg n m y)
        ⟨e6, e7, e10, [], rfl, xA, xB, x8, x9, ⟨rfl, fun _ h => (List.not_mem_nil h).elim⟩, ux.mono (by simp; omega), cx⟩ ?_ ?_
      · rintro pr act po e y hact ⟨e6, e7, e10, Bh, rfl, yA, yB, y8, y9, ⟨bl, bg⟩, uy, cy⟩
        have hpr : pr.length + 1 ≤ ts.length := by rw [hact]; simp
        have h9 := lt_of_get y9
        simp -dsimp [-List.append_assoc]
        rw [w_rng1 (by unfold lim; omega)]
        simp -dsimp [-List.append_assoc]
        refine w_forN' (fun j e z => ∃ e6 G, e = [some (.loc n), some (.tup [fr q, .int p, .tup ss]), some (.tup ts), some (.int (M : Nat)), some (.loc m1.length), some (.loc (m1.length + 1)), e6, some act, some (.loc mm.length), some (.loc (mm.length + 1)), some (.loc y.length)] ∧
          z[m1.length]? = some (.lst (A.map rowsT)) ∧ z[m1.length + 1]? = some (.lst (B.map nextT)) ∧ z[mm.length]? = some (.lst (S.map rowT)) ∧ z[mm.length + 1]? = some (.lst (Bh.map intsT)) ∧ z[y.length]? = some (.lst (G.map .int)) ∧ (G.length = j ∧ ∀ i ∈ G, 0 ≤ i ∧ i < (M : Int)) ∧ Urn z n (c + 1 + 1000 * pre.length + 303 + 10 * pr.length + j) ∧ Chg n m z)
          ⟨e6, [], rfl, pushG yA, pushG yB, pushG y8, pushG y9, by simp, ⟨rfl, fun _ h => (List.not_mem_nil h).elim⟩, uy.chg (Chg.app y.length y _) (by omega), cy.trans (Chg.app n y _)⟩ ?_ ?_
        · rintro j e z hj ⟨e6, G, rfl, zA, zB, z8, z9, z10, ⟨gl, gg⟩, uz, cz⟩
          obtain ⟨g, z2, q4, g0, g1, u4, c4⟩ := c_draw (k + 2) (s := M) uz (by omega) (by omega) (by omega)
          have w10 := keepG c4 z10 (by omega)
          have nd := isDic_lst z10
          have ap := app_loc (d := .int g) w10 (by rw [List.length_map]; unfold lim; omega)
          simp -dsimp [-List.map_append, q4, nd, ap]
          refine kp ⟨some (.int j), G ++ [g], rfl, setG (keepG c4 zA (by omega)) (by omega), setG (keepG c4 zB (by omega)) (by omega), setG (keepG c4 z8 (by omega)) (by omega), setG (keepG c4 z9 (by omega)) (by omega), by rw [List.getElem?_set_self (lt_of_get w10), List.map_append]; rfl, ⟨by simp [gl], fun i hi => ?_⟩, (u4.chg (Chg.set y.length z2 _) (by omega)).mono (by omega), (cz.trans c4).setNew _ (by have := cy.1; omega)⟩
          rcases List.mem_append.mp hi with hi | hi
          · exact gg i hi
          · rw [List.mem_singleton.mp hi]
            exact ⟨g0, g1⟩
        · rintro e z ⟨e6, G, rfl, zA, zB, z8, z9, z10, ⟨gl, gg⟩, uz, cz⟩
          have tG := tuple_loc z10
          have nd := isDic_lst z9
          have ap := app_loc (d := intsT G) z9 (by rw [List.length_map]; unfold lim; omega)
          simp -dsimp [-List.map_append, tG, nd, ap]
          have hz9 := lt_of_get z9
          refine kp ⟨e6, some act, some (.loc y.length), Bh ++ [G], rfl, setG zA (by omega), setG zB (by omega), setG z8 (by omega), by rw [List.getElem?_set_self hz9, List.map_append]; rfl, ⟨by simp [bl], fun r hr => ?_⟩, (uz.chg (Chg.set (mm.length + 1) z _) (by omega)).mono (by simp; omega), cz.setNew _ (by have := ch.1; omega)⟩
          rcases List.mem_append.mp hr with hr | hr
          · exact bg r hr
          · rw [List.mem_singleton.mp hr]
            exact ⟨gl, gg⟩
      · rintro e y ⟨e6, e7, e10, Bh, rfl, yA, yB, y8, y9, ⟨bl, bg⟩, uy, cy⟩
        have tS := tuple_loc y8
        have ndA := isDic_lst yA
        have apA := app_loc (d := rowsT S) yA (by rw [List.length_map, Mi.la]; unfold lim; omega)
        have yB2 : (y.set m1.length (.lst (A.map rowsT ++ [rowsT S])))[m1.length + 1]? = some (.lst (B.map nextT)) := setG yB (by omega)
        have y92 : (y.set m1.length (.lst (A.map rowsT ++ [rowsT S])))[mm.length + 1]? = some (.lst (Bh.map intsT)) := setG y9 (by omega)
        have tB := tuple_loc y92
        have ndB := isDic_lst yB2
        have apB := app_loc (d := nextT Bh) yB2 (by rw [List.length_map, Mi.lb]; unfold lim; omega)
        simp -dsimp [-List.map_append, tS, ndA, apA, tB, ndB, apB]
        have lA := lt_of_get yA
        have lB := lt_of_get yB2
        refine kp ⟨some (.tup ts), e6, e7, some (.loc mm.length), some (.loc (mm.length + 1)), e10, A ++ [S], B ++ [Bh], rfl, ?_, ?_, Mi.snoc sl sg bl bg, ?_, ?_⟩
        · rw [List.getElem?_set_ne (by omega), List.getElem?_set_self lA, List.map_append]
          rfl
        · rw [List.getElem?_set_self lB, List.map_append]
          rfl
        · exact ((uy.chg (Chg.set m1.length y _) (by omega)).chg (Chg.set (m1.length + 1) _ _) (by omega)).mono (by simp; omega)
        · exact (cy.setNew _ c1.1).setNew _ (by have := c1.1; omega)
  · rintro e mm ⟨e2, e6, e7, e8, e9, e10, A, B, rfl, gA, gB, Mi, u, ch⟩
    have tA := tuple_loc gA
    have tB := tuple_loc gB
    simp -dsimp [tA, tB]
    exact kp ⟨⟨M, A, B, rfl, M1, M3, Mi⟩, u.mono (by omega), ch⟩
end K79


set_option Elab.async false
set_option linter.all false
set_option maxRecDepth 100000
/-! K79J: players, drawn; the program finds them right. -/
namespace K79
open Dh PySem
abbrev tStill : List Nat := [115, 116, 105, 108, 108]
abbrev tMinded : List Nat := [109, 105, 110, 100, 101, 100]
abbrev tTold : List Nat := [116, 111, 108, 100]
inductive Hero (ss : List D) : D → Prop
  | still (rows : List (List Fr)) : Rows ss rows → Hero ss (.tup [.str tStill, rowsT rows])
  | minded (M : Nat) (A : List (List (List Fr))) (B : List (List (List Int))) : 1 ≤ M → M ≤ 3 → Minds M ss A B → Hero ss (.tup [.str tMinded, .tup [.int (M : Nat), .tup (A.map rowsT), .tup (B.map nextT)]])
  | told (L : List (List Int × List Fr)) (rows : List (List Fr)) : Told ss L → Rows ss rows → Hero ss (.tup [.str tTold, .tup [.tup (L.map entT), rowsT rows]])
theorem c_hero (k : Nat) {m : Sto} {n c : Nat} {d : D} {q : Fr} {p : Nat} {ss : List D} (hu : Urn m n c) (hc : c + 30000 ≤ 1000000) (H : Hall d q p ss) :
    ∃ v m', callP prog (k + 6) f__law_hero [.loc n, d] m = .ok v m' ∧ (Hero ss v ∧ Urn m' n (c + 12000) ∧ Chg n m m') := by
  have H0 := H
  obtain rfl := H.eq
  obtain ⟨w, m1, e1, hw, u1, c1⟩ := c_pick (k + 3) (ds := [.str tStill, .str tMinded, .str tMinded, .str tTold, .str tTold, .str tTold]) hu (by omega) (by decide) (by decide)
  have hx : w = .str tStill ∨ w = .str tMinded ∨ w = .str tTold := by
    simp only [List.mem_cons, List.not_mem_nil, or_false] at hw
    rcases hw with h | h | h | h | h | h
    · exact .inl h
    · exact .inr (.inl h)
    · exact .inr (.inl h)
    · exact .inr (.inr h)
    · exact .inr (.inr h)
    · exact .inr (.inr h)
  refine wq_ex ?_
  rw [w_fn _ at__law_hero rfl]
  dsimp only [d__law_hero, b__law_hero]
  have eqs : ∀ (m : Sto) (a b : List Nat), cmp m .eq (.str a) (.str b) = some (.bl (decide (a = b))) := fun _ _ _ => rfl
  rcases hx with rfl | rfl | rfl
  · obtain ⟨v, m2, q2, ⟨rows, rfl, R⟩, u2, c2⟩ := c_habit (k + 1) (x := fr q) (p := .int p) u1 (by omega) H.S
    simp -dsimp [e1, eqs, q2]
    exact kp ⟨.still rows R, u2.mono (by omega), c1.trans c2⟩
  · obtain ⟨v, m2, q2, ⟨M, A, B, rfl, M1, M3, Mi⟩, u2, c2⟩ := c_mindful (k + 1) u1 (by omega) H0
    simp -dsimp [e1, eqs, q2]
    exact kp ⟨.minded M A B M1 M3 Mi, u2.mono (by omega), c1.trans c2⟩
  · obtain ⟨v, m2, q2, ⟨L, rows, rfl, T, R⟩, u2, c2⟩ := c_recalled k u1 (by omega) H0
    simp -dsimp [e1, eqs, q2]
    exact kp ⟨.told L rows T R, u2.mono (by omega), c1.trans c2⟩
/-! ### sizes -/
theorem rows_sm {ss : List D} {rows : List (List Fr)} (S : Stands ss) (R : Rows ss rows) : Sm (rowsT rows) := by
  have s8 := S.le
  refine ⟨by rw [List.length_map, R.len]; omega, Bds.of fun d hd => ?_⟩
  obtain ⟨cs, hcs, rfl⟩ := List.mem_map.mp hd
  obtain ⟨j, hj⟩ := List.mem_iff_getElem?.mp hcs
  have hl : j < ss.length := by rw [← R.len]; exact (List.getElem?_eq_some_iff.mp hj).1
  exact good_sz (R.row j cs _ hj (List.getElem?_eq_getElem hl))
theorem stands_len {ss : List D} (S : Stands ss) {j : Nat} {t : D} (h : ss[j]? = some t) : ∃ ts, t = .tup ts ∧ 1 ≤ ts.length ∧ ts.length ≤ 4 := S.row t (List.mem_of_getElem? h)
/-! ### minded plans -/
theorem minds_odds {M : Nat} {ss : List D} {A : List (List (List Fr))} {B : List (List (List Int))} (S : Stands ss) (m3 : M ≤ 3) (Mi : Minds M ss A B) {o t : D} (h : D.tup [o, t] ∈ zipD (A.map rowsT) ss) : ∃ ts, t = .tup ts ∧ ts.length ≤ 4 ∧ Sm o ∧ oddsB M ts.length o = true := by
  obtain ⟨j, hj⟩ := List.mem_iff_getElem?.mp h
  obtain ⟨x, y, h1, h2, e⟩ := zip_get hj
  cases e
  rw [List.getElem?_map] at h1
  obtain ⟨rs, h3, rfl⟩ := Option.map_eq_some_iff.mp h1
  obtain ⟨ts, rfl, t1, t4⟩ := stands_len S h2
  obtain ⟨g1, g2⟩ := Mi.a j rs _ h3 h2
  refine ⟨ts, rfl, t4, ⟨by rw [List.length_map]; omega, Bds.of fun d hd => ?_⟩, ?_⟩
  · obtain ⟨cs, hcs, rfl⟩ := List.mem_map.mp hd
    exact good_sz (g2 cs hcs)
  · show (decide (((rs.map rowT).length : Int) = M) && (rs.map rowT).all fun r => chanceB r ts.length) = true
    rw [List.length_map, g1, Bool.and_eq_true, List.all_eq_true]
    refine ⟨by simp, fun d hd => ?_⟩
    obtain ⟨cs, hcs, rfl⟩ := List.mem_map.mp hd
    exact good_chance (g2 cs hcs)
theorem minds_nexts {M : Nat} {ss : List D} {A : List (List (List Fr))} {B : List (List (List Int))} (S : Stands ss) (Mi : Minds M ss A B) {o t : D} (h : D.tup [o, t] ∈ zipD (B.map nextT) ss) : ∃ ts, t = .tup ts ∧ ts.length ≤ 4 ∧ nextsB M ts.length o = true := by
  obtain ⟨j, hj⟩ := List.mem_iff_getElem?.mp h
  obtain ⟨x, y, h1, h2, e⟩ := zip_get hj
  cases e
  rw [List.getElem?_map] at h1
  obtain ⟨r, h3, rfl⟩ := Option.map_eq_some_iff.mp h1
  obtain ⟨ts, rfl, t1, t4⟩ := stands_len S h2
  obtain ⟨g1, g2⟩ := Mi.b j r _ h3 h2
  refine ⟨ts, rfl, t4, ?_⟩
  show (decide (((r.map intsT).length : Int) = ts.length) && (r.map intsT).all (nextB M)) = true
  rw [List.length_map, g1, Bool.and_eq_true, List.all_eq_true]
  refine ⟨by simp [seqLen], fun d hd => ?_⟩
  obtain ⟨xs, hx, rfl⟩ := List.mem_map.mp hd
  obtain ⟨f1, f2⟩ := g2 xs hx
  show (decide (((xs.map D.int).length : Int) = M) && (xs.map D.int).all fun r => betw r 0 (M - 1)) = true
  rw [List.length_map, f1, Bool.and_eq_true, List.all_eq_true]
  refine ⟨by simp, fun d hd => ?_⟩
  obtain ⟨i, hi, rfl⟩ := List.mem_map.mp hd
  obtain ⟨i0, i1⟩ := f2 i hi
  show (decide (0 ≤ i) && decide (i ≤ (M : Int) - 1)) = true
  simp
  omega
theorem c_minded (k : Nat) {d : D} {q : Fr} {p : Nat} {ss : List D} (m : Sto) (H : Hall d q p ss) {M : Nat} {A : List (List (List Fr))} {B : List (List (List Int))} (M1 : 1 ≤ M) (M3 : M ≤ 3) (Mi : Minds M ss A B) :
    callP prog (k + 6) f_is_minded_by [d, .tup [.int (M : Nat), .tup (A.map rowsT), .tup (B.map nextT)]] m = .ok (.bl true) m := by
  obtain rfl := H.eq
  have s8 := H.S.le
  have zA := ev_mapP (F := callP prog (k + 5)) (elt := .call f_are_odds (.cons (.var 5) (.cons (.var 2) (.cons (.var 6) .nil)))) (i := 5) (j := 6) (it := .zip (.var 3) (.idx (.var 0) (.cst (.int 2)))) (env := [some (.tup [fr q, .int p, .tup ss]), some (.tup [.int (M : Nat), .tup (A.map rowsT), .tup (B.map nextT)]), some (.int (M : Nat)), some (.tup (A.map rowsT)), some (.tup (B.map nextT)), none, none]) (m := m) (ds := zipD (A.map rowsT) ss)
    (fun _ => .bl true) (zip_tup (by simp) (by simp)) (by rw [zipD_len']; exact small_lim (by omega)) (by simp) (by simp) fun d hd => by
      obtain ⟨o, t, rfl, _, _⟩ := zipD_mem hd
      obtain ⟨ts, rfl, t4, sz, ok⟩ := minds_odds H.S M3 Mi hd
      have y := c_are_odds k o M ts m (by omega) (by omega) sz.sz
      rw [ok] at y
      exact ⟨_, _, rfl, by simp [y]⟩
  have zB := ev_mapP (F := callP prog (k + 5)) (elt := .call f_are_nexts (.cons (.var 5) (.cons (.var 2) (.cons (.var 6) .nil)))) (i := 5) (j := 6) (it := .zip (.var 4) (.idx (.var 0) (.cst (.int 2)))) (env := [some (.tup [fr q, .int p, .tup ss]), some (.tup [.int (M : Nat), .tup (A.map rowsT), .tup (B.map nextT)]), some (.int (M : Nat)), some (.tup (A.map rowsT)), some (.tup (B.map nextT)), none, none]) (m := m) (ds := zipD (B.map nextT) ss)
    (fun _ => .bl true) (zip_tup (by simp) (by simp)) (by rw [zipD_len']; exact small_lim (by omega)) (by simp) (by simp) fun d hd => by
      obtain ⟨o, t, rfl, _, _⟩ := zipD_mem hd
      obtain ⟨ts, rfl, t4, ok⟩ := minds_nexts H.S Mi hd
      have y := c_are_nexts (k + 2) o M ts m (by omega) (by omega)
      rw [ok] at y
      exact ⟨_, _, rfl, by simp [y]⟩
  have t3 := c_is_tuple_of (k + 4) (.tup [.int (M : Nat), .tup (A.map rowsT), .tup (B.map nextT)]) 3 m
  have tb := c_is_between (k + 3) (.int (M : Nat)) 1 4 m
  have bt : betw (.int (M : Nat)) 1 4 = true := by
    show (decide (1 ≤ (M : Int)) && decide ((M : Int) ≤ 4)) = true
    simp
    omega
  rw [bt] at tb
  have tA := c_is_tuple_of (k + 4) (.tup (A.map rowsT)) ss.length m
  have tB := c_is_tuple_of (k + 4) (.tup (B.map nextT)) ss.length m
  have oA : tupOf (.tup (A.map rowsT)) ss.length = true := by
    show decide (((A.map rowsT).length : Int) = ss.length) = true
    rw [List.length_map, Mi.la]
    simp
  have oB : tupOf (.tup (B.map nextT)) ss.length = true := by
    show decide (((B.map nextT).length : Int) = ss.length) = true
    rw [List.length_map, Mi.lb]
    simp
  rw [oA] at tA
  rw [oB] at tB
  have all1 : ∀ l : List D, allB (l.map fun _ => D.bl true) = some true := by
    intro l
    induction l with
    | nil => rfl
    | cons x xs ih =>
      rw [List.map_cons, allB, ih]
      rfl
  rw [call_eq at_is_minded_by rfl]
  simp [-List.map_const', b_is_minded_by, t3, tupOf, tb, tA, tB, zA, zB, all1]
end K79


set_option Elab.async false
set_option linter.all false
set_option maxRecDepth 100000
/-! K79K: memories, told plans, players are right. -/
namespace K79
open Dh PySem
theorem ints_lay : ∀ (xs : List Int), PySem.PyData.canLayAll0 (D.pys (xs.map .int)) = true ∧ PySem.PyData.depthAll (D.pys (xs.map .int)) = 0 ∧ D.flats (xs.map .int) = true
  | [] => ⟨rfl, rfl, rfl⟩
  | x :: xs => by
    obtain ⟨h1, h2, h3⟩ := ints_lay xs
    refine ⟨?_, ?_, ?_⟩
    · show (PySem.PyData.canLay0 (.int x) && PySem.PyData.canLayAll0 (D.pys (xs.map .int))) = true
      rw [h1]
      rfl
    · show max (PySem.PyData.depth (.int x)) (PySem.PyData.depthAll (D.pys (xs.map .int))) = 0
      rw [h2]
      rfl
    · show (true && D.flats (xs.map .int)) = true
      rw [h3]
      rfl
theorem ints_shaped (xs : List Int) : D.shaped (.lst (xs.map .int)) = true := by
  obtain ⟨h1, h2, h3⟩ := ints_lay xs
  show (D.flats (xs.map .int) && (PySem.PyData.canLayAll0 (D.pys (xs.map .int)) && decide (PySem.PyData.depthAll (D.pys (xs.map .int)) + 1 ≤ 64))) = true
  rw [h1, h2, h3]
  rfl
theorem notin_ints (m : Sto) {x : Int} {xs : List Int} (h : x ∈ xs) : cmp m .notin (.int x) (.lst (xs.map .int)) = some (.bl false) := by
  have e0 : cmp m .notin (.int x) (.lst (xs.map .int)) = if (D.int x).shaped && (D.lst (xs.map .int)).shaped then some (.bl (!(xs.map D.int).any fun z => PySem.PyData.eqv z.py (D.int x).py)) else none := rfl
  rw [e0, ints_shaped]
  have e1 : (D.int x).shaped = true := rfl
  rw [e1]
  have e2 : ((xs.map D.int).any fun z => PySem.PyData.eqv z.py (D.int x).py) = true := by
    rw [List.any_map, List.any_eq_true]
    refine ⟨x, h, ?_⟩
    show PySem.PyData.eqv (.int x) (.int x) = true
    simp [PySem.PyData.eqv]
  rw [e2]
  rfl
theorem mem_odd {ss : List D} {xs : List Int} (h : Mem ss xs) : ∃ N, xs.length = 2 * N + 1 := by
  induction h with
  | one s _ _ => exact ⟨0, rfl⟩
  | more p s a g ts cl gl _ _ _ ih =>
    obtain ⟨N, hN⟩ := ih
    exact ⟨N + 1, by simp at hN ⊢; omega⟩
theorem mem_first {ss : List D} {xs : List Int} (h : Mem ss xs) : ∃ x : Int, xs[0]? = some x ∧ 0 ≤ x ∧ x < ss.length := by
  induction h with
  | one s h0 h1 => exact ⟨s, rfl, h0, h1⟩
  | more p s a g ts cl gl _ _ _ ih =>
    obtain ⟨x, h1, h2⟩ := ih
    refine ⟨x, ?_, h2⟩
    cases p with
    | nil => simpa using h1
    | cons y r => simpa using h1
/-- step by step -/
theorem mem_at {ss : List D} (hs : ∀ (ts : List D) (cl : List (Int × Fr)) (gl : List Fr) (s a : Int), At ss s a ts cl gl → ∀ g ∈ cl.map (·.1), 0 ≤ g ∧ g < (ss.length : Int)) {xs : List Int} (h : Mem ss xs) : ∀ i, 2 * i + 2 < xs.length → ∃ (s a g : Int) (ts : List D) (cl : List (Int × Fr)) (gl : List Fr), xs[2 * i]? = some s ∧ xs[2 * i + 1]? = some a ∧ xs[2 * i + 2]? = some g ∧ At ss s a ts cl gl ∧ g ∈ cl.map (·.1) ∧ 0 ≤ g ∧ g < ss.length := by
  induction h with
  | one s _ _ =>
    intro i hi
    simp at hi
  | more p s a g ts cl gl hm ha hg ih =>
    intro i hi
    obtain ⟨N, hN⟩ := mem_odd hm
    rw [List.length_append, List.length_singleton] at hN
    have e : p ++ [s, a, g] = (p ++ [s]) ++ [a, g] := by simp
    have hpl : p.length = 2 * N := by omega
    by_cases q : 2 * i + 2 < (p ++ [s]).length
    · obtain ⟨s', a', g', ts', cl', gl', h1, h2, h3, h4⟩ := ih i q
      refine ⟨s', a', g', ts', cl', gl', ?_, ?_, ?_, h4⟩
      · rw [e, List.getElem?_append_left (by omega)]
        exact h1
      · rw [e, List.getElem?_append_left (by omega)]
        exact h2
      · rw [e, List.getElem?_append_left q]
        exact h3
    · rw [List.length_append, List.length_singleton] at q
      simp at hi
      have hi2 : i = N := by omega
      subst hi2
      refine ⟨s, a, g, ts, cl, gl, ?_, ?_, ?_, ha, hg, hs ts cl gl s a ha g hg⟩
      · rw [List.getElem?_append_right (by omega), hpl]
        simp
      · rw [List.getElem?_append_right (by omega), hpl]
        simp
      · rw [List.getElem?_append_right (by omega), hpl]
        simp
theorem at_goal {ss : List D} (ts : List D) (cl : List (Int × Fr)) (gl : List Fr) (s a : Int) (h : At ss s a ts cl gl) : ∀ g ∈ cl.map (·.1), 0 ≤ g ∧ g < (ss.length : Int) := by
  intro g hg
  obtain ⟨c, hc, rfl⟩ := List.mem_map.mp hg
  exact h.ch.at_ c hc
theorem betw_ok {x : Int} {a b : Int} (h1 : a ≤ x) (h2 : x ≤ b) : betw (.int x) a b = true := by
  show (decide (a ≤ x) && decide (x ≤ b)) = true
  simp [h1, h2]
theorem ix_map {xs : List Int} {j : Nat} {x : Int} (h : xs[j]? = some x) : atIx (xs.map D.int) (j : Int) = some (.int x) := by
  unfold atIx
  rw [if_pos (by omega), Int.toNat_natCast, List.getElem?_map, h]
  rfl
theorem c_is_memory (k : Nat) {d : D} {q : Fr} {p : Nat} {ss : List D} (m : Sto) (H : Hall d q p ss) {xs : List Int} (hm : Mem ss xs) (hl : xs.length ≤ 9) : callP prog (k + 3) f_is_memory [d, .tup (xs.map .int)] m = .ok (.bl true) m := by
  obtain rfl := H.eq
  have s1 := H.S.pos
  have s8 := H.S.le
  obtain ⟨N, hN⟩ := mem_odd hm
  obtain ⟨x0, g0, x00, x01⟩ := mem_first hm
  have tb := fun m => c_is_between k (.int x0) 0 ((ss.length : Int) - 1) m
  rw [betw_ok x00 (by omega)] at tb
  have i0 : atIx (xs.map D.int) 0 = some (.int x0) := ix_map g0
  have md : bin .mod (.int (2 * (N : Int) + 1)) (.int 2) = some (.int 1) := by
    rw [b_mod (by decide)]
    congr 2
    omega
  have q1 : (1 : Int) ≤ 2 * (N : Int) + 1 := by omega
  have q2 : 2 * (N : Int) + 1 ≤ 9 := by omega
  have rg : rangedC 1 (2 * (N : Int) + 1) 2 = (List.range N).map fun i => D.int (1 + (i : Nat) * 2) := by
    unfold rangedC
    have : ((2 * (N : Int) + 1 - 1 + 2 - 1) / 2).toNat = N := by omega
    rw [this]
  have key : ∃ v m', callP prog (k + 3) f_is_memory [.tup [fr q, .int p, .tup ss], .tup (xs.map .int)] m = .ok v m' ∧ (v = .bl true ∧ m' = m) := by
    refine wq_ex ?_
    rw [w_fn _ at_is_memory rfl]
    dsimp only [d_is_memory, b_is_memory]
    simp -dsimp [i0, tb, md, isa, hN, q1, q2]
    rw [w_rngC (i := 1) (j := 2 * (N : Int) + 1) (c := 2) ⟨by decide, by decide⟩ ⟨by unfold lim; omega, by unfold lim; omega⟩ ⟨by decide, by decide⟩, rg]
    simp -dsimp
    refine w_forI (fun pre e mm => ∃ e2 e3 e4 e5, e = [some (.tup [fr q, .int p, .tup ss]), some (.tup (xs.map .int)), e2, e3, e4, e5] ∧ mm = m) ⟨none, none, none, none, rfl, rfl⟩ ?_ ?_
    · rintro pre i post e mm he ⟨e2, e3, e4, e5, rfl, rfl⟩
      have hi : i = pre.length ∧ i < N := by
        have h1 : (List.range N)[pre.length]? = some i := by rw [he]; simp
        obtain ⟨h2, h3⟩ := List.getElem?_eq_some_iff.mp h1
        rw [List.length_range] at h2
        rw [List.getElem_range] at h3
        exact ⟨h3.symm, by omega⟩
      obtain ⟨s, a, g, ts, cl, gl, g1, g2, g3, A1, hg, g0, gN⟩ := mem_at at_goal hm i (by omega)
      have j1 : atIx (xs.map D.int) (1 + (i : Int) * 2 - 1) = some (.int s) := by
        have := ix_map g1
        rwa [show ((2 * i : Nat) : Int) = 1 + (i : Int) * 2 - 1 by omega] at this
      have j2 : atIx (xs.map D.int) (1 + (i : Int) * 2) = some (.int a) := by
        have := ix_map g2
        rwa [show ((2 * i + 1 : Nat) : Int) = 1 + (i : Int) * 2 by omega] at this
      have j3 : atIx (xs.map D.int) (1 + (i : Int) * 2 + 1) = some (.int g) := by
        have := ix_map g3
        rwa [show ((2 * i + 2 : Nat) : Int) = 1 + (i : Int) * 2 + 1 by omega] at this
      have j4 : atIx ss s = some (.tup ts) := by
        unfold atIx
        rw [if_pos A1.s0, A1.st]
      have j5 : atIx ts a = some (.tup [chT cl, rowT gl]) := by
        unfold atIx
        rw [if_pos A1.a0, A1.at_]
      have b1 := fun m => c_is_between k (.int a) 0 ((ts.length : Int) - 1) m
      rw [betw_ok A1.a0 (by have := A1.al; omega)] at b1
      have b2 := fun m => c_is_between k (.int g) 0 ((ss.length : Int) - 1) m
      rw [betw_ok g0 (by omega)] at b2
      have ni := notin_ints mm hg
      have zc := ev_mapP (F := callP prog (k + 2)) (elt := .var 4) (i := 4) (j := 5) (it := .seq (.idx (.idx (.var 3) (.idx (.var 1) (.var 2))) (.cst (.int 0)))) (env := [some (.tup [fr q, .int p, .tup ss]), some (.tup (xs.map .int)), some (.int (1 + (i : Int) * 2)), some (.tup ts), e4, e5]) (m := mm) (ds := cl.map fun c => .tup [.int c.1, fr c.2])
        (fun d => .int (stI d)) (seq_tup (by simp [j2, j5])) (by rw [List.length_map]; have := A1.ch.row.le; exact small_lim (by omega)) (by simp) (by simp) fun d hd => by
          obtain ⟨c, hc, rfl⟩ := List.mem_map.mp hd
          exact ⟨_, _, rfl, rfl⟩
      have em : (cl.map fun c => D.tup [.int c.1, fr c.2]).map (fun d => D.int (stI d)) = (cl.map (·.1)).map D.int := by
        rw [List.map_map, List.map_map]
        rfl
      rw [em] at zc
      simp -dsimp [-List.map_map, j1, j2, j3, j4, b1, b2, zc, ni]
      exact kp ⟨_, _, _, _, rfl, rfl⟩
    · rintro e mm ⟨e2, e3, e4, e5, rfl, rfl⟩
      simp -dsimp
      exact kp ⟨rfl, rfl⟩
  obtain ⟨v, m', e, rfl, rfl⟩ := key
  exact e
theorem sz_ints {xs : List Int} (h : ∀ x ∈ xs, Bt x 100) (hl : xs.length ≤ 100) : Sm (intsT xs) := ⟨by rw [List.length_map]; exact hl, Bds.of fun d hd => by
  obtain ⟨x, hx, rfl⟩ := List.mem_map.mp hd
  exact h x hx⟩
theorem lt_keys (m : Sto) (xs ys : List Int) : cmp m .lt (.tup (xs.map .int)) (.tup (ys.map .int)) = some (.bl (ltNs (xs.map .num) (ys.map .num))) := by
  show ltT (xs.map D.int) (ys.map D.int) = _
  unfold ltT
  rw [nks_ints, nks_ints]
  show (if (okNs (xs.map .num) (xs.map .num) && okNs (ys.map .num) (ys.map .num) && okNs (xs.map .num) (ys.map .num) && decide ((NestedKey.tup (xs.map .num)).depth ≤ 8)) = true then some (D.bl (ltNs (xs.map .num) (ys.map .num))) else none) = _
  rw [ok_ints, ok_ints, ok_ints, decide_eq_true (by rw [NestedKey.depth, dep_ints]; decide)]
  rfl
theorem all1 : ∀ l : List D, allB (l.map fun _ => D.bl true) = some true
  | [] => rfl
  | x :: xs => by
    rw [List.map_cons, allB, all1 xs]
    rfl
theorem tail_drop (m : Sto) (xs : List D) : slD m (.tup xs) (some 1) none = some (.tup (xs.drop 1)) := by
  show some (D.tup (cutL xs (some 1) none)) = _
  congr 2
  unfold cutL slB
  simp only [show ¬ ((1 : Int) < 0) by decide, if_false, show (1 : Int).toNat = 1 from rfl]
  cases xs with
  | nil => rfl
  | cons x r =>
    rw [Nat.min_eq_left (by simp)]
    exact List.take_of_length_le (by simp)
theorem asc_pairs {α : Type} {R : α → α → Prop} {f : α → D} : ∀ {l : List α}, l.Pairwise R → ∀ d ∈ zipD (l.map f) ((l.map f).drop 1), ∃ a b, d = .tup [f a, f b] ∧ R a b ∧ a ∈ l ∧ b ∈ l
  | [], _, d, h => by simp [zipD] at h
  | [x], _, d, h => by simp [zipD] at h
  | x :: y :: l, p, d, h => by
    have p' := List.pairwise_cons.mp p
    have h' : d ∈ D.tup [f x, f y] :: zipD ((y :: l).map f) (((y :: l).map f).drop 1) := h
    rcases List.mem_cons.mp h' with e | h'
    · exact ⟨x, y, e, p'.1 y (List.mem_cons_self ..), List.mem_cons_self .., List.mem_cons_of_mem _ (List.mem_cons_self ..)⟩
    · obtain ⟨a, b, e, r, ha, hb⟩ := asc_pairs p'.2 d h'
      exact ⟨a, b, e, r, List.mem_cons_of_mem _ ha, List.mem_cons_of_mem _ hb⟩
theorem c_told (k : Nat) {d : D} {q : Fr} {p : Nat} {ss : List D} (m : Sto) (H : Hall d q p ss) {L : List (List Int × List Fr)} {rows : List (List Fr)} (T : Told ss L) (R : Rows ss rows) :
    callP prog (k + 6) f_is_told_by [d, .tup [.tup (L.map entT), rowsT rows]] m = .ok (.bl true) m := by
  have H0 := H
  obtain rfl := H.eq
  have s8 := H.S.le
  have tl := T.len
  have t2 := c_is_tuple_of (k + 4) (.tup [.tup (L.map entT), rowsT rows]) 2 m
  have ll : ((L.map entT).length : Int) ≤ 32 := by rw [List.length_map]; omega
  have z1 := ev_map (F := callP prog (k + 5)) (elt := .and (.call f_is_tuple_of (.cons (.var 2) (.cons (.cst (.int 2)) .nil))) (.call f_is_memory (.cons (.var 0) (.cons (.idx (.var 2) (.cst (.int 0))) .nil)))) (i := 2) (it := .seq (.idx (.var 1) (.cst (.int 0)))) (env := [some (.tup [fr q, .int p, .tup ss]), some (.tup [.tup (L.map entT), rowsT rows]), none, none, none, none, none]) (m := m) (ds := L.map entT)
    (fun _ => .bl true) (seq_tup (by simp)) (by rw [List.length_map]; exact small_lim (by omega)) (by simp) fun d hd => by
      obtain ⟨e, he, rfl⟩ := List.mem_map.mp hd
      have y1 := c_is_tuple_of (k + 4) (entT e) 2 m
      have y2 := c_is_memory (k + 2) m H0 (T.ent e he).mem (T.ent e he).len
      simp [y1, tupOf, y2]
  have z2 := ev_mapP (F := callP prog (k + 5)) (elt := .cmp .lt (.idx (.var 3) (.cst (.int 0))) (.idx (.var 4) (.cst (.int 0)))) (i := 3) (j := 4) (it := .zip (.idx (.var 1) (.cst (.int 0))) (.sl (.idx (.var 1) (.cst (.int 0))) (.cst (.int 1)) (.nop))) (env := [some (.tup [fr q, .int p, .tup ss]), some (.tup [.tup (L.map entT), rowsT rows]), none, none, none, none, none]) (m := m) (ds := zipD (L.map entT) ((L.map entT).drop 1))
    (fun _ => .bl true) (zip_tup (by simp) (by simp [partOf, isNop, tail_drop])) (by rw [zipD_len', List.length_map]; exact small_lim (by omega)) (by simp) (by simp) fun d hd => by
      have asc := T.asc
      rw [List.pairwise_map] at asc
      obtain ⟨a, b, rfl, r, _, _⟩ := asc_pairs asc d hd
      have y := lt_keys m a.1 b.1
      have y2 : ltNs (a.1.map .num) (b.1.map .num) = true := r
      rw [y2] at y
      exact ⟨_, _, rfl, by simp [y]⟩
  have z3 := ev_mapP (F := callP prog (k + 5)) (elt := .call f_is_chance_row (.cons (.var 6) (.cons (.blt .len (.cons (.idx (.idx (.var 0) (.cst (.int 2))) (.idx (.var 5) (.neg (.cst (.int 1))))) .nil)) .nil))) (i := 5) (j := 6) (it := .seq (.idx (.var 1) (.cst (.int 0)))) (env := [some (.tup [fr q, .int p, .tup ss]), some (.tup [.tup (L.map entT), rowsT rows]), none, none, none, none, none]) (m := m) (ds := L.map entT)
    (fun _ => .bl true) (seq_tup (by simp)) (by rw [List.length_map]; exact small_lim (by omega)) (by simp) (by simp) fun d hd => by
      obtain ⟨e, he, rfl⟩ := List.mem_map.mp hd
      obtain ⟨pr, s, ts, e1, s0, s1, e2, gr⟩ := (T.ent e he).row
      have i0 := at_last (pr.map D.int) (D.int s)
      have i1 : atIx ss s = some (.tup ts) := by
        unfold atIx
        rw [if_pos s0, e2]
      have y := c_is_chance_row (k + 1) (rowT e.2) ts.length m (by have := gr.le; omega) (good_sz gr).sz
      rw [good_chance gr] at y
      refine ⟨_, _, rfl, ?_⟩
      rw [e1]
      simp [i0, i1, y]
  have y := c_is_still_by k (fr q) (.int p) ss (rowsT rows) m H.S.rooms (rows_sm H.S R).sz
  rw [rows_still R H.S] at y
  rw [call_eq at_is_told_by rfl]
  have ll2 : ¬ (32 < (L.length : Int)) := by omega
  simp [-List.map_map, b_is_told_by, t2, tupOf, isa, ll2, z1, z2, z3, all1, y]
theorem c_player (k : Nat) {d : D} {q : Fr} {p : Nat} {ss : List D} (m : Sto) (H : Hall d q p ss) {v : D} (h : Hero ss v) : callP prog (k + 7) f_is_player_by [d, v] m = .ok (.bl true) m := by
  have H0 := H
  obtain rfl := H.eq
  have eqs : ∀ (m : Sto) (a b : List Nat), cmp m .eq (.str a) (.str b) = some (.bl (decide (a = b))) := fun _ _ _ => rfl
  have t2 : ∀ x y : D, callP prog (k + 6) f_is_tuple_of [.tup [x, y], .int 2] m = .ok (.bl true) m := fun x y => c_is_tuple_of (k + 5) (.tup [x, y]) 2 m
  rw [call_eq at_is_player_by rfl]
  cases h with
  | still rows R =>
    have y := c_is_still_by (k + 1) (fr q) (.int p) ss (rowsT rows) m H.S.rooms (rows_sm H.S R).sz
    rw [rows_still R H.S] at y
    simp [b_is_player_by, t2, isa, eqs, y]
  | minded M A B M1 M3 Mi =>
    have y := c_minded k m H0 M1 M3 Mi
    simp [b_is_player_by, t2, isa, eqs, y]
  | told L rows T R =>
    have y := c_told k m H0 T R
    simp [b_is_player_by, t2, isa, eqs, y]
end K79


set_option Elab.async false
set_option linter.all false
set_option maxRecDepth 100000
/-! K79L: the law's reading of fractions, odds, still plans. -/
namespace K79
open Dh PySem
theorem c_is_whole' (k : Nat) (d : D) (m : Sto) : callP prog (k + 1) f__law_is_whole [d] m = .ok (.bl (whole d)) m := by
  rw [call_eq at__law_is_whole rfl]
  cases d <;> rfl
theorem c_lpart (k : Nat) (d : D) (m : Sto) (hz : Sz d) : callP prog (k + 2) f__law_is_part [d] m = .ok (.bl (ratB d)) m := by
  rw [call_eq at__law_is_part rfl]
  cases d with
  | tup ds =>
    cases h : tupOf (.tup ds) 2 with
    | false =>
      have h' : ¬ ((ds.length : Int) = 2) := of_decide_eq_false h
      simp [b__law_is_part, h', ratB_not h]
    | true =>
      obtain ⟨x, y, e⟩ := tup2 h
      cases e
      cases x with
      | int a =>
        cases y with
        | int b =>
          by_cases q : 0 < b
          · have z := c_cut k a b m q (Bt.mono (show Bt b 200 from hz.at2.2) (by decide))
            have e : decide ((ratZ a b).1 = a ∧ (ratZ a b).2 = b) = decide (Nat.gcd a.natAbs b.natAbs = 1) := by
              rw [← ratZ_self q]
              congr 1
              exact propext ⟨fun h => Prod.ext h.1 h.2, fun h => by rw [h]; exact ⟨rfl, rfl⟩⟩
            simp [b__law_is_part, c_is_whole', whole, q, z, e, ratB]
          · simp [b__law_is_part, c_is_whole', whole, q, ratB]
        | _ => simp [b__law_is_part, c_is_whole', whole, ratB]
      | _ => simp [b__law_is_part, c_is_whole', whole, ratB]
  | _ => simp [b__law_is_part, isa, ratB]
theorem c_lband (k : Nat) (d : D) (n : Int) (m : Sto) (hz : Sz d) : callP prog (k + 3) f__law_is_band [d, .int n] m = .ok (.bl (rowB d n)) m := by
  rw [call_eq at__law_is_band rfl]
  cases d with
  | tup ds =>
    by_cases q : (ds.length : Int) = n
    · have z := ev_filter (F := callP prog (k + 2)) (i := 2) (it := .seq (.var 0)) (c := .not (.call f__law_is_part (.cons (.var 2) .nil))) (env := [some (.tup ds), some (.int n), none]) (m := m) (ds := ds) (fun d => !ratB d) (seq_tup (by simp)) (small_lim hz.1) (by simp) fun d hd => by simp [c_lpart k d m (hz.2.all d hd)]
      obtain ⟨L, hL, aL⟩ := filt_of ratB ds
      rw [hL] at z
      have e : rowB (.tup ds) n = ds.all ratB := by
        show (decide _ && _) = _
        rw [decide_eq_true q]
        rfl
      rw [e]
      generalize ds.all ratB = B at aL
      simp [b__law_is_band, q, z, aL]
    · have e : rowB (.tup ds) n = false := by
        show (decide _ && _) = _
        rw [decide_eq_false q]
        rfl
      simp [b__law_is_band, q, e]
  | _ => simp [b__law_is_band, isa, rowB]
theorem c_lplus (k : Nat) (p q : Fr) (m : Sto) (h1 : 0 < p.2) (h2 : 0 < q.2) {a b : Nat} (hp1 : Bt p.1 a) (hp2 : Bt p.2 a) (hq1 : Bt q.1 b) (hq2 : Bt q.2 b) (hab : a + b ≤ 9000) : callP prog (k + 2) f__law_plus [fr p, fr q] m = .ok (fr (plusZ p q)) m := by
  have z := c_cut k (p.1 * q.2 + q.1 * p.2) (p.2 * q.2) m (Int.mul_pos h1 h2) ((hp2.mul hq2).mono hab)
  have m1 := b_mulB hp1 hq2 (by omega) (by omega)
  have m2 := b_mulB hq1 hp2 (by omega) (by omega)
  have m3 := b_mulB hp2 hq2 (by omega) (by omega)
  rw [call_eq at__law_plus rfl]
  simp [b__law_plus, m1, m2, m3, z]
  exact ⟨rfl, rfl⟩

theorem c_lodds (k : Nat) (d : D) (n : Int) (m : Sto) (hn : n ≤ 8) (hz : Sz d) : callP prog (k + 4) f__law_is_odds [d, .int n] m = .ok (.bl (chanceB d n)) m := by
  have key : ∃ v m', callP prog (k + 4) f__law_is_odds [d, .int n] m = .ok v m' ∧ (v = .bl (chanceB d n) ∧ m' = m) := by
    refine wq_ex ?_
    rw [w_fn _ at__law_is_odds rfl]
    dsimp only [d__law_is_odds, b__law_is_odds]
    have r := c_lband k d n m hz
    cases q : rowB d n with
    | false =>
      rw [q] at r
      have e : chanceB d n = false := by
        cases d with
        | tup ds =>
          have q2 : (decide ((ds.length : Int) = n) && ds.all ratB) = false := q
          show ((decide ((ds.length : Int) = n) && ds.all ratB) && _) = false
          rw [q2]
          rfl
        | _ => rfl
      simp -dsimp [r]
      exact kp ⟨by rw [e], rfl⟩
    | true =>
      rw [q] at r
      cases d with
      | tup ds =>
        have q2 : (decide ((ds.length : Int) = n) && ds.all ratB) = true := q
        rw [Bool.and_eq_true, decide_eq_true_eq] at q2
        obtain ⟨q2, q3⟩ := q2
        obtain ⟨hl, hz2⟩ := hz
        have e0 : chanceB (.tup ds) n = (ds.all nonneg && decide (totZ (ds.map rtI) = (1, 1))) := by
          show ((decide ((ds.length : Int) = n) && ds.all ratB) && _) = _
          rw [q3, decide_eq_true q2]
          rfl
        obtain ⟨cs, rfl⟩ : ∃ cs : List (Int × Int), ds = cs.map fr := ⟨_, frs_of q3⟩
        have fact : ∀ c ∈ cs, 0 < c.2 ∧ Bt c.1 200 ∧ Bt c.2 200 := by
          intro c hc
          have hd : fr c ∈ cs.map fr := List.mem_map.mpr ⟨c, hc, rfl⟩
          have sz := hz2.all _ hd
          obtain ⟨a, b, e, h3, _⟩ := ratB_sh (List.all_eq_true.mp q3 _ hd)
          obtain ⟨_, sa, sb, _⟩ := sz
          cases e
          exact ⟨h3, sa, sb⟩
        have e1 : chanceB (.tup (cs.map fr)) n = (cs.all (fun c => decide (0 ≤ c.1)) && decide (totZ cs = (1, 1))) := by
          rw [e0, rt_fr]
          congr 1
          rw [List.all_map]
          rfl
        rw [List.length_map] at q2
        simp -dsimp [r, -List.map_map]
        refine w_forI (fun pre e mm => ∃ e3, e = [some (.tup (cs.map fr)), some (.int n), some (fr (totZ pre)), e3] ∧ mm = m ∧ (∀ c ∈ pre, 0 ≤ c.1) ∧ (0 < (totZ pre).2 ∧ Bt (totZ pre).1 (201 * pre.length + 1) ∧ Bt (totZ pre).2 (201 * pre.length + 1)))
          ⟨none, rfl, rfl, fun c h => (List.not_mem_nil h).elim, by decide, by unfold Bt; decide, by unfold Bt; decide⟩ ?_ ?_
        · rintro pre x post e mm he ⟨e3, rfl, rfl, hp, t0, t1, t2⟩
          have hl2 : pre.length + 1 ≤ 8 := by
            have := congrArg List.length he
            rw [List.length_append, List.length_cons] at this
            omega
          have hx : x ∈ cs := by rw [he]; simp
          obtain ⟨x0, x1, x2⟩ := fact x hx
          simp -dsimp
          by_cases hn : x.1 < 0
          · simp -dsimp [hn]
            refine kp ⟨?_, rfl⟩
            rw [e1]
            have : (cs.all fun c => decide (0 ≤ c.1)) = false := by
              rw [List.all_eq_false]
              exact ⟨x, hx, by simp; omega⟩
            rw [this]
            rfl
          · have z := c_lplus (k + 1) (totZ pre) x mm t0 x0 t1 t2 x1 x2 (by omega)
            simp only [fr] at z
            have et : totZ (pre ++ [x]) = plusZ (totZ pre) x := by
              unfold totZ
              rw [List.foldl_append]
              rfl
            have pb := plusZ_bt t1 t2 x1 x2
            simp -dsimp [hn, z]
            refine kp ⟨some (fr x), by rw [et]; rfl, rfl, fun c hc => ?_, ?_⟩
            · rcases List.mem_append.mp hc with h | h
              · exact hp c h
              · rw [List.mem_singleton.mp h]
                omega
            · rw [et]
              refine ⟨plusZ_pos t0 x0, pb.1.mono ?_, pb.2.mono ?_⟩ <;> simp <;> omega
        · rintro e mm ⟨e3, rfl, rfl, hp, t0, t1, t2⟩
          have z := eq_one mm (totZ cs)
          simp only [fr] at z
          simp -dsimp [z]
          refine kp ⟨?_, rfl⟩
          rw [e1]
          have : (cs.all fun c => decide (0 ≤ c.1)) = true := List.all_eq_true.mpr fun c hc => by simpa using hp c hc
          rw [this]
          rfl
      | _ => cases q
  obtain ⟨v, m', e, rfl, rfl⟩ := key
  exact e
theorem zip_pairs (os ss : List D) (hl : os.length = ss.length) : (zipD os ss).all stPair = true ↔ ∀ (j : Nat) (o t : D), os[j]? = some o → ss[j]? = some t → chanceB o (seqLen t) = true := by
  induction os generalizing ss with
  | nil => simp [zipD]
  | cons o os ih =>
    cases ss with
    | nil => simp at hl
    | cons t ss =>
      have hl2 : os.length = ss.length := by simpa using hl
      show (stPair (.tup [o, t]) && (zipD os ss).all stPair) = true ↔ _
      rw [Bool.and_eq_true, ih ss hl2]
      constructor
      · rintro ⟨h1, h2⟩ j o' t' e1 e2
        cases j with
        | zero =>
          simp at e1 e2
          subst e1 e2
          exact h1
        | succ j => exact h2 j o' t' (by simpa using e1) (by simpa using e2)
      · intro h
        exact ⟨h 0 o t rfl rfl, fun j o' t' e1 e2 => h (j + 1) o' t' (by simpa using e1) (by simpa using e2)⟩
theorem c_lhabit (k : Nat) (x p : D) (ss : List D) (d : D) (m : Sto) (hr : Rooms ss) (hz : Sz d) : callP prog (k + 5) f__law_is_habit [d, .tup [x, p, .tup ss]] m = .ok (.bl (stillB ss d)) m := by
  rw [call_eq at__law_is_habit rfl]
  cases d with
  | tup os =>
    by_cases q : (os.length : Int) = ss.length
    · have hl : os.length = ss.length := by omega
      have rg : ranged 0 (os.length : Int) = (List.range os.length).map fun i => D.int (i : Nat) := by
        unfold ranged
        have : ((os.length : Int) - 0).toNat = os.length := by omega
        rw [this]
        congr 1
        funext i
        rw [Int.zero_add]
      let P : D → Bool := fun d => match d with
        | .int i => (match os[i.toNat]?, ss[i.toNat]? with
          | some o, some t => chanceB o (seqLen t)
          | _, _ => true)
        | _ => true
      have z := ev_filter (F := callP prog (k + 4)) (i := 2) (it := .range (.cons (.blt .len (.cons (.var 0) .nil)) .nil)) (c := .not (.call f__law_is_odds (.cons (.idx (.var 0) (.var 2)) (.cons (.blt .len (.cons (.idx (.idx (.var 1) (.cst (.int 2))) (.var 2)) .nil)) .nil))))
        (env := [some (.tup os), some (.tup [x, p, .tup ss]), none]) (m := m) (ds := ranged 0 (os.length : Int)) (fun d => !P d) (rng1 (by simp) (by unfold lim; omega) (by have := hr.1; unfold lim; omega)) (by rw [rg, List.length_map, List.length_range]; have := hr.1; exact small_lim (by omega)) (by simp) fun d hd => by
          rw [rg] at hd
          obtain ⟨i, hi, rfl⟩ := List.mem_map.mp hd
          have hi := List.mem_range.mp hi
          obtain ⟨o, ho⟩ : ∃ o, os[i]? = some o := ⟨_, List.getElem?_eq_getElem hi⟩
          obtain ⟨t, ht⟩ : ∃ t, ss[i]? = some t := ⟨_, List.getElem?_eq_getElem (by omega)⟩
          obtain ⟨ts, rfl, tl⟩ := hr.2 t (List.mem_of_getElem? ht)
          have y := c_lodds k o ts.length m (by omega) (hz.2.all o (List.mem_of_getElem? ho))
          have i1 : atIx os (i : Int) = some o := by unfold atIx; rw [if_pos (by omega), Int.toNat_natCast, ho]
          have i2 : atIx ss (i : Int) = some (.tup ts) := by unfold atIx; rw [if_pos (by omega), Int.toNat_natCast, ht]
          have e : P (.int (i : Nat)) = chanceB o ts.length := by
            show (match os[((i : Nat) : Int).toNat]?, ss[((i : Nat) : Int).toNat]? with
              | some o, some t => chanceB o (seqLen t)
              | _, _ => true) = _
            rw [Int.toNat_natCast, ho, ht]
            rfl
          rw [e]
          simp [y, i1, i2]
      obtain ⟨L, hL, aL⟩ := filt_of P (ranged 0 (os.length : Int))
      rw [hL] at z
      have e : stillB ss (.tup os) = (ranged 0 (os.length : Int)).all P := by
        have e0 : stillB ss (.tup os) = (zipD os ss).all stPair := by
          show (decide _ && _) = _
          rw [decide_eq_true q]
          rfl
        rw [e0, Bool.eq_iff_iff, zip_pairs os ss hl, rg, List.all_map, List.all_eq_true]
        constructor
        · intro h i hi
          have hi := List.mem_range.mp hi
          show P (.int (i : Nat)) = true
          show (match os[((i : Nat) : Int).toNat]?, ss[((i : Nat) : Int).toNat]? with
            | some o, some t => chanceB o (seqLen t)
            | _, _ => true) = true
          rw [Int.toNat_natCast]
          have ho := List.getElem?_eq_getElem hi
          have ht := List.getElem?_eq_getElem (show i < ss.length by omega)
          rw [ho, ht]
          exact h i _ _ ho ht
        · intro h j o t ho ht
          have hi : j < os.length := (List.getElem?_eq_some_iff.mp ho).1
          have w : P (.int (j : Nat)) = true := h j (List.mem_range.mpr hi)
          have w2 : (match os[((j : Nat) : Int).toNat]?, ss[((j : Nat) : Int).toNat]? with
            | some o, some t => chanceB o (seqLen t)
            | _, _ => true) = true := w
          rw [Int.toNat_natCast, ho, ht] at w2
          exact w2
      rw [e]
      generalize (ranged 0 (os.length : Int)).all P = B at aL
      simp [b__law_is_habit, q, z, aL]
    · have e : stillB ss (.tup os) = false := by
        show (decide _ && _) = _
        rw [decide_eq_false q]
        rfl
      simp [b__law_is_habit, q, e]
  | _ => simp [b__law_is_habit, isa, stillB]
end K79


set_option Elab.async false
set_option linter.all false
set_option maxRecDepth 100000
/-! K79M: memories of anything: both readings. -/
namespace K79
open Dh PySem
/-- whether something holds -/
noncomputable def bB (P : Prop) : Bool := @decide P (Classical.propDecidable P)
/-- .. as data -/
noncomputable def bP (P : Prop) : D := .bl (bB P)
theorem bB_t {P : Prop} (h : P) : bB P = true := @decide_eq_true P (Classical.propDecidable P) h
theorem bB_f {P : Prop} (h : ¬ P) : bB P = false := @decide_eq_false P (Classical.propDecidable P) h
theorem bB_iff {P : Prop} : bB P = true ↔ P := @decide_eq_true_iff P (Classical.propDecidable P)
theorem bB_eq {P : Prop} {b : Bool} (h : b = true ↔ P) : b = bB P := by
  cases b with
  | true => exact (bB_t (h.mp rfl)).symm
  | false => exact (bB_f fun p => by cases h.mpr p).symm
theorem bP_t {P : Prop} (h : P) : D.bl true = bP P := by unfold bP; rw [bB_t h]
theorem bP_f {P : Prop} (h : ¬ P) : D.bl false = bP P := by unfold bP; rw [bB_f h]
theorem bP_b {P : Prop} {b : Bool} (h : b = true ↔ P) : D.bl b = bP P := by unfold bP; rw [bB_eq h]
theorem bP_iff {P Q : Prop} (h : P ↔ Q) : bP P = bP Q := by rw [propext h]
/-- one step of a memory -/
def StepOk (ss : List D) (s a g : Int) : Prop := ∃ ts cl gl, At ss s a ts cl gl ∧ g ∈ cl.map (·.1)
def StAt (ss vs : List D) (i : Nat) : Prop := ∃ s a g : Int, vs[2 * i]? = some (.int s) ∧ vs[2 * i + 1]? = some (.int a) ∧ vs[2 * i + 2]? = some (.int g) ∧ StepOk ss s a g
structure IsMem (ss vs : List D) : Prop where
  odd : vs.length % 2 = 1
  le : vs.length ≤ 9
  hd : ∃ x : Int, vs[0]? = some (.int x) ∧ 0 ≤ x ∧ x < ss.length
  st : ∀ i, 2 * i + 2 < vs.length → StAt ss vs i
def IsMemD (ss : List D) (d : D) : Prop := ∃ vs, d = .tup vs ∧ IsMem ss vs
theorem isMem_t {ss vs : List D} : IsMemD ss (.tup vs) ↔ IsMem ss vs := ⟨fun ⟨_, e, h⟩ => by cases e; exact h, fun h => ⟨vs, rfl, h⟩⟩
theorem chT_inj {a b : List (Int × Fr)} (h : chT a = chT b) : a = b := by
  have h2 : a.map (fun c => D.tup [.int c.1, fr c.2]) = b.map (fun c => D.tup [.int c.1, fr c.2]) := by injection h
  clear h
  induction a generalizing b with
  | nil =>
    cases b with
    | nil => rfl
    | cons c b => cases h2
  | cons c a ih =>
    cases b with
    | nil => cases h2
    | cons c' b =>
      obtain ⟨x, y, z⟩ := c
      obtain ⟨x', y', z'⟩ := c'
      simp [fr] at h2
      obtain ⟨⟨e1, e2, e3⟩, e4⟩ := h2
      rw [e1, e2, e3, ih (by simpa [fr] using e4)]
/-- where a memory stands, step by step -/
theorem stand_at {ss vs : List D} {n : Nat} (hd : ∃ x : Int, vs[0]? = some (.int x) ∧ 0 ≤ x ∧ x < ss.length) (h : ∀ i, i < n → StAt ss vs i) : ∀ i, i ≤ n → ∃ x : Int, vs[2 * i]? = some (.int x) ∧ 0 ≤ x ∧ x < ss.length := by
  intro i hi
  cases i with
  | zero => exact hd
  | succ i =>
    obtain ⟨s, a, g, h1, h2, h3, ts, cl, gl, A, hg⟩ := h i (by omega)
    obtain ⟨c, hc, rfl⟩ := List.mem_map.mp hg
    exact ⟨_, by rw [show 2 * (i + 1) = 2 * i + 2 by omega]; exact h3, A.ch.at_ c hc⟩
theorem atIx_nat {α : Type} {xs : List α} {j : Nat} {x : α} (h : xs[j]? = some x) : atIx xs (j : Int) = some x := by
  unfold atIx
  rw [if_pos (by omega), Int.toNat_natCast, h]
theorem notin_intsG (m : Sto) (x : Int) (xs : List Int) : cmp m .notin (.int x) (.lst (xs.map .int)) = some (.bl (!decide (x ∈ xs))) := by
  have e0 : cmp m .notin (.int x) (.lst (xs.map .int)) = if (D.int x).shaped && (D.lst (xs.map .int)).shaped then some (.bl (!(xs.map D.int).any fun z => PySem.PyData.eqv z.py (D.int x).py)) else none := rfl
  rw [e0, ints_shaped]
  have e1 : (D.int x).shaped = true := rfl
  rw [e1]
  have e2 : ((xs.map D.int).any fun z => PySem.PyData.eqv z.py (D.int x).py) = decide (x ∈ xs) := by
    rw [Bool.eq_iff_iff, List.any_map, List.any_eq_true, decide_eq_true_eq]
    constructor
    · rintro ⟨y, hy, e⟩
      have e3 : PySem.PyData.eqv (.int y) (.int x) = true := e
      have : y = x := by simpa [PySem.PyData.eqv] using e3
      exact this ▸ hy
    · intro h
      refine ⟨x, h, ?_⟩
      show PySem.PyData.eqv (.int x) (.int x) = true
      simp [PySem.PyData.eqv]
  rw [e2]
  rfl
theorem rg_odd {n N : Nat} (h : n = 2 * N + 1) : rangedC 1 (n : Int) 2 = (List.range N).map fun i => D.int (1 + (i : Nat) * 2) := by
  unfold rangedC
  have : (((n : Int) - 1 + 2 - 1) / 2).toNat = N := by omega
  rw [this]
theorem betw_iff {v : D} {a b : Int} : betw v a b = true ↔ ∃ x : Int, v = .int x ∧ a ≤ x ∧ x ≤ b := by
  cases v with
  | int x =>
    show (decide (a ≤ x) && decide (x ≤ b)) = true ↔ _
    simp
  | _ => exact ⟨fun h => (by cases h), fun ⟨x, e, _⟩ => (by cases e)⟩
theorem at_range {N i : Nat} {pre post : List Nat} (he : List.range N = pre ++ i :: post) : i = pre.length ∧ i < N := by
  have h1 : (List.range N)[pre.length]? = some i := by rw [he]; simp
  obtain ⟨h2, h3⟩ := List.getElem?_eq_some_iff.mp h1
  rw [List.length_range] at h2
  rw [List.getElem_range] at h3
  exact ⟨h3.symm, by omega⟩
/-- what one step turns on -/
theorem step_iff {d : D} {q : Fr} {p : Nat} {ss vs : List D} (H : Hall d q p ss) {i : Nat} {s : Int} {ts : List D} {a b : D} (h1 : vs[2 * i]? = some (.int s)) (h0 : 0 ≤ s) (hl : s < ss.length) (ht : atIx ss s = some (.tup ts)) (h2 : vs[2 * i + 1]? = some a) (h3 : vs[2 * i + 2]? = some b) :
    (StAt ss vs i → betw a 0 ((ts.length : Int) - 1) = true ∧ betw b 0 ((ss.length : Int) - 1) = true) ∧
    ∀ x y cl gl, a = .int x → b = .int y → 0 ≤ x → x < ts.length → atIx ts x = some (.tup [chT cl, rowT gl]) → At ss s x ts cl gl → (StAt ss vs i ↔ y ∈ cl.map (·.1)) := by
  constructor
  · rintro ⟨s', a', g', e1, e2, e3, ts', cl, gl, A, hg⟩
    rw [h1] at e1
    cases e1
    rw [h2] at e2
    cases e2
    rw [h3] at e3
    cases e3
    have e4 : atIx ss s = some (.tup ts') := by unfold atIx; rw [if_pos A.s0, A.st]
    rw [ht] at e4
    cases e4
    obtain ⟨c, hc, rfl⟩ := List.mem_map.mp hg
    have := A.ch.at_ c hc
    exact ⟨betw_iff.mpr ⟨_, rfl, A.a0, by have := A.al; omega⟩, betw_iff.mpr ⟨_, rfl, this.1, by omega⟩⟩
  · rintro x y cl gl rfl rfl x0 x1 e A
    constructor
    · rintro ⟨s', a', g', e1, e2, e3, ts', cl', gl', A', hg⟩
      rw [h1] at e1
      cases e1
      rw [h2] at e2
      cases e2
      rw [h3] at e3
      cases e3
      have e4 : atIx ss s = some (.tup ts') := by unfold atIx; rw [if_pos A'.s0, A'.st]
      rw [ht] at e4
      cases e4
      have e5 : atIx ts x = some (.tup [chT cl', rowT gl']) := by unfold atIx; rw [if_pos A'.a0, A'.at_]
      rw [e] at e5
      injection e5 with e5
      injection e5 with e5
      injection e5 with e5 _
      rw [chT_inj e5]
      exact hg
    · intro hy
      exact ⟨s, x, y, h1, h2, h3, ts, cl, gl, A, hy⟩
theorem tl_odd {n : Nat} (h : n % 2 = 1) : ∃ N, n = 2 * N + 1 := ⟨n / 2, by omega⟩
theorem c_mem (k : Nat) {d : D} {q : Fr} {p : Nat} {ss : List D} (v : D) (m : Sto) (H : Hall d q p ss) : callP prog (k + 3) f_is_memory [d, v] m = .ok (bP (IsMemD ss v)) m := by
  have H0 := H
  obtain rfl := H.eq
  have s1 := H.S.pos
  have s8 := H.S.le
  have key : ∃ r m', callP prog (k + 3) f_is_memory [.tup [fr q, .int p, .tup ss], v] m = .ok r m' ∧ (r = bP (IsMemD ss v) ∧ m' = m) := by
    refine wq_ex ?_
    rw [w_fn _ at_is_memory rfl]
    dsimp only [d_is_memory, b_is_memory]
    cases v with
    | tup vs =>
      have md : bin .mod (.int vs.length) (.int 2) = some (.int ((vs.length : Int) % 2)) := b_mod (by decide)
      by_cases h1 : 1 ≤ vs.length
      · by_cases h9 : vs.length ≤ 9
        · by_cases ho : vs.length % 2 = 1
          · obtain ⟨N, hN⟩ := tl_odd ho
            have q1 : (1 : Int) ≤ vs.length := by omega
            have q2 : (vs.length : Int) ≤ 9 := by omega
            have q3 : ¬ ((vs.length : Int) % 2 = 0) := by omega
            obtain ⟨v0, hv0⟩ : ∃ v0, vs[0]? = some v0 := ⟨_, List.getElem?_eq_getElem (by omega)⟩
            have i0 : atIx vs 0 = some v0 := atIx_nat (j := 0) hv0
            have tb := fun m => c_is_between k v0 0 ((ss.length : Int) - 1) m
            cases hb : betw v0 0 ((ss.length : Int) - 1) with
            | false =>
              rw [hb] at tb
              simp -dsimp [isa, md, q1, q2, q3, i0, tb]
              refine kp ⟨bP_f fun z => ?_, rfl⟩
              obtain ⟨x, e, x0, x1⟩ := (isMem_t.mp z).hd
              rw [hv0] at e
              cases e
              rw [betw_iff.mpr ⟨x, rfl, x0, by omega⟩] at hb
              cases hb
            | true =>
              rw [hb] at tb
              obtain ⟨x0, rfl, x00, x01⟩ := betw_iff.mp hb
              have hd : ∃ x : Int, vs[0]? = some (.int x) ∧ 0 ≤ x ∧ x < ss.length := ⟨x0, hv0, x00, by omega⟩
              simp -dsimp [isa, md, q1, q2, q3, i0, tb]
              rw [w_rngC (i := 1) (j := (vs.length : Int)) (c := 2) ⟨by decide, by decide⟩ ⟨by unfold lim; omega, by unfold lim; omega⟩ ⟨by decide, by decide⟩, rg_odd hN]
              simp -dsimp
              refine w_forI (fun pre e mm => ∃ e2 e3 e4 e5, e = [some (.tup [fr q, .int p, .tup ss]), some (.tup vs), e2, e3, e4, e5] ∧ mm = m ∧ ∀ i, i < pre.length → StAt ss vs i) ⟨none, none, none, none, rfl, rfl, fun i h => (Nat.not_lt_zero i h).elim⟩ ?_ ?_
              · rintro pre i post e mm he ⟨e2, e3, e4, e5, rfl, rfl, hst⟩
                obtain ⟨hi, hiN⟩ := at_range he
                obtain ⟨s, g1, g0, gl⟩ := stand_at hd hst i (by omega)
                obtain ⟨a, g2⟩ : ∃ a, vs[2 * i + 1]? = some a := ⟨_, List.getElem?_eq_getElem (by omega)⟩
                obtain ⟨b, g3⟩ : ∃ b, vs[2 * i + 2]? = some b := ⟨_, List.getElem?_eq_getElem (by omega)⟩
                obtain ⟨ts, _, j4, t1, t4, hA⟩ := H.at_ g0 gl
                obtain ⟨si1, si2⟩ := step_iff H0 g1 g0 gl j4 g2 g3
                have j1 : atIx vs (1 + (i : Int) * 2 - 1) = some (.int s) := by
                  have := atIx_nat g1
                  rwa [show ((2 * i : Nat) : Int) = 1 + (i : Int) * 2 - 1 by omega] at this
                have j2 : atIx vs (1 + (i : Int) * 2) = some a := by
                  have := atIx_nat g2
                  rwa [show ((2 * i + 1 : Nat) : Int) = 1 + (i : Int) * 2 by omega] at this
                have j3 : atIx vs (1 + (i : Int) * 2 + 1) = some b := by
                  have := atIx_nat g3
                  rwa [show ((2 * i + 2 : Nat) : Int) = 1 + (i : Int) * 2 + 1 by omega] at this
                have bad : ¬ StAt ss vs i → ¬ IsMemD ss (.tup vs) := fun n z => n ((isMem_t.mp z).st i (by omega))
                have b1 := fun m => c_is_between k a 0 ((ts.length : Int) - 1) m
                have b2 := fun m => c_is_between k b 0 ((ss.length : Int) - 1) m
                cases h5 : betw a 0 ((ts.length : Int) - 1) with
                | false =>
                  rw [h5] at b1
                  simp -dsimp [j1, j2, j3, j4, b1]
                  exact kp ⟨bP_f (bad fun z => by rw [(si1 z).1] at h5; cases h5), rfl⟩
                | true =>
                  rw [h5] at b1
                  cases h6 : betw b 0 ((ss.length : Int) - 1) with
                  | false =>
                    rw [h6] at b2
                    simp -dsimp [j1, j2, j3, j4, b1, b2]
                    exact kp ⟨bP_f (bad fun z => by rw [(si1 z).2] at h6; cases h6), rfl⟩
                  | true =>
                    rw [h6] at b2
                    obtain ⟨x, rfl, x0, x1⟩ := betw_iff.mp h5
                    obtain ⟨y, rfl, y0, y1⟩ := betw_iff.mp h6
                    obtain ⟨cl, gl', A1, j5, _⟩ := hA x x0 (by omega)
                    have iff := si2 x y cl gl' rfl rfl x0 (by omega) j5 A1
                    have ni := notin_intsG mm y (cl.map (·.1))
                    have zc := ev_mapP (F := callP prog (k + 2)) (elt := .var 4) (i := 4) (j := 5) (it := .seq (.idx (.idx (.var 3) (.idx (.var 1) (.var 2))) (.cst (.int 0)))) (env := [some (.tup [fr q, .int p, .tup ss]), some (.tup vs), some (.int (1 + (i : Int) * 2)), some (.tup ts), e4, e5]) (m := mm) (ds := cl.map fun c => .tup [.int c.1, fr c.2])
                      (fun d => .int (stI d)) (seq_tup (by simp [j2, j5])) (by rw [List.length_map]; have := A1.ch.row.le; exact small_lim (by omega)) (by simp) (by simp) fun d hd => by
                        obtain ⟨c, hc, rfl⟩ := List.mem_map.mp hd
                        exact ⟨_, _, rfl, rfl⟩
                    have em : (cl.map fun c => D.tup [.int c.1, fr c.2]).map (fun d => D.int (stI d)) = (cl.map (·.1)).map D.int := by
                      rw [List.map_map, List.map_map]
                      rfl
                    rw [em] at zc
                    by_cases hy : y ∈ cl.map (·.1)
                    · rw [decide_eq_true hy] at ni
                      simp -dsimp [-List.map_map, j1, j2, j3, j4, b1, b2, zc, ni]
                      refine kp ⟨_, _, _, _, rfl, rfl, fun j hj => ?_⟩
                      rw [List.length_append, List.length_singleton] at hj
                      by_cases e : j < pre.length
                      · exact hst j e
                      · rw [show j = i by omega]
                        exact iff.mpr hy
                    · rw [decide_eq_false hy] at ni
                      simp -dsimp [-List.map_map, j1, j2, j3, j4, b1, b2, zc, ni]
                      exact kp ⟨bP_f (bad fun z => hy (iff.mp z)), rfl⟩
              · rintro e mm ⟨e2, e3, e4, e5, rfl, rfl, hst⟩
                rw [List.length_range] at hst
                simp -dsimp
                exact kp ⟨bP_t (isMem_t.mpr ⟨ho, h9, hd, fun i hi => hst i (by omega)⟩), rfl⟩
          · have q1 : (1 : Int) ≤ vs.length := by omega
            have q2 : (vs.length : Int) ≤ 9 := by omega
            have q3 : (vs.length : Int) % 2 = 0 := by omega
            simp -dsimp [isa, md, q1, q2, q3]
            exact kp ⟨bP_f fun z => ho (isMem_t.mp z).odd, rfl⟩
        · have q1 : (1 : Int) ≤ vs.length := by omega
          have q2 : ¬ ((vs.length : Int) ≤ 9) := by omega
          simp -dsimp [isa, md, q1, q2]
          exact kp ⟨bP_f fun z => h9 (isMem_t.mp z).le, rfl⟩
      · have q1 : ¬ ((1 : Int) ≤ vs.length) := by omega
        simp -dsimp [isa, md, q1]
        exact kp ⟨bP_f fun z => h1 (by have := (isMem_t.mp z).odd; omega), rfl⟩
    | _ =>
      simp -dsimp [isa]
      exact kp ⟨bP_f fun ⟨_, e, _⟩ => (by cases e), rfl⟩
  obtain ⟨r, m', e, rfl, rfl⟩ := key
  exact e
theorem c_lmem (k : Nat) {d : D} {q : Fr} {p : Nat} {ss : List D} (v : D) (m : Sto) (H : Hall d q p ss) (hz : Sz v) : callP prog (k + 3) f__law_is_memory [v, d] m = .ok (bP (IsMemD ss v)) m := by
  have H0 := H
  obtain rfl := H.eq
  have s1 := H.S.pos
  have s8 := H.S.le
  have key : ∃ r m', callP prog (k + 3) f__law_is_memory [v, .tup [fr q, .int p, .tup ss]] m = .ok r m' ∧ (r = bP (IsMemD ss v) ∧ m' = m) := by
    refine wq_ex ?_
    rw [w_fn _ at__law_is_memory rfl]
    dsimp only [d__law_is_memory, b__law_is_memory]
    cases v with
    | tup vs =>
      have n0 := fun m => notin_intsG m (vs.length : Int) [1, 3, 5, 7, 9]
      have e0 : ([1, 3, 5, 7, 9] : List Int).map D.int = [.int 1, .int 3, .int 5, .int 7, .int 9] := rfl
      simp only [e0] at n0
      by_cases ho : vs.length % 2 = 1 ∧ vs.length ≤ 9
      · obtain ⟨N, hN⟩ := tl_odd ho.1
        have hin : (vs.length : Int) ∈ ([1, 3, 5, 7, 9] : List Int) := by
          simp only [List.mem_cons, List.not_mem_nil, or_false]
          omega
        simp only [decide_eq_true hin] at n0
        have zf := ev_filter (F := callP prog (k + 2)) (i := 4) (it := .seq (.var 0)) (c := .not (.call f__law_is_whole (.cons (.var 4) .nil))) (env := [some (.tup vs), some (.tup [fr q, .int p, .tup ss]), none, none, none, none]) (m := m) (ds := vs) (fun d => !whole d) (seq_tup (by simp)) (small_lim (by omega)) (by simp) fun d hd => by
          simp [c_is_whole']
        obtain ⟨L, hL, aL⟩ := filt_of whole vs
        rw [hL] at zf
        obtain ⟨v0, hv0⟩ : ∃ v0, vs[0]? = some v0 := ⟨_, List.getElem?_eq_getElem (by omega)⟩
        have i0 : atIx vs 0 = some v0 := atIx_nat (j := 0) hv0
        cases hw : vs.all whole with
        | false =>
          rw [hw] at aL
          simp -dsimp [isa, n0, zf, aL]
          refine kp ⟨bP_f fun z => ?_, rfl⟩
          obtain ⟨w, hw1, hw2⟩ := List.all_eq_false.mp hw
          obtain ⟨j, hj⟩ := List.mem_iff_getElem?.mp hw1
          have hjl := (List.getElem?_eq_some_iff.mp hj).1
          have M := isMem_t.mp z
          have int : ∃ x : Int, vs[j]? = some (.int x) := by
            by_cases j0 : j = 0
            · obtain ⟨x, e, _⟩ := M.hd
              exact ⟨x, by rw [j0]; exact e⟩
            · obtain ⟨s, a, g, e1, e2, e3, _⟩ := M.st ((j - 1) / 2) (by omega)
              by_cases jo : j % 2 = 1
              · exact ⟨a, by rw [show j = 2 * ((j - 1) / 2) + 1 by omega]; exact e2⟩
              · exact ⟨g, by rw [show j = 2 * ((j - 1) / 2) + 2 by omega]; exact e3⟩
          obtain ⟨x, e⟩ := int
          rw [hj] at e
          cases e
          exact hw2 rfl
        | true =>
          rw [hw] at aL
          have wi : ∀ (j : Nat) (w : D), vs[j]? = some w → ∃ x : Int, w = .int x := by
            intro j w h
            have := List.all_eq_true.mp hw w (List.mem_of_getElem? h)
            cases w with
            | int x => exact ⟨x, rfl⟩
            | _ => cases this
          obtain ⟨x0, rfl⟩ := wi 0 v0 hv0
          by_cases hb : 0 ≤ x0 ∧ x0 < ss.length
          · have hd : ∃ x : Int, vs[0]? = some (.int x) ∧ 0 ≤ x ∧ x < ss.length := ⟨x0, hv0, hb⟩
            simp -dsimp [isa, n0, zf, aL, i0, hb.1, hb.2]
            rw [w_rngC (i := 1) (j := (vs.length : Int)) (c := 2) ⟨by decide, by decide⟩ ⟨by unfold lim; omega, by unfold lim; omega⟩ ⟨by decide, by decide⟩, rg_odd hN]
            simp -dsimp
            refine w_forI (fun pre e mm => ∃ e2 e3 e4 e5, e = [some (.tup vs), some (.tup [fr q, .int p, .tup ss]), e2, e3, e4, e5] ∧ mm = m ∧ ∀ i, i < pre.length → StAt ss vs i) ⟨none, none, none, none, rfl, rfl, fun i h => (Nat.not_lt_zero i h).elim⟩ ?_ ?_
            · rintro pre i post e mm he ⟨e2, e3, e4, e5, rfl, rfl, hst⟩
              obtain ⟨hi, hiN⟩ := at_range he
              obtain ⟨s, g1, g0, gl⟩ := stand_at hd hst i (by omega)
              obtain ⟨a, g2⟩ : ∃ a, vs[2 * i + 1]? = some a := ⟨_, List.getElem?_eq_getElem (by omega)⟩
              obtain ⟨b, g3⟩ : ∃ b, vs[2 * i + 2]? = some b := ⟨_, List.getElem?_eq_getElem (by omega)⟩
              obtain ⟨x, rfl⟩ := wi _ a g2
              obtain ⟨y, rfl⟩ := wi _ b g3
              obtain ⟨ts, _, j4, t1, t4, hA⟩ := H.at_ g0 gl
              obtain ⟨si1, si2⟩ := step_iff H0 g1 g0 gl j4 g2 g3
              have j1 : atIx vs (1 + (i : Int) * 2 - 1) = some (.int s) := by
                have := atIx_nat g1
                rwa [show ((2 * i : Nat) : Int) = 1 + (i : Int) * 2 - 1 by omega] at this
              have j2 : atIx vs (1 + (i : Int) * 2) = some (.int x) := by
                have := atIx_nat g2
                rwa [show ((2 * i + 1 : Nat) : Int) = 1 + (i : Int) * 2 by omega] at this
              have j3 : atIx vs (1 + (i : Int) * 2 + 1) = some (.int y) := by
                have := atIx_nat g3
                rwa [show ((2 * i + 2 : Nat) : Int) = 1 + (i : Int) * 2 + 1 by omega] at this
              have bad : ¬ StAt ss vs i → ¬ IsMemD ss (.tup vs) := fun n z => n ((isMem_t.mp z).st i (by omega))
              have nb : StAt ss vs i → 0 ≤ x ∧ x < ts.length := fun z => by
                obtain ⟨x', e, a0, a1⟩ := betw_iff.mp (si1 z).1
                cases e
                exact ⟨a0, by omega⟩
              by_cases x0' : 0 ≤ x
              · by_cases x1 : x < ts.length
                · obtain ⟨cl, gl', A1, j5, _⟩ := hA x x0' x1
                  have iff := si2 x y cl gl' rfl rfl x0' x1 j5 A1
                  have ni := notin_intsG mm y (cl.map (·.1))
                  have zc := ev_map (F := callP prog (k + 2)) (elt := .idx (.var 5) (.cst (.int 0))) (i := 5) (it := .seq (.idx (.idx (.var 3) (.idx (.var 0) (.var 2))) (.cst (.int 0)))) (env := [some (.tup vs), some (.tup [fr q, .int p, .tup ss]), some (.int (1 + (i : Int) * 2)), some (.tup ts), e4, e5]) (m := mm) (ds := cl.map fun c => .tup [.int c.1, fr c.2])
                    (fun d => .int (stI d)) (seq_tup (by simp [j2, j5])) (by rw [List.length_map]; have := A1.ch.row.le; exact small_lim (by omega)) (by simp) fun d hd => by
                      obtain ⟨c, hc, rfl⟩ := List.mem_map.mp hd
                      rfl
                  have em : (cl.map fun c => D.tup [.int c.1, fr c.2]).map (fun d => D.int (stI d)) = (cl.map (·.1)).map D.int := by
                    rw [List.map_map, List.map_map]
                    rfl
                  rw [em] at zc
                  by_cases hy : y ∈ cl.map (·.1)
                  · rw [decide_eq_true hy] at ni
                    simp -dsimp [-List.map_map, j1, j2, j3, j4, x0', x1, zc, ni]
                    refine kp ⟨_, _, _, _, rfl, rfl, fun j hj => ?_⟩
                    rw [List.length_append, List.length_singleton] at hj
                    by_cases e : j < pre.length
                    · exact hst j e
                    · rw [show j = i by omega]
                      exact iff.mpr hy
                  · rw [decide_eq_false hy] at ni
                    simp -dsimp [-List.map_map, j1, j2, j3, j4, x0', x1, zc, ni]
                    exact kp ⟨bP_f (bad fun z => hy (iff.mp z)), rfl⟩
                · simp -dsimp [j1, j2, j3, j4, x0', x1]
                  exact kp ⟨bP_f (bad fun z => x1 (nb z).2), rfl⟩
              · simp -dsimp [j1, j2, j3, j4, x0']
                exact kp ⟨bP_f (bad fun z => x0' (nb z).1), rfl⟩
            · rintro e mm ⟨e2, e3, e4, e5, rfl, rfl, hst⟩
              rw [List.length_range] at hst
              simp -dsimp
              exact kp ⟨bP_t (isMem_t.mpr ⟨ho.1, ho.2, hd, fun i hi => hst i (by omega)⟩), rfl⟩
          · have nm : ¬ IsMemD ss (.tup vs) := fun z => by
              obtain ⟨x, e, h0, h1⟩ := (isMem_t.mp z).hd
              rw [hv0] at e
              cases e
              exact hb ⟨h0, h1⟩
            by_cases h0 : 0 ≤ x0
            · have h1 : ¬ (x0 < (ss.length : Int)) := fun z => hb ⟨h0, z⟩
              simp -dsimp [isa, n0, zf, aL, i0, h0, h1]
              exact kp ⟨bP_f nm, rfl⟩
            · simp -dsimp [isa, n0, zf, aL, i0, h0]
              exact kp ⟨bP_f nm, rfl⟩
      · have hin : ¬ ((vs.length : Int) ∈ ([1, 3, 5, 7, 9] : List Int)) := by
          simp only [List.mem_cons, List.not_mem_nil, or_false]
          omega
        simp only [decide_eq_false hin] at n0
        simp -dsimp [isa, n0]
        exact kp ⟨bP_f fun z => ho ⟨(isMem_t.mp z).odd, (isMem_t.mp z).le⟩, rfl⟩
    | _ =>
      simp -dsimp [isa]
      exact kp ⟨bP_f fun ⟨_, e, _⟩ => (by cases e), rfl⟩
  obtain ⟨r, m', e, rfl, rfl⟩ := key
  exact e
end K79


set_option Elab.async false
set_option linter.all false
set_option maxRecDepth 100000
/-! K79N: told plans of anything: both readings. -/
namespace K79
open Dh PySem
theorem mem_int {ss vs : List D} (M : IsMem ss vs) {j : Nat} (h : j < vs.length) : ∃ x : Int, vs[j]? = some (.int x) := by
  have ho := M.odd
  by_cases j0 : j = 0
  · obtain ⟨x, e, _⟩ := M.hd
    exact ⟨x, by rw [j0]; exact e⟩
  · obtain ⟨s, a, g, e1, e2, e3, _⟩ := M.st ((j - 1) / 2) (by omega)
    by_cases jo : j % 2 = 1
    · exact ⟨a, by rw [show j = 2 * ((j - 1) / 2) + 1 by omega]; exact e2⟩
    · exact ⟨g, by rw [show j = 2 * ((j - 1) / 2) + 2 by omega]; exact e3⟩
theorem ints_of : ∀ {vs : List D}, (∀ w ∈ vs, ∃ x : Int, w = .int x) → ∃ xs : List Int, vs = xs.map .int
  | [], _ => ⟨[], rfl⟩
  | v :: vs, h => by
    obtain ⟨x, rfl⟩ := h v (List.mem_cons_self ..)
    obtain ⟨xs, rfl⟩ := ints_of fun w hw => h w (List.mem_cons_of_mem _ hw)
    exact ⟨x :: xs, rfl⟩
theorem mem_ints {ss vs : List D} (M : IsMem ss vs) : ∃ x xs, vs = (x :: xs).map D.int := by
  obtain ⟨ys, rfl⟩ := ints_of (vs := vs) fun w hw => by
    obtain ⟨j, hj⟩ := List.mem_iff_getElem?.mp hw
    obtain ⟨x, e⟩ := mem_int M (List.getElem?_eq_some_iff.mp hj).1
    rw [hj] at e
    injection e with e
    exact ⟨x, e⟩
  cases ys with
  | nil =>
    have := M.odd
    simp at this
  | cons x xs => exact ⟨x, xs, rfl⟩
theorem mem_last {ss vs : List D} (M : IsMem ss vs) : ∃ s : Int, atIx vs (-1) = some (.int s) ∧ 0 ≤ s ∧ s < ss.length := by
  obtain ⟨N, hN⟩ := tl_odd M.odd
  obtain ⟨x, e, h0, h1⟩ := stand_at M.hd (n := N) (fun i hi => M.st i (by omega)) N (Nat.le_refl _)
  refine ⟨x, ?_, h0, h1⟩
  unfold atIx
  rw [if_neg (by decide), if_pos (by omega), ← e]
  congr 1
  omega
/-- the pair's memory -/
def memL : D → List D
  | .tup (.tup vs :: _) => vs
  | _ => []
def ltM (x y : D) : Bool := match nksOf (memL x), nksOf (memL y) with
  | some p, some q => ltNs p q
  | _, _ => false
def MemEnt (ss : List D) (e : D) : Prop := ∃ vs o, e = .tup [.tup vs, o] ∧ IsMem ss vs
def OddEnt (ss : List D) (e : D) : Prop := ∃ vs o s ts, e = .tup [.tup vs, o] ∧ atIx vs (-1) = some (.int s) ∧ atIx ss s = some (.tup ts) ∧ chanceB o ts.length = true
structure IsTold (ss L : List D) (S : D) : Prop where
  len : L.length ≤ 32
  ent : ∀ e ∈ L, MemEnt ss e
  odd : ∀ e ∈ L, OddEnt ss e
  asc : ∀ i x y, L[i]? = some x → L[i + 1]? = some y → ltM x y = true
  still : stillB ss S = true
def IsToldD (ss : List D) (d : D) : Prop := ∃ L S, d = .tup [.tup L, S] ∧ IsTold ss L S
theorem told_t {ss L : List D} {S : D} : IsToldD ss (.tup [.tup L, S]) ↔ IsTold ss L S := ⟨fun ⟨_, _, e, h⟩ => by cases e; exact h, fun h => ⟨L, S, rfl, h⟩⟩
theorem lt_mem (m : Sto) {ss : List D} {x y : D} (hx : MemEnt ss x) (hy : MemEnt ss y) : ∃ vs o ws u, x = .tup [.tup vs, o] ∧ y = .tup [.tup ws, u] ∧ cmp m .lt (.tup vs) (.tup ws) = some (.bl (ltM x y)) := by
  obtain ⟨vs, o, rfl, M⟩ := hx
  obtain ⟨ws, u, rfl, M2⟩ := hy
  obtain ⟨x, xs, rfl⟩ := mem_ints M
  obtain ⟨y, ys, rfl⟩ := mem_ints M2
  refine ⟨_, _, _, _, rfl, rfl, ?_⟩
  rw [lt_keys]
  show _ = some (D.bl (match nksOf ((x :: xs).map D.int), nksOf ((y :: ys).map D.int) with
    | some p, some q => ltNs p q
    | _, _ => false))
  rw [nks_ints, nks_ints]
def ltP : D → Bool
  | .tup [x, y] => ltM x y
  | _ => false
theorem asc_iff (L : List D) : (zipD L (L.drop 1)).all ltP = true ↔ ∀ i x y, L[i]? = some x → L[i + 1]? = some y → ltM x y = true := by
  induction L with
  | nil => simp [zipD]
  | cons a L ih =>
    cases L with
    | nil => simp [zipD]
    | cons b L =>
      show (ltM a b && (zipD (b :: L) L).all ltP) = true ↔ _
      have e : (b :: L).drop 1 = L := rfl
      rw [e] at ih
      rw [Bool.and_eq_true, ih]
      constructor
      · rintro ⟨h1, h2⟩ i x y e1 e2
        cases i with
        | zero =>
          simp at e1 e2
          subst e1 e2
          exact h1
        | succ i => exact h2 i x y (by simpa using e1) (by simpa using e2)
      · intro h
        exact ⟨h 0 a b rfl rfl, fun i x y e1 e2 => h (i + 1) x y (by simpa using e1) (by simpa using e2)⟩
theorem all_bB (P : D → Prop) (L : List D) : (L.all fun e => bB (P e)) = true ↔ ∀ e ∈ L, P e := by
  rw [List.all_eq_true]
  exact ⟨fun h e he => bB_iff.mp (h e he), fun h e he => bB_t (h e he)⟩
theorem c_toldA (k : Nat) {d : D} {q : Fr} {p : Nat} {ss : List D} (v : D) (m : Sto) (H : Hall d q p ss) (hz : Sz v) : callP prog (k + 6) f_is_told_by [d, v] m = .ok (bP (IsToldD ss v)) m := by
  have H0 := H
  obtain rfl := H.eq
  have s8 := H.S.le
  have t2 := c_is_tuple_of (k + 4) v 2 m
  rw [call_eq at_is_told_by rfl]
  cases ht : tupOf v 2 with
  | false =>
    rw [ht] at t2
    simp [b_is_told_by, t2]
    refine bP_f ?_
    rintro ⟨L, S, rfl, _⟩
    cases ht
  | true =>
    rw [ht] at t2
    obtain ⟨x, S, rfl⟩ := tup2 ht
    obtain ⟨zx, zS⟩ := hz.at2
    cases x with
    | tup L =>
      by_cases hl : L.length ≤ 32
      · have hl2 : ¬ (32 < (L.length : Int)) := by omega
        have z1 := ev_map (F := callP prog (k + 5)) (elt := .and (.call f_is_tuple_of (.cons (.var 2) (.cons (.cst (.int 2)) .nil))) (.call f_is_memory (.cons (.var 0) (.cons (.idx (.var 2) (.cst (.int 0))) .nil)))) (i := 2) (it := .seq (.idx (.var 1) (.cst (.int 0)))) (env := [some (.tup [fr q, .int p, .tup ss]), some (.tup [.tup L, S]), none, none, none, none, none]) (m := m) (ds := L)
          (fun e => .bl (bB (MemEnt ss e))) (seq_tup (by simp)) (small_lim (by omega)) (by simp) fun e he => by
            have y1 := c_is_tuple_of (k + 4) e 2 m
            cases hte : tupOf e 2 with
            | false =>
              rw [hte] at y1
              have : bB (MemEnt ss e) = false := bB_f fun ⟨vs, o, e1, _⟩ => by rw [e1] at hte; cases hte
              rw [this]
              simp [y1]
            | true =>
              rw [hte] at y1
              obtain ⟨a, b, rfl⟩ := tup2 hte
              have y2 := c_mem (k + 2) a m H0
              have : bP (IsMemD ss a) = .bl (bB (MemEnt ss (.tup [a, b]))) := bP_iff ⟨fun ⟨vs, e1, M⟩ => ⟨vs, b, by rw [e1], M⟩, fun ⟨vs, o, e1, M⟩ => ⟨vs, by injection e1 with e1; injection e1 with e1 _, M⟩⟩
              rw [this] at y2
              simp [y1, y2]
        have a1 := allB_map (fun e => bB (MemEnt ss e)) L
        cases h1 : L.all fun e => bB (MemEnt ss e) with
        | false =>
          rw [h1] at a1
          simp [b_is_told_by, t2, isa, hl2, z1, a1]
          refine bP_f fun z => ?_
          rw [(all_bB _ _).mpr (told_t.mp z).ent] at h1
          cases h1
        | true =>
          rw [h1] at a1
          have me := (all_bB _ _).mp h1
          have z2 := ev_mapP (F := callP prog (k + 5)) (elt := .cmp .lt (.idx (.var 3) (.cst (.int 0))) (.idx (.var 4) (.cst (.int 0)))) (i := 3) (j := 4) (it := .zip (.idx (.var 1) (.cst (.int 0))) (.sl (.idx (.var 1) (.cst (.int 0))) (.cst (.int 1)) (.nop))) (env := [some (.tup [fr q, .int p, .tup ss]), some (.tup [.tup L, S]), none, none, none, none, none]) (m := m) (ds := zipD L (L.drop 1))
            (fun d => .bl (ltP d)) (zip_tup (by simp) (by simp [partOf, isNop, tail_drop])) (by rw [zipD_len']; exact small_lim (by omega)) (by simp) (by simp) fun d hd => by
              obtain ⟨a, b, rfl, ha, hb⟩ := zipD_mem hd
              obtain ⟨vs, o, ws, u, rfl, rfl, y⟩ := lt_mem m (me a ha) (me b (List.mem_of_mem_drop hb))
              exact ⟨_, _, rfl, by simp [y, ltP]⟩
          have a2 := allB_map ltP (zipD L (L.drop 1))
          cases h2 : (zipD L (L.drop 1)).all ltP with
          | false =>
            rw [h2] at a2
            simp [-List.drop_one, b_is_told_by, t2, isa, hl2, z1, a1, z2, a2]
            refine bP_f fun z => ?_
            rw [(asc_iff L).mpr (told_t.mp z).asc] at h2
            cases h2
          | true =>
            rw [h2] at a2
            have z3 := ev_mapP (F := callP prog (k + 5)) (elt := .call f_is_chance_row (.cons (.var 6) (.cons (.blt .len (.cons (.idx (.idx (.var 0) (.cst (.int 2))) (.idx (.var 5) (.neg (.cst (.int 1))))) .nil)) .nil))) (i := 5) (j := 6) (it := .seq (.idx (.var 1) (.cst (.int 0)))) (env := [some (.tup [fr q, .int p, .tup ss]), some (.tup [.tup L, S]), none, none, none, none, none]) (m := m) (ds := L)
              (fun e => .bl (bB (OddEnt ss e))) (seq_tup (by simp)) (small_lim (by omega)) (by simp) (by simp) fun e he => by
                have ze := zx.2.all e he
                obtain ⟨vs, o, rfl, M⟩ := me e he
                obtain ⟨s, i0, s0, s1⟩ := mem_last M
                obtain ⟨ts, _, i1, t1, t4, _⟩ := H.at_ s0 s1
                have y := c_is_chance_row (k + 1) o ts.length m (by omega) (Sz.at2 ze).2
                have e2 : chanceB o ts.length = bB (OddEnt ss (.tup [.tup vs, o])) := bB_eq ⟨fun h => ⟨vs, o, s, ts, rfl, i0, i1, h⟩, fun ⟨vs', o', s', ts', e1, j0, j1, h⟩ => by
                  cases e1
                  rw [i0] at j0
                  cases j0
                  rw [i1] at j1
                  cases j1
                  exact h⟩
                rw [e2] at y
                exact ⟨_, _, rfl, by simp [i0, i1, y]⟩
            have a3 := allB_map (fun e => bB (OddEnt ss e)) L
            cases h3 : L.all fun e => bB (OddEnt ss e) with
            | false =>
              rw [h3] at a3
              simp [-List.drop_one, b_is_told_by, t2, isa, hl2, z1, a1, z2, a2, z3, a3]
              refine bP_f fun z => ?_
              rw [(all_bB _ _).mpr (told_t.mp z).odd] at h3
              cases h3
            | true =>
              rw [h3] at a3
              have y := c_is_still_by k (fr q) (.int p) ss S m H.S.rooms zS
              simp [-List.drop_one, b_is_told_by, t2, isa, hl2, z1, a1, z2, a2, z3, a3, y]
              exact bP_b ⟨fun h => told_t.mpr ⟨hl, me, (all_bB _ _).mp h3, (asc_iff L).mp h2, h⟩, fun z => (told_t.mp z).still⟩
      · have hl2 : 32 < (L.length : Int) := by omega
        simp [b_is_told_by, t2, isa, hl2]
        exact bP_f fun z => hl (told_t.mp z).len
    | _ =>
      simp [b_is_told_by, t2, isa]
      exact bP_f fun ⟨_, _, e, _⟩ => by cases e
theorem c_ltold (k : Nat) {d : D} {q : Fr} {p : Nat} {ss : List D} (v : D) (m : Sto) (H : Hall d q p ss) (hz : Sz v) : callP prog (k + 6) f__law_is_recalled [v, d] m = .ok (bP (IsToldD ss v)) m := by
  have H0 := H
  obtain rfl := H.eq
  have s8 := H.S.le
  have key : ∃ r m', callP prog (k + 6) f__law_is_recalled [v, .tup [fr q, .int p, .tup ss]] m = .ok r m' ∧ (r = bP (IsToldD ss v) ∧ m' = m) := by
    refine wq_ex ?_
    rw [w_fn _ at__law_is_recalled rfl]
    dsimp only [d__law_is_recalled, b__law_is_recalled]
    cases v with
    | tup vs =>
      by_cases h2 : vs.length = 2
      · obtain ⟨x, S, e⟩ := tup2 (d := .tup vs) (decide_eq_true (by omega))
        cases e
        obtain ⟨zx, zS⟩ := hz.at2
        cases x with
        | tup L =>
          by_cases hl : L.length ≤ 32
          · have hl2 : ¬ (32 < (L.length : Int)) := by omega
            simp -dsimp [isa, hl2]
            refine w_forD (fun pre e mm => ∃ e3 lst, e = [some (.tup [.tup L, S]), some (.tup [fr q, .int p, .tup ss]), some (.tup lst), e3] ∧ mm = m ∧ (∀ e ∈ pre, MemEnt ss e ∧ OddEnt ss e) ∧ (∀ i x y, pre[i]? = some x → pre[i + 1]? = some y → ltM x y = true) ∧ ((pre = [] ∧ lst = []) ∨ ∃ p0 z, pre = p0 ++ [z] ∧ lst = memL z))
              ⟨none, [], rfl, rfl, fun e h => (List.not_mem_nil h).elim, fun i x y h => by simp at h, .inl ⟨rfl, rfl⟩⟩ ?_ ?_
            · rintro pre x post e mm he ⟨e3, lst, rfl, rfl, hp, ha, hlst⟩
              have hx : x ∈ L := by rw [he]; simp
              have bad : ¬ (MemEnt ss x ∧ OddEnt ss x) → ¬ IsToldD ss (.tup [.tup L, S]) := fun n z => n ⟨(told_t.mp z).ent x hx, (told_t.mp z).odd x hx⟩
              have nt : ∀ (w : D), (∀ a b, w ≠ .tup [a, b]) → ¬ (MemEnt ss w ∧ OddEnt ss w) := fun w h ⟨⟨vs, o, e, _⟩, _⟩ => h _ _ e
              cases x with
              | tup us =>
                by_cases u2 : us.length = 2
                · obtain ⟨a, o, e⟩ := tup2 (d := .tup us) (decide_eq_true (by omega))
                  cases e
                  have ze := Sz.at2 (zx.2.all _ hx)
                  have y1 := fun mm => c_lmem (k + 2) a mm H0 ze.1
                  by_cases hm : IsMemD ss a
                  · have hb := bP_t hm
                    rw [← hb] at y1
                    obtain ⟨ws, rfl, M⟩ := hm
                    have me : MemEnt ss (.tup [.tup ws, o]) := ⟨ws, o, rfl, M⟩
                    obtain ⟨s, i0, s0, s1⟩ := mem_last M
                    obtain ⟨ts, _, i1, t1, t4, _⟩ := H.at_ s0 s1
                    have y := fun mm => c_lodds (k + 1) o ts.length mm (by omega) ze.2
                    have fin : ∀ (hlt : (lst = [] ∨ ∃ p0 z, pre = p0 ++ [z] ∧ ltM z (.tup [.tup ws, o]) = true)), chanceB o ts.length = true → ∀ e3', ∃ e3 lst, [some (D.tup [.tup L, S]), some (.tup [fr q, .int p, .tup ss]), some (.tup ws), e3'] = [some (.tup [.tup L, S]), some (.tup [fr q, .int p, .tup ss]), some (.tup lst), e3] ∧ mm = mm ∧ (∀ e ∈ pre ++ [.tup [.tup ws, o]], MemEnt ss e ∧ OddEnt ss e) ∧ (∀ i x y, (pre ++ [.tup [.tup ws, o]])[i]? = some x → (pre ++ [.tup [.tup ws, o]])[i + 1]? = some y → ltM x y = true) ∧ ((pre ++ [.tup [.tup ws, o]] = [] ∧ lst = []) ∨ ∃ p0 z, pre ++ [.tup [.tup ws, o]] = p0 ++ [z] ∧ lst = memL z) := by
                      intro hlt hch e3'
                      refine ⟨e3', ws, rfl, rfl, fun e h => ?_, fun i x y e1 e2 => ?_, .inr ⟨pre, _, rfl, rfl⟩⟩
                      · rcases List.mem_append.mp h with h | h
                        · exact hp e h
                        · rw [List.mem_singleton.mp h]
                          exact ⟨me, ws, o, s, ts, rfl, i0, i1, hch⟩
                      · rcases snoc_at e2 with ⟨l2, e2⟩ | ⟨l2, e7⟩
                        · rw [List.getElem?_append_left (by omega)] at e1
                          exact ha i x y e1 e2
                        · rw [List.getElem?_append_left (by omega)] at e1
                          rcases hlt with h | ⟨p0, z, rfl, h⟩
                          · rcases hlst with ⟨h3, _⟩ | ⟨p0, z, rfl, h3⟩
                            · rw [h3] at l2
                              simp at l2
                            · exfalso
                              obtain ⟨vs', o', e4, M'⟩ := (hp z (by simp)).1
                              obtain ⟨x', xs', e5⟩ := mem_ints M'
                              rw [h, e4] at h3
                              have h4 : [] = vs' := h3
                              rw [e5] at h4
                              cases h4
                          · rw [List.length_append, List.length_singleton] at l2
                            rw [List.getElem?_append_right (by omega)] at e1
                            have : i - p0.length = 0 := by omega
                            rw [this] at e1
                            simp at e1
                            subst e1 e7
                            exact h
                    rcases hlst with ⟨h3, h4⟩ | ⟨p0, z, hz0, h4⟩
                    · subst h4
                      have cl : ∀ mm, cmp mm .lt (.tup []) (.tup ws) = some (.bl true) := by
                        intro mm
                        obtain ⟨x, xs, rfl⟩ := mem_ints M
                        have := lt_keys mm [] (x :: xs)
                        exact this
                      cases hc : chanceB o ts.length with
                      | false =>
                        rw [hc] at y
                        simp -dsimp [isa, y1, cl, i0, i1, y]
                        refine kp ⟨bP_f (bad fun ⟨_, vs', o', s', ts', e1, j0, j1, h⟩ => ?_), rfl⟩
                        cases e1
                        rw [i0] at j0
                        cases j0
                        rw [i1] at j1
                        cases j1
                        rw [hc] at h
                        cases h
                      | true =>
                        rw [hc] at y
                        simp -dsimp [isa, y1, cl, i0, i1, y]
                        exact kp (fin (.inl rfl) hc _)
                    · obtain ⟨vs', o', ws', u', e5, e6, cl⟩ := lt_mem mm (hp z (by rw [hz0]; simp)).1 me
                      cases e6
                      subst e5
                      have h5 : lst = vs' := h4
                      subst h5
                      cases hlt : ltM (.tup [.tup lst, o']) (.tup [.tup ws, o]) with
                      | false =>
                        rw [hlt] at cl
                        simp -dsimp [isa, y1, cl]
                        refine kp ⟨bP_f fun zz => ?_, rfl⟩
                        have := (told_t.mp zz).asc p0.length (.tup [.tup lst, o']) (.tup [.tup ws, o]) (by rw [he, hz0]; simp) (by rw [he, hz0]; simp)
                        rw [hlt] at this
                        cases this
                      | true =>
                        rw [hlt] at cl
                        cases hc : chanceB o ts.length with
                        | false =>
                          rw [hc] at y
                          simp -dsimp [isa, y1, cl, i0, i1, y]
                          refine kp ⟨bP_f (bad fun ⟨_, vs', o', s', ts', e1, j0, j1, h⟩ => ?_), rfl⟩
                          cases e1
                          rw [i0] at j0
                          cases j0
                          rw [i1] at j1
                          cases j1
                          rw [hc] at h
                          cases h
                        | true =>
                          rw [hc] at y
                          simp -dsimp [isa, y1, cl, i0, i1, y]
                          exact kp (fin (.inr ⟨p0, _, hz0, hlt⟩) hc _)
                  · have hb := bP_f hm
                    rw [← hb] at y1
                    simp -dsimp [isa, y1]
                    exact kp ⟨bP_f (bad fun ⟨⟨vs, o', e, M⟩, _⟩ => hm (by cases e; exact ⟨vs, rfl, M⟩)), rfl⟩
                · have u3 : ¬ ((us.length : Int) = 2) := by omega
                  simp -dsimp [isa, u3]
                  exact kp ⟨bP_f (bad (nt _ fun a b e => by cases e; exact u2 rfl)), rfl⟩
              | _ =>
                simp -dsimp [isa]
                exact kp ⟨bP_f (bad (nt _ fun a b e => by cases e)), rfl⟩
            · rintro e mm ⟨e3, lst, rfl, rfl, hp, ha, hlst⟩
              have y := c_lhabit k (fr q) (.int p) ss S mm H.S.rooms zS
              simp -dsimp [y]
              exact kp ⟨bP_b ⟨fun h => told_t.mpr ⟨hl, fun e he => (hp e he).1, fun e he => (hp e he).2, ha, h⟩, fun z => (told_t.mp z).still⟩, rfl⟩
          · have hl2 : 32 < (L.length : Int) := by omega
            simp -dsimp [isa, hl2]
            exact kp ⟨bP_f fun z => hl (told_t.mp z).len, rfl⟩
        | _ =>
          simp -dsimp [isa]
          exact kp ⟨bP_f fun ⟨_, _, e, _⟩ => (by cases e), rfl⟩
      · have h3 : ¬ ((vs.length : Int) = 2) := by omega
        simp -dsimp [isa, h3]
        exact kp ⟨bP_f fun ⟨_, _, e, _⟩ => (by cases e; exact h2 rfl), rfl⟩
    | _ =>
      simp -dsimp [isa]
      exact kp ⟨bP_f fun ⟨_, _, e, _⟩ => (by cases e), rfl⟩
  obtain ⟨r, m', e, rfl, rfl⟩ := key
  exact e
end K79


set_option Elab.async false
set_option linter.all false
set_option maxRecDepth 100000
/-! K79O: minded plans and players of anything: both readings. -/
namespace K79
open Dh PySem
structure IsMind (ss : List D) (n : Int) (os xs : List D) : Prop where
  n1 : 1 ≤ n
  n4 : n ≤ 4
  lo : os.length = ss.length
  lx : xs.length = ss.length
  o : ∀ (j : Nat) (o t : D), os[j]? = some o → ss[j]? = some t → oddsB n (seqLen t) o = true
  x : ∀ (j : Nat) (o t : D), xs[j]? = some o → ss[j]? = some t → nextsB n (seqLen t) o = true
def IsMindD (ss : List D) (v : D) : Prop := ∃ n os xs, v = .tup [.int n, .tup os, .tup xs] ∧ IsMind ss n os xs
theorem mind_t {ss : List D} {n : Int} {os xs : List D} : IsMindD ss (.tup [.int n, .tup os, .tup xs]) ↔ IsMind ss n os xs := ⟨fun ⟨_, _, _, e, h⟩ => by cases e; exact h, fun h => ⟨_, _, _, rfl, h⟩⟩
def prB (P : D → D → Bool) : D → Bool
  | .tup [o, t] => P o t
  | _ => false
theorem zip_all2 (P : D → D → Bool) (os ss : List D) (hl : os.length = ss.length) : (zipD os ss).all (prB P) = true ↔ ∀ (j : Nat) (o t : D), os[j]? = some o → ss[j]? = some t → P o t = true := by
  induction os generalizing ss with
  | nil => simp [zipD]
  | cons o os ih =>
    cases ss with
    | nil => simp at hl
    | cons t ss =>
      have hl2 : os.length = ss.length := by simpa using hl
      show (P o t && (zipD os ss).all (prB P)) = true ↔ _
      rw [Bool.and_eq_true, ih ss hl2]
      constructor
      · rintro ⟨h1, h2⟩ j o' t' e1 e2
        cases j with
        | zero =>
          simp at e1 e2
          subst e1 e2
          exact h1
        | succ j => exact h2 j o' t' (by simpa using e1) (by simpa using e2)
      · intro h
        exact ⟨h 0 o t rfl rfl, fun j o' t' e1 e2 => h (j + 1) o' t' (by simpa using e1) (by simpa using e2)⟩
theorem c_mindA (k : Nat) {d : D} {q : Fr} {p : Nat} {ss : List D} (v : D) (m : Sto) (H : Hall d q p ss) (hz : Sz v) : callP prog (k + 6) f_is_minded_by [d, v] m = .ok (bP (IsMindD ss v)) m := by
  obtain rfl := H.eq
  have s8 := H.S.le
  have hr := H.S.rooms
  have t3 := c_is_tuple_of (k + 4) v 3 m
  rw [call_eq at_is_minded_by rfl]
  cases ht : tupOf v 3 with
  | false =>
    rw [ht] at t3
    simp [b_is_minded_by, t3]
    refine bP_f ?_
    rintro ⟨n, os, xs, rfl, _⟩
    cases ht
  | true =>
    rw [ht] at t3
    obtain ⟨a, b, c, rfl⟩ := tup3 ht
    obtain ⟨za, zb, zc⟩ := hz.at3
    have tb := c_is_between (k + 3) a 1 4 m
    cases hb : betw a 1 4 with
    | false =>
      rw [hb] at tb
      simp [b_is_minded_by, t3, tb]
      refine bP_f ?_
      rintro ⟨n, os, xs, e, M⟩
      cases e
      rw [betw_iff.mpr ⟨n, rfl, M.n1, M.n4⟩] at hb
      cases hb
    | true =>
      rw [hb] at tb
      obtain ⟨n, rfl, n1, n4⟩ := betw_iff.mp hb
      have tA := c_is_tuple_of (k + 4) b ss.length m
      have tB := c_is_tuple_of (k + 4) c ss.length m
      cases hA : tupOf b ss.length with
      | false =>
        rw [hA] at tA
        simp [b_is_minded_by, t3, tb, tA]
        refine bP_f ?_
        rintro ⟨n, os, xs, e, M⟩
        cases e
        have : tupOf (.tup os) ss.length = true := decide_eq_true (by have := M.lo; omega)
        rw [this] at hA
        cases hA
      | true =>
        rw [hA] at tA
        obtain ⟨os, rfl, lo⟩ := tupN hA
        cases hB : tupOf c ss.length with
        | false =>
          rw [hB] at tB
          simp [b_is_minded_by, t3, tb, tA, tB]
          refine bP_f ?_
          rintro ⟨n, os, xs, e, M⟩
          cases e
          have : tupOf (.tup xs) ss.length = true := decide_eq_true (by have := M.lx; omega)
          rw [this] at hB
          cases hB
        | true =>
          rw [hB] at tB
          obtain ⟨xs, rfl, lx⟩ := tupN hB
          have lo' : os.length = ss.length := by omega
          have lx' : xs.length = ss.length := by omega
          have zA := ev_mapP (F := callP prog (k + 5)) (elt := .call f_are_odds (.cons (.var 5) (.cons (.var 2) (.cons (.var 6) .nil)))) (i := 5) (j := 6) (it := .zip (.var 3) (.idx (.var 0) (.cst (.int 2)))) (env := [some (.tup [fr q, .int p, .tup ss]), some (.tup [.int n, .tup os, .tup xs]), some (.int n), some (.tup os), some (.tup xs), none, none]) (m := m) (ds := zipD os ss)
            (fun d => .bl (prB (fun o t => oddsB n (seqLen t) o) d)) (zip_tup (by simp) (by simp)) (by rw [zipD_len']; exact small_lim (by omega)) (by simp) (by simp) fun d hd => by
              obtain ⟨o, t, rfl, ho, ht⟩ := zipD_mem hd
              obtain ⟨ts, rfl, t8⟩ := hr.2 t ht
              have y := c_are_odds k o n ts m (by omega) t8 (zb.2.all o ho)
              exact ⟨_, _, rfl, by simp [y, prB, seqLen]⟩
          have zB := ev_mapP (F := callP prog (k + 5)) (elt := .call f_are_nexts (.cons (.var 5) (.cons (.var 2) (.cons (.var 6) .nil)))) (i := 5) (j := 6) (it := .zip (.var 4) (.idx (.var 0) (.cst (.int 2)))) (env := [some (.tup [fr q, .int p, .tup ss]), some (.tup [.int n, .tup os, .tup xs]), some (.int n), some (.tup os), some (.tup xs), none, none]) (m := m) (ds := zipD xs ss)
            (fun d => .bl (prB (fun o t => nextsB n (seqLen t) o) d)) (zip_tup (by simp) (by simp)) (by rw [zipD_len']; exact small_lim (by omega)) (by simp) (by simp) fun d hd => by
              obtain ⟨o, t, rfl, ho, ht⟩ := zipD_mem hd
              obtain ⟨ts, rfl, t8⟩ := hr.2 t ht
              have y := c_are_nexts (k + 2) o n ts m (by omega) t8
              exact ⟨_, _, rfl, by simp [y, prB, seqLen]⟩
          have aA := allB_map (prB fun o t => oddsB n (seqLen t) o) (zipD os ss)
          have aB := allB_map (prB fun o t => nextsB n (seqLen t) o) (zipD xs ss)
          cases h1 : (zipD os ss).all (prB fun o t => oddsB n (seqLen t) o) with
          | false =>
            rw [h1] at aA
            simp [b_is_minded_by, t3, tb, tA, tB, zA, aA]
            refine bP_f fun z => ?_
            rw [(zip_all2 _ os ss lo').mpr (mind_t.mp z).o] at h1
            cases h1
          | true =>
            rw [h1] at aA
            simp [b_is_minded_by, t3, tb, tA, tB, zA, aA, zB, aB]
            exact bP_b ⟨fun h => mind_t.mpr ⟨n1, n4, lo', lx', (zip_all2 _ os ss lo').mp h1, (zip_all2 _ xs ss lx').mp h⟩, fun z => (zip_all2 _ xs ss lx').mpr (mind_t.mp z).x⟩
def PartOk (ss : List D) (w : D) : Prop := ∃ ws, w = .tup ws ∧ ws.length = ss.length ∧ ws.all (isa .tuple) = true
theorem odds_tup {n : Int} {l : Nat} {o : D} (h : oddsB n l o = true) : isa .tuple o = true := by
  cases o with
  | tup _ => rfl
  | _ => cases h
theorem nexts_tup {n : Int} {l : Nat} {o : D} (h : nextsB n l o = true) : isa .tuple o = true := by
  cases o with
  | tup _ => rfl
  | _ => cases h
theorem isa_tup {o : D} (h : isa .tuple o = true) : ∃ os, o = .tup os := by
  cases o with
  | tup os => exact ⟨os, rfl⟩
  | _ => cases h
theorem part_o {ss : List D} {n : Int} {os xs : List D} (M : IsMind ss n os xs) : PartOk ss (.tup os) := ⟨os, rfl, M.lo, List.all_eq_true.mpr fun o ho => by
  obtain ⟨j, hj⟩ := List.mem_iff_getElem?.mp ho
  have hl := (List.getElem?_eq_some_iff.mp hj).1
  exact odds_tup (M.o j o _ hj (List.getElem?_eq_getElem (by have := M.lo; omega)))⟩
theorem part_x {ss : List D} {n : Int} {os xs : List D} (M : IsMind ss n os xs) : PartOk ss (.tup xs) := ⟨xs, rfl, M.lx, List.all_eq_true.mpr fun o ho => by
  obtain ⟨j, hj⟩ := List.mem_iff_getElem?.mp ho
  have hl := (List.getElem?_eq_some_iff.mp hj).1
  exact nexts_tup (M.x j o _ hj (List.getElem?_eq_getElem (by have := M.lx; omega)))⟩
theorem tupN3 {ds : List D} (h : ds.length = 3) : ∃ a b c, ds = [a, b, c] := by
  match ds, h with
  | [a, b, c], _ => exact ⟨a, b, c, rfl⟩
theorem c_lmind (k : Nat) {d : D} {q : Fr} {p : Nat} {ss : List D} (v : D) (m : Sto) (H : Hall d q p ss) (hz : Sz v) : callP prog (k + 6) f__law_is_mindful [v, d] m = .ok (bP (IsMindD ss v)) m := by
  have H0 := H
  obtain rfl := H.eq
  have s8 := H.S.le
  have key : ∃ r m', callP prog (k + 6) f__law_is_mindful [v, .tup [fr q, .int p, .tup ss]] m = .ok r m' ∧ (r = bP (IsMindD ss v) ∧ m' = m) := by
    refine wq_ex ?_
    rw [w_fn _ at__law_is_mindful rfl]
    dsimp only [d__law_is_mindful, b__law_is_mindful]
    cases v with
    | tup vs =>
      by_cases h3 : vs.length = 3
      · obtain ⟨a, b, c, rfl⟩ := tupN3 h3
        obtain ⟨za, zb, zc⟩ := hz.at3
        have wh := fun m => c_is_whole' (k + 4) a m
        cases hw : whole a with
        | false =>
          rw [hw] at wh
          simp -dsimp [isa, wh]
          refine kp ⟨bP_f fun ⟨_, _, _, e, _⟩ => ?_, rfl⟩
          cases e
          cases hw
        | true =>
          rw [hw] at wh
          obtain ⟨n, rfl⟩ : ∃ n, a = .int n := by
            cases a with
            | int n => exact ⟨n, rfl⟩
            | _ => cases hw
          by_cases n1 : 1 ≤ n
          · by_cases n4 : n ≤ 4
            · have sl : ∀ m, slD m (.tup [.int n, b, c]) (some 1) none = some (.tup [b, c]) := fun m => tail_drop m [.int n, b, c]
              simp -dsimp [isa, wh, n1, n4, sl]
              refine w_forD (fun pre e mm => ∃ e2 e6, e = [some (.tup [.int n, b, c]), some (.tup [fr q, .int p, .tup ss]), e2, none, some (.int n), some (.int ss.length), e6, none, none, none, none] ∧ mm = m ∧ ∀ w ∈ pre, PartOk ss w) ⟨none, none, rfl, rfl, fun w h => (List.not_mem_nil h).elim⟩ ?_ ?_
              · rintro pre w post e mm he ⟨e2, e6, rfl, rfl, hp⟩
                have bad : ¬ PartOk ss w → ¬ IsMindD ss (.tup [.int n, b, c]) := by
                  rintro nw ⟨n', os, xs, e, M⟩
                  cases e
                  have hw : w ∈ [D.tup os, .tup xs] := by rw [he]; simp
                  simp only [List.mem_cons, List.not_mem_nil, or_false] at hw
                  rcases hw with rfl | rfl
                  · exact nw (part_o M)
                  · exact nw (part_x M)
                have zw : Sz w := by
                  have hw : w ∈ [b, c] := by rw [he]; simp
                  simp only [List.mem_cons, List.not_mem_nil, or_false] at hw
                  rcases hw with rfl | rfl
                  · exact zb
                  · exact zc
                cases w with
                | tup ws =>
                  by_cases hl : ws.length = ss.length
                  · have zf := ev_filter (F := callP prog (k + 5)) (i := 6) (it := .seq (.var 2)) (c := .not (.isa .tuple (.var 6))) (env := [some (.tup [.int n, b, c]), some (.tup [fr q, .int p, .tup ss]), some (.tup ws), none, some (.int n), some (.int ss.length), e6, none, none, none, none]) (m := mm) (ds := ws) (fun d => !isa .tuple d) (seq_tup (by simp)) (small_lim (by omega)) (by simp) fun d hd => by simp
                    obtain ⟨L, hL, aL⟩ := filt_of (isa .tuple) ws
                    rw [hL] at zf
                    cases ha : ws.all (isa .tuple) with
                    | false =>
                      rw [ha] at aL
                      simp -dsimp [isa, hl, zf, aL]
                      refine kp ⟨bP_f (bad fun ⟨ws', e, _, h⟩ => ?_), rfl⟩
                      cases e
                      rw [ha] at h
                      cases h
                    | true =>
                      rw [ha] at aL
                      simp -dsimp [isa, hl, zf, aL]
                      refine kp ⟨_, _, rfl, rfl, fun w' h => ?_⟩
                      rcases List.mem_append.mp h with h | h
                      · exact hp w' h
                      · rw [List.mem_singleton.mp h]
                        exact ⟨ws, rfl, hl, ha⟩
                  · have hl2 : ¬ ((ws.length : Int) = ss.length) := by omega
                    simp -dsimp [isa, hl2]
                    exact kp ⟨bP_f (bad fun ⟨ws', e, h, _⟩ => hl (by cases e; exact h)), rfl⟩
                | _ =>
                  simp -dsimp [isa]
                  exact kp ⟨bP_f (bad fun ⟨ws', e, _⟩ => (by cases e)), rfl⟩
              · rintro e mm ⟨e2, e6, rfl, rfl, hp⟩
                obtain ⟨os, rfl, lo, ho⟩ := hp b (by simp)
                obtain ⟨xs, rfl, lx, hx⟩ := hp c (by simp)
                simp -dsimp
                rw [w_rng1 (by unfold lim; omega)]
                simp -dsimp
                refine w_forN' (fun j e m4 => ∃ e2 e3 e6 e7 e8 e9 e10, e = [some (.tup [.int n, .tup os, .tup xs]), some (.tup [fr q, .int p, .tup ss]), e2, e3, some (.int n), some (.int ss.length), e6, e7, e8, e9, e10] ∧ m4 = mm ∧ ∀ i, i < j → ∀ o x t, os[i]? = some o → xs[i]? = some x → ss[i]? = some t → oddsB n (seqLen t) o = true ∧ nextsB n (seqLen t) x = true)
                  ⟨e2, none, e6, none, none, none, none, rfl, rfl, fun i h => (Nat.not_lt_zero i h).elim⟩ ?_ ?_
                · rintro j e m4 hj ⟨e2, e3, e6, e7, e8, e9, e10, rfl, rfl, hst⟩
                  obtain ⟨o, g1⟩ : ∃ o, os[j]? = some o := ⟨_, List.getElem?_eq_getElem (by omega)⟩
                  obtain ⟨x, g2⟩ : ∃ x, xs[j]? = some x := ⟨_, List.getElem?_eq_getElem (by omega)⟩
                  obtain ⟨t, g3⟩ : ∃ t, ss[j]? = some t := ⟨_, List.getElem?_eq_getElem (by omega)⟩
                  obtain ⟨ts, rfl, t1, t4⟩ := H.S.row t (List.mem_of_getElem? g3)
                  obtain ⟨rs, rfl⟩ := isa_tup (List.all_eq_true.mp ho o (List.mem_of_getElem? g1))
                  obtain ⟨us, rfl⟩ := isa_tup (List.all_eq_true.mp hx x (List.mem_of_getElem? g2))
                  have j1 := atIx_nat g1
                  have j2 := atIx_nat g2
                  have j3 := atIx_nat g3
                  have zr := zb.2.all _ (List.mem_of_getElem? g1)
                  have zu := zc.2.all _ (List.mem_of_getElem? g2)
                  have bad1 : ¬ (oddsB n ts.length (.tup rs) = true) → ¬ IsMindD ss (.tup [.int n, .tup os, .tup xs]) := fun z w => z ((mind_t.mp w).o j _ _ g1 g3)
                  have bad2 : ¬ (nextsB n ts.length (.tup us) = true) → ¬ IsMindD ss (.tup [.int n, .tup os, .tup xs]) := fun z w => z ((mind_t.mp w).x j _ _ g2 g3)
                  by_cases r1 : (rs.length : Int) = n
                  · have zf := ev_filter (F := callP prog (k + 5)) (i := 6) (it := .seq (.var 7)) (c := .not (.call f__law_is_odds (.cons (.var 6) (.cons (.blt .len (.cons (.var 9) .nil)) .nil)))) (env := [some (.tup [.int n, .tup os, .tup xs]), some (.tup [fr q, .int p, .tup ss]), e2, some (.int j), some (.int n), some (.int ss.length), e6, some (.tup rs), some (.tup us), some (.tup ts), e10]) (m := m4) (ds := rs) (fun d => !chanceB d ts.length) (seq_tup (by simp)) (small_lim (by omega)) (by simp) fun d hd => by
                      have y := c_lodds (k + 1) d ts.length m4 (by omega) (zr.2.all d hd)
                      simp [y]
                    obtain ⟨L, hL, aL⟩ := filt_of (fun d => chanceB d ts.length) rs
                    rw [hL] at zf
                    have eo : oddsB n ts.length (.tup rs) = rs.all fun d => chanceB d ts.length := by
                      show (decide _ && _) = _
                      rw [decide_eq_true r1]
                      rfl
                    cases ha : rs.all (fun d => chanceB d ts.length) with
                    | false =>
                      rw [ha] at aL
                      simp -dsimp [j1, j2, j3, r1, zf, aL]
                      exact kp ⟨bP_f (bad1 (by rw [eo, ha]; decide)), rfl⟩
                    | true =>
                      rw [ha] at aL
                      by_cases u1 : us.length = ts.length
                      · simp -dsimp [j1, j2, j3, r1, zf, aL, u1]
                        refine w_forD (fun pre e m5 => ∃ e6 e10, e = [some (.tup [.int n, .tup os, .tup xs]), some (.tup [fr q, .int p, .tup ss]), e2, some (.int j), some (.int n), some (.int ss.length), e6, some (.tup rs), some (.tup us), some (.tup ts), e10] ∧ m5 = m4 ∧ pre.all (nextB n) = true) ⟨e6, e10, rfl, rfl, rfl⟩ ?_ ?_
                        · rintro pre w post e m5 he ⟨e6, e10, rfl, rfl, hp2⟩
                          have hw : w ∈ us := by rw [he]; simp
                          have bad : ¬ (nextB n w = true) → ¬ IsMindD ss (.tup [.int n, .tup os, .tup xs]) := fun nw => bad2 fun z => by
                            have z2 : (decide ((us.length : Int) = ts.length) && us.all (nextB n)) = true := z
                            rw [Bool.and_eq_true] at z2
                            exact nw (List.all_eq_true.mp z2.2 w hw)
                          cases w with
                          | tup ws =>
                            by_cases w1 : (ws.length : Int) = n
                            · have zf2 := ev_filter (F := callP prog (k + 5)) (i := 10) (it := .seq (.var 6)) (c := .or (.not (.call f__law_is_whole (.cons (.var 10) .nil))) (.not (.chn .le .lt (.cst (.int 0)) (.var 10) (.var 4)))) (env := [some (.tup [.int n, .tup os, .tup xs]), some (.tup [fr q, .int p, .tup ss]), e2, some (.int j), some (.int n), some (.int ss.length), some (.tup ws), some (.tup rs), some (.tup us), some (.tup ts), e10]) (m := m5) (ds := ws) (fun d => !betw d 0 (n - 1)) (seq_tup (by simp)) (small_lim (by omega)) (by simp) fun d hd => by
                                have y := c_is_whole' (k + 4) d m5
                                cases d with
                                | int x =>
                                  have y2 : whole (.int x) = true := rfl
                                  rw [y2] at y
                                  have e0 : betw (.int x) 0 (n - 1) = (decide (0 ≤ x) && decide (x ≤ n - 1)) := rfl
                                  rw [e0]
                                  by_cases x0 : 0 ≤ x
                                  · by_cases x1 : x < n
                                    · have x2 : x ≤ n - 1 := by omega
                                      simp [y, x0, x1, x2]
                                    · have x2 : ¬ (x ≤ n - 1) := by omega
                                      simp [y, x0, x1, x2]
                                  · simp [y, x0]
                                | _ =>
                                  simp [y, whole, betw]
                              obtain ⟨L2, hL2, aL2⟩ := filt_of (fun d => betw d 0 (n - 1)) ws
                              rw [hL2] at zf2
                              have en : nextB n (.tup ws) = ws.all fun d => betw d 0 (n - 1) := by
                                show (decide _ && _) = _
                                rw [decide_eq_true w1]
                                rfl
                              cases hb : ws.all (fun d => betw d 0 (n - 1)) with
                              | false =>
                                rw [hb] at aL2
                                simp -dsimp [isa, w1, zf2, aL2]
                                exact kp ⟨bP_f (bad (by rw [en, hb]; decide)), rfl⟩
                              | true =>
                                rw [hb] at aL2
                                simp -dsimp [isa, w1, zf2, aL2]
                                refine kp ⟨_, _, rfl, rfl, ?_⟩
                                rw [List.all_append, hp2, List.all_cons, en, hb]
                                rfl
                            · simp -dsimp [isa, w1]
                              refine kp ⟨bP_f (bad fun z => w1 ?_), rfl⟩
                              have z2 : (decide ((ws.length : Int) = n) && ws.all fun r => betw r 0 (n - 1)) = true := z
                              rw [Bool.and_eq_true] at z2
                              exact of_decide_eq_true z2.1
                          | _ =>
                            simp -dsimp [isa]
                            exact kp ⟨bP_f (bad fun h => by cases h), rfl⟩
                        · rintro e m5 ⟨e6, e10, rfl, rfl, hp2⟩
                          simp -dsimp
                          refine kp ⟨_, _, _, _, _, _, _, rfl, rfl, fun i hi o x t a1 a2 a3 => ?_⟩
                          by_cases e : i < j
                          · exact hst i e o x t a1 a2 a3
                          · rw [show i = j by omega] at a1 a2 a3
                            rw [g1] at a1
                            cases a1
                            rw [g2] at a2
                            cases a2
                            rw [g3] at a3
                            cases a3
                            refine ⟨eo.trans ha, ?_⟩
                            show (decide ((us.length : Int) = ts.length) && us.all (nextB n)) = true
                            rw [hp2, decide_eq_true (by omega)]
                            rfl
                      · have u2 : ¬ ((us.length : Int) = ts.length) := by omega
                        simp -dsimp [j1, j2, j3, r1, zf, aL, u2]
                        refine kp ⟨bP_f (bad2 fun z => u2 ?_), rfl⟩
                        have z2 : (decide ((us.length : Int) = ts.length) && us.all (nextB n)) = true := z
                        rw [Bool.and_eq_true] at z2
                        exact of_decide_eq_true z2.1
                  · simp -dsimp [j1, j2, j3, r1]
                    refine kp ⟨bP_f (bad1 fun z => r1 ?_), rfl⟩
                    have z2 : (decide ((rs.length : Int) = n) && rs.all fun r => chanceB r ts.length) = true := z
                    rw [Bool.and_eq_true] at z2
                    exact of_decide_eq_true z2.1
                · rintro e m4 ⟨e2, e3, e6, e7, e8, e9, e10, rfl, rfl, hst⟩
                  simp -dsimp
                  refine kp ⟨bP_t (mind_t.mpr ⟨n1, n4, lo, lx, fun j o t a1 a2 => ?_, fun j x t a1 a2 => ?_⟩), rfl⟩
                  · have hj := (List.getElem?_eq_some_iff.mp a1).1
                    exact (hst j (by omega) o _ t a1 (List.getElem?_eq_getElem (by omega)) a2).1
                  · have hj := (List.getElem?_eq_some_iff.mp a1).1
                    exact (hst j (by omega) _ x t (List.getElem?_eq_getElem (by omega)) a1 a2).2
            · simp -dsimp [isa, wh, n1, n4]
              refine kp ⟨bP_f fun ⟨_, _, _, e, M⟩ => ?_, rfl⟩
              cases e
              exact n4 M.n4
          · simp -dsimp [isa, wh, n1]
            refine kp ⟨bP_f fun ⟨_, _, _, e, M⟩ => ?_, rfl⟩
            cases e
            exact n1 M.n1
      · have h4 : ¬ ((vs.length : Int) = 3) := by omega
        simp -dsimp [isa, h4]
        exact kp ⟨bP_f fun ⟨_, _, _, e, _⟩ => (by cases e; exact h3 rfl), rfl⟩
    | _ =>
      simp -dsimp [isa]
      exact kp ⟨bP_f fun ⟨_, _, _, e, _⟩ => (by cases e), rfl⟩
  obtain ⟨r, m', e, rfl, rfl⟩ := key
  exact e
/-! ### players -/
def IsPlay (ss : List D) (v : D) : Prop := ∃ w x, v = .tup [.str w, x] ∧ ((w = tStill ∧ stillB ss x = true) ∨ (w = tMinded ∧ IsMindD ss x) ∨ (w = tTold ∧ IsToldD ss x))
theorem play_t {ss : List D} {w : List Nat} {x : D} : IsPlay ss (.tup [.str w, x]) ↔ ((w = tStill ∧ stillB ss x = true) ∨ (w = tMinded ∧ IsMindD ss x) ∨ (w = tTold ∧ IsToldD ss x)) := ⟨fun ⟨_, _, e, h⟩ => by cases e; exact h, fun h => ⟨_, _, rfl, h⟩⟩
theorem c_playA (k : Nat) {d : D} {q : Fr} {p : Nat} {ss : List D} (v : D) (m : Sto) (H : Hall d q p ss) (hz : Sz v) : callP prog (k + 7) f_is_player_by [d, v] m = .ok (bP (IsPlay ss v)) m := by
  have H0 := H
  obtain rfl := H.eq
  have eqs : ∀ (m : Sto) (a b : List Nat), cmp m .eq (.str a) (.str b) = some (.bl (decide (a = b))) := fun _ _ _ => rfl
  have t2 := c_is_tuple_of (k + 5) v 2 m
  rw [call_eq at_is_player_by rfl]
  cases ht : tupOf v 2 with
  | false =>
    rw [ht] at t2
    simp [b_is_player_by, t2]
    refine bP_f ?_
    rintro ⟨w, x, rfl, _⟩
    cases ht
  | true =>
    rw [ht] at t2
    obtain ⟨a, x, rfl⟩ := tup2 ht
    have zx := hz.at2.2
    cases a with
    | str w =>
      by_cases w1 : w = tStill
      · have y := c_is_still_by (k + 1) (fr q) (.int p) ss x m H.S.rooms zx
        subst w1
        simp [b_is_player_by, t2, isa, eqs, y]
        exact bP_b ⟨fun h => play_t.mpr (.inl ⟨rfl, h⟩), fun z => by
          rcases play_t.mp z with ⟨_, h⟩ | ⟨e, _⟩ | ⟨e, _⟩
          · exact h
          · cases e
          · cases e⟩
      · by_cases w2 : w = tMinded
        · have y := c_mindA k x m H0 zx
          subst w2
          simp [b_is_player_by, t2, isa, eqs, y]
          exact bP_iff ⟨fun h => play_t.mpr (.inr (.inl ⟨rfl, h⟩)), fun z => by
            rcases play_t.mp z with ⟨e, _⟩ | ⟨_, h⟩ | ⟨e, _⟩
            · cases e
            · exact h
            · cases e⟩
        · by_cases w3 : w = tTold
          · have y := c_toldA k x m H0 zx
            subst w3
            simp [b_is_player_by, t2, isa, eqs, y]
            exact bP_iff ⟨fun h => play_t.mpr (.inr (.inr ⟨rfl, h⟩)), fun z => by
              rcases play_t.mp z with ⟨e, _⟩ | ⟨e, _⟩ | ⟨_, h⟩
              · cases e
              · cases e
              · exact h⟩
          · simp [b_is_player_by, t2, isa, eqs, w1, w2, w3]
            exact bP_f fun z => by
              rcases play_t.mp z with ⟨e, _⟩ | ⟨e, _⟩ | ⟨e, _⟩
              · exact w1 e
              · exact w2 e
              · exact w3 e
    | _ =>
      simp [b_is_player_by, t2, isa]
      exact bP_f fun ⟨_, _, e, _⟩ => by cases e
theorem c_lplay (k : Nat) {d : D} {q : Fr} {p : Nat} {ss : List D} (v : D) (m : Sto) (H : Hall d q p ss) (hz : Sz v) : callP prog (k + 7) f__law_is_hero [v, d] m = .ok (bP (IsPlay ss v)) m := by
  have H0 := H
  obtain rfl := H.eq
  have eqs : ∀ (m : Sto) (a b : List Nat), cmp m .eq (.str a) (.str b) = some (.bl (decide (a = b))) := fun _ _ _ => rfl
  rw [call_eq at__law_is_hero rfl]
  cases v with
  | tup vs =>
    by_cases h2 : vs.length = 2
    · obtain ⟨a, x, e⟩ := tup2 (d := .tup vs) (decide_eq_true (by omega))
      cases e
      have zx := hz.at2.2
      cases a with
      | str w =>
        by_cases w1 : w = tStill
        · have y := c_lhabit (k + 1) (fr q) (.int p) ss x m H.S.rooms zx
          subst w1
          simp [b__law_is_hero, isa, eqs, y]
          exact bP_b ⟨fun h => play_t.mpr (.inl ⟨rfl, h⟩), fun z => by
            rcases play_t.mp z with ⟨_, h⟩ | ⟨e, _⟩ | ⟨e, _⟩
            · exact h
            · cases e
            · cases e⟩
        · by_cases w2 : w = tMinded
          · have y := c_lmind k x m H0 zx
            subst w2
            simp [b__law_is_hero, isa, eqs, y]
            exact bP_iff ⟨fun h => play_t.mpr (.inr (.inl ⟨rfl, h⟩)), fun z => by
              rcases play_t.mp z with ⟨e, _⟩ | ⟨_, h⟩ | ⟨e, _⟩
              · cases e
              · exact h
              · cases e⟩
          · by_cases w3 : w = tTold
            · have y := c_ltold k x m H0 zx
              subst w3
              simp [b__law_is_hero, isa, eqs, y]
              exact bP_iff ⟨fun h => play_t.mpr (.inr (.inr ⟨rfl, h⟩)), fun z => by
                rcases play_t.mp z with ⟨e, _⟩ | ⟨e, _⟩ | ⟨_, h⟩
                · cases e
                · cases e
                · exact h⟩
            · simp [b__law_is_hero, isa, eqs, w1, w2, w3]
              exact bP_f fun z => by
                rcases play_t.mp z with ⟨e, _⟩ | ⟨e, _⟩ | ⟨e, _⟩
                · exact w1 e
                · exact w2 e
                · exact w3 e
      | _ =>
        simp [b__law_is_hero, isa]
        exact bP_f fun ⟨_, _, e, _⟩ => by cases e
    · have h3 : ¬ ((vs.length : Int) = 2) := by omega
      simp [b__law_is_hero, isa, h3]
      exact bP_f fun ⟨_, _, e, _⟩ => by cases e; exact h2 rfl
  | _ =>
    simp [b__law_is_hero, isa]
    exact bP_f fun ⟨_, _, e, _⟩ => by cases e
end K79


set_option Elab.async false
set_option linter.all false
set_option maxRecDepth 100000
/-! K79P: things of any kind, and things bent. -/
namespace K79
open Dh
/-- sizes and depth -/
def Bh (b l h : Nat) (d : D) : Prop := Bd b l d ∧ d.py.depth ≤ h
theorem Bh.mono {b l h b2 l2 h2 : Nat} {d : D} (r : Bh b l h d) (x : b ≤ b2) (y : l ≤ l2) (z : h ≤ h2) : Bh b2 l2 h2 d := ⟨r.1.mono x y, Nat.le_trans r.2 z⟩
theorem dep_all {h : Nat} : ∀ {ds : List D}, PySem.PyData.depthAll (D.pys ds) ≤ h ↔ ∀ d ∈ ds, d.py.depth ≤ h
  | [] => by simp [D.pys, PySem.PyData.depthAll]
  | d :: ds => by
    have ih := dep_all (h := h) (ds := ds)
    show max d.py.depth (PySem.PyData.depthAll (D.pys ds)) ≤ h ↔ _
    rw [Nat.max_le, ih]
    simp
theorem Bh.tup {b l h : Nat} {ds : List D} (r : ∀ d ∈ ds, Bh b l h d) (hl : ds.length ≤ l) : Bh b l (h + 1) (.tup ds) :=
  ⟨⟨hl, Bds.of fun d hd => (r d hd).1⟩, Nat.succ_le_succ (dep_all.mpr fun d hd => (r d hd).2)⟩
theorem Bh.lst {b l h : Nat} {ds : List D} (r : ∀ d ∈ ds, Bh b l h d) (hl : ds.length ≤ l) : Bh b l (h + 1) (.lst ds) :=
  ⟨⟨hl, Bds.of fun d hd => (r d hd).1⟩, Nat.succ_le_succ (dep_all.mpr fun d hd => (r d hd).2)⟩
theorem Bh.mem {b l h : Nat} {ds : List D} (r : Bh b l h (.tup ds)) : ∃ g, h = g + 1 ∧ (∀ d ∈ ds, Bh b l g d) ∧ ds.length ≤ l := by
  obtain ⟨⟨r1, r2⟩, r3⟩ := r
  have r4 : PySem.PyData.depthAll (D.pys ds) + 1 ≤ h := r3
  exact ⟨h - 1, by omega, fun d hd => ⟨Bds.all r2 d hd, dep_all.mp (show PySem.PyData.depthAll (D.pys ds) ≤ h - 1 by omega) d hd⟩, r1⟩
theorem cut_drop {α : Type} (xs : List α) (k : Nat) (h : k ≤ xs.length) : cutL xs (some (k : Int)) none = xs.drop k := by
  unfold cutL slB
  have e : ¬ ((k : Int) < 0) := by omega
  simp only [if_neg e]
  rw [Int.toNat_natCast, Nat.min_eq_left h]
  exact List.take_of_length_le (by rw [List.length_drop]; omega)
theorem slT1 (m : Sto) (ds : List D) (k : Nat) (h : k ≤ ds.length) : slD m (.tup ds) none (some (k : Int)) = some (.tup (ds.take k)) := by
  show some (D.tup (cutL ds none (some (k : Int)))) = _
  rw [cut_take ds k h]
theorem slT2 (m : Sto) (ds : List D) (k : Nat) (h : k ≤ ds.length) : slD m (.tup ds) (some (k : Int)) none = some (.tup (ds.drop k)) := by
  show some (D.tup (cutL ds (some (k : Int)) none)) = _
  rw [cut_drop ds k h]
theorem addTL (s t : List D) (h : s.length + t.length ≤ lim) : bin .add (.tup s) (.tup t) = some (.tup (s ++ t)) := if_pos h
def odds : List D := [.non, .bl true, .bl false, .int 0, .int 1, .int (-1), .int 2, .int 9, .int (10 ^ 40), .str [], .str [97], .str [65], .str [97, 32, 98], .str [49, 97], .str [97, 98, 99, 100, 101, 102, 103, 104, 105, 106, 107, 108], .str [97, 98, 99, 100, 101, 102, 103, 104, 105, 106, 107, 108, 109],
  .tup [], .tup [.int 0, .int 1], .tup [.int 1, .int 1], .tup [.int 1, .int 2], .tup [.int 2, .int 2], .tup [.int 1, .int (-2)], .tup [.int (-1), .int 2], .tup [.int 0, .int 2], .tup [.bl true, .int 1], .tup [.int 1, .bl true], .tup [.int 1, .int 0], .tup [.str [97]],
  .str [97, 49], .str [110, 111, 110, 101], .str [115, 116, 105, 108, 108], .str [116, 111, 108, 100], .tup [.int 0], .tup [.int 0, .int 0, .int 0], .lst [], .lst [.int 1], .edict, .lst [.tup [.int 1, .int 1]], .tup [.tup [.int 1, .int 1]]]
theorem odds_ok : ∀ d ∈ odds, Bh (2 ^ 140) 20 2 d := by
  intro d hd
  unfold odds at hd
  simp only [List.mem_cons, List.not_mem_nil, or_false] at hd
  rcases hd with h | h | h | h | h | h | h | h | h | h | h | h | h | h | h | h | h | h | h | h | h | h | h | h | h | h | h | h | h | h | h | h | h | h | h | h | h | h | h <;> rw [h] <;> simp [Bh, Bd, Bds, D.py, D.pys, PySem.PyData.depth, PySem.PyData.depthAll, PySem.PyData.depthKv]
theorem c_odd (k : Nat) {m : Sto} {n c : Nat} (hu : Urn m n c) (hc : c + 1000 ≤ 1000000) : ∃ d m', callP prog (k + 3) f__law_odd [.loc n] m = .ok d m' ∧ Bh (2 ^ 140) 20 2 d ∧ Urn m' n (c + 1) ∧ Chg n m m' := by
  obtain ⟨d, m', e, hd, u, ch⟩ := c_pick k (ds := odds) hu (by omega) (by decide) (by decide)
  refine ⟨d, m', ?_, odds_ok d hd, u, ch⟩
  have p : bin .pow (.int 10) (.int 40) = some (.int (10 ^ 40)) := rfl
  have c1 : ∀ xs ys : List D, xs.length + ys.length ≤ 1000 → catD m (.lst xs) (.lst ys) = some (.lst (xs ++ ys)) := by
    intro xs ys h
    show (if xs.length + ys.length ≤ lim then some (D.lst (xs ++ ys)) else none) = _
    rw [if_pos (small_lim h)]
  rw [call_eq at__law_odd rfl]
  have a1 := c1 (odds.take 16) ((odds.drop 16).take 12) (by decide)
  have a2 := c1 (odds.take 28) (odds.drop 28) (by decide)
  have e1 : odds.take 16 ++ (odds.drop 16).take 12 = odds.take 28 := rfl
  have e2 : odds.take 28 ++ odds.drop 28 = odds := rfl
  rw [e1] at a1
  rw [e2] at a2
  simp [odds, p] at a1 a2 e
  simp [b__law_odd, p, a1, a2, e]
/-- twice a whole number -/
def dbl : D → D
  | .int i => .int (2 * i)
  | .bl b => .int (if b then 2 else 0)
  | d => d
theorem pow_up : (2 : Nat) ^ 140 ≤ 2 ^ 190 := Nat.pow_le_pow_right (by decide) (by decide)
theorem c_bent : ∀ (h k : Nat) {m : Sto} {n c b l : Nat} {d : D}, Bh b l h d → 2 ^ 140 ≤ b → b ≤ 2 ^ 190 → 20 ≤ l → l ≤ 900 → Urn m n c → c + 2000 + 10 * h ≤ 1000000 →
    ∃ r m', callP prog (k + h + 4) f__law_bent [.loc n, d] m = .ok r m' ∧ (Bh (2 * b) (l + 1) (h + 3) r ∧ Urn m' n (c + 10 + 10 * h) ∧ Chg n m m') := by
  intro h
  induction h with
  | zero =>
    intro k m n c b l d hb b0 b1 l0 l1 hu hc
    obtain ⟨r, m', e, hr, u, ch⟩ := c_odd k hu (by omega)
    have nt : isa .tuple d = false := by
      cases d with
      | tup ds =>
        obtain ⟨g, hg, _⟩ := hb.mem
        omega
      | _ => rfl
    refine ⟨r, m', ?_, hr.mono (by omega) (by omega) (by omega), u.mono (by omega), ch⟩
    rw [call_eq at__law_bent rfl]
    simp [b__law_bent, nt, e]
  | succ h ih =>
    intro k m n c b l d hb b0 b1 l0 l1 hu hc
    have hodd : ∀ (m1 : Sto) (c1 : Nat), Urn m1 n c1 → Chg n m m1 → c1 ≤ c + 9 → ∃ r m', callP prog (k + h + 4) f__law_odd [.loc n] m1 = .ok r m' ∧ (Bh (2 * b) (l + 1) (h + 1 + 3) r ∧ Urn m' n (c + 10 + 10 * (h + 1)) ∧ Chg n m m') := by
      intro m1 c1 u1 ch1 hc1
      obtain ⟨r, m', e, hr, u, ch⟩ := c_odd (k + h + 1) u1 (by omega)
      exact ⟨r, m', e, hr.mono (by omega) (by omega) (by omega), u.mono (by omega), ch1.trans ch⟩
    refine wq_ex ?_
    have ek : k + (h + 1) + 4 = k + h + 4 + 1 := by omega
    rw [ek, w_fn _ at__law_bent rfl]
    dsimp only [d__law_bent, b__law_bent]
    cases d with
    | tup ds =>
      obtain ⟨g, hg, hm, hl⟩ := hb.mem
      have hg2 : g = h := by omega
      subst hg2
      by_cases hz : ds = []
      · subst hz
        obtain ⟨r, m', e, hr⟩ := hodd m c hu (Chg.refl _ _) (by omega)
        have q : cmp m .eq (.tup []) (.tup []) = some (.bl true) := rfl
        simp -dsimp [q, e]
        exact kp hr
      · have q : ∀ m, cmp m .eq (.tup ds) (.tup []) = some (.bl false) := by
          intro m
          cases ds with
          | nil => exact (hz rfl).elim
          | cons x xs => rfl
        have hp : 1 ≤ ds.length := List.length_pos_iff.mpr hz
        obtain ⟨v, m1, e1, v0, v1, u1, c1⟩ := c_draw (k + g + 3) (s := 9) hu (by omega) (by decide) (by decide)
        simp -dsimp [q, e1]
        by_cases hv : v = 0
        · obtain ⟨r, m', e, hr⟩ := hodd m1 _ u1 c1 (by omega)
          simp -dsimp [hv, e]
          exact kp hr
        · obtain ⟨a, m2, e2, a0, a1, u2, c2⟩ := c_draw (k + g + 3) (s := ds.length) u1 (by omega) (by omega) (by omega)
          obtain ⟨w, m3, e3, w0, w1, u3, c3⟩ := c_draw (k + g + 3) (s := 14) u2 (by omega) (by decide) (by decide)
          obtain ⟨j, rfl⟩ : ∃ j : Nat, a = (j : Int) := ⟨a.toNat, by omega⟩
          have hj : j < ds.length := by omega
          have s1 : ∀ m, slD m (.tup ds) none (some (j : Int)) = some (.tup (ds.take j)) := fun m => slT1 m ds j (by omega)
          have s2 : ∀ m, slD m (.tup ds) (some ((j : Int) + 1)) none = some (.tup (ds.drop (j + 1))) := fun m => slT2 m ds (j + 1) hj
          have s3 : ∀ m, slD m (.tup ds) (some (j : Int)) none = some (.tup (ds.drop j)) := fun m => slT2 m ds j (by omega)
          have i1 : atIx ds (j : Int) = some ds[j] := by
            unfold atIx
            rw [if_pos (by omega), Int.toNat_natCast]
            exact List.getElem?_eq_getElem hj
          have ad : ∀ s t : List D, s.length + t.length ≤ 10000 → bin .add (.tup s) (.tup t) = some (.tup (s ++ t)) := fun s t h => addTL s t (Nat.le_trans h (by unfold lim; decide))
          have up : ∀ x ∈ ds, Bh (2 * b) (l + 1) (g + 3) x := fun x hx => (hm x hx).mono (by omega) (by omega) (by omega)
          have ut : ∀ (i : Nat), ∀ x ∈ ds.take i, Bh (2 * b) (l + 1) (g + 3) x := fun i x hx => up x (List.mem_of_mem_take hx)
          have ud : ∀ (i : Nat), ∀ x ∈ ds.drop i, Bh (2 * b) (l + 1) (g + 3) x := fun i x hx => up x (List.mem_of_mem_drop hx)
          have lt1 : (ds.take j).length = j := by rw [List.length_take]; omega
          have ld1 : (ds.drop (j + 1)).length = ds.length - (j + 1) := List.length_drop
          have ld0 : (ds.drop j).length = ds.length - j := List.length_drop
          have c13 := (c1.trans c2).trans c3
          have app : ∀ {xs ys : List D}, (∀ x ∈ xs, Bh (2 * b) (l + 1) (g + 3) x) → (∀ x ∈ ys, Bh (2 * b) (l + 1) (g + 3) x) → ∀ x ∈ xs ++ ys, Bh (2 * b) (l + 1) (g + 3) x := by
            intro xs ys p1 p2 x hx
            rcases List.mem_append.mp hx with h | h
            · exact p1 x h
            · exact p2 x h
          have one : ∀ {x : D}, Bh (2 * b) (l + 1) (g + 3) x → ∀ y ∈ [x], Bh (2 * b) (l + 1) (g + 3) y := by
            intro x p y hy
            rw [List.mem_singleton.mp hy]
            exact p
          have fin : ∀ (xs : List D) (m' : Sto) (cc : Nat), (∀ x ∈ xs, Bh (2 * b) (l + 1) (g + 3) x) → xs.length ≤ l + 1 → Urn m' n cc → cc ≤ c + 10 + 10 * (g + 1) → Chg n m m' → Bh (2 * b) (l + 1) (g + 1 + 3) (.tup xs) ∧ Urn m' n (c + 10 + 10 * (g + 1)) ∧ Chg n m m' :=
            fun xs m' cc p1 p2 p3 p4 p5 => ⟨Bh.tup p1 p2, p3.mono p4, p5⟩
          simp -dsimp [hv, e2, e3]
          by_cases w7 : w < 7
          · obtain ⟨r, m4, e5, hr, u4, c4⟩ := ih k (hm ds[j] (List.getElem_mem hj)) b0 b1 l0 l1 u3 (by omega)
            have t1 := ad (ds.take j) [r] (by simp; omega)
            have t2 := ad (ds.take j ++ [r]) (ds.drop (j + 1)) (by simp; omega)
            simp -dsimp [w7, s1, s2, i1, e5, t1, t2, -List.append_assoc, -List.take_append_getElem]
            exact kp <| fin _ _ _ (app (app (ut j) (one hr)) (ud (j + 1))) (by simp; omega) u4 (by omega) (c13.trans c4)
          · have x1 := ad (ds.take j) (ds.drop (j + 1)) (by simp; omega)
            have x2 := ad (ds.take j) [ds[j]] (by simp; omega)
            have x3 := ad (ds.take j ++ [ds[j]]) (ds.drop j) (by simp; omega)
            have x4 : atIx ds (-1) = some ds[ds.length - 1] := by
              unfold atIx
              rw [if_neg (by decide), if_pos (by omega)]
              have : ((-1 : Int) + (ds.length : Int)).toNat = ds.length - 1 := by omega
              rw [this]
              exact List.getElem?_eq_getElem (by omega)
            have x5 := ad (ds.take j) [ds[ds.length - 1]] (by simp; omega)
            have x6 := ad (ds.take j ++ [ds[ds.length - 1]]) (ds.drop (j + 1)) (by simp; omega)
            have x7 := ad (ds.drop j) (ds.take j) (by simp; omega)
            simp -dsimp [w7]
            by_cases w8 : w = 7
            · simp -dsimp [w8, s1, s2, x1]
              exact kp <| fin _ _ _ (app (ut j) (ud (j + 1))) (by simp; omega) u3 (by omega) c13
            · simp -dsimp [w8]
              by_cases w9 : w = 8
              · simp -dsimp [w9, s1, s3, i1, x2, x3, -List.append_assoc, -List.take_append_getElem]
                exact kp <| fin _ _ _ (app (app (ut j) (one (up _ (List.getElem_mem hj)))) (ud j)) (by simp; omega) u3 (by omega) c13
              · simp -dsimp [w9]
                by_cases w10 : w = 9
                · simp -dsimp [w10, seqOf]
                  exact kp ⟨Bh.lst up (by omega), u3.mono (by omega), c13⟩
                · simp -dsimp [w10]
                  by_cases w11 : w = 10
                  · obtain ⟨r, m', e, hr, ur, cr⟩ := c_odd (k + g + 1) u3 (by omega)
                    have x8 := ad ds [r] (by simp; omega)
                    simp -dsimp [w11, e, x8]
                    exact kp <| fin _ _ _ (app up (one (hr.mono (by omega) (by omega) (by omega)))) (by simp; omega) ur (by omega) (c13.trans cr)
                  · simp -dsimp [w11]
                    by_cases w12 : w = 11
                    · simp -dsimp [w12, s1, s2, x4, x5, x6, -List.append_assoc, -List.take_append_getElem]
                      exact kp <| fin _ _ _ (app (app (ut j) (one (up _ (List.getElem_mem (show ds.length - 1 < ds.length by omega))))) (ud (j + 1))) (by simp; omega) u3 (by omega) c13
                    · have z1 := ev_filter (F := callP prog (k + g + 4)) (i := 4) (it := .seq (.var 1)) (c := .isa .int (.var 4)) (env := [some (.loc n), some (.tup ds), some (.int j), some (.int w), none]) (m := m3) (ds := ds) (isa .int) (seq_tup (by simp)) (small_lim (by omega)) (by simp) fun d _ => by simp
                      by_cases w13 : w = 12
                      · subst w13
                        simp -dsimp [z1]
                        by_cases hf : (ds.filter (isa .int)).length = ds.length
                        · have al := List.length_filter_eq_length_iff.mp hf
                          have z2 := ev_map (F := callP prog (k + g + 4)) (elt := .bin .mul (.cst (.int 2)) (.var 4)) (i := 4) (it := .seq (.var 1)) (env := [some (.loc n), some (.tup ds), some (.int j), some (.int 12), none]) (m := m3) (ds := ds) dbl (seq_tup (by simp)) (small_lim (by omega)) (by simp) fun d hd => by
                            have a2 := al d hd
                            have bd := (hm d hd).1
                            cases d with
                            | int i =>
                              have b3 : Bt i 190 := Nat.lt_of_lt_of_le bd b1
                              have := b_mulB (i := 2) (j := i) (a := 10) (b := 190) (by unfold Bt; decide) b3 (by decide) (by decide)
                              simp [this, dbl]
                            | bl t => cases t <;> simp [dbl, bin]
                            | _ => cases a2
                          simp -dsimp [z2, hf]
                          refine kp <| fin _ _ _ (fun x hx => ?_) (by simp; omega) u3 (by omega) c13
                          obtain ⟨d, hd, rfl⟩ := List.mem_map.mp hx
                          have a2 := al d hd
                          have bd := (hm d hd).1
                          cases d with
                          | int i =>
                            have b4 : i.natAbs < b := bd
                            exact ⟨show (2 * i).natAbs < 2 * b by omega, Nat.zero_le _⟩
                          | bl t => exact ⟨show (if t then (2 : Int) else 0).natAbs < 2 * b by cases t <;> simp <;> omega, Nat.zero_le _⟩
                          | _ => cases a2
                        · have hf2 : ¬ (((ds.filter (isa .int)).length : Int) = ds.length) := by omega
                          simp -dsimp [hf2, s1, s3, x7]
                          exact kp <| fin _ _ _ (app (ud j) (ut j)) (by simp; omega) u3 (by omega) c13
                      · simp -dsimp [w12, w13, s1, s3, x7]
                        exact kp <| fin _ _ _ (app (ud j) (ut j)) (by simp; omega) u3 (by omega) c13
    | _ =>
      obtain ⟨r, m', e, hr⟩ := hodd m c hu (Chg.refl _ _) (by omega)
      simp -dsimp [isa, e]
      exact kp hr
end K79


set_option Elab.async false
set_option linter.all false
set_option maxRecDepth 100000
/-! K79Q: many memories, told plans otherwise. -/
namespace K79
open Dh PySem
theorem rng_lit {i : Int} {N : Nat} {m : Sto} {Q : Src → Sto → Prop} {E t} (h : i = N) (hl : N ≤ 1000) : Wq (rngW [.int i] m) Q E t ↔ Q (.fix (ranged 0 N)) m := by
  subst h
  exact w_rng1 (j := N) (small_lim hl)
theorem ev_mapE {F : Fn} {elt : E} {i : Nat} {it : I} {env : Dh.Env} {m : Sto} {ds : List D} {P : D → Prop} (h1 : evI F it env m = .ok (.fix ds) m) (hl : ds.length ≤ lim) (hi : i < env.length) (h2 : ∀ d ∈ ds, ∃ r, ev F elt (env.set i (some d)) m = .ok r m ∧ P r) :
    ∃ rs, ev F (.comp elt (.name i) it (.cst (.bl true))) env m = .ok (.lst rs) m ∧ rs.length = ds.length ∧ ∀ r ∈ rs, P r := by
  let g : D → D := fun d => match ev F elt (env.set i (some d)) m with
    | .ok r _ => r
    | _ => .non
  have hg : ∀ d ∈ ds, ev F elt (env.set i (some d)) m = .ok (g d) m ∧ P (g d) := by
    intro d hd
    obtain ⟨r, e, p⟩ := h2 d hd
    have : g d = r := by
      show (match ev F elt (env.set i (some d)) m with
        | .ok r _ => r
        | _ => .non) = r
      rw [e]
    rw [this]
    exact ⟨e, p⟩
  refine ⟨ds.map g, ev_map g h1 hl hi fun d hd => (hg d hd).1, by rw [List.length_map], fun r hr => ?_⟩
  obtain ⟨d, hd, rfl⟩ := List.mem_map.mp hr
  exact (hg d hd).2
abbrev Bq (h : Nat) (d : D) : Prop := Bh (2 ^ 140) 300 h d
theorem bq_up {h g : Nat} {d : D} (r : Bq h d) (l : h ≤ g) : Bq g d := r.mono (Nat.le_refl _) (Nat.le_refl _) l
theorem bq_int {i : Int} (h : i.natAbs < 2 ^ 140) : Bq 0 (.int i) := ⟨h, Nat.le_refl _⟩
theorem bq_tup {h : Nat} {ds : List D} (r : ∀ d ∈ ds, Bq h d) (hl : ds.length ≤ 300) : Bq (h + 1) (.tup ds) := Bh.tup r hl
theorem bq_two {h : Nat} {x y : D} (a : Bq h x) (b : Bq h y) : Bq (h + 1) (.tup [x, y]) := bq_tup (fun d hd => by
  simp only [List.mem_cons, List.not_mem_nil, or_false] at hd
  rcases hd with rfl | rfl
  · exact a
  · exact b) (by simp)
theorem bq_one {h : Nat} {x : D} (a : Bq h x) : Bq (h + 1) (.tup [x]) := bq_tup (fun d hd => by rw [List.mem_singleton.mp hd]; exact a) (by simp)
theorem bq_mem {h : Nat} {ds : List D} (r : Bq (h + 1) (.tup ds)) : (∀ d ∈ ds, Bq h d) ∧ ds.length ≤ 300 := by
  obtain ⟨g, e, h1, h2⟩ := r.mem
  have : g = h := by omega
  subst this
  exact ⟨h1, h2⟩
theorem bq_fr {p : Fr} {a : Nat} (h1 : Bt p.1 100) (h2 : Bt p.2 100) : Bq 1 (fr p) := bq_two (bq_int (Nat.lt_of_lt_of_le h1 (Nat.pow_le_pow_right (by decide) (by decide)))) (bq_int (Nat.lt_of_lt_of_le h2 (Nat.pow_le_pow_right (by decide) (by decide))))
theorem bq_row {n : Nat} {cs : List Fr} (g : GoodRow n cs) : Bq 2 (rowT cs) := by
  have z := good_sz g
  refine bq_tup (fun d hd => ?_) (Nat.le_trans z.1 (by decide))
  have z2 := Bds.all z.2 d hd
  obtain ⟨c, hc, rfl⟩ := List.mem_map.mp hd
  obtain ⟨_, a, b, _⟩ := z2
  exact bq_fr (a := 0) (show c.1.natAbs < 2 ^ 100 from a) (show c.2.natAbs < 2 ^ 100 from b)
theorem bq_rows {ss : List D} {rows : List (List Fr)} (S : Stands ss) (R : Rows ss rows) : Bq 3 (rowsT rows) := by
  have s8 := S.le
  refine bq_tup (fun d hd => ?_) (by rw [List.length_map, R.len]; omega)
  obtain ⟨cs, hcs, rfl⟩ := List.mem_map.mp hd
  obtain ⟨j, hj⟩ := List.mem_iff_getElem?.mp hcs
  have hl : j < ss.length := by rw [← R.len]; exact (List.getElem?_eq_some_iff.mp hj).1
  exact bq_row (R.row j cs _ hj (List.getElem?_eq_getElem hl))
theorem mem_small {ss : List D} {xs : List Int} (S : Stands ss) (h : Mem ss xs) : ∀ x ∈ xs, 0 ≤ x ∧ x < 10 := by
  have s8 := S.le
  induction h with
  | one s h0 h1 =>
    intro x hx
    rw [List.mem_singleton.mp hx]
    omega
  | more p s a g ts cl gl _ A hg ih =>
    intro x hx
    have e : p ++ [s, a, g] = (p ++ [s]) ++ [a, g] := by simp
    rw [e] at hx
    rcases List.mem_append.mp hx with h | h
    · exact ih x h
    · obtain ⟨us, e2, _, t4⟩ := S.row _ (List.mem_of_getElem? A.st)
      injection e2 with e2
      subst e2
      have a0 := A.a0
      have al := A.al
      obtain ⟨c, hc, rfl⟩ := List.mem_map.mp hg
      have := A.ch.at_ c hc
      simp only [List.mem_cons, List.not_mem_nil, or_false] at h
      rcases h with rfl | rfl
      · omega
      · omega
structure Pth (ss : List D) (b : Nat) (d : D) : Prop where
  ex : ∃ pr s, d = .tup ((pr ++ [s]).map .int) ∧ Mem ss (pr ++ [s]) ∧ pr.length ≤ b ∧ 0 ≤ s ∧ s < ss.length
theorem Pth.mono {ss : List D} {b c : Nat} {d : D} (h : Pth ss b d) (l : b ≤ c) : Pth ss c d := by
  obtain ⟨pr, s, h1, h2, h3, h4⟩ := h.ex
  exact ⟨pr, s, h1, h2, by omega, h4⟩
theorem bq_pth {ss : List D} {b : Nat} {d : D} (S : Stands ss) (h : Pth ss b d) (hb : b ≤ 100) : Bq 1 d := by
  obtain ⟨pr, s, rfl, hm, hl, _⟩ := h.ex
  refine bq_tup (fun d hd => ?_) (by simp; omega)
  obtain ⟨x, hx, rfl⟩ := List.mem_map.mp hd
  have := mem_small S hm x hx
  exact bq_int (by omega)
/-! ### sorted -/
theorem nks_of {Q : NestedKey → Prop} : ∀ {ds : List D}, (∀ d ∈ ds, ∃ k, nkOf d = some k ∧ dOf k = d ∧ Q k) → ∃ ks, nksOf ds = some ks ∧ dsOf ks = ds ∧ ∀ k ∈ ks, Q k
  | [], _ => ⟨[], rfl, rfl, fun k h => (List.not_mem_nil h).elim⟩
  | d :: ds, h => by
    obtain ⟨k, e1, e2, q⟩ := h d (List.mem_cons_self ..)
    obtain ⟨ks, f1, f2, f3⟩ := nks_of fun d hd => h d (List.mem_cons_of_mem _ hd)
    refine ⟨k :: ks, ?_, ?_, fun x hx => ?_⟩
    · rw [nksOf, e1, f1]
      rfl
    · rw [dsOf, e2, f2]
    · rcases List.mem_cons.mp hx with rfl | hx
      · exact q
      · exact f3 x hx
theorem sorted_of {Q : NestedKey → Prop} {ds : List D} {x : D} (m : Sto) (hx : keysOf m x = nksOf ds) (h : ∀ d ∈ ds, ∃ k, nkOf d = some k ∧ dOf k = d ∧ Q k) (hs : ∀ ks : List NestedKey, (∀ k ∈ ks, Q k) → sortable ks = true) (hl : ds.length ≤ lim) :
    ∃ rs, sortedD m x = some (.lst rs) ∧ rs.length = ds.length ∧ ∀ d ∈ rs, d ∈ ds := by
  obtain ⟨ks, e1, e2, e3⟩ := nks_of h
  have len : ks.length = ds.length := by
    have := congrArg List.length e2
    rw [ds_map, List.length_map] at this
    exact this
  refine ⟨dsOf (sortN ks), ?_, ?_, fun d hd => ?_⟩
  · unfold sortedD
    rw [hx, e1]
    show (if (sortable ks && decide (ks.length ≤ lim)) = true then some (D.lst (dsOf (sortN ks))) else none) = _
    rw [hs ks e3, decide_eq_true (by omega)]
    rfl
  · rw [ds_map, List.length_map, (sortN_perm ks).length_eq, len]
  · rw [ds_map] at hd
    obtain ⟨k, hk, rfl⟩ := List.mem_map.mp hd
    have := (sortN_perm ks).mem_iff.mp hk
    rw [← e2, ds_map]
    exact List.mem_map.mpr ⟨k, this, rfl⟩
theorem pths_sortable (ks : List NestedKey) (h : ∀ k ∈ ks, ∃ x xs, k = keyN (x :: xs)) : sortable ks = true := by
  unfold sortable
  rw [Bool.and_eq_true, Bool.or_eq_true]
  refine ⟨.inl (List.all_eq_true.mpr fun k hk => ?_), List.all_eq_true.mpr fun a ha => ?_⟩
  · obtain ⟨x, xs, rfl⟩ := h k hk
    rfl
  · obtain ⟨x, xs, rfl⟩ := h a ha
    rw [Bool.and_eq_true]
    refine ⟨decide_eq_true (by rw [NestedKey.depth, dep_ints]; decide), List.all_eq_true.mpr fun b hb => ?_⟩
    obtain ⟨y, ys, rfl⟩ := h b hb
    exact ok_ints (x :: xs) (y :: ys)
theorem nk_ints (xs : List Int) : nkOf (.tup (xs.map .int)) = some (keyN xs) := by
  rw [nkOf, nks_ints]
  rfl
/-- a row as a key -/
abbrev frN (c : Fr) : NestedKey := .tup [.num c.1, .num c.2]
abbrev rowN (cs : List Fr) : NestedKey := .tup (cs.map frN)
theorem nks_row : ∀ cs : List Fr, nksOf (cs.map fr) = some (cs.map frN)
  | [] => rfl
  | c :: cs => by
    rw [List.map_cons, nksOf, nks_row cs]
    rfl
theorem nk_row (cs : List Fr) : nkOf (rowT cs) = some (rowN cs) := by
  rw [nkOf, nks_row]
  rfl
theorem ds_row : ∀ cs : List Fr, dsOf (cs.map frN) = cs.map fr
  | [] => rfl
  | c :: cs => by
    rw [List.map_cons, dsOf, ds_row cs]
    rfl
theorem d_row (cs : List Fr) : dOf (rowN cs) = rowT cs := by rw [dOf, ds_row]
theorem dep_row : ∀ cs : List Fr, NestedKey.depthAll (cs.map frN) ≤ 1
  | [] => by decide
  | c :: cs => by
    rw [List.map_cons, NestedKey.depthAll]
    have := dep_row cs
    have e : (frN c).depth = 1 := rfl
    omega
theorem ok_row : ∀ xs ys : List Fr, okNs (xs.map frN) (ys.map frN) = true
  | [], _ => rfl
  | _ :: _, [] => rfl
  | x :: xs, y :: ys => by
    rw [List.map_cons, List.map_cons, okNs, ok_row xs ys]
    rfl
abbrev entN (e : List Int × List Fr) : NestedKey := .tup [keyN e.1, rowN e.2]
theorem ents_srt (ks : List NestedKey) (h : ∀ k ∈ ks, ∃ e, k = entN e) : sortable ks = true := by
  unfold sortable
  rw [Bool.and_eq_true, Bool.or_eq_true]
  refine ⟨.inr (List.all_eq_true.mpr fun k hk => ?_), List.all_eq_true.mpr fun a ha => ?_⟩
  · obtain ⟨e, rfl⟩ := h k hk
    rfl
  · obtain ⟨e, rfl⟩ := h a ha
    rw [Bool.and_eq_true]
    refine ⟨decide_eq_true ?_, List.all_eq_true.mpr fun b hb => ?_⟩
    · have d1 := dep_ints e.1
      have d2 := dep_row e.2
      show max (NestedKey.depthAll (e.1.map .num) + 1) (max (NestedKey.depthAll (e.2.map frN) + 1) 0) + 1 ≤ 8
      omega
    · obtain ⟨f, rfl⟩ := h b hb
      show (okN (keyN e.1) (keyN f.1) && (okN (rowN e.2) (rowN f.2) && true)) = true
      have o1 : okN (keyN e.1) (keyN f.1) = true := ok_ints e.1 f.1
      have o2 : okN (rowN e.2) (rowN f.2) = true := ok_row e.2 f.2
      rw [o1, o2]
      rfl
theorem nk_ent (e : List Int × List Fr) : nkOf (entT e) = some (entN e) ∧ dOf (entN e) = entT e := by
  constructor
  · rw [nkOf, nksOf, nk_ints, nksOf, nk_row, nksOf]
    rfl
  · rw [dOf, dsOf, d_ints, dsOf, d_row, dsOf]
theorem catL (m : Sto) (xs ys : List D) (h : xs.length + ys.length ≤ lim) : catD m (.lst xs) (.lst ys) = some (.lst (xs ++ ys)) := by
  show (if xs.length + ys.length ≤ lim then some (D.lst (xs ++ ys)) else none) = _
  rw [if_pos h]
theorem sl_takeL (m : Sto) (xs : List D) (k : Nat) : slD m (.lst xs) none (some (k : Int)) = some (.lst (xs.take k)) := by
  show some (D.lst (cutL xs none (some (k : Int)))) = _
  unfold cutL slB
  have e : ¬ ((k : Int) < 0) := by omega
  simp only [if_neg e]
  rw [Int.toNat_natCast, List.drop_zero, Nat.sub_zero]
  congr 2
  by_cases h : k ≤ xs.length
  · rw [Nat.min_eq_left h]
  · rw [Nat.min_eq_right (by omega), List.take_of_length_le (Nat.le_refl _), List.take_of_length_le (by omega)]
theorem c_crowd (k : Nat) {m : Sto} {n c : Nat} {d : D} {q : Fr} {p z : Nat} {ss : List D} (hu : Urn m n c) (hc : c + 20000 ≤ 1000000) (H : Hall d q p ss) (z1 : 1 ≤ z) (z40 : z ≤ 40) :
    ∃ v m', callP prog (k + 5) f__law_crowd [.loc n, d, .int z] m = .ok v m' ∧ (Bq 5 v ∧ Urn m' n (c + 11000) ∧ Chg n m m') := by
  have H0 := H
  obtain rfl := H.eq
  have s1 := H.S.pos
  have s8 := H.S.le
  have rg : ∀ j : Nat, ranged 0 (j : Int) = (List.range j).map fun i => D.int (i : Nat) := by
    intro j
    unfold ranged
    have : ((j : Int) - 0).toNat = j := by omega
    rw [this]
    congr 1
    funext i
    rw [Int.zero_add]
  obtain ⟨P0, e0, l0, hP0⟩ := ev_mapE (F := callP prog (k + 4)) (elt := .tup (.cons (.var 13) .nil)) (i := 13) (it := .range (.cons (.blt .len (.cons (.idx (.var 1) (.cst (.int 2))) .nil)) .nil)) (env := [some (.loc n), some (.tup [fr q, .int p, .tup ss]), some (.int z), none, none, none, none, none, none, none, none, none, none, none, none]) (m := m) (ds := ranged 0 (ss.length : Int)) (P := Pth ss 0)
    (rng1 (by simp) (by unfold lim; omega) (by unfold lim; omega)) (by rw [ranged_len]; unfold lim; omega) (by simp) fun d hd => by
      rw [rg] at hd
      obtain ⟨i, hi, rfl⟩ := List.mem_map.mp hd
      have hi := List.mem_range.mp hi
      exact ⟨.tup [.int i], by simp, ⟨[], i, rfl, .one _ (by omega) (by omega), Nat.le_refl _, by omega, by omega⟩⟩
  rw [ranged_len] at l0
  refine wq_ex ?_
  rw [w_fn _ at__law_crowd rfl]
  dsimp only [d__law_crowd, b__law_crowd]
  have wc : ∀ {F : Fn} {env : Dh.Env} {m m' : Sto} {e : E} {r : D} {Q : D → Sto → Prop} {E : Dh.Ex → Sto → Prop} {t}, ev F e env m = .ok r m' → (Wq (ev F e env m) Q E t ↔ Q r m') := fun h => by rw [h]; exact w_ok _ _ _
  simp -dsimp [wc e0]
  obtain ⟨N3, hN3⟩ : ∃ N : Nat, N = 3 := ⟨3, rfl⟩
  rw [rng_lit (i := 3) (N := N3) (by omega) (by omega)]
  simp -dsimp
  refine w_forN' (n := N3) (fun j e mm => ∃ P Dn e3 e9 e10 e11 e12 e13 e14, e = [some (.loc n), some (.tup [fr q, .int p, .tup ss]), some (.int z), e3, none, none, none, some (.lst P), some (.lst Dn), e9, e10, e11, e12, e13, e14] ∧ mm = m ∧ (∀ d ∈ P, Pth ss (2 * j) d) ∧ (∀ d ∈ Dn, Pth ss 6 d) ∧ P.length ≤ 640 ∧ Dn.length ≤ 20 * j)
    ⟨P0, [], _, _, _, _, _, _, _, rfl, rfl, hP0, fun d h => (List.not_mem_nil h).elim, by omega, by simp⟩ ?_ ?_
  · rintro j e mm hj ⟨P, Dn, e3, e9, e10, e11, e12, e13, e14, rfl, rfl, hP, hD, lP, lD⟩
    have t20 : ∀ m, slD m (.lst P) none (some 20) = some (.lst (P.take 20)) := fun m => sl_takeL m P 20
    have tl : (P.take 20).length ≤ 20 := by rw [List.length_take]; omega
    simp -dsimp [t20]
    refine w_forD (fun pre e m2 => ∃ Fr e10 e11 e12 e13 e14, e = [some (.loc n), some (.tup [fr q, .int p, .tup ss]), some (.int z), some (.int j), none, none, none, some (.lst P), some (.lst Dn), some (.lst Fr), e10, e11, e12, e13, e14] ∧ m2 = mm ∧ (∀ d ∈ Fr, Pth ss (2 * j + 2) d) ∧ Fr.length ≤ 32 * pre.length)
      ⟨[], _, _, _, _, _, rfl, rfl, fun d h => (List.not_mem_nil h).elim, by simp⟩ ?_ ?_
    · rintro pre x post e m2 he ⟨Fr, e10, e11, e12, e13, e14, rfl, rfl, hF, lF⟩
      have hx : x ∈ P.take 20 := by rw [he]; simp
      have lpre : pre.length + 1 ≤ 20 := by
        have := congrArg List.length he
        rw [List.length_append, List.length_cons] at this
        omega
      obtain ⟨pr, s, rfl, hm, hl, h0, h1⟩ := (hP x (List.mem_of_mem_take hx)).ex
      obtain ⟨ts, g1, g2, t1, t4, hd⟩ := H.at_ h0 h1
      have i0 := at_last (pr.map D.int) (D.int s)
      simp -dsimp [i0, g2]
      rw [w_rng1 (j := ts.length) (by unfold lim; omega)]
      simp -dsimp
      refine w_forN' (n := ts.length) (fun i e m3 => ∃ Fr e12 e13 e14, e = [some (.loc n), some (.tup [fr q, .int p, .tup ss]), some (.int z), some (.int j), none, none, none, some (.lst P), some (.lst Dn), some (.lst Fr), some (.tup (pr.map .int ++ [.int s])), some (.tup ts), e12, e13, e14] ∧ m3 = m2 ∧ (∀ d ∈ Fr, Pth ss (2 * j + 2) d) ∧ Fr.length ≤ 32 * pre.length + 8 * i)
        ⟨Fr, _, _, _, rfl, rfl, hF, by omega⟩ ?_ ?_
      · rintro i e m3 hi ⟨Fr, e12, e13, e14, rfl, rfl, hF, lF⟩
        obtain ⟨cl, gl, At1, g3, Dd⟩ := hd (i : Int) (by omega) (by omega)
        have l3 := Dd.ch.row.le
        obtain ⟨N, eN, lN, hN⟩ := ev_mapE (F := callP prog (k + 4)) (elt := .bin .add (.var 10) (.tup (.cons (.var 12) (.cons (.idx (.var 14) (.cst (.int 0))) .nil)))) (i := 14) (it := .seq (.idx (.idx (.var 11) (.var 12)) (.cst (.int 0)))) (env := [some (.loc n), some (.tup [fr q, .int p, .tup ss]), some (.int z), some (.int j), none, none, none, some (.lst P), some (.lst Dn), some (.lst Fr), some (.tup (pr.map .int ++ [.int s])), some (.tup ts), some (.int i), e13, e14]) (m := m3) (ds := cl.map fun c => .tup [.int c.1, fr c.2]) (P := Pth ss (2 * j + 2))
          (seq_tup (by simp [g3])) (by rw [List.length_map]; exact small_lim (by omega)) (by simp) fun d hd => by
            obtain ⟨cg, hcg, rfl⟩ := List.mem_map.mp hd
            have ad := addT (pr.map D.int ++ [D.int s]) [.int i, .int cg.1] (by simp; omega)
            obtain ⟨b0, b1⟩ := Dd.ch.at_ cg hcg
            refine ⟨_, by simp [ad]; rfl, ⟨pr ++ [s, i], cg.1, by simp, ?_, by simp; omega, b0, b1⟩⟩
            have := Mem.more pr s i cg.1 ts cl gl hm At1 (List.mem_map.mpr ⟨cg, hcg, rfl⟩)
            simpa using this
        rw [List.length_map] at lN
        have cc := catL m3 Fr N (by unfold lim; omega)
        simp -dsimp [wc eN, cc]
        refine kp ⟨_, _, _, _, rfl, rfl, fun d hd => ?_, by simp; omega⟩
        rcases List.mem_append.mp hd with h | h
        · exact hF d h
        · exact hN d h
      · rintro e m3 ⟨Fr, e12, e13, e14, rfl, rfl, hF, lF⟩
        simp -dsimp
        exact kp ⟨_, _, _, _, _, _, rfl, rfl, hF, by simp; omega⟩
    · rintro e m2 ⟨Fr, e10, e11, e12, e13, e14, rfl, rfl, hF, lF⟩
      have cc := catL m2 Dn (P.take 20) (by unfold lim; omega)
      simp -dsimp [t20, cc]
      refine kp ⟨Fr, Dn ++ P.take 20, _, _, _, _, _, _, _, rfl, rfl, fun d hd => (hF d hd).mono (by omega), fun d hd => ?_, by omega, by simp; omega⟩
      rcases List.mem_append.mp hd with h | h
      · exact hD d h
      · exact (hP d (List.mem_of_mem_take h)).mono (by omega)
  · rintro e mm ⟨P, Dn, e3, e9, e10, e11, e12, e13, e14, rfl, rfl, hP, hD, lP, lD⟩
    have cc := catL mm Dn P (by unfold lim; omega)
    have all : ∀ d ∈ Dn ++ P, Pth ss 6 d := fun d hd => by
      rcases List.mem_append.mp hd with h | h
      · exact hD d h
      · exact (hP d h).mono (by omega)
    obtain ⟨rs, so, lr, hr⟩ := sorted_of (Q := fun k => ∃ x xs, k = keyN (x :: xs)) (ds := Dn ++ P) (x := .lst (Dn ++ P)) mm rfl (fun d hd => by
      obtain ⟨pr, s, rfl, hm, _⟩ := (all d hd).ex
      refine ⟨_, nk_ints _, d_ints _, ?_⟩
      obtain ⟨x, r, e⟩ := mem_ne hm
      exact ⟨x, r, by rw [e]⟩) pths_sortable (by simp; unfold lim; omega)
    have tz : slD mm (.lst rs) none (some (z : Int)) = some (.lst (rs.take z)) := sl_takeL mm rs z
    obtain ⟨o, m3, q3, ⟨cs, rfl, gr⟩, u3, c3⟩ := c_oddsG (k + 1) (s := 4) hu (by omega) (by decide) (by decide)
    have q3 : callP prog (k + 4) f__law_odds [.loc n, .int 4] mm = .ok (rowT cs) m3 := q3
    obtain ⟨N, eN, lN, hN⟩ := ev_mapE (F := callP prog (k + 4)) (elt := .tup (.cons (.var 10) (.cons (.blt .tuple (.cons (.cat (.lst (.cons (.tup (.cons (.cst (.int 1)) (.cons (.cst (.int 1)) .nil))) .nil)) (.rep (.lst (.cons (.tup (.cons (.cst (.int 0)) (.cons (.cst (.int 1)) .nil))) .nil)) (.bin .sub (.blt .len (.cons (.idx (.idx (.var 1) (.cst (.int 2))) (.idx (.var 10) (.neg (.cst (.int 1))))) .nil)) (.cst (.int 1))))) .nil)) .nil))) (i := 10) (it := .seq (.var 4))
      (env := [some (.loc n), some (.tup [fr q, .int p, .tup ss]), some (.int z), e3, some (.lst (rs.take z)), some (rowT cs), none, some (.lst P), some (.lst Dn), e9, e10, e11, e12, e13, e14]) (m := m3) (ds := rs.take z) (P := Bq 3)
      (seq_lst (by simp)) (by rw [List.length_take]; unfold lim; omega) (by simp) fun d hd => by
        have pd := all d (hr d (List.mem_of_mem_take hd))
        have b1 := bq_pth H.S pd (by decide)
        obtain ⟨pr, s, rfl, hm, hl, h0, h1⟩ := pd.ex
        obtain ⟨ts, g1, g2, t1, t4, _⟩ := H.at_ h0 h1
        have i0 := at_last (pr.map D.int) (D.int s)
        have rp : repD (.lst [.tup [.int 0, .int 1]]) (.int ((ts.length : Int) - 1)) = some (.lst (List.replicate ((ts.length : Int) - 1).toNat [D.tup [.int 0, .int 1]]).flatten) := if_pos ⟨by omega, by omega, by decide⟩
        have fl : (List.replicate ((ts.length : Int) - 1).toNat [D.tup [.int 0, .int 1]]).flatten = List.replicate ((ts.length : Int) - 1).toNat (D.tup [.int 0, .int 1]) := by
          induction ((ts.length : Int) - 1).toNat with
          | zero => rfl
          | succ n ih => rw [List.replicate_succ, List.flatten_cons, ih, List.replicate_succ]; rfl
        rw [fl] at rp
        have tn : ((ts.length : Int) - 1).toNat = ts.length - 1 := by omega
        rw [tn] at rp
        have cc := catL m3 [.tup [.int 1, .int 1]] (List.replicate (ts.length - 1) (D.tup [.int 0, .int 1])) (by rw [List.length_replicate]; unfold lim; simp; omega)
        refine ⟨_, by simp -dsimp [i0, g2, rp, cc]; rfl, ?_⟩
        refine bq_two (bq_up (by simpa using b1) (by decide)) (bq_tup (fun d hd => ?_) (by simp; omega))
        have f1 : Bq 1 (.tup [.int 1, .int 1]) := bq_two (bq_int (by decide)) (bq_int (by decide))
        have f0 : Bq 1 (.tup [.int 0, .int 1]) := bq_two (bq_int (by decide)) (bq_int (by decide))
        rcases List.mem_cons.mp hd with h | h
        · rw [h]
          exact f1
        · rw [List.eq_of_mem_replicate h]
          exact f0
    obtain ⟨v, m5, q5, ⟨rows, rfl, R⟩, u5, c5⟩ := c_habit k (x := fr q) (p := .int p) u3 (by omega) H.S
    have br := bq_rows H.S R
    have bN : Bq 4 (.tup N) := bq_tup hN (by rw [lN, List.length_take]; omega)
    obtain ⟨c0, cr, rfl⟩ : ∃ c0 cr, cs = c0 :: cr := by
      cases cs with
      | nil =>
        have := gr.len
        simp at this
      | cons c0 cr => exact ⟨c0, cr, rfl⟩
    have tdr : ∀ m, slD m (.tup (rows.map rowT)) (some 1) none = some (.tup ((rows.map rowT).drop 1)) := fun m => tail_drop m _
    have q5' := q5
    simp -dsimp [-List.map_drop, -List.drop_one, cc, so, tz, q3, wc eN]
    by_cases h : 0 < c0.1
    · simp -dsimp [h, q5]
      exact kp ⟨bq_two bN (bq_up br (by decide)), u5.mono (by omega), c3.trans c5⟩
    · simp -dsimp [-List.map_drop, -List.drop_one, h, q5, tdr]
      refine kp ⟨bq_two bN (bq_up (bq_tup (fun d hd => (bq_mem br).1 d (List.mem_of_mem_drop hd)) ?_) (by decide)), u5.mono (by omega), c3.trans c5⟩
      have := (bq_mem br).2
      rw [List.length_drop]
      omega
end K79


set_option Elab.async false
set_option linter.all false
set_option maxRecDepth 100000
/-! K79R: a told plan with its memories otherwise. -/
namespace K79
open Dh PySem
theorem bq_ent {ss : List D} (S : Stands ss) {e : List Int × List Fr} (h : MemE ss e) : Bq 3 (entT e) := by
  obtain ⟨pr, s, ts, e1, s0, s1, e2, gr⟩ := h.row
  have bm : Bq 1 (.tup (e.1.map .int)) := bq_tup (fun d hd => by
    obtain ⟨x, hx, rfl⟩ := List.mem_map.mp hd
    have := mem_small S h.mem x hx
    exact bq_int (by omega)) (by rw [List.length_map]; have := h.len; omega)
  exact bq_two (bq_up bm (by decide)) (bq_row gr)
theorem cut_mem {α : Type} (xs : List α) (a b : Option Int) : (∀ x ∈ cutL xs a b, x ∈ xs) ∧ (cutL xs a b).length ≤ xs.length := by
  unfold cutL
  refine ⟨fun x hx => List.mem_of_mem_drop (List.mem_of_mem_take hx), ?_⟩
  rw [List.length_take, List.length_drop]
  omega
theorem bq_cut {h : Nat} {ds : List D} (b : Bq (h + 1) (.tup ds)) (lo hi : Option Int) : Bq (h + 1) (.tup (cutL ds lo hi)) := by
  obtain ⟨b1, b2⟩ := bq_mem b
  obtain ⟨c1, c2⟩ := cut_mem ds lo hi
  exact bq_tup (fun d hd => b1 d (c1 d hd)) (by omega)
theorem c_other (k : Nat) {m : Sto} {n c : Nat} {d : D} {q : Fr} {p : Nat} {ss : List D} (hu : Urn m n c) (hc : c + 20000 ≤ 1000000) (H : Hall d q p ss) {L : List (List Int × List Fr)} {rows : List (List Fr)} (T : Told ss L) (R : Rows ss rows) :
    ∃ v m', callP prog (k + 5) f__law_otherwise [.loc n, d, .tup [.tup (L.map entT), rowsT rows]] m = .ok v m' ∧ (Bq 5 v ∧ Urn m' n (c + 1000) ∧ Chg n m m') := by
  have H0 := H
  obtain rfl := H.eq
  have s1 := H.S.pos
  have s8 := H.S.le
  have tl := T.len
  show ∃ v m', callP prog (k + 5) f__law_otherwise [.loc n, .tup [fr q, .int p, .tup ss], .tup [.tup (L.map entT), .tup (rows.map rowT)]] m = .ok v m' ∧ _
  have bHB : Bq 3 (.tup (rows.map rowT)) := bq_rows H.S R
  have bLS : Bq 4 (.tup (L.map entT)) := bq_tup (fun d hd => by
    obtain ⟨e, he, rfl⟩ := List.mem_map.mp hd
    exact bq_ent H.S (T.ent e he)) (by rw [List.length_map]; omega)
  -- the memory, its odds
  obtain ⟨PT, m1, e1, ⟨pr, s, hPT, hm, hl, h0, h1⟩, u1, c1⟩ := c_memory (k + 1) hu (by omega) H0
  obtain ⟨ts, g1, g2, t1, t4, hd⟩ := H.at_ h0 h1
  obtain ⟨OD, m2, e2, ⟨cs, hOD, gr⟩, u2, c2⟩ := c_oddsG (k + 1) (s := ts.length) u1 (by omega) t1 (by omega)
  have pth : Pth ss 8 PT := ⟨pr, s, hPT, hm, hl, h0, h1⟩
  have bPT := bq_pth H.S pth (by decide)
  have bOD : Bq 2 OD := by rw [hOD]; exact bq_row gr
  have iPT : ∀ m, idxD m PT (.int (-1)) = some (.int s) := by
    intro m
    rw [hPT, List.map_append]
    exact at_last (pr.map D.int) (D.int s)
  obtain ⟨PM, sPM, bPM⟩ : ∃ PM, (∀ m, slD m PT none (some (-1)) = some PM) ∧ Bq 1 PM := by
    rw [hPT] at bPT ⊢
    exact ⟨_, fun _ => rfl, bq_cut bPT _ _⟩
  obtain ⟨OT, sOT, bOT⟩ : ∃ OT, (∀ m, slD m OD (some 1) none = some OT) ∧ Bq 2 OT := by
    rw [hOD] at bOD ⊢
    exact ⟨_, fun _ => rfl, bq_cut bOD _ _⟩
  -- more
  obtain ⟨MORE, aMORE, bMORE, lMORE, rs, so, lr, hr⟩ : ∃ MS : List D, bin .add (.tup [.tup [PT, OD]]) (.tup (L.map entT)) = some (.tup MS) ∧ Bq 4 (.tup MS) ∧ MS.length ≤ 5 ∧ ∃ rs, (∀ m, sortedD m (.tup MS) = some (.lst rs)) ∧ rs.length = MS.length ∧ ∀ d ∈ rs, d ∈ MS := by
    have ad := addT [.tup [PT, OD]] (L.map entT) (by simp; omega)
    have all : ∀ d ∈ [D.tup [PT, OD]] ++ L.map entT, ∃ k, nkOf d = some k ∧ dOf k = d ∧ ∃ e, k = entN e := by
      intro d hd
      rcases List.mem_append.mp hd with h | h
      · rw [List.mem_singleton.mp h, hPT, hOD]
        obtain ⟨a, b⟩ := nk_ent (pr ++ [s], cs)
        exact ⟨_, a, b, _, rfl⟩
      · obtain ⟨e, he, rfl⟩ := List.mem_map.mp h
        obtain ⟨a, b⟩ := nk_ent e
        exact ⟨_, a, b, _, rfl⟩
    have len : ([D.tup [PT, OD]] ++ L.map entT).length ≤ 5 := by simp; omega
    obtain ⟨rs, so, lr, hr⟩ := sorted_of (x := .tup ([D.tup [PT, OD]] ++ L.map entT)) (m := []) rfl all ents_srt (by unfold lim; omega)
    refine ⟨_, ad, bq_tup (fun d hd => ?_) (by omega), len, rs, fun m => so, lr, hr⟩
    rcases List.mem_append.mp hd with h | h
    · rw [List.mem_singleton.mp h]
      exact bq_two (bq_up bPT (by decide)) bOD
    · exact (bq_mem bLS).1 d h
  have bSRT : Bq 4 (.tup rs) := bq_tup (fun d hd => (bq_mem bMORE).1 d (hr d hd)) (by omega)
  have rv : ∀ (m : Sto) (ds : List D), revD m (.tup ds) = some (.tup ds.reverse) := fun _ _ => rfl
  have bRV : Bq 4 (.tup (L.map entT).reverse) := bq_tup (fun d hd => (bq_mem bLS).1 d (List.mem_reverse.mp hd)) (by rw [List.length_reverse, List.length_map]; omega)
  have bRH : Bq 3 (.tup (rows.map rowT).reverse) := bq_tup (fun d hd => (bq_mem bHB).1 d (List.mem_reverse.mp hd)) (by rw [List.length_reverse]; exact (bq_mem bHB).2)
  obtain ⟨LL, sLL, L2, aL2, bL2⟩ : ∃ LL, (∀ m, slD m (.tup (L.map entT)) (some (-1)) none = some LL) ∧ ∃ L2, bin .add (.tup (L.map entT)) LL = some L2 ∧ Bq 4 L2 := by
    have cm := cut_mem (L.map entT) (some (-1)) none
    rw [List.length_map] at cm
    refine ⟨_, fun _ => rfl, _, addT _ _ (by rw [List.length_map]; omega), bq_tup (fun d hd => ?_) (by simp; omega)⟩
    rcases List.mem_append.mp hd with h | h
    · exact (bq_mem bLS).1 d h
    · exact (bq_mem bLS).1 d (cm.1 d h)
  have hrevL := fun m => rv m (L.map entT)
  have hrevH := fun m => rv m (rows.map rowT)
  generalize hRV : D.tup (L.map entT).reverse = RV at bRV hrevL
  generalize hRH : D.tup (rows.map rowT).reverse = RH at bRH hrevH
  generalize hLS : D.tup (L.map entT) = LS at *
  generalize hHB : D.tup (rows.map rowT) = HB at *
  -- far
  obtain ⟨w, m3, e3, hw, u3, c3⟩ := c_pick (k + 2) (ds := [.int 1, .int 2, .int 5]) u2 (by omega) (by decide) (by decide)
  have hx : ∃ x : Nat, w = .int x ∧ x ≤ 5 := by
    simp only [List.mem_cons, List.not_mem_nil, or_false] at hw
    rcases hw with h | h | h
    · exact ⟨1, h, by decide⟩
    · exact ⟨2, h, by decide⟩
    · exact ⟨5, h, by decide⟩
  obtain ⟨x, rfl, x5⟩ := hx
  refine wq_ex ?_
  rw [w_fn _ at__law_otherwise rfl]
  dsimp only [d__law_otherwise, b__law_otherwise]
  simp -dsimp [e1, iPT, g2, e2, e3]
  rw [w_rng1 (by unfold lim; omega)]
  simp -dsimp
  refine w_forN' (fun j e mm => ∃ FAR e4 e12, e = [some (.loc n), some (.tup [fr q, .int p, .tup ss]), some (.tup [LS, HB]), some PT, e4, none, none, none, some LS, some HB, some FAR, some OD, e12] ∧ Pth ss (8 + 2 * j) FAR ∧ Urn mm n (c + 200 + 2 * j) ∧ Chg n m mm)
    ⟨PT, _, _, rfl, pth, u3.mono (by omega), c1.trans (c2.trans c3)⟩ ?_ ?_
  · rintro j e mm hj ⟨FAR, e4, e12, rfl, pf, u, ch⟩
    obtain ⟨pr, s, rfl, hm, hl, h0, h1⟩ := pf.ex
    obtain ⟨ts, g1, g2, t1, t4, hd⟩ := H.at_ h0 h1
    obtain ⟨a, m3, q3, a0, a1, u3, c3⟩ := c_draw (k + 3) (s := ts.length) u (by omega) (by omega) (by omega)
    obtain ⟨cl, gl, At1, g3, Dd⟩ := hd a a0 a1
    have l1 := Dd.ch.row.len
    have l2 := Dd.ch.row.pos
    have l3 := Dd.ch.row.le
    obtain ⟨v4, m4, q4, hv, u4, c4⟩ := c_pickT (k + 2) (ds := cl.map fun c => .tup [.int c.1, fr c.2]) u3 (by omega) (by rw [List.length_map]; omega) (by rw [List.length_map]; omega)
    obtain ⟨cg, hcg, rfl⟩ := List.mem_map.mp hv
    have i0 := at_last (pr.map D.int) (D.int s)
    have ad := addT (pr.map D.int ++ [D.int s]) [.int a, .int cg.1] (by simp; omega)
    simp -dsimp [i0, g2, q3, g3, q4, ad]
    obtain ⟨b0, b1⟩ := Dd.ch.at_ cg hcg
    have hm2 := Mem.more pr s a cg.1 ts cl gl hm At1 (List.mem_map.mpr ⟨cg, hcg, rfl⟩)
    exact kp ⟨_, _, _, rfl, ⟨pr ++ [s, a], cg.1, by simp, by simpa using hm2, by simp; omega, b0, b1⟩, u4.mono (by omega), ch.trans (c3.trans c4)⟩
  · rintro e mm ⟨FAR, e4, e12, rfl, pf, u, ch⟩
    have bFAR := bq_pth H.S pf (by omega)
    obtain ⟨sf, iF, f0, f1⟩ : ∃ s : Int, (∀ m, idxD m FAR (.int (-1)) = some (.int s)) ∧ 0 ≤ s ∧ s < ss.length := by
      obtain ⟨pr, s, rfl, hm, hl, h0, h1⟩ := pf.ex
      refine ⟨s, fun m => ?_, h0, h1⟩
      rw [List.map_append]
      exact at_last (pr.map D.int) (D.int s)
    obtain ⟨tf, _, gf, tf1, tf4, _⟩ := H.at_ f0 f1
    obtain ⟨OD2, m5, e5, ⟨cs2, hOD2, gr2⟩, u5, c5⟩ := c_oddsG (k + 1) (s := tf.length) u (by omega) tf1 (by omega)
    have bOD2 : Bq 2 OD2 := by rw [hOD2]; exact bq_row gr2
    obtain ⟨FM, aFM, bFM⟩ : ∃ FM, bin .add (.tup [.tup [FAR, OD2]]) (.tup MORE) = some FM ∧ Bq 4 FM := by
      refine ⟨_, addT _ _ (by simp; omega), bq_tup (fun d hd => ?_) (by simp; omega)⟩
      rcases List.mem_append.mp hd with h | h
      · rw [List.mem_singleton.mp h]
        exact bq_two (bq_up bFAR (by decide)) bOD2
      · exact (bq_mem bMORE).1 d h
    have cc : ∀ (m : Sto) (xs ys : List D), xs.length + ys.length ≤ 100 → catD m (.lst xs) (.lst ys) = some (.lst (xs ++ ys)) := fun m xs ys h => catL m xs ys (small_lim (by omega))
    obtain ⟨v, m6, e6, hv, u6, c6⟩ := c_pick (k + 2) (ds := [.tup [RV, HB], .tup [L2, HB], .tup [.tup MORE, HB], .tup [.tup rs, HB], .tup [.tup [.tup [FAR, OD2]], HB], .tup [.tup [.tup [PM, OD]], HB], .tup [.tup [.tup [PT, OT]], HB], .tup [FM, HB], .tup [LS, RH], .tup [LS], .tup [HB, LS], .tup [.tup [], HB]]) u5 (by omega) (by simp) (by simp)
    simp -dsimp [aMORE, hrevL, sLL, aL2, so, iF, gf, e5, sPM, sOT, cc, aFM, hrevH, e6]
    refine kp ⟨?_, u6.mono (by omega), ch.trans (c5.trans c6)⟩
    have h34 : ∀ {x : D}, Bq 3 x → Bq 4 x := fun h => bq_up h (by decide)
    have t2 : ∀ {x y : D}, Bq 1 x → Bq 2 y → Bq 4 (.tup [.tup [x, y]]) := fun h g => bq_one (bq_two (bq_up h (by decide)) g)
    simp only [List.mem_cons, List.not_mem_nil, or_false] at hv
    rcases hv with rfl | rfl | rfl | rfl | rfl | rfl | rfl | rfl | rfl | rfl | rfl | rfl
    · exact bq_two bRV (h34 bHB)
    · exact bq_two bL2 (h34 bHB)
    · exact bq_two bMORE (h34 bHB)
    · exact bq_two bSRT (h34 bHB)
    · exact bq_two (t2 bFAR bOD2) (h34 bHB)
    · exact bq_two (t2 bPM bOD) (h34 bHB)
    · exact bq_two (t2 bPT bOT) (h34 bHB)
    · exact bq_two bFM (h34 bHB)
    · exact bq_two bLS (h34 bRH)
    · exact bq_up (bq_one bLS) (by decide)
    · exact bq_two (h34 bHB) bLS
    · exact bq_two (bq_up (bq_tup (h := 0) (fun d h => (List.not_mem_nil h).elim) (by decide)) (by decide)) (h34 bHB)
end K79


set_option Elab.async false
set_option linter.all false
set_option maxRecDepth 100000
/-! K79S: the law holds. -/
namespace K79
open Dh PySem
theorem c_check_house (k : Nat) {d : D} {q : Fr} {p : Nat} {ss : List D} (m : Sto) (H : Hall d q p ss) : callP prog (k + 8) f_check_house [d] m = .ok .non m := by
  have y := c_is_house_by k d m H.sm.sz
  rw [H.house] at y
  rw [call_eq at_check_house rfl]
  simp [b_check_house, y]
theorem c_is_told (k : Nat) {d : D} {q : Fr} {p : Nat} {ss : List D} (v : D) (m : Sto) (H : Hall d q p ss) (hz : Sz v) : callP prog (k + 9) f_is_told [d, v] m = .ok (.bl (bB (IsToldD ss v))) m := by
  have y1 := c_check_house k m H
  have y2 : callP prog (k + 8) f_is_told_by [d, v] m = .ok (.bl (bB (IsToldD ss v))) m := c_toldA (k + 2) v m H hz
  rw [call_eq at_is_told rfl]
  simp [b_is_told, y1, y2]
theorem c_is_player (k : Nat) {d : D} {q : Fr} {p : Nat} {ss : List D} (v : D) (m : Sto) (H : Hall d q p ss) (hz : Sz v) : callP prog (k + 9) f_is_player [d, v] m = .ok (.bl (bB (IsPlay ss v))) m := by
  have y1 := c_check_house k m H
  have y2 : callP prog (k + 8) f_is_player_by [d, v] m = .ok (.bl (bB (IsPlay ss v))) m := c_playA (k + 1) v m H hz
  rw [call_eq at_is_player rfl]
  simp [b_is_player, y1, y2]
theorem bq_mind {M : Nat} {ss : List D} {A : List (List (List Fr))} {B : List (List (List Int))} (S : Stands ss) (m3 : M ≤ 3) (Mi : Minds M ss A B) : Bq 5 (.tup [.int (M : Nat), .tup (A.map rowsT), .tup (B.map nextT)]) := by
  have s8 := S.le
  have la := Mi.la
  have lb := Mi.lb
  have bA : Bq 4 (.tup (A.map rowsT)) := bq_tup (fun d hd => by
    obtain ⟨rs, hrs, rfl⟩ := List.mem_map.mp hd
    obtain ⟨j, hj⟩ := List.mem_iff_getElem?.mp hrs
    have hl := (List.getElem?_eq_some_iff.mp hj).1
    obtain ⟨h1, h2⟩ := Mi.a j rs _ hj (List.getElem?_eq_getElem (show j < ss.length by omega))
    refine bq_tup (fun d hd => ?_) (by rw [List.length_map]; omega)
    obtain ⟨cs, hcs, rfl⟩ := List.mem_map.mp hd
    exact bq_row (h2 cs hcs)) (by rw [List.length_map]; omega)
  have bB : Bq 3 (.tup (B.map nextT)) := bq_tup (fun d hd => by
    obtain ⟨r, hr, rfl⟩ := List.mem_map.mp hd
    obtain ⟨j, hj⟩ := List.mem_iff_getElem?.mp hr
    have hl := (List.getElem?_eq_some_iff.mp hj).1
    have ht := List.getElem?_eq_getElem (show j < ss.length by omega)
    obtain ⟨ts, e, t1, t4⟩ := S.row _ (List.mem_of_getElem? ht)
    obtain ⟨h1, h2⟩ := Mi.b j r _ hj ht
    rw [e] at h1
    have h1' : r.length = ts.length := h1
    refine bq_tup (fun d hd => ?_) (by rw [List.length_map]; omega)
    obtain ⟨xs, hxs, rfl⟩ := List.mem_map.mp hd
    obtain ⟨h3, h4⟩ := h2 xs hxs
    refine bq_tup (fun d hd => ?_) (by rw [List.length_map]; omega)
    obtain ⟨x, hx, rfl⟩ := List.mem_map.mp hd
    have := h4 x hx
    exact bq_int (by omega)) (by rw [List.length_map]; omega)
  refine bq_tup (fun d hd => ?_) (by simp)
  simp only [List.mem_cons, List.not_mem_nil, or_false] at hd
  rcases hd with rfl | rfl | rfl
  · exact bq_up (bq_int (by omega)) (by decide)
  · exact bA
  · exact bq_up bB (by decide)
theorem bq_told {ss : List D} (S : Stands ss) {L : List (List Int × List Fr)} {rows : List (List Fr)} (T : Told ss L) (R : Rows ss rows) : Bq 5 (.tup [.tup (L.map entT), rowsT rows]) := by
  have tl := T.len
  exact bq_two (bq_tup (fun d hd => by
    obtain ⟨e, he, rfl⟩ := List.mem_map.mp hd
    exact bq_ent S (T.ent e he)) (by rw [List.length_map]; omega)) (bq_up (bq_rows S R) (by decide))
theorem bq_str {s : List Nat} (h : s.length ≤ 300) : Bq 0 (.str s) := ⟨h, Nat.le_refl _⟩
theorem hero_bq {ss : List D} {v : D} (S : Stands ss) (h : Hero ss v) : ∃ w x, v = .tup [.str w, x] ∧ Bq 5 x ∧ w.length ≤ 10 := by
  cases h with
  | still rows R => exact ⟨_, _, rfl, bq_up (bq_rows S R) (by decide), by decide⟩
  | minded M A B M1 M3 Mi => exact ⟨_, _, rfl, bq_mind S M3 Mi, by decide⟩
  | told L rows T R => exact ⟨_, _, rfl, bq_told S T R, by decide⟩
theorem bh_sz {b l h : Nat} {d : D} (r : Bh b l h d) (hb : b ≤ 2 ^ 200) (hl : l ≤ 1000) : Sz d := Bd.mono hb hl r.1
theorem bq_sz {h : Nat} {d : D} (r : Bq h d) : Sz d := bh_sz r (Nat.pow_le_pow_right (by decide) (by decide)) (by decide)
theorem c_is_right (k : Nat) {m : Sto} {n c : Nat} (hu : Urn m n c) (hc : c + 200000 ≤ 1000000) : ∃ v m', callP prog (k + 30) f__law_is_right [.loc n] m = .ok v m' ∧ v = .bl true := by
  have pw : (2 : Nat) ^ 140 ≤ 2 ^ 190 := Nat.pow_le_pow_right (by decide) (by decide)
  have p141 : 2 * (2 : Nat) ^ 140 = 2 ^ 141 := by rw [show (141 : Nat) = 140 + 1 from rfl, Nat.pow_succ, Nat.mul_comm]
  have p142 : 2 * (2 : Nat) ^ 141 = 2 ^ 142 := by rw [show (142 : Nat) = 141 + 1 from rfl, Nat.pow_succ, Nat.mul_comm]
  have p1 : (2 : Nat) ^ 141 ≤ 2 ^ 200 := Nat.pow_le_pow_right (by decide) (by decide)
  have p2 : (2 : Nat) ^ 142 ≤ 2 ^ 200 := Nat.pow_le_pow_right (by decide) (by decide)
  have p3 : (2 : Nat) ^ 140 ≤ 2 ^ 141 := Nat.pow_le_pow_right (by decide) (by decide)
  have p4 : (2 : Nat) ^ 141 ≤ 2 ^ 190 := Nat.pow_le_pow_right (by decide) (by decide)
  have p5 : (2 : Nat) ^ 140 ≤ 2 ^ 200 := Nat.pow_le_pow_right (by decide) (by decide)
  obtain ⟨d, m1, e1, ⟨q, p, ss, H⟩, u1, c1⟩ := c_hallH (k + 25) (b := 3) (p := 1) hu (by omega) (by omega) (by omega) (by omega) (by omega)
  obtain ⟨PL, m2, e2, ⟨L, rows, hPL, T, R⟩, u2, c2⟩ := c_recalled (k + 24) u1 (by omega) H
  obtain ⟨HE, m3, e3, hh, u3, c3⟩ := c_hero (k + 23) u2 (by omega) H
  have bPL : Bq 5 PL := by rw [hPL]; exact bq_told H.S T R
  obtain ⟨r1, m4, e4, b1, u4, c4⟩ := c_bent 5 (k + 20) bPL (Nat.le_refl _) pw (by decide) (by decide) u3 (by omega)
  rw [p141] at b1
  obtain ⟨OT, m5, e5, bOT, u5, c5⟩ := c_other (k + 24) u4 (by omega) H T R
  rw [show (D.tup [.tup (L.map entT), rowsT rows]) = PL from hPL.symm] at e5
  obtain ⟨r2, m6, e6, b2, u6, c6⟩ := c_bent 8 (k + 17) b1 p3 p4 (by decide) (by decide) u5 (by omega)
  rw [p142] at b2
  obtain ⟨w, m7, e7, hw, u7, c7⟩ := c_pick (k + 27) (ds := [.int 31, .int 32, .int 33]) u6 (by omega) (by decide) (by decide)
  have hz : ∃ z : Nat, w = .int z ∧ 1 ≤ z ∧ z ≤ 40 := by
    simp only [List.mem_cons, List.not_mem_nil, or_false] at hw
    rcases hw with h | h | h
    · exact ⟨31, h, by decide, by decide⟩
    · exact ⟨32, h, by decide, by decide⟩
    · exact ⟨33, h, by decide, by decide⟩
  obtain ⟨z, rfl, z1, z40⟩ := hz
  obtain ⟨CR, m8, e8, bCR, u8, c8⟩ := c_crowd (k + 24) u7 (by omega) H z1 z40
  obtain ⟨OD, m9, e9, bOD, u9, c9⟩ := c_odd (k + 26) u8 (by omega)
  obtain ⟨hw, HX, hHE, bHX, lw⟩ := hero_bq H.S hh
  have bHE : Bq 6 HE := by rw [hHE]; exact bq_two (bq_up (bq_str (by omega)) (by decide)) bHX
  have iHE : ∀ m, idxD m HE (.int 1) = some HX := fun m => by rw [hHE]; rfl
  have sHE : ∀ m, seqOf m HE = some [.str hw, HX] := fun m => by rw [hHE]; rfl
  obtain ⟨lh, sPL, bLH⟩ : ∃ lh : List D, (∀ m, seqOf m PL = some lh) ∧ Sz (.lst lh) := by
    have z := bq_sz bPL
    rw [hPL] at z ⊢
    exact ⟨_, fun _ => rfl, z⟩
  obtain ⟨H2, aHE, bH2⟩ : ∃ H2, bin .add HE (.tup [.tup []]) = some H2 ∧ Sz H2 := by
    have z := bq_sz bHE
    rw [hHE] at z ⊢
    refine ⟨_, addT _ _ (by simp), ?_⟩
    exact ⟨by simp, z.2.1, z.2.2.1, ⟨by simp, trivial⟩, trivial⟩
  have cc : ∀ (m : Sto) (xs ys : List D), xs.length + ys.length ≤ 100 → catD m (.lst xs) (.lst ys) = some (.lst (xs ++ ys)) := fun m xs ys h => catL m xs ys (small_lim (by omega))
  refine wq_ex ?_
  rw [w_fn _ at__law_is_right rfl]
  dsimp only [d__law_is_right, b__law_is_right]
  simp -dsimp [e1, e2, e3, e4, e5, e6, e7, e8, iHE, e9, sPL, cc]
  have all8 : ∀ z ∈ [PL, r1, r2, OT, CR, HX, OD, .lst lh], Sz z := by
    intro z hz
    simp only [List.mem_cons, List.not_mem_nil, or_false] at hz
    rcases hz with rfl | rfl | rfl | rfl | rfl | rfl | rfl | rfl
    · exact bq_sz bPL
    · exact bh_sz b1 p1 (by decide)
    · exact bh_sz b2 p2 (by decide)
    · exact bq_sz bOT
    · exact bq_sz bCR
    · exact bq_sz bHX
    · exact bh_sz bOD p5 (by decide)
    · exact bLH
  refine w_forD (fun pre e mm => ∃ e3 e8, e = [some (.loc n), some d, some (.lst [PL, r1, r2, OT, CR, HX]), e3, some PL, some HE, some r1, some OT, e8, none] ∧ mm = m9) ⟨none, none, rfl, rfl⟩ ?_ ?_
  · rintro pre z post e mm he ⟨e3, e8, rfl, rfl⟩
    have zS := all8 z (by rw [he]; simp)
    have k1 : callP prog (k + 29) f__law_is_recalled [z, d] mm = .ok (.bl (bB (IsToldD ss z))) mm := c_ltold (k + 23) z mm H zS
    have k2 := c_is_told (k + 20) z mm H zS
    simp -dsimp [k1, k2, repr_bl]
    exact kp ⟨_, _, rfl, rfl⟩
  · rintro e mm ⟨e3, e8, rfl, rfl⟩
    obtain ⟨r3, m10, e10, b3, u10, c10⟩ := c_bent 6 (k + 19) bHE (Nat.le_refl _) pw (by decide) (by decide) u9 (by omega)
    rw [p141] at b3
    obtain ⟨WD, m11, e11, hWD, u11, c11⟩ := c_pick (k + 27) (ds := [.str [115, 116, 105, 108, 108], .str [109, 105, 110, 100, 101, 100], .str [116, 111, 108, 100], .str [84, 111, 108, 100], .str []]) u10 (by omega) (by decide) (by decide)
    have zWD : Sz WD := by
      simp only [List.mem_cons, List.not_mem_nil, or_false] at hWD
      rcases hWD with rfl | rfl | rfl | rfl | rfl <;> exact bq_sz (bq_str (by decide))
    obtain ⟨r4, m12, e12, b4, u12, c12⟩ := c_bent 9 (k + 16) b3 p3 p4 (by decide) (by decide) u11 (by omega)
    rw [p142] at b4
    obtain ⟨OD2, m13, e13, bOD2, u13, c13⟩ := c_odd (k + 26) u12 (by omega)
    obtain ⟨MI, m14, e14, ⟨M, A, B, hMI, M1, M3, Mi⟩, u14, c14⟩ := c_mindful (k + 25) u13 (by omega) H
    have bMI : Bq 5 MI := by rw [hMI]; exact bq_mind H.S M3 Mi
    obtain ⟨r5, m15, e15, b5, u15, c15⟩ := c_bent 5 (k + 20) bMI (Nat.le_refl _) pw (by decide) (by decide) u14 (by omega)
    rw [p141] at b5
    have pair : ∀ {x y : D}, Sz x → Sz y → Sz (.tup [x, y]) := fun a b => ⟨by simp, a, b, trivial⟩
    have sstr : ∀ (s : List Nat), s.length ≤ 300 → Sz (.str s) := fun s h => bq_sz (bq_str h)
    have all11 : ∀ z ∈ [HE, r3, r4, .tup [WD, HX], .tup [.str [116, 111, 108, 100], OT], .tup [.str [116, 111, 108, 100], CR], H2, OD2, .lst [.str hw, HX], HX, .tup [.str [109, 105, 110, 100, 101, 100], r5]], Sz z := by
      intro z hz
      simp only [List.mem_cons, List.not_mem_nil, or_false] at hz
      rcases hz with rfl | rfl | rfl | rfl | rfl | rfl | rfl | rfl | rfl | rfl | rfl
      · exact bq_sz bHE
      · exact bh_sz b3 p1 (by decide)
      · exact bh_sz b4 p2 (by decide)
      · exact pair zWD (bq_sz bHX)
      · exact pair (sstr _ (by decide)) (bq_sz bOT)
      · exact pair (sstr _ (by decide)) (bq_sz bCR)
      · exact bH2
      · exact bh_sz bOD2 p5 (by decide)
      · exact pair (sstr _ (by omega)) (bq_sz bHX)
      · exact bq_sz bHX
      · exact pair (sstr _ (by decide)) (bh_sz b5 p1 (by decide))
    have a4 : ∀ a b c d e f : D, atIx [a, b, c, d, e, f] (4 : Int) = some e := fun _ _ _ _ _ _ => rfl
    simp -dsimp [e10, e11, e12, iHE, a4, aHE, e13, sHE, e14, e15, cc]
    refine w_forD (fun pre e mm => ∃ e3 e8, e = [some (.loc n), some d, some (.lst [HE, r3, r4, .tup [WD, HX], .tup [.str [116, 111, 108, 100], OT], .tup [.str [116, 111, 108, 100], CR], H2]), e3, some PL, some HE, some r3, some OT, e8, some WD] ∧ mm = m15) ⟨_, _, rfl, rfl⟩ ?_ ?_
    · rintro pre z post e mm he ⟨e3, e8, rfl, rfl⟩
      have zS := all11 z (by rw [he]; simp)
      have k1 : callP prog (k + 29) f__law_is_hero [z, d] mm = .ok (.bl (bB (IsPlay ss z))) mm := c_lplay (k + 22) z mm H zS
      have k2 := c_is_player (k + 20) z mm H zS
      simp -dsimp [k1, k2, repr_bl]
      exact kp ⟨_, _, rfl, rfl⟩
    · rintro e mm ⟨e3, e8, rfl, rfl⟩
      simp -dsimp
      exact kp rfl
theorem c_law (k : Nat) (m : Sto) (ns : List Int) (h : ns.length ≤ 63) : ∃ d m', callP prog (k + 31) f_law [.lst (ns.map .int)] m = .ok d m' ∧ d = .bl true := by
  refine wq_ex ?_
  rw [w_fn _ at_law rfl]
  dsimp only [d_law, b_law]
  simp -dsimp
  obtain ⟨N, hN⟩ : ∃ N : Nat, N = 2 := ⟨2, rfl⟩
  rw [rng_lit (i := 2) (N := N) (by omega) (by omega)]
  simp -dsimp
  refine w_forN' (fun j e mm => ∃ e1, e = [some (.lst (ns.map .int)), e1]) ⟨none, rfl⟩ ?_ ?_
  · rintro j e mm hj ⟨e1, rfl⟩
    obtain ⟨o, k1, u1⟩ := c_urn (k + 29) mm ns j (by omega) (by omega) (by omega)
    obtain ⟨r, mm2, k2, rfl⟩ := c_is_right k u1 (by omega)
    simp -dsimp [k1, k2]
    exact kp ⟨_, rfl⟩
  · rintro e mm ⟨e1, rfl⟩
    simp -dsimp
    exact kp rfl
theorem law_true (ns : List Int) (h : ns.length ≤ 63) : ∃ m', callP prog 60 f_law [.lst (ns.map .int)] [] = .ok (.bl true) m' := by
  obtain ⟨d, m', e, rfl⟩ := c_law 29 [] ns h
  exact ⟨m', e⟩
end K79


set_option Elab.async false
set_option linter.all false
set_option maxRecDepth 100000
set_option maxHeartbeats 0
namespace K79
open Dh PySem PySem.Spec PyProof.Rows L2

abbrev R : PySem.W.OpenRow := PySem.W.OpenLaw.row PySem.Challenge.rw_deedhouses_k79_told_plans_players_of_any
def top (i : Nat) : Stmt := R.prog.main.body.getD i (.Pass default)
def tbl : List Dh.Ent := [
  ⟨⟨[105, 115, 95, 119, 104, 111, 108, 101], [[118, 97, 108, 117, 101]], false⟩, [[118, 97, 108, 117, 101]], b_is_whole, top 2⟩,
  ⟨⟨[105, 115, 95, 98, 101, 116, 119, 101, 101, 110], [[118, 97, 108, 117, 101], [108, 111, 119], [104, 105, 103, 104]], false⟩, [[118, 97, 108, 117, 101], [108, 111, 119], [104, 105, 103, 104]], b_is_between, top 3⟩,
  ⟨⟨[105, 115, 95, 116, 117, 112, 108, 101, 95, 111, 102], [[118, 97, 108, 117, 101], [109, 97, 110, 121]], false⟩, [[118, 97, 108, 117, 101], [109, 97, 110, 121]], b_is_tuple_of, top 4⟩,
  ⟨⟨[105, 115, 95, 114, 97, 116, 105, 111], [[118, 97, 108, 117, 101]], false⟩, [[118, 97, 108, 117, 101]], b_is_ratio, top 8⟩,
  ⟨⟨[105, 115, 95, 114, 111, 119], [[118, 97, 108, 117, 101], [109, 97, 110, 121]], false⟩, [[118, 97, 108, 117, 101], [109, 97, 110, 121], [101, 97, 99, 104]], b_is_row, top 9⟩,
  ⟨⟨[114, 97, 116, 105, 111], [[116, 111, 112], [108, 111, 119]], false⟩, [[116, 111, 112], [108, 111, 119], [112, 97, 114, 116]], b_ratio, top 10⟩,
  ⟨⟨[112, 108, 117, 115], [[111, 110, 101], [116, 119, 111]], false⟩, [[111, 110, 101], [116, 119, 111]], b_plus, top 11⟩,
  ⟨⟨[116, 111, 116, 97, 108], [[102, 114, 97, 99, 116, 105, 111, 110, 115]], false⟩, [[102, 114, 97, 99, 116, 105, 111, 110, 115], [102, 111, 117, 110, 100], [101, 97, 99, 104]], b_total, top 12⟩,
  ⟨⟨[105, 115, 95, 99, 104, 97, 110, 99, 101, 95, 114, 111, 119], [[118, 97, 108, 117, 101], [109, 97, 110, 121]], false⟩, [[118, 97, 108, 117, 101], [109, 97, 110, 121], [101, 97, 99, 104]], b_is_chance_row, top 13⟩,
  ⟨⟨[105, 115, 95, 115, 116, 105, 108, 108, 95, 98, 121], [[104, 111, 117, 115, 101], [118, 97, 108, 117, 101]], false⟩, [[104, 111, 117, 115, 101], [118, 97, 108, 117, 101], [111, 100, 100, 115], [100, 101, 101, 100, 115]], b_is_still_by, top 16⟩,
  ⟨⟨[97, 114, 101, 95, 111, 100, 100, 115], [[118, 97, 108, 117, 101], [109, 105, 110, 100, 115], [100, 101, 101, 100, 115]], false⟩, [[118, 97, 108, 117, 101], [109, 105, 110, 100, 115], [100, 101, 101, 100, 115], [111, 100, 100, 115]], b_are_odds, top 17⟩,
  ⟨⟨[97, 114, 101, 95, 110, 101, 120, 116, 115], [[118, 97, 108, 117, 101], [109, 105, 110, 100, 115], [100, 101, 101, 100, 115]], false⟩, [[118, 97, 108, 117, 101], [109, 105, 110, 100, 115], [100, 101, 101, 100, 115], [114, 111, 119], [109, 105, 110, 100]], b_are_nexts, top 18⟩,
  ⟨⟨[105, 115, 95, 109, 105, 110, 100, 101, 100, 95, 98, 121], [[104, 111, 117, 115, 101], [118, 97, 108, 117, 101]], false⟩, [[104, 111, 117, 115, 101], [118, 97, 108, 117, 101], [109, 105, 110, 100, 115], [111, 100, 100, 115, 95, 114, 111, 119, 115], [110, 101, 120, 116, 115], [101, 97, 99, 104], [100, 101, 101, 100, 115]], b_is_minded_by, top 19⟩,
  ⟨⟨[97, 114, 101, 95, 99, 104, 97, 110, 99, 101, 115], [[118, 97, 108, 117, 101], [115, 116, 97, 110, 100, 115]], false⟩, [[118, 97, 108, 117, 101], [115, 116, 97, 110, 100, 115], [103, 111, 97, 108, 115], [115, 116, 97, 110, 100], [95], [101, 97, 99, 104], [99, 104, 97, 110, 99, 101], [111, 110, 101], [116, 119, 111]], b_are_chances, top 24⟩,
  ⟨⟨[105, 115, 95, 100, 101, 101, 100], [[118, 97, 108, 117, 101], [112, 97, 121, 115], [115, 116, 97, 110, 100, 115]], false⟩, [[118, 97, 108, 117, 101], [112, 97, 121, 115], [115, 116, 97, 110, 100, 115]], b_is_deed, top 25⟩,
  ⟨⟨[105, 115, 95, 115, 116, 97, 110, 100], [[118, 97, 108, 117, 101], [112, 97, 121, 115], [115, 116, 97, 110, 100, 115]], false⟩, [[118, 97, 108, 117, 101], [112, 97, 121, 115], [115, 116, 97, 110, 100, 115], [101, 97, 99, 104]], b_is_stand, top 26⟩,
  ⟨⟨[105, 115, 95, 115, 104, 97, 114, 101], [[118, 97, 108, 117, 101]], false⟩, [[118, 97, 108, 117, 101]], b_is_share, top 27⟩,
  ⟨⟨[105, 115, 95, 104, 111, 117, 115, 101, 95, 98, 121], [[118, 97, 108, 117, 101]], false⟩, [[118, 97, 108, 117, 101], [115, 116, 97, 110, 100, 115], [101, 97, 99, 104]], b_is_house_by, top 28⟩,
  ⟨⟨[99, 104, 101, 99, 107, 95, 104, 111, 117, 115, 101], [[118, 97, 108, 117, 101]], false⟩, [[118, 97, 108, 117, 101]], b_check_house, top 33⟩,
  ⟨⟨[105, 115, 95, 109, 101, 109, 111, 114, 121], [[104, 111, 117, 115, 101], [118, 97, 108, 117, 101]], false⟩, [[104, 111, 117, 115, 101], [118, 97, 108, 117, 101], [97, 116], [100, 101, 101, 100, 115], [103, 111, 97, 108], [95]], b_is_memory, top 37⟩,
  ⟨⟨[105, 115, 95, 116, 111, 108, 100, 95, 98, 121], [[104, 111, 117, 115, 101], [118, 97, 108, 117, 101]], false⟩, [[104, 111, 117, 115, 101], [118, 97, 108, 117, 101], [101, 97, 99, 104], [111, 110, 101], [116, 119, 111], [109, 101, 109, 111, 114, 121], [111, 100, 100, 115]], b_is_told_by, top 38⟩,
  ⟨⟨[105, 115, 95, 112, 108, 97, 121, 101, 114, 95, 98, 121], [[104, 111, 117, 115, 101], [118, 97, 108, 117, 101]], false⟩, [[104, 111, 117, 115, 101], [118, 97, 108, 117, 101]], b_is_player_by, top 39⟩,
  ⟨⟨[105, 115, 95, 116, 111, 108, 100], [[104, 111, 117, 115, 101], [118, 97, 108, 117, 101]], true⟩, [[104, 111, 117, 115, 101], [118, 97, 108, 117, 101]], b_is_told, top 41⟩,
  ⟨⟨[105, 115, 95, 112, 108, 97, 121, 101, 114], [[104, 111, 117, 115, 101], [118, 97, 108, 117, 101]], true⟩, [[104, 111, 117, 115, 101], [118, 97, 108, 117, 101]], b_is_player, top 42⟩,
  ⟨⟨[95, 108, 97, 119, 95, 117, 114, 110], [[95, 108, 97, 119, 95, 115, 99, 114, 105, 112, 116], [95, 108, 97, 119, 95, 115, 97, 108, 116]], false⟩, [[95, 108, 97, 119, 95, 115, 99, 114, 105, 112, 116], [95, 108, 97, 119, 95, 115, 97, 108, 116], [95, 108, 97, 119, 95, 109, 105, 120, 101, 100], [95, 108, 97, 119, 95, 99, 101, 108, 108], [95, 108, 97, 119, 95, 103, 114, 101, 97, 116]], b__law_urn, top 44⟩,
  ⟨⟨[95, 108, 97, 119, 95, 100, 114, 97, 119], [[95, 108, 97, 119, 95, 117, 114, 110, 95, 104, 101, 114, 101], [95, 108, 97, 119, 95, 115, 105, 122, 101]], false⟩, [[95, 108, 97, 119, 95, 117, 114, 110, 95, 104, 101, 114, 101], [95, 108, 97, 119, 95, 115, 105, 122, 101], [95, 108, 97, 119, 95, 109, 105, 120, 101, 100], [95, 108, 97, 119, 95, 100, 105, 103, 105, 116]], b__law_draw, top 45⟩,
  ⟨⟨[95, 108, 97, 119, 95, 112, 105, 99, 107], [[95, 108, 97, 119, 95, 117, 114, 110, 95, 104, 101, 114, 101], [95, 108, 97, 119, 95, 115, 111, 109, 101]], false⟩, [[95, 108, 97, 119, 95, 117, 114, 110, 95, 104, 101, 114, 101], [95, 108, 97, 119, 95, 115, 111, 109, 101]], b__law_pick, top 46⟩,
  ⟨⟨[95, 108, 97, 119, 95, 99, 117, 116], [[95, 108, 97, 119, 95, 116, 111, 112], [95, 108, 97, 119, 95, 98, 101, 108, 111, 119]], false⟩, [[95, 108, 97, 119, 95, 116, 111, 112], [95, 108, 97, 119, 95, 98, 101, 108, 111, 119], [95, 108, 97, 119, 95, 104, 105, 103, 104], [95, 108, 97, 119, 95, 108, 111, 119]], b__law_cut, top 47⟩,
  ⟨⟨[95, 108, 97, 119, 95, 112, 108, 117, 115], [[95, 108, 97, 119, 95, 102, 105, 114, 115, 116], [95, 108, 97, 119, 95, 115, 101, 99, 111, 110, 100]], false⟩, [[95, 108, 97, 119, 95, 102, 105, 114, 115, 116], [95, 108, 97, 119, 95, 115, 101, 99, 111, 110, 100]], b__law_plus, top 48⟩,
  ⟨⟨[95, 108, 97, 119, 95, 111, 100, 100, 115], [[95, 108, 97, 119, 95, 117, 114, 110, 95, 104, 101, 114, 101], [95, 108, 97, 119, 95, 115, 105, 122, 101]], false⟩, [[95, 108, 97, 119, 95, 117, 114, 110, 95, 104, 101, 114, 101], [95, 108, 97, 119, 95, 115, 105, 122, 101], [95, 108, 97, 119, 95, 112, 97, 114, 116, 115], [95, 108, 97, 119, 95, 108, 97, 112], [95, 108, 97, 119, 95, 119, 104, 111, 108, 101], [95, 108, 97, 119, 95, 101, 97, 99, 104]], b__law_odds, top 49⟩,
  ⟨⟨[95, 108, 97, 119, 95, 104, 97, 108, 108], [[95, 108, 97, 119, 95, 117, 114, 110, 95, 104, 101, 114, 101], [95, 108, 97, 119, 95, 109, 111, 115, 116], [95, 108, 97, 119, 95, 112, 117, 114, 115, 101]], false⟩, [[95, 108, 97, 119, 95, 117, 114, 110, 95, 104, 101, 114, 101], [95, 108, 97, 119, 95, 109, 111, 115, 116], [95, 108, 97, 119, 95, 112, 117, 114, 115, 101], [95, 108, 97, 119, 95, 97, 116], [95, 108, 97, 119, 95, 115, 105, 122, 101], [95, 108, 97, 119, 95, 114, 111, 111, 109, 115], [95, 108, 97, 119, 95, 97, 99, 116, 115], [95, 108, 97, 119, 95, 108, 97, 112], [95, 108, 97, 119, 95, 116, 117, 114, 110, 101, 100], [95, 108, 97, 119, 95, 111, 100, 100, 115, 95, 104, 101, 114, 101], [95, 108, 97, 119, 95, 103, 97, 105, 110, 115], [95, 108, 97, 119, 95, 107]], b__law_hall, top 50⟩,
  ⟨⟨[95, 108, 97, 119, 95, 104, 97, 98, 105, 116], [[95, 108, 97, 119, 95, 117, 114, 110, 95, 104, 101, 114, 101], [95, 108, 97, 119, 95, 104, 97, 108, 108, 95, 104, 101, 114, 101]], false⟩, [[95, 108, 97, 119, 95, 117, 114, 110, 95, 104, 101, 114, 101], [95, 108, 97, 119, 95, 104, 97, 108, 108, 95, 104, 101, 114, 101], [95, 108, 97, 119, 95, 102, 111, 117, 110, 100], [95, 108, 97, 119, 95, 97, 99, 116, 115]], b__law_habit, top 51⟩,
  ⟨⟨[95, 108, 97, 119, 95, 109, 101, 109, 111, 114, 121], [[95, 108, 97, 119, 95, 117, 114, 110, 95, 104, 101, 114, 101], [95, 108, 97, 119, 95, 104, 97, 108, 108, 95, 104, 101, 114, 101]], false⟩, [[95, 108, 97, 119, 95, 117, 114, 110, 95, 104, 101, 114, 101], [95, 108, 97, 119, 95, 104, 97, 108, 108, 95, 104, 101, 114, 101], [95, 108, 97, 119, 95, 112, 97, 116, 104], [95, 108, 97, 119, 95, 108, 97, 112], [95, 108, 97, 119, 95, 97, 99, 116]], b__law_memory, top 52⟩,
  ⟨⟨[95, 108, 97, 119, 95, 114, 101, 99, 97, 108, 108, 101, 100], [[95, 108, 97, 119, 95, 117, 114, 110, 95, 104, 101, 114, 101], [95, 108, 97, 119, 95, 104, 97, 108, 108, 95, 104, 101, 114, 101]], false⟩, [[95, 108, 97, 119, 95, 117, 114, 110, 95, 104, 101, 114, 101], [95, 108, 97, 119, 95, 104, 97, 108, 108, 95, 104, 101, 114, 101], [95, 108, 97, 119, 95, 116, 97, 98, 108, 101], [95, 108, 97, 119, 95, 108, 97, 112], [95, 108, 97, 119, 95, 112, 97, 116, 104]], b__law_recalled, top 53⟩,
  ⟨⟨[95, 108, 97, 119, 95, 109, 105, 110, 100, 102, 117, 108], [[95, 108, 97, 119, 95, 117, 114, 110, 95, 104, 101, 114, 101], [95, 108, 97, 119, 95, 104, 97, 108, 108, 95, 104, 101, 114, 101]], false⟩, [[95, 108, 97, 119, 95, 117, 114, 110, 95, 104, 101, 114, 101], [95, 108, 97, 119, 95, 104, 97, 108, 108, 95, 104, 101, 114, 101], [95, 108, 97, 119, 95, 97, 99, 116, 115], [95, 108, 97, 119, 95, 109, 105, 110, 100, 115], [95, 108, 97, 119, 95, 111, 100, 100, 115, 95, 104, 101, 114, 101], [95, 108, 97, 119, 95, 97, 102, 116, 101, 114], [95, 108, 97, 119, 95, 108, 97, 112], [95, 108, 97, 119, 95, 97, 99, 116], [95, 108, 97, 119, 95, 115, 111, 109, 101], [95, 108, 97, 119, 95, 98, 101, 104, 105, 110, 100], [95, 108, 97, 119, 95, 103, 111, 97, 108, 115]], b__law_mindful, top 54⟩,
  ⟨⟨[95, 108, 97, 119, 95, 104, 101, 114, 111], [[95, 108, 97, 119, 95, 117, 114, 110, 95, 104, 101, 114, 101], [95, 108, 97, 119, 95, 104, 97, 108, 108, 95, 104, 101, 114, 101]], false⟩, [[95, 108, 97, 119, 95, 117, 114, 110, 95, 104, 101, 114, 101], [95, 108, 97, 119, 95, 104, 97, 108, 108, 95, 104, 101, 114, 101], [95, 108, 97, 119, 95, 107, 105, 110, 100]], b__law_hero, top 55⟩,
  ⟨⟨[95, 108, 97, 119, 95, 105, 115, 95, 119, 104, 111, 108, 101], [[95, 108, 97, 119, 95, 116, 104, 105, 110, 103]], false⟩, [[95, 108, 97, 119, 95, 116, 104, 105, 110, 103]], b__law_is_whole, top 56⟩,
  ⟨⟨[95, 108, 97, 119, 95, 105, 115, 95, 112, 97, 114, 116], [[95, 108, 97, 119, 95, 116, 104, 105, 110, 103]], false⟩, [[95, 108, 97, 119, 95, 116, 104, 105, 110, 103]], b__law_is_part, top 57⟩,
  ⟨⟨[95, 108, 97, 119, 95, 105, 115, 95, 98, 97, 110, 100], [[95, 108, 97, 119, 95, 116, 104, 105, 110, 103], [95, 108, 97, 119, 95, 115, 105, 122, 101]], false⟩, [[95, 108, 97, 119, 95, 116, 104, 105, 110, 103], [95, 108, 97, 119, 95, 115, 105, 122, 101], [95, 108, 97, 119, 95, 101, 97, 99, 104]], b__law_is_band, top 58⟩,
  ⟨⟨[95, 108, 97, 119, 95, 105, 115, 95, 111, 100, 100, 115], [[95, 108, 97, 119, 95, 116, 104, 105, 110, 103], [95, 108, 97, 119, 95, 115, 105, 122, 101]], false⟩, [[95, 108, 97, 119, 95, 116, 104, 105, 110, 103], [95, 108, 97, 119, 95, 115, 105, 122, 101], [95, 108, 97, 119, 95, 116, 111, 116, 97, 108], [95, 108, 97, 119, 95, 101, 97, 99, 104]], b__law_is_odds, top 59⟩,
  ⟨⟨[95, 108, 97, 119, 95, 111, 100, 100], [[95, 108, 97, 119, 95, 117, 114, 110, 95, 104, 101, 114, 101]], false⟩, [[95, 108, 97, 119, 95, 117, 114, 110, 95, 104, 101, 114, 101], [95, 108, 97, 119, 95, 115, 111, 109, 101]], b__law_odd, top 60⟩,
  ⟨⟨[95, 108, 97, 119, 95, 98, 101, 110, 116], [[95, 108, 97, 119, 95, 117, 114, 110, 95, 104, 101, 114, 101], [95, 108, 97, 119, 95, 116, 104, 105, 110, 103]], false⟩, [[95, 108, 97, 119, 95, 117, 114, 110, 95, 104, 101, 114, 101], [95, 108, 97, 119, 95, 116, 104, 105, 110, 103], [95, 108, 97, 119, 95, 97, 116], [95, 108, 97, 119, 95, 119, 97, 121, 95, 111, 110], [95, 108, 97, 119, 95, 101, 97, 99, 104]], b__law_bent, top 61⟩,
  ⟨⟨[95, 108, 97, 119, 95, 105, 115, 95, 104, 97, 98, 105, 116], [[95, 108, 97, 119, 95, 116, 104, 105, 110, 103], [95, 108, 97, 119, 95, 104, 97, 108, 108, 95, 104, 101, 114, 101]], false⟩, [[95, 108, 97, 119, 95, 116, 104, 105, 110, 103], [95, 108, 97, 119, 95, 104, 97, 108, 108, 95, 104, 101, 114, 101], [95, 108, 97, 119, 95, 107]], b__law_is_habit, top 62⟩,
  ⟨⟨[95, 108, 97, 119, 95, 105, 115, 95, 109, 105, 110, 100, 102, 117, 108], [[95, 108, 97, 119, 95, 116, 104, 105, 110, 103], [95, 108, 97, 119, 95, 104, 97, 108, 108, 95, 104, 101, 114, 101]], false⟩, [[95, 108, 97, 119, 95, 116, 104, 105, 110, 103], [95, 108, 97, 119, 95, 104, 97, 108, 108, 95, 104, 101, 114, 101], [95, 108, 97, 119, 95, 112, 97, 114, 116], [95, 108, 97, 119, 95, 97, 116], [95, 108, 97, 119, 95, 109, 105, 110, 100, 115], [95, 108, 97, 119, 95, 115, 105, 122, 101], [95, 108, 97, 119, 95, 101, 97, 99, 104], [95, 108, 97, 119, 95, 111, 100, 100, 115, 95, 104, 101, 114, 101], [95, 108, 97, 119, 95, 97, 102, 116, 101, 114], [95, 108, 97, 119, 95, 97, 99, 116, 115], [95, 108, 97, 119, 95, 109, 105, 110, 100]], b__law_is_mindful, top 63⟩,
  ⟨⟨[95, 108, 97, 119, 95, 105, 115, 95, 109, 101, 109, 111, 114, 121], [[95, 108, 97, 119, 95, 116, 104, 105, 110, 103], [95, 108, 97, 119, 95, 104, 97, 108, 108, 95, 104, 101, 114, 101]], false⟩, [[95, 108, 97, 119, 95, 116, 104, 105, 110, 103], [95, 108, 97, 119, 95, 104, 97, 108, 108, 95, 104, 101, 114, 101], [95, 108, 97, 119, 95, 107], [95, 108, 97, 119, 95, 97, 99, 116, 115], [95, 108, 97, 119, 95, 101, 97, 99, 104], [95, 108, 97, 119, 95, 112, 97, 105, 114]], b__law_is_memory, top 64⟩,
  ⟨⟨[95, 108, 97, 119, 95, 105, 115, 95, 114, 101, 99, 97, 108, 108, 101, 100], [[95, 108, 97, 119, 95, 116, 104, 105, 110, 103], [95, 108, 97, 119, 95, 104, 97, 108, 108, 95, 104, 101, 114, 101]], false⟩, [[95, 108, 97, 119, 95, 116, 104, 105, 110, 103], [95, 108, 97, 119, 95, 104, 97, 108, 108, 95, 104, 101, 114, 101], [95, 108, 97, 119, 95, 108, 97, 115, 116], [95, 108, 97, 119, 95, 112, 97, 105, 114]], b__law_is_recalled, top 65⟩,
  ⟨⟨[95, 108, 97, 119, 95, 105, 115, 95, 104, 101, 114, 111], [[95, 108, 97, 119, 95, 116, 104, 105, 110, 103], [95, 108, 97, 119, 95, 104, 97, 108, 108, 95, 104, 101, 114, 101]], false⟩, [[95, 108, 97, 119, 95, 116, 104, 105, 110, 103], [95, 108, 97, 119, 95, 104, 97, 108, 108, 95, 104, 101, 114, 101]], b__law_is_hero, top 66⟩,
  ⟨⟨[95, 108, 97, 119, 95, 99, 114, 111, 119, 100], [[95, 108, 97, 119, 95, 117, 114, 110, 95, 104, 101, 114, 101], [95, 108, 97, 119, 95, 104, 97, 108, 108, 95, 104, 101, 114, 101], [95, 108, 97, 119, 95, 115, 105, 122, 101]], false⟩, [[95, 108, 97, 119, 95, 117, 114, 110, 95, 104, 101, 114, 101], [95, 108, 97, 119, 95, 104, 97, 108, 108, 95, 104, 101, 114, 101], [95, 108, 97, 119, 95, 115, 105, 122, 101], [95, 108, 97, 119, 95, 108, 97, 112], [95, 108, 97, 119, 95, 115, 111, 109, 101], [95, 108, 97, 119, 95, 111, 100, 100, 115, 95, 104, 101, 114, 101], [95, 108, 97, 119, 95, 108, 105, 115, 116, 115], [95, 108, 97, 119, 95, 112, 97, 116, 104, 115], [95, 108, 97, 119, 95, 100, 111, 110, 101], [95, 108, 97, 119, 95, 102, 114, 101, 115, 104], [95, 108, 97, 119, 95, 112, 97, 116, 104], [95, 108, 97, 119, 95, 97, 99, 116, 115], [95, 108, 97, 119, 95, 97, 99, 116], [95, 108, 97, 119, 95, 97, 116], [95, 108, 97, 119, 95, 112, 97, 105, 114]], b__law_crowd, top 67⟩,
  ⟨⟨[95, 108, 97, 119, 95, 111, 116, 104, 101, 114, 119, 105, 115, 101], [[95, 108, 97, 119, 95, 117, 114, 110, 95, 104, 101, 114, 101], [95, 108, 97, 119, 95, 104, 97, 108, 108, 95, 104, 101, 114, 101], [95, 108, 97, 119, 95, 112, 108, 97, 110]], false⟩, [[95, 108, 97, 119, 95, 117, 114, 110, 95, 104, 101, 114, 101], [95, 108, 97, 119, 95, 104, 97, 108, 108, 95, 104, 101, 114, 101], [95, 108, 97, 119, 95, 112, 108, 97, 110], [95, 108, 97, 119, 95, 112, 97, 116, 104], [95, 108, 97, 119, 95, 108, 97, 112], [95, 108, 97, 119, 95, 109, 111, 114, 101], [95, 108, 97, 119, 95, 115, 111, 109, 101], [95, 108, 97, 119, 95, 111, 116, 104, 101, 114], [95, 108, 97, 119, 95, 108, 105, 115, 116, 115], [95, 108, 97, 119, 95, 104, 97, 98, 105, 116, 95, 104, 101, 114, 101], [95, 108, 97, 119, 95, 102, 97, 114], [95, 108, 97, 119, 95, 111, 100, 100, 115, 95, 104, 101, 114, 101], [95, 108, 97, 119, 95, 97, 99, 116]], b__law_otherwise, top 68⟩,
  ⟨⟨[95, 108, 97, 119, 95, 105, 115, 95, 114, 105, 103, 104, 116], [[95, 108, 97, 119, 95, 117, 114, 110, 95, 104, 101, 114, 101]], false⟩, [[95, 108, 97, 119, 95, 117, 114, 110, 95, 104, 101, 114, 101], [95, 108, 97, 119, 95, 104, 97, 108, 108, 95, 104, 101, 114, 101], [95, 108, 97, 119, 95, 115, 111, 109, 101], [95, 108, 97, 119, 95, 116, 104, 105, 110, 103], [95, 108, 97, 119, 95, 112, 108, 97, 110], [95, 108, 97, 119, 95, 104, 101, 114, 111, 95, 104, 101, 114, 101], [95, 108, 97, 119, 95, 98, 101, 110, 116, 95, 104, 101, 114, 101], [95, 108, 97, 119, 95, 111, 100, 100, 95, 104, 101, 114, 101], [95, 108, 97, 119, 95, 100, 117, 101], [95, 108, 97, 119, 95, 119, 111, 114, 100]], b__law_is_right, top 69⟩,
  ⟨⟨[108, 97, 119], [[95, 108, 97, 119, 95, 115, 99, 114, 105, 112, 116]], false⟩, [[95, 108, 97, 119, 95, 115, 99, 114, 105, 112, 116], [95, 108, 97, 119, 95, 108, 97, 112]], b_law, top 70⟩]
def gs : List (List Nat × D) := [([90, 69, 82, 79], g_ZERO), ([79, 78, 69], g_ONE), ([77, 79, 83, 84, 95, 77, 73, 78, 68, 83], g_MOST_MINDS), ([77, 79, 83, 84, 95, 68, 69, 69, 68, 83], g_MOST_DEEDS), ([77, 79, 83, 84, 95, 80, 65, 89, 83], g_MOST_PAYS), ([77, 79, 83, 84, 95, 83, 84, 65, 78, 68, 83], g_MOST_STANDS), ([77, 79, 83, 84, 95, 77, 69, 77, 79, 82, 89], g_MOST_MEMORY), ([77, 79, 83, 84, 95, 76, 73, 83, 84, 83], g_MOST_LISTS)]
theorem chk : (tbl.all fun e => chkEnt (tbl.map Dh.Ent.sig) gs e && sEq (defOf e.st).name e.sig.nm) = true := by kernel_rfl
end K79


set_option Elab.async false
set_option maxRecDepth 100000
set_option maxHeartbeats 0
namespace K79
open Dh PySem PySem.Spec PyProof.Rows L2
def n : Nat := R.prog.main.body.length
def q := PySem.W.view R.prog [0, n-1]
def loose : List Str := R.prog.boundNames.filter (fun x => x != "law" && x != "gcd")
abbrev hk : PySem.W.Hook := hookX 2 tbl gs
def ob (s : PySem.W.SharedT) : AlX := obsX 2 tbl gs (HandSHeadRun.getT s)
theorem run (w : World) : HandSHeadRun.RunEqI R q hk ob 20000 loose w := by
  unfold HandSHeadRun.RunEqI
  kernel_rfl
end K79


set_option Elab.async false
set_option maxRecDepth 100000
set_option maxHeartbeats 0
namespace K79
open Dh PySem PySem.Spec PyProof.Rows L2
theorem ob_eq (s : PySem.W.SharedT) : ob s = hk.obs s.abs := obsX_eq (HandSHeadRun.getT_eq s)
theorem dfs_eq : tbl.map Dh.Ent.df = dfs := rfl
theorem prog_eq : progOf tbl = prog := by
  funext i
  unfold progOf prog
  rw [← dfs_eq, List.getElem?_map]
end K79
open PySem PySem.W PySem.Calls PyProof.Rows
theorem PySem.Challenge.cw_deedhouses_k79_told_plans_players_of_any_holds : PySem.Challenge.rw_deedhouses_k79_told_plans_players_of_any.Holds := by
  w_on; o_law
  refine HandSHeadRun.head_imp (r := OpenLaw.row PySem.Challenge.rw_deedhouses_k79_told_plans_players_of_any) (q := K79.q) (H := K79.hk) (ob := K79.ob) (M := 20000) (loose := K79.loose) (d := HandSHeadRun.topDef (OpenLaw.row PySem.Challenge.rw_deedhouses_k79_told_plans_players_of_any).prog (K79.n - 1)) (kwd := []) K79.ob_eq
    K79.run (by kernel_rfl) (by kernel_rfl) (by kernel_rfl) (by rfl) (by first | assumption | decide +kernel) (by decide +kernel) ⟨rfl, rfl, rfl, rfl, rfl, by decide +kernel⟩ ?hw ?hc
  case hw => w_witness2
  case hc =>
    exact Dh.walkX (l := PySem.Challenge.rw_deedhouses_k79_told_plans_players_of_any) (n := 63) (k := 60) (i := K79.f_law) rfl (by decide) (by kernel_rfl) ⟨rfl, by decide, by decide⟩ rfl K79.chk rfl (by kernel_rfl) fun ns h => by
      rw [K79.prog_eq]
      exact K79.law_true ns h

