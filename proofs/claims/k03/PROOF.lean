import PyProof.Rows.All
import HandS.ForMost
import HandS.TupAny
import HandS.Wide
import HandS.WideBits
import HandS.Lambda
import HandS.Exc
import HandS.Flow
import HandS.Style
import HandS.Deep
import HandS.TupMul
import HandS.IsInst
import HandS.ExcOwn
import HandS.CallSlots
import HandS.SortInts
import HandS.TupLen
import HandS.Conv
import HandS.Iter
import HandS.Zip
import HandS.Comp
import HandS.DictComp
import HandS.Small
import HandS.Steps
import HandS.TryOnly
import HandS.ExcSuper
import HandS.ExcInit
import KE.KExcSuper
import HandS.TryMany
import HandS.ExcField
import HandS.HeadWalk
import HandS.HeadHook4
import HandS.Head0
import HandS.Head1
import HandS.Head2
import HandS.HeadEnd
import KE.KBits
import HandS.Text
import PySem.Challenge.RW_namedatlast_k03_whole_lots_together
-- Mach
set_option linter.all false
set_option maxRecDepth 10000
/-! A small machine for the part of Python that this program is written in: values, objects, expressions, statements, and what they do. -/
namespace Ms
open PySem (Str PyData)

/-- a value: tuples are told by their parts, all that has an identity by its place in the memory -/
inductive D where
  | non | bl (b : Bool) | int (i : Int) | str (x : Str)
  | tup (l : List D)
  | ref (i : Nat)
  | rng (lo hi : Int)
  | fn (k : Nat)
  | cls (c : Nat)
  | ty (n : String)
  | clo (k : Nat) (id : Nat)
  | exn (c : Nat) (v : List D)
  deriving Inhabited

inductive Ob where
  | lst (l : List D)
  | flst (l : List D)
  | dct (t : Nat) (l : List (D × D))
  | ins (c : Nat) (fs : List (Str × D))
  | mark
  deriving Inhabited

abbrev Mem := List Ob
abbrev Env := List (Option D)
/-- the frames whose closures may be called, the objects that are only read -/
structure Fr where
  fr : List (Nat × Env) := []
  lk : List Nat := []

inductive R (α : Type) where
  | ok (a : α) (m : Mem)
  | exc (c : Nat) (v : List D) (m : Mem)
  | bad
def R.bind {α β : Type} (r : R α) (f : α → Mem → R β) : R β := match r with
  | .ok a m => f a m
  | .exc c v m => .exc c v m
  | .bad => .bad
/-- an exception may not leave here -/
def R.nox {α : Type} (r : R α) : R α := match r with
  | .exc _ _ _ => .bad
  | r => r
def opt {α : Type} (o : Option α) (m : Mem) : R α := match o with
  | some a => .ok a m
  | none => .bad

inductive Bin where
  | add | sub | mul | mod | fdiv | pow | band | bor | bxor | shl | shr
  deriving DecidableEq, Repr
inductive Cmp where
  | eq | ne | lt | le | gt | ge | is | isNot | isIn | notIn
  deriving DecidableEq, Repr
/-- what isinstance and except ask for -/
inductive Ty where
  | ty (n : String) | cls (c : Nat) | exc (c : Nat)
  deriving DecidableEq, Repr
inductive Tg where
  | v (i : Nat)
  | t (l : List Tg)
/-- what a loop walks over: one thing, range, enumerate, zip, reversed -/
inductive ItK where
  | one | rng | enum | zip | rev
  deriving DecidableEq, Repr
inductive Bl where
  | len | abs | int | tuple | list | max | min | sum | all | any | str | divmod | sorted | range | zip
  deriving DecidableEq, Repr
inductive Mt where
  | append | pop0 | pop | insert | index | extend | values | items | get | join | split | upper | replace | count | bitLength | update
  deriving DecidableEq, Repr
inductive E where
  | var (i : Nat)
  | cst (d : D)
  | bin (o : Bin) (a b : E)
  | neg (a : E) | inv (a : E) | not (a : E)
  | and (a b : E) | or (a b : E)
  | cmp (o : Cmp) (a b : E)
  | chn (o p : Cmp) (a b c : E)
  | ite (c a b : E)
  | att (a : E) (f : Str)
  | idx (a i : E)
  | slc (a : E) (lo hi : Option E)
  | rev (a : E)
  | tup (l : List E)
  | lst (l : List E)
  | dnew (t : Nat)
  | lc (x : E) (g : Tg) (k : ItK) (l : List E) (c : List E) (own : List Nat)
  | lc2 (x : E) (g : Tg) (k : ItK) (l : List E) (g2 : Tg) (k2 : ItK) (l2 : List E) (c : List E) (own : List Nat)
  | dc (t : Nat) (x y : E) (g : Tg) (k : ItK) (l : List E) (c : List E) (own : List Nat)
  | call (f : Nat) (l : List E)
  | mk (c : Nat) (l : List E)
  | cv (a : E) (l : List E)
  | blt (f : Bl) (l : List E)
  | mth (f : Mt) (a : E) (l : List E)
  | omt (f : Str) (a : E) (l : List E)
  | isi (a : E) (l : List Ty)
  | srt (a : E) (key : Nat)
  | lam (k : Nat)
  | calL (f : Nat) (l : List E)
inductive Lg where
  | v (i : Nat)
  | t (l : List Lg)
  | att (a : E) (f : Str)
  | sub (a i : E)
inductive S where
  | set (g : Lg) (e : E)
  | aug (i : Nat) (o : Bin) (e : E)
  | augs (a i : E) (o : Bin) (e : E)
  | ife (c : E) (a b : List S)
  | whl (c : E) (a : List S)
  | for_ (g : Tg) (k : ItK) (l : List E) (a : List S)
  | ret (e : E)
  | rse (c : Nat) (l : List E)
  | ex (e : E)
  | tri (a : List S) (h : List (Ty × Nat × E))
  | pas | cont

/-! ### values -/
/-- what a value is as data (lists within by the memory); to a depth -/
def data (m : Mem) : Nat → D → Option PyData
  | _, .non => some .none
  | _, .bl b => some (.bool b)
  | _, .int i => some (.int i)
  | _, .str x => if PySem.PyData.strOk x then some (.str x) else none
  | n + 1, .tup l => (l.mapM (data m n)).map .tuple
  | n + 1, .ref i => match m[i]? with
    | some (.lst l) => (l.mapM (data m n)).map .list
    | _ => none
  | _, _ => none
def eqD (m : Mem) (a b : D) : Option Bool := match data m 20 a, data m 20 b with
  | some x, some y => some (PyData.eqv x y)
  | _, _ => none
abbrev sOf (s : String) : Str := Str.ofString s
def lim : Nat := 16000000
def big : Nat := 2 ^ 100000
def cutL {α : Type} (xs : List α) (lo hi : Option Int) : List α := (xs.drop (HT.sIx xs.length 0 lo)).take (HT.sIx xs.length xs.length hi - HT.sIx xs.length 0 lo)
def truth (m : Mem) : D → Option Bool
  | .non => some false
  | .bl b => some b
  | .int i => some (i != 0)
  | .str x => if x.length ≤ lim then some (x.length != 0) else none
  | .tup l => some (!l.isEmpty)
  | .ref i => match m[i]? with
    | some (.lst l) => some (!l.isEmpty)
    | _ => none
  | _ => none
def binop (o : Bin) (a b : D) (m : Mem) : R D := match o, a, b with
  | .add, .int i, .int j => .ok (.int (i + j)) m
  | .add, .int i, .bl j => .ok (.int (i + if j then 1 else 0)) m
  | .add, .str x, .str y => if x.length + y.length ≤ lim then .ok (.str (x ++ y)) m else .bad
  | .add, .tup x, .tup y => if x.length + y.length ≤ lim then .ok (.tup (x ++ y)) m else .bad
  | .add, .ref p, .ref q => match m[p]?, m[q]? with
    | some (.lst x), some (.lst y) => if x.length + y.length ≤ lim then .ok (.ref m.length) (m ++ [.lst (x ++ y)]) else .bad
    | _, _ => .bad
  | .sub, .int i, .int j => .ok (.int (i - j)) m
  | .mul, .int i, .int j => if i.natAbs < 2 ^ 64 ∨ j.natAbs < 2 ^ 64 then .ok (.int (i * j)) m else .bad
  | .mul, .tup x, .int j => if x.isEmpty = false ∧ 2 ≤ j ∧ j ≤ 1000 ∧ x.length ≤ 1000 then .ok (.tup (List.replicate j.toNat x).flatten) m else .bad
  | .mul, .ref p, .int j => match m[p]? with
    | some (.lst x) => if x.length * j.toNat ≤ lim ∧ j.natAbs < 2 ^ 60 then .ok (.ref m.length) (m ++ [.lst (List.replicate j.toNat x).flatten]) else .bad
    | _ => .bad
  | .mod, .int i, .int j => if 0 < j then .ok (.int (i % j)) m else .bad
  | .fdiv, .int i, .int j => if 0 < j ∧ j < 1073741824 then .ok (.int (i / j)) m else .bad
  | .pow, .int i, .int j => if 0 ≤ j ∧ j ≤ 1000000 ∧ i.natAbs < 2 ^ 64 then .ok (.int (i ^ j.toNat)) m else .bad
  | .band, .int i, .int j => .ok (.int (PySem.Builtin.bitAnd i j)) m
  | .bor, .int i, .int j => .ok (.int (PySem.Builtin.bitOr i j)) m
  | .bxor, .int i, .int j => .ok (.int (PySem.Builtin.bitXor i j)) m
  | .shl, .int i, .int j => if 0 ≤ j ∧ j ≤ 100000 ∧ i.natAbs < big then .ok (.int (i * 2 ^ j.toNat)) m else .bad
  | .shr, .int i, .int j => if 0 ≤ j then .ok (.int (i / 2 ^ j.toNat)) m else .bad
  | _, _, _ => .bad
/-- order of data: intsOf, texts, tuples of such -/
def ltP : PyData → PyData → Option Bool
  | .int i, .int j => some (decide (i < j))
  | .str x, .str y => some (decide (x.cps.toList < y.cps.toList))
  | .tuple x, .tuple y => ltL x y
  | _, _ => none
where ltL : List PyData → List PyData → Option Bool
  | [], [] => some false
  | [], _ :: _ => some true
  | _ :: _, [] => some false
  | a :: x, b :: y => if PyData.eqv a b then ltL x y else ltP a b
def inL (m : Mem) (x : D) (l : List D) : Option Bool := match data m 20 x, l.mapM (data m 20) with
  | some d, some ds => some (ds.any fun y => PyData.eqv y d)
  | _, _ => none
/-- keys of a dict: ints and texts (0); tuples of such (1) -/
def keyV : D → Option L2.Key
  | .int i => some (.inl i)
  | .str x => some (.inr x)
  | _ => none
def keysV : D → Option (List L2.Key)
  | .tup l => l.mapM keyV
  | _ => none
def keq (t : Nat) (a b : D) : Bool := match t with
  | 0 => decide (keyV a = keyV b)
  | _ => decide (keysV a = keysV b)
def dget (t : Nat) (l : List (D × D)) (k : D) : Option D := (l.find? fun p => keq t p.1 k).map (·.2)
def dput (t : Nat) (l : List (D × D)) (k v : D) : List (D × D) := if l.any (fun p => keq t p.1 k) then l.map (fun p => if keq t p.1 k then (p.1, v) else p) else l ++ [(k, v)]
def isKey (t : Nat) (k : D) : Bool := match t with
  | 0 => (keyV k).isSome
  | 1 => (keysV k).isSome
  | _ => false
def isN : D → Bool
  | .non => true
  | _ => false
def isB (c : Bool) : D → Bool
  | .bl d => d == c
  | _ => false
def ordI (f : Int → Int → Bool) (a b : D) (m : Mem) : R D := match a, b with
  | .int i, .int j => .ok (.bl (f i j)) m
  | _, _ => .bad
def cmpop (o : Cmp) (a b : D) (m : Mem) : R D := match o with
  | .eq => opt ((eqD m a b).map .bl) m
  | .ne => opt ((eqD m a b).map fun c => .bl !c) m
  | .lt => ordI (fun i j => decide (i < j)) a b m
  | .le => ordI (fun i j => decide (i ≤ j)) a b m
  | .gt => ordI (fun i j => decide (j < i)) a b m
  | .ge => ordI (fun i j => decide (j ≤ i)) a b m
  | .is => match b with
    | .non => .ok (.bl (isN a)) m
    | .bl c => .ok (.bl (isB c a)) m
    | _ => .bad
  | .isNot => match b with
    | .non => .ok (.bl !(isN a)) m
    | .bl c => .ok (.bl !(isB c a)) m
    | _ => .bad
  | .isIn => inop a b m id
  | .notIn => inop a b m not
where inop (a b : D) (m : Mem) (f : Bool → Bool) : R D := match b with
    | .tup l => opt ((inL m a l).map fun c => .bl (f c)) m
    | .str y => match a with
      | .str x => .ok (.bl (f !(PySem.Builtin.Str.occurrences y x 0 y.length 1).isEmpty)) m
      | _ => .bad
    | .ref p => match m[p]? with
      | some (.lst l) => opt ((inL m a l).map fun c => .bl (f c)) m
      | some (.dct t l) => if isKey t a then .ok (.bl (f (dget t l a).isSome)) m else .bad
      | _ => .bad
    | _ => .bad
def index (a i : D) (m : Mem) : R D := match a, i with
  | .tup l, .int i => opt (L2.atI l i) m
  | .str x, .int i => if x.length ≤ lim then opt ((L2.atI x.cps.toList i).map fun c => .str ⟨#[c]⟩) m else .bad
  | .ref p, i => match m[p]? with
    | some (.lst l) => match i with
      | .int i => opt (L2.atI l i) m
      | _ => .bad
    | some (.dct t l) => if isKey t i then opt (dget t l i) m else .bad
    | _ => .bad
  | _, _ => .bad
def slice (a : D) (lo hi : Option Int) (m : Mem) : R D := match a with
  | .tup l => .ok (.tup (cutL l lo hi)) m
  | .str x => if x.length ≤ lim then .ok (.str (L2.cutS x lo hi)) m else .bad
  | .ref p => match m[p]? with
    | some (.lst l) => .ok (.ref m.length) (m ++ [.lst (cutL l lo hi)])
    | some (.flst l) => .ok (.ref m.length) (m ++ [.lst (cutL l lo hi)])
    | _ => .bad
  | _ => .bad
def revOf (a : D) (m : Mem) : R D := match a with
  | .ref p => match m[p]? with
    | some (.lst l) => .ok (.ref m.length) (m ++ [.lst l.reverse])
    | _ => .bad
  | _ => .bad
def field (a : D) (f : Str) (m : Mem) : Option D := match a with
  | .ref p => match m[p]? with
    | some (.ins _ fs) => fs.lookup f
    | _ => none
  | _ => none
def putFd (f : Str) (d : D) : List (Str × D) → List (Str × D)
  | [] => [(f, d)]
  | (g, e) :: r => if g = f then (g, d) :: r else (g, e) :: putFd f d r

/-! ### what is walked -/
inductive Src where
  | fix (l : List D) | live (p : Nat) | enum (p : Nat) | zipL (p q : Nat) | zipT (x y : List D) | rev (p : Nat)
def lstAt (m : Mem) (p : Nat) : Option (List D) := match m[p]? with
  | some (.lst l) => some l
  | _ => none
def lstN (m : Mem) (p n : Nat) : Bool := match lstAt m p with
  | some l => l.length == n
  | none => false
def lstI (m : Mem) (p i : Nat) : Option D := (lstAt m p).bind fun l => l[i]?
def Src.at (m : Mem) (n : Nat) : Src → Nat → Option D
  | .fix l, i => l[i]?
  | .live p, i => lstI m p i
  | .enum p, i => (lstI m p i).map fun d => .tup [.int i, d]
  | .zipL p q, i => (lstI m p i).bind fun d => (lstI m q i).map fun e => .tup [d, e]
  | .zipT x y, i => (x[i]?).bind fun d => (y[i]?).map fun e => .tup [d, e]
  | .rev p, i => lstI m p (n - 1 - i)
/-- the walked thing still has n items -/
def Src.ok (m : Mem) (n : Nat) : Src → Bool
  | .fix l => l.length == n
  | .live p => lstN m p n
  | .enum p => lstN m p n
  | .zipL p q => lstN m p n && lstN m q n
  | .zipT x y => x.length == n && y.length == n
  | .rev p => lstN m p n
def small (i : Int) : Bool := decide (-4611686018427387904 ≤ i ∧ i < 4611686018427387904)
def rngL (lo hi : Int) : List D := (List.range (hi - lo).toNat).map fun i : Nat => .int (lo + i)
/-- what is walked, and how many turns -/
def src (fr : Fr) (m : Mem) : ItK → List D → Option (Src × Nat)
  | .one, [.tup l] => some (.fix l, l.length)
  | .one, [.ref p] => match m[p]? with
    | some (.lst l) => some (.live p, l.length)
    | some (.dct _ l) => if fr.lk.contains p then some (.fix (l.map (·.1)), l.length) else none
    | _ => none
  | .rng, [.int j] => if small j then some (.fix (rngL 0 j), j.toNat) else none
  | .rng, [.int i, .int j] => if small i && small j then some (.fix (rngL i j), (j - i).toNat) else none
  | .enum, [.ref p] => (lstAt m p).map fun l => (.enum p, l.length)
  | .zip, [.ref p, .ref q] => (lstAt m p).bind fun x => (lstAt m q).bind fun y => if x.length = y.length then some (.zipL p q, x.length) else none
  | .zip, [.tup x, .tup y] => if x.length = y.length then some (.zipT x y, x.length) else none
  | .rev, [.ref p] => (lstAt m p).map fun l => (.rev p, l.length)
  | _, _ => none
/-- a comprehension's turns: k are left of n; f is one turn -/
def lcGo {α : Type} (s : Src) (n : Nat) (f : D → α → Mem → R α) : Nat → α → Mem → R α
  | 0, acc, m => if s.ok m n then .ok acc m else .bad
  | k + 1, acc, m => if s.ok m n then
      (opt (s.at m n (n - (k + 1))) m).bind fun d m => (f d acc m).bind fun acc m => lcGo s n f k acc m
    else .bad
mutual
def bindT (d : D) (ρ : Env) : Tg → Option Env
  | .v i => if i < ρ.length then some (ρ.set i (some d)) else none
  | .t l => match d with
    | .tup ds => bindTs ds ρ l
    | _ => none
def bindTs (ds : List D) (ρ : Env) : List Tg → Option Env
  | [] => match ds with
    | [] => some ρ
    | _ => none
  | g :: l => match ds with
    | d :: ds => (bindT d ρ g).bind fun ρ => bindTs ds ρ l
    | [] => none
end
def wipeE (ρ : Env) : List Nat → Env
  | [] => ρ
  | v :: vs => (wipeE ρ vs).set v none

/-! ### built-ins -/
def intsOf (l : List D) : Option (List Int) := l.mapM fun | .int i => some i | _ => none
def items (m : Mem) : D → Option (List D)
  | .tup l => some l
  | .ref p => match m[p]? with
    | some (.lst l) => some l
    | _ => none
  | _ => none
/-- of a list of ints, of bools -/
def intsIn (m : Mem) : D → Option (List Int)
  | .ref p => match m[p]? with
    | some (.lst l) => intsOf l
    | _ => none
  | _ => none
def bools (l : List D) : Option (List Bool) := l.mapM fun | .bl i => some i | _ => none
def boolsIn (m : Mem) : D → Option (List Bool)
  | .ref p => match m[p]? with
    | some (.lst l) => bools l
    | _ => none
  | _ => none
def newL (l : List D) (m : Mem) : R D := if l.length ≤ lim then .ok (.ref m.length) (m ++ [.lst l]) else .bad
def insI (x : Int) : List Int → List Int
  | [] => [x]
  | y :: r => if x ≤ y then x :: y :: r else y :: insI x r
def sortI (l : List Int) : List Int := l.foldr insI []
def bltin (f : Bl) (l : List D) (m : Mem) : R D := match f, l with
  | .len, [d] => match d with
    | .str x => if x.length ≤ lim then .ok (.int x.length) m else .bad
    | .ref p => match m[p]? with
      | some (.lst l) => .ok (.int l.length) m
      | some (.dct _ l) => .ok (.int l.length) m
      | _ => .bad
    | .tup l => .ok (.int l.length) m
    | _ => .bad
  | .abs, [.int i] => .ok (.int i.natAbs) m
  | .int, [.int i] => .ok (.int i) m
  | .int, [.bl b] => .ok (.int (if b then 1 else 0)) m
  | .tuple, [d] => opt ((items m d).map .tup) m
  | .list, [d] => match items m d with
    | some l => .ok (.ref m.length) (m ++ [.lst l])
    | none => .bad
  | .max, [.int i, .int j] => .ok (.int (max i j)) m
  | .min, [.int i, .int j] => .ok (.int (min i j)) m
  | .max, [d] => match intsIn m d with
    | some (i :: r) => .ok (.int (r.foldl max i)) m
    | _ => .bad
  | .min, [d] => match intsIn m d with
    | some (i :: r) => .ok (.int (r.foldl min i)) m
    | _ => .bad
  | .sum, [d] => match intsIn m d with
    | some l => .ok (.int l.sum) m
    | _ => .bad
  | .all, [d] => match boolsIn m d with
    | some l => .ok (.bl (l.all id)) m
    | _ => .bad
  | .any, [d] => match boolsIn m d with
    | some l => .ok (.bl (l.any id)) m
    | _ => .bad
  | .divmod, [.int i, .int j] => if 0 < j ∧ j < 1073741824 then .ok (.tup [.int (i / j), .int (i % j)]) m else .bad
  | .sorted, [d] => match intsIn m d with
    | some l => .ok (.ref m.length) (m ++ [.lst ((sortI l).map .int)])
    | _ => .bad
  | .range, [.int j] => if small j then .ok (.rng 0 j) m else .bad
  | _, _ => .bad
def meth (f : Mt) (a : D) (l : List D) (m : Mem) : R D := match a with
  | .ref p => match m[p]? with
    | some (.lst x) => match f, l with
      | .append, [d] => if x.length < lim then (.ok .non (m.set p (.lst (x ++ [d])))) else .bad
      | .extend, [.ref q] => match m[q]? with
        | some (.lst y) => if x.length + y.length ≤ lim then (.ok .non (m.set p (.lst (x ++ y)))) else .bad
        | _ => .bad
      | .index, [d] => match data m 20 d, x.mapM (data m 20) with
        | some d, some ds => match ds.findIdx? fun y => PyData.eqv y d with
          | some j => .ok (.int j) m
          | none => .bad
        | _, _ => .bad
      | _, _ => .bad
    | _ => .bad
  | _ => .bad

/-- what has such a method here: lists -/
def recv (_ : Mt) (m : Mem) : D → Bool
  | .ref p => match m[p]? with
    | some (.lst _) => true
    | _ => false
  | _ => false

/-- methods of what is no list: bit_length -/
def ometh (f : Str) (a : D) (n : Nat) (m : Mem) : R D := match a with
  | .int i => if f = sOf "bit_length" ∧ n = 0 then .ok (.int (PySem.Builtin.Int.intBits i : Nat)) m else .bad
  | _ => .bad

/-! ### expressions -/
inductive To where
  | df (k : Nat) | ct (c : Nat) | cl (k id : Nat) | ne (k : Nat)
abbrev Cl := Fr → To → List D → Mem → R D
structure Cls where
  init : Nat
  flds : List Str
  eq : Option Nat := none
  meths : List (Str × Nat) := []
structure Exc where
  sup : List Ty
  fld : Option Str
  text : Nat := 0
structure Lam where
  np : Nat
  sl : List Nat
  body : E
  fs : List Nat
structure Df where
  np : Nat
  ns : Nat
  body : List S
structure Prog where
  defs : List Df
  clss : List Cls
  excs : List Exc
  lams : List Lam

/-- a dict that is walked is only read: it stands under a name -/
def lockV (fr : Fr) (m : Mem) : ItK → List E → Env → Option Nat
  | .one, [.var j], ρ => match ρ[j]? with
    | some (some (.ref p)) => match m[p]? with
      | some (.dct _ _) => if fr.lk.contains p then none else some p
      | _ => none
    | _ => none
  | _, _, _ => none
def Fr.lock (fr : Fr) : Option Nat → Fr
  | none => fr
  | some p => { fr with lk := p :: fr.lk }
def noxIf {α : Type} (b : Bool) (r : R α) : R α := if b then r.nox else r
variable (P : Prog)
def tyv (m : Mem) : D → Option Ty
  | .non => some (.ty "NoneType")
  | .bl _ => some (.ty "bool")
  | .int _ => some (.ty "int")
  | .str _ => some (.ty "str")
  | .tup _ => some (.ty "tuple")
  | .ref p => match m[p]? with
    | some (.lst _) => some (.ty "list")
    | some (.flst _) => some (.ty "list")
    | some (.dct 0 _) => some (.ty "dict")
    | some (.ins c _) => some (.cls c)
    | _ => none
  | _ => none
def isTy : Ty → Ty → Option Bool
  | .ty a, .ty b => if ["int", "bool", "str", "list", "tuple", "dict"].contains b then some (a == b || (a == "bool" && b == "int")) else none
  | .ty _, .cls _ => some false
  | .cls c, .cls d => some (c == d)
  | .cls _, .ty b => if ["int", "bool", "str", "list", "tuple", "dict"].contains b then some false else none
  | _, _ => none
def isAny (u : Ty) : List Ty → Option Bool
  | [] => some false
  | t :: r => match isTy u t with
    | some true => some true
    | some false => isAny u r
    | none => none
/-- the own == of a thing's class -/
def ownEq (m : Mem) : D → Option Nat
  | .ref p => match m[p]? with
    | some (.ins c _) => (P.clss[c]?).bind (·.eq)
    | _ => none
  | _ => none
def onlyB (d : D) (m : Mem) : R D := match d with
  | .bl c => .ok (.bl c) m
  | _ => .bad
/-- a comparison; own classes by their own == -/
def cmpE (C : Cl) (fr : Fr) (o : Cmp) (a b : D) (m : Mem) : R D := match ownEq P m a with
  | none => cmpop o a b m
  | some k => match o with
    | .eq => if (tyv m b).isSome then ((C fr (.df k) [a, b] m).nox).bind onlyB else .bad
    | .ne => if (tyv m b).isSome then ((C fr (.ne k) [a, b] m).nox).bind onlyB else .bad
    | .is => cmpop .is a b m
    | .isNot => cmpop .isNot a b m
    | _ => .bad
def isF : D → Bool
  | .fn _ => true
  | .clo _ _ => true
  | _ => false
def callV (C : Cl) (fr : Fr) (a : D) (l : List D) (m : Mem) : R D := match a with
  | .fn k => C fr (.df k) l m
  | .clo k id => C fr (.cl k id) l m
  | _ => .bad
mutual
def ev (C : Cl) (fr : Fr) : E → Env → Mem → R D
  | .var i, ρ, m => opt ((ρ[i]?).join) m
  | .cst d, _, m => .ok d m
  | .bin o a b, ρ, m => (ev C fr a ρ m).bind fun x m => (ev C fr b ρ m).bind fun y m => binop o x y m
  | .neg a, ρ, m => (ev C fr a ρ m).bind fun x m => match x with
    | .int i => .ok (.int (-i)) m
    | _ => .bad
  | .inv a, ρ, m => (ev C fr a ρ m).bind fun x m => match x with
    | .int i => .ok (.int (PySem.Builtin.bitNot i)) m
    | _ => .bad
  | .not a, ρ, m => (ev C fr a ρ m).bind fun x m => (opt (truth m x) m).bind fun b m => .ok (.bl !b) m
  | .and a b, ρ, m => (ev C fr a ρ m).bind fun x m => (opt (truth m x) m).bind fun c m => if c then ev C fr b ρ m else .ok x m
  | .or a b, ρ, m => (ev C fr a ρ m).bind fun x m => (opt (truth m x) m).bind fun c m => if c then .ok x m else ev C fr b ρ m
  | .cmp o a b, ρ, m => (ev C fr a ρ m).bind fun x m => (ev C fr b ρ m).bind fun y m => cmpE P C fr o x y m
  | .chn o p a b c, ρ, m => (ev C fr a ρ m).bind fun x m => (ev C fr b ρ m).bind fun y m => (cmpop o x y m).bind fun z m => match z with
    | .bl true => (ev C fr c ρ m).bind fun u m => cmpop p y u m
    | .bl false => .ok (.bl false) m
    | _ => .bad
  | .ite c a b, ρ, m => (ev C fr c ρ m).bind fun x m => (opt (truth m x) m).bind fun t m => if t then ev C fr a ρ m else ev C fr b ρ m
  | .att a f, ρ, m => (ev C fr a ρ m).bind fun x m => opt (field x f m) m
  | .idx a i, ρ, m => (ev C fr a ρ m).bind fun x m => (ev C fr i ρ m).bind fun y m => index x y m
  | .slc a lo hi, ρ, m => (ev C fr a ρ m).bind fun x m => (evo C fr lo ρ m).bind fun l m => (evo C fr hi ρ m).bind fun h m => slice x l h m
  | .rev a, ρ, m => (ev C fr a ρ m).bind fun x m => revOf x m
  | .tup l, ρ, m => (evs C fr l ρ m).bind fun ds m => if ds.length ≤ lim then .ok (.tup ds) m else .bad
  | .lst l, ρ, m => (evs C fr l ρ m).bind fun ds m => newL ds m
  | .dnew t, _, m => .ok (.ref m.length) (m ++ [.dct t []])
  | .lc x g k l c own, ρ, m => let q := lockV fr m k l ρ
    noxIf q.isSome ((evs C (fr.lock q) l ρ m).bind fun ds m => match src (fr.lock q) m k ds with
    | some (s, n) => (lcGo s n (fun d acc m' => match bindT d (wipeE ρ own) g with
        | some ρ' => (evT C (fr.lock q) c ρ' m').nox.bind fun t m' => if t then (ev C (fr.lock q) x ρ' m').nox.bind fun y m' => if acc.length < lim then .ok (acc ++ [y]) m' else .bad else .ok acc m'
        | none => .bad) n [] m).bind fun acc m => .ok (.ref m.length) (m ++ [.lst acc])
    | none => .bad)
  | .lc2 x g k l g2 k2 l2 c own, ρ, m => .bad
  | .dc t x y g k l c own, ρ, m => let q := lockV fr m k l ρ
    noxIf q.isSome ((evs C (fr.lock q) l ρ m).bind fun ds m => match src (fr.lock q) m k ds with
    | some (s, n) => (lcGo s n (fun d acc m' => match bindT d (wipeE ρ own) g with
        | some ρ' => (evT C (fr.lock q) c ρ' m').nox.bind fun b m' => if b then (ev C (fr.lock q) x ρ' m').nox.bind fun u m' => (ev C (fr.lock q) y ρ' m').nox.bind fun v m' =>
            if isKey 0 u ∧ acc.length < lim then .ok (dput 0 acc u v) m' else .bad else .ok acc m'
        | none => .bad) n [] m).bind fun acc m => if t = 0 then .ok (.ref m.length) (m ++ [.dct 0 acc]) else .bad
    | none => .bad)
  | .call f l, ρ, m => (evs C fr l ρ m).bind fun ds m => C fr (.df f) ds m
  | .mk c l, ρ, m => (evs C fr l ρ m).bind fun ds m => C fr (.ct c) ds m
  | .cv a l, ρ, m => (ev C fr a ρ m).bind fun x m => if isF x then (evs C fr l ρ m).bind fun ds m => callV C fr x ds m else .bad
  | .blt f l, ρ, m => (evs C fr l ρ m).bind fun ds m => bltin f ds m
  | .mth f a l, ρ, m => (ev C fr a ρ m).bind fun x m => if recv f m x then (evs C fr l ρ m).bind fun ds m => meth f x ds m else .bad
  | .omt f a l, ρ, m => (ev C fr a ρ m).bind fun x m => ometh f x l.length m
  | .isi a l, ρ, m => (ev C fr a ρ m).bind fun x m => opt (((tyv m x).bind fun u => isAny u l).map .bl) m
  | .srt a key, ρ, m => .bad
  | .lam k, ρ, m => .bad
  | .calL f l, ρ, m => (evL C fr m.length l ρ (m ++ [.mark])).bind fun ds m' => C { fr with fr := (m.length, ρ) :: fr.fr } (.df f) ds m'
def evs (C : Cl) (fr : Fr) : List E → Env → Mem → R (List D)
  | [], _, m => .ok [] m
  | e :: l, ρ, m => (ev C fr e ρ m).bind fun x m => (evs C fr l ρ m).bind fun xs m => .ok (x :: xs) m
def evo (C : Cl) (fr : Fr) : Option E → Env → Mem → R (Option Int)
  | none, _, m => .ok none m
  | some e, ρ, m => (ev C fr e ρ m).bind fun x m => match x with
    | .int i => .ok (some i) m
    | _ => .bad
/-- the tests of a comprehension -/
def evT (C : Cl) (fr : Fr) : List E → Env → Mem → R Bool
  | [], _, m => .ok true m
  | e :: l, ρ, m => (ev C fr e ρ m).bind fun x m => (opt (truth m x) m).bind fun b m => if b then evT C fr l ρ m else .ok false m
/-- arguments with closures of the frame id among them -/
def evL (C : Cl) (fr : Fr) (id : Nat) : List E → Env → Mem → R (List D)
  | [], _, m => .ok [] m
  | .lam k :: l, ρ, m => (evL C fr id l ρ m).bind fun xs m => .ok (.clo k id :: xs) m
  | .lst [.lam k] :: l, ρ, m => (evL C fr id l ρ (m ++ [.lst [.clo k id]])).bind fun xs m' => .ok (.ref m.length :: xs) m'
  | e :: l, ρ, m => (ev C fr e ρ m).bind fun x m => (evL C fr id l ρ m).bind fun xs m => .ok (x :: xs) m
end

/-! ### statements -/
def augop (o : Bin) (a b : D) (m : Mem) : R D := match o, a, b with
  | .add, .int i, .int j => .ok (.int (i + j)) m
  | .add, .str x, .str y => if x.length + y.length ≤ lim then .ok (.str (x ++ y)) m else .bad
  | .sub, .int i, .int j => .ok (.int (i - j)) m
  | _, _, _ => .bad
inductive X where
  | nx (ρ : Env) (m : Mem)
  | rt (d : D) (m : Mem)
  | ct (ρ : Env) (m : Mem)
  | exc (c : Nat) (v : List D) (ρ : Env) (m : Mem)
  | bad
def R.to {α : Type} (r : R α) (ρ : Env) (f : α → Mem → X) : X := match r with
  | .ok a m => f a m
  | .exc c v m => .exc c v ρ m
  | .bad => .bad
def X.seq (r : X) (f : Env → Mem → X) : X := match r with
  | .nx ρ m => f ρ m
  | r => r
def X.noxIf (b : Bool) (r : X) : X := match r with
  | .exc c v ρ m => if b then .bad else .exc c v ρ m
  | r => r
/-- behind a loop's turn -/
def X.turn (r : X) (f : Env → Mem → X) : X := match r with
  | .nx ρ m => f ρ m
  | .ct ρ m => f ρ m
  | r => r
mutual
def store (C : Cl) (fr : Fr) (d : D) (ρ : Env) (m : Mem) : Lg → X
  | .v i => if i < ρ.length then .nx (ρ.set i (some d)) m else .bad
  | .t l => match d with
    | .tup ds => if ds.length = l.length then stores C fr ds ρ m l else .bad
    | .ref p => match m[p]? with
      | some (.lst ds) => if ds.length = l.length then stores C fr ds ρ m l else .bad
      | _ => .bad
    | _ => .bad
  | .att a f => (ev P C fr a ρ m).to ρ fun x m => match x with
    | .ref p => match m[p]? with
      | some (.ins c fs) => if fs.length < 900 ∧ (P.clss[c]?).any (fun k => k.flds.contains f) then .nx ρ (m.set p (.ins c (putFd f d fs))) else .bad
      | _ => .bad
    | _ => .bad
  | .sub a i => (ev P C fr a ρ m).to ρ fun x m => (ev P C fr i ρ m).to ρ fun j m => match x with
    | .ref p => match m[p]? with
      | some (.lst l) => match j with
        | .int j => match L2.ixN l.length j with
          | some j => .nx ρ (m.set p (.lst (l.set j d)))
          | none => .bad
        | _ => .bad
      | some (.dct 0 l) => if !fr.lk.contains p && isKey 0 j && decide (l.length < lim) then .nx ρ (m.set p (.dct 0 (dput 0 l j d))) else .bad
      | _ => .bad
    | _ => .bad
def stores (C : Cl) (fr : Fr) (ds : List D) (ρ : Env) (m : Mem) : List Lg → X
  | [] => match ds with
    | [] => .nx ρ m
    | _ => .bad
  | g :: l => match ds with
    | d :: ds => (store C fr d ρ m g).seq fun ρ m => stores C fr ds ρ m l
    | [] => .bad
end
def forGo (s : Src) (n : Nat) (g : Tg) (f : Env → Mem → X) : Nat → Env → Mem → X
  | 0, ρ, m => if s.ok m n then .nx ρ m else .bad
  | k + 1, ρ, m => if s.ok m n then match s.at m n (n - (k + 1)) with
      | some d => match bindT d ρ g with
        | some ρ => (f ρ m).turn fun ρ m => forGo s n g f k ρ m
        | none => .bad
      | none => .bad
    else .bad
def whlGo (t : Env → Mem → R Bool) (f : Env → Mem → X) : Nat → Env → Mem → X
  | 0, _, _ => .bad
  | k + 1, ρ, m => (t ρ m).to ρ fun b m => if b then (f ρ m).turn fun ρ m => whlGo t f k ρ m else .nx ρ m
def tyOf (c : Nat) : Ty → Bool
  | .exc k => k == c || (match P.excs[c]? with | some e => e.sup.contains (.exc k) | none => false)
  | .ty n => match P.excs[c]? with | some e => e.sup.contains (.ty n) | none => false
  | .cls _ => false
/-- within an except suite -/
def evH (c : Nat) (v : List D) (i : Nat) : E → Env → Option D
  | .var j, ρ => (ρ[j]?).join
  | .cst d, _ => some d
  | .att (.var j) f, ρ => if j = i ∧ (P.excs[c]?).bind (·.fld) = some f then v.head? else none
  | .tup l, ρ => (evHs c v i l ρ).map .tup
  | _, _ => none
where evHs (c : Nat) (v : List D) (i : Nat) : List E → Env → Option (List D)
  | [], _ => some []
  | e :: l, ρ => (evH c v i e ρ).bind fun d => (evHs c v i l ρ).map (d :: ·)
def handle (c : Nat) (v : List D) (ρ : Env) (m : Mem) : List (Ty × Nat × E) → X
  | [] => .exc c v ρ m
  | (t, i, e) :: r => if tyOf P c t then (if i < ρ.length then (match evH P c v i e (ρ.set i none) with | some d => .rt d m | none => .bad) else .bad) else handle c v ρ m r
def wfuel : Nat := 1000000
mutual
def exe (C : Cl) (fr : Fr) : S → Env → Mem → X
  | .set g e, ρ, m => (ev P C fr e ρ m).to ρ fun d m => store P C fr d ρ m g
  | .aug i o e, ρ, m => match (ρ[i]?).join with
    | some x => (ev P C fr e ρ m).to ρ fun y m => (augop o x y m).to ρ fun z m => if i < ρ.length then .nx (ρ.set i (some z)) m else .bad
    | none => .bad
  | .augs a i o e, ρ, m => .bad
  | .ife c a b, ρ, m => ((ev P C fr c ρ m).bind fun x m => opt (truth m x) m).to ρ fun t m => if t then exes C fr a ρ m else exes C fr b ρ m
  | .whl c a, ρ, m => whlGo (fun ρ m => (ev P C fr c ρ m).bind fun x m => opt (truth m x) m) (fun ρ m => exes C fr a ρ m) wfuel ρ m
  | .for_ g k l a, ρ, m => let q := lockV fr m k l ρ
    X.noxIf q.isSome ((evs P C (fr.lock q) l ρ m).to ρ fun ds m => match src (fr.lock q) m k ds with
    | some (s, n) => forGo s n g (fun ρ m => exes C (fr.lock q) a ρ m) n ρ m
    | none => .bad)
  | .ret e, ρ, m => (ev P C fr e ρ m).to ρ fun d m => .rt d m
  | .rse c l, ρ, m => (evs P C fr l ρ m).to ρ fun ds m => .exc c ds ρ m
  | .ex e, ρ, m => (ev P C fr e ρ m).to ρ fun _ m => .nx ρ m
  | .tri a h, ρ, m => match exes C fr a ρ m with
    | .exc c v ρ m => handle P c v ρ m h
    | r => r
  | .pas, ρ, m => .nx ρ m
  | .cont, ρ, m => .ct ρ m
def exes (C : Cl) (fr : Fr) : List S → Env → Mem → X
  | [], ρ, m => .nx ρ m
  | s :: l, ρ, m => (exe C fr s ρ m).seq fun ρ m => exes C fr l ρ m
end

/-! ### calls -/
def startE (n : Nat) (ds : List D) : Env := ds.map some ++ List.replicate (n - ds.length) none
/-- only these slots -/
def pick (ρ : Env) (fs : List Nat) : Env := (List.range ρ.length).map fun i => if fs.contains i then (ρ[i]?).join else none
def setMany (ρ : Env) : List Nat → List D → Env
  | i :: is, d :: ds => setMany (ρ.set i (some d)) is ds
  | _, _ => ρ
def callN : Nat → Cl
  | 0 => fun _ _ _ _ => .bad
  | n + 1 => fun fr to ds m => match to with
    | .df k => match P.defs[k]? with
      | some d => if ds.length = d.np then (match exes P (callN n) fr d.body (startE d.ns ds) m with
          | .nx _ m => .ok .non m
          | .rt v m => .ok v m
          | .exc c v _ m => .exc c v m
          | _ => .bad) else .bad
      | none => .bad
    | .ct c => match P.clss[c]? with
      | some k => (callN n fr (.df k.init) (.ref m.length :: ds) (m ++ [.ins c []])).bind fun d m' => match d with
        | .non => .ok (.ref m.length) m'
        | _ => .bad
      | none => .bad
    | .ne k => (callN n fr (.df k) ds m).bind fun d m => match d with
      | .bl c => .ok (.bl !c) m
      | _ => .bad
    | .cl k id => match P.lams[k]?, fr.fr.lookup id with
      | some l, some ρ => if ds.length = l.np then
          ev P (callN n) { fr with fr := fr.fr.filter fun p => p.1 != id } l.body (setMany (pick ρ l.fs) l.sl ds) m else .bad
      | _, _ => .bad
end Ms

-- Rel
set_option linter.all false
set_option Elab.async false
set_option maxRecDepth 10000
/-! How the machine's values and memory lie in the model's heap. -/
namespace Ms
open PySem L2 PySem.Spec PyProof.Rows

/-- what stands behind a place of the memory: an object's address, or a frame's cells -/
inductive Gh where
  | adr (a : Addr)
  | fr (cs : List (Str × Addr)) (N : List Str)
/-- a lambda of the text -/
structure LamT where
  qual : Str
  params : Arguments
  body : Expr
  scope : Scope
  N : List Str
/-- the program as it stands behind its top -/
structure Top where
  P : Prog
  df : Nat → Option Addr
  cl : Nat → Option Addr
  ex : Nat → Option Addr
  lam : Nat → Option LamT
  T : List (Addr × Str)
  dv : Nat → List (V × Value)

/-- objects that the memory tells -/
def isMut : HO → Bool
  | .lst _ | .dK _ | .dT _ | .set _ _ | .ins _ _ _ => true
  | .frz _ (.lst _) | .frz _ (.dK _) | .frz _ (.dT _) | .frz _ (.set _ _) | .frz _ (.ins _ _ _) => true
  | _ => false
def CloO (q : Str) (L : LamT) (cs : List (Str × Addr)) (f : Addr) (pm : Value) (c' : Addr) (ctv : Value) : HO :=
  .ext fun h => h.get? f = some (PySem.W.kla_obj "<lambda>" q L.params L.body L.scope (cloFrom cs L.scope.names []) pm c' ctv)

def CellO (c : Addr) (o : Obj) : HO := .ext fun h => h.get? c = some o
/-- a frame's cell, told -/
def IsCel (o : HO) : Prop := ∃ (c : Addr) (b : Obj) (u : Option Value), o = CellO c b ∧ b.data = .cell u
theorem heap_all {o : Obj} (hf : o.data ≠ .freed) (n : Nat) : ∃ h : Heap, ∀ a, a < n → h.get? a = some o := by
  refine ⟨{ objs := (List.replicate n o).toArray }, fun a ha => ?_⟩
  show ({ objs := (List.replicate n o).toArray } : Heap).get? a = some o
  unfold Heap.get?
  have e : (List.replicate n o).toArray[a]? = some o := by simp [ha]
  rw [e]
  obtain ⟨c, d, dt, sl⟩ := o
  cases dt <;> first | rfl | exact absurd rfl hf
theorem cel_clo {q : Str} {L : LamT} {cs : List (Str × Addr)} {f : Addr} {pm : Value} {c' : Addr} {ctv : Value} : ¬ IsCel (CloO q L cs f pm c' ctv) := fun ⟨c, b, u, h, hd⟩ => by
  unfold CloO CellO at h
  have e := HO.ext.inj h
  obtain ⟨hp, ha⟩ := heap_all (o := PySem.W.kla_obj "<lambda>" q L.params L.body L.scope (cloFrom cs L.scope.names []) pm c' ctv) (fun z => by cases z) (max f c + 1)
  have e1 := congrFun e hp
  have t : hp.get? f = some _ := ha f (by omega)
  have t2 : hp.get? c = some b := by rw [← e1]; exact t
  rw [ha c (by omega)] at t2
  cases t2
  cases hd
theorem cel_code {a : Addr} {q : Str} : ¬ IsCel (LamX.CodeO a q) := fun ⟨c, b, u, h, hd⟩ => by
  unfold LamX.CodeO CellO at h
  have e := HO.ext.inj h
  obtain ⟨hp, ha⟩ := heap_all (o := { cls := .none, data := .fields #[.none, .str q 0] }) (fun z => by cases z) (max a c + 1)
  have e1 := congrFun e hp
  have t : ∃ (oc : Obj) (vs : Array Value) (t : Tok), hp.get? a = some oc ∧ oc.data = .fields vs ∧ vs[1]? = some (.str q t) := ⟨_, _, 0, ha a (by omega), rfl, rfl⟩
  have t2 : hp.get? c = some b := by rw [← e1]; exact t
  rw [ha c (by omega)] at t2
  cases t2
  cases hd
theorem cel_no {o : HO} (h : ∀ p, o ≠ .ext p) : ¬ IsCel o := fun ⟨c, b, u, e, _⟩ => h _ e
section
variable (G : Top) (φ : List Gh) (H : Hp)
mutual
def ValR : D → V → Prop
  | .non, v => v = .non
  | .bl b, v => v = .bl b
  | .int i, v => v = .int i
  | .str x, v => v = .str x
  | .tup l, v => ∃ a vs, v = .ref a ∧ H a = some (.tup vs) ∧ ValsR l vs
  | .ref i, v => ∃ a, v = .ref a ∧ φ[i]? = some (.adr a)
  | .rng lo hi, v => ∃ a, v = .ref a ∧ H a = some (.rng lo hi)
  | .fn k, v => ∃ a, v = .ref a ∧ G.df k = some a
  | .cls c, v => ∃ a, v = .ref a ∧ G.cl c = some a
  | .ty n, v => v = .ty n
  | .clo k id, v => ∃ f cs N L pm c' ctv, v = .ref f ∧ φ[id]? = some (.fr cs N) ∧ G.lam k = some L ∧ L.N = N ∧ H f = some (CloO L.qual L cs f pm c' ctv) ∧ H c' = some (LamX.CodeO c' L.qual) ∧ ∀ y ∈ L.scope.names, y.2 = .free → ∃ c, cs.lookup y.1 = some c
  | .exn _ _, _ => False
def ValsR : List D → List V → Prop
  | [], vs => vs = []
  | d :: ds, vs => ∃ v r, vs = v :: r ∧ ValR d v ∧ ValsR ds r
end
end

/-- the memory's addresses hold what the memory tells -/
def Clean (φ : List Gh) (H : Hp) : Prop := ∀ (i : Nat) (a : Addr), φ[i]? = some (Gh.adr a) → ∃ o, H a = some o ∧ isMut o = true
/-- all but the frames' cells stays -/
structure ExW (φ : List Gh) (H : Hp) (φ' : List Gh) (H' : Hp) : Prop where
  pre : ∀ (i : Nat) (g : Gh), φ[i]? = some g → φ'[i]? = some g
  im : ∀ (a : Addr) (o : HO), H a = some o → isMut o = false → (∀ ps, o ≠ .tbl ps) → ¬ IsCel o → H' a = some o
structure Ex0 (φ : List Gh) (H : Hp) (φ' : List Gh) (H' : Hp) : Prop where
  pre : ∀ (i : Nat) (g : Gh), φ[i]? = some g → φ'[i]? = some g
  im : ∀ (a : Addr) (o : HO), H a = some o → isMut o = false → (∀ ps, o ≠ .tbl ps) → H' a = some o
structure Ex1 (φ : List Gh) (H : Hp) (φ' : List Gh) (H' : Hp) : Prop extends Ex0 φ H φ' H' where
  new : ∀ (i : Nat) (a : Addr), φ[i]? = none → φ'[i]? = some (Gh.adr a) → H a = none
  dom : ∀ a : Addr, H' a = none → H a = none
  frz : ∀ (a : Addr) (o : Obj) (u : HO), H a = some (.frz o u) → H' a = some (.frz o u)
structure Ext (φ : List Gh) (H : Hp) (φ' : List Gh) (H' : Hp) : Prop extends Ex1 φ H φ' H' where
  keep : ∀ (a : Addr) (o : HO), H a = some o → (∀ i : Nat, φ[i]? ≠ some (Gh.adr a)) → (∀ ps, o ≠ .tbl ps) → H' a = some o

section
variable {G : Top} {φ φ' φ'' : List Gh} {H H' H'' : Hp}
theorem Ex0.w (e : Ex0 φ H φ' H') : ExW φ H φ' H' := ⟨e.pre, fun a o h m t _ => e.im a o h m t⟩
theorem Ex0.refl : Ex0 φ H φ H := ⟨fun _ _ h => h, fun _ _ h _ _ => h⟩
theorem Ex1.refl : Ex1 φ H φ H := ⟨.refl, fun i a h1 h2 => (by rw [h1] at h2; cases h2), fun _ h => h, fun _ _ _ h => h⟩
theorem Ext.refl : Ext φ H φ H := ⟨.refl, fun _ _ h _ _ => h⟩
theorem Ex0.trans (a : Ex0 φ H φ' H') (b : Ex0 φ' H' φ'' H'') : Ex0 φ H φ'' H'' where
  pre := fun i g h => b.pre i g (a.pre i g h)
  im := fun x o h n t => b.im x o (a.im x o h n t) n t
theorem Ex1.trans (a : Ex1 φ H φ' H') (b : Ex1 φ' H' φ'' H'') : Ex1 φ H φ'' H'' := ⟨a.toEx0.trans b.toEx0, fun i x h1 h2 => by
    cases e : φ'[i]? with
    | none => exact a.dom x (b.new i x e h2)
    | some g =>
      have := b.pre i g e
      rw [h2] at this
      cases this
      exact a.new i x h1 e, fun x h => a.dom x (b.dom x h), fun x o u h => b.frz x o u (a.frz x o u h)⟩
theorem Ext.trans (a : Ext φ H φ' H') (b : Ext φ' H' φ'' H'') : Ext φ H φ'' H'' := ⟨a.toEx1.trans b.toEx1, fun x o h n t => b.keep x o (a.keep x o h n t) (fun i q => by
    cases e : φ[i]? with
    | some g =>
      have := a.pre i g e
      rw [q] at this
      cases this
      exact n i e
    | none =>
      have := a.new i x e q
      rw [h] at this
      cases this) t⟩

theorem Clean.not (c : Clean φ H) {a : Addr} {o : HO} (h : H a = some o) (hm : isMut o = false) : ∀ i : Nat, φ[i]? ≠ some (Gh.adr a) := fun i q => by
  obtain ⟨o', h', m⟩ := c i a q
  rw [h] at h'
  cases h'
  rw [hm] at m
  cases m
theorem Ex0.imm (e : Ex0 φ H φ' H') (c : Clean φ H) {a : Addr} {o : HO} (h : H a = some o) (hm : isMut o = false) (ht : ∀ ps, o ≠ .tbl ps) : H' a = some o := e.im a o h hm ht
theorem Ex0.sqT (e : Ex0 φ H φ' H') (c : Clean φ H) {K : PySem.W.Frag} {a : Addr} {vs : List V} (h : SqT K H a vs) : SqT K H' a vs := by
  rcases h with (h | ⟨o, h⟩) | h
  · exact .inl (.inl (e.imm c h rfl fun _ z => by cases z))
  · exact .inl (.inr ⟨o, e.imm c h rfl fun _ z => by cases z⟩)
  · exact .inr h
mutual
theorem ValR.extW (e : ExW φ H φ' H') : ∀ (d : D) (v : V), ValR G φ H d v → ValR G φ' H' d v
  | .non, _, h => by simp only [ValR] at h ⊢; exact h
  | .bl _, _, h => by simp only [ValR] at h ⊢; exact h
  | .int _, _, h => by simp only [ValR] at h ⊢; exact h
  | .str _, _, h => by simp only [ValR] at h ⊢; exact h
  | .tup l, _, h => by
    simp only [ValR] at h ⊢
    obtain ⟨a, vs, hv, hs, hl⟩ := h
    exact ⟨a, vs, hv, e.im _ _ hs rfl (fun _ z => by cases z) (cel_no fun _ z => by cases z), ValsR.extW e l vs hl⟩
  | .ref i, _, h => by
    simp only [ValR] at h ⊢
    obtain ⟨a, hv, hi⟩ := h
    exact ⟨a, hv, e.pre _ _ hi⟩
  | .rng _ _, _, h => by
    simp only [ValR] at h ⊢
    obtain ⟨a, hv, hi⟩ := h
    exact ⟨a, hv, e.im _ _ hi rfl (fun _ z => by cases z) (cel_no fun _ z => by cases z)⟩
  | .fn _, _, h => by simp only [ValR] at h ⊢; exact h
  | .cls _, _, h => by simp only [ValR] at h ⊢; exact h
  | .ty _, _, h => by simp only [ValR] at h ⊢; exact h
  | .clo k id, _, h => by
    simp only [ValR] at h ⊢
    obtain ⟨f, cs, N, L, pm, c', ctv, hv, h1, h2, h3, h4, h5, h6⟩ := h
    exact ⟨f, cs, N, L, pm, c', ctv, hv, e.pre _ _ h1, h2, h3, e.im _ _ h4 rfl (fun _ z => by unfold CloO at z; cases z) cel_clo, e.im _ _ h5 rfl (fun _ z => by unfold LamX.CodeO at z; cases z) cel_code, h6⟩
  | .exn _ _, _, h => by simp only [ValR] at h
theorem ValsR.extW (e : ExW φ H φ' H') : ∀ (ds : List D) (vs : List V), ValsR G φ H ds vs → ValsR G φ' H' ds vs
  | [], _, h => by simp only [ValsR] at h ⊢; exact h
  | d :: ds, _, h => by
    simp only [ValsR] at h ⊢
    obtain ⟨v, r, hv, h1, h2⟩ := h
    exact ⟨v, r, hv, ValR.extW e d v h1, ValsR.extW e ds r h2⟩
end
theorem ValR.ext0 (e : Ex0 φ H φ' H') (c : Clean φ H) (d : D) (v : V) (h : ValR G φ H d v) : ValR G φ' H' d v := ValR.extW e.w d v h
theorem ValsR.ext0 (e : Ex0 φ H φ' H') (c : Clean φ H) (d : List D) (v : List V) (h : ValsR G φ H d v) : ValsR G φ' H' d v := ValsR.extW e.w d v h
theorem ValR.ext {d : D} {v : V} (h : ValR G φ H d v) (e : Ext φ H φ' H') (c : Clean φ H) : ValR G φ' H' d v := ValR.ext0 e.toEx0 c d v h
theorem ValsR.ext {d : List D} {v : List V} (h : ValsR G φ H d v) (e : Ext φ H φ' H') (c : Clean φ H) : ValsR G φ' H' d v := ValsR.ext0 e.toEx0 c d v h
theorem Ext.imm (e : Ext φ H φ' H') (c : Clean φ H) {a : Addr} {o : HO} (h : H a = some o) (hm : isMut o = false) (ht : ∀ ps, o ≠ .tbl ps) : H' a = some o := e.toEx0.imm c h hm ht
theorem ValsR.length : ∀ {ds : List D} {vs : List V}, ValsR G φ H ds vs → vs.length = ds.length
  | [], _, h => by simp only [ValsR] at h; subst h; rfl
  | d :: ds, _, h => by
    simp only [ValsR] at h
    obtain ⟨v, r, rfl, _, h2⟩ := h
    rw [List.length_cons, List.length_cons, ValsR.length h2]
theorem ValsR.get : ∀ {ds : List D} {vs : List V} {i : Nat} {d : D}, ValsR G φ H ds vs → ds[i]? = some d → ∃ v, vs[i]? = some v ∧ ValR G φ H d v
  | [], _, _, _, _, e => by simp at e
  | d :: ds, _, 0, x, h, e => by
    simp only [ValsR] at h
    obtain ⟨v, r, rfl, h1, _⟩ := h
    simp at e
    subst e
    exact ⟨v, rfl, h1⟩
  | d :: ds, _, i + 1, x, h, e => by
    simp only [ValsR] at h
    obtain ⟨v, r, rfl, _, h2⟩ := h
    obtain ⟨u, e1, e2⟩ := ValsR.get (i := i) h2 (by simpa using e)
    exact ⟨u, by simpa using e1, e2⟩
theorem ValsR.append : ∀ {ds es : List D} {vs us : List V}, ValsR G φ H ds vs → ValsR G φ H es us → ValsR G φ H (ds ++ es) (vs ++ us)
  | [], _, _, _, h, q => by simp only [ValsR] at h; subst h; exact q
  | d :: ds, es, _, us, h, q => by
    simp only [ValsR] at h
    obtain ⟨v, r, rfl, h1, h2⟩ := h
    show ValsR G φ H (d :: (ds ++ es)) (v :: (r ++ us))
    simp only [ValsR]
    exact ⟨v, _, rfl, h1, ValsR.append h2 q⟩
theorem ValsR.cons {d : D} {ds : List D} {v : V} {vs : List V} (h : ValR G φ H d v) (q : ValsR G φ H ds vs) : ValsR G φ H (d :: ds) (v :: vs) := by
  simp only [ValsR]
  exact ⟨v, vs, rfl, h, q⟩
theorem ValsR.nil : ValsR G φ H [] [] := by simp only [ValsR]
theorem ValsR.one {d : D} {v : V} (h : ValR G φ H d v) : ValsR G φ H [d] [v] := .cons h .nil
theorem ValsR.drop : ∀ (n : Nat) {ds : List D} {vs : List V}, ValsR G φ H ds vs → ValsR G φ H (ds.drop n) (vs.drop n)
  | 0, _, _, h => h
  | n + 1, [], _, h => by simp only [ValsR] at h; subst h; simp only [List.drop_nil]; exact .nil
  | n + 1, d :: ds, _, h => by
    simp only [ValsR] at h
    obtain ⟨v, r, rfl, _, h2⟩ := h
    exact ValsR.drop n h2
theorem ValsR.take : ∀ (n : Nat) {ds : List D} {vs : List V}, ValsR G φ H ds vs → ValsR G φ H (ds.take n) (vs.take n)
  | 0, _, _, _ => by simp only [List.take_zero]; exact .nil
  | n + 1, [], _, h => by simp only [ValsR] at h; subst h; simp only [List.take_nil]; exact .nil
  | n + 1, d :: ds, _, h => by
    simp only [ValsR] at h
    obtain ⟨v, r, rfl, h1, h2⟩ := h
    exact ValsR.cons h1 (ValsR.take n h2)
theorem ValsR.reverse : ∀ {ds : List D} {vs : List V}, ValsR G φ H ds vs → ValsR G φ H ds.reverse vs.reverse
  | [], _, h => by simp only [ValsR] at h; subst h; exact .nil
  | d :: ds, _, h => by
    simp only [ValsR] at h
    obtain ⟨v, r, rfl, h1, h2⟩ := h
    rw [List.reverse_cons, List.reverse_cons]
    exact (ValsR.reverse h2).append (.one h1)
theorem ValsR.set : ∀ (j : Nat) {ds : List D} {vs : List V} {d : D} {v : V}, ValsR G φ H ds vs → ValR G φ H d v → ValsR G φ H (ds.set j d) (vs.set j v)
  | _, [], _, _, _, h, _ => by simp only [ValsR] at h; subst h; exact .nil
  | 0, e :: ds, _, _, _, h, q => by
    simp only [ValsR] at h
    obtain ⟨w, r, rfl, _, h2⟩ := h
    exact ValsR.cons q h2
  | j + 1, e :: ds, _, _, _, h, q => by
    simp only [ValsR] at h
    obtain ⟨w, r, rfl, h1, h2⟩ := h
    exact ValsR.cons h1 (ValsR.set j h2 q)
end
end Ms

-- Rel2
set_option linter.all false
set_option Elab.async false
set_option maxRecDepth 10000
/-! The machine's state in the model's heap; what is wanted of a result. -/
namespace Ms
open PySem L2 PySem.Spec PyProof.Rows

def HdR (b : Bool) (H : Hp) (a : Addr) (u : HO) : Prop := match b with
  | true => ∃ ob, H a = some (.frz ob u)
  | false => H a = some u
section
variable (G : Top) (φ : List Gh) (H : Hp)
def KvR {κ : Type} (f : D → Option κ) : List (D × D) → List (κ × V) → Prop
  | [], r => r = []
  | (k, d) :: l, r => ∃ k' v s, r = (k', v) :: s ∧ f k = some k' ∧ ValR G φ H d v ∧ KvR f l s
def FsR : List (Str × D) → List (Str × V) → Prop
  | [], r => r = []
  | (x, d) :: l, r => ∃ v s, r = (x, v) :: s ∧ ValR G φ H d v ∧ FsR l s
def ObR (b : Bool) (o : Ob) (a : Addr) : Prop := match o with
  | .lst l => ∃ vs, H a = some (.lst vs) ∧ ValsR G φ H l vs
  | .flst l => ∃ ob vs, H a = some (.frz ob (.lst vs)) ∧ ValsR G φ H l vs
  | .dct 0 l => ∃ kvs, HdR b H a (.dK kvs) ∧ KvR G φ H keyV l kvs
  | .dct 1 l => ∃ kvs, HdR b H a (.dT kvs) ∧ KvR G φ H keysV l kvs
  | .dct _ _ => False
  | .ins c fs => ∃ C dx gs, G.cl c = some C ∧ H a = some (.ins C dx gs) ∧ FsR G φ H fs gs ∧ ∀ p ∈ fs, (G.P.clss[c]?).any (fun k => k.flds.contains p.1) = true
  | .mark => False
def CellsR (cs : List (Str × Addr)) (N : List Str) (ρ : Env) : Prop := ∀ (x : Str) (c : Addr), cs.lookup x = some c → ∃ (o : Obj) (u : Option Value), H c = some (CellO c o) ∧ o.data = .cell u ∧
  ∀ (i : Nat) (d : D), N[i]? = some x → ρ[i]? = some (some d) → ∃ v w, u = some w ∧ RelV v w ∧ ValR G φ H d v
def FrR (fr : List (Nat × Env)) : Prop := ∀ (id : Nat) (ρ : Env), (id, ρ) ∈ fr → ∃ cs N, φ[id]? = some (Gh.fr cs N) ∧ ((∀ (x y : Str) (c : Addr), cs.lookup x = some c → cs.lookup y = some c → x = y) ∧ ρ.length = N.length ∧ N.Nodup) ∧ CellsR G φ H cs N ρ
def Apart (φ : List Gh) (fr : List (Nat × Env)) : Prop := ∀ (i j : Nat) (ρ ρ' : Env), (i, ρ) ∈ fr → (j, ρ') ∈ fr → i ≠ j → ∀ cs N ds N', φ[i]? = some (Gh.fr cs N) → φ[j]? = some (Gh.fr ds N') →
  ∀ (x y : Str) (c : Addr), cs.lookup x = some c → ds.lookup y = some c → False
end
structure SR (G : Top) (φ : List Gh) (fr : Fr) (H : Hp) (m : Mem) : Prop where
  len : φ.length = m.length
  inj : ∀ (i j : Nat) (a : Addr), φ[i]? = some (Gh.adr a) → φ[j]? = some (Gh.adr a) → i = j
  ob : ∀ (i : Nat) (o : Ob), m[i]? = some o → (o = .mark ∧ ∃ cs N, φ[i]? = some (Gh.fr cs N)) ∨ ∃ a, φ[i]? = some (Gh.adr a) ∧ ObR G φ H (fr.lk.contains i) o a
  frs : FrR G φ H fr.fr
  apt : Apart φ fr.fr
  tabs : LamX.Tabs G.T H
  lkb : ∀ i : Nat, fr.lk.contains i = true → i < m.length
structure EnvR (G : Top) (φ : List Gh) (H : Hp) (ρ : Env) (σ : L2.St) : Prop where
  len : σ.length = ρ.length
  at_ : ∀ (i : Nat) (d : D), ρ[i]? = some (some d) → ∃ v, σ[i]? = some (some v) ∧ ValR G φ H d v

section
variable {G : Top} {φ φ' φ'' : List Gh} {H H' H'' : Hp} {fr : Fr} {m : Mem}
theorem HdR.mut {b : Bool} {a : Addr} {u : HO} (h : HdR b H a u) (hu : isMut u = true) (hf : ∀ o, isMut (.frz o u) = true) : ∃ o, H a = some o ∧ isMut o = true := by
  cases b with
  | true =>
    obtain ⟨ob, h⟩ := h
    exact ⟨_, h, hf ob⟩
  | false => exact ⟨_, h, hu⟩
theorem HdR.eq {b : Bool} {a : Addr} {u : HO} (h : HdR b H a u) (e : H' a = H a) : HdR b H' a u := by
  cases b with
  | true =>
    obtain ⟨ob, h⟩ := h
    exact ⟨ob, e.trans h⟩
  | false => exact e.trans h
theorem ObR.mut {b : Bool} {o : Ob} {a : Addr} (h : ObR G φ H b o a) : ∃ u, H a = some u ∧ isMut u = true := by
  match o, h with
  | .lst l, ⟨vs, h, _⟩ => exact ⟨_, h, rfl⟩
  | .flst l, ⟨ob, vs, h, _⟩ => exact ⟨_, h, rfl⟩
  | .dct 0 l, ⟨vs, h, _⟩ => exact h.mut rfl fun _ => rfl
  | .dct 1 l, ⟨vs, h, _⟩ => exact h.mut rfl fun _ => rfl
  | .ins c fs, ⟨C, dx, gs, _, h, _⟩ => exact ⟨_, h, rfl⟩
theorem SR.clean (s : SR G φ fr H m) : Clean φ H := fun i a h => by
  have hi : i < φ.length := (List.getElem?_eq_some_iff.mp h).1
  rw [s.len] at hi
  rcases s.ob i m[i] (by simp [hi]) with ⟨_, cs, N, e⟩ | ⟨b, e, o⟩
  · rw [h] at e
    cases e
  · rw [h] at e
    cases e
    exact o.mut
theorem KvR.extW {κ : Type} {f : D → Option κ} (e : ExW φ H φ' H') : ∀ {l : List (D × D)} {r : List (κ × V)}, KvR G φ H f l r → KvR G φ' H' f l r
  | [], _, h => h
  | (k, d) :: l, _, h => by
    obtain ⟨k', v, s, h1, h2, h3, h4⟩ := h
    exact ⟨k', v, s, h1, h2, ValR.extW e _ _ h3, KvR.extW e h4⟩
theorem FsR.extW (e : ExW φ H φ' H') : ∀ {l : List (Str × D)} {r : List (Str × V)}, FsR G φ H l r → FsR G φ' H' l r
  | [], _, h => h
  | (k, d) :: l, _, h => by
    obtain ⟨v, s, h1, h3, h4⟩ := h
    exact ⟨v, s, h1, ValR.extW e _ _ h3, FsR.extW e h4⟩
theorem ObR.extW {b : Bool} {o : Ob} {a : Addr} (e : ExW φ H φ' H') (q : H' a = H a) (h : ObR G φ H b o a) : ObR G φ' H' b o a := by
  match o, h with
  | .lst l, ⟨vs, h, r⟩ => exact ⟨vs, q.trans h, ValsR.extW e _ _ r⟩
  | .flst l, ⟨ob, vs, h, r⟩ => exact ⟨ob, vs, q.trans h, ValsR.extW e _ _ r⟩
  | .dct 0 l, ⟨vs, h, r⟩ => exact ⟨vs, h.eq q, r.extW e⟩
  | .dct 1 l, ⟨vs, h, r⟩ => exact ⟨vs, h.eq q, r.extW e⟩
  | .ins k fs, ⟨C, dx, gs, g, h, r⟩ => exact ⟨C, dx, gs, g, q.trans h, r.1.extW e, r.2⟩
theorem EnvR.extW {ρ : Env} {σ : L2.St} (e : ExW φ H φ' H') (h : EnvR G φ H ρ σ) : EnvR G φ' H' ρ σ := ⟨h.len, fun i d q => by
  obtain ⟨v, h1, h2⟩ := h.at_ i d q
  exact ⟨v, h1, ValR.extW e _ _ h2⟩⟩
theorem KvR.ext0 {κ : Type} {f : D → Option κ} {l : List (D × D)} {r : List (κ × V)} (h : KvR G φ H f l r) (e : Ex0 φ H φ' H') (c : Clean φ H) : KvR G φ' H' f l r := KvR.extW e.w h
theorem FsR.ext0 {l : List (Str × D)} {r : List (Str × V)} (h : FsR G φ H l r) (e : Ex0 φ H φ' H') (c : Clean φ H) : FsR G φ' H' l r := FsR.extW e.w h
theorem ObR.ext0 {b : Bool} {o : Ob} {a : Addr} (h : ObR G φ H b o a) (e : Ex0 φ H φ' H') (c : Clean φ H) (q : H' a = H a) : ObR G φ' H' b o a := h.extW e.w q
theorem EnvR.ext0 {ρ : Env} {σ : L2.St} (h : EnvR G φ H ρ σ) (e : Ex0 φ H φ' H') (c : Clean φ H) : EnvR G φ' H' ρ σ := h.extW e.w
theorem EnvR.set {ρ : Env} {σ : L2.St} {i : Nat} {d : D} {v : V} (h : EnvR G φ H ρ σ) (r : ValR G φ H d v) (hi : i < ρ.length) : EnvR G φ H (ρ.set i (some d)) (σ.set i (some v)) := ⟨by simp [h.len], fun j e q => by
  by_cases hj : i = j
  · subst hj
    rw [List.getElem?_set_self hi] at q
    cases q
    exact ⟨v, List.getElem?_set_self (by rw [h.len]; exact hi), r⟩
  · rw [List.getElem?_set_ne hj] at q
    obtain ⟨u, h1, h2⟩ := h.at_ j e q
    exact ⟨u, by rw [List.getElem?_set_ne hj]; exact h1, h2⟩⟩
theorem cellO_imm {c : Addr} {o : Obj} : isMut (CellO c o) = false ∧ ∀ ps, CellO c o ≠ .tbl ps := ⟨rfl, fun _ z => by unfold CellO at z; cases z⟩
theorem CellsR.ext0 {cs : List (Str × Addr)} {N : List Str} {ρ : Env} (e : Ex0 φ H φ' H') (c : Clean φ H) (h : CellsR G φ H cs N ρ) : CellsR G φ' H' cs N ρ := fun x k hx => by
  obtain ⟨o, u, h1, h2, h3⟩ := h x k hx
  refine ⟨o, u, e.imm c h1 cellO_imm.1 cellO_imm.2, h2, fun i d h4 h5 => ?_⟩
  obtain ⟨v, w, a, b, r⟩ := h3 i d h4 h5
  exact ⟨v, w, a, b, ValR.ext0 e c _ _ r⟩
theorem FrR.ext0 {l : List (Nat × Env)} (e : Ex0 φ H φ' H') (c : Clean φ H) (h : FrR G φ H l) : FrR G φ' H' l := fun id ρ hm => by
  obtain ⟨cs, N, h1, hj, h2⟩ := h id ρ hm
  exact ⟨cs, N, e.pre _ _ h1, hj, h2.ext0 e c⟩
theorem Apart.ext0 {l : List (Nat × Env)} (e : Ex0 φ H φ' H') (h : Apart φ l) (f : FrR G φ H l) : Apart φ' l := fun i j ρ ρ' h1 h2 n cs N ds N' h3 h4 x y c h5 h6 => by
  obtain ⟨_, _, a1, _⟩ := f i ρ h1
  obtain ⟨_, _, a2, _⟩ := f j ρ' h2
  have b1 := e.pre _ _ a1
  have b2 := e.pre _ _ a2
  rw [h3] at b1
  rw [h4] at b2
  cases b1
  cases b2
  exact h i j ρ ρ' h1 h2 n _ _ _ _ a1 a2 x y c h5 h6

theorem EnvR.ext {ρ : Env} {σ : L2.St} (h : EnvR G φ H ρ σ) (e : Ext φ H φ' H') (c : Clean φ H) : EnvR G φ' H' ρ σ := h.ext0 e.toEx0 c
theorem ObR.ext {b : Bool} {o : Ob} {a : Addr} (h : ObR G φ H b o a) (e : Ext φ H φ' H') (c : Clean φ H) (q : H' a = H a) : ObR G φ' H' b o a := h.ext0 e.toEx0 c q
theorem FrR.ext {l : List (Nat × Env)} (h : FrR G φ H l) (e : Ext φ H φ' H') (c : Clean φ H) : FrR G φ' H' l := h.ext0 e.toEx0 c
/-- the heap grows -/
theorem ext_same (h : ∀ a o, H a = some o → H' a = some o) : Ext φ H φ H' := ⟨⟨⟨fun _ _ q => q, fun a o q _ _ => h a o q⟩, fun i a h1 h2 => (by rw [h1] at h2; cases h2), fun a q => by
  cases z : H a with
  | none => rfl
  | some o =>
    rw [h a o z] at q
    exact absurd q (by simp), fun a o u q => h a _ q⟩, fun a o q _ _ => h a o q⟩
theorem SR.grow (s : SR G φ fr H m) (h : ∀ a o, H a = some o → H' a = some o) : SR G φ fr H' m := by
  have e : Ext φ H φ H' := ext_same h
  refine ⟨s.len, s.inj, fun i o hi => ?_, s.frs.ext e s.clean, s.apt, s.tabs.ext h, s.lkb⟩
  rcases s.ob i o hi with q | ⟨a, h1, h2⟩
  · exact .inl q
  · obtain ⟨u, hu, _⟩ := h2.mut
    exact .inr ⟨a, h1, h2.ext e s.clean ((h a u hu).trans hu.symm)⟩
/-- a new object -/
theorem ext_new {p : Addr} (h : ∀ a o, H a = some o → H' a = some o) (hp : H p = none) : Ext φ H (φ ++ [.adr p]) H' where
  pre := fun i g q => by
    have hi : i < φ.length := (List.getElem?_eq_some_iff.mp q).1
    rw [List.getElem?_append_left hi]
    exact q
  im := fun a o q _ _ => h a o q
  keep := fun a o q _ _ => h a o q
  new := fun i a h1 h2 => by
    rw [List.getElem?_append_right (List.getElem?_eq_none_iff.mp h1)] at h2
    cases hk : i - φ.length with
    | zero =>
      rw [hk] at h2
      cases h2
      exact hp
    | succ k =>
      rw [hk] at h2
      simp at h2
  dom := (ext_same (φ := φ) h).dom
  frz := fun a o u q => h a _ q
theorem SR.new {p : Addr} {o : Ob} (s : SR G φ fr H m) (h : ∀ a o, H a = some o → H' a = some o) (hp : H p = none) (ho : ObR G (φ ++ [.adr p]) H' false o p) : SR G (φ ++ [.adr p]) fr H' (m ++ [o]) := by
  have e : Ext φ H (φ ++ [.adr p]) H' := ext_new h hp
  have fresh : ∀ i : Nat, φ[i]? ≠ some (.adr p) := fun i q => by
    obtain ⟨u, hu, _⟩ := s.clean i p q
    rw [hp] at hu
    cases hu
  have at_ : ∀ (i : Nat) (a : Addr), (φ ++ [Gh.adr p])[i]? = some (.adr a) → φ[i]? = some (.adr a) ∨ (i = φ.length ∧ a = p) := fun i a q => by
    by_cases hi : i < φ.length
    · rw [List.getElem?_append_left hi] at q
      exact .inl q
    · rw [List.getElem?_append_right (by omega)] at q
      cases hk : i - φ.length with
      | zero =>
        rw [hk] at q
        cases q
        exact .inr ⟨by omega, rfl⟩
      | succ k =>
        rw [hk] at q
        simp at q
  have hl : fr.lk.contains m.length = false := by
    cases z : fr.lk.contains m.length with
    | false => rfl
    | true => exact absurd (s.lkb _ z) (Nat.lt_irrefl _)
  refine ⟨by simp [s.len], fun i j a h1 h2 => ?_, fun i u hi => ?_, s.frs.ext e s.clean, s.apt.ext0 e.toEx0 s.frs, s.tabs.ext h, fun i hi => by rw [List.length_append]; exact Nat.lt_of_lt_of_le (s.lkb i hi) (Nat.le_add_right _ _)⟩
  · rcases at_ i a h1 with q1 | ⟨q1, z1⟩ <;> rcases at_ j a h2 with q2 | ⟨q2, z2⟩
    · exact s.inj i j a q1 q2
    · subst z2; exact (fresh i q1).elim
    · subst z1; exact (fresh j q2).elim
    · omega
  · by_cases hlt : i < m.length
    · rw [List.getElem?_append_left hlt] at hi
      rcases s.ob i u hi with ⟨q, cs, N, q2⟩ | ⟨a, h1, h2⟩
      · exact .inl ⟨q, cs, N, e.pre _ _ q2⟩
      · obtain ⟨v, hv, _⟩ := h2.mut
        exact .inr ⟨a, e.pre _ _ h1, h2.ext e s.clean ((h a v hv).trans hv.symm)⟩
    · rw [List.getElem?_append_right (by omega)] at hi
      cases hk : i - m.length with
      | zero =>
        rw [hk] at hi
        cases hi
        have : i = m.length := by omega
        subst this
        exact .inr ⟨p, by rw [← s.len]; simp, by rw [hl]; exact ho⟩
      | succ k =>
        rw [hk] at hi
        simp at hi
/-- an object is written -/
theorem ex_set {i : Nat} {a : Addr} {u o : HO} (hi : φ[i]? = some (.adr a)) (hu : H a = some o) (hm : isMut o = true) : Ex0 φ H φ (upd H a u) where
  pre := fun _ _ q => q
  im := fun b o' q n _ => by
    rw [upd_ne (fun z => by rw [z, hu] at q; cases q; rw [hm] at n; cases n)]
    exact q
theorem dom_upd {a b : Addr} {u : HO} (hu : H a ≠ none) (q : upd H a u b = none) : H b = none := by
  by_cases hb : b = a
  · rw [hb, upd_same] at q
    cases q
  · rw [upd_ne hb] at q
    exact q
theorem ext_set {i : Nat} {a : Addr} {u o : HO} (hi : φ[i]? = some (.adr a)) (hu : H a = some o) (hm : isMut o = true) (hf : ∀ ob w, o ≠ .frz ob w) : Ext φ H φ (upd H a u) := ⟨⟨ex_set hi hu hm, fun j b h1 h2 => (by rw [h1] at h2; cases h2), fun b q => dom_upd (by rw [hu]; simp) q, fun b ob w hb => by
  rw [upd_ne (fun z => by rw [z, hu] at hb; cases hb; exact hf _ _ rfl)]
  exact hb⟩, fun b o' q n _ => by
  rw [upd_ne (fun z => n i (by rw [z]; exact hi))]
  exact q⟩
theorem SR.set {i : Nat} {a : Addr} {u : HO} {o' : Ob} (s : SR G φ fr H m) (hi : φ[i]? = some (.adr a)) (ho : ObR G φ (upd H a u) (fr.lk.contains i) o' a) : SR G φ fr (upd H a u) (m.set i o') := by
  have c := s.clean
  obtain ⟨v, hv, hm⟩ := c i a hi
  have e : Ex0 φ H φ (upd H a u) := ex_set hi hv hm
  have tb : LamX.Tabs G.T (upd H a u) := fun q hq => by
    obtain ⟨ps, h1, h2, h3⟩ := s.tabs q hq
    have hne : q.1 ≠ a := fun z => by
      rw [z, hv] at h1
      cases h1
      cases hm
    refine ⟨ps, by rw [upd_ne hne]; exact h1, h2, fun pos cv hc => ?_⟩
    obtain ⟨k, e1, e2⟩ := h3 pos cv hc
    exact ⟨k, e1, e.imm c e2 rfl LamX.codeO_ne⟩
  refine ⟨by simp [s.len], s.inj, fun j w hj => ?_, s.frs.ext0 e c, s.apt, tb, fun k hk => by rw [List.length_set]; exact s.lkb k hk⟩
  by_cases hji : i = j
  · subst hji
    have hlt : i < m.length := by
      rw [← s.len]
      exact (List.getElem?_eq_some_iff.mp hi).1
    rw [List.getElem?_set_self hlt] at hj
    cases hj
    exact .inr ⟨a, hi, ho⟩
  · rw [List.getElem?_set_ne hji] at hj
    rcases s.ob j w hj with q | ⟨b, h1, h2⟩
    · exact .inl q
    · have hne : b ≠ a := fun z => hji (s.inj i j a hi (by rw [← z]; exact h1))
      exact .inr ⟨b, h1, h2.ext0 e c (upd_ne hne)⟩
/-- what stands at one place is told otherwise -/
theorem SR.relk {i : Nat} {a : Addr} {u : HO} {lk' : List Nat} (s : SR G φ fr H m) (hi : φ[i]? = some (.adr a)) (hk : ∀ j : Nat, j ≠ i → lk'.contains j = fr.lk.contains j) (hb : i < m.length) (ho : ∀ o, m[i]? = some o → ObR G φ (upd H a u) (lk'.contains i) o a) :
    SR G φ { fr with lk := lk' } (upd H a u) m := by
  have c := s.clean
  obtain ⟨v, hv, hm⟩ := c i a hi
  have e : Ex0 φ H φ (upd H a u) := ex_set hi hv hm
  have tb : LamX.Tabs G.T (upd H a u) := fun q hq => by
    obtain ⟨ps, h1, h2, h3⟩ := s.tabs q hq
    have hne : q.1 ≠ a := fun z => by
      rw [z, hv] at h1
      cases h1
      cases hm
    refine ⟨ps, by rw [upd_ne hne]; exact h1, h2, fun pos cv hc => ?_⟩
    obtain ⟨k, e1, e2⟩ := h3 pos cv hc
    exact ⟨k, e1, e.imm c e2 rfl LamX.codeO_ne⟩
  refine ⟨s.len, s.inj, fun j w hj => ?_, s.frs.ext0 e c, s.apt, tb, fun k h => ?_⟩
  · by_cases hji : j = i
    · subst hji
      exact .inr ⟨a, hi, ho w hj⟩
    · rcases s.ob j w hj with q | ⟨b, h1, h2⟩
      · exact .inl q
      · have hne : b ≠ a := fun z => hji (s.inj j i a (by rw [← z]; exact h1) hi)
        refine .inr ⟨b, h1, ?_⟩
        show ObR G φ _ (lk'.contains j) w b
        rw [hk j hji]
        exact h2.ext0 e c (upd_ne hne)
  · by_cases hki : k = i
    · rw [hki]; exact hb
    · exact s.lkb k (by rw [← hk k hki]; exact h)
def isD : HO → Bool
  | .dK _ | .dT _ => true
  | _ => false
/-- a dict is locked, behind which it is only read -/
theorem SR.lockd {i : Nat} {a : Addr} {t : Nat} {l : List (D × D)} (s : SR G φ fr H m) (hi : φ[i]? = some (.adr a)) (hd : m[i]? = some (.dct t l)) (hl : fr.lk.contains i = false) :
    ∃ u, H a = some u ∧ isD u = true ∧ ∀ od, Ext φ H φ (upd H a (.frz od u)) ∧ SR G φ { fr with lk := i :: fr.lk } (upd H a (.frz od u)) m := by
  have o : ObR G φ H false (.dct t l) a := by
    rcases s.ob i _ hd with ⟨z, _⟩ | ⟨b, h1, h2⟩
    · cases z
    · rw [hi] at h1
      cases h1
      rw [hl] at h2
      exact h2
  have hlen : i < m.length := (List.getElem?_eq_some_iff.mp hd).1
  have hk : ∀ j : Nat, j ≠ i → (i :: fr.lk).contains j = fr.lk.contains j := fun j hj => by simp [hj]
  have hi1 : (i :: fr.lk).contains i = true := by simp
  match t, o with
  | 0, ⟨vs, h, r⟩ =>
    have h : H a = some (.dK vs) := h
    refine ⟨_, h, rfl, fun od => ?_⟩
    have e : Ext φ H φ (upd H a (.frz od (.dK vs))) := ext_set hi h rfl fun _ _ z => by cases z
    refine ⟨e, s.relk hi hk hlen fun o' ho' => ?_⟩
    rw [hd] at ho'
    cases ho'
    rw [hi1]
    exact ⟨vs, ⟨od, upd_same⟩, r.ext0 e.toEx0 s.clean⟩
  | 1, ⟨vs, h, r⟩ =>
    have h : H a = some (.dT vs) := h
    refine ⟨_, h, rfl, fun od => ?_⟩
    have e : Ext φ H φ (upd H a (.frz od (.dT vs))) := ext_set hi h rfl fun _ _ z => by cases z
    refine ⟨e, s.relk hi hk hlen fun o' ho' => ?_⟩
    rw [hd] at ho'
    cases ho'
    rw [hi1]
    exact ⟨vs, ⟨od, upd_same⟩, r.ext0 e.toEx0 s.clean⟩
/-- the lock is taken off -/
theorem SR.unlock {i : Nat} {a : Addr} {u : HO} {od : Obj} (s : SR G φ { fr with lk := i :: fr.lk } H m) (hi : φ[i]? = some (.adr a)) (hu : H a = some (.frz od u)) (hd : isD u = true) (hl : fr.lk.contains i = false) :
    SR G φ fr (upd H a u) m := by
  have hlen : i < m.length := s.lkb i (by simp)
  have c := s.clean
  have e : Ex0 φ H φ (upd H a u) := ex_set hi hu (by cases u <;> first | rfl | cases hd)
  refine SR.relk (fr := { fr with lk := i :: fr.lk }) (lk' := fr.lk) s hi (fun j hj => by simp [hj]) hlen fun o ho => ?_
  have q : ObR G φ H true o a := by
    rcases s.ob i o ho with ⟨_, cs, N, z⟩ | ⟨b, h1, h2⟩
    · rw [hi] at z
      cases z
    · rw [hi] at h1
      cases h1
      have : (i :: fr.lk).contains i = true := by simp
      rw [show ({ fr with lk := i :: fr.lk } : Fr).lk.contains i = true from this] at h2
      exact h2
  rw [hl]
  match o, q with
  | .lst l, ⟨vs, h, _⟩ => rw [hu] at h; cases h
  | .flst l, ⟨ob, vs, h, _⟩ => rw [hu] at h; cases h; cases hd
  | .dct 0 l, ⟨vs, ⟨ob, h⟩, r⟩ => rw [hu] at h; cases h; exact ⟨vs, upd_same, r.ext0 e c⟩
  | .dct 1 l, ⟨vs, ⟨ob, h⟩, r⟩ => rw [hu] at h; cases h; exact ⟨vs, upd_same, r.ext0 e c⟩
  | .ins c fs, ⟨C, dx, gs, _, h, _⟩ => rw [hu] at h; cases h
/-- behind a locked stretch -/
theorem ext_unlock {i : Nat} {a : Addr} {u : HO} {od : Obj} (hi : φ[i]? = some (.adr a)) (hu : H a = some u) (hd : isD u = true) (e : Ext φ (upd H a (.frz od u)) φ' H') : H' a = some (.frz od u) ∧ Ext φ H φ' (upd H' a u) := by
  have h1 : H' a = some (.frz od u) := e.frz a od u upd_same
  have hm : isMut u = true := by cases u <;> first | rfl | cases hd
  have hf : ∀ ob w, u ≠ .frz ob w := fun _ _ z => by rw [z] at hd; cases hd
  have hn : ∀ (b : Addr) (o : HO), H b = some o → o ≠ u → b ≠ a := fun b o q n z => by
    rw [z, hu] at q
    cases q
    exact n rfl
  refine ⟨h1, ⟨⟨⟨e.pre, fun b o q n t => ?_⟩, fun j b q1 q2 => ?_, fun b q => ?_, fun b ob w q => ?_⟩, fun b o q n ht => ?_⟩⟩
  · have hne := hn b o q fun z => by rw [z, hm] at n; cases n
    rw [upd_ne hne]
    exact e.im b o (by rw [upd_ne hne]; exact q) n t
  · have := e.new j b q1 q2
    by_cases hb : b = a
    · rw [hb, upd_same] at this
      cases this
    · rw [upd_ne hb] at this
      exact this
  · by_cases hb : b = a
    · rw [hb, upd_same] at q
      cases q
    · rw [upd_ne hb] at q
      have := e.dom b q
      rw [upd_ne hb] at this
      exact this
  · have hb := hn b _ q fun z => hf _ _ z.symm
    rw [upd_ne hb]
    exact e.frz b ob w (by rw [upd_ne hb]; exact q)
  · have hne : b ≠ a := fun z => n i (by rw [z]; exact hi)
    rw [upd_ne hne]
    exact e.keep b o (by rw [upd_ne hne]; exact q) n ht
/-- what is not the memory's own is written: a list that is being made -/
theorem ex1_out {a : Addr} {u o : HO} (ha : H a = some o) (hm : isMut o = true) (hf : ∀ ob w, o ≠ .frz ob w) : Ex1 φ H φ (upd H a u) := by
  have hn : ∀ (b : Addr) (o' : HO), H b = some o' → o' ≠ o → b ≠ a := fun b o' q n z => by
    rw [z, ha] at q
    cases q
    exact n rfl
  refine ⟨⟨fun _ _ q => q, fun b o' q n t => ?_⟩, fun j b h1 h2 => (by rw [h1] at h2; cases h2), fun b q => ?_, fun b ob w q => ?_⟩
  · rw [upd_ne (hn b o' q fun z => by rw [z, hm] at n; cases n)]
    exact q
  · by_cases hb : b = a
    · rw [hb, upd_same] at q
      cases q
    · rw [upd_ne hb] at q
      exact q
  · rw [upd_ne (hn b _ q fun z => hf _ _ z.symm)]
    exact q
theorem SR.out {a : Addr} {u o : HO} (s : SR G φ fr H m) (ha : H a = some o) (hm : isMut o = true) (hf : ∀ ob w, o ≠ .frz ob w) (hn : ∀ i : Nat, φ[i]? ≠ some (.adr a)) : SR G φ fr (upd H a u) m := by
  have e : Ex1 φ H φ (upd H a u) := ex1_out ha hm hf
  have tb : LamX.Tabs G.T (upd H a u) := fun q hq => by
    obtain ⟨ps, h1, h2, h3⟩ := s.tabs q hq
    have hne : q.1 ≠ a := fun z => by
      rw [z, ha] at h1
      cases h1
      cases hm
    refine ⟨ps, by rw [upd_ne hne]; exact h1, h2, fun pos cv hc => ?_⟩
    obtain ⟨k, e1, e2⟩ := h3 pos cv hc
    exact ⟨k, e1, e.toEx0.imm s.clean e2 rfl LamX.codeO_ne⟩
  refine ⟨s.len, s.inj, fun j w hj => ?_, s.frs.ext0 e.toEx0 s.clean, s.apt, tb, s.lkb⟩
  rcases s.ob j w hj with q | ⟨b, h1, h2⟩
  · exact .inl q
  · have hne : b ≠ a := fun z => hn j (by rw [← z]; exact h1)
    exact .inr ⟨b, h1, h2.ext0 e.toEx0 s.clean (upd_ne hne)⟩
/-- what was not there when the stretch began may be written -/
theorem Ext.outside {a : Addr} {u : HO} (e : Ext φ H φ' H') (ha : H a = none) : Ext φ H φ' (upd H' a u) := by
  have hn : ∀ (b : Addr) (o : HO), H b = some o → b ≠ a := fun b o q z => by rw [z, ha] at q; cases q
  refine ⟨⟨⟨e.pre, fun b o q n t => ?_⟩, e.new, fun b q => ?_, fun b ob w q => ?_⟩, fun b o q n t => ?_⟩
  · rw [upd_ne (hn b o q)]; exact e.im b o q n t
  · by_cases hb : b = a
    · rw [hb]; exact ha
    · rw [upd_ne hb] at q; exact e.dom b q
  · rw [upd_ne (hn b _ q)]; exact e.frz b ob w q
  · rw [upd_ne (hn b o q)]; exact e.keep b o q n t
theorem Ext.not_in {a : Addr} {o : HO} (e : Ext φ H φ' H') (ha : H a = some o) (hn : ∀ i : Nat, φ[i]? ≠ some (.adr a)) : ∀ i : Nat, φ'[i]? ≠ some (.adr a) := fun i q => by
  cases z : φ[i]? with
  | some g =>
    have := e.pre i g z
    rw [q] at this
    cases this
    exact hn i z
  | none =>
    have := e.new i a z q
    rw [ha] at this
    cases this
/-- a thing that was made comes into the memory -/
theorem SR.adopt {p : Addr} {o : Ob} (s : SR G φ fr H m) (hn : ∀ i : Nat, φ[i]? ≠ some (.adr p)) (ho : ObR G (φ ++ [.adr p]) H false o p) : SR G (φ ++ [.adr p]) fr H (m ++ [o]) := by
  have pre : ∀ (i : Nat) (g : Gh), φ[i]? = some g → (φ ++ [Gh.adr p])[i]? = some g := fun i g q => by
    have hi : i < φ.length := (List.getElem?_eq_some_iff.mp q).1
    rw [List.getElem?_append_left hi]
    exact q
  have at_ : ∀ (i : Nat) (a : Addr), (φ ++ [Gh.adr p])[i]? = some (.adr a) → φ[i]? = some (.adr a) ∨ (i = φ.length ∧ a = p) := fun i a q => by
    by_cases hi : i < φ.length
    · rw [List.getElem?_append_left hi] at q
      exact .inl q
    · rw [List.getElem?_append_right (by omega)] at q
      cases hk : i - φ.length with
      | zero =>
        rw [hk] at q
        cases q
        exact .inr ⟨by omega, rfl⟩
      | succ k =>
        rw [hk] at q
        simp at q
  have hl : fr.lk.contains m.length = false := by
    cases z : fr.lk.contains m.length with
    | false => rfl
    | true => exact absurd (s.lkb _ z) (Nat.lt_irrefl _)
  have e : Ex0 φ H (φ ++ [.adr p]) H := ⟨pre, fun _ _ q _ _ => q⟩
  have ap : Apart (φ ++ [.adr p]) fr.fr := s.apt.ext0 e s.frs
  refine ⟨by simp [s.len], fun i j a h1 h2 => ?_, fun i u hi => ?_, s.frs.ext0 e s.clean, ap, s.tabs, fun i hi => by rw [List.length_append]; exact Nat.lt_of_lt_of_le (s.lkb i hi) (Nat.le_add_right _ _)⟩
  · rcases at_ i a h1 with q1 | ⟨q1, z1⟩ <;> rcases at_ j a h2 with q2 | ⟨q2, z2⟩
    · exact s.inj i j a q1 q2
    · subst z2; exact (hn i q1).elim
    · subst z1; exact (hn j q2).elim
    · omega
  · by_cases hlt : i < m.length
    · rw [List.getElem?_append_left hlt] at hi
      rcases s.ob i u hi with ⟨q, cs, N, q2⟩ | ⟨a, h1, h2⟩
      · exact .inl ⟨q, cs, N, pre _ _ q2⟩
      · exact .inr ⟨a, pre _ _ h1, h2.ext0 e s.clean rfl⟩
    · rw [List.getElem?_append_right (by omega)] at hi
      cases hk : i - m.length with
      | zero =>
        rw [hk] at hi
        cases hi
        have : i = m.length := by omega
        subst this
        exact .inr ⟨p, by rw [← s.len]; simp, by rw [hl]; exact ho⟩
      | succ k =>
        rw [hk] at hi
        simp at hi
end

/-! ### what is wanted of a result -/
/-- an exception of the machine, as it lies -/
def ExcR (G : Top) (φ : List Gh) (H : Hp) (c : Nat) (l : List D) (cls : Value) (dd : Option Addr) : Prop := ∃ C, G.ex c = some C ∧ cls = .ref C ∧ ∃ e, G.P.excs[c]? = some e ∧
  match l, e.fld with
  | [d], some f => ∃ dx u, dd = some dx ∧ H dx = some (.xd [(f, u)]) ∧ ValR G φ H d u
  | [], none => True
  | _, _ => False
abbrev KT (α : Type) := List Gh → Hp → α → Mem → Prop
abbrev KX := List Gh → Hp → Nat → List D → Mem → Prop
def Post (G : Top) (φ : List Gh) (fr : Fr) (H : Hp) {α : Type} (r : R α) (K : KT α) (E : KX) : Prop := match r with
  | .ok a m' => ∀ φ' H', Ext φ H φ' H' → SR G φ' fr H' m' → K φ' H' a m'
  | .exc c v m' => ∀ φ' H', Ext φ H φ' H' → SR G φ' fr H' m' → E φ' H' c v m'
  | .bad => False
section
variable {G : Top} {φ φ' φ'' : List Gh} {H H' H'' : Hp} {fr : Fr} {m : Mem} {α β : Type}
theorem Post.mono {r : R α} {K K' : KT α} {E E' : KX} (h : Post G φ fr H r K E) (hK : ∀ φ' H' a m', Ext φ H φ' H' → SR G φ' fr H' m' → K φ' H' a m' → K' φ' H' a m') (hE : ∀ φ' H' c v m', Ext φ H φ' H' → SR G φ' fr H' m' → E φ' H' c v m' → E' φ' H' c v m') :
    Post G φ fr H r K' E' := by
  cases r with
  | ok a m' => exact fun φ' H' e s => hK _ _ _ _ e s (h φ' H' e s)
  | exc c v m' => exact fun φ' H' e s => hE _ _ _ _ _ e s (h φ' H' e s)
  | bad => exact h
theorem Post.ext {r : R α} {K : KT α} {E : KX} (e : Ext φ H φ' H') (h : Post G φ fr H r K E) : Post G φ' fr H' r K E := by
  cases r with
  | ok a m' => exact fun φ1 H1 e1 s => h φ1 H1 (e.trans e1) s
  | exc c v m' => exact fun φ1 H1 e1 s => h φ1 H1 (e.trans e1) s
  | bad => exact h
theorem _root_.Ms.R.bind_assoc {γ : Type} {r : R α} {f : α → Mem → R β} {g : β → Mem → R γ} : (r.bind f).bind g = r.bind fun a m => (f a m).bind g := by
  cases r <;> rfl
theorem Post.bind {r : R α} {f : α → Mem → R β} {K : KT β} {E : KX} (h : Post G φ fr H (r.bind f) K E) : Post G φ fr H r (fun φ' H' a m' => Post G φ' fr H' (f a m') K E) E := by
  cases r with
  | ok a m' => exact fun φ' H' e s => Post.ext e h
  | exc c v m' => exact h
  | bad => exact h
theorem Post.opt {o : Option α} {K : KT α} {E : KX} (h : Post G φ fr H (opt o m) K E) : ∃ a, o = some a ∧ Post G φ fr H (.ok a m) K E := by
  cases o with
  | none => exact h.elim
  | some a => exact ⟨a, rfl, h⟩
theorem Post.here {a : α} {K : KT α} {E : KX} (h : Post G φ fr H (.ok a m) K E) (s : SR G φ fr H m) : K φ H a m := h φ H .refl s
theorem Post.nox {r : R α} {K : KT α} {E E' : KX} (h : Post G φ fr H r.nox K E) : Post G φ fr H r K E' := by
  cases r with
  | ok a m' => exact h
  | exc c v m' => exact h.elim
  | bad => exact h.elim
end
end Ms

-- So1
set_option linter.all false
set_option Elab.async false
set_option maxRecDepth 10000
/-! Expressions of the machine hold in the model: the general forms, names, constants, and, or, not, tests. -/
namespace Ms
open PySem L2 PySem.Spec PyProof.Rows

structure XO (G : Top) (X : Cx) (n : Nat) (W : WX) : Prop where
  calm : X.calm = true
  nd : X.N.Nodup
  room : Room (n + 1) X.A
  tk : Takes X W
/-- what is wanted of an exception -/
def EX (G : Top) (W : WX) (σ : L2.St) : KX := fun φ' H' c l _ => ∀ cls dd, ExcR G φ' H' c l cls dd → W cls dd σ H'
def KD (G : Top) (Q : VK) : KT D := fun φ' H' d _ => ∀ v, ValR G φ' H' d v → Q v H'
def KB (Q : Bool → Hp → Prop) : KT Bool := fun _ H' b _ => Q b H'
def KDs (G : Top) (Q : List V → Hp → Prop) : KT (List D) := fun φ' H' d _ => ∀ v, ValsR G φ' H' d v → Q v H'
abbrev Ev (α : Type) := Env → Mem → R α
/-- the reading of an evaluation, by what is wanted -/
def tG (G : Top) (fr : Fr) (W : WX) {α β : Type} (f : Ev α) (k : (β → Hp → Prop) → KT α) : L2.St → Hp → (β → Hp → Prop) → Prop := fun σ H Q =>
  ∃ φ m ρ, SR G φ fr H m ∧ EnvR G φ H ρ σ ∧ Post G φ fr H (f ρ m) (k Q) (EX G W σ)
abbrev tE (G : Top) (C : Cl) (fr : Fr) (W : WX) (e : E) : TE := tG G fr W (ev G.P C fr e) (KD G)
def evb (P : Prog) (C : Cl) (fr : Fr) (e : E) : Ev Bool := fun ρ m => (ev P C fr e ρ m).bind fun x m => opt (truth m x) m
abbrev tT (G : Top) (C : Cl) (fr : Fr) (W : WX) (e : E) : TT := tG G fr W (evb G.P C fr e) KB
abbrev tA (G : Top) (C : Cl) (fr : Fr) (W : WX) (l : List E) : TA := tG G fr W (evs G.P C fr l) (KDs G)

theorem PE.imp {X : Cx} {e : Expr} {t t' : TE} (h : PE X e t) (w : ∀ σ H Q, t' σ H Q → t σ H Q) : PE X e t' := ⟨fun pins s σ H Q I q => h.run pins s σ H Q I (w σ H Q q)⟩
theorem PT.imp {X : Cx} {e : Expr} {t t' : TT} (h : PT X e t) (w : ∀ σ H Q, t' σ H Q → t σ H Q) : PT X e t' := ⟨fun pins s σ H Q I q => h.run pins s σ H Q I (w σ H Q q)⟩
theorem PW.imp {X : Cx} {e : Expr} {t t' : TT} (h : PW X e t) (w : ∀ σ H Q, t' σ H Q → t σ H Q) : PW X e t' := ⟨fun wh pins s σ H Q I q => h.run wh pins s σ H Q I (w σ H Q q)⟩
theorem PA.imp {X : Cx} {e : List Expr} {t t' : TA} (h : PA X e t) (w : ∀ σ H Q, t' σ H Q → t σ H Q) : PA X e t' := ⟨fun p pins s σ H Q I q => h.run p pins s σ H Q I (w σ H Q q)⟩
theorem OpR.imp {X : Cx} {f : Value → Value → Sem Value} {r' : R2} (h : ∀ x y H Q, r' x y H Q → ∃ r, OpR X f r ∧ r x y H Q) : OpR X f r' := fun pins s σ H x y v u Q I rx ry q => by
  obtain ⟨r, hr, q⟩ := h x y H Q q
  exact hr pins s σ H x y v u Q I rx ry q

section
variable {G : Top} {C : Cl} {fr : Fr} {W : WX} {X : Cx} {n : Nat} {σ : L2.St} {H : Hp}
/-- one evaluation ahead of another thing -/
theorem tG.go {α β γ δ : Type} {f : Ev α} {g : α → Ev γ} {k : (β → Hp → Prop) → KT γ} {k' : (δ → Hp → Prop) → KT α} {Q : β → Hp → Prop} {Q' : δ → Hp → Prop} (h : tG G fr W (fun ρ m => (f ρ m).bind fun a m => g a ρ m) k σ H Q)
    (w : ∀ φ H a m ρ, SR G φ fr H m → EnvR G φ H ρ σ → Post G φ fr H (g a ρ m) (k Q) (EX G W σ) → k' Q' φ H a m) : tG G fr W f k' σ H Q' := by
  obtain ⟨φ, m, ρ, s, r, p⟩ := h
  exact ⟨φ, m, ρ, s, r, p.bind.mono (fun φ1 H1 a m1 e s1 p1 => w φ1 H1 a m1 ρ s1 (r.ext e s.clean) p1) fun _ _ _ _ _ _ _ q => q⟩
theorem s_var {i : Nat} {x : Str} {pos : Pos} (hN : X.N[i]? = some x) (hv : Vis X.env.scope x) (hd : (x == ("__debug__" : Str)) = false) (hcd : (x == ("__classdict__" : Str)) = false) : PE X (.Name x pos) (tE G C fr W (.var i)) := by
  refine PE.imp (pe_var hN hv hd hcd) fun σ H Q h => ?_
  obtain ⟨φ, m, ρ, s, r, p⟩ := h
  simp only [ev] at p
  obtain ⟨d, hd, p⟩ := p.opt
  have h2 : ρ[i]? = some (some d) := by
    cases e : ρ[i]? with
    | none => rw [e] at hd; cases hd
    | some o => rw [e] at hd; exact congrArg some hd
  obtain ⟨v, h3, h4⟩ := r.at_ i d h2
  exact ⟨v, h3, p.here s v h4⟩
theorem s_int {i : Int} {j pos} : PE X (.Constant (.int i) j pos) (tE G C fr W (.cst (.int i))) := PE.imp pe_int fun σ H Q ⟨φ, m, ρ, s, r, p⟩ => (show Post _ _ _ _ (.ok _ m) _ _ from p).here s (.int i) (by simp only [ValR])
theorem s_bl {b : Bool} {j pos} : PE X (.Constant (.bool b) j pos) (tE G C fr W (.cst (.bl b))) := PE.imp pe_bl fun σ H Q ⟨φ, m, ρ, s, r, p⟩ => (show Post _ _ _ _ (.ok _ m) _ _ from p).here s (.bl b) (by simp only [ValR])
theorem s_non {j pos} : PE X (.Constant .none j pos) (tE G C fr W (.cst .non)) := PE.imp pe_non fun σ H Q ⟨φ, m, ρ, s, r, p⟩ => (show Post _ _ _ _ (.ok _ m) _ _ from p).here s .non (by simp only [ValR])
theorem s_str {x : Str} {j pos} : PE X (.Constant (.str x) j pos) (tE G C fr W (.cst (.str x))) := PE.imp pe_str fun σ H Q ⟨φ, m, ρ, s, r, p⟩ => (show Post _ _ _ _ (.ok _ m) _ _ from p).here s (.str x) (by simp only [ValR])

/-! ### truth -/
theorem sizeLim {n : Nat} (h : n ≤ lim) : n ≤ sizeLine := Nat.le_trans h (by decide)
theorem sizeLim' {n : Nat} (h : n < lim) : n < sizeLine := Nat.lt_of_lt_of_le h (by decide)
theorem SR.at_ {φ : List Gh} {m : Mem} (s : SR G φ fr H m) {i : Nat} {a : Addr} {o : Ob} (h : φ[i]? = some (.adr a)) (e : m[i]? = some o) : ObR G φ H (fr.lk.contains i) o a := by
  rcases s.ob i o e with ⟨_, cs, N, q⟩ | ⟨b, q, r⟩
  · rw [h] at q
    cases q
  · rw [h] at q
    cases q
    exact r
theorem isEmptyR {φ : List Gh} {l : List D} {vs : List V} (h : ValsR G φ H l vs) : (!vs.isEmpty) = !l.isEmpty := by
  have e := h.length
  cases l <;> cases vs <;> simp at e <;> rfl
theorem truth_ok {K : PySem.W.Frag} {φ : List Gh} {m : Mem} {d : D} {v : V} {b : Bool} (s : SR G φ fr H m) (r : ValR G φ H d v) (h : truth m d = some b) : TruV K v H b := by
  cases d with
  | non => simp only [ValR] at r; subst r; cases h; rfl
  | bl c => simp only [ValR] at r; subst r; cases h; rfl
  | int i => simp only [ValR] at r; subst r; cases h; rfl
  | str x =>
    simp only [ValR] at r; subst r
    simp only [truth] at h
    split at h
    · cases h
      refine ⟨sizeLim (by assumption), ?_⟩
      cases x.length <;> rfl
    · cases h
  | tup l =>
    simp only [ValR] at r
    obtain ⟨a, vs, rfl, hs, hl⟩ := r
    cases h
    exact .inr (.inl ⟨vs, SqT.of hs, (isEmptyR hl).symm⟩)
  | ref i =>
    simp only [ValR] at r
    obtain ⟨a, rfl, hi⟩ := r
    simp only [truth] at h
    split at h
    · rename_i l hm
      cases h
      obtain ⟨vs, h1, h2⟩ := s.at_ hi hm
      exact .inl ⟨vs, SqL.of h1, (isEmptyR h2).symm⟩
    · cases h
  | rng lo hi => cases h
  | fn k => cases h
  | cls c => cases h
  | ty n => cases h
  | clo k id => cases h
  | exn c l => cases h

/-! ### and, or, not -/
variable {a b : Expr} {rest : List Expr} {pos : Pos} {a' b' : E}
theorem evb_and {P : Prog} : evb P C fr (.and a' b') = fun ρ m => (evb P C fr a' ρ m).bind fun c m => if c then evb P C fr b' ρ m else .ok false m := by
  funext ρ m
  simp only [evb, ev]
  cases ev P C fr a' ρ m with
  | ok x m =>
    simp only [R.bind]
    cases h : truth m x with
    | none => rfl
    | some c =>
      simp only [opt]
      cases c with
      | true => rfl
      | false =>
        simp only [Bool.false_eq_true, if_false, h]
  | exc c v m => rfl
  | bad => rfl
theorem evb_or {P : Prog} : evb P C fr (.or a' b') = fun ρ m => (evb P C fr a' ρ m).bind fun c m => if c then .ok true m else evb P C fr b' ρ m := by
  funext ρ m
  simp only [evb, ev]
  cases ev P C fr a' ρ m with
  | ok x m =>
    simp only [R.bind]
    cases h : truth m x with
    | none => rfl
    | some c =>
      simp only [opt]
      cases c with
      | false => rfl
      | true => simp only [if_true, h]
  | exc c v m => rfl
  | bad => rfl
theorem evb_not {P : Prog} : evb P C fr (.not a') = fun ρ m => (evb P C fr a' ρ m).bind fun c m => .ok (!c) m := by
  funext ρ m
  simp only [evb, ev]
  cases ev P C fr a' ρ m with
  | ok x m =>
    simp only [R.bind]
    cases h : truth m x with
    | none => rfl
    | some c => rfl
  | exc c v m => rfl
  | bad => rfl
theorem s_and (xo : XO G X n W) (ha : PE X a (tE G C fr W a')) (hb : PE X (.BoolOp .And (b :: rest) pos) (tE G C fr W b')) : PE X (.BoolOp .And (a :: b :: rest) pos) (tE G C fr W (.and a' b')) := by
  refine PE.imp (pe_andT ha hb) fun σ H Q h => ?_
  have h : tG G fr W (fun ρ m => (ev G.P C fr a' ρ m).bind fun x m => (opt (truth m x) m).bind fun c m => if c then ev G.P C fr b' ρ m else .ok x m) (KD G) σ H Q := by
    obtain ⟨φ, m, ρ, s, r, p⟩ := h
    exact ⟨φ, m, ρ, s, r, by simp only [ev] at p; exact p⟩
  refine h.go fun φ H1 x m ρ s r p v rv => ?_
  obtain ⟨k, hk, p⟩ := p.bind.opt
  refine ⟨k, truth_ok s rv hk, ?_⟩
  cases k with
  | true => exact ⟨φ, m, ρ, s, r, p.here s⟩
  | false => exact (p.here s).here s v rv
theorem s_or (xo : XO G X n W) (ha : PE X a (tE G C fr W a')) (hb : PE X (.BoolOp .Or (b :: rest) pos) (tE G C fr W b')) : PE X (.BoolOp .Or (a :: b :: rest) pos) (tE G C fr W (.or a' b')) := by
  refine PE.imp (pe_orT ha hb) fun σ H Q h => ?_
  have h : tG G fr W (fun ρ m => (ev G.P C fr a' ρ m).bind fun x m => (opt (truth m x) m).bind fun c m => if c then .ok x m else ev G.P C fr b' ρ m) (KD G) σ H Q := by
    obtain ⟨φ, m, ρ, s, r, p⟩ := h
    exact ⟨φ, m, ρ, s, r, by simp only [ev] at p; exact p⟩
  refine h.go fun φ H1 x m ρ s r p v rv => ?_
  obtain ⟨k, hk, p⟩ := p.bind.opt
  refine ⟨k, truth_ok s rv hk, ?_⟩
  cases k with
  | true => exact (p.here s).here s v rv
  | false => exact ⟨φ, m, ρ, s, r, p.here s⟩
theorem s_not (xo : XO G X n W) (ha : PE X a (tE G C fr W a')) : PE X (.UnaryOp .Not a pos) (tE G C fr W (.not a')) := by
  refine PE.imp (pe_notT ha) fun σ H Q h => ?_
  have h : tG G fr W (fun ρ m => (ev G.P C fr a' ρ m).bind fun x m => (opt (truth m x) m).bind fun b m => .ok (D.bl !b) m) (KD G) σ H Q := by
    obtain ⟨φ, m, ρ, s, r, p⟩ := h
    exact ⟨φ, m, ρ, s, r, by simp only [ev] at p; exact p⟩
  refine h.go fun φ H1 x m ρ s r p v rv => ?_
  obtain ⟨k, hk, p⟩ := p.bind.opt
  exact ⟨k, truth_ok s rv hk, (p.here s).here s (.bl !k) (by simp only [ValR])⟩
theorem s_one {op} {e' : E} (h : PE X a (tE G C fr W e')) : PE X (.BoolOp op [a] pos) (tE G C fr W e') := pe_one h
/-- a test by truth -/
theorem st_truth (xo : XO G X n W) (ha : PE X a (tE G C fr W a')) (he : ∀ whole, isTrue a X.env whole = (do let v ← whole; standAt a.pos; holding [v] (truthy v))) : PT X a (tT G C fr W a') := by
  refine PT.imp (pt_truth ha he) fun σ H Q h => ?_
  refine tG.go (f := ev G.P C fr a') (g := fun x _ m => opt (truth m x) m) h fun φ H1 x m ρ s r p v rv => ?_
  obtain ⟨k, hk, p⟩ := p.opt
  exact ⟨k, truth_ok s rv hk, p.here s⟩
theorem st_and (ha : PT X a (tT G C fr W a')) (hb : PW X (.BoolOp .And (b :: rest) pos) (tT G C fr W b')) : PW X (.BoolOp .And (a :: b :: rest) pos) (tT G C fr W (.and a' b')) := by
  refine PW.imp (pw_and ha hb) fun σ H Q h => ?_
  unfold tT at h
  rw [evb_and] at h
  refine h.go fun φ H1 c m ρ s r p => ?_
  cases c with
  | true => exact ⟨φ, m, ρ, s, r, p⟩
  | false => exact p.here s
theorem st_or (ha : PT X a (tT G C fr W a')) (hb : PW X (.BoolOp .Or (b :: rest) pos) (tT G C fr W b')) : PW X (.BoolOp .Or (a :: b :: rest) pos) (tT G C fr W (.or a' b')) := by
  refine PW.imp (pw_or ha hb) fun σ H Q h => ?_
  unfold tT at h
  rw [evb_or] at h
  refine h.go fun φ H1 c m ρ s r p => ?_
  cases c with
  | true => exact p.here s
  | false => exact ⟨φ, m, ρ, s, r, p⟩
theorem st_not (ha : PT X a (tT G C fr W a')) : PT X (.UnaryOp .Not a pos) (tT G C fr W (.not a')) := by
  refine PT.imp (pt_not ha) fun σ H Q h => ?_
  unfold tT at h
  rw [evb_not] at h
  exact h.go fun φ H1 c m ρ s r p => p.here s
end
end Ms

-- So2
set_option linter.all false
set_option Elab.async false
set_option maxRecDepth 10000
/-! Operators, comparisons, displays, subscripts. -/
namespace Ms
open PySem L2 PySem.Spec PyProof.Rows

/-- by values -/
def rG2 (G : Top) (fr : Fr) (E : KX) (f : D → D → Mem → R D) : R2 := fun x y H Q => ∃ φ m d e, SR G φ fr H m ∧ ValR G φ H d x ∧ ValR G φ H e y ∧ Post G φ fr H (f d e m) (KD G Q) E
def opB : Bin → Operator
  | .add => .Add | .sub => .Sub | .mul => .Mult | .mod => .Mod | .fdiv => .FloorDiv | .pow => .Pow | .band => .BitAnd | .bor => .BitOr | .bxor => .BitXor | .shl => .LShift | .shr => .RShift
def opC : Cmp → CmpOp
  | .eq => .Eq | .ne => .NotEq | .lt => .Lt | .le => .LtE | .gt => .Gt | .ge => .GtE | .is => .Is | .isNot => .IsNot | .isIn => .In | .notIn => .NotIn
section
variable {G : Top} {C : Cl} {fr : Fr} {W : WX} {X : Cx} {n : Nat} {σ : L2.St} {H : Hp} {E : KX} {φ : List Gh} {m : Mem}
theorem vnon {v : V} (h : ValR G φ H .non v) : v = .non := by simpa only [ValR] using h
theorem vint {i : Int} {v : V} (h : ValR G φ H (.int i) v) : v = .int i := by simpa only [ValR] using h
theorem vbl {i : Bool} {v : V} (h : ValR G φ H (.bl i) v) : v = .bl i := by simpa only [ValR] using h
theorem vstr {i : Str} {v : V} (h : ValR G φ H (.str i) v) : v = .str i := by simpa only [ValR] using h
theorem vtup {l : List D} {v : V} (h : ValR G φ H (.tup l) v) : ∃ a vs, v = .ref a ∧ H a = some (.tup vs) ∧ ValsR G φ H l vs := by simpa only [ValR] using h
theorem vref {i : Nat} {v : V} (h : ValR G φ H (.ref i) v) : ∃ a, v = .ref a ∧ φ[i]? = some (.adr a) := by simpa only [ValR] using h
theorem rnon : ValR G φ H .non .non := by simp only [ValR]
theorem rint {i : Int} : ValR G φ H (.int i) (.int i) := by simp only [ValR]
theorem rbl {i : Bool} : ValR G φ H (.bl i) (.bl i) := by simp only [ValR]
theorem rstr {i : Str} : ValR G φ H (.str i) (.str i) := by simp only [ValR]
theorem rtup {l : List D} {a : Addr} {vs : List V} (h : H a = some (.tup vs)) (r : ValsR G φ H l vs) : ValR G φ H (.tup l) (.ref a) := by
  simp only [ValR]
  exact ⟨a, vs, rfl, h, r⟩
theorem rref {i : Nat} {a : Addr} (h : φ[i]? = some (.adr a)) : ValR G φ H (.ref i) (.ref a) := by
  simp only [ValR]
  exact ⟨a, rfl, h⟩
theorem same_new {H : Hp} {p : Addr} {u : HO} (hp : H p = none) : ∀ a o, H a = some o → upd H p u a = some o := fun a o h => by
  rw [upd_ne (ne_of_none h hp)]
  exact h
/-- a new tuple as the result -/
theorem fin_tup {l : List D} {vs : List V} {Q : VK} {p : Addr} (s : SR G φ fr H m) (h : Post G φ fr H (.ok (.tup l) m) (KD G Q) E) (hp : H p = none) (r : ValsR G φ H l vs) : Q (.ref p) (upd H p (.tup vs)) := by
  have e : Ext φ H φ (upd H p (.tup vs)) := ext_same (same_new hp)
  exact h φ _ e (s.grow (same_new hp)) _ (rtup upd_same (r.ext e s.clean))
/-- a new object as the result -/
theorem fin_new {o : Ob} {u : HO} {Q : VK} {p : Addr} (s : SR G φ fr H m) (h : Post G φ fr H (.ok (.ref m.length) (m ++ [o])) (KD G Q) E) (hp : H p = none) (ho : ∀ φ', Ext φ H φ' (upd H p u) → ObR G φ' (upd H p u) false o p) : Q (.ref p) (upd H p u) := by
  have e : Ext φ H (φ ++ [.adr p]) (upd H p u) := ext_new (same_new hp) hp
  exact h _ _ e (s.new (same_new hp) hp (ho _ e)) _ (rref (by rw [← s.len]; simp))
theorem ob_lst {φ' : List Gh} {H' : Hp} {p : Addr} {l : List D} {vs : List V} {b : Bool} (h : H' p = some (.lst vs)) (r : ValsR G φ' H' l vs) : ObR G φ' H' b (.lst l) p := ⟨vs, h, r⟩
theorem fin_lst {l : List D} {vs : List V} {Q : VK} {p : Addr} (s : SR G φ fr H m) (h : Post G φ fr H (.ok (.ref m.length) (m ++ [.lst l])) (KD G Q) E) (hp : H p = none) (r : ValsR G φ H l vs) : Q (.ref p) (upd H p (.lst vs)) :=
  fin_new s h hp fun φ' e => ob_lst upd_same (r.ext e s.clean)
theorem at_lst {i : Nat} {a : Addr} {l : List D} (s : SR G φ fr H m) (h : φ[i]? = some (.adr a)) (e : m[i]? = some (.lst l)) : ∃ vs, H a = some (.lst vs) ∧ ValsR G φ H l vs := s.at_ h e
theorem at_flst {i : Nat} {a : Addr} {l : List D} (s : SR G φ fr H m) (h : φ[i]? = some (.adr a)) (e : m[i]? = some (.flst l)) : ∃ ob vs, H a = some (.frz ob (.lst vs)) ∧ ValsR G φ H l vs := s.at_ h e
theorem ValsR.flatRep {l : List D} {vs : List V} (h : ValsR G φ H l vs) : ∀ k : Nat, ValsR G φ H (List.replicate k l).flatten (List.replicate k vs).flatten
  | 0 => .nil
  | k + 1 => by
    rw [List.replicate_succ, List.replicate_succ, List.flatten_cons, List.flatten_cons]
    exact h.append (ValsR.flatRep h k)
theorem emp_iff {l : List D} {vs : List V} (h : ValsR G φ H l vs) : vs = [] ↔ l = [] := by
  have := h.length
  cases l <;> cases vs <;> simp_all
theorem two60 {j : Int} (h : j.natAbs < 2 ^ 60) : -(2 ^ 63) ≤ j ∧ j < 2 ^ 63 := by omega

theorem op_add_ok : OpR X (binaryOp .Add) (rG2 G fr E (binop .add)) := OpR.imp fun x y H Q ⟨φ, m, d, e, s, rd, re, p⟩ => by
  simp only [binop] at p
  split at p
  · rename_i i j h1
    cases vint rd; cases vint re
    exact ⟨_, op_add, i, j, rfl, rfl, p.here s _ rint⟩
  · rename_i i j h1
    cases vint rd; cases vbl re
    exact ⟨_, op_add_ib, i, j, rfl, rfl, p.here s _ (by cases j <;> exact rint)⟩
  · rename_i i j h1
    cases vstr rd; cases vstr re
    split at p
    · exact ⟨_, op_add_str, i, j, rfl, rfl, sizeLim (by assumption), p.here s _ rstr⟩
    · exact p.elim
  · rename_i i j h1
    obtain ⟨a, vs, rfl, hs, hl⟩ := vtup rd
    obtain ⟨b, us, rfl, ht, hr⟩ := vtup re
    split at p
    · rename_i hle
      refine ⟨_, op_catA, a, b, vs, us, rfl, rfl, SqT.of hs, SqT.of ht, by rw [hl.length, hr.length]; exact sizeLim hle, fun hz => ?_, fun _ hz => ?_, fun _ _ q hq => fin_tup s p hq (hl.append hr)⟩
      · refine p.here s _ ?_
        rw [(emp_iff hl).mp hz]
        exact rtup ht hr
      · refine p.here s _ ?_
        rw [(emp_iff hr).mp hz, List.append_nil]
        exact rtup hs hl
    · exact p.elim
  · rename_i i j h1
    obtain ⟨a, rfl, ha⟩ := vref rd
    obtain ⟨b, rfl, hb⟩ := vref re
    split at p
    · rename_i l1 l2 e1 e2
      split at p
      · obtain ⟨vs, h3, hl⟩ := at_lst s ha e1
        obtain ⟨us, h4, hr⟩ := at_lst s hb e2
        exact ⟨_, op_cat, a, b, vs, us, rfl, rfl, h3, h4, by rw [hl.length, hr.length]; exact sizeLim (by assumption), fun q hq => fin_lst s p hq (hl.append hr)⟩
      · exact p.elim
    · exact p.elim
  all_goals first | exact p.elim | (exfalso; simp_all)
theorem op_mul_ok : OpR X (binaryOp .Mult) (rG2 G fr E (binop .mul)) := OpR.imp fun x y H Q ⟨φ, m, d, e, s, rd, re, p⟩ => by
  simp only [binop] at p
  split at p
  any_goals (exfalso; simp_all; done)
  · rename_i i j h1
    cases vint rd; cases vint re
    split at p
    · rename_i h
      exact ⟨_, op_mul, i, j, rfl, rfl, (by rcases h with h | h; exact .inl (by omega); exact .inr (by omega)), p.here s _ rint⟩
    · exact p.elim
  · rename_i l j h1
    obtain ⟨a, vs, rfl, hs, hl⟩ := vtup rd
    cases vint re
    split at p
    · rename_i h
      have hne : vs ≠ [] := fun z => by
        have := (emp_iff hl).mp z
        rw [this] at h
        exact absurd h.1 (by simp)
      exact ⟨_, op_repT, a, j, vs, rfl, rfl, SqT.of hs, hne, h.2.1, h.2.2.1, by rw [hl.length]; exact h.2.2.2, fun q hq => fin_tup s p hq (hl.flatRep _)⟩
    · exact p.elim
  · rename_i i j h1
    obtain ⟨a, rfl, ha⟩ := vref rd
    cases vint re
    split at p
    · rename_i l e1
      split at p
      · rename_i h
        obtain ⟨vs, h3, hl⟩ := at_lst s ha e1
        exact ⟨_, op_rep, a, j, vs, rfl, rfl, h3, (two60 h.2).1, (two60 h.2).2, by rw [hl.length]; exact sizeLim h.1, fun q hq => fin_lst s p hq (hl.flatRep _)⟩
      · exact p.elim
    · exact p.elim
  · exact p.elim
theorem big_bits {i : Int} (h : i.natAbs < big) {j : Int} (h0 : 0 ≤ j) (h1 : j ≤ 100000) : CShl i j := by
  have e : j = (j.toNat : Int) := by omega
  rw [e]
  exact shl_ok (n := 100000) h (by omega)
theorem op_bin_ok (o : Bin) : OpR X (binaryOp (opB o)) (rG2 G fr E (binop o)) := by
  cases o with
  | add => exact op_add_ok
  | mul => exact op_mul_ok
  | sub =>
    refine OpR.imp fun x y H Q ⟨φ, m, d, e, s, rd, re, p⟩ => ?_
    simp only [binop] at p
    split at p
    any_goals (exfalso; simp_all; done)
    · rename_i i j _
      cases vint rd; cases vint re
      exact ⟨_, op_sub, i, j, rfl, rfl, p.here s _ rint⟩
    · exact p.elim
  | mod =>
    refine OpR.imp fun x y H Q ⟨φ, m, d, e, s, rd, re, p⟩ => ?_
    simp only [binop] at p
    split at p
    any_goals (exfalso; simp_all; done)
    · rename_i i j _
      cases vint rd; cases vint re
      split at p
      · exact ⟨_, op_mod, i, j, rfl, rfl, by assumption, p.here s _ rint⟩
      · exact p.elim
    · exact p.elim
  | fdiv =>
    refine OpR.imp fun x y H Q ⟨φ, m, d, e, s, rd, re, p⟩ => ?_
    simp only [binop] at p
    split at p
    any_goals (exfalso; simp_all; done)
    · rename_i i j _
      cases vint rd; cases vint re
      split at p
      · exact ⟨_, op_fdiv, i, j, rfl, rfl, by assumption, p.here s _ rint⟩
      · exact p.elim
    · exact p.elim
  | pow =>
    refine OpR.imp fun x y H Q ⟨φ, m, d, e, s, rd, re, p⟩ => ?_
    simp only [binop] at p
    split at p
    any_goals (exfalso; simp_all; done)
    · rename_i i j _
      cases vint rd; cases vint re
      split at p
      · exact ⟨_, op_pow, i, j, rfl, rfl, by assumption, p.here s _ rint⟩
      · exact p.elim
    · exact p.elim
  | band =>
    refine OpR.imp fun x y H Q ⟨φ, m, d, e, s, rd, re, p⟩ => ?_
    simp only [binop] at p
    split at p
    any_goals (exfalso; simp_all; done)
    · rename_i i j _
      cases vint rd; cases vint re
      exact ⟨_, op_and, i, j, rfl, rfl, p.here s _ rint⟩
    · exact p.elim
  | bor =>
    refine OpR.imp fun x y H Q ⟨φ, m, d, e, s, rd, re, p⟩ => ?_
    simp only [binop] at p
    split at p
    any_goals (exfalso; simp_all; done)
    · rename_i i j _
      cases vint rd; cases vint re
      exact ⟨_, op_or, i, j, rfl, rfl, p.here s _ rint⟩
    · exact p.elim
  | bxor =>
    refine OpR.imp fun x y H Q ⟨φ, m, d, e, s, rd, re, p⟩ => ?_
    simp only [binop] at p
    split at p
    any_goals (exfalso; simp_all; done)
    · rename_i i j _
      cases vint rd; cases vint re
      exact ⟨_, op_xor, i, j, rfl, rfl, p.here s _ rint⟩
    · exact p.elim
  | shl =>
    refine OpR.imp fun x y H Q ⟨φ, m, d, e, s, rd, re, p⟩ => ?_
    simp only [binop] at p
    split at p
    any_goals (exfalso; simp_all; done)
    · rename_i i j _
      cases vint rd; cases vint re
      split at p
      · rename_i h
        exact ⟨_, op_shlW, i, j, rfl, rfl, big_bits h.2.2 h.1 h.2.1, p.here s _ rint⟩
      · exact p.elim
    · exact p.elim
  | shr =>
    refine OpR.imp fun x y H Q ⟨φ, m, d, e, s, rd, re, p⟩ => ?_
    simp only [binop] at p
    split at p
    any_goals (exfalso; simp_all; done)
    · rename_i i j _
      cases vint rd; cases vint re
      split at p
      · exact ⟨_, op_shr, i, j, rfl, rfl, by assumption, p.here s _ rint⟩
      · exact p.elim
    · exact p.elim
end
section
variable {G : Top} {C : Cl} {fr : Fr} {W : WX} {X : Cx} {n : Nat} {a b c : Expr} {pos : Pos} {a' b' c' : Ms.E}
/-- two values, then an operation on them -/
theorem two_ok {f : D → D → Mem → R D} {g : Ms.E} {F : Value → Value → Sem Value} (hg : ev G.P C fr g = fun ρ m => (ev G.P C fr a' ρ m).bind fun x m => (ev G.P C fr b' ρ m).bind fun y m => f x y m)
    {σ : L2.St} {H : Hp} {Q : VK} (h : tE G C fr W g σ H Q) : tOp (rG2 G fr (EX G W σ) f) (tE G C fr W a') (tE G C fr W b') σ H Q := by
  unfold tE at h
  rw [hg] at h
  refine h.go fun φ H1 x m ρ s r p v rv => ?_
  refine ⟨φ, m, ρ, s, r, p.bind.mono (fun φ1 H2 y m1 e s1 p1 u ru => ?_) fun _ _ _ _ _ _ _ q => q⟩
  exact ⟨φ1, m1, x, y, s1, rv.ext e s.clean, ru, p1⟩
theorem PE.at {e : Expr} {t : L2.St → TE} (h : ∀ σ₀, PE X e (t σ₀)) : PE X e (fun σ H Q => t σ σ H Q) := ⟨fun pins s σ H Q I q => (h σ).run pins s σ H Q I q⟩
theorem s_bin {o : Bin} (ha : PE X a (tE G C fr W a')) (hb : PE X b (tE G C fr W b')) : PE X (.BinOp a (opB o) b pos) (tE G C fr W (.bin o a' b')) := by
  refine PE.imp (PE.at fun σ₀ => pe_op (op_bin_ok (G := G) (fr := fr) (E := EX G W σ₀) o) ha hb) fun σ H Q h => ?_
  exact two_ok (f := binop o) (F := fun _ _ => pure .none) (by funext ρ m; simp only [ev]) h
theorem s_neg (ha : PE X a (tE G C fr W a')) : PE X (.UnaryOp .USub a pos) (tE G C fr W (.neg a')) := by
  refine PE.imp (pe_un un_neg ha) fun σ H Q h => ?_
  have h : tG G fr W (fun ρ m => (ev G.P C fr a' ρ m).bind fun x m => match x with | .int i => .ok (D.int (-i)) m | _ => .bad) (KD G) σ H Q := by
    obtain ⟨φ, m, ρ, s, r, p⟩ := h
    exact ⟨φ, m, ρ, s, r, by simp only [ev] at p; exact p⟩
  refine h.go fun φ H1 x m ρ s r p v rv => ?_
  split at p
  · cases vint rv
    exact ⟨_, rfl, p.here s _ rint⟩
  · exact p.elim
theorem s_inv (ha : PE X a (tE G C fr W a')) : PE X (.UnaryOp .Invert a pos) (tE G C fr W (.inv a')) := by
  refine PE.imp (pe_un un_inv ha) fun σ H Q h => ?_
  have h : tG G fr W (fun ρ m => (ev G.P C fr a' ρ m).bind fun x m => match x with | .int i => .ok (D.int (Builtin.bitNot i)) m | _ => .bad) (KD G) σ H Q := by
    obtain ⟨φ, m, ρ, s, r, p⟩ := h
    exact ⟨φ, m, ρ, s, r, by simp only [ev] at p; exact p⟩
  refine h.go fun φ H1 x m ρ s r p v rv => ?_
  split at p
  · cases vint rv
    exact ⟨_, rfl, p.here s _ rint⟩
  · exact p.elim
theorem s_ite (hc : PT X c (tT G C fr W c')) (ha : PE X a (tE G C fr W a')) (hb : PE X b (tE G C fr W b')) : PE X (.IfExp c a b pos) (tE G C fr W (.ite c' a' b')) := by
  refine PE.imp (pe_ifExp hc ha hb) fun σ H Q h => ?_
  have h : tG G fr W (fun ρ m => (evb G.P C fr c' ρ m).bind fun t m => if t then ev G.P C fr a' ρ m else ev G.P C fr b' ρ m) (KD G) σ H Q := by
    obtain ⟨φ, m, ρ, s, r, p⟩ := h
    refine ⟨φ, m, ρ, s, r, ?_⟩
    simp only [ev] at p
    show Post G φ fr H (R.bind (R.bind _ _) _) _ _
    rw [R.bind_assoc]
    exact p
  refine h.go fun φ H1 t m ρ s r p => ?_
  cases t with
  | true => exact ⟨φ, m, ρ, s, r, p⟩
  | false => exact ⟨φ, m, ρ, s, r, p⟩
end
end Ms

-- So3
set_option linter.all false
set_option Elab.async false
set_option maxRecDepth 10000
/-! Data, comparisons, `in`. -/
namespace Ms
open PySem L2 PySem.Spec PyProof.Rows

theorem mapM_cons_some {α β : Type} {f : α → Option β} {a : α} {l : List α} {r : List β} (h : (a :: l).mapM f = some r) : ∃ b bs, r = b :: bs ∧ f a = some b ∧ l.mapM f = some bs := by
  rw [List.mapM_cons] at h
  cases e : f a with
  | none => rw [e] at h; cases h
  | some b =>
    rw [e] at h
    cases e2 : l.mapM f with
    | none =>
      rw [e2] at h
      cases h
    | some bs =>
      rw [e2] at h
      cases h
      exact ⟨b, bs, rfl, rfl, rfl⟩
section
variable {G : Top} {C : Cl} {fr : Fr} {W : WX} {X : Cx} {n : Nat} {σ : L2.St} {H : Hp} {E : KX} {φ : List Gh} {m : Mem} {K : PySem.W.Frag}
theorem datas_ok {n : Nat} (ih : ∀ (d : D) (v : V) (pd : PyData), ValR G φ H d v → data m n d = some pd → Dp K H v pd ∧ pd.canLay0 = true ∧ pd.depth ≤ n) :
    ∀ (l : List D) (vs : List V) (ds : List PyData), ValsR G φ H l vs → l.mapM (data m n) = some ds → DpAll K H vs ds ∧ PyData.canLayAll0 ds = true ∧ PyData.depthAll ds ≤ n
  | [], vs, ds, h, e => by
    simp only [ValsR] at h
    subst h
    cases e
    exact ⟨.nil, rfl, Nat.zero_le _⟩
  | d :: l, vs, ds, h, e => by
    simp only [ValsR] at h
    obtain ⟨v, r, rfl, h1, h2⟩ := h
    obtain ⟨b, bs, rfl, e1, e2⟩ := mapM_cons_some e
    obtain ⟨a1, a2, a3⟩ := ih d v b h1 e1
    obtain ⟨b1, b2, b3⟩ := datas_ok ih l r bs h2 e2
    refine ⟨.cons a1 b1, ?_, ?_⟩
    · simp only [PyData.canLayAll0, a2, b2, Bool.and_self]
    · simp only [PyData.depthAll]
      exact Nat.max_le.mpr ⟨a3, b3⟩
theorem data_ok (s : SR G φ fr H m) : ∀ (n : Nat) (d : D) (v : V) (pd : PyData), ValR G φ H d v → data m n d = some pd → Dp K H v pd ∧ pd.canLay0 = true ∧ pd.depth ≤ n
  | n, .non, v, pd, r, h => by cases vnon r; simp only [data] at h; cases h; exact ⟨.non, rfl, Nat.zero_le _⟩
  | n, .bl b, v, pd, r, h => by cases vbl r; simp only [data] at h; cases h; exact ⟨.bl b, rfl, Nat.zero_le _⟩
  | n, .int i, v, pd, r, h => by cases vint r; simp only [data] at h; cases h; exact ⟨.int i, rfl, Nat.zero_le _⟩
  | n, .str x, v, pd, r, h => by
    cases vstr r
    simp only [data] at h
    split at h
    · cases h
      exact ⟨.str x, by assumption, Nat.zero_le _⟩
    · cases h
  | 0, .tup l, v, pd, r, h => by simp only [data] at h; cases h
  | n + 1, .tup l, v, pd, r, h => by
    obtain ⟨a, vs, rfl, h1, h2⟩ := vtup r
    simp only [data] at h
    obtain ⟨ds, e, rfl⟩ := Option.map_eq_some_iff.mp h
    obtain ⟨b1, b2, b3⟩ := datas_ok (data_ok s n) l vs ds h2 e
    exact ⟨.tup (SqT.of h1) b1, b2, Nat.succ_le_succ b3⟩
  | 0, .ref i, v, pd, r, h => by simp only [data] at h; cases h
  | n + 1, .ref i, v, pd, r, h => by
    obtain ⟨a, rfl, hi⟩ := vref r
    simp only [data] at h
    split at h
    · rename_i l hm
      obtain ⟨vs, h1, h2⟩ := at_lst s hi hm
      obtain ⟨ds, e, rfl⟩ := Option.map_eq_some_iff.mp h
      obtain ⟨b1, b2, b3⟩ := datas_ok (data_ok s n) l vs ds h2 e
      exact ⟨.lst (SqL.of h1) b1, b2, Nat.succ_le_succ b3⟩
    · cases h
  | n, .rng _ _, v, pd, r, h => by simp only [data] at h; cases h
  | n, .fn _, v, pd, r, h => by simp only [data] at h; cases h
  | n, .cls _, v, pd, r, h => by simp only [data] at h; cases h
  | n, .ty _, v, pd, r, h => by simp only [data] at h; cases h
  | n, .clo _ _, v, pd, r, h => by simp only [data] at h; cases h
  | n, .exn _ _, v, pd, r, h => by simp only [data] at h; cases h
theorem shaped_ok {pd : PyData} (h1 : pd.canLay0 = true) (h2 : pd.depth ≤ 20) : SeqAt.shaped pd = true := by
  unfold SeqAt.shaped
  rw [h1, Bool.true_and]
  exact decide_eq_true (Nat.le_trans h2 (by decide))
theorem hu64 (hr : Room n X.A) : X.A.units + 64 < cLine := hr.units
theorem hu65 (hr : Room n X.A) : X.A.units + 65 < cLine := by have := hr.un; omega
theorem hu1 (hr : Room n X.A) : X.A.units + 1 < cLine := by have := hr.un; omega

/-- x in t, x not in t, t a tuple -/
def rInTD (K : PySem.W.Frag) (neg : Bool) : R2 := fun x y H Q => ∃ d ds, Dp K H x d ∧ Dp K H y (.tuple ds) ∧ SeqAt.shaped d = true ∧ PyData.canLayAll0 ds = true ∧ Q (.bl (neg ^^ ds.any fun z => PyData.eqv z d)) H
theorem op_inTD (hr : Room n X.A) : OpR X (compareOp .In) (rInTD X.K false) := by
  intro pins s σ H x y v u Q I rx ry h
  obtain ⟨d, ds, hd, he, sd, se, q⟩ := h
  obtain ⟨as, r1⟩ := Dp.reads I d x v hd rx
  obtain ⟨bs, r2⟩ := Dp.reads I (.tuple ds) y u he ry
  exact SeqAt.in_tuple_reads r2 r1 se (SeqAt.canLay_of_shaped sd) (room_in_shaped sd (hu65 hr)) ⟨.bl _, H, I, rfl, by simpa using q⟩
theorem op_notInTD (hr : Room n X.A) : OpR X (compareOp .NotIn) (rInTD X.K true) := by
  intro pins s σ H x y v u Q I rx ry h
  obtain ⟨d, ds, hd, he, sd, se, q⟩ := h
  obtain ⟨as, r1⟩ := Dp.reads I d x v hd rx
  obtain ⟨bs, r2⟩ := Dp.reads I (.tuple ds) y u he ry
  exact SeqAt.notIn_tuple_reads r2 r1 se (SeqAt.canLay_of_shaped sd) (room_in_shaped sd (hu65 hr)) ⟨.bl _, H, I, rfl, by simpa using q⟩
/-- k in d, a dict -/
def rDIn2 (f : Bool → Bool) : R2 := fun x y H Q => ∃ a o, y = .ref a ∧ DGet H a x o ∧ Q (.bl (f o.isSome)) H
theorem op_inDk (hr : Room n X.A) : OpR X (compareOp .In) (rDIn2 id) := by
  intro pins s σ H x y v u Q I rx ry h
  obtain ⟨a, o, rfl, g, q⟩ := h
  cases (show u = Value.ref a from ry)
  exact d_in (hu1 hr) I g rx fun s' I' => ⟨.bl o.isSome, H, I', rfl, q⟩
theorem op_notInDk (hr : Room n X.A) : OpR X (compareOp .NotIn) (rDIn2 not) := by
  intro pins s σ H x y v u Q I rx ry h
  obtain ⟨a, o, rfl, g, q⟩ := h
  cases (show u = Value.ref a from ry)
  exact d_notIn (hu1 hr) I g rx fun s' I' => ⟨.bl (!o.isSome), H, I', rfl, q⟩
/-- d[k] -/
def rIxD : R2 := fun x y H Q => ∃ a v, x = .ref a ∧ DGet H a y (some v) ∧ Q v H
theorem ix_dict (hr : Room n X.A) : IxR X rIxD := by
  intro value slice pins s σ H x y v u Q I rx ry h hs
  obtain ⟨a, z, rfl, g, q⟩ := h
  cases (show v = Value.ref a from rx)
  exact tail_any (dict_typeIs I g) PySem.F.slot_dict_getitem.lookup (d_getItem (hu1 hr) I g ry fun w' s3 I3 rw' => ⟨z, H, I3, rw', q⟩) hs
/-- is, is not of True and False -/
def rIsBl (neg : Bool) : R2 := fun x y H Q => ∃ c, y = .bl c ∧ Q (.bl (neg ^^ decide (x = .bl c))) H
theorem op_isAny (neg : Bool) : OpR X (compareOp (if neg then .IsNot else .Is)) (rIsBl neg) := by
  intro pins s σ H x y v u Q I rx ry h
  obtain ⟨c, rfl, q⟩ := h
  cases (show u = Value.bool c from ry)
  have hp : plainIs v (.bool c) = true := by
    cases x with
    | non => cases rx; rfl
    | bl _ => cases rx; rfl
    | int _ => obtain ⟨t, rfl⟩ := rx; rfl
    | str _ => obtain ⟨t, rfl⟩ := rx; rfl
    | byt _ => obtain ⟨t, rfl⟩ := rx; rfl
    | flt _ => obtain ⟨t, rfl⟩ := rx; rfl
    | ref _ => cases rx; rfl
    | ty _ => cases rx; rfl
  have he : (v == Value.bool c) = decide (x = .bl c) := by
    cases x with
    | non => cases rx; rfl
    | bl d =>
      cases rx
      cases d <;> cases c <;> rfl
    | int _ => obtain ⟨t, rfl⟩ := rx; rfl
    | str _ => obtain ⟨t, rfl⟩ := rx; rfl
    | byt _ => obtain ⟨t, rfl⟩ := rx; rfl
    | flt _ => obtain ⟨t, rfl⟩ := rx; rfl
    | ref _ => cases rx; rfl
    | ty _ => cases rx; rfl
  cases neg with
  | true => exact wpAny_isNot_plain hp ⟨.bl _, H, I, by rw [he]; rfl, by simpa using q⟩
  | false => exact wpAny_is_plain hp ⟨.bl _, H, I, by rw [he]; rfl, by simpa using q⟩

/-! ### dicts by keys -/
theorem keyV_R {d : D} {v : V} {k : Key} (h : keyV d = some k) (r : ValR G φ H d v) : v = kV k := by
  cases d with
  | int i => cases h; exact vint r
  | str x => cases h; exact vstr r
  | non => cases h
  | bl b => cases h
  | tup l => cases h
  | ref i => cases h
  | rng a b => cases h
  | fn k => cases h
  | cls c => cases h
  | ty n => cases h
  | clo k i => cases h
  | exn c l => cases h
theorem keysV_R : ∀ {l : List D} {vs : List V} {ks : List Key}, l.mapM keyV = some ks → ValsR G φ H l vs → vs = ks.map kV
  | [], vs, ks, h, r => by
    simp only [ValsR] at r
    cases h
    exact r
  | d :: l, vs, ks, h, r => by
    simp only [ValsR] at r
    obtain ⟨v, s, rfl, r1, r2⟩ := r
    obtain ⟨b, bs, rfl, e1, e2⟩ := mapM_cons_some h
    rw [List.map_cons, keyV_R e1 r1, keysV_R e2 r2]
theorem kvR_get {κ : Type} [DecidableEq κ] {f : D → Option κ} {k : D} {k' : κ} (hk : f k = some k') : ∀ {l : List (D × D)} {kvs : List (κ × V)}, KvR G φ H f l kvs →
    match (l.find? fun p => decide (f p.1 = f k)).map (·.2), valV kvs k' with
    | some d, some v => ValR G φ H d v
    | none, none => True
    | _, _ => False
  | [], kvs, h => by
    cases h
    trivial
  | (q, d) :: l, kvs, h => by
    obtain ⟨q', v, s, rfl, h1, h2, h3⟩ := h
    by_cases e : q' = k'
    · have e1 : decide (f q = f k) = true := decide_eq_true (by rw [h1, hk, e])
      rw [List.find?_cons_of_pos (by simpa using e1), valV_pos e]
      exact h2
    · have e1 : ¬ (decide (f q = f k) = true) := by
        rw [h1, hk]
        simp [e]
      rw [List.find?_cons_of_neg (by simpa using e1), valV_neg e]
      exact kvR_get hk h3
/-- what a dict of the memory tells of a key -/
theorem dget_ok {t : Nat} {l : List (D × D)} {k : D} {i : Nat} {a : Addr} {v : V} (s : SR G φ fr H m) (hi : φ[i]? = some (.adr a)) (hm : m[i]? = some (.dct t l)) (hk : isKey t k = true) (r : ValR G φ H k v) :
    ∃ o, DGet H a v o ∧ match dget t l k, o with
      | some d, some u => ValR G φ H d u
      | none, none => True
      | _, _ => False := by
  have ho := s.at_ hi hm
  have rd : ∀ {u : HO}, HdR (fr.lk.contains i) H a u → Rd H a u := fun {u} h => by
    cases e : fr.lk.contains i with
    | true =>
      rw [e] at h
      obtain ⟨ob, h⟩ := h
      exact .inr ⟨ob, h⟩
    | false =>
      rw [e] at h
      exact .inl h
  match t, ho with
  | 0, ⟨kvs, h1, h2⟩ =>
    obtain ⟨k', hk'⟩ := Option.isSome_iff_exists.mp (show (keyV k).isSome = true from hk)
    have ev := keyV_R hk' r
    exact ⟨valV kvs k', .inl ⟨kvs, k', rd h1, ev, rfl⟩, kvR_get hk' h2⟩
  | 1, ⟨kvs, h1, h2⟩ =>
    obtain ⟨k', hk'⟩ := Option.isSome_iff_exists.mp (show (keysV k).isSome = true from hk)
    cases k with
    | tup ks =>
      obtain ⟨b, vs, rfl, hb, hvs⟩ := vtup r
      have ev := keysV_R hk' hvs
      exact ⟨valV kvs k', .inr ⟨kvs, k', b, rd h1, rfl, by rw [hb, ev], rfl⟩, kvR_get hk' h2⟩
    | int i => cases hk'
    | str x => cases hk'
    | non => cases hk'
    | bl b => cases hk'
    | ref i => cases hk'
    | rng a b => cases hk'
    | fn k => cases hk'
    | cls c => cases hk'
    | ty n => cases hk'
    | clo k i => cases hk'
    | exn c l => cases hk'

/-! ### comparisons by values -/
theorem op_cmp_ok (hr : Room n X.A) (o : Cmp) : OpR X (compareOp (opC o)) (rG2 G fr E (cmpop o)) := by
  have isin : ∀ (f : Bool → Bool) (op : CmpOp), ((f = id ∧ op = .In) ∨ (f = not ∧ op = .NotIn)) → OpR X (compareOp op) (rG2 G fr E (fun a b m => cmpop.inop a b m f)) := fun f op hf => by
    refine OpR.imp fun x y H Q ⟨φ, m, d, e, s, rd, re, p⟩ => ?_
    simp only [cmpop.inop] at p
    split at p
    · rename_i l
      obtain ⟨c, hc, p⟩ := p.opt
      obtain ⟨c', hc', rfl⟩ := Option.map_eq_some_iff.mp hc
      simp only [inL] at hc'
      split at hc'
      · rename_i pd ds e1 e2
        cases hc'
        obtain ⟨a1, a2, a3⟩ := data_ok (K := X.K) s 20 d x pd rd e1
        obtain ⟨a, vs, rfl, h1, h2⟩ := vtup re
        obtain ⟨b1, b2, b3⟩ := datas_ok (data_ok (K := X.K) s 20) l vs ds h2 e2
        have sh := shaped_ok a2 a3
        rcases hf with ⟨rfl, rfl⟩ | ⟨rfl, rfl⟩
        · exact ⟨_, op_inTD hr, pd, ds, a1, .tup (SqT.of h1) b1, sh, b2, by simpa using p.here s _ rbl⟩
        · exact ⟨_, op_notInTD hr, pd, ds, a1, .tup (SqT.of h1) b1, sh, b2, by simpa using p.here s _ rbl⟩
      · cases hc'
    · split at p
      · cases vstr rd; cases vstr re
        rcases hf with ⟨rfl, rfl⟩ | ⟨rfl, rfl⟩
        · exact ⟨_, op_in_str, _, _, rfl, rfl, p.here s _ rbl⟩
        · exact ⟨_, op_notin_str, _, _, rfl, rfl, p.here s _ rbl⟩
      · exact p.elim
    · rename_i i
      obtain ⟨a, rfl, hi⟩ := vref re
      split at p
      · rename_i l hm
        obtain ⟨c, hc, p⟩ := p.opt
        obtain ⟨c', hc', rfl⟩ := Option.map_eq_some_iff.mp hc
        simp only [inL] at hc'
        split at hc'
        · rename_i pd ds e1 e2
          cases hc'
          obtain ⟨a1, a2, a3⟩ := data_ok (K := X.K) s 20 d x pd rd e1
          obtain ⟨vs, h1, h2⟩ := at_lst s hi hm
          obtain ⟨b1, b2, b3⟩ := datas_ok (data_ok (K := X.K) s 20) l vs ds h2 e2
          have sh := shaped_ok a2 a3
          have sh2 : SeqAt.shaped (.list ds) = true := by
            unfold SeqAt.shaped
            simp only [PyData.canLay0, b2, Bool.true_and]
            exact decide_eq_true (Nat.le_trans (Nat.succ_le_succ b3) (by decide))
          rcases hf with ⟨rfl, rfl⟩ | ⟨rfl, rfl⟩
          · exact ⟨_, op_inD (hu65 hr), pd, ds, a1, .lst (SqL.of h1) b1, sh, sh2, p.here s _ rbl⟩
          · exact ⟨_, op_notInD (hu65 hr), pd, ds, a1, .lst (SqL.of h1) b1, sh, sh2, p.here s _ rbl⟩
        · cases hc'
      · rename_i t l hm
        split at p
        · rename_i hk
          obtain ⟨o, g, hg⟩ := dget_ok s hi hm hk rd
          have eo : o.isSome = (dget t l d).isSome := by
            cases e1 : dget t l d <;> cases o <;> rw [e1] at hg <;> first | rfl | exact hg.elim
          rcases hf with ⟨rfl, rfl⟩ | ⟨rfl, rfl⟩
          · exact ⟨_, op_inDk hr, a, o, rfl, g, by rw [eo]; exact p.here s _ rbl⟩
          · exact ⟨_, op_notInDk hr, a, o, rfl, g, by rw [eo]; exact p.here s _ rbl⟩
        · exact p.elim
      · exact p.elim
    · exact p.elim
  have ord : ∀ (f : Int → Int → Bool) (op : CmpOp) (g : D → D → Mem → R D), (∀ a b m, g a b m = ordI f a b m) → OpR X (compareOp op) (rI0 fun i j => .bl (f i j)) → OpR X (compareOp op) (rG2 G fr E g) := fun f op g hg ho => by
    refine OpR.imp fun x y H Q ⟨φ, m, d, e, s, rd, re, p⟩ => ?_
    rw [hg] at p
    simp only [ordI] at p
    split at p
    · rename_i i j
      cases vint rd; cases vint re
      exact ⟨_, ho, i, j, rfl, rfl, p.here s _ rbl⟩
    · exact p.elim
  cases o with
  | eq =>
    refine OpR.imp fun x y H Q ⟨φ, m, d, e, s, rd, re, p⟩ => ?_
    simp only [cmpop] at p
    obtain ⟨c, hc, p⟩ := p.opt
    obtain ⟨c', hc', rfl⟩ := Option.map_eq_some_iff.mp hc
    simp only [eqD] at hc'
    split at hc'
    · rename_i x1 y1 e1 e2
      cases hc'
      obtain ⟨a1, a2, a3⟩ := data_ok (K := X.K) s 20 d x x1 rd e1
      obtain ⟨b1, b2, b3⟩ := data_ok (K := X.K) s 20 e y y1 re e2
      exact ⟨_, op_eqD hr.units, x1, y1, a1, b1, shaped_ok a2 a3, shaped_ok b2 b3, p.here s _ rbl⟩
    · cases hc'
  | ne =>
    refine OpR.imp fun x y H Q ⟨φ, m, d, e, s, rd, re, p⟩ => ?_
    simp only [cmpop] at p
    obtain ⟨c, hc, p⟩ := p.opt
    obtain ⟨c', hc', rfl⟩ := Option.map_eq_some_iff.mp hc
    simp only [eqD] at hc'
    split at hc'
    · rename_i x1 y1 e1 e2
      cases hc'
      obtain ⟨a1, a2, a3⟩ := data_ok (K := X.K) s 20 d x x1 rd e1
      obtain ⟨b1, b2, b3⟩ := data_ok (K := X.K) s 20 e y y1 re e2
      exact ⟨_, op_neD hr.units, x1, y1, a1, b1, shaped_ok a2 a3, shaped_ok b2 b3, p.here s _ rbl⟩
    · cases hc'
  | lt => exact ord (fun i j => decide (i < j)) .Lt _ (fun a b m => rfl) op_lt
  | le => exact ord (fun i j => decide (i ≤ j)) .LtE _ (fun a b m => rfl) op_le
  | gt => exact ord (fun i j => decide (j < i)) .Gt _ (fun a b m => rfl) op_gt
  | ge => exact ord (fun i j => decide (j ≤ i)) .GtE _ (fun a b m => rfl) op_ge
  | is =>
    refine OpR.imp fun x y H Q ⟨φ, m, d, e, s, rd, re, p⟩ => ?_
    simp only [cmpop] at p
    split at p
    · cases vnon re
      refine ⟨_, op_isN, rfl, ?_⟩
      have q := p.here s _ rbl
      have e1 : decide (x = V.non) = isN d := by
        cases d with
        | non => cases vnon rd; rfl
        | bl b => cases vbl rd; rfl
        | int i => cases vint rd; rfl
        | str i => cases vstr rd; rfl
        | tup l => obtain ⟨a, vs, rfl, _⟩ := vtup rd; rfl
        | ref i => obtain ⟨a, rfl, _⟩ := vref rd; rfl
        | rng a b => simp only [ValR] at rd; obtain ⟨a, rfl, _⟩ := rd; rfl
        | fn k => simp only [ValR] at rd; obtain ⟨a, rfl, _⟩ := rd; rfl
        | cls k => simp only [ValR] at rd; obtain ⟨a, rfl, _⟩ := rd; rfl
        | ty n => simp only [ValR] at rd; subst rd; rfl
        | clo k i => simp only [ValR] at rd; obtain ⟨f, _, _, _, _, _, _, rfl, _⟩ := rd; rfl
        | exn c l => simp only [ValR] at rd
      rw [e1]
      exact q
    · rename_i c
      cases vbl re
      refine ⟨_, op_isAny false, c, rfl, ?_⟩
      have q := p.here s _ rbl
      have e1 : (false ^^ decide (x = V.bl c)) = isB c d := by
        cases d with
        | non => cases vnon rd; rfl
        | bl b => cases vbl rd; cases b <;> cases c <;> rfl
        | int i => cases vint rd; rfl
        | str i => cases vstr rd; rfl
        | tup l => obtain ⟨a, vs, rfl, _⟩ := vtup rd; rfl
        | ref i => obtain ⟨a, rfl, _⟩ := vref rd; rfl
        | rng a b => simp only [ValR] at rd; obtain ⟨a, rfl, _⟩ := rd; rfl
        | fn k => simp only [ValR] at rd; obtain ⟨a, rfl, _⟩ := rd; rfl
        | cls k => simp only [ValR] at rd; obtain ⟨a, rfl, _⟩ := rd; rfl
        | ty n => simp only [ValR] at rd; subst rd; rfl
        | clo k i => simp only [ValR] at rd; obtain ⟨f, _, _, _, _, _, _, rfl, _⟩ := rd; rfl
        | exn c l => simp only [ValR] at rd
      rw [e1]
      exact q
    · exact p.elim
  | isNot =>
    refine OpR.imp fun x y H Q ⟨φ, m, d, e, s, rd, re, p⟩ => ?_
    simp only [cmpop] at p
    split at p
    · cases vnon re
      refine ⟨_, op_notN, rfl, ?_⟩
      have q := p.here s _ rbl
      have e1 : decide (x = V.non) = isN d := by
        cases d with
        | non => cases vnon rd; rfl
        | bl b => cases vbl rd; rfl
        | int i => cases vint rd; rfl
        | str i => cases vstr rd; rfl
        | tup l => obtain ⟨a, vs, rfl, _⟩ := vtup rd; rfl
        | ref i => obtain ⟨a, rfl, _⟩ := vref rd; rfl
        | rng a b => simp only [ValR] at rd; obtain ⟨a, rfl, _⟩ := rd; rfl
        | fn k => simp only [ValR] at rd; obtain ⟨a, rfl, _⟩ := rd; rfl
        | cls k => simp only [ValR] at rd; obtain ⟨a, rfl, _⟩ := rd; rfl
        | ty n => simp only [ValR] at rd; subst rd; rfl
        | clo k i => simp only [ValR] at rd; obtain ⟨f, _, _, _, _, _, _, rfl, _⟩ := rd; rfl
        | exn c l => simp only [ValR] at rd
      rw [e1]
      exact q
    · rename_i c
      cases vbl re
      refine ⟨_, op_isAny true, c, rfl, ?_⟩
      have q := p.here s _ rbl
      have e1 : (true ^^ decide (x = V.bl c)) = !(isB c d) := by
        cases d with
        | non => cases vnon rd; rfl
        | bl b => cases vbl rd; cases b <;> cases c <;> rfl
        | int i => cases vint rd; rfl
        | str i => cases vstr rd; rfl
        | tup l => obtain ⟨a, vs, rfl, _⟩ := vtup rd; rfl
        | ref i => obtain ⟨a, rfl, _⟩ := vref rd; rfl
        | rng a b => simp only [ValR] at rd; obtain ⟨a, rfl, _⟩ := rd; rfl
        | fn k => simp only [ValR] at rd; obtain ⟨a, rfl, _⟩ := rd; rfl
        | cls k => simp only [ValR] at rd; obtain ⟨a, rfl, _⟩ := rd; rfl
        | ty n => simp only [ValR] at rd; subst rd; rfl
        | clo k i => simp only [ValR] at rd; obtain ⟨f, _, _, _, _, _, _, rfl, _⟩ := rd; rfl
        | exn c l => simp only [ValR] at rd
      rw [e1]
      exact q
    · exact p.elim
  | isIn =>
    have h := isin id .In (.inl ⟨rfl, rfl⟩)
    exact h
  | notIn =>
    have h := isin not .NotIn (.inr ⟨rfl, rfl⟩)
    exact h
end
end Ms

-- So4
set_option linter.all false
set_option Elab.async false
set_option maxRecDepth 10000
/-! Calls: what stands behind the top, calls by value. -/
namespace Ms
open PySem L2 PySem.Spec PyProof.Rows

def KE1 (G : Top) (E : XK) : KX := fun φ' H' c l _ => ∀ cls dd, ExcR G φ' H' c l cls dd → E cls dd H'
/-- what a def promises: just what the machine does -/
def spD (G : Top) (n : Nat) (to : To) : Sp := fun vs H Q E => ∃ φ fr m ds, SR G φ fr H m ∧ ValsR G φ H ds vs ∧ Post G φ fr H (callN G.P n fr to ds m) (KD G Q) (KE1 G E)
/-- the facts of the program's top that the machine's calls lean on -/
structure GO (G : Top) (P : Program) (w : World) (K : PySem.W.Frag) (mg : Str → Option Value) (base : Heap) (n : Nat) : Prop where
  fn : ∀ (j k : Nat) (a : Addr), j ≤ n → G.df k = some a → ∃ fd ps, FnOk P w K mg base (L2.CX P w) (j + 1) a fd ps (spD G j (.df k)) ∧ Binds K fd ps [] ∧ (∀ i : Nat, Binds K fd ps (((G.dv k).drop i).map (·.2))) ∧ ∀ p ∈ G.dv k, RelV p.1 p.2
  kpf : ∀ (k : Nat) (a : Addr), G.df k = some a → PySem.W.keepIn K (.ref a) = true
  mks : ∀ (c : Nat) (C : Addr) (kk : Ms.Cls), G.cl c = some C → G.P.clss[c]? = some kk → ∃ f, G.df kk.init = some f ∧ Mk K C f
  cls : ∀ (c : Nat) (C : Addr), G.cl c = some C → L2.Cls K C
  eqm : ∀ (c : Nat) (C : Addr) (kk : Ms.Cls) (e : Nat), G.cl c = some C → G.P.clss[c]? = some kk → kk.eq = some e → ∃ f, G.df e = some f ∧ PySem.W.findIn K (.ref C) "__eq__" = some (some (.ref f)) ∧ PySem.W.isFn K (.ref f) = true ∧
    PySem.W.findIn K (.ref C) "__ne__" = some (some (.builtin "object.__ne__")) ∧ PySem.W.subIn K (.ref C) (.type "object") = some true
  sub : ∀ (c : Nat) (C : Addr) (c' : Nat) (C' : Addr), G.cl c = some C → G.cl c' = some C' → PySem.W.kitOne K (.ref C) (.ref C') = some (c == c') ∧ (C = C' ∨ PySem.W.subIn K (.ref C) (.ref C') = some false)
  fld : ∀ (c : Nat) (C : Addr) (f : Str), G.cl c = some C → (G.P.clss[c]?).any (fun k => k.flds.contains f) = true → NoAttr K C f
  subT : ∀ (c : Nat) (C : Addr) (T : String), G.cl c = some C → T ∈ ["int", "bool", "str", "list", "tuple", "dict"] → PySem.W.kitOne K (.ref C) (.type T) = some false
  subC : ∀ (c : Nat) (C : Addr) (T : String), G.cl c = some C → T ∈ ["NoneType", "int", "bool", "str", "list", "tuple", "dict"] → PySem.W.kitOne K (.type T) (.ref C) = some false
  ins : ∀ (c : Nat) (C : Addr), G.cl c = some C → PySem.W.findIn K (.ref C) "__class__" = some (some (.builtin "object.__class__")) ∧ PySem.W.specialIn K (.builtin "object.__class__") "__get__" = some (some (.builtin "getset_descriptor.__get__")) ∧
    PySem.W.takesIn K (.builtin "object.__class__") = some true ∧ PySem.W.mroIn K C (.type "object") = some true

section
variable {G : Top} {C : Cl} {fr : Fr} {W : WX} {X : Cx} {n : Nat} {σ : L2.St} {H : Hp} {E : KX} {φ : List Gh} {m : Mem}
/-- a call of the thing at a, by values -/
def CaR (X : Cx) (σ : L2.St) (a : Addr) (r : List V → Hp → VK → Prop) : Prop :=
  ∀ (pins : List (Addr × Obj)) (s : Shared) (H : Hp) (vs : List V) (us : List Value) (Q : VK), Inv X pins σ H s → Vals vs us → r vs H Q → wpAny (model X.prog X.w) X.A (call (.ref a) us) (EP X pins σ Q) X.xe s
theorem car_df {k : Nat} {a : Addr} (go : GO G X.prog X.w X.K X.mg X.base n) (xo : XO G X n W) (h : G.df k = some a) : CaR X σ a (fun vs H Q => spD G n (.df k) vs H Q (WE W σ)) := fun pins s H vs us Q I r q => by
  obtain ⟨fd, ps, F, b, _⟩ := go.fn n k a (Nat.le_refl _) h
  exact run_fnS (E := WE W) F xo.room b (passAt xo.tk σ) I r q
/-- an object of an own class is made -/
theorem car_ct {c : Nat} {C : Addr} (go : GO G X.prog X.w X.K X.mg X.base n) (xo : XO G X n W) (h : G.cl c = some C) : CaR X σ C (fun vs H Q => spD G n (.ct c) vs H Q (WE W σ)) := fun pins s H vs us Q I r q => by
  obtain ⟨φ, fr, m, ds, sr, vr, p⟩ := q
  cases n with
  | zero => exact p.elim
  | succ n =>
    simp only [callN] at p
    cases e : G.P.clss[c]? with
    | none => rw [e] at p; exact p.elim
    | some kk =>
      rw [e] at p
      obtain ⟨f, hf, M⟩ := go.mks c C kk h e
      obtain ⟨fd, ps, F, b, _⟩ := go.fn n kk.init f (Nat.le_succ _) hf
      have f1 : H (s.heap.objs.size + 1) = none := I.hok.fresh (Nat.le_succ _)
      have f0 : H s.heap.objs.size = none := I.hok.fresh (Nat.le_refl _)
      have I2 := Inv.made (C := C) I
      generalize hH2 : upd (upd H s.heap.objs.size (.own (s.heap.objs.size + 1))) (s.heap.objs.size + 1) (.ins C s.heap.objs.size []) = H2 at I2
      have same : ∀ a o, H a = some o → H2 a = some o := fun a o e => by
        rw [← hH2, upd_ne (ne_of_none e f1), upd_ne (ne_of_none e f0)]
        exact e
      have at1 : H2 (s.heap.objs.size + 1) = some (.ins C s.heap.objs.size []) := by rw [← hH2, upd_same]
      have ex : Ext φ H (φ ++ [.adr (s.heap.objs.size + 1)]) H2 := ext_new same f1
      have sr2 : SR G (φ ++ [.adr (s.heap.objs.size + 1)]) fr H2 (m ++ [.ins c []]) := sr.new same f1 ⟨C, _, [], h, at1, rfl, fun p hp => nomatch hp⟩
      have vr2 : ValsR G (φ ++ [.adr (s.heap.objs.size + 1)]) H2 (.ref m.length :: ds) (.ref (s.heap.objs.size + 1) :: vs) := .cons (rref (by rw [← sr.len]; simp)) (vr.ext ex sr.clean)
      have hq : spD G n (.df kk.init) (.ref (s.heap.objs.size + 1) :: vs) H2 (fun v H' => v = .non ∧ Q (.ref (s.heap.objs.size + 1)) H') (WE W σ) := by
        refine ⟨_, fr, _, _, sr2, vr2, ?_⟩
        refine (p.ext ex).bind.mono (fun φ' H' d m' e1 s1 p1 v rv => ?_) fun _ _ _ _ _ _ _ h => h
        cases d with
        | non => exact ⟨vnon rv, p1.here s1 _ (rref (e1.pre _ _ (by rw [← sr.len]; simp)))⟩
        | bl _ => exact p1.elim
        | int _ => exact p1.elim
        | str _ => exact p1.elim
        | tup _ => exact p1.elim
        | ref _ => exact p1.elim
        | rng _ _ => exact p1.elim
        | fn _ => exact p1.elim
        | cls _ => exact p1.elim
        | ty _ => exact p1.elim
        | clo _ _ => exact p1.elim
        | exn _ _ => exact p1.elim
      have hl := F.len _ _ _ _ hq
      have r2 : Vals (V.ref (s.heap.objs.size + 1) :: vs) (Value.ref (s.heap.objs.size + 1) :: us) := .cons rfl r
      have bb := b { s with heap := (s.heap.push { cls := .type "dict", data := .dict #[] }).push (PySem.W.instObj C s.heap.objs.size) } (Value.ref (s.heap.objs.size + 1) :: us) I2.kIn (by rw [List.append_nil, ← r2.length]; exact hl)
      rw [List.append_nil] at bb
      refine wpAny_call (make_map (f := f) I.kIn M.makes M.init (beq_iff_eq.mp M.fn) (codeAny_mono (F.run _ X.stack _ _ _ _ _ _ (WE W σ) (xo.room.make C us []) (I2.env0.make C us []) bb r2 hq) fun z s' hz => ?_))
      cases z with
      | error e => exact passAt xo.tk σ pins _ _ e s' I2 hz
      | ok fl =>
        cases fl with
        | ret u =>
          obtain ⟨v, H', I3, rv, ev, q3⟩ := I2.after hz
          subst ev
          exact ⟨rv, ⟨V.ref (s.heap.objs.size + 1), H', I3, rfl, q3⟩⟩
        | next => exact False.elim hz
        | brk => exact False.elim hz
        | cont => exact False.elim hz
end
end Ms

-- So5
set_option linter.all false
set_option Elab.async false
set_option maxRecDepth 10000
/-! Argument lists, calls, displays, attributes, subscripts. -/
namespace Ms
open PySem L2 PySem.Spec PyProof.Rows

/-- no star among them -/
def NoStar (e : Expr) : Prop := ∀ v p, e ≠ .Starred v p
def noStarB : Expr → Bool
  | .Starred _ _ => false
  | _ => true
theorem noStar_of {e : Expr} (h : noStarB e = true) : NoStar e := fun v p z => by
  subst z
  cases h
section
variable {G : Top} {C : Cl} {fr : Fr} {W : WX} {X : Cx} {n : Nat} {σ : L2.St} {H : Hp} {φ : List Gh} {m : Mem}
theorem starEach_cons {e : Expr} {es : List Expr} {env : PySem.Env} (h : NoStar e) : starEach (e :: es) env = (false, eval e env) :: starEach es env := by
  cases e <;> first | rfl | exact absurd rfl (h _ _)
theorem star_plain {env : PySem.Env} {pos : Pos} : ∀ {es : List Expr}, (∀ e ∈ es, NoStar e) → (backTo pos (starEach es env)).any (·.1) = false
  | [], _ => rfl
  | e :: es, h => by
    rw [starEach_cons (h e List.mem_cons_self)]
    show (false || (backTo pos (starEach es env)).any (·.1)) = false
    rw [star_plain fun x hx => h x (List.mem_cons_of_mem _ hx)]
    rfl
theorem sa_nil : PA X [] (tA G C fr W []) := PA.imp pa_nil fun σ H Q ⟨φ, m, ρ, s, r, p⟩ => by
  simp only [evs] at p
  exact p.here s [] .nil
theorem sa_cons {e : Expr} {es : List Expr} {e' : E} {l : List E} (h : NoStar e) (ha : PE X e (tE G C fr W e')) (hr : PA X es (tA G C fr W l)) : PA X (e :: es) (tA G C fr W (e' :: l)) := by
  refine PA.imp (pa_cons ha hr (starEach_cons h)) fun σ H Q h => ?_
  have h : tG G fr W (fun ρ m => (ev G.P C fr e' ρ m).bind fun x m => (evs G.P C fr l ρ m).bind fun xs m => .ok (x :: xs) m) (KDs G) σ H Q := by
    obtain ⟨φ, m, ρ, s, r, p⟩ := h
    exact ⟨φ, m, ρ, s, r, by simp only [evs] at p; exact p⟩
  refine h.go fun φ H1 x m ρ s r p v rv => ?_
  refine ⟨φ, m, ρ, s, r, p.bind.mono (fun φ1 H2 ds m1 e s1 p1 vs rs => ?_) fun _ _ _ _ _ _ _ q => q⟩
  exact p1.here s1 _ (.cons (rv.ext e s.clean) rs)
/-- an evaluation of a list of arguments, then something on the values -/
theorem args_go {l : List E} {g : Ev D} {f : List D → Mem → R D} (hg : g = fun ρ m => (evs G.P C fr l ρ m).bind fun ds m => f ds m) {Q : VK} {Q' : List V → Hp → Prop} (h : tG G fr W g (KD G) σ H Q)
    (w : ∀ φ H ds m vs, SR G φ fr H m → ValsR G φ H ds vs → Post G φ fr H (f ds m) (KD G Q) (EX G W σ) → Q' vs H) : tA G C fr W l σ H Q' := by
  subst hg
  exact h.go fun φ H1 ds m ρ s r p vs rs => w φ H1 ds m vs s rs p

/-! ### calls -/
theorem pe_gcall {a : Addr} {x : Str} {p pos : Pos} {es : List Expr} {t : TA} {r : L2.St → List V → Hp → VK → Prop} (hca : ∀ σ, CaR X σ a (r σ)) (hk : PySem.W.keepIn X.K (.ref a) = true) (hg : Gl X x) (hm : X.mg x = some (.ref a)) (hdb : (x == ("__debug__" : Str)) = false)
    (hst : ∀ e ∈ es, NoStar e) (ha : PA X es t) : PE X (.Call (.Name x p) es [] pos) (fun σ H Q => t σ H fun vs H1 => r σ vs H1 Q) := by
  refine ⟨fun pins s σ H Q I h => ?_⟩
  refine wpAny_Call_Name_kw (ld_glob I hg hm ?_ hdb)
  have run := ha.run pos pins s σ H _ I h
  cases es with
  | nil =>
    have e : spliced (backTo pos (starEach [] X.env)) = (pure [] : Sem (List Value)) := rfl
    rw [e] at run
    intro Γ p0 hΓ
    obtain ⟨vs, H1, I1, rv, q⟩ := (show ∃ vs H1, Inv X pins σ H1 s ∧ Vals vs [] ∧ r σ vs H1 Q from run Γ p0 hΓ)
    exact PySem.W.callWith_K0 (first := []) I.kIn hk (hca σ pins s H1 vs [] Q I1 rv q) Γ p0 hΓ
  | cons e es =>
    refine PySem.W.callWith_K (h₀ := X.base) I.ok.mod.kin hk (thn run fun us s1 ⟨vs, H1, I1, rv, q⟩ => ⟨I1.kIn, ?_⟩) (starEach_cons (hst e List.mem_cons_self)) (star_plain fun x hx => hst x (List.mem_cons_of_mem _ hx))
    exact hca σ pins s1 H1 vs us Q I1 rv q
theorem vals_dv {l : List (V × Value)} (h : ∀ p ∈ l, RelV p.1 p.2) : Vals (l.map (·.1)) (l.map (·.2)) := by
  induction l with
  | nil => exact .nil
  | cons p l ih => exact .cons (h p List.mem_cons_self) (ih fun q hq => h q (List.mem_cons_of_mem _ hq))
/-- the last parameters by their defaults -/
theorem car_dfD {k : Nat} {a : Addr} (i : Nat) (go : GO G X.prog X.w X.K X.mg X.base n) (xo : XO G X n W) (h : G.df k = some a) : CaR X σ a (fun vs H Q => spD G n (.df k) (vs ++ ((G.dv k).drop i).map (·.1)) H Q (WE W σ)) := fun pins s H vs us Q I r q => by
  obtain ⟨fd, ps, F, _, b, hd⟩ := go.fn n k a (Nat.le_refl _) h
  exact run_fnSD (E := WE W) F xo.room (b i) (vals_dv fun p hp => hd p (List.mem_of_mem_drop hp)) (passAt xo.tk σ) I r q
theorem s_call {k : Nat} {a : Addr} {x : Str} {p pos : Pos} {es : List Expr} {l : List E} (go : GO G X.prog X.w X.K X.mg X.base n) (xo : XO G X n W) (h : G.df k = some a) (hg : Gl X x) (hm : X.mg x = some (.ref a)) (hdb : (x == ("__debug__" : Str)) = false)
    (hst : ∀ e ∈ es, NoStar e) (ha : PA X es (tA G (callN G.P n) fr W l)) : PE X (.Call (.Name x p) es [] pos) (tE G (callN G.P n) fr W (.call k l)) := by
  refine PE.imp (pe_gcall (fun σ => car_df go xo h) (go.kpf k a h) hg hm hdb hst ha) fun σ H Q q => ?_
  refine args_go (f := fun ds m => callN G.P n fr (.df k) ds m) (by funext ρ m; simp only [ev]) q fun φ H1 ds m vs s rs p => ?_
  exact ⟨φ, fr, m, ds, s, rs, p⟩
theorem evs_cst {P : Prog} : ∀ {ds : List D} {ρ : Env} {m : Mem}, evs P C fr (ds.map .cst) ρ m = .ok ds m
  | [], ρ, m => by rw [List.map_nil, evs]
  | d :: ds, ρ, m => by
    rw [List.map_cons, evs]
    simp only [ev, R.bind]
    rw [evs_cst]
theorem evs_app {P : Prog} {ds : List D} : ∀ {l : List E} {ρ : Env} {m : Mem}, evs P C fr (l ++ ds.map .cst) ρ m = (evs P C fr l ρ m).bind fun xs m => .ok (xs ++ ds) m
  | [], ρ, m => by rw [List.nil_append, evs_cst, evs]; rfl
  | e :: l, ρ, m => by
    rw [List.cons_append, evs, evs, R.bind_assoc]
    congr 1
    funext x m1
    rw [evs_app, R.bind_assoc, R.bind_assoc]
    rfl
theorem s_callD {k : Nat} {a : Addr} {x : Str} {p pos : Pos} {es : List Expr} {l : List E} {ds : List D} {i : Nat} (go : GO G X.prog X.w X.K X.mg X.base n) (xo : XO G X n W) (h : G.df k = some a) (hg : Gl X x) (hm : X.mg x = some (.ref a)) (hdb : (x == ("__debug__" : Str)) = false)
    (hd : ∀ φ H, ValsR G φ H ds (((G.dv k).drop i).map (·.1))) (hst : ∀ e ∈ es, NoStar e) (ha : PA X es (tA G (callN G.P n) fr W l)) : PE X (.Call (.Name x p) es [] pos) (tE G (callN G.P n) fr W (.call k (l ++ ds.map .cst))) := by
  refine PE.imp (pe_gcall (fun σ => car_dfD i go xo h) (go.kpf k a h) hg hm hdb hst ha) fun σ H Q q => ?_
  refine args_go (f := fun xs m => callN G.P n fr (.df k) (xs ++ ds) m) (by funext ρ m; simp only [ev]; rw [evs_app, R.bind_assoc]; rfl) q fun φ H1 xs m vs s rs p => ?_
  exact ⟨φ, fr, m, xs ++ ds, s, rs.append (hd φ H1), p⟩
theorem s_mk {c : Nat} {a : Addr} {x : Str} {p pos : Pos} {es : List Expr} {l : List E} (go : GO G X.prog X.w X.K X.mg X.base n) (xo : XO G X n W) (h : G.cl c = some a) (hc : (G.P.clss[c]?).isSome = true) (hg : Gl X x) (hm : X.mg x = some (.ref a)) (hdb : (x == ("__debug__" : Str)) = false)
    (hst : ∀ e ∈ es, NoStar e) (ha : PA X es (tA G (callN G.P n) fr W l)) : PE X (.Call (.Name x p) es [] pos) (tE G (callN G.P n) fr W (.mk c l)) := by
  obtain ⟨kk, hkk⟩ := Option.isSome_iff_exists.mp hc
  obtain ⟨f, _, M⟩ := go.mks c a kk h hkk
  refine PE.imp (pe_gcall (fun σ => car_ct go xo h) M.kp hg hm hdb hst ha) fun σ H Q q => ?_
  refine args_go (f := fun ds m => callN G.P n fr (.ct c) ds m) (by funext ρ m; simp only [ev]) q fun φ H1 ds m vs s rs p => ?_
  exact ⟨φ, fr, m, ds, s, rs, p⟩

/-! ### built-ins by name -/
theorem CallR.imp {X : Cx} {f : Value} {r' : List V → Hp → VK → Prop} (h : ∀ vs H Q, r' vs H Q → ∃ r, CallR X f r ∧ r vs H Q) : CallR X f r' := fun pins s σ H vs us Q I rv q => by
  obtain ⟨r, hr, q⟩ := h vs H Q q
  exact hr pins s σ H vs us Q I rv q
def rGs (G : Top) (fr : Fr) (f : List D → Mem → R D) : List V → Hp → VK → Prop := fun vs H Q => ∃ φ m ds E, SR G φ fr H m ∧ ValsR G φ H ds vs ∧ Post G φ fr H (f ds m) (KD G Q) E
def bltV : Bl → Value
  | .len => .builtin "len" | .abs => .builtin "abs" | .int => .type "int" | .tuple => .type "tuple" | .list => .type "list" | .max => .builtin "max" | .min => .builtin "min" | .sum => .builtin "sum"
  | .all => .builtin "all" | .any => .builtin "any" | .str => .type "str" | .divmod => .builtin "divmod" | .sorted => .builtin "sorted" | .range => .type "range" | .zip => .type "zip"
theorem vals_one {ds : D} {vs : List V} (h : ValsR G φ H [ds] vs) : ∃ v, vs = [v] ∧ ValR G φ H ds v := by
  simp only [ValsR] at h
  obtain ⟨v, r, rfl, h1, rfl⟩ := h
  exact ⟨v, rfl, h1⟩
theorem vals_two {d e : D} {vs : List V} (h : ValsR G φ H [d, e] vs) : ∃ v u, vs = [v, u] ∧ ValR G φ H d v ∧ ValR G φ H e u := by
  simp only [ValsR] at h
  obtain ⟨v, r, rfl, h1, u, r2, rfl, h2, rfl⟩ := h
  exact ⟨v, u, rfl, h1, h2⟩
theorem intsOf_R : ∀ {l : List D} {ns : List Int} {vs : List V}, intsOf l = some ns → ValsR G φ H l vs → vs = ns.map V.int ∧ l = ns.map .int
  | [], ns, vs, h, r => by
    simp only [ValsR] at r
    cases h
    exact ⟨r, rfl⟩
  | d :: l, ns, vs, h, r => by
    simp only [ValsR] at r
    obtain ⟨v, s, rfl, r1, r2⟩ := r
    obtain ⟨b, bs, rfl, e1, e2⟩ := mapM_cons_some h
    obtain ⟨a1, a2⟩ := intsOf_R (l := l) e2 r2
    cases d <;> simp at e1
    subst e1
    cases vint r1
    rw [a1, a2]
    exact ⟨rfl, rfl⟩
theorem bools_R : ∀ {l : List D} {ns : List Bool} {vs : List V}, bools l = some ns → ValsR G φ H l vs → vs = ns.map V.bl
  | [], ns, vs, h, r => by
    simp only [ValsR] at r
    cases h
    exact r
  | d :: l, ns, vs, h, r => by
    simp only [ValsR] at r
    obtain ⟨v, s, rfl, r1, r2⟩ := r
    obtain ⟨b, bs, rfl, e1, e2⟩ := mapM_cons_some h
    have a1 := bools_R (l := l) e2 r2
    cases d <;> simp at e1
    subst e1
    cases vbl r1
    rw [a1]
    rfl
theorem ints_in {d : D} {ns : List Int} {v : V} {K : PySem.W.Frag} (s : SR G φ fr H m) (h : intsIn m d = some ns) (r : ValR G φ H d v) : ∃ a, v = .ref a ∧ SqL K H a (ns.map V.int) := by
  cases d with
  | ref i =>
    obtain ⟨a, rfl, hi⟩ := vref r
    simp only [intsIn] at h
    split at h
    · rename_i l hm
      obtain ⟨vs, h1, h2⟩ := at_lst s hi hm
      obtain ⟨e, _⟩ := intsOf_R h h2
      exact ⟨a, rfl, SqL.of (e ▸ h1)⟩
    · cases h
  | _ => cases h
theorem bools_in {d : D} {ns : List Bool} {v : V} {K : PySem.W.Frag} (s : SR G φ fr H m) (h : boolsIn m d = some ns) (r : ValR G φ H d v) : ∃ a, v = .ref a ∧ SqL K H a (ns.map V.bl) := by
  cases d with
  | ref i =>
    obtain ⟨a, rfl, hi⟩ := vref r
    simp only [boolsIn] at h
    split at h
    · rename_i l hm
      obtain ⟨vs, h1, h2⟩ := at_lst s hi hm
      exact ⟨a, rfl, SqL.of (bools_R h h2 ▸ h1)⟩
    · cases h
  | _ => cases h
theorem insI_perm (x : Int) : ∀ l : List Int, (insI x l).Perm (x :: l)
  | [] => .refl _
  | y :: r => by
    simp only [insI]
    split
    · exact .refl _
    · exact ((insI_perm x r).cons y).trans (.swap x y r)
theorem sortI_perm : ∀ l : List Int, (sortI l).Perm l
  | [] => .refl _
  | x :: r => (insI_perm x (sortI r)).trans ((sortI_perm r).cons x)
theorem insI_sorted (x : Int) : ∀ {l : List Int}, l.Pairwise (· ≤ ·) → (insI x l).Pairwise (· ≤ ·)
  | [], _ => by simp [insI]
  | y :: r, h => by
    simp only [insI]
    have h' := List.pairwise_cons.mp h
    split
    · rename_i hxy
      refine List.pairwise_cons.mpr ⟨fun z hz => ?_, h⟩
      rcases List.mem_cons.mp hz with rfl | hz
      · exact hxy
      · exact Int.le_trans hxy (h'.1 z hz)
    · rename_i hxy
      refine List.pairwise_cons.mpr ⟨fun z hz => ?_, insI_sorted x h'.2⟩
      rcases List.mem_cons.mp ((insI_perm x r).mem_iff.mp hz) with rfl | hz
      · omega
      · exact h'.1 z hz
theorem sortI_sorted : ∀ l : List Int, (sortI l).Pairwise (· ≤ ·)
  | [] => .nil
  | x :: r => insI_sorted x (sortI_sorted r)
/-- two sorted lists of the same ints are one -/
theorem sorted_one {a b : List Int} (h : a.Perm b) (ha : a.Pairwise (· ≤ ·)) (hb : b.Pairwise (· ≤ ·)) : a = b := h.eq_of_pairwise (fun x y _ _ h1 h2 => Int.le_antisymm h1 h2) ha hb
theorem foldl_max (i : Int) : ∀ (r : List Int), (r.foldl max i ∈ i :: r) ∧ ∀ y ∈ i :: r, y ≤ r.foldl max i
  | [] => by simp
  | j :: r => by
    have h := foldl_max (max i j) r
    rw [List.foldl_cons]
    refine ⟨?_, fun y hy => ?_⟩
    · rcases List.mem_cons.mp h.1 with e | e
      · rcases Int.le_total i j with q | q
        · rw [e, Int.max_eq_right q]; simp
        · rw [e, Int.max_eq_left q]; simp
      · exact List.mem_cons_of_mem _ (List.mem_cons_of_mem _ e)
    · have hm := h.2 (max i j) List.mem_cons_self
      rcases List.mem_cons.mp hy with rfl | hy
      · exact Int.le_trans (Int.le_max_left _ _) hm
      · rcases List.mem_cons.mp hy with rfl | hy
        · exact Int.le_trans (Int.le_max_right _ _) hm
        · exact h.2 y (List.mem_cons_of_mem _ hy)
theorem foldl_min (i : Int) : ∀ (r : List Int), (r.foldl min i ∈ i :: r) ∧ ∀ y ∈ i :: r, r.foldl min i ≤ y
  | [] => by simp
  | j :: r => by
    have h := foldl_min (min i j) r
    rw [List.foldl_cons]
    refine ⟨?_, fun y hy => ?_⟩
    · rcases List.mem_cons.mp h.1 with e | e
      · rcases Int.le_total i j with q | q
        · rw [e, Int.min_eq_left q]; simp
        · rw [e, Int.min_eq_right q]; simp
      · exact List.mem_cons_of_mem _ (List.mem_cons_of_mem _ e)
    · have hm := h.2 (min i j) List.mem_cons_self
      rcases List.mem_cons.mp hy with rfl | hy
      · exact Int.le_trans hm (Int.min_le_left _ _)
      · rcases List.mem_cons.mp hy with rfl | hy
        · exact Int.le_trans hm (Int.min_le_right _ _)
        · exact h.2 y (List.mem_cons_of_mem _ hy)
theorem kv_len {κ : Type} {f : D → Option κ} : ∀ {l : List (D × D)} {kvs : List (κ × V)}, KvR G φ H f l kvs → kvs.length = l.length
  | [], _, h => by cases h; rfl
  | (k, d) :: l, _, h => by
    obtain ⟨k', v, s, rfl, _, _, h3⟩ := h
    rw [List.length_cons, List.length_cons, kv_len h3]
theorem HdR.rd {b : Bool} {a : Addr} {u : HO} (h : HdR b H a u) : Rd H a u := by
  cases b with
  | true =>
    obtain ⟨ob, h⟩ := h
    exact .inr ⟨ob, h⟩
  | false => exact .inl h
theorem call_len_T2 : CallR X (.builtin "len") (fun xs H Q => ∃ (p : Addr) (kvs : List (List Key × V)), xs = [.ref p] ∧ Rd H p (.dT kvs) ∧ Q (.int ((kvs.length : Nat) : Int)) H) := by
  intro pins s σ H xs us Q I r h
  obtain ⟨p, kvs, rfl, hp, q⟩ := h
  obtain ⟨u, rfl, rx⟩ := vals1 r
  cases (show u = Value.ref p from rx)
  obtain ⟨z, hd, ys, rel, dd⟩ := dt_rd I.hok hp
  have hl : kvs.length = ys.length := Paired.length rel
  have hz := sizeLine_eq
  refine call_len_dictH hd dd (by omega) ?_
  rw [← hl]
  exact ⟨.int ((kvs.length : Nat) : Int), H, I.tok _, ⟨_, rfl⟩, q⟩
theorem call_len_K2 : CallR X (.builtin "len") (fun xs H Q => ∃ a kvs, xs = [V.ref a] ∧ Rd H a (.dK kvs) ∧ Q (.int kvs.length) H) := by
  intro pins s σ H xs us Q I r h
  obtain ⟨a, kvs, rfl, ha, q⟩ := h
  obtain ⟨u, rfl, ru⟩ := vals1 r
  cases (show u = Value.ref a from ru)
  exact d_len I ha fun t s' I' => ⟨.int kvs.length, H, I', ⟨t, rfl⟩, q⟩
theorem call_rng1 : CallR X (.type "range") (fun vs H Q => ∃ j, vs = [V.int j] ∧ ∀ p, H p = none → Q (.ref p) (upd H p (.rng 0 j))) := by
  intro pins s σ H vs us Q I r h
  obtain ⟨j, rfl, q⟩ := h
  obtain ⟨u, rfl, r1⟩ := vals1 r
  obtain ⟨t, rfl⟩ := r1
  refine call_range_1 ⟨.ref s.heap.objs.size, upd H s.heap.objs.size (.rng 0 j), I.laid (fun b o e => Heap.get?_push_of_some _ e) (Nat.le_refl _) ?_, rfl, q _ (I.hok.fresh (Nat.le_refl _))⟩
  exact ⟨_, _, _, Heap.get?_push_size _ rfl⟩
theorem ints_R : ∀ l : List Int, ValsR G φ H (l.map .int) (l.map V.int)
  | [] => .nil
  | _ :: r => .cons rint (ints_R r)
theorem blt_ok (hc : X.calm = true) (f : Bl) : CallR X (bltV f) (rGs G fr (bltin f)) := by
  refine CallR.imp fun vs H Q h => ?_
  obtain ⟨φ, m, ds, E, s, rs, p⟩ := h
  unfold bltin at p
  split at p
  · -- len
    rename_i d
    obtain ⟨v, rfl, r⟩ := vals_one rs
    split at p
    · cases vstr r
      split at p
      · exact ⟨_, call_len_str, _, rfl, sizeLim (by assumption), p.here s _ rint⟩
      · exact p.elim
    · rename_i i
      obtain ⟨a, rfl, hi⟩ := vref r
      split at p
      · rename_i l hm
        obtain ⟨vs, h1, h2⟩ := at_lst s hi hm
        exact ⟨_, call_len_seq, a, vs, rfl, .inl (SqL.of h1), by rw [h2.length]; exact p.here s _ rint⟩
      · rename_i t l hm
        have ho := s.at_ hi hm
        match t, ho with
        | 0, ⟨kvs, h1, h2⟩ => exact ⟨_, call_len_K2, a, kvs, rfl, h1.rd, by rw [kv_len h2]; exact p.here s _ rint⟩
        | 1, ⟨kvs, h1, h2⟩ => exact ⟨_, call_len_T2, a, kvs, rfl, h1.rd, by rw [kv_len h2]; exact p.here s _ rint⟩
      · exact p.elim
    · obtain ⟨a, vs, rfl, h1, h2⟩ := vtup r
      exact ⟨_, call_len_seq, a, vs, rfl, .inr (SqT.of h1), by rw [h2.length]; exact p.here s _ rint⟩
    · exact p.elim
  · -- abs
    rename_i i
    obtain ⟨v, rfl, r⟩ := vals_one rs
    cases vint r
    refine ⟨_, call_abs, i, rfl, ?_⟩
    have e : (if i < 0 then -i else i) = (i.natAbs : Int) := by split <;> omega
    rw [e]
    exact p.here s _ rint
  · rename_i i
    obtain ⟨v, rfl, r⟩ := vals_one rs
    cases vint r
    exact ⟨_, call_int1, .inl ⟨i, rfl, p.here s _ rint⟩⟩
  · rename_i i
    obtain ⟨v, rfl, r⟩ := vals_one rs
    cases vbl r
    exact ⟨_, call_int1, .inr ⟨i, rfl, p.here s _ (by cases i <;> exact rint)⟩⟩
  · -- tuple
    rename_i d
    obtain ⟨v, rfl, r⟩ := vals_one rs
    obtain ⟨d', hd', p⟩ := p.opt
    obtain ⟨l, hl, rfl⟩ := Option.map_eq_some_iff.mp hd'
    have p2 : Post G φ fr H (.ok (.tup l) m) (KD G Q) E := p
    clear p
    have hl : items m d = some l := hl
    cases d with
    | tup l' =>
      cases hl
      obtain ⟨a, vs, rfl, h1, h2⟩ := vtup r
      exact ⟨_, call_tuple_of, a, vs, rfl, .inr ⟨SqT.of h1, p2.here s _ (rtup h1 h2)⟩⟩
    | ref i =>
      obtain ⟨a, rfl, hi⟩ := vref r
      have hl' : (match m[i]? with | some (.lst l) => some l | _ => none) = some l := hl
      split at hl'
      · rename_i l2 hm
        cases hl'
        obtain ⟨vs, h1, h2⟩ := at_lst s hi hm
        exact ⟨_, call_tuple_of, a, vs, rfl, .inl ⟨SqL.of h1, fun q hq => fin_tup s p2 hq h2⟩⟩
      · cases hl'
    | _ => cases hl
  · -- list
    rename_i d
    obtain ⟨v, rfl, r⟩ := vals_one rs
    split at p
    · rename_i l hl
      cases d with
      | tup l' =>
        cases hl
        obtain ⟨a, vs, rfl, h1, h2⟩ := vtup r
        exact ⟨_, call_list_of, a, vs, rfl, .inr (SqT.of h1), fun q hq => fin_lst s p hq h2⟩
      | ref i =>
        obtain ⟨a, rfl, hi⟩ := vref r
        simp only [items] at hl
        split at hl
        · rename_i l2 hm
          cases hl
          obtain ⟨vs, h1, h2⟩ := at_lst s hi hm
          exact ⟨_, call_list_of, a, vs, rfl, .inl (SqL.of h1), fun q hq => fin_lst s p hq h2⟩
        · cases hl
      | _ => cases hl
    · exact p.elim
  · -- max of two
    rename_i i j
    obtain ⟨v, u, rfl, r1, r2⟩ := vals_two rs
    cases vint r1; cases vint r2
    refine ⟨_, call_max2 hc, i, j, rfl, ?_⟩
    have e : (if j > i then j else i) = max i j := by split <;> omega
    rw [e]
    exact p.here s _ rint
  · rename_i i j
    obtain ⟨v, u, rfl, r1, r2⟩ := vals_two rs
    cases vint r1; cases vint r2
    refine ⟨_, call_min2 hc, i, j, rfl, ?_⟩
    have e : (if j < i then j else i) = min i j := by split <;> omega
    rw [e]
    exact p.here s _ rint
  · -- max of a list
    rename_i d
    obtain ⟨v, rfl, r⟩ := vals_one rs
    split at p
    · rename_i i l hl
      obtain ⟨a, rfl, h1⟩ := ints_in (K := X.K) s hl r
      refine ⟨_, cr_max hc, a, i :: l, rfl, h1, by simp, fun y hy hle => ?_⟩
      have f := foldl_max i l
      have e : y = l.foldl max i := Int.le_antisymm (f.2 y hy) (hle _ f.1)
      rw [e]
      exact p.here s _ rint
    · exact p.elim
  · rename_i d
    obtain ⟨v, rfl, r⟩ := vals_one rs
    split at p
    · rename_i i l hl
      obtain ⟨a, rfl, h1⟩ := ints_in (K := X.K) s hl r
      refine ⟨_, cr_min hc, a, i :: l, rfl, h1, by simp, fun y hy hle => ?_⟩
      have f := foldl_min i l
      have e : y = l.foldl min i := Int.le_antisymm (hle _ f.1) (f.2 y hy)
      rw [e]
      exact p.here s _ rint
    · exact p.elim
  · -- sum
    rename_i d
    obtain ⟨v, rfl, r⟩ := vals_one rs
    split at p
    · rename_i l hl
      obtain ⟨a, rfl, h1⟩ := ints_in (K := X.K) s hl r
      exact ⟨_, cr_sum hc, a, l, rfl, h1, p.here s _ rint⟩
    · exact p.elim
  · -- all
    rename_i d
    obtain ⟨v, rfl, r⟩ := vals_one rs
    split at p
    · rename_i l hl
      obtain ⟨a, rfl, h1⟩ := bools_in (K := X.K) s hl r
      exact ⟨_, cr_all hc, a, l, rfl, h1, p.here s _ rbl⟩
    · exact p.elim
  · rename_i d
    obtain ⟨v, rfl, r⟩ := vals_one rs
    split at p
    · rename_i l hl
      obtain ⟨a, rfl, h1⟩ := bools_in (K := X.K) s hl r
      exact ⟨_, cr_any hc, a, l, rfl, h1, p.here s _ rbl⟩
    · exact p.elim
  · -- divmod
    rename_i i j
    obtain ⟨v, u, rfl, r1, r2⟩ := vals_two rs
    cases vint r1; cases vint r2
    split at p
    · exact ⟨_, call_divmod, i, j, rfl, by assumption, fun q hq => fin_tup s p hq (.cons rint (.cons rint .nil))⟩
    · exact p.elim
  · -- sorted
    rename_i d
    obtain ⟨v, rfl, r⟩ := vals_one rs
    split at p
    · rename_i l hl
      obtain ⟨a, rfl, h1⟩ := ints_in (K := X.K) s hl r
      refine ⟨_, cr_sortedI, a, l, rfl, h1, fun ns' q hp hs hq => ?_⟩
      have e : ns' = sortI l := sorted_one (hp.trans (sortI_perm l).symm) hs (sortI_sorted l)
      subst e
      refine fin_lst s p hq ?_
      exact ints_R _
    · exact p.elim
  · -- range
    rename_i j
    obtain ⟨v, rfl, r⟩ := vals_one rs
    cases vint r
    split at p
    · refine ⟨_, call_rng1, j, rfl, fun q hq => ?_⟩
      have e : Ext φ H φ (upd H q (.rng 0 j)) := ext_same (same_new hq)
      refine p φ _ e (s.grow (same_new hq)) _ ?_
      simp only [ValR]
      exact ⟨q, rfl, upd_same⟩
    · exact p.elim
  · exact p.elim
theorem s_blt {f : Bl} {x : Str} {p pos : Pos} {e : Expr} {es : List Expr} {l : List E} (hc : X.calm = true) (hg : Gl X x) (hm : X.mg x = none) (hv : bootBuiltins x = some (bltV f)) (hn : x ≠ "__name__") (hdb : (x == ("__debug__" : Str)) = false)
    (hst : ∀ y ∈ e :: es, NoStar y) (ha : PA X (e :: es) (tA G C fr W l)) : PE X (.Call (.Name x p) (e :: es) [] pos) (tE G C fr W (.blt f l)) := by
  have he := starEach_cons (es := es) (env := X.env) (hst e List.mem_cons_self)
  have hpl := star_plain (env := X.env) (pos := pos) fun y (hy : y ∈ es) => hst y (List.mem_cons_of_mem _ hy)
  have key : ∀ (id : Value), bltV f = id → PE X (.Call (.Name x p) (e :: es) [] pos) (tCB (rGs G fr (bltin f)) (tA G C fr W l)) := fun id hid => by
    have hcr := blt_ok (G := G) (fr := fr) hc f
    rw [hid] at hcr hv
    cases f <;> simp only [bltV] at hid <;> subst hid <;> first
      | exact pe_callB hcr hg hm hv ha (hn := hn) (hdb := hdb) (he := he) (hpl := hpl)
      | exact pe_callTy hcr hg hm hv ha (hn := hn) (hdb := hdb) (he := he) (hpl := hpl)
  refine PE.imp (key _ rfl) fun σ H Q q => ?_
  refine args_go (f := fun ds m => bltin f ds m) (by funext ρ m; simp only [ev]) q fun φ H1 ds m vs s rs p => ?_
  exact ⟨φ, m, ds, _, s, rs, p⟩
end
end Ms

-- So6
set_option linter.all false
set_option Elab.async false
set_option maxRecDepth 10000
/-! isinstance, comparisons of own classes, chains, attributes, subscripts, displays. -/
namespace Ms
open PySem L2 PySem.Spec PyProof.Rows
abbrev tyNames : List String := ["NoneType", "int", "bool", "str", "list", "tuple", "dict"]
abbrev isNames : List String := ["int", "bool", "str", "list", "tuple", "dict"]
theorem kit_table {K : PySem.W.Frag} : ∀ a ∈ tyNames, ∀ b ∈ isNames, PySem.W.kitOne K (.type a) (.type b) = some (a == b || (a == "bool" && b == "int")) := by
  have h : ∀ a ∈ tyNames, ∀ b ∈ isNames, kitB a b = some (a == b || (a == "bool" && b == "int")) := by decide +kernel
  exact fun a ha b hb => kit_ty (h a ha b hb)
theorem sub_of_kit {K : PySem.W.Frag} {t : Value} {C : Addr} (h : PySem.W.kitOne K t (.ref C) = some false) : PySem.W.subIn K t (.ref C) = some false := by
  unfold PySem.W.kitOne at h
  split at h
  · cases h
  · unfold PySem.W.kitCls at h
    simp only at h
    split at h
    · exact h
    · cases h
section
variable {G : Top} {C : Cl} {fr : Fr} {W : WX} {X : Cx} {n : Nat} {σ : L2.St} {H : Hp} {φ : List Gh} {m : Mem}
/-- the type of a value -/
def TyR (G : Top) (K : PySem.W.Frag) (H : Hp) (v : V) : Ty → Prop
  | .ty a => a ∈ tyNames ∧ TyX K H v (.type a)
  | .cls c => ∃ C, G.cl c = some C ∧ TyX K H v (.ref C)
  | .exc _ => False
theorem ty_ok {d : D} {v : V} {u : Ty} (go : GO G X.prog X.w X.K X.mg X.base n) (s : SR G φ fr H m) (r : ValR G φ H d v) (h : tyv m d = some u) : TyR G X.K H v u := by
  cases d with
  | non => cases vnon r; cases h; exact ⟨by decide, .base .non⟩
  | bl b => cases vbl r; cases h; exact ⟨by decide, .base (.bl _)⟩
  | int b => cases vint r; cases h; exact ⟨by decide, .base (.int _)⟩
  | str b => cases vstr r; cases h; exact ⟨by decide, .base (.str _)⟩
  | tup l =>
    obtain ⟨a, vs, rfl, h1, h2⟩ := vtup r
    cases h
    exact ⟨by decide, .base (.tup h1)⟩
  | ref i =>
    obtain ⟨a, rfl, hi⟩ := vref r
    simp only [tyv] at h
    split at h
    · rename_i l hm
      cases h
      obtain ⟨vs, h1, h2⟩ := at_lst s hi hm
      exact ⟨by decide, .base (.lst h1)⟩
    · rename_i l hm
      cases h
      obtain ⟨ob, vs, h1, h2⟩ := at_flst s hi hm
      exact ⟨by decide, .base (.frz h1)⟩
    · rename_i l hm
      cases h
      obtain ⟨kvs, h1, h2⟩ := (show ∃ kvs, HdR (fr.lk.contains i) H a (.dK kvs) ∧ KvR G φ H keyV l kvs from s.at_ hi hm)
      refine ⟨by decide, ?_⟩
      rcases h1.rd with q | ⟨o, q⟩
      · exact .base (.dK q)
      · exact .fDict q
    · rename_i c fs hm
      cases h
      obtain ⟨C, dx, gs, h1, h2, h3⟩ := (show ∃ C dx gs, G.cl c = some C ∧ H a = some (.ins C dx gs) ∧ FsR G φ H fs gs ∧ _ from s.at_ hi hm)
      obtain ⟨i1, i2, i3, i4⟩ := go.ins c C h1
      exact ⟨C, h1, .base (.ins h2 (go.cls c C h1) i1 i2 i3 i4)⟩
    · cases h
  | rng a b => cases h
  | fn k => cases h
  | cls c => cases h
  | ty n => cases h
  | clo k id => cases h
  | exn c l => cases h
/-- what stands for a class in the written text -/
def TyV (G : Top) : Ty → V → Value → Prop
  | .ty a, v, u => v = .ty a ∧ u = .type a
  | .cls c, v, u => ∃ C, G.cl c = some C ∧ v = .ref C ∧ u = .ref C
  | .exc _, _, _ => False
theorem TyV.cls {t : Ty} {v : V} {u : Value} (h : TyV G t v u) : ClsV v u := by
  cases t with
  | ty a => obtain ⟨rfl, rfl⟩ := h; exact .ty a
  | cls c => obtain ⟨C, _, rfl, rfl⟩ := h; exact .own C
  | exc c => exact h.elim
theorem isTy_ok {v w : V} {u t : Ty} {tv : Value} {b : Bool} (go : GO G X.prog X.w X.K X.mg X.base n) (h : isTy u t = some b) (r : TyR G X.K H v u) (q : TyV G t w tv) : ∃ tt, TyX X.K H v tt ∧ PySem.W.kitOne X.K tt tv = some b ∧ (match u with | .ty a => tt = .type a | .cls c => ∃ C, G.cl c = some C ∧ tt = .ref C | .exc _ => False) := by
  cases u with
  | ty a =>
    obtain ⟨ha, r⟩ := r
    refine ⟨_, r, ?_, rfl⟩
    cases t with
    | ty c =>
      obtain ⟨rfl, rfl⟩ := q
      simp only [isTy] at h
      split at h
      · rename_i hc
        cases h
        exact kit_table a ha c (by simpa using hc)
      · cases h
    | cls c =>
      obtain ⟨C, hC, rfl, rfl⟩ := q
      cases h
      exact go.subC c C a hC ha
    | exc c => exact q.elim
  | cls c =>
    obtain ⟨C, hC, r⟩ := r
    refine ⟨_, r, ?_, C, hC, rfl⟩
    cases t with
    | ty a =>
      obtain ⟨rfl, rfl⟩ := q
      simp only [isTy] at h
      split at h
      · rename_i hc
        cases h
        exact go.subT c C a hC (by simpa using hc)
      · cases h
    | cls c' =>
      obtain ⟨C', hC', rfl, rfl⟩ := q
      cases h
      exact (go.sub c C c' C' hC hC').1
    | exc c => exact q.elim
  | exc c => exact r.elim
def TtOf (G : Top) (tt : Value) : Ty → Prop
  | .ty a => tt = .type a
  | .cls c => ∃ C, G.cl c = some C ∧ tt = .ref C
  | .exc _ => False
theorem isAny_ok {v : V} {u : Ty} {b : Bool} (go : GO G X.prog X.w X.K X.mg X.base n) (r : TyR G X.K H v u) : ∀ {l : List Ty} {ws : List V} {tvs : List Value}, isAny u l = some b → l.length = ws.length → l.length = tvs.length → (∀ (i : Nat) t w tv, l[i]? = some t → ws[i]? = some w → tvs[i]? = some tv → TyV G t w tv) →
    ∀ tt, TtOf G tt u → PySem.W.kitAny X.K tt tvs = some b ∧ Paired ClsV ws tvs
  | [], [], [], h, _, _, _, tt, _ => by cases h; exact ⟨rfl, .nil⟩
  | [], _ :: _, _, _, h, _, _, _, _ => by cases h
  | [], [], _ :: _, _, _, h, _, _, _ => by cases h
  | _ :: _, [], _, _, h, _, _, _, _ => by cases h
  | _ :: _, _ :: _, [], _, _, h, _, _, _ => by cases h
  | t :: l, w :: ws, tv :: tvs, h, h1, h2, hq, tt, ht => by
    have q := hq 0 t w tv rfl rfl rfl
    have paired : Paired ClsV ws tvs := by
      have all : ∀ {l : List Ty} {ws : List V} {tvs : List Value}, l.length = ws.length → l.length = tvs.length → (∀ (i : Nat) t w tv, l[i]? = some t → ws[i]? = some w → tvs[i]? = some tv → TyV G t w tv) → Paired ClsV ws tvs := by
        intro l
        induction l with
        | nil =>
          intro ws tvs a b _
          cases ws with
          | nil =>
            cases tvs with
            | nil => exact .nil
            | cons _ _ => cases b
          | cons _ _ => cases a
        | cons t l ih =>
          intro ws tvs a b hh
          cases ws with
          | nil => cases a
          | cons w ws =>
            cases tvs with
            | nil => cases b
            | cons tv tvs => exact .cons (hh 0 t w tv rfl rfl rfl).cls (ih (by simpa using a) (by simpa using b) fun i t w tv e1 e2 e3 => hh (i + 1) t w tv (by simpa using e1) (by simpa using e2) (by simpa using e3))
      exact all (l := l) (by simpa using h1) (by simpa using h2) fun i t w tv e1 e2 e3 => hq (i + 1) t w tv (by simpa using e1) (by simpa using e2) (by simpa using e3)
    have one : ∀ c, isTy u t = some c → PySem.W.kitOne X.K tt tv = some c := fun c hc => by
      obtain ⟨tt', _, k, ht'⟩ := isTy_ok go hc r q
      have e : tt' = tt := by
        cases u with
        | ty a => exact ht'.trans ht.symm
        | cls c' =>
          obtain ⟨C, a1, rfl⟩ := ht'
          obtain ⟨C2, a2, rfl⟩ := ht
          rw [a1] at a2
          cases a2
          rfl
        | exc c' => exact ht.elim
      exact e ▸ k
    simp only [isAny] at h
    cases hc : isTy u t with
    | none => rw [hc] at h; cases h
    | some c =>
      rw [hc] at h
      refine ⟨?_, .cons q.cls paired⟩
      unfold PySem.W.kitAny
      rw [one c hc]
      cases c with
      | true => exact h
      | false => exact (isAny_ok go r (l := l) h (by simpa using h1) (by simpa using h2) (fun i t w tv e1 e2 e3 => hq (i + 1) t w tv (by simpa using e1) (by simpa using e2) (by simpa using e3)) tt ht).1
theorem TyR.val {v : V} {u : Ty} {K : PySem.W.Frag} (r : TyR G K H v u) : ∃ tt, TyX K H v tt ∧ TtOf G tt u := by
  cases u with
  | ty a => exact ⟨_, r.2, rfl⟩
  | cls c => obtain ⟨C, h, r⟩ := r; exact ⟨_, r, C, h, rfl⟩
  | exc c => exact r.elim
/-- a class by its name -/
structure TyE (G : Top) (X : Cx) (e : Expr) (t : Ty) (v : V) (u : Value) : Prop where
  pe : PE X e (tC v)
  tv : TyV G t v u
  ns : NoStar e
/-- isinstance(a, T) -/
theorem s_isi {a T : Expr} {a' : E} {t : Ty} {v : V} {u : Value} {p pos : Pos} (go : GO G X.prog X.w X.K X.mg X.base n) (hg : Gl X "isinstance") (hm : X.mg "isinstance" = none) (ns : NoStar a) (ha : PE X a (tE G C fr W a')) (hT : TyE G X T t v u) :
    PE X (.Call (.Name "isinstance" p) [a, T] [] pos) (tE G C fr W (.isi a' [t])) := by
  refine PE.imp (pe_callB call_isi hg hm boot_isinstance (pa_cons ha (pa_cons hT.pe pa_nil (starEach_cons hT.ns)) (starEach_cons ns)) (he := starEach_cons ns) (hpl := star_plain fun y hy => by rw [List.mem_singleton.mp hy]; exact hT.ns)) fun σ H Q h => ?_
  have h : tG G fr W (fun ρ m => (ev G.P C fr a' ρ m).bind fun x m => opt (((tyv m x).bind fun u => isAny u [t]).map .bl) m) (KD G) σ H Q := by
    obtain ⟨φ, m, ρ, s, r, p⟩ := h
    exact ⟨φ, m, ρ, s, r, by simp only [ev] at p; exact p⟩
  refine h.go fun φ H1 x m ρ s r p w rw => ?_
  obtain ⟨d, hd, p⟩ := p.opt
  obtain ⟨b, hb, rfl⟩ := Option.map_eq_some_iff.mp hd
  obtain ⟨ut, hu, hb⟩ := Option.bind_eq_some_iff.mp hb
  have tr := ty_ok go s rw hu
  obtain ⟨tt, htt, hv⟩ := tr.val
  have k := (isAny_ok go tr (l := [t]) (ws := [v]) (tvs := [u]) hb rfl rfl (fun i t' w' tv e1 e2 e3 => by
    cases i with
    | zero => cases e1; cases e2; cases e3; exact hT.tv
    | succ i => simp at e1) tt hv).1
  refine ⟨w, v, tt, u, b, rfl, hT.tv.cls, htt, ?_, p.here s _ rbl⟩
  unfold PySem.W.kitAny at k
  cases h1 : PySem.W.kitOne X.K tt u with
  | none => rw [h1] at k; cases k
  | some c =>
    rw [h1] at k
    cases c with
    | true => exact k
    | false => exact k
/-- several classes, each by its name -/
inductive TyEs (G : Top) (X : Cx) : List Expr → List Ty → List V → List Value → Prop
  | nil : TyEs G X [] [] [] []
  | cons {e : Expr} {t : Ty} {v : V} {u : Value} {es : List Expr} {ts : List Ty} {vs : List V} {us : List Value} : TyE G X e t v u → TyEs G X es ts vs us → TyEs G X (e :: es) (t :: ts) (v :: vs) (u :: us)
def tCs (vs : List V) : TA := fun _ H Q => Q vs H
theorem TyEs.pa {es : List Expr} {ts : List Ty} {vs : List V} {us : List Value} (h : TyEs G X es ts vs us) : PA X es (tCs vs) := by
  induction h with
  | nil => exact pa_nil
  | cons a r ih => exact PA.imp (pa_cons a.pe ih (starEach_cons a.ns)) fun σ H Q q => q
theorem TyEs.facts {es : List Expr} {ts : List Ty} {vs : List V} {us : List Value} (h : TyEs G X es ts vs us) : ts.length = vs.length ∧ ts.length = us.length ∧ ∀ (i : Nat) t w tv, ts[i]? = some t → vs[i]? = some w → us[i]? = some tv → TyV G t w tv := by
  induction h with
  | nil => exact ⟨rfl, rfl, fun i t w tv e => by simp at e⟩
  | cons a r ih =>
    refine ⟨congrArg Nat.succ ih.1, congrArg Nat.succ ih.2.1, fun i t w tv e1 e2 e3 => ?_⟩
    cases i with
    | zero => cases e1; cases e2; cases e3; exact a.tv
    | succ i => exact ih.2.2 i t w tv (by simpa using e1) (by simpa using e2) (by simpa using e3)
theorem s_isiT {a : Expr} {es : List Expr} {a' : E} {ts : List Ty} {vs : List V} {us : List Value} {p pos tpos : Pos} {k : Nat} (go : GO G X.prog X.w X.K X.mg X.base n) (hg : Gl X "isinstance") (hm : X.mg "isinstance" = none) (ns : NoStar a) (ha : PE X a (tE G C fr W a')) (hT : TyEs G X es ts vs us) (hl : vs.length ≤ 1000) :
    PE X (.Call (.Name "isinstance" p) [a, .Tuple es k tpos] [] pos) (tE G C fr W (.isi a' ts)) := by
  have nt : NoStar (.Tuple es k tpos) := fun _ _ z => by cases z
  refine PE.imp (pe_callB call_isiT hg hm boot_isinstance (pa_cons ha (pa_cons (pe_tup hT.pa) pa_nil (starEach_cons nt)) (starEach_cons ns)) (he := starEach_cons ns) (hpl := star_plain fun y hy => by rw [List.mem_singleton.mp hy]; exact nt)) fun σ H Q h => ?_
  have h : tG G fr W (fun ρ m => (ev G.P C fr a' ρ m).bind fun x m => opt (((tyv m x).bind fun u => isAny u ts).map .bl) m) (KD G) σ H Q := by
    obtain ⟨φ, m, ρ, s, r, p⟩ := h
    exact ⟨φ, m, ρ, s, r, by simp only [ev] at p; exact p⟩
  refine h.go fun φ H1 x m ρ s r p w rw => ?_
  obtain ⟨d, hd, p⟩ := p.opt
  obtain ⟨b, hb, rfl⟩ := Option.map_eq_some_iff.mp hd
  obtain ⟨ut, hu, hb⟩ := Option.bind_eq_some_iff.mp hb
  refine ⟨Nat.le_trans hl (by decide), fun tp htp => ?_⟩
  have sm := same_new (u := .tup vs) htp
  have e : Ext φ H1 φ (upd H1 tp (.tup vs)) := ext_same sm
  have s2 := s.grow sm
  have tr := ty_ok go s2 (rw.ext e s.clean) hu
  obtain ⟨tt, htt, hv⟩ := tr.val
  obtain ⟨l1, l2, l3⟩ := hT.facts
  obtain ⟨k1, k2⟩ := isAny_ok go tr (l := ts) (ws := vs) (tvs := us) hb l1 l2 l3 tt hv
  exact ⟨w, tp, vs, tt, us, b, rfl, upd_same, k2, htt, k1, p φ _ e s2 _ rbl⟩
theorem te_ty {x : Str} {T : String} {p : Pos} (hg : Gl X x) (hm : X.mg x = none) (hv : bootBuiltins x = some (.type T)) (hn : x ≠ "__name__") (hdb : (x == ("__debug__" : Str)) = false) : TyE G X (.Name x p) (.ty T) (.ty T) (.type T) :=
  ⟨pe_bltn hg hm hv rfl hn hdb, ⟨rfl, rfl⟩, fun _ _ z => by cases z⟩
theorem te_cls {x : Str} {c : Nat} {Cc : Addr} {p : Pos} (hg : Gl X x) (hm : X.mg x = some (.ref Cc)) (hc : G.cl c = some Cc) (hdb : (x == ("__debug__" : Str)) = false) : TyE G X (.Name x p) (.cls c) (.ref Cc) (.ref Cc) :=
  ⟨pe_glob hg hm rfl hdb, ⟨Cc, hc, rfl, rfl⟩, fun _ _ z => by cases z⟩
end
end Ms

-- So7
set_option linter.all false
set_option Elab.async false
set_option maxRecDepth 10000
/-! Comparisons of own classes, chains, attributes, subscripts, displays, methods. -/
namespace Ms
open PySem L2 PySem.Spec PyProof.Rows
open PySem.W (Looks InstAt findIn isFn notFirst looks_findIn)

/-! ### != of an own class that has only == -/
section
variable {prog : Program} {w : World} {A : Around} {E : Value → Shared → Prop} {s : Shared} {K : PySem.W.Frag} {x C f : Addr} {h₀ : Heap} {ox : Obj} {od : Option Obj} {b tb : Value}
theorem ne_bound {M : Model} {args : List Value} {Q : Option Value → Shared → Prop} (X : K.In s.heap) (I : InstAt s.heap x ox C od) (hs : findIn K (.ref C) "__ne__" = some (some (.builtin "object.__ne__")))
    (h : wpAny M A (call (.builtin "object.__ne__") (.ref x :: args)) (fun v => Q (some v)) E s) : wpAny M A (callSpecialIfBound? (.ref x) "__ne__" args) Q E s := by
  simp only [callSpecialIfBound?, bindSpecialIfBound?]
  refine wpAny_holding (wpAny_bind (wpAny_bind (wpAny_bind (I.type.here ((looks_findIn X hs).here ?_)))))
  simp only [PySem.F.cmp_object.ne.bind]
  refine wpAny_bind (wpAny_askSetting (wpAny_ite ?_))
  have fin : wpAny M A (call (.builtin "object.__ne__") ([.ref x] ++ args) >>= fun v => pure (some v)) Q E s := wpAny_bind (wpAny_mono h (fun v s' h' => wpAny_pure h') fun _ _ h' => h')
  split
  · exact wpAny_bind (wpAny_pure (wpAny_pure fin))
  · exact wpAny_tryCatch (wpAny_bind (wpAny_pure (wpAny_pure fin)))
theorem ne_body {Q : Fin → Shared → Prop} (X : K.In s.heap) (I : InstAt s.heap x ox C od) (hs : findIn K (.ref C) "__eq__" = some (some (.ref f))) (hf : isFn K (.ref f) = true) (hu : A.units < cLine)
    (h : wpAny (model prog w) A (call (.ref f) [.ref x, b]) (fun v s' => ∃ c, v = .bool c ∧ Q (.done (.ret (.bool (!c)))) s') E s) : wpAny (model prog w) A (Builtin.«object.__ne__» ⟨[.ref x, b], []⟩) Q E s := by
  unfold Builtin.«object.__ne__»
  repeat (first
    | with_reducible refine wpAny_cRoomFor hu ?_
    | (refine wpAny_bind (m := callSpecialIfBound? (.ref x) (Str.ofString "__eq__") [b]) (PySem.W.ifBound_K X I hs hf (wpAny_mono h (fun r s' hr => by
          obtain ⟨c, rfl, hq⟩ := hr
          repeat (first | exact hq | exact wpAny_pure hq | exact wpAny_truthy_bool hq | (refine wpAny_bind (m := truthy (.bool _)) (wpAny_truthy_bool ?_)) | wp_step)) fun _ _ e => e)))
    | wp_step)
theorem ne_call {Q : Value → Shared → Prop} (X : K.In s.heap) (I : InstAt s.heap x ox C od) (hs : findIn K (.ref C) "__eq__" = some (some (.ref f))) (hf : isFn K (.ref f) = true) (hm : PySem.W.subIn K (.ref C) (.type "object") = some true) (hu : A.units + 1 < cLine)
    (h : wpAny (model prog w) A.in1 (call (.ref f) [.ref x, b]) (fun v s' => ∃ c, v = .bool c ∧ Q (.bool (!c)) s') E s) : wpAny (model prog w) A (call (.builtin "object.__ne__") [.ref x, b]) Q E s := by
  refine wpAny_call (codeAny_call_builtin PySem.F.cmp_object.ne.plain PySem.F.cmpEntry_ne (PySem.W.check_slot (i := "object.__ne__") (owner := "object") (n := "__ne__") PySem.F.cmpKind_ne PySem.F.cmpSplit_ne
    (I.type.andThen (PySem.W.looks_subIn X hm)) (PySem.F.cmpArgs_ne _ _) (ne_body (A := A.in1) X I hs hf hu (wpAny_mono h (fun v s' hv => ?_) fun _ _ e => e))))
  obtain ⟨c, rfl, hq⟩ := hv
  exact ⟨c, rfl, hq⟩
theorem ne_K {Q : Value → Shared → Prop} (hu : A.units + 1 < cLine) (X : K.In s.heap) (I : InstAt s.heap x ox C od) (hb : Looks (model prog w) s.heap (typeOf b) tb) (hn : notFirst K C tb = true)
    (ho : findIn K (.ref C) "__ne__" = some (some (.builtin "object.__ne__"))) (hs : findIn K (.ref C) "__eq__" = some (some (.ref f))) (hf : isFn K (.ref f) = true) (hm : PySem.W.subIn K (.ref C) (.type "object") = some true)
    (h : wpAny (model prog w) A.in1 (call (.ref f) [.ref x, b]) (fun v s' => ∃ c, v = .bool c ∧ Q (.bool (!c)) s') E s) : wpAny (model prog w) A (richCompare .NotEq (.ref x) b) Q E s := by
  have one : wpAny (model prog w) A (tryCompare (.ref x) "__ne__" b) (fun r s' => ∃ v, r = some v ∧ Q v s') E s := by
    unfold tryCompare
    refine wpAny_bind (ne_bound X I ho (ne_call X I hs hf hm hu (wpAny_mono h (fun v s' hv => ?_) fun _ _ e => e)))
    obtain ⟨c, rfl, hq⟩ := hv
    exact ⟨c, rfl, wpAny_pure ⟨_, rfl, hq⟩⟩
  unfold richCompare
  simp only [oneThing_ref]
  refine wpAny_holding (wpAny_bind (wpAny_cRoomFor (by omega) ?_))
  refine wpAny_bind (I.type.here (wpAny_bind (hb.here ?_)))
  split
  · rename_i q
    have e : PySem.W.subIn K tb (.ref C) = some false := by
      rcases Bool.or_eq_true_iff.mp hn with e | e
      · rw [beq_iff_eq.mp e] at q; simp at q
      · exact beq_iff_eq.mp e
    refine wpAny_bind ((PySem.W.looks_subIn X e).here ?_)
    simp only [Bool.false_eq_true, if_false]
    refine wpAny_bind (wpAny_mono one (fun r s' z => ?_) fun _ _ e => e)
    obtain ⟨v, rfl, hq⟩ := z
    exact wpAny_pure hq
  · refine wpAny_bind (wpAny_pure ?_)
    simp only [Bool.false_eq_true, if_false]
    refine wpAny_bind (wpAny_mono one (fun r s' z => ?_) fun _ _ e => e)
    obtain ⟨v, rfl, hq⟩ := z
    exact wpAny_pure hq
end

/-! ### comparisons -/
section
variable {G : Top} {C : Cl} {fr : Fr} {W : WX} {X : Cx} {n : Nat} {σ : L2.St} {H : Hp} {E : KX} {φ : List Gh} {m : Mem}
/-- what the call of a def gives, at any place with room -/
theorem run_df {k : Nat} {a : Addr} {A : Around} {pins : List (Addr × Obj)} {s : Shared} {us : List Value} {vs : List V} {Q : VK} (go : GO G X.prog X.w X.K X.mg X.base n) (j : Nat) (hj : j ≤ n) (hr : Room (j + 1) A) (e0 : Env0 X.prog X.w X.K X.mg X.base A X.stack s H) (h : G.df k = some a)
    (I : Inv X pins σ H s) (r : Vals vs us) (q : spD G j (.df k) vs H Q (fun _ _ _ => False)) : wpAny (model X.prog X.w) A (call (.ref a) us) (EP X pins σ Q) (fun _ _ => False) s := by
  obtain ⟨fd, ps, F, b, _⟩ := go.fn j k a hj h
  have hl := F.len _ _ _ _ q
  have bb := b s us I.kIn (by rw [List.append_nil, ← r.length]; exact hl)
  rw [List.append_nil] at bb
  refine wpAny_call (codeAny_mono (F.run A X.stack s H _ _ _ Q (fun _ _ _ => False) hr e0 bb r q) fun z s' hz => ?_)
  cases z with
  | error e =>
    obtain ⟨_, _, _, _, _, _, _, _, _, _, _, _, no⟩ := hz
    exact no.elim
  | ok fl =>
    cases fl with
    | ret u => exact I.after hz
    | next => exact False.elim hz
    | brk => exact False.elim hz
    | cont => exact False.elim hz
theorem inst_of {pins : List (Addr × Obj)} {s : Shared} {a C dx : Addr} {fs : List (Str × V)} (I : Inv X pins σ H s) (e : H a = some (.ins C dx fs)) : ∃ od, InstAt s.heap a (PySem.W.instObj C dx) C (some od) := by
  obtain ⟨mA, O, _⟩ := ins_get I.hok e
  obtain ⟨od, J, _⟩ := O.look
  exact ⟨od, J⟩
theorem notFirst_ok {v : V} {u : Ty} {c : Nat} {Cc : Addr} {tt : Value} (go : GO G X.prog X.w X.K X.mg X.base n) (hc : G.cl c = some Cc) (r : TyR G X.K H v u) (ht : TtOf G tt u) : notFirst X.K Cc tt = true := by
  cases u with
  | ty a =>
    subst ht
    refine Bool.or_eq_true_iff.mpr (.inr (beq_iff_eq.mpr (sub_of_kit (go.subC c Cc a hc r.1))))
  | cls c' =>
    obtain ⟨C', hC', rfl⟩ := ht
    rcases (go.sub c' C' c Cc hC' hc).2 with e | e
    · rw [e]
      exact Bool.or_eq_true_iff.mpr (.inl (by simp))
    · exact Bool.or_eq_true_iff.mpr (.inr (beq_iff_eq.mpr e))
  | exc c' => exact ht.elim
theorem own_at {P : Prog} {d : D} {k : Nat} (h : ownEq P m d = some k) : ∃ p c fs kk, d = .ref p ∧ m[p]? = some (.ins c fs) ∧ P.clss[c]? = some kk ∧ kk.eq = some k := by
  cases d with
  | ref p =>
    simp only [ownEq] at h
    split at h
    · rename_i c fs hm
      obtain ⟨kk, h1, h2⟩ := Option.bind_eq_some_iff.mp h
      exact ⟨p, c, fs, kk, rfl, hm, h1, h2⟩
    · cases h
  | _ => cases h
theorem onlyB_ok {Q : VK} {d : D} (s : SR G φ fr H m) (p : Post G φ fr H (onlyB d m) (KD G Q) E) : ∃ c, d = .bl c ∧ Q (.bl c) H := by
  cases d <;> first | exact ⟨_, rfl, p.here s _ rbl⟩ | exact p.elim
theorem op_cmpE_ok (go : GO G X.prog X.w X.K X.mg X.base n) (xo : XO G X n W) (o : Cmp) : OpR X (compareOp (opC o)) (rG2 G fr E (cmpE G.P (callN G.P n) fr o)) := fun pins s σ H x y v u Q I rx ry ⟨φ, m, d, e, sr, rd, re, p⟩ => by
  simp only [cmpE] at p
  split at p
  · exact op_cmp_ok xo.room o pins s σ H x y v u Q I rx ry ⟨φ, m, d, e, sr, rd, re, p⟩
  · rename_i k ho
    have isR : ∀ o : Cmp, Post G φ fr H (cmpop o d e m) (KD G Q) E → wpAny (model X.prog X.w) X.A (compareOp (opC o) v u) (EP X pins σ Q) X.xe s := fun o p =>
      op_cmp_ok xo.room o pins s σ H x y v u Q I rx ry ⟨φ, m, d, e, sr, rd, re, p⟩
    have own : ∀ to : To, Post G φ fr H (if (tyv m e).isSome then ((callN G.P n fr to [d, e] m).nox).bind onlyB else .bad) (KD G Q) E → ∃ u, tyv m e = some u ∧
        Post G φ fr H (callN G.P n fr to [d, e] m) (fun φ' H' d' m' => ∃ c, d' = .bl c ∧ Q (.bl c) H') (fun _ _ _ _ _ => False) := fun to p => by
      split at p
      · rename_i ht
        obtain ⟨uu, hu⟩ := Option.isSome_iff_exists.mp ht
        exact ⟨uu, hu, (p.bind.nox (E' := fun _ _ _ _ _ => False)).mono (fun φ' H' d' m' e1 s1 p1 => onlyB_ok s1 p1) fun _ _ _ _ _ _ _ q => q⟩
      · exact p.elim
    obtain ⟨pl, c, fs, kk, rfl, hm, hcl, hk⟩ := own_at ho
    obtain ⟨a, rfl, hi⟩ := vref rd
    obtain ⟨Cc, dx, gs, hC, hH, _⟩ := (show ∃ C dx gs, G.cl c = some C ∧ H a = some (.ins C dx gs) ∧ FsR G φ H fs gs ∧ _ from sr.at_ hi hm)
    obtain ⟨od, J⟩ := inst_of I hH
    obtain ⟨f, hf, h1, h2, h3, h4⟩ := go.eqm c Cc kk k hC hcl hk
    cases rx
    have look : ∀ uu, tyv m e = some uu → ∃ tt, Looks (model X.prog X.w) s.heap (typeOf u) tt ∧ notFirst X.K Cc tt = true := fun uu hu => by
      have tr := ty_ok go sr re hu
      obtain ⟨tt, htt, hv⟩ := tr.val
      obtain ⟨P, kx, hP, _⟩ := kit_of I ry htt
      exact ⟨tt, kx.ty _ _ I.kIn hP, notFirst_ok go hC tr hv⟩
    cases o with
    | eq =>
      obtain ⟨uu, hu, p⟩ := own _ p
      obtain ⟨tt, hl, hn⟩ := look uu hu
      obtain ⟨_, hF⟩ := I.fr
      have vr : ValsR G φ H [.ref pl, e] [.ref a, y] := .cons rd (.one re)
      have q : spD G n (.df k) [.ref a, y] H (fun z H' => ∃ c, z = .bl c ∧ Q (.bl c) H') (fun _ _ _ => False) :=
        ⟨φ, fr, m, _, sr, vr, p.mono (fun φ' H' d' m' _ _ q v rv => by obtain ⟨c, rfl, q⟩ := q; exact ⟨c, vbl rv, q⟩) fun _ _ _ _ _ _ _ z => z.elim⟩
      refine PySem.W.cmp_K (op := .Eq) xo.room.units0 hF I.ok.mod.kin J hl hn h1 h2 ?_
      refine wpAny_mono (run_df go n (Nat.le_refl _) xo.room I.env0 hf I (.cons (show RelV (.ref a) (.ref a) from rfl) (.cons ry .nil)) q) (fun w s' z => ?_) fun _ _ z => z.elim
      obtain ⟨z, H', I', rz, c, rfl, qz⟩ := z
      cases (show w = .bool c from rz)
      exact ⟨.bl c, H', I', rfl, qz⟩
    | ne =>
      obtain ⟨uu, hu, p⟩ := own _ p
      obtain ⟨tt, hl, hn⟩ := look uu hu
      cases n with
      | zero => exact p.elim
      | succ n =>
        have vr : ValsR G φ H [.ref pl, e] [.ref a, y] := .cons rd (.one re)
        simp only [callN] at p
        have q : spD G n (.df k) [.ref a, y] H (fun z H' => ∃ c, z = .bl c ∧ Q (.bl !c) H') (fun _ _ _ => False) := by
          refine ⟨φ, fr, m, _, sr, vr, p.bind.mono (fun φ' H' d' m' _ s1 q v rv => ?_) fun _ _ _ _ _ _ _ z => z.elim⟩
          cases d' with
          | bl c =>
            obtain ⟨c', e', q⟩ := q.here s1
            cases e'
            exact ⟨c, vbl rv, q⟩
          | _ => exact q.elim
        refine ne_K (by have := xo.room.un; omega) I.kIn J hl hn h3 h1 h2 h4 ?_
        refine wpAny_mono (run_df go n (Nat.le_succ _) xo.room.in1 I.env0.in1 hf I (.cons (show RelV (.ref a) (.ref a) from rfl) (.cons ry .nil)) q) (fun w s' z => ?_) fun _ _ z => z.elim
        obtain ⟨z, H', I', rz, c, rfl, qz⟩ := z
        cases (show w = .bool c from rz)
        exact ⟨c, rfl, .bl !c, H', I', rfl, qz⟩
    | is => exact isR .is p
    | isNot => exact isR .isNot p
    | _ => exact p.elim
theorem onlyB_at {d d' : D} {m' : Mem} (h : onlyB d m = .ok d' m') : ∃ c, d' = .bl c := by
  cases d <;> first | (cases h; exact ⟨_, rfl⟩) | cases h
theorem cmpop_bl {o : Cmp} {x y d : D} {m' : Mem} (h : cmpop o x y m = .ok d m') : ∃ c, d = .bl c := by
  have io : ∀ f, cmpop.inop x y m f = .ok d m' → ∃ c, d = .bl c := fun f h => by
    simp only [cmpop.inop] at h
    repeat' (split at h)
    all_goals first | cases h | skip
    all_goals first
      | exact ⟨_, rfl⟩
      | (rename_i l; cases e : inL m x l <;> rw [e] at h <;> simp only [Option.map, opt] at h <;> cases h <;> exact ⟨_, rfl⟩)
      | (rename_i l _; cases e : inL m x l <;> rw [e] at h <;> simp only [Option.map, opt] at h <;> cases h <;> exact ⟨_, rfl⟩)
  have oi : ∀ f, ordI f x y m = .ok d m' → ∃ c, d = .bl c := fun f h => by
    simp only [ordI] at h
    split at h <;> cases h
    exact ⟨_, rfl⟩
  cases o with
  | eq => simp only [cmpop] at h; cases e : eqD m x y <;> rw [e] at h <;> simp only [Option.map, opt] at h <;> cases h; exact ⟨_, rfl⟩
  | ne => simp only [cmpop] at h; cases e : eqD m x y <;> rw [e] at h <;> simp only [Option.map, opt] at h <;> cases h; exact ⟨_, rfl⟩
  | lt => exact oi _ h
  | le => exact oi _ h
  | gt => exact oi _ h
  | ge => exact oi _ h
  | is => simp only [cmpop] at h; split at h <;> cases h <;> exact ⟨_, rfl⟩
  | isNot => simp only [cmpop] at h; split at h <;> cases h <;> exact ⟨_, rfl⟩
  | isIn => exact io _ h
  | notIn => exact io _ h
theorem cmpE_bl {P : Prog} {C : Cl} {o : Cmp} {x y d : D} {m' : Mem} (h : cmpE P C fr o x y m = .ok d m') : ∃ c, d = .bl c := by
  have ob : ∀ r : R D, r.bind onlyB = .ok d m' → ∃ c, d = .bl c := fun r h => by
    cases r with
    | ok a m => exact onlyB_at h
    | exc => cases h
    | bad => cases h
  simp only [cmpE] at h
  split at h
  · exact cmpop_bl h
  · cases o with
    | eq => dsimp only at h; split at h; exact ob _ h; cases h
    | ne => dsimp only at h; split at h; exact ob _ h; cases h
    | is => exact cmpop_bl h
    | isNot => exact cmpop_bl h
    | _ => cases h
end
section
variable {G : Top} {fr : Fr} {W : WX} {X : Cx} {n : Nat} {a b c : Expr} {pos : Pos} {a' b' c' : Ms.E}
theorem s_cmp {o : Cmp} (go : GO G X.prog X.w X.K X.mg X.base n) (xo : XO G X n W) (hm : behindInMarks (opC o) b = false) (ha : PE X a (tE G (callN G.P n) fr W a')) (hb : PE X b (tE G (callN G.P n) fr W b')) :
    PE X (.Compare a [opC o] [b] pos) (tE G (callN G.P n) fr W (.cmp o a' b')) := by
  refine PE.imp (PE.at fun σ₀ => pe_cmpR (op_cmpE_ok (fr := fr) (E := EX G W σ₀) go xo o) ha hb hm) fun σ H Q h => ?_
  exact two_ok (f := cmpE G.P (callN G.P n) fr o) (F := fun _ _ => pure .none) (by funext ρ m; simp only [ev]) h
theorem PT.at {e : Expr} {X : Cx} {t : L2.St → TT} (h : ∀ σ₀, PT X e (t σ₀)) : PT X e (fun σ H Q => t σ σ H Q) := ⟨fun pins s σ H Q I q => (h σ).run pins s σ H Q I q⟩
/-- the truth of what is true or false -/
theorem truth_go {α : Type} {G : Top} {fr : Fr} {H : Hp} {φ : List Gh} {m : Mem} {E : KX} {Q : Bool → Hp → Prop} {r : R D} (hb : ∀ d m', r = .ok d m' → ∃ c, d = .bl c) (p : Post G φ fr H (r.bind fun x m => opt (truth m x) m) (KB Q) E) :
    Post G φ fr H r (KD G fun v H' => ∃ k, v = .bl k ∧ Q k H') E := by
  cases r with
  | ok d m' =>
    obtain ⟨c, rfl⟩ := hb d m' rfl
    exact fun φ' H' e s v rv => ⟨c, vbl rv, p φ' H' e s⟩
  | exc c v m' => exact p
  | bad => exact p.elim
theorem st_cmp {o : Cmp} (go : GO G X.prog X.w X.K X.mg X.base n) (xo : XO G X n W) (hm : behindInMarks (opC o) b = false) (ha : PE X a (tE G (callN G.P n) fr W a')) (hb : PE X b (tE G (callN G.P n) fr W b')) :
    PT X (.Compare a [opC o] [b] pos) (tT G (callN G.P n) fr W (.cmp o a' b')) := by
  refine PT.imp (PT.at fun σ₀ => pt_cmpR (op_cmpE_ok (fr := fr) (E := EX G W σ₀) go xo o) ha hb hm) fun σ H Q h => ?_
  unfold tTest
  refine two_ok (f := cmpE G.P (callN G.P n) fr o) (g := .cmp o a' b') (F := fun _ _ => pure .none) (by funext ρ m; simp only [ev]) ?_
  obtain ⟨φ, m, ρ, s, r, p⟩ := h
  refine ⟨φ, m, ρ, s, r, truth_go (m := m) (α := Unit) (fun d m' h => ?_) p⟩
  simp only [ev] at h
  cases h1 : ev G.P (callN G.P n) fr a' ρ m with
  | ok x m1 =>
    rw [h1] at h
    simp only [R.bind] at h
    cases h2 : ev G.P (callN G.P n) fr b' ρ m1 with
    | ok y m2 =>
      rw [h2] at h
      exact cmpE_bl h
    | exc => rw [h2] at h; cases h
    | bad => rw [h2] at h; cases h
  | exc => rw [h1] at h; cases h
  | bad => rw [h1] at h; cases h
/-- a chain of two -/
theorem chn_go {C : Cl} {o p : Cmp} {σ : L2.St} {H : Hp} {Q : VK} (h : tE G C fr W (.chn o p a' b' c') σ H Q) : tChain (rG2 G fr (EX G W σ) (cmpop o)) (rG2 G fr (EX G W σ) (cmpop p)) (tE G C fr W a') (tE G C fr W b') (tE G C fr W c') σ H Q := by
  have h : tG G fr W (fun ρ m => (ev G.P C fr a' ρ m).bind fun x m => (ev G.P C fr b' ρ m).bind fun y m => (cmpop o x y m).bind fun z m => match z with
    | .bl true => (ev G.P C fr c' ρ m).bind fun u m => cmpop p y u m
    | .bl false => .ok (.bl false) m
    | _ => .bad) (KD G) σ H Q := by
    obtain ⟨φ, m, ρ, s, r, p⟩ := h
    exact ⟨φ, m, ρ, s, r, by simp only [ev] at p; exact p⟩
  refine h.go fun φ H1 x m ρ s r q v rv => ?_
  refine ⟨φ, m, ρ, s, r, q.bind.mono (fun φ1 H2 y m1 e1 s1 q1 u ru => ?_) fun _ _ _ _ _ _ _ q => q⟩
  refine ⟨φ1, m1, x, y, s1, rv.ext e1 s.clean, ru, q1.bind.mono (fun φ2 H3 z m2 e2 s2 q2 w rw => ?_) fun _ _ _ _ _ _ _ q => q⟩
  have r2 : EnvR G φ2 H3 ρ σ := (r.ext e1 s.clean).ext e2 s1.clean
  split at q2
  · cases vbl rw
    refine ⟨true, rfl, ?_⟩
    simp only [if_true]
    refine ⟨φ2, m2, ρ, s2, r2, q2.bind.mono (fun φ3 H4 z m3 e3 s3 q3 w rw => ?_) fun _ _ _ _ _ _ _ q => q⟩
    exact ⟨φ3, m3, y, z, s3, (ru.ext e2 s1.clean).ext e3 s2.clean, rw, q3⟩
  · cases vbl rw
    exact ⟨false, rfl, by simpa using q2.here s2 _ rbl⟩
  · exact q2.elim
theorem s_chn {o p : Cmp} (xo : XO G X n W) (hm : lastMarks [opC o, opC p] [b, c] = false) (ha : PE X a (tE G (callN G.P n) fr W a')) (hb : PE X b (tE G (callN G.P n) fr W b')) (hc : PE X c (tE G (callN G.P n) fr W c')) :
    PE X (.Compare a [opC o, opC p] [b, c] pos) (tE G (callN G.P n) fr W (.chn o p a' b' c')) :=
  PE.imp (PE.at fun σ₀ => pe_chain (op_cmp_ok (G := G) (fr := fr) (E := EX G W σ₀) xo.room o) (op_cmp_ok (G := G) (fr := fr) (E := EX G W σ₀) xo.room p) ha hb hc hm) fun σ H Q h => chn_go h
theorem st_chn {o p : Cmp} (xo : XO G X n W) (hm : lastMarks [opC o, opC p] [b, c] = false) (ha : PE X a (tE G (callN G.P n) fr W a')) (hb : PE X b (tE G (callN G.P n) fr W b')) (hc : PE X c (tE G (callN G.P n) fr W c')) :
    PT X (.Compare a [opC o, opC p] [b, c] pos) (tT G (callN G.P n) fr W (.chn o p a' b' c')) := by
  refine PT.imp (PT.at fun σ₀ => pt_chain (op_cmp_ok (G := G) (fr := fr) (E := EX G W σ₀) xo.room o) (op_cmp_ok (G := G) (fr := fr) (E := EX G W σ₀) xo.room p) ha hb hc hm) fun σ H Q h => ?_
  unfold tTest
  refine chn_go ?_
  obtain ⟨φ, m, ρ, s, r, q⟩ := h
  refine ⟨φ, m, ρ, s, r, truth_go (m := m) (α := Unit) (fun d m' h => ?_) q⟩
  simp only [ev] at h
  cases h1 : ev G.P (callN G.P n) fr a' ρ m with
  | ok x m1 =>
    rw [h1] at h
    simp only [R.bind] at h
    cases h2 : ev G.P (callN G.P n) fr b' ρ m1 with
    | ok y m2 =>
      rw [h2] at h
      simp only [R.bind] at h
      generalize cmpop o x y m2 = rr at h
      cases rr with
      | ok z m3 =>
        simp only [R.bind] at h
        split at h
        · cases h3 : ev G.P (callN G.P n) fr c' ρ m3 with
          | ok u m4 =>
            rw [h3] at h
            exact cmpop_bl h
          | exc => rw [h3] at h; cases h
          | bad => rw [h3] at h; cases h
        · cases h
          exact ⟨_, rfl⟩
        · cases h
      | exc => cases h
      | bad => cases h
    | exc => rw [h2] at h; cases h
    | bad => rw [h2] at h; cases h
  | exc => rw [h1] at h; cases h
  | bad => rw [h1] at h; cases h
end
end Ms

-- So8
set_option linter.all false
set_option Elab.async false
set_option maxRecDepth 10000
/-! Attributes, subscripts, slices, displays, methods. -/
namespace Ms
open PySem L2 PySem.Spec PyProof.Rows
section
variable {G : Top} {C : Cl} {fr : Fr} {W : WX} {X : Cx} {n : Nat} {σ : L2.St} {H : Hp} {E : KX} {φ : List Gh} {m : Mem}
theorem fs_look {f : Str} : ∀ {fs : List (Str × D)} {gs : List (Str × V)} {d : D}, FsR G φ H fs gs → fs.lookup f = some d → ∃ v, gs.lookup f = some v ∧ ValR G φ H d v
  | [], _, d, _, e => by cases e
  | (x, d') :: l, _, d, h, e => by
    obtain ⟨v, s, rfl, h1, h2⟩ := h
    rw [List.lookup_cons] at e ⊢
    split at e
    · cases e
      exact ⟨v, rfl, h1⟩
    · exact fs_look h2 e
theorem mem_look {f : Str} {d : D} : ∀ {fs : List (Str × D)}, fs.lookup f = some d → (f, d) ∈ fs
  | [], e => by cases e
  | (x, d') :: l, e => by
    rw [List.lookup_cons] at e
    split at e
    · rename_i h
      cases e
      rw [beq_iff_eq.mp h]
      exact List.mem_cons_self
    · exact List.mem_cons_of_mem _ (mem_look e)
theorem s_att {a : Expr} {a' : Ms.E} {f : Str} {pos : Pos} (go : GO G X.prog X.w X.K X.mg X.base n) (hb : attributeBase a f X.env (eval a X.env) = eval a X.env) (ha : PE X a (tE G C fr W a')) : PE X (.Attribute a f pos) (tE G C fr W (.att a' f)) := by
  refine PE.imp (pe_fld ha hb) fun σ H Q h => ?_
  have h : tG G fr W (fun ρ m => (ev G.P C fr a' ρ m).bind fun x m => opt (field x f m) m) (KD G) σ H Q := by
    obtain ⟨φ, m, ρ, s, r, p⟩ := h
    exact ⟨φ, m, ρ, s, r, by simp only [ev] at p; exact p⟩
  refine h.go fun φ H1 x m ρ s r p v rv => ?_
  obtain ⟨d, hd, q⟩ := p.opt
  clear p
  cases x with
  | ref i =>
    obtain ⟨a, rfl, hi⟩ := vref rv
    simp only [field] at hd
    split at hd
    · rename_i c fs hm
      obtain ⟨Cc, dx, gs, h1, h2, h3, h4⟩ := (show ∃ C dx gs, G.cl c = some C ∧ H1 a = some (.ins C dx gs) ∧ FsR G φ H1 fs gs ∧ ∀ p ∈ fs, (G.P.clss[c]?).any (fun k => k.flds.contains p.1) = true from s.at_ hi hm)
      obtain ⟨u, hu, ru⟩ := fs_look h3 hd
      exact ⟨a, Cc, dx, gs, u, rfl, h2, go.cls c Cc h1, go.fld c Cc f h1 (h4 _ (mem_look hd)), hu, q.here s u ru⟩
    · cases hd
  | _ => cases hd
theorem IxR.imp {r' : R2} (h : ∀ x y H Q, r' x y H Q → ∃ r, IxR X r ∧ r x y H Q) : IxR X r' := fun value slice pins s σ H x y v u Q I rx ry q hs => by
  obtain ⟨r, hr, q⟩ := h x y H Q q
  exact hr value slice pins s σ H x y v u Q I rx ry q hs
theorem atI_R {l : List D} {vs : List V} {i : Int} {d : D} (r : ValsR G φ H l vs) (h : L2.atI l i = some d) : ∃ v, L2.atI vs i = some v ∧ ValR G φ H d v := by
  have hl := r.length
  unfold L2.atI at h ⊢
  rw [hl]
  cases hx : L2.ixN l.length i with
  | none => rw [hx] at h; cases h
  | some j =>
    rw [hx] at h
    exact r.get h
theorem ix_ok (hr : Room n X.A) : IxR X (rG2 G fr E index) := IxR.imp fun x y H Q ⟨φ, m, d, e, s, rd, re, p⟩ => by
  unfold index at p
  split at p
  · rename_i l i
    obtain ⟨a, vs, rfl, h1, h2⟩ := vtup rd
    cases vint re
    obtain ⟨z, hz, p⟩ := p.opt
    obtain ⟨v, hv, rv⟩ := atI_R h2 hz
    exact ⟨_, ix_tup, a, vs, i, v, rfl, rfl, SqT.of h1, hv, p.here s v rv⟩
  · rename_i t i
    cases vstr rd; cases vint re
    split at p
    · obtain ⟨z, hz, p⟩ := p.opt
      obtain ⟨c, hc, rfl⟩ := Option.map_eq_some_iff.mp hz
      exact ⟨_, ix_str, t, i, c, rfl, rfl, sizeLim (by assumption), hc, p.here s _ rstr⟩
    · exact p.elim
  · rename_i q
    obtain ⟨a, rfl, hi⟩ := vref rd
    split at p
    · rename_i l hm
      split at p
      · rename_i i
        cases vint re
        obtain ⟨z, hz, p⟩ := p.opt
        obtain ⟨vs, h1, h2⟩ := at_lst s hi hm
        obtain ⟨v, hv, rv⟩ := atI_R h2 hz
        exact ⟨_, ix_list, a, vs, i, v, rfl, rfl, SqL.of h1, hv, p.here s v rv⟩
      · exact p.elim
    · rename_i t l hm
      split at p
      · rename_i hk
        obtain ⟨z, hz, p⟩ := p.opt
        obtain ⟨o, g, hg⟩ := dget_ok s hi hm hk re
        rw [hz] at hg
        cases o with
        | none => exact hg.elim
        | some v => exact ⟨_, ix_dict hr, a, v, rfl, g, p.here s v hg⟩
      · exact p.elim
    · exact p.elim
  · exact p.elim
theorem s_idx {a b : Expr} {a' b' : Ms.E} {pos : Pos} (xo : XO G X n W) (hs : PlainIx b) (ha : PE X a (tE G C fr W a')) (hb : PE X b (tE G C fr W b')) : PE X (.Subscript a b pos) (tE G C fr W (.idx a' b')) := by
  refine PE.imp (PE.at fun σ₀ => pe_ix (ix_ok (G := G) (fr := fr) (E := EX G W σ₀) xo.room) ha hb hs) fun σ H Q h => ?_
  exact two_ok (f := index) (F := fun _ _ => pure .none) (by funext ρ m; simp only [ev]) h

/-! ### slices -/
def KO (Q : Option Int → Hp → Prop) : KT (Option Int) := fun _ H' o _ => Q o H'
abbrev tO (G : Top) (C : Cl) (fr : Fr) (W : WX) (e : Option Ms.E) : TO := tG G fr W (evo G.P C fr e) KO
theorem PO.imp {e : Option Expr} {t t' : TO} (h : PO X e t) (w : ∀ σ H Q, t' σ H Q → t σ H Q) : PO X e t' := ⟨fun pins s σ H Q I q => h.run pins s σ H Q I (w σ H Q q)⟩
theorem so_none : PO X none (tO G C fr W none) := PO.imp po_none fun σ H Q ⟨φ, m, ρ, s, r, p⟩ => by
  simp only [evo] at p
  exact p.here s
theorem so_some {a : Expr} {a' : Ms.E} (ha : PE X a (tE G C fr W a')) : PO X (some a) (tO G C fr W (some a')) := by
  refine PO.imp (po_some ha) fun σ H Q h => ?_
  have h : tG G fr W (fun ρ m => (ev G.P C fr a' ρ m).bind fun x m => match x with | .int i => .ok (some i) m | _ => .bad) KO σ H Q := by
    obtain ⟨φ, m, ρ, s, r, p⟩ := h
    exact ⟨φ, m, ρ, s, r, by simp only [evo] at p; exact p⟩
  refine h.go fun φ H1 x m ρ s r p v rv => ?_
  split at p
  · cases vint rv
    exact ⟨_, rfl, p.here s⟩
  · exact p.elim
theorem SlR.imp {r' : V → Option Int → Option Int → Hp → VK → Prop} (h : ∀ x lo hi H Q, r' x lo hi H Q → ∃ r, SlR X r ∧ r x lo hi H Q) : SlR X r' := fun pins s σ H x v vl vu lo hi sl Q I rx hs pl pu q => by
  obtain ⟨r, hr, q⟩ := h x lo hi H Q q
  exact hr pins s σ H x v vl vu lo hi sl Q I rx hs pl pu q
theorem cut_R {l : List D} {vs : List V} {lo hi : Option Int} (r : ValsR G φ H l vs) : ValsR G φ H (cutL l lo hi) (cutV vs lo hi) := by
  unfold cutL cutV
  rw [r.length]
  exact (r.drop _).take _
theorem sl_ok : SlR X (fun x lo hi H Q => ∃ φ m d, SR G φ fr H m ∧ ValR G φ H d x ∧ Post G φ fr H (slice d lo hi m) (KD G Q) E) := SlR.imp fun x lo hi H Q ⟨φ, m, d, s, rd, p⟩ => by
  unfold slice at p
  split at p
  · rename_i l
    obtain ⟨a, vs, rfl, h1, h2⟩ := vtup rd
    refine ⟨_, sl_tupA, a, vs, rfl, SqT.of h1, fun hw => ?_, fun _ q hq => fin_tup s p hq (cut_R h2)⟩
    refine p.here s _ ?_
    rw [h2.length] at hw
    have e : cutL l lo hi = l := by
      unfold cutL
      rw [hw.1, hw.2, List.drop_zero, Nat.sub_zero, List.take_length]
    rw [e]
    exact rd
  · rename_i t
    cases vstr rd
    split at p
    · exact ⟨_, sl_str, t, rfl, sizeLim (by assumption), p.here s _ rstr⟩
    · exact p.elim
  · rename_i i
    obtain ⟨a, rfl, hi'⟩ := vref rd
    split at p
    · rename_i l hm
      obtain ⟨vs, h1, h2⟩ := at_lst s hi' hm
      exact ⟨_, sl_list, a, vs, rfl, SqL.of h1, fun q hq => fin_lst s p hq (cut_R h2)⟩
    · rename_i l hm
      obtain ⟨ob, vs, h1, h2⟩ := at_flst s hi' hm
      exact ⟨_, sl_list, a, vs, rfl, .inl (.inr ⟨_, h1⟩), fun q hq => fin_lst s p hq (cut_R h2)⟩
    · exact p.elim
  · exact p.elim
theorem SlR.at {lo hi : Option Expr} {e : Expr} {p2 pos : Pos} {t : L2.St → TE} (h : ∀ σ₀, PE X (.Subscript e (.Slice lo hi none p2) pos) (t σ₀)) : PE X (.Subscript e (.Slice lo hi none p2) pos) (fun σ H Q => t σ σ H Q) := PE.at h
theorem s_slc {a : Expr} {lo hi : Option Expr} {a' : Ms.E} {lo' hi' : Option Ms.E} {p2 pos : Pos} (ha : PE X a (tE G C fr W a')) (hl : PO X lo (tO G C fr W lo')) (hh : PO X hi (tO G C fr W hi')) :
    PE X (.Subscript a (.Slice lo hi none p2) pos) (tE G C fr W (.slc a' lo' hi')) := by
  refine PE.imp (PE.at fun σ₀ => pe_slice (sl_ok (G := G) (fr := fr) (E := EX G W σ₀)) ha hl hh) fun σ H Q h => ?_
  have h : tG G fr W (fun ρ m => (ev G.P C fr a' ρ m).bind fun x m => (evo G.P C fr lo' ρ m).bind fun l m => (evo G.P C fr hi' ρ m).bind fun h m => slice x l h m) (KD G) σ H Q := by
    obtain ⟨φ, m, ρ, s, r, p⟩ := h
    exact ⟨φ, m, ρ, s, r, by simp only [ev] at p; exact p⟩
  refine h.go fun φ H1 x m ρ s r p v rv => ?_
  refine ⟨φ, m, ρ, s, r, p.bind.mono (fun φ1 H2 l m1 e1 s1 p1 => ?_) fun _ _ _ _ _ _ _ q => q⟩
  refine ⟨φ1, m1, ρ, s1, r.ext e1 s.clean, p1.bind.mono (fun φ2 H3 u m2 e2 s2 p2 => ?_) fun _ _ _ _ _ _ _ q => q⟩
  exact ⟨φ2, m2, x, s2, (rv.ext e1 s.clean).ext e2 s1.clean, p2⟩
theorem s_rev {a : Expr} {a' : Ms.E} {k : Nat} {p1 p2 p3 pos : Pos} (ha : PE X a (tE G C fr W a')) : PE X (.Subscript a (.Slice none none (some (.UnaryOp .USub (.Constant (.int 1) k p1) p2)) p3) pos) (tE G C fr W (.rev a')) := by
  refine PE.imp (pe_revL ha) fun σ H Q h => ?_
  have h : tG G fr W (fun ρ m => (ev G.P C fr a' ρ m).bind fun x m => revOf x m) (KD G) σ H Q := by
    obtain ⟨φ, m, ρ, s, r, p⟩ := h
    exact ⟨φ, m, ρ, s, r, by simp only [ev] at p; exact p⟩
  refine h.go fun φ H1 x m ρ s r p v rv => ?_
  unfold revOf at p
  split at p
  · obtain ⟨a, rfl, hi'⟩ := vref rv
    split at p
    · rename_i l hm
      obtain ⟨vs, h1, h2⟩ := at_lst s hi' hm
      exact ⟨a, vs, rfl, SqL.of h1, fun q hq => fin_lst s p hq h2.reverse⟩
    · exact p.elim
  · exact p.elim

/-! ### displays -/
theorem s_tup {es : List Expr} {l : List Ms.E} {k : Nat} {pos : Pos} (ha : PA X es (tA G C fr W l)) : PE X (.Tuple es k pos) (tE G C fr W (.tup l)) := by
  refine PE.imp (pe_tup ha) fun σ H Q h => ?_
  refine args_go (f := fun ds m => if ds.length ≤ lim then .ok (.tup ds) m else .bad) (by funext ρ m; simp only [ev]) h fun φ H1 ds m vs s rs p => ?_
  split at p
  · exact ⟨by rw [rs.length]; exact sizeLim (by assumption), fun q hq => fin_tup s p hq rs⟩
  · exact p.elim
theorem s_lst {es : List Expr} {l : List Ms.E} {pos : Pos} (ha : PA X es (tA G C fr W l)) : PE X (.List es pos) (tE G C fr W (.lst l)) := by
  refine PE.imp (pe_lst ha) fun σ H Q h => ?_
  refine args_go (f := fun ds m => newL ds m) (by funext ρ m; simp only [ev]) h fun φ H1 ds m vs s rs p => ?_
  unfold newL at p
  split at p
  · exact ⟨by rw [rs.length]; exact sizeLim (by assumption), fun q hq => fin_lst s p hq rs⟩
  · exact p.elim
theorem s_dnew {t : Nat} {pos : Pos} (ht : t = 0 ∨ t = 1) : PE X (.Dict [] [] pos) (tE G C fr W (.dnew t)) := by
  rcases ht with rfl | rfl
  · refine PE.imp pe_dnewK fun σ H Q ⟨φ, m, ρ, s, r, p⟩ => ?_
    simp only [ev] at p
    exact fun q hq => fin_new s p hq fun φ' e => ⟨[], upd_same, rfl⟩
  · refine PE.imp pe_dnewT fun σ H Q ⟨φ, m, ρ, s, r, p⟩ => ?_
    simp only [ev] at p
    exact fun q hq => fin_new s p hq fun φ' e => ⟨[], upd_same, rfl⟩
end
end Ms

-- So9
set_option linter.all false
set_option Elab.async false
set_option maxRecDepth 10000
/-! Methods of lists, tests. -/
namespace Ms
open PySem L2 PySem.Spec PyProof.Rows
def mtN : Mt → Str
  | .append => "append" | .extend => "extend" | .index => "index" | _ => "append"
def mtI : Mt → String
  | .append => "list.append" | .extend => "list.extend" | .index => "list.index" | _ => "list.append"
def mtB : Mt → Bool
  | .append | .extend | .index => true
  | _ => false
section
variable {G : Top} {C : Cl} {fr : Fr} {W : WX} {X : Cx} {n : Nat} {σ : L2.St} {H : Hp} {E : KX} {φ : List Gh} {m : Mem}
theorem slot_m : ∀ f : Mt, Slot "list" (mtN f) (mtI f)
  | .append => PySem.F.slot_list_append
  | .extend => PySem.F.slot_list_extend
  | .index => PySem.F.slot_list_index
  | .pop0 => PySem.F.slot_list_append | .pop => PySem.F.slot_list_append | .insert => PySem.F.slot_list_append | .values => PySem.F.slot_list_append | .items => PySem.F.slot_list_append
  | .get => PySem.F.slot_list_append | .join => PySem.F.slot_list_append | .split => PySem.F.slot_list_append | .upper => PySem.F.slot_list_append | .replace => PySem.F.slot_list_append
  | .count => PySem.F.slot_list_append | .bitLength => PySem.F.slot_list_append | .update => PySem.F.slot_list_append
theorem type_m : ∀ f : Mt, typeOf (.builtin (mtI f)) = pure (.type "method_descriptor")
  | .append => PySem.F.type_list_append
  | .extend => PySem.F.type_list_extend
  | .index => PySem.F.type_list_index
  | .pop0 => PySem.F.type_list_append | .pop => PySem.F.type_list_append | .insert => PySem.F.type_list_append | .values => PySem.F.type_list_append | .items => PySem.F.type_list_append
  | .get => PySem.F.type_list_append | .join => PySem.F.type_list_append | .split => PySem.F.type_list_append | .upper => PySem.F.type_list_append | .replace => PySem.F.type_list_append
  | .count => PySem.F.type_list_append | .bitLength => PySem.F.type_list_append | .update => PySem.F.type_list_append
theorem MtR.imp {id : String} {r' : V → List V → Hp → VK → Prop} (h : ∀ x xs H Q, r' x xs H Q → ∃ r, MtR X id r ∧ r x xs H Q) : MtR X id r' := fun pins s σ H x xs v us Q I rx rs q => by
  obtain ⟨r, hr, q⟩ := h x xs H Q q
  exact hr pins s σ H x xs v us Q I rx rs q
theorem SR.app {i : Nat} {a : Addr} {l l' : List D} {vs : List V} (s : SR G φ fr H m) (hi : φ[i]? = some (.adr a)) (hm : m[i]? = some (.lst l)) (r : ValsR G φ H l' vs) : Ext φ H φ (upd H a (.lst vs)) ∧ SR G φ fr (upd H a (.lst vs)) (m.set i (.lst l')) := by
  obtain ⟨us, h1, h2⟩ := at_lst s hi hm
  have e : Ext φ H φ (upd H a (.lst vs)) := ext_set hi h1 rfl (fun _ _ z => by cases z)
  exact ⟨e, s.set hi (ob_lst upd_same (r.ext e s.clean))⟩
theorem fin_set {i : Nat} {a : Addr} {l l' : List D} {vs : List V} {Q : VK} (s : SR G φ fr H m) (hi : φ[i]? = some (.adr a)) (hm : m[i]? = some (.lst l)) (r : ValsR G φ H l' vs) (p : Post G φ fr H (.ok .non (m.set i (.lst l'))) (KD G Q) E) :
    Q .non (upd H a (.lst vs)) := by
  obtain ⟨e, s'⟩ := s.app hi hm r
  exact p φ _ e s' _ rnon
theorem items_R {d : D} {l : List D} {v : V} {K : PySem.W.Frag} (s : SR G φ fr H m) (r : ValR G φ H d v) (h : items m d = some l) : ∃ a vs, v = .ref a ∧ ValsR G φ H l vs ∧ (SqL K H a vs ∨ SqT K H a vs) ∧ ((∃ i, d = .ref i ∧ m[i]? = some (.lst l) ∧ H a = some (.lst vs)) ∨ (d = .tup l ∧ H a = some (.tup vs))) := by
  cases d with
  | tup ds =>
    cases h
    obtain ⟨a, vs, rfl, h1, h2⟩ := vtup r
    exact ⟨a, vs, rfl, h2, .inr (SqT.of h1), .inr ⟨rfl, h1⟩⟩
  | ref i =>
    obtain ⟨a, rfl, hi⟩ := vref r
    simp only [items] at h
    split at h
    · rename_i l' hm
      cases h
      obtain ⟨vs, h1, h2⟩ := at_lst s hi hm
      exact ⟨a, vs, rfl, h2, .inl (SqL.of h1), .inl ⟨i, rfl, hm, h1⟩⟩
    · cases h
  | _ => cases h
theorem mt_ok (hr : Room n X.A) (f : Mt) (hf : mtB f = true) : MtR X (mtI f) (fun x xs H Q => ∃ φ m d ds, SR G φ fr H m ∧ ValR G φ H d x ∧ ValsR G φ H ds xs ∧ Post G φ fr H (meth f d ds m) (KD G Q) E) := MtR.imp fun x xs H Q ⟨φ, m, d, ds, s, rd, rds, p⟩ => by
  unfold meth at p
  split at p
  · rename_i i
    obtain ⟨a, rfl, hi⟩ := vref rd
    split at p
    · rename_i l hm
      obtain ⟨vs, h1, h2⟩ := at_lst s hi hm
      split at p
      · obtain ⟨v, rfl, rv⟩ := vals_one rds
        split at p
        · exact ⟨_, mt_append, a, vs, v, rfl, rfl, h1, by rw [h2.length]; exact sizeLim' (by assumption), fin_set s hi hm (h2.append (.one rv)) p⟩
        · exact p.elim
      · obtain ⟨v, rfl, rv⟩ := vals_one rds
        obtain ⟨b, rfl, hj⟩ := vref rv
        split at p
        · rename_i y hy
          split at p
          · obtain ⟨us, q3, q1⟩ := at_lst s hj hy
            exact ⟨_, mt_extend, a, b, vs, us, rfl, rfl, h1, q3, by rw [h2.length, q1.length]; exact sizeLim (by assumption), fin_set s hi hm (h2.append q1) p⟩
          · exact p.elim
        · exact p.elim
      · obtain ⟨v, rfl, rv⟩ := vals_one rds
        split at p
        · rename_i pd pds e1 e2
          split at p
          · rename_i j hj
            obtain ⟨a1, a2, a3⟩ := data_ok (K := X.K) s 20 _ v pd rv e1
            obtain ⟨b1, b2, b3⟩ := datas_ok (data_ok (K := X.K) s 20) l vs pds h2 e2
            have sh := shaped_ok a2 a3
            have sh2 : SeqAt.shaped (.list pds) = true := by
              unfold SeqAt.shaped
              simp only [PyData.canLay0, b2, Bool.true_and]
              exact decide_eq_true (Nat.le_trans (Nat.succ_le_succ b3) (by decide))
            obtain ⟨z, hz, e3, e4⟩ : ∃ z, pds[j]? = some z ∧ PyData.eqv z pd = true ∧ ∀ (k : Nat) (z' : PyData), k < j → pds[k]? = some z' → PyData.eqv z' pd = false := by
              obtain ⟨h3, h4, h5⟩ := List.findIdx?_eq_some_iff_getElem.mp hj
              exact ⟨pds[j], by simp, h4, fun k z' hk hz => by
                have := h5 k hk
                obtain ⟨hk2, e⟩ := List.getElem?_eq_some_iff.mp hz
                rw [e] at this
                simpa using this⟩
            exact ⟨_, mt_indexD (hu65 hr), a, v, pd, pds, j, z, rfl, rfl, .lst (SqL.of h1) b1, a1, sh2, sh, hz, e3, e4, p.here s _ rint⟩
          · exact p.elim
        · exact p.elim
      · exact p.elim
    · exact p.elim
  · exact p.elim
theorem few_ok {e : Expr} {es : List Expr} {env : PySem.Env} {cpos : Pos} (h : ∀ x ∈ e :: es, NoStar x) (hl : es.length ≤ 20) : ((backTo cpos (starEach (e :: es) env)).all (fun x => !x.1) && (backToKw cpos (keywordEach [] env)).all (fun x => x.1.isSome)
      && decide ((e :: es).length + ([] : List Keyword).length + (if ([] : List Keyword).isEmpty then 0 else 1) < 30)) = true := by
  have a := star_plain (env := env) (pos := cpos) h
  have b : (backTo cpos (starEach (e :: es) env)).all (fun x => !x.1) = true := by
    rw [List.all_eq_true]
    intro x hx
    rw [List.any_eq_false] at a
    simpa using a x hx
  rw [b]
  show (true && true && decide _) = true
  simp only [Bool.true_and, List.length_cons, List.length_nil, List.isEmpty_nil, if_true, decide_eq_true_eq]
  omega
theorem s_bits {o : Expr} {o' : Ms.E} {apos cpos : Pos} (hb : attributeBase o "bit_length" X.env (eval o X.env) = eval o X.env) (hline : (apos.endLine == cpos.line) = true) (ho : PE X o (tE G C fr W o')) : PE X (.Call (.Attribute o "bit_length" apos) [] [] cpos) (tE G C fr W (.omt "bit_length" o' [])) := by
  refine PE.imp (pe_bits ho hb hline) fun σ H Q h => ?_
  have h : tG G fr W (fun ρ m => (ev G.P C fr o' ρ m).bind fun x m => ometh "bit_length" x 0 m) (KD G) σ H Q := by
    obtain ⟨φ, m, ρ, s, r, p⟩ := h
    exact ⟨φ, m, ρ, s, r, by simp only [ev] at p; exact p⟩
  refine h.go fun φ H1 x m ρ s r p v rv => ?_
  unfold ometh at p
  split at p
  · cases vint rv
    rw [if_pos ⟨rfl, rfl⟩] at p
    exact ⟨_, rfl, p.here s _ rint⟩
  · exact p.elim
theorem s_mth {o e : Expr} {es : List Expr} {f : Mt} {o' : Ms.E} {l : List Ms.E} {apos cpos : Pos} (xo : XO G X n W) (hf : mtB f = true) (hb : attributeBase o (mtN f) X.env (eval o X.env) = eval o X.env) (hline : (apos.endLine == cpos.line) = true) (hl : es.length ≤ 20)
    (hst : ∀ x ∈ e :: es, NoStar x) (ho : PE X o (tE G C fr W o')) (ha : PA X (e :: es) (tA G C fr W l)) : PE X (.Call (.Attribute o (mtN f) apos) (e :: es) [] cpos) (tE G C fr W (.mth f o' l)) := by
  refine PE.imp (PE.at fun σ₀ => pe_bm PySem.F.plainAttrs_list (slot_m f) (type_m f) (mt_ok (G := G) (fr := fr) (E := EX G W σ₀) xo.room f hf) ho ha hb (few_ok hst hl) hline (starEach_cons (hst e List.mem_cons_self)) (star_plain fun x hx => hst x (List.mem_cons_of_mem _ hx))) fun σ H Q h => ?_
  have h : tG G fr W (fun ρ m => (ev G.P C fr o' ρ m).bind fun x m => if recv f m x then (evs G.P C fr l ρ m).bind fun ds m => meth f x ds m else .bad) (KD G) σ H Q := by
    obtain ⟨φ, m, ρ, s, r, p⟩ := h
    exact ⟨φ, m, ρ, s, r, by simp only [ev] at p; exact p⟩
  refine h.go fun φ H1 x m ρ s r p v rv => ?_
  split at p
  · rename_i hr
    refine ⟨?_, φ, m, ρ, s, r, p.bind.mono (fun φ1 H2 ds m1 e1 s1 p1 vs rs => ⟨φ1, m1, x, ds, s1, rv.ext e1 s.clean, rs, p1⟩) fun _ _ _ _ _ _ _ q => q⟩
    cases x with
    | ref i =>
      obtain ⟨a, rfl, hi⟩ := vref rv
      simp only [recv] at hr
      split at hr
      · rename_i l' hm
        obtain ⟨vs, h1, h2⟩ := at_lst s hi hm
        exact .inl ⟨rfl, vs, SqL.of h1⟩
      · cases hr
    | _ => cases hr
  · exact p.elim
end
end Ms

-- So10
set_option linter.all false
set_option Elab.async false
set_option maxRecDepth 10000
/-! What is walked. -/
namespace Ms
open PySem L2 PySem.Spec PyProof.Rows
def ItR (G : Top) (fr : Fr) (φ : List Gh) (H : Hp) (s : Src) (n : Nat) (J : It) : Prop := ∀ φ' H' m', Ex1 φ H φ' H' → SR G φ' fr H' m' → s.ok m' n = true → J.stop n H' ∧ ∀ i, i < n → J.go i H' ∧
  ∀ x H'' d, J.yld i H' x H'' → s.at m' n i = some d → Ext φ' H' φ' H'' ∧ SR G φ' fr H'' m' ∧ ValR G φ' H'' d x
def KI (G : Top) (fr : Fr) (k : ItK) (R : It → Hp → Prop) : KT (List D) := fun φ1 H1 ds m1 => ∃ s n, src fr m1 k ds = some (s, n) ∧ ∀ J, ItR G fr φ1 H1 s n J → R J H1
abbrev tI (G : Top) (C : Cl) (fr : Fr) (W : WX) (k : ItK) (l : List Ms.E) : TI := tG G fr W (evs G.P C fr l) (KI G fr k)
theorem PI.imp {X : Cx} {tg e : Expr} {t t' : TI} (h : PI X tg e t) (w : ∀ σ H Q, t' σ H Q → t σ H Q) : PI X tg e t' := ⟨fun pins s σ H Q I q => h.run pins s σ H Q I (w σ H Q q)⟩
section
variable {G : Top} {C : Cl} {fr : Fr} {W : WX} {X : Cx} {n : Nat} {σ : L2.St} {H : Hp} {E : KX} {φ : List Gh} {m : Mem}
theorem lst_at {p n : Nat} {a : Addr} (s : SR G φ fr H m) (hi : φ[p]? = some (.adr a)) (h : lstN m p n = true) : ∃ l vs, lstAt m p = some l ∧ l.length = n ∧ H a = some (.lst vs) ∧ ValsR G φ H l vs := by
  unfold lstN at h
  split at h
  · rename_i l hl
    refine ⟨l, ?_⟩
    unfold lstAt at hl
    split at hl
    · rename_i l' hm
      cases hl
      obtain ⟨vs, h1, h2⟩ := at_lst s hi hm
      exact ⟨vs, by unfold lstAt; rw [hm], beq_iff_eq.mp h, h1, h2⟩
    · cases hl
  · cases h
theorem get_R {l : List D} {vs : List V} {i : Nat} {d : D} {x : V} (r : ValsR G φ H l vs) (hd : l[i]? = some d) (hx : vs[i]? = some x) : ValR G φ H d x := by
  obtain ⟨v, h1, h2⟩ := r.get hd
  rw [hx] at h1
  cases h1
  exact h2
theorem len_get {l : List D} {vs : List V} {i n : Nat} (r : ValsR G φ H l vs) (hl : l.length = n) (hi : i < n) : ∃ x, vs[i]? = some x := by
  have := r.length
  exact ⟨vs[i], by simp⟩
theorem new_pair {T : Addr} {d e : D} {x y : V} (s : SR G φ fr H m) (hT : H T = none) (rd : ValR G φ H d x) (re : ValR G φ H e y) : Ext φ H φ (upd H T (.tup [x, y])) ∧ SR G φ fr (upd H T (.tup [x, y])) m ∧ ValR G φ (upd H T (.tup [x, y])) (.tup [d, e]) (.ref T) := by
  have e1 : Ext φ H φ (upd H T (.tup [x, y])) := ext_same (same_new hT)
  exact ⟨e1, s.grow (same_new hT), rtup upd_same (.cons (rd.ext e1 s.clean) (.one (re.ext e1 s.clean)))⟩
theorem it_live {p n : Nat} {a : Addr} {K : PySem.W.Frag} (hi : φ[p]? = some (.adr a)) : ItR G fr φ H (.live p) n (Itl K a) := fun φ' H' m' e s hk => by
  obtain ⟨l, vs, h1, h2, h3, h4⟩ := lst_at s (e.pre _ _ hi) hk
  refine ⟨⟨vs, SqL.of h3, by rw [h4.length, h2]; exact Nat.le_refl _⟩, fun i hin => ?_⟩
  obtain ⟨x, hx⟩ := len_get h4 h2 hin
  refine ⟨⟨vs, x, SqL.of h3, hx⟩, fun y H'' d hy hd => ?_⟩
  obtain ⟨rfl, hy⟩ := hy
  have hd : l[i]? = some d := by
    have : (Src.live p).at m' n i = l[i]? := by show (lstAt m' p).bind _ = _; rw [h1]; rfl
    rw [← this]; exact hd
  exact ⟨.refl, s, get_R h4 hd (hy vs (SqL.of h3))⟩
theorem it_rev {p n : Nat} {a : Addr} {K : PySem.W.Frag} (hi : φ[p]? = some (.adr a)) : ItR G fr φ H (.rev p) n (Itv K a n) := fun φ' H' m' e s hk => by
  obtain ⟨l, vs, h1, h2, h3, h4⟩ := lst_at s (e.pre _ _ hi) hk
  refine ⟨Nat.le_refl _, fun i hin => ?_⟩
  obtain ⟨x, hx⟩ := len_get h4 h2 (i := n - 1 - i) (by omega)
  refine ⟨⟨hin, vs, x, SqL.of h3, hx⟩, fun y H'' d hy hd => ?_⟩
  obtain ⟨rfl, hy⟩ := hy
  have hd : l[n - 1 - i]? = some d := by
    have : (Src.rev p).at m' n i = l[n - 1 - i]? := by show (lstAt m' p).bind _ = _; rw [h1]; rfl
    rw [← this]; exact hd
  exact ⟨.refl, s, get_R h4 hd (hy vs (SqL.of h3))⟩
theorem it_enum {p n : Nat} {a : Addr} {K : PySem.W.Frag} (hi : φ[p]? = some (.adr a)) : ItR G fr φ H (.enum p) n (Ite K a) := fun φ' H' m' e s hk => by
  obtain ⟨l, vs, h1, h2, h3, h4⟩ := lst_at s (e.pre _ _ hi) hk
  refine ⟨⟨vs, SqL.of h3, by rw [h4.length, h2]; exact Nat.le_refl _⟩, fun i hin => ?_⟩
  obtain ⟨x, hx⟩ := len_get h4 h2 hin
  refine ⟨⟨vs, x, SqL.of h3, hx⟩, fun y H'' d hy hd => ?_⟩
  obtain ⟨T, z, rfl, hT, rfl, hy⟩ := hy
  have hd : (l[i]?).map (fun d => D.tup [.int i, d]) = some d := by
    have : (Src.enum p).at m' n i = (l[i]?).map (fun d => D.tup [.int i, d]) := by show ((lstAt m' p).bind _).map _ = _; rw [h1]; rfl
    rw [← this]; exact hd
  obtain ⟨d', hd', rfl⟩ := Option.map_eq_some_iff.mp hd
  exact new_pair s hT rint (get_R h4 hd' (hy vs (SqL.of h3)))
theorem it_zipL {p q n : Nat} {a b : Addr} {K : PySem.W.Frag} (hi : φ[p]? = some (.adr a)) (hj : φ[q]? = some (.adr b)) : ItR G fr φ H (.zipL p q) n (Itz K a b) := fun φ' H' m' e s hk => by
  obtain ⟨hk1, hk2⟩ := Bool.and_eq_true_iff.mp hk
  obtain ⟨l, vs, h1, h2, h3, h4⟩ := lst_at s (e.pre _ _ hi) hk1
  obtain ⟨l', vs', g1, g2, g3, g4⟩ := lst_at s (e.pre _ _ hj) hk2
  refine ⟨⟨vs, vs', SqL.of h3, SqL.of g3, .inl (by rw [h4.length, h2]; exact Nat.le_refl _)⟩, fun i hin => ?_⟩
  obtain ⟨x, hx⟩ := len_get h4 h2 hin
  obtain ⟨x', hx'⟩ := len_get g4 g2 hin
  refine ⟨⟨vs, vs', x, x', SqL.of h3, SqL.of g3, hx, hx'⟩, fun y H'' d hy hd => ?_⟩
  obtain ⟨T, z, z', rfl, hT, rfl, hy, hy'⟩ := hy
  have hd : (l[i]?).bind (fun d => (l'[i]?).map fun e => D.tup [d, e]) = some d := by
    have : (Src.zipL p q).at m' n i = (l[i]?).bind (fun d => (l'[i]?).map fun e => D.tup [d, e]) := by
      show ((lstAt m' p).bind _).bind (fun d => ((lstAt m' q).bind _).map _) = _
      rw [h1, g1]
      rfl
    rw [← this]; exact hd
  obtain ⟨d1, hd1, hd⟩ := Option.bind_eq_some_iff.mp hd
  obtain ⟨d2, hd2, rfl⟩ := Option.map_eq_some_iff.mp hd
  exact new_pair s hT (get_R h4 hd1 (hy vs (SqL.of h3))) (get_R g4 hd2 (hy' vs' (SqL.of g3)))
theorem it_zipT {x y : List D} {n : Nat} {a b : Addr} {vs us : List V} {K : PySem.W.Frag} (s0 : SR G φ fr H m) (hx : H a = some (.tup vs)) (rx : ValsR G φ H x vs) (hy : H b = some (.tup us)) (ry : ValsR G φ H y us) : ItR G fr φ H (.zipT x y) n (RZ.ItzT K a b) := fun φ' H' m' e s hk => by
  obtain ⟨hk1, hk2⟩ := Bool.and_eq_true_iff.mp hk
  have h2 := beq_iff_eq.mp hk1
  have g2 := beq_iff_eq.mp hk2
  have h3 : H' a = some (.tup vs) := e.toEx0.imm s0.clean hx rfl fun _ z => by cases z
  have g3 : H' b = some (.tup us) := e.toEx0.imm s0.clean hy rfl fun _ z => by cases z
  have h4 := ValsR.ext0 e.toEx0 s0.clean _ _ rx
  have g4 := ValsR.ext0 e.toEx0 s0.clean _ _ ry
  refine ⟨⟨vs, us, SqT.of h3, SqT.of g3, .inl (by rw [h4.length, h2]; exact Nat.le_refl _)⟩, fun i hin => ?_⟩
  obtain ⟨z, hz⟩ := len_get h4 h2 hin
  obtain ⟨z', hz'⟩ := len_get g4 g2 hin
  refine ⟨⟨vs, us, z, z', SqT.of h3, SqT.of g3, hz, hz'⟩, fun w H'' d hw hd => ?_⟩
  obtain ⟨T, c, c', rfl, hT, rfl, hv, hu⟩ := hw
  obtain ⟨d1, hd1, hd⟩ := Option.bind_eq_some_iff.mp (show (x[i]?).bind (fun d => (y[i]?).map fun e => D.tup [d, e]) = some d from hd)
  obtain ⟨d2, hd2, rfl⟩ := Option.map_eq_some_iff.mp hd
  exact new_pair s hT (get_R h4 hd1 (hv vs (SqT.of h3))) (get_R g4 hd2 (hu us (SqT.of g3)))
theorem it_tup {l : List D} {n : Nat} {a : Addr} {vs : List V} {K : PySem.W.Frag} (s0 : SR G φ fr H m) (hx : H a = some (.tup vs)) (rx : ValsR G φ H l vs) : ItR G fr φ H (.fix l) n (Itt K a) := fun φ' H' m' e s hk => by
  have h2 := beq_iff_eq.mp hk
  have h3 : H' a = some (.tup vs) := e.toEx0.imm s0.clean hx rfl fun _ z => by cases z
  have h4 := ValsR.ext0 e.toEx0 s0.clean _ _ rx
  refine ⟨⟨vs, SqT.of h3, by rw [h4.length, h2]; exact Nat.le_refl _⟩, fun i hin => ?_⟩
  obtain ⟨x, hx⟩ := len_get h4 h2 hin
  refine ⟨⟨vs, x, SqT.of h3, hx⟩, fun y H'' d hy hd => ?_⟩
  obtain ⟨rfl, hy⟩ := hy
  exact ⟨.refl, s, get_R h4 hd (hy vs (SqT.of h3))⟩
theorem it_rng {lo hi : Int} {n : Nat} (hn : n = (hi - lo).toNat) : ItR G fr φ H (.fix (rngL lo hi)) n (Itr lo n) := fun φ' H' m' e s hk => by
  refine ⟨Nat.le_refl _, fun i hin => ⟨hin, fun y H'' d hy hd => ?_⟩⟩
  obtain ⟨rfl, rfl⟩ := hy
  have hd : (rngL lo hi)[i]? = some d := hd
  unfold rngL at hd
  rw [List.getElem?_map, List.getElem?_range (by omega)] at hd
  cases hd
  exact ⟨.refl, s, rint⟩
theorem kv_get {κ : Type} {f : D → Option κ} : ∀ {l : List (D × D)} {kvs : List (κ × V)} {i : Nat} {k : κ} {v : V} {d : D}, KvR G φ H f l kvs → kvs[i]? = some (k, v) → (l.map (·.1))[i]? = some d → f d = some k
  | [], _, _, _, _, _, h, e, _ => by rw [show _ = [] from h] at e; simp at e
  | (x, y) :: l, _, 0, k, v, d, h, e, q => by
    obtain ⟨k', v', s, rfl, h2, _, _⟩ := h
    simp at e q
    obtain ⟨rfl, rfl⟩ := e
    subst q
    exact h2
  | (x, y) :: l, _, i + 1, k, v, d, h, e, q => by
    obtain ⟨k', v', s, rfl, _, _, h4⟩ := h
    exact kv_get (i := i) h4 (by simpa using e) (by simpa using q)
theorem keyV_val {d : D} {k : Key} (h : keyV d = some k) : ValR G φ H d (kV k) := by
  cases d with
  | int i => cases h; exact rint
  | str x => cases h; exact rstr
  | _ => cases h
theorem keysV_val : ∀ {l : List D} {ks : List Key}, l.mapM keyV = some ks → ValsR G φ H l (ks.map kV)
  | [], _, h => by cases h; exact .nil
  | d :: l, _, h => by
    obtain ⟨b, bs, rfl, h1, h2⟩ := mapM_cons_some h
    exact .cons (keyV_val h1) (keysV_val h2)
theorem it_keys {l : List (D × D)} {n : Nat} {a : Addr} {o : Obj} {kvs : List (Key × V)} (s0 : SR G φ fr H m) (hx : H a = some (.frz o (.dK kvs))) (rx : KvR G φ H keyV l kvs) : ItR G fr φ H (.fix (l.map (·.1))) n (Itk a o kvs) := fun φ' H' m' e s hk => by
  have h2 : (l.map (·.1)).length = n := beq_iff_eq.mp hk
  rw [List.length_map] at h2
  have h3 := e.frz a o _ hx
  have hl := kv_len rx
  refine ⟨⟨h3, by omega⟩, fun i hin => ⟨⟨h3, by omega⟩, fun y H'' d hy hd => ?_⟩⟩
  obtain ⟨rfl, k, v, hkv, rfl⟩ := hy
  exact ⟨.refl, s, keyV_val (kv_get rx hkv hd)⟩
theorem it_keysT {l : List (D × D)} {n : Nat} {a : Addr} {o : Obj} {kvs : List (List Key × V)} (s0 : SR G φ fr H m) (hx : H a = some (.frz o (.dT kvs))) (rx : KvR G φ H keysV l kvs) : ItR G fr φ H (.fix (l.map (·.1))) n (Itkt a o kvs) := fun φ' H' m' e s hk => by
  have h2 : (l.map (·.1)).length = n := beq_iff_eq.mp hk
  rw [List.length_map] at h2
  have h3 := e.frz a o _ hx
  have hl := kv_len rx
  refine ⟨⟨h3, by omega⟩, fun i hin => ⟨⟨h3, by omega⟩, fun y H'' d hy hd => ?_⟩⟩
  obtain ⟨rfl, k, v, q, hkv, rfl, hq⟩ := hy
  have := kv_get rx hkv hd
  cases d with
  | tup ds => exact ⟨.refl, s, rtup hq (keysV_val this)⟩
  | _ => cases this

/-! ### the iterables -/
variable {tg e : Expr} {e' : Ms.E}
def iVal (K : PySem.W.Frag) (te : TE) : TI := fun σ H R => te σ H fun x H1 => ∃ a, x = .ref a ∧ ((∃ xs, SqL K H1 a xs) ∧ R (Itl K a) H1 ∨ (∃ xs, SqT K H1 a xs) ∧ R (Itt K a) H1 ∨ ∃ o, ((∃ kvs, H1 a = some (.frz o (.dK kvs)) ∧ R (Itk a o kvs) H1) ∨ ∃ kvs, H1 a = some (.frz o (.dT kvs)) ∧ R (Itkt a o kvs) H1))
theorem pi_val {te : TE} (he : PE X e te) : PI X tg e (iVal X.K te) := by
  refine ⟨fun pins s σ H R I h => ?_⟩
  refine thn (he.run pins s σ H _ I h) fun u s1 ⟨x, H1, I1, rx, a, ex, q⟩ => ?_
  subst ex
  obtain rfl : u = Value.ref a := rx
  rcases q with ⟨⟨xs, hq⟩, q⟩ | ⟨⟨xs, hq⟩, q⟩ | ⟨o, q⟩
  · obtain ⟨its, rv, p, hz⟩ := I1.list hq
    exact wpAny_pyIter_list p.isList (pi_one (tk := s1.toks) I1 _ (turn_list a _) ⟨_, Heap.get?_push_size _ rfl, rfl, rfl⟩ q)
  · obtain ⟨its, rv, p, hz⟩ := I1.tuple hq
    exact wpAny_pyIter_tuple (show s1.heap.IsTuple a its.toArray from p) (pi_one (tk := s1.toks) I1 _ (turn_tuple a _) ⟨_, Heap.get?_push_size _ rfl, rfl, rfl⟩ q)
  · rcases q with ⟨kvs, hd, q⟩ | ⟨kvs, hd, q⟩
    · obtain ⟨hs, hgd, hx, es, ep, vs, hdt, hsz, kv, hm⟩ := I1.frzK hd
      refine iter_keys hs hgd hx hdt (pi_one (tk := s1.toks) I1 _ (turn_keys _ hdt) ⟨_, Heap.get?_push_size _ rfl, rfl, ?_⟩ q)
      rw [hsz] <;> rfl
    · obtain ⟨hs, hgd, hx, es, ep, hdt, hsz, ent⟩ := I1.frzT hd
      refine iter_keys hs hgd hx hdt (pi_one (tk := s1.toks) I1 _ (turn_keysT _ hdt) ⟨_, Heap.get?_push_size _ rfl, rfl, ?_⟩ q)
      rw [hsz] <;> rfl
theorem evs_one {P : Prog} {ρ : Env} {m : Mem} : evs P C fr [e'] ρ m = (ev P C fr e' ρ m).bind fun x m => .ok [x] m := by
  simp only [evs]
  cases ev P C fr e' ρ m <;> rfl
theorem i_val (he : PE X e (tE G C fr W e')) : PI X tg e (tI G C fr W .one [e']) := by
  refine PI.imp (pi_val he) fun σ H R h => ?_
  have h : tG G fr W (fun ρ m => (ev G.P C fr e' ρ m).bind fun x m => .ok [x] m) (KI G fr .one) σ H R := by
    obtain ⟨φ, m, ρ, s, r, p⟩ := h
    exact ⟨φ, m, ρ, s, r, by rw [evs_one] at p; exact p⟩
  refine h.go fun φ H1 x m ρ s r p v rv => ?_
  obtain ⟨sc, k, hs, hj⟩ := p.here s
  cases x with
  | tup l =>
    obtain ⟨a, vs, rfl, h1, h2⟩ := vtup rv
    cases hs
    exact ⟨a, rfl, .inr (.inl ⟨⟨vs, SqT.of h1⟩, hj _ (it_tup s h1 h2)⟩)⟩
  | ref p =>
    obtain ⟨a, rfl, hi⟩ := vref rv
    simp only [src] at hs
    split at hs
    · rename_i l hm
      cases hs
      obtain ⟨vs, h1, h2⟩ := at_lst s hi hm
      exact ⟨a, rfl, .inl ⟨⟨vs, SqL.of h1⟩, hj _ (it_live hi)⟩⟩
    · rename_i t l hm
      split at hs
      · rename_i hl
        cases hs
        have o := s.at_ hi hm
        rw [hl] at o
        match t, o with
        | 0, ⟨kvs, ⟨ob, h1⟩, h2⟩ => exact ⟨a, rfl, .inr (.inr ⟨ob, .inl ⟨kvs, h1, hj _ (it_keys s h1 h2)⟩⟩)⟩
        | 1, ⟨kvs, ⟨ob, h1⟩, h2⟩ => exact ⟨a, rfl, .inr (.inr ⟨ob, .inr ⟨kvs, h1, hj _ (it_keysT s h1 h2)⟩⟩)⟩
      · cases hs
    · cases hs
  | _ => cases hs
theorem small_R {i : Int} (h : small i = true) : -(2 ^ 62) ≤ i ∧ i < 2 ^ 62 := by
  unfold small at h
  have := of_decide_eq_true h
  omega
theorem i_go {l : List Ms.E} {k : ItK} {R : It → Hp → Prop} {Q : List V → Hp → Prop} (h : tI G C fr W k l σ H R) (w : ∀ φ H ds m vs s n, SR G φ fr H m → ValsR G φ H ds vs → src fr m k ds = some (s, n) → (∀ J, ItR G fr φ H s n J → R J H) → Q vs H) : tA G C fr W l σ H Q := by
  obtain ⟨φ, m, ρ, s, r, p⟩ := h
  refine ⟨φ, m, ρ, s, r, p.mono (fun φ1 H1 ds m1 e s1 p1 vs rs => ?_) fun _ _ _ _ _ _ _ q => q⟩
  obtain ⟨sc, k, hs, hj⟩ := p1
  exact w φ1 H1 ds m1 vs sc k s1 rs hs hj
theorem lstAt_some {p : Nat} {l : List D} (h : lstAt m p = some l) : m[p]? = some (.lst l) := by
  unfold lstAt at h
  split at h
  · rename_i h2; cases h; exact h2
  · cases h
theorem src_rng {ds : List D} {s : Src} {n : Nat} (h : src fr m .rng ds = some (s, n)) : (∃ j, ds = [.int j] ∧ small j = true ∧ s = .fix (rngL 0 j) ∧ n = j.toNat) ∨ ∃ i j, ds = [.int i, .int j] ∧ small i = true ∧ small j = true ∧ s = .fix (rngL i j) ∧ n = (j - i).toNat := by
  unfold src at h
  split at h
  all_goals (try (rename_i hk; first | cases hk | skip))
  all_goals (try cases h)
  all_goals (try (split at h))
  all_goals (try cases h)
  all_goals first
    | exact .inl ⟨_, rfl, by assumption, rfl, rfl⟩
    | (rename_i hs; obtain ⟨h1, h2⟩ := Bool.and_eq_true_iff.mp hs; exact .inr ⟨_, _, rfl, h1, h2, rfl, rfl⟩)
theorem src_enum {ds : List D} {s : Src} {n : Nat} (h : src fr m .enum ds = some (s, n)) : ∃ p l, ds = [.ref p] ∧ m[p]? = some (.lst l) ∧ s = .enum p ∧ n = l.length := by
  unfold src at h
  split at h
  all_goals (try (rename_i hk; first | cases hk | skip))
  all_goals first
    | (obtain ⟨l, h1, h2⟩ := Option.map_eq_some_iff.mp h; cases h2; exact ⟨_, l, rfl, lstAt_some h1, rfl, rfl⟩)
    | cases h
theorem src_rev {ds : List D} {s : Src} {n : Nat} (h : src fr m .rev ds = some (s, n)) : ∃ p l, ds = [.ref p] ∧ m[p]? = some (.lst l) ∧ s = .rev p ∧ n = l.length := by
  unfold src at h
  split at h
  all_goals (try (rename_i hk; first | cases hk | skip))
  all_goals first
    | (obtain ⟨l, h1, h2⟩ := Option.map_eq_some_iff.mp h; cases h2; exact ⟨_, l, rfl, lstAt_some h1, rfl, rfl⟩)
    | cases h
theorem src_zip {ds : List D} {s : Src} {n : Nat} (h : src fr m .zip ds = some (s, n)) : (∃ p q x y, ds = [.ref p, .ref q] ∧ m[p]? = some (.lst x) ∧ m[q]? = some (.lst y) ∧ s = .zipL p q ∧ x.length = n ∧ y.length = n) ∨ ∃ x y, ds = [.tup x, .tup y] ∧ s = .zipT x y ∧ x.length = n ∧ y.length = n := by
  unfold src at h
  split at h
  all_goals (try (rename_i hk; first | cases hk | skip))
  all_goals first
    | (obtain ⟨x, h1, h⟩ := Option.bind_eq_some_iff.mp h
       obtain ⟨y, h2, h⟩ := Option.bind_eq_some_iff.mp h
       split at h
       · rename_i he; cases h; exact .inl ⟨_, _, x, y, rfl, lstAt_some h1, lstAt_some h2, rfl, rfl, he.symm⟩
       · cases h)
    | (split at h
       · rename_i he; cases h; exact .inr ⟨_, _, rfl, rfl, rfl, he.symm⟩
       · cases h)
    | cases h
variable {p pos : Pos}
theorem i_rng1 {a : Expr} {a' : Ms.E} (hg : L2.Gl X "range") (hm : X.mg "range" = none) (na : NoStar a) (ha : PA X [a] (tA G C fr W [a'])) : PI X tg (.Call (.Name "range" p) [a] [] pos) (tI G C fr W .rng [a']) := by
  refine PI.imp (pi_range1 hg hm ha (starEach_cons na)) fun σ H R h => ?_
  obtain ⟨φ, m, ρ, s, r, p⟩ := h
  refine ⟨φ, m, ρ, s, r, ?_⟩
  have key : ∀ φ1 H1 ds m1, SR G φ1 fr H1 m1 → KI G fr .rng R φ1 H1 ds m1 → ds.length = 1 → KDs G (fun vs H1 => ∃ j : Int, vs = [V.int j] ∧ -(2 ^ 62) ≤ j ∧ j < 2 ^ 62 ∧ R (Itr 0 j.toNat) H1) φ1 H1 ds m1 := fun φ1 H1 ds m1 s1 ⟨sc, k, hs, hj⟩ hl vs rs => by
    rcases src_rng hs with ⟨j, rfl, hsm, rfl, rfl⟩ | ⟨i, j, rfl, _⟩
    · obtain ⟨v, rfl, rv⟩ := vals_one rs
      cases vint rv
      exact ⟨j, rfl, (small_R hsm).1, (small_R hsm).2, hj _ (it_rng (by simp))⟩
    · cases hl
  rw [evs_one] at p ⊢
  cases hx : ev G.P C fr a' ρ m with
  | ok x m1 => rw [hx] at p; exact fun φ1 H1 e s1 => key φ1 H1 [x] m1 s1 (p φ1 H1 e s1) rfl
  | exc c l m1 => rw [hx] at p; exact p
  | bad => rw [hx] at p; exact p.elim
theorem evs_two {P : Prog} {a' b' : Ms.E} {ρ : Env} {m : Mem} : evs P C fr [a', b'] ρ m = (ev P C fr a' ρ m).bind fun x m => (ev P C fr b' ρ m).bind fun y m => .ok [x, y] m := by
  simp only [evs]
  cases ev P C fr a' ρ m with
  | ok x m => simp only [R.bind]; cases ev P C fr b' ρ m <;> rfl
  | exc => rfl
  | bad => rfl
theorem i_rng2 {a b : Expr} {a' b' : Ms.E} (hg : L2.Gl X "range") (hm : X.mg "range" = none) (na : NoStar a) (nb : NoStar b) (ha : PA X [a, b] (tA G C fr W [a', b'])) : PI X tg (.Call (.Name "range" p) [a, b] [] pos) (tI G C fr W .rng [a', b']) := by
  refine PI.imp (pi_range2 hg hm ha (by rw [starEach_cons na, starEach_cons nb]; rfl) (starEach_cons nb)) fun σ H R h => ?_
  obtain ⟨φ, m, ρ, s, r, p⟩ := h
  refine ⟨φ, m, ρ, s, r, ?_⟩
  have key : ∀ φ1 H1 x y m1, SR G φ1 fr H1 m1 → KI G fr .rng R φ1 H1 [x, y] m1 → KDs G (fun vs H1 => ∃ i j : Int, vs = [V.int i, V.int j] ∧ (-(2 ^ 62) ≤ i ∧ i < 2 ^ 62 ∧ -(2 ^ 62) ≤ j ∧ j < 2 ^ 62) ∧ R (Itr i (j - i).toNat) H1) φ1 H1 [x, y] m1 := fun φ1 H1 x y m1 s1 ⟨sc, k, hs, hj⟩ vs rs => by
    rcases src_rng hs with ⟨j, h, _⟩ | ⟨i, j, h, h1, h2, rfl, rfl⟩
    · cases h
    · cases h
      obtain ⟨v, u, rfl, rv, ru⟩ := vals_two rs
      cases vint rv; cases vint ru
      exact ⟨i, j, rfl, ⟨(small_R h1).1, (small_R h1).2, (small_R h2).1, (small_R h2).2⟩, hj _ (it_rng rfl)⟩
  rw [evs_two] at p ⊢
  cases hx : ev G.P C fr a' ρ m with
  | ok x m1 =>
    rw [hx] at p
    simp only [Ms.R.bind] at p ⊢
    cases hy : ev G.P C fr b' ρ m1 with
    | ok y m2 => rw [hy] at p; exact fun φ1 H1 e s1 => key φ1 H1 x y m2 s1 (p φ1 H1 e s1)
    | exc c l m1 => rw [hy] at p; exact p
    | bad => rw [hy] at p; exact p.elim
  | exc c l m1 => rw [hx] at p; exact p
  | bad => rw [hx] at p; exact p.elim
theorem i_enum {a : Expr} {l : List Ms.E} {elts : List Expr} {kk : Nat} {tpos : Pos} (hg : L2.Gl X "enumerate") (hm : X.mg "enumerate" = none) (na : NoStar a) (ha : PA X [a] (tA G C fr W l)) :
    PI X (.Tuple elts kk tpos) (.Call (.Name "enumerate" p) [a] [] pos) (tI G C fr W .enum l) := by
  refine PI.imp (pi_enum hg hm ha (starEach_cons na)) fun σ H R h => i_go h fun φ H ds m vs s n sr rs hs hj => ?_
  obtain ⟨q, x, rfl, hx, rfl, rfl⟩ := src_enum hs
  obtain ⟨v, rfl, rv⟩ := vals_one rs
  obtain ⟨a, rfl, hi⟩ := vref rv
  obtain ⟨xs, h1, h2⟩ := at_lst sr hi hx
  exact ⟨a, xs, rfl, SqL.of h1, hj _ (it_enum hi)⟩
theorem i_rev {a : Expr} {l : List Ms.E} (hg : L2.Gl X "reversed") (hm : X.mg "reversed" = none) (na : NoStar a) (ha : PA X [a] (tA G C fr W l)) :
    PI X tg (.Call (.Name "reversed" p) [a] [] pos) (tI G C fr W .rev l) := by
  refine PI.imp (pi_reversed hg hm ha (starEach_cons na)) fun σ H R h => i_go h fun φ H ds m vs s n sr rs hs hj => ?_
  obtain ⟨q, x, rfl, hx, rfl, rfl⟩ := src_rev hs
  obtain ⟨v, rfl, rv⟩ := vals_one rs
  obtain ⟨a, rfl, hi⟩ := vref rv
  obtain ⟨xs, h1, h2⟩ := at_lst sr hi hx
  exact ⟨a, xs, rfl, SqL.of h1, hj _ (by rw [h2.length]; exact it_rev hi)⟩
theorem i_zip {a b : Expr} {l : List Ms.E} {elts : List Expr} {kk : Nat} {tpos : Pos} (hg : L2.Gl X "zip") (hm : X.mg "zip" = none) (na : NoStar a) (nb : NoStar b) (ha : PA X [a, b] (tA G C fr W l)) :
    PI X (.Tuple elts kk tpos) (.Call (.Name "zip" p) [a, b] [] pos) (tI G C fr W .zip l) := by
  refine PI.imp (RZ.pi_zipA hg hm ha (starEach_cons na) (star_plain fun x hx => by rw [List.mem_singleton.mp hx]; exact nb)) fun σ H R h => i_go h fun φ H ds m vs s n sr rs hs hj => ?_
  rcases src_zip hs with ⟨q1, q2, x, y, rfl, hx, hy, rfl, _, _⟩ | ⟨x, y, rfl, rfl, _, _⟩
  · obtain ⟨v, u, rfl, rv, ru⟩ := vals_two rs
    obtain ⟨a, rfl, hi⟩ := vref rv
    obtain ⟨b, rfl, hj'⟩ := vref ru
    obtain ⟨xs, h1, h2⟩ := at_lst sr hi hx
    obtain ⟨ys, h3, h4⟩ := at_lst sr hj' hy
    exact ⟨a, b, xs, ys, rfl, .inl ⟨SqL.of h1, SqL.of h3, hj _ (it_zipL hi hj')⟩⟩
  · obtain ⟨v, u, rfl, rv, ru⟩ := vals_two rs
    obtain ⟨a, xs, rfl, h1, h2⟩ := vtup rv
    obtain ⟨b, ys, rfl, h3, h4⟩ := vtup ru
    exact ⟨a, b, xs, ys, rfl, .inr ⟨SqT.of h1, SqT.of h3, hj _ (it_zipT sr h1 h2 h3 h4)⟩⟩
end
end Ms

-- So11
set_option linter.all false
set_option Elab.async false
set_option maxRecDepth 10000
/-! Targets, tests, comprehensions. -/
namespace Ms
open PySem L2 PySem.Spec PyProof.Rows
mutual
def tgV : Tg → List Nat
  | .v i => [i]
  | .t l => tgVs l
def tgVs : List Tg → List Nat
  | [] => []
  | g :: l => tgV g ++ tgVs l
end
/-- only these slots differ -/
def Same (vs : List Nat) (σ σ' : L2.St) : Prop := σ'.length = σ.length ∧ ∀ j, j ∉ vs → σ'[j]? = σ[j]?
theorem Same.refl {vs : List Nat} {σ : L2.St} : Same vs σ σ := ⟨rfl, fun _ _ => rfl⟩
theorem Same.trans {vs us : List Nat} {σ σ' σ'' : L2.St} (a : Same vs σ σ') (b : Same us σ' σ'') : Same (vs ++ us) σ σ'' := ⟨b.1.trans a.1, fun j h => by
  rw [List.mem_append] at h
  rw [b.2 j (fun z => h (.inr z)), a.2 j (fun z => h (.inl z))]⟩
theorem wipe_at (σ : L2.St) : ∀ (vs : List Nat) (j : Nat), (L2.wipe σ vs)[j]? = if j ∈ vs then (if j < σ.length then some none else none) else σ[j]?
  | [], j => by simp [L2.wipe]
  | v :: vs, j => by
    unfold L2.wipe
    by_cases h : v = j
    · subst h
      by_cases hl : v < σ.length
      · rw [List.getElem?_set_self (by rw [wipe_length]; exact hl)]
        simp [hl]
      · rw [List.getElem?_eq_none (by rw [List.length_set, wipe_length]; omega)]
        simp [hl]
    · rw [List.getElem?_set_ne h, wipe_at σ vs j]
      have : j ≠ v := fun z => h z.symm
      simp [this]
theorem Same.wipe {vs us : List Nat} {σ σ' : L2.St} (h : Same vs σ σ') (hs : ∀ j ∈ vs, j ∈ us) : L2.wipe σ' us = L2.wipe σ us := by
  apply List.ext_getElem?
  intro j
  rw [wipe_at, wipe_at, h.1]
  by_cases hj : j ∈ us
  · simp [hj]
  · simp only [hj, if_false]
    exact h.2 j fun z => hj (hs j z)
def gT (G : Top) (fr : Fr) (g : Tg) : TG := fun v σ H Q => ∃ φ m d ρ ρ', SR G φ fr H m ∧ EnvR G φ H ρ σ ∧ ValR G φ H d v ∧ bindT d ρ g = some ρ' ∧ ∀ σ', EnvR G φ H ρ' σ' → Same (tgV g) σ σ' → Q σ' H
def gTs (G : Top) (fr : Fr) (g : List Tg) : TGs := fun vs σ H Q => ∃ φ m ds ρ ρ', SR G φ fr H m ∧ EnvR G φ H ρ σ ∧ ValsR G φ H ds vs ∧ bindTs ds ρ g = some ρ' ∧ ∀ σ', EnvR G φ H ρ' σ' → Same (tgVs g) σ σ' → Q σ' H
theorem PG.imp {X : Cx} {e : Expr} {t t' : TG} (h : PG X e t) (w : ∀ v σ H Q, t' v σ H Q → t v σ H Q) : PG X e t' := ⟨fun pins s σ H v u Q I r q => h.run pins s σ H v u Q I r (w v σ H Q q)⟩
theorem PGs.imp {X : Cx} {e : List Expr} {t t' : TGs} (h : PGs X e t) (w : ∀ v σ H Q, t' v σ H Q → t v σ H Q) : PGs X e t' := ⟨fun pins s σ H v u Q I r q => h.run pins s σ H v u Q I r (w v σ H Q q)⟩
theorem assignEach_cons {e : Expr} {es : List Expr} {env : PySem.Env} (h : NoStar e) : assignEach (e :: es) env = (false, assign e env) :: assignEach es env := by
  cases e <;> first | exact absurd rfl (h _ _) | rfl
theorem assignEach_len : ∀ (es : List Expr) (env : PySem.Env), (assignEach es env).length = es.length
  | [], _ => rfl
  | e :: es, env => by
    have : ∃ b f, assignEach (e :: es) env = (b, f) :: assignEach es env := by cases e <;> exact ⟨_, _, rfl⟩
    obtain ⟨b, f, h⟩ := this
    rw [h, List.length_cons, assignEach_len es env, List.length_cons]
theorem assignEach_plain : ∀ (es : List Expr) (env : PySem.Env), (∀ e ∈ es, NoStar e) → (assignEach es env).findIdx? (·.1) = none
  | [], _, _ => rfl
  | e :: es, env, h => by
    rw [assignEach_cons (h e List.mem_cons_self), List.findIdx?_cons]
    simp [assignEach_plain es env fun x hx => h x (List.mem_cons_of_mem _ hx)]
section
variable {G : Top} {C : Cl} {fr : Fr} {W : WX} {X : Cx} {n : Nat} {σ : L2.St} {H : Hp} {E : KX} {φ : List Gh} {m : Mem}
theorem g_name {i : Nat} {x : Str} {pos : Pos} (hN : X.N.Nodup) (hi : X.N[i]? = some x) (hx : Loc X.env.scope x) (hf : X.fn x = true ∨ X.env.scope.names.lookup x = some .local) : PG X (.Name x pos) (gT G fr (.v i)) := by
  refine PG.imp (pg_name hN hi hx hf) fun v σ H Q ⟨φ, m, d, ρ, ρ', s, r, rd, hb, q⟩ => ?_
  simp only [bindT] at hb
  split at hb
  · rename_i hl
    cases hb
    refine q _ (r.set rd hl) ⟨by simp, fun j hj => ?_⟩
    have : i ≠ j := fun z => hj (by simp [tgV, z])
    rw [List.getElem?_set_ne this]
  · cases hb
theorem gs_nil : PGs X [] (gTs G fr []) := by
  refine PGs.imp pgs_nil fun vs σ H Q ⟨φ, m, ds, ρ, ρ', s, r, rd, hb, q⟩ => ?_
  cases ds with
  | nil =>
    cases hb
    simp only [ValsR] at rd
    exact ⟨rd, q _ r .refl⟩
  | cons d ds => cases hb
theorem gs_cons {e : Expr} {es : List Expr} {g : Tg} {l : List Tg} (ns : NoStar e) (h1 : PG X e (gT G fr g)) (h2 : PGs X es (gTs G fr l)) : PGs X (e :: es) (gTs G fr (g :: l)) := by
  refine PGs.imp (pgs_cons h1 h2 (by rw [assignEach_cons ns]; rfl)) fun vs σ H Q ⟨φ, m, ds, ρ, ρ', s, r, rd, hb, q⟩ => ?_
  cases ds with
  | nil => cases hb
  | cons d ds =>
    simp only [bindTs] at hb
    obtain ⟨ρ1, hb1, hb2⟩ := Option.bind_eq_some_iff.mp hb
    simp only [ValsR] at rd
    obtain ⟨v, us, rfl, rv, ru⟩ := rd
    refine ⟨v, us, rfl, φ, m, d, ρ, ρ1, s, r, rv, hb1, fun σ1 r1 s1 => ?_⟩
    exact ⟨φ, m, ds, ρ1, ρ', s, r1, ru, hb2, fun σ2 r2 s2 => q σ2 r2 (by simp only [tgVs]; exact s1.trans s2)⟩
theorem g_tup {es : List Expr} {l : List Tg} {k : Nat} {pos : Pos} (hc : X.calm = true) (hlen : l.length = es.length) (ns : ∀ e ∈ es, NoStar e) (h : PGs X es (gTs G fr l)) : PG X (.Tuple es k pos) (gT G fr (.t l)) := by
  refine PG.imp (pg_tup hc h (assignEach_len es X.env) (assignEach_plain es X.env ns)) fun v σ H Q ⟨φ, m, d, ρ, ρ', s, r, rd, hb, q⟩ => ?_
  unfold bindT at hb
  split at hb
  · rename_i ds
    obtain ⟨a, vs, rfl, h1, h2⟩ := vtup rd
    refine ⟨a, vs, rfl, SqT.of h1, ?_, φ, m, ds, ρ, ρ', s, r, h2, hb, fun σ' r' s' => q σ' r' (by simp only [tgV]; exact s')⟩
    have len : ∀ (ds : List D) (l : List Tg) (ρ ρ' : Ms.Env), bindTs ds ρ l = some ρ' → ds.length = l.length := by
      intro ds
      induction ds with
      | nil => intro l ρ ρ' h; cases l with | nil => rfl | cons g l => cases h
      | cons d ds ih =>
        intro l ρ ρ' h
        cases l with
        | nil => cases h
        | cons g l =>
          simp only [bindTs] at h
          obtain ⟨ρ1, h1, h2⟩ := Option.bind_eq_some_iff.mp h
          rw [List.length_cons, List.length_cons, ih l ρ1 ρ' h2]
    rw [h2.length, len ds l ρ ρ' hb, hlen]
  · cases hb

/-! ### tests -/
abbrev tTs (G : Top) (C : Cl) (fr : Fr) (W : WX) (l : List Ms.E) : TT := tG G fr W (evT G.P C fr l) KB
theorem PTs.imp {l : List Expr} {t t' : TT} (h : PTs X l t) (w : ∀ σ H Q, t' σ H Q → t σ H Q) : PTs X l t' := ⟨fun pins s σ H Q I q => h.run pins s σ H Q I (w σ H Q q)⟩
theorem ts_nil : PTs X [] (tTs G C fr W []) := PTs.imp pts_nil fun σ H Q ⟨φ, m, ρ, s, r, p⟩ =>
  (show Post G φ fr H (.ok true m) (KB Q) (EX G W σ) by
    have e : evT G.P C fr [] ρ m = .ok true m := by rw [evT]
    exact e ▸ p).here s
theorem ts_one {c : Expr} {c' : Ms.E} (h : PT X c (tT G C fr W c')) : PTs X [c] (tTs G C fr W [c']) := PTs.imp (pts_one h) fun σ H Q ⟨φ, m, ρ, s, r, p⟩ => by
  refine ⟨φ, m, ρ, s, r, ?_⟩
  have e : evT G.P C fr [c'] ρ m = evb G.P C fr c' ρ m := by
    simp only [evT, evb]
    cases ev G.P C fr c' ρ m with
    | ok x m =>
      simp only [Ms.R.bind]
      cases truth m x with
      | none => rfl
      | some b => cases b <;> rfl
    | exc => rfl
    | bad => rfl
  rw [← e]
  exact p
end
end Ms

-- So12
set_option linter.all false
set_option Elab.async false
set_option maxRecDepth 10000
/-! Comprehensions. -/
namespace Ms
open PySem L2 PySem.Spec PyProof.Rows
theorem Post.bindF {G : Top} {φ : List Gh} {fr : Fr} {H : Hp} {α β : Type} {r : R α} {f : α → Mem → R β} {K : KT β} {E : KX} (h : Post G φ fr H (r.bind f) K E) : Post G φ fr H r (fun _ _ a m' => Post G φ fr H (f a m') K E) E := by
  cases r with
  | ok a m' => exact fun φ' H' e s => h
  | exc c v m' => exact h
  | bad => exact h
/-- how the thing that is made lies -/
structure AcR (G : Top) (α : Type) where
  R : List Gh → Hp → α → HO → Prop
  mt : ∀ φ H a o, R φ H a o → isMut o = true ∧ ∀ ob w, o ≠ .frz ob w
  ext : ∀ φ H φ' H' a o, Ex0 φ H φ' H' → Clean φ H → R φ H a o → R φ' H' a o
section
variable {G : Top} {C : Cl} {fr : Fr} {W : WX} {X : Cx} {n : Nat} {σ : L2.St} {H : Hp} {E E' : KX} {φ : List Gh} {m : Mem} {α : Type}
theorem wipeE_R {ρ : Env} {vs : List Nat} (r : EnvR G φ H ρ σ) : EnvR G φ H (wipeE ρ vs) (L2.wipe σ vs) := by
  induction vs with
  | nil => exact r
  | cons v vs ih =>
    refine ⟨by show ((L2.wipe σ vs).set v none).length = ((wipeE ρ vs).set v none).length; rw [List.length_set, List.length_set, ih.len], fun i d h => ?_⟩
    have h : ((wipeE ρ vs).set v none)[i]? = some (some d) := h
    by_cases hv : v = i
    · subst hv
      by_cases hl : v < (wipeE ρ vs).length
      · rw [List.getElem?_set_self hl] at h; cases h
      · rw [List.getElem?_eq_none (by rw [List.length_set]; omega)] at h; cases h
    · rw [List.getElem?_set_ne hv] at h
      obtain ⟨u, h1, h2⟩ := ih.at_ i d h
      exact ⟨u, by show ((L2.wipe σ vs).set v none)[i]? = _; rw [List.getElem?_set_ne hv]; exact h1, h2⟩
theorem wipe_wipe (σ : L2.St) (vs : List Nat) : L2.wipe (L2.wipe σ vs) vs = L2.wipe σ vs := by
  apply List.ext_getElem?
  intro j
  rw [wipe_at, wipe_at, wipe_length]
  by_cases h : j ∈ vs <;> simp [h]
/-- one turn of a comprehension -/
def turn1 (P : Prog) (C : Cl) (fr : Fr) (ρ : Env) (g : Tg) (c : List Ms.E) (own : List Nat) (h : α → Env → Mem → R α) (d : D) (acc : α) (m : Mem) : R α := match bindT d (wipeE ρ own) g with
  | some ρ' => (evT P C fr c ρ' m).nox.bind fun t m' => if t then h acc ρ' m' else .ok acc m'
  | none => .bad
def bodyR (P : Prog) (C : Cl) (fr : Fr) (k : ItK) (l : List Ms.E) (f : Env → D → α → Mem → R α) (a0 : α) (mk : α → Ob) (ρ : Env) (m : Mem) : R D := (evs P C fr l ρ m).bind fun ds m => match src fr m k ds with
  | some (s, n) => (lcGo s n (f ρ) n a0 m).bind fun acc m => .ok (.ref m.length) (m ++ [mk acc])
  | none => .bad
abbrev W0 : WX := fun _ _ _ _ => False
def gE (G : Top) (g : Tg) : TG := fun v σ H Q => ∃ fr, gT G fr g v σ H Q
def tTE (G : Top) (C : Cl) (c : List Ms.E) : TT := fun σ H Q => ∃ fr, tTs G C fr W0 c σ H Q
def tIE (G : Top) (C : Cl) (W : WX) (k : ItK) (l : List Ms.E) : TI := fun σ H R => ∃ fr, tI G C fr W k l σ H R
theorem comp_go {k : ItK} {l : List Ms.E} {g : Tg} {c : List Ms.E} {own : List Nat} {h : α → Env → Mem → R α} {a0 : α} {mk : α → Ob} {ρ : Env} {Q : VK} {o0 : HO} {tB : L2.St → Hp → Addr → (Hp → Prop) → Prop} (AR : AcR G α)
    (h0 : ∀ φ H, AR.R φ H a0 o0) (hmk : ∀ φ H D a o, AR.R φ H a o → H D = some o → ObR G φ H false (mk a) D) (ho : ∀ j ∈ tgV g, j ∈ own)
    (hB : ∀ (φ3 : List Gh) (H3 : Hp) (m3 : Mem) (ρ' : Env) (σ2 : L2.St) (acc : α) (o : HO) (D : Addr) (Nx : Hp → Prop), SR G φ3 fr H3 m3 → EnvR G φ3 H3 ρ' σ2 → H3 D = some o → (∀ i : Nat, φ3[i]? ≠ some (.adr D)) → AR.R φ3 H3 acc o →
      Post G φ3 fr H3 (h acc ρ' m3) (fun φ4 H4 acc' m4 => ∀ o', AR.R φ4 H4 acc' o' → Nx (upd H4 D o')) (EX G W σ) → tB σ2 H3 D Nx)
    (s : SR G φ fr H m) (r : EnvR G φ H ρ σ) (p : Post G φ fr H (bodyR G.P C fr k l (fun ρ => turn1 G.P C fr ρ g c own h) a0 mk ρ m) (KD G Q) (EX G W σ)) :
    tIE G C W k l σ H (fun J H1 => ∀ D, H1 D = none → ∃ Wd : Nat → Nat → Hp → Prop, (∃ m, Wd 0 m (upd H1 D o0)) ∧ ∀ i m H, Wd i m H →
      (J.stop i H ∧ Q (.ref D) H) ∨ (J.go i H ∧ ∃ Nx : Hp → Prop, (∀ H', Nx H' → ∃ m', m' < m ∧ Wd (i + 1) m' H') ∧ ∀ x H', J.yld i H x H' → gE G g x (L2.wipe σ own) H' fun σ2 H2 => L2.wipe σ2 own = L2.wipe σ own ∧ tTE G C c σ2 H2 fun b H3 =>
        if b = true then tB σ2 H3 D Nx else Nx H3)) := by
  refine ⟨fr, φ, m, ρ, s, r, p.bind.mono (fun φ1 H1 ds m1 e1 s1 p1 => ?_) fun _ _ _ _ _ _ _ q => q⟩
  split at p1
  · rename_i sc n hs
    refine ⟨sc, n, hs, fun J hJ D hD => ?_⟩
    have r1 := r.ext e1 s.clean
    refine ⟨fun i mm Hc => i ≤ n ∧ mm = n - i ∧ ∃ φ' m' acc o, Ext φ1 H1 φ' Hc ∧ SR G φ' fr Hc m' ∧ Hc D = some o ∧ (∀ i : Nat, φ'[i]? ≠ some (.adr D)) ∧ AR.R φ' Hc acc o ∧
      Post G φ1 fr H1 ((lcGo sc n (turn1 G.P C fr ρ g c own h) (n - i) acc m').bind fun acc m => .ok (.ref m.length) (m ++ [mk acc])) (KD G Q) (EX G W σ), ?_, ?_⟩
    · have e2 : Ext φ1 H1 φ1 (upd H1 D o0) := ext_same (same_new hD)
      refine ⟨n, Nat.zero_le _, rfl, φ1, m1, a0, o0, e2, s1.grow (same_new hD), upd_same, fun i q => ?_, h0 _ _, p1⟩
      obtain ⟨u, hu, _⟩ := s1.clean i D q
      rw [hD] at hu
      cases hu
    · intro i mm Hc ⟨hin, hmm, φ', m', acc, o, e', s', hDo, hDn, ha, P0⟩
      by_cases hi : i = n
      · subst hi
        rw [Nat.sub_self] at P0
        simp only [lcGo] at P0
        split at P0
        · rename_i hok
          obtain ⟨st, _⟩ := hJ φ' Hc m' e'.toEx1 s' hok
          refine .inl ⟨st, ?_⟩
          have pre : ∀ (j : Nat) (g : Gh), φ'[j]? = some g → (φ' ++ [Gh.adr D])[j]? = some g := fun j g q => by
            rw [List.getElem?_append_left (List.getElem?_eq_some_iff.mp q).1]
            exact q
          have e0 : Ex0 φ' Hc (φ' ++ [.adr D]) Hc := ⟨pre, fun _ _ q _ _ => q⟩
          have s2 := s'.adopt (o := mk acc) hDn (hmk _ _ _ _ _ (AR.ext _ _ _ _ _ _ e0 s'.clean ha) hDo)
          have e2 : Ext φ1 H1 (φ' ++ [.adr D]) Hc := by
            refine ⟨⟨⟨fun j g q => pre j g (e'.pre j g q), e'.im⟩, fun j a q1 q2 => ?_, e'.dom, e'.frz⟩, e'.keep⟩
            by_cases hj : j < φ'.length
            · rw [List.getElem?_append_left hj] at q2
              exact e'.new j a q1 q2
            · rw [List.getElem?_append_right (by omega)] at q2
              cases hk : j - φ'.length with
              | zero => rw [hk] at q2; cases q2; exact hD
              | succ k => rw [hk] at q2; simp at q2
          exact P0 _ _ e2 s2 _ (rref (by rw [← s'.len]; simp))
        · exact P0.elim
      · refine .inr ?_
        have hlt : i < n := by omega
        obtain ⟨k', hk'⟩ : ∃ k', n - i = k' + 1 := ⟨n - i - 1, by omega⟩
        rw [hk'] at P0
        simp only [lcGo] at P0
        split at P0
        · rename_i hok
          obtain ⟨_, go⟩ := hJ φ' Hc m' e'.toEx1 s' hok
          obtain ⟨hgo, hy⟩ := go i hlt
          have hsub : n - (k' + 1) = i := by omega
          rw [hsub] at P0
          obtain ⟨d, hd, P1⟩ : ∃ d, sc.at m' n i = some d ∧ Post G φ1 fr H1 (((turn1 G.P C fr ρ g c own h d acc m').bind fun acc m => lcGo sc n (turn1 G.P C fr ρ g c own h) k' acc m).bind fun acc m => .ok (.ref m.length) (m ++ [mk acc])) (KD G Q) (EX G W σ) := by
            cases hd : sc.at m' n i with
            | none => rw [hd] at P0; exact P0.elim
            | some d => rw [hd] at P0; exact ⟨d, rfl, P0⟩
          rw [R.bind_assoc] at P1
          have hmt := AR.mt _ _ _ _ ha
          refine ⟨hgo, fun H' => ∃ φ' m' acc o, Ext φ1 H1 φ' H' ∧ SR G φ' fr H' m' ∧ H' D = some o ∧ (∀ i : Nat, φ'[i]? ≠ some (.adr D)) ∧ AR.R φ' H' acc o ∧
            Post G φ1 fr H1 ((lcGo sc n (turn1 G.P C fr ρ g c own h) k' acc m').bind fun acc m => .ok (.ref m.length) (m ++ [mk acc])) (KD G Q) (EX G W σ), fun H' ⟨φ', m', acc, o, q⟩ => ⟨k', by omega, by omega, by omega, φ', m', acc, o, ?_⟩, fun x H' hyx => ?_⟩
          · have : n - (i + 1) = k' := by omega
            rw [this]
            exact q
          · obtain ⟨e3, s3, rx⟩ := hy x H' d hyx hd
            unfold turn1 at P1
            split at P1
            · rename_i ρ' hρ
              rw [R.bind_assoc] at P1
              have r3 : EnvR G φ' H' ρ σ := (r1.ext e' s1.clean).ext e3 s'.clean
              refine ⟨fr, φ', m', d, wipeE ρ own, ρ', s3, wipeE_R r3, rx, hρ, fun σ2 r4 sm => ⟨by rw [sm.wipe ho]; exact wipe_wipe σ own, ?_⟩⟩
              refine ⟨fr, φ', m', ρ', s3, r4, ((P1.bindF.nox (E' := EX G W0 σ2)).ext (e'.trans e3)).mono (fun φ4 H4 b m4 e4 s4 P2 => ?_) fun _ _ _ _ _ _ _ q => q⟩
              have D4 : H4 D = some o := e4.keep D o (e3.keep D o hDo hDn fun ps z => by rw [z] at hmt; cases hmt.1) (e3.not_in hDo hDn) fun ps z => by rw [z] at hmt; cases hmt.1
              have N4 := e4.not_in (e3.keep D o hDo hDn fun ps z => by rw [z] at hmt; cases hmt.1) (e3.not_in hDo hDn)
              have a4 := AR.ext _ _ _ _ _ _ (e3.trans e4).toEx0 s'.clean ha
              have E4 := (e'.trans e3).trans e4
              cases b with
              | false => exact ⟨φ4, m4, acc, o, E4, s4, D4, N4, a4, P2⟩
              | true =>
                refine hB φ4 H4 m4 ρ' σ2 acc o D _ s4 (r4.ext e4 s3.clean) D4 N4 a4 ((P2.bindF.ext E4).mono (fun φ5 H5 acc' m5 e5 s5 P3 o' ha' => ?_) fun _ _ _ _ _ _ _ q => q)
                have D5 : H5 D = some o := e5.keep D o D4 N4 fun ps z => by rw [z] at hmt; cases hmt.1
                have N5 := e5.not_in D4 N4
                have x5 : Ex1 φ5 H5 φ5 (upd H5 D o') := ex1_out D5 hmt.1 hmt.2
                exact ⟨φ5, m5, acc', o', (E4.trans e5).outside hD, s5.out D5 hmt.1 hmt.2 N5, upd_same, N5, AR.ext _ _ _ _ _ _ x5.toEx0 s5.clean ha', P3⟩
            · exact P1.elim
        · exact P0.elim
  · exact p1.elim
end
theorem PE.ex {ι : Type} {X : Cx} {e : Expr} {t : ι → TE} (h : ∀ i, PE X e (t i)) : PE X e (fun σ H Q => ∃ i, t i σ H Q) := ⟨fun pins s σ H Q I ⟨i, q⟩ => (h i).run pins s σ H Q I q⟩
theorem PE.or {X : Cx} {e : Expr} {t t' : TE} (h : PE X e t) (h' : PE X e t') : PE X e (fun σ H Q => t σ H Q ∨ t' σ H Q) := ⟨fun pins s σ H Q I q => q.elim (h.run pins s σ H Q I) (h'.run pins s σ H Q I)⟩
theorem PI.ex {ι : Type} {X : Cx} {tg e : Expr} {t : ι → TI} (h : ∀ i, PI X tg e (t i)) : PI X tg e (fun σ H Q => ∃ i, t i σ H Q) := ⟨fun pins s σ H Q I ⟨i, q⟩ => (h i).run pins s σ H Q I q⟩
theorem PG.ex {ι : Type} {X : Cx} {tg : Expr} {t : ι → TG} (h : ∀ i, PG X tg (t i)) : PG X tg (fun v σ H Q => ∃ i, t i v σ H Q) := ⟨fun pins s σ H v u Q I r ⟨i, q⟩ => (h i).run pins s σ H v u Q I r q⟩
theorem PTs.ex {ι : Type} {X : Cx} {l : List Expr} {t : ι → TT} (h : ∀ i, PTs X l (t i)) : PTs X l (fun σ H Q => ∃ i, t i σ H Q) := ⟨fun pins s σ H Q I ⟨i, q⟩ => (h i).run pins s σ H Q I q⟩
section
variable {G : Top} {C : Cl} {fr : Fr} {W : WX} {X : Cx} {n : Nat} {σ : L2.St} {H : Hp} {E E' : KX} {φ : List Gh} {m : Mem} {α : Type}
theorem lock_at {k : ItK} {l : List Ms.E} {ρ : Env} {p : Nat} (h : lockV fr m k l ρ = some p) : ∃ j t kv, k = .one ∧ l = [.var j] ∧ ρ[j]? = some (some (.ref p)) ∧ m[p]? = some (.dct t kv) ∧ fr.lk.contains p = false := by
  unfold lockV at h
  split at h
  · split at h
    · split at h
      · split at h
        · cases h
        · rename_i hl
          cases h
          exact ⟨_, _, _, rfl, rfl, by assumption, by assumption, by simpa using hl⟩
      · cases h
    · cases h
  · cases h
theorem mut_of {u : HO} (hd : isD u = true) : Mut (some u) := by
  cases u with
  | dK _ => exact True.intro
  | dT _ => exact True.intro
  | _ => cases hd
/-- with the lock on, or as it is -/
theorem lock_or {t : TE} {k : ItK} {l : List Ms.E} {ρ : Env} {B : Fr → Env → Mem → R D} {Q : VK} (s : SR G φ fr H m) (r : EnvR G φ H ρ σ)
    (p : Post G φ fr H (noxIf (lockV fr m k l ρ).isSome (B (fr.lock (lockV fr m k l ρ)) ρ m)) (KD G Q) (EX G W σ))
    (w : ∀ fr φ H Q, SR G φ fr H m → EnvR G φ H ρ σ → Post G φ fr H (B fr ρ m) (KD G Q) (EX G W σ) → t σ H Q) : t σ H Q ∨ tLockE t σ H Q := by
  cases hq : lockV fr m k l ρ with
  | none =>
    rw [hq] at p
    exact .inl (w fr φ H Q s r p)
  | some j =>
    rw [hq] at p
    have p : Post G φ fr H (B { fr with lk := j :: fr.lk } ρ m).nox (KD G Q) (EX G W σ) := p
    obtain ⟨i, tt, kv, rfl, rfl, hi, hm, hl⟩ := lock_at hq
    obtain ⟨v, h1, h2⟩ := r.at_ i _ hi
    obtain ⟨a, rfl, ha⟩ := vref h2
    obtain ⟨u, hu, hd, hall⟩ := s.lockd ha hm hl
    refine .inr ⟨a, u, hu, mut_of hd, fun od => ?_⟩
    obtain ⟨e1, s1⟩ := hall od
    refine w _ φ _ _ s1 (r.ext e1 s.clean) ?_
    generalize hB : B { fr with lk := j :: fr.lk } ρ m = rr at p
    cases rr with
    | ok d m' =>
      intro φ' H' e2 s2 v rv
      obtain ⟨h3, e3⟩ := ext_unlock ha hu hd e2
      have ha' := e2.pre _ _ ha
      have su := s2.unlock ha' h3 hd hl
      refine ⟨h3, p φ' (upd H' a u) e3 su v ?_⟩
      obtain ⟨ou, hou, hmu⟩ := s2.clean j a ha'
      exact ValR.ext0 (ex_set ha' hou hmu) s2.clean _ _ rv
    | exc c v m' => exact p.elim
    | bad => exact p.elim
theorem vals_lst {vs : List V} {d : D} {v : V} {l : List D} (h : ValsR G φ H l vs) (r : ValR G φ H d v) : ValsR G φ H (l ++ [d]) (vs ++ [v]) := h.append (.one r)
def acL (G : Top) : AcR G (List D) where
  R := fun φ H l o => ∃ vs, o = .lst vs ∧ ValsR G φ H l vs
  mt := fun φ H a o ⟨vs, h, _⟩ => by subst h; exact ⟨rfl, fun _ _ z => by cases z⟩
  ext := fun φ H φ' H' a o e c ⟨vs, h, r⟩ => ⟨vs, h, ValsR.ext0 e c _ _ r⟩
def acD (G : Top) : AcR G (List (D × D)) where
  R := fun φ H l o => ∃ vs, o = .dK vs ∧ KvR G φ H keyV l vs
  mt := fun φ H a o ⟨vs, h, _⟩ => by subst h; exact ⟨rfl, fun _ _ z => by cases z⟩
  ext := fun φ H φ' H' a o e c ⟨vs, h, r⟩ => ⟨vs, h, r.ext0 e c⟩
abbrev tLC (G : Top) (C : Cl) (W : WX) (x : Ms.E) (g : Tg) (k : ItK) (l : List Ms.E) (c : List Ms.E) (own : List Nat) : TE := tLc (tIE G C W k l) (gE G g) (tTE G C c) (fun σ H Q => ∃ fr, tE G C fr W0 x σ H Q) own
theorem lc_read {k : ItK} {l : List Ms.E} {g : Tg} {c : List Ms.E} {x : Ms.E} {own : List Nat} {Q : VK} (ho : ∀ j ∈ tgV g, j ∈ own) (h : tE G C fr W (.lc x g k l c own) σ H Q) : tLC G C W x g k l c own σ H Q ∨ tLockE (tLC G C W x g k l c own) σ H Q := by
  obtain ⟨φ, m, ρ, s, r, p⟩ := h
  refine lock_or (W := W) (B := fun fr => bodyR G.P C fr k l (fun ρ => turn1 G.P C fr ρ g c own fun acc ρ' m' => (ev G.P C fr x ρ' m').nox.bind fun y m' => if acc.length < lim then .ok (acc ++ [y]) m' else .bad) [] .lst) (k := k) (l := l) s r ?_ fun fr φ H Q s r p => ?_
  · simp only [ev] at p
    exact p
  · refine comp_go (W := W) (own := own) (o0 := .lst []) (a0 := []) (mk := .lst) (acL G) (fun _ _ => ⟨[], rfl, .nil⟩) (fun φ H D a o ⟨vs, h1, h2⟩ h3 => ⟨vs, by rw [h3, h1], h2⟩) ho (fun φ3 H3 m3 ρ' σ2 acc o D Nx s3 r3 hD hn ha p3 => ?_) s r p
    obtain ⟨vs, rfl, hv⟩ := ha
    refine ⟨fr, φ3, m3, ρ', s3, r3, (p3.bind.nox (E' := EX G W0 σ2)).mono (fun φ4 H4 y m4 e4 s4 p4 v rv => ?_) fun _ _ _ _ _ _ _ q => q⟩
    split at p4
    · rename_i hl
      exact ⟨vs, e4.keep D _ hD hn (fun ps z => by cases z), by rw [hv.length]; exact sizeLim' hl, p4.here s4 _ ⟨vs ++ [v], rfl, vals_lst (hv.ext e4 s3.clean) rv⟩⟩
    · exact p4.elim
theorem s_lc {elt tg iter : Expr} {ifs : List Expr} {scope : Scope} {own : List (Str × Nat)} {pos : Pos} {k : ItK} {l : List Ms.E} {g : Tg} {c : List Ms.E} {x : Ms.E} (xo : XO G X n W) (hi : ∀ fr, PI X tg iter (tI G C fr W k l)) (ok : BlkOk X.N X.env.scope scope own)
    (hg : ∀ fr s H Cc cl fp, PG (X.blk s H scope (compEnvC scope cl Cc X.env) fp) tg (gT G fr g)) (ht : ∀ fr s H Cc cl fp, PTs (X.blk s H scope (compEnvC scope cl Cc X.env) fp) ifs (tTs G C fr W0 c))
    (he : ∀ fr s H Cc cl fp, PE (X.blk s H scope (compEnvC scope cl Cc X.env) fp) elt (tE G C fr W0 x)) (hs : ∀ x, foldedSetIterable iter X.env x = pure x) (ho : ∀ j ∈ tgV g, j ∈ own.map (·.2)) :
    PE X (.ListComp elt [⟨tg, iter, ifs, 0⟩] scope pos) (tE G C fr W (.lc x g k l c (own.map (·.2)))) := by
  have key := pe_lc (elt := elt) (tg := tg) (iter := iter) (ifs := ifs) (scope := scope) (own := own) (pos := pos) (wi := tIE G C W k l) (g := gE G g) (tt := tTE G C c) (te := fun σ H Q => ∃ fr, tE G C fr W0 x σ H Q) xo.calm xo.nd (PI.ex hi) ok
    (fun s H Cc cl fp => PG.ex fun fr => hg fr s H Cc cl fp) (fun s H Cc cl fp => PTs.ex fun fr => ht fr s H Cc cl fp) (fun s H Cc cl fp => PE.ex fun fr => he fr s H Cc cl fp) hs
  exact PE.imp (PE.or key (pe_lock key)) fun σ H Q h => lc_read ho h
theorem kv_any {k : D} {k' : Key} (hk : keyV k = some k') : ∀ {l : List (D × D)} {kvs : List (Key × V)}, KvR G φ H keyV l kvs → (l.any fun p => keq 0 p.1 k) = kvs.any fun kv => decide (kv.1 = k')
  | [], _, h => by rw [show _ = [] from h]; rfl
  | (a, b) :: l, _, h => by
    obtain ⟨a', b', s, rfl, h1, _, h3⟩ := h
    rw [List.any_cons, List.any_cons, kv_any hk h3]
    have : keq 0 a k = decide (a' = k') := by
      show decide (keyV a = keyV k) = _
      rw [h1, hk]
      by_cases z : a' = k' <;> simp [z]
    rw [this]
theorem kv_map {k d : D} {k' : Key} {v : V} (hk : keyV k = some k') (r : ValR G φ H d v) : ∀ {l : List (D × D)} {kvs : List (Key × V)}, KvR G φ H keyV l kvs →
    KvR G φ H keyV (l.map fun p => if keq 0 p.1 k then (p.1, d) else p) (kvs.map fun kv => if kv.1 = k' then (kv.1, v) else kv)
  | [], _, h => by rw [show _ = [] from h]; rfl
  | (a, b) :: l, _, h => by
    obtain ⟨a', b', s, rfl, h1, h2, h3⟩ := h
    have e : keq 0 a k = decide (a' = k') := by
      show decide (keyV a = keyV k) = _
      rw [h1, hk]
      by_cases z : a' = k' <;> simp [z]
    rw [List.map_cons, List.map_cons]
    dsimp only
    rw [e]
    by_cases z : a' = k'
    · simp only [z, decide_true, if_true]
      exact ⟨k', v, _, rfl, by rw [h1, z], r, kv_map hk r h3⟩
    · simp only [z, decide_false, Bool.false_eq_true, if_false]
      exact ⟨a', b', _, rfl, h1, h2, kv_map hk r h3⟩
theorem kv_app {k d : D} {k' : Key} {v : V} (hk : keyV k = some k') (r : ValR G φ H d v) : ∀ {l : List (D × D)} {kvs : List (Key × V)}, KvR G φ H keyV l kvs → KvR G φ H keyV (l ++ [(k, d)]) (kvs ++ [(k', v)])
  | [], _, h => by rw [show _ = [] from h]; exact ⟨k', v, [], rfl, hk, r, rfl⟩
  | (a, b) :: l, _, h => by
    obtain ⟨a', b', s, rfl, h1, h2, h3⟩ := h
    exact ⟨a', b', _, rfl, h1, h2, kv_app hk r h3⟩
theorem kv_put {l : List (D × D)} {kvs : List (Key × V)} {k d : D} {k' : Key} {v : V} (h : KvR G φ H keyV l kvs) (hk : keyV k = some k') (r : ValR G φ H d v) : KvR G φ H keyV (dput 0 l k d) (putK kvs k' v) := by
  unfold dput putK
  rw [kv_any hk h]
  split
  · exact kv_map hk r h
  · exact kv_app hk r h
abbrev tDC (G : Top) (C : Cl) (W : WX) (x y : Ms.E) (g : Tg) (k : ItK) (l : List Ms.E) (c : List Ms.E) (own : List Nat) : TE := tDc (tIE G C W k l) (gE G g) (tTE G C c) (fun σ H Q => ∃ fr, tE G C fr W0 x σ H Q) (fun σ H Q => ∃ fr, tE G C fr W0 y σ H Q) own
theorem dc_read {k : ItK} {l : List Ms.E} {g : Tg} {c : List Ms.E} {x y : Ms.E} {own : List Nat} {Q : VK} (ho : ∀ j ∈ tgV g, j ∈ own) (h : tE G C fr W (.dc 0 x y g k l c own) σ H Q) : tDC G C W x y g k l c own σ H Q ∨ tLockE (tDC G C W x y g k l c own) σ H Q := by
  obtain ⟨φ, m, ρ, s, r, p⟩ := h
  refine lock_or (W := W) (B := fun fr => bodyR G.P C fr k l (fun ρ => turn1 G.P C fr ρ g c own fun acc ρ' m' => (ev G.P C fr x ρ' m').nox.bind fun u m' => (ev G.P C fr y ρ' m').nox.bind fun v m' => if isKey 0 u ∧ acc.length < lim then .ok (dput 0 acc u v) m' else .bad) [] (.dct 0)) (k := k) (l := l) s r ?_ fun fr φ H Q s r p => ?_
  · simp only [ev] at p
    exact p
  · refine comp_go (W := W) (own := own) (o0 := .dK []) (a0 := []) (mk := .dct 0) (acD G) (fun _ _ => ⟨[], rfl, rfl⟩) (fun φ H D a o ⟨vs, h1, h2⟩ h3 => ⟨vs, by rw [← h1]; exact h3, h2⟩) ho (fun φ3 H3 m3 ρ' σ2 acc o D Nx s3 r3 hD hn ha p3 => ?_) s r p
    obtain ⟨vs, rfl, hv⟩ := ha
    refine ⟨fr, φ3, m3, ρ', s3, r3, (p3.bind.nox (E' := EX G W0 σ2)).mono (fun φ4 H4 u m4 e4 s4 p4 w rw => ?_) fun _ _ _ _ _ _ _ q => q⟩
    refine ⟨fr, φ4, m4, ρ', s4, r3.ext e4 s3.clean, (p4.bind.nox (E' := EX G W0 σ2)).mono (fun φ5 H5 z m5 e5 s5 p5 v rv => ?_) fun _ _ _ _ _ _ _ q => q⟩
    split at p5
    · rename_i hl
      obtain ⟨k', hk'⟩ := Option.isSome_iff_exists.mp (show (keyV u).isSome = true from hl.1)
      have D4 := e4.keep D _ hD hn (fun ps z => by cases z)
      exact ⟨vs, k', keyV_R hk' rw, e5.keep D _ D4 (e4.not_in hD hn) (fun ps z => by cases z), by rw [kv_len hv]; exact sizeLim' hl.2, p5.here s5 _ ⟨putK vs k' v, rfl, kv_put (hv.ext0 (e4.trans e5).toEx0 s3.clean) hk' rv⟩⟩
    · exact p5.elim
theorem s_dc {kx vx tg iter : Expr} {ifs : List Expr} {scope : Scope} {own : List (Str × Nat)} {pos : Pos} {k : ItK} {l : List Ms.E} {g : Tg} {c : List Ms.E} {x y : Ms.E} (xo : XO G X n W) (hi : ∀ fr, PI X tg iter (tI G C fr W k l)) (ok : BlkOk X.N X.env.scope scope own)
    (hg : ∀ fr s H Cc cl fp, PG (X.blk s H scope (compEnvC scope cl Cc X.env) fp) tg (gT G fr g)) (ht : ∀ fr s H Cc cl fp, PTs (X.blk s H scope (compEnvC scope cl Cc X.env) fp) ifs (tTs G C fr W0 c))
    (hk : ∀ fr s H Cc cl fp, PE (X.blk s H scope (compEnvC scope cl Cc X.env) fp) kx (tE G C fr W0 x)) (he : ∀ fr s H Cc cl fp, PE (X.blk s H scope (compEnvC scope cl Cc X.env) fp) vx (tE G C fr W0 y))
    (hs : ∀ x, foldedSetIterable iter X.env x = pure x) (ho : ∀ j ∈ tgV g, j ∈ own.map (·.2)) :
    PE X (.DictComp kx vx [⟨tg, iter, ifs, 0⟩] scope pos) (tE G C fr W (.dc 0 x y g k l c (own.map (·.2)))) := by
  have key := pe_dc (kx := kx) (vx := vx) (tg := tg) (iter := iter) (ifs := ifs) (scope := scope) (own := own) (pos := pos) (wi := tIE G C W k l) (g := gE G g) (tt := tTE G C c) (tk := fun σ H Q => ∃ fr, tE G C fr W0 x σ H Q) (tv := fun σ H Q => ∃ fr, tE G C fr W0 y σ H Q) xo.calm xo.nd (PI.ex hi) ok
    (fun s H Cc cl fp => PG.ex fun fr => hg fr s H Cc cl fp) (fun s H Cc cl fp => PTs.ex fun fr => ht fr s H Cc cl fp) (fun s H Cc cl fp => PE.ex fun fr => hk fr s H Cc cl fp) (fun s H Cc cl fp => PE.ex fun fr => he fr s H Cc cl fp) hs
  exact PE.imp (PE.or key (pe_lock key)) fun σ H Q h => dc_read ho h
end
end Ms

-- So13
set_option linter.all false
set_option Elab.async false
set_option maxRecDepth 10000
/-! Statements. -/
namespace Ms
open PySem L2 PySem.Spec PyProof.Rows
def PostX (G : Top) (φ : List Gh) (fr : Fr) (W : WX) (H : Hp) (r : Ms.X) (D : Ends) : Prop := match r with
  | .nx ρ' m' => ∀ φ' H' σ', Ext φ H φ' H' → SR G φ' fr H' m' → EnvR G φ' H' ρ' σ' → D.nx σ' H'
  | .ct ρ' m' => ∀ φ' H' σ', Ext φ H φ' H' → SR G φ' fr H' m' → EnvR G φ' H' ρ' σ' → D.ct σ' H'
  | .rt d m' => ∀ φ' H', Ext φ H φ' H' → SR G φ' fr H' m' → ∀ v, ValR G φ' H' d v → D.rt v H'
  | .exc c l ρ' m' => ∀ φ' H' σ', Ext φ H φ' H' → SR G φ' fr H' m' → EnvR G φ' H' ρ' σ' → EX G W σ' φ' H' c l m'
  | .bad => False
def tS (G : Top) (fr : Fr) (W : WX) (f : Env → Mem → Ms.X) : TS := fun D σ H => ∃ φ m ρ, SR G φ fr H m ∧ EnvR G φ H ρ σ ∧ PostX G φ fr W H (f ρ m) D
abbrev tSt (G : Top) (C : Cl) (fr : Fr) (W : WX) (s : Ms.S) : TS := tS G fr W (exe G.P C fr s)
abbrev tSs (G : Top) (C : Cl) (fr : Fr) (W : WX) (l : List Ms.S) : TS := tS G fr W (exes G.P C fr l)
theorem PS.imp {X : Cx} {e : Stmt} {t t' : TS} (h : PS X e t) (w : ∀ D σ H, t' D σ H → t D σ H) : PS X e t' := ⟨fun pins s σ H D I q => h.run pins s σ H D I (w D σ H q)⟩
theorem PSs.imp {X : Cx} {e : List Stmt} {t t' : TS} (h : PSs X e t) (w : ∀ D σ H, t' D σ H → t D σ H) : PSs X e t' := ⟨fun pins s σ H D I q => h.run pins s σ H D I (w D σ H q)⟩
section
variable {G : Top} {C : Cl} {fr : Fr} {W : WX} {X : Cx} {n : Nat} {σ : L2.St} {H H' : Hp} {E : KX} {φ φ' : List Gh} {m : Mem} {ρ : Env} {D D' : Ends}
theorem PostX.ext {r : Ms.X} (h : PostX G φ fr W H r D) (e : Ext φ H φ' H') : PostX G φ' fr W H' r D := by
  cases r with
  | nx ρ m => exact fun φ1 H1 σ1 e1 => h φ1 H1 σ1 (e.trans e1)
  | ct ρ m => exact fun φ1 H1 σ1 e1 => h φ1 H1 σ1 (e.trans e1)
  | rt d m => exact fun φ1 H1 e1 => h φ1 H1 (e.trans e1)
  | exc c l ρ m => exact fun φ1 H1 σ1 e1 => h φ1 H1 σ1 (e.trans e1)
  | bad => exact h
/-- an evaluation ahead -/
theorem PostX.to {α : Type} {r : R α} {f : α → Mem → Ms.X} (re : EnvR G φ H ρ σ) (c : Clean φ H) (h : PostX G φ fr W H (r.to ρ f) D) : Post G φ fr H r (fun φ' H' a m' => PostX G φ' fr W H' (f a m') D) (EX G W σ) := by
  cases r with
  | ok a m' => exact fun φ' H' e s => PostX.ext (show PostX G φ fr W H (f a m') D from h) e
  | exc k v m' => exact fun φ' H' e s => h φ' H' σ e s (re.ext e c)
  | bad => exact h
theorem PostX.seq {r : Ms.X} {f : Env → Mem → Ms.X} (h : PostX G φ fr W H (r.seq f) D) : PostX G φ fr W H r { D with nx := tS G fr W f D } := by
  cases r with
  | nx ρ m => exact fun φ' H' σ' e s re => ⟨φ', m, ρ, s, re, PostX.ext (show PostX G φ fr W H (f ρ m) D from h) e⟩
  | ct ρ m => exact h
  | rt d m => exact h
  | exc c l ρ m => exact h
  | bad => exact h
theorem PostX.turn {r : Ms.X} {f : Env → Mem → Ms.X} {B : L2.St → Hp → Prop} (h : PostX G φ fr W H (r.turn f) D) : PostX G φ fr W H r { D with nx := tS G fr W f D, ct := tS G fr W f D, bk := B } := by
  cases r with
  | nx ρ m => exact fun φ' H' σ' e s re => ⟨φ', m, ρ, s, re, PostX.ext (show PostX G φ fr W H (f ρ m) D from h) e⟩
  | ct ρ m => exact fun φ' H' σ' e s re => ⟨φ', m, ρ, s, re, PostX.ext (show PostX G φ fr W H (f ρ m) D from h) e⟩
  | rt d m => exact h
  | exc c l ρ m => exact h
  | bad => exact h
theorem tS.go {α β : Type} {f : Ev α} {g : α → Env → Mem → Ms.X} {k' : (β → Hp → Prop) → KT α} {Q' : β → Hp → Prop} (h : tS G fr W (fun ρ m => (f ρ m).to ρ fun a m => g a ρ m) D σ H)
    (w : ∀ φ H a m ρ, SR G φ fr H m → EnvR G φ H ρ σ → PostX G φ fr W H (g a ρ m) D → k' Q' φ H a m) : tG G fr W f k' σ H Q' := by
  obtain ⟨φ, m, ρ, s, r, p⟩ := h
  exact ⟨φ, m, ρ, s, r, (PostX.to r s.clean p).mono (fun φ1 H1 a m1 e s1 p1 => w φ1 H1 a m1 ρ s1 (r.ext e s.clean) p1) fun _ _ _ _ _ _ _ q => q⟩
theorem PostX.nx {m' : Mem} {ρ' : Env} {σ' : L2.St} (h : PostX G φ fr W H (.nx ρ' m') D) (s : SR G φ fr H m') (r : EnvR G φ H ρ' σ') : D.nx σ' H := h φ H σ' .refl s r
theorem ss_nil : PSs X [] (tSs G C fr W []) := PSs.imp pss_nil fun D σ H ⟨φ, m, ρ, s, r, p⟩ => by
  rw [exes] at p
  exact p.nx s r
theorem ss_cons {st : Stmt} {rest : List Stmt} {s' : Ms.S} {l : List Ms.S} (h1 : PS X st (tSt G C fr W s')) (h2 : PSs X rest (tSs G C fr W l)) : PSs X (st :: rest) (tSs G C fr W (s' :: l)) := PSs.imp (pss_cons h1 h2) fun D σ H ⟨φ, m, ρ, s, r, p⟩ => by
  rw [exes] at p
  exact ⟨φ, m, ρ, s, r, p.seq⟩
theorem s_ret {e : Expr} {e' : Ms.E} {pos : Pos} (he : PE X e (tE G C fr W e')) : PS X (.Return (some e) pos) (tSt G C fr W (.ret e')) := PS.imp (ps_ret he) fun D σ H h => by
  have h : tS G fr W (fun ρ m => (ev G.P C fr e' ρ m).to ρ fun d m => .rt d m) D σ H := by
    obtain ⟨φ, m, ρ, s, r, p⟩ := h
    exact ⟨φ, m, ρ, s, r, by rw [exe] at p; exact p⟩
  exact h.go (k' := KD G) fun φ H a m ρ s r p v rv => p φ H .refl s v rv
theorem s_ex {e : Expr} {e' : Ms.E} {pos : Pos} (he : PE X e (tE G C fr W e')) (hs : swapsWith e none pos.line X.env = pure false) : PS X (.Expr e pos) (tSt G C fr W (.ex e')) := PS.imp (ps_expr he hs) fun D σ H h => by
  have h : tS G fr W (fun ρ m => (ev G.P C fr e' ρ m).to ρ fun d m => .nx ρ m) D σ H := by
    obtain ⟨φ, m, ρ, s, r, p⟩ := h
    exact ⟨φ, m, ρ, s, r, by rw [exe] at p; exact p⟩
  exact h.go (k' := KD G) fun φ H a m ρ s r p v rv => p.nx s r
theorem s_pas {pos : Pos} : PS X (.Pass pos) (tSt G C fr W .pas) := PS.imp ps_pass fun D σ H ⟨φ, m, ρ, s, r, p⟩ => by
  rw [exe] at p
  exact p.nx s r
theorem s_cont {pos : Pos} : PS X (.Continue pos) (tSt G C fr W .cont) := PS.imp ps_continue fun D σ H ⟨φ, m, ρ, s, r, p⟩ => by
  rw [exe] at p
  exact p φ H σ .refl s r
theorem s_ife {c : Expr} {a b : List Stmt} {c' : Ms.E} {a' b' : List Ms.S} {pos : Pos} (hc : PT X c (tT G C fr W c')) (ha : PSs X a (tSs G C fr W a')) (hb : PSs X b (tSs G C fr W b')) : PS X (.If c a b pos) (tSt G C fr W (.ife c' a' b')) := PS.imp (ps_if hc ha hb) fun D σ H h => by
  have h : tS G fr W (fun ρ m => (evb G.P C fr c' ρ m).to ρ fun t m => if t then exes G.P C fr a' ρ m else exes G.P C fr b' ρ m) D σ H := by
    obtain ⟨φ, m, ρ, s, r, p⟩ := h
    exact ⟨φ, m, ρ, s, r, by rw [exe] at p; exact p⟩
  refine h.go (k' := KB) fun φ H t m ρ s r p => ?_
  cases t with
  | true => exact ⟨φ, m, ρ, s, r, p⟩
  | false => exact ⟨φ, m, ρ, s, r, p⟩
theorem s_whl {c : Expr} {a : List Stmt} {c' : Ms.E} {a' : List Ms.S} {pos : Pos} (hp : PassesOwn (model X.prog X.w) X.A X.env X.xe) (hc : PT X c (tT G C fr W c')) (ha : PSs X a (tSs G C fr W a')) : PS X (.While c a [] pos) (tSt G C fr W (.whl c' a')) := PS.imp (ps_while hp hc ha) fun D σ H ⟨φ, m, ρ, s, r, p⟩ => by
  rw [exe] at p
  refine ⟨fun k => tS G fr W (whlGo (evb G.P C fr c') (fun ρ m => exes G.P C fr a' ρ m) k) D, ⟨wfuel, φ, m, ρ, s, r, p⟩, fun k σ H h => ?_⟩
  cases k with
  | zero => obtain ⟨_, _, _, _, _, p⟩ := h; exact p.elim
  | succ k =>
    have h : tS G fr W (fun ρ m => (evb G.P C fr c' ρ m).to ρ fun b m => if b then (exes G.P C fr a' ρ m).turn fun ρ m => whlGo (evb G.P C fr c') (fun ρ m => exes G.P C fr a' ρ m) k ρ m else .nx ρ m) D σ H := h
    refine h.go (k' := KB) fun φ H b m ρ s r p => ?_
    cases b with
    | true => exact ⟨_, fun σ' H' q => ⟨k, Nat.lt_succ_self k, q⟩, φ, m, ρ, s, r, p.turn⟩
    | false => exact p.nx s r
end
end Ms

-- So14
set_option linter.all false
set_option Elab.async false
set_option maxRecDepth 10000
/-! Stores, assignments. -/
namespace Ms
open PySem L2 PySem.Spec PyProof.Rows
/-- o.f = .., within a target -/
def gFld (K : PySem.W.Frag) (ta : TE) (f : Str) : TG := fun y σ H Q => ta σ H fun x H2 => ∃ a C dx fs, x = .ref a ∧ H2 a = some (.ins C dx fs) ∧ L2.Cls K C ∧ NoAttr K C f ∧ fs.length < 1000 ∧ Q σ (upd H2 a (.ins C dx (putF f y fs)))
theorem pg_fld {X : Cx} {o : Expr} {f : Str} {pos : Pos} {ta : TE} (ha : PE X o ta) : PG X (.Attribute o f pos) (gFld X.K ta f) := by
  refine ⟨fun pins s σ H v u Q I r h => ?_⟩
  show wpAny _ _ (do
    let ov ← holding [u] (eval o X.env)
    standAt pos.atName
    holding [u, ov] (setAttr ov f u)
    release [u, ov] []) _ _ _
  refine wpAny_bind (wpAny_holding (thn (ha.run pins s σ H _ I h) fun ov s1 ⟨x, H1, I1, r1, a, C, dx, fs, ex, ea, c, n, l, q⟩ => ?_))
  subst ex
  obtain rfl : ov = Value.ref a := r1
  refine wpAny_bind (wpAny_standAt (wpAny_bind (wpAny_holding (setattr_ok I1 ea c n l r fun s3 I3 => ?_))))
  exact wpAny_release ⟨σ, _, I3, q⟩
theorem PSet.imp {X : Cx} {t' : TSet} (h : ∀ o i v H Q, t' o i v H Q → ∃ t, PSet X t ∧ t o i v H Q) : PSet X t' := fun pins s σ H o i v ov iv u Q I ro ri rv q => by
  obtain ⟨t, ht, q⟩ := h o i v H Q q
  exact ht pins s σ H o i v ov iv u Q I ro ri rv q
def gL (G : Top) (C : Cl) (fr : Fr) (W : WX) (g : Lg) : TG := fun v σ H Q => ∃ φ m d ρ, SR G φ fr H m ∧ EnvR G φ H ρ σ ∧ ValR G φ H d v ∧ PostX G φ fr W H (store G.P C fr d ρ m g) { nx := Q, rt := fun _ _ => True, ct := fun _ _ => True }
def gLs (G : Top) (C : Cl) (fr : Fr) (W : WX) (l : List Lg) : TGs := fun vs σ H Q => ∃ φ m ds ρ, SR G φ fr H m ∧ EnvR G φ H ρ σ ∧ ValsR G φ H ds vs ∧ PostX G φ fr W H (stores G.P C fr ds ρ m l) { nx := Q, rt := fun _ _ => True, ct := fun _ _ => True }
section
variable {G : Top} {C : Cl} {fr : Fr} {W : WX} {X : Cx} {n : Nat} {σ : L2.St} {H H' : Hp} {E : KX} {φ φ' : List Gh} {m : Mem} {ρ : Env} {Dn Dn2 : Ends}
theorem PG.at {e : Expr} {t : L2.St → TG} (h : ∀ σ₀, PG X e (t σ₀)) : PG X e (fun v σ H Q => t σ v σ H Q) := ⟨fun pins s σ H v u Q I r q => (h σ).run pins s σ H v u Q I r q⟩
theorem PostX.seq2 {r : Ms.X} {f : Env → Mem → Ms.X} (h : PostX G φ fr W H (r.seq f) Dn) : PostX G φ fr W H r { Dn with nx := fun σ' H' => ∃ φ' m' ρ', Ext φ H φ' H' ∧ SR G φ' fr H' m' ∧ EnvR G φ' H' ρ' σ' ∧ PostX G φ' fr W H' (f ρ' m') Dn } := by
  cases r with
  | nx ρ m => exact fun φ' H' σ' e s re => ⟨φ', m, ρ, e, s, re, PostX.ext (show PostX G φ fr W H (f ρ m) Dn from h) e⟩
  | ct ρ m => exact h
  | rt d m => exact h
  | exc c l ρ m => exact h
  | bad => exact h
theorem PostX.mono {r : Ms.X} (h : PostX G φ fr W H r Dn) (h1 : ∀ σ' H', Dn.nx σ' H' → Dn2.nx σ' H') (h2 : ∀ σ' H', Dn.ct σ' H' → Dn2.ct σ' H') (h3 : ∀ v H', Dn.rt v H' → Dn2.rt v H') : PostX G φ fr W H r Dn2 := by
  cases r with
  | nx ρ m => exact fun φ' H' σ' e s re => h1 _ _ (h φ' H' σ' e s re)
  | ct ρ m => exact fun φ' H' σ' e s re => h2 _ _ (h φ' H' σ' e s re)
  | rt d m => exact fun φ' H' e s v rv => h3 _ _ (h φ' H' e s v rv)
  | exc c l ρ m => exact h
  | bad => exact h
theorem l_name {i : Nat} {x : Str} {pos : Pos} (hN : X.N.Nodup) (hi : X.N[i]? = some x) (hx : Loc X.env.scope x) (hf : X.fn x = true ∨ X.env.scope.names.lookup x = some .local) : PG X (.Name x pos) (gL G C fr W (.v i)) := by
  refine PG.imp (pg_name hN hi hx hf) fun v σ H Q ⟨φ, m, d, ρ, s, r, rd, p⟩ => ?_
  rw [store] at p
  split at p
  · rename_i hl
    exact p.nx s (r.set rd hl)
  · exact p.elim
theorem ls_nil : PGs X [] (gLs G C fr W []) := by
  refine PGs.imp pgs_nil fun vs σ H Q ⟨φ, m, ds, ρ, s, r, rd, p⟩ => ?_
  cases ds with
  | nil =>
    simp only [ValsR] at rd
    exact ⟨rd, (show PostX G φ fr W H (.nx ρ m) _ from by rw [stores] at p; exact p).nx s r⟩
  | cons d ds => unfold stores at p; exact p.elim
theorem ls_cons {e : Expr} {es : List Expr} {g : Lg} {l : List Lg} (ns : NoStar e) (h1 : PG X e (gL G C fr W g)) (h2 : PGs X es (gLs G C fr W l)) : PGs X (e :: es) (gLs G C fr W (g :: l)) := by
  refine PGs.imp (pgs_cons h1 h2 (by rw [assignEach_cons ns]; rfl)) fun vs σ H Q ⟨φ, m, ds, ρ, s, r, rd, p⟩ => ?_
  cases ds with
  | nil => unfold stores at p; exact p.elim
  | cons d ds =>
    rw [stores] at p
    simp only [ValsR] at rd
    obtain ⟨v, us, rfl, rv, ru⟩ := rd
    have c := s.clean
    exact ⟨v, us, rfl, φ, m, d, ρ, s, r, rv, p.seq2.mono (fun σ' H' ⟨φ', m', ρ', e, s', r', q⟩ => ⟨φ', m', ds, ρ', s', r', ru.ext e c, q⟩) (fun _ _ q => q) fun _ _ q => q⟩
theorem pg_sq {es : List Expr} {k c : Nat} {t : TGs} {pos : Pos} (hc : X.calm = true) (h : PGs X es t) (hn : (assignEach es X.env).length = c) (hst : (assignEach es X.env).findIdx? (·.1) = none) : PG X (.Tuple es k pos) (fun v σ H Q => gTup X.K c t v σ H Q ∨ gLst X.K c t v σ H Q) :=
  ⟨fun pins s σ H v u Q I r hw => by
    rcases hw with hw | hw
    · exact (pg_tup hc h hn hst).run pins s σ H v u Q I r hw
    · exact (pg_lst hc h hn hst).run pins s σ H v u Q I r hw⟩
theorem l_tup {es : List Expr} {l : List Lg} {k : Nat} {pos : Pos} (hc : X.calm = true) (hlen : l.length = es.length) (ns : ∀ e ∈ es, NoStar e) (h : PGs X es (gLs G C fr W l)) : PG X (.Tuple es k pos) (gL G C fr W (.t l)) := by
  refine PG.imp (pg_sq hc h (assignEach_len es X.env) (assignEach_plain es X.env ns)) fun v σ H Q ⟨φ, m, d, ρ, s, r, rd, p⟩ => ?_
  unfold store at p
  split at p
  · rename_i ds
    obtain ⟨a, vs, rfl, h1, h2⟩ := vtup rd
    split at p
    · rename_i hl
      exact .inl ⟨a, vs, rfl, SqT.of h1, by rw [h2.length, hl, hlen], φ, m, ds, ρ, s, r, h2, p⟩
    · exact p.elim
  · obtain ⟨a, rfl, hi⟩ := vref rd
    split at p
    · rename_i ds hm
      obtain ⟨vs, h1, h2⟩ := at_lst s hi hm
      split at p
      · rename_i hl
        exact .inr ⟨a, vs, rfl, SqL.of h1, by rw [h2.length, hl, hlen], φ, m, ds, ρ, s, r, h2, p⟩
      · exact p.elim
    · exact p.elim
  · exact p.elim
theorem fs_len : ∀ {fs : List (Str × D)} {gs : List (Str × V)}, FsR G φ H fs gs → gs.length = fs.length
  | [], _, h => by rw [show _ = [] from h]; rfl
  | (x, d) :: l, _, h => by
    obtain ⟨v, s, rfl, _, h2⟩ := h
    rw [List.length_cons, List.length_cons, fs_len h2]
theorem fs_put {f : Str} {d : D} {v : V} (r : ValR G φ H d v) : ∀ {fs : List (Str × D)} {gs : List (Str × V)}, FsR G φ H fs gs → FsR G φ H (putFd f d fs) (putF f v gs)
  | [], _, h => by rw [show _ = [] from h]; exact ⟨v, [], rfl, r, rfl⟩
  | (x, e) :: l, _, h => by
    obtain ⟨u, s, rfl, h1, h2⟩ := h
    unfold putFd putF
    split
    · exact ⟨v, s, rfl, r, h2⟩
    · exact ⟨u, _, rfl, h1, fs_put r h2⟩
theorem mem_put {f : Str} {d : D} {q : Str × D} : ∀ {fs : List (Str × D)}, q ∈ putFd f d fs → q.1 = f ∨ q ∈ fs
  | [], h => by
    rw [show putFd f d [] = [(f, d)] from rfl, List.mem_singleton] at h
    exact .inl (by rw [h])
  | (x, e) :: l, h => by
    unfold putFd at h
    split at h
    · rename_i hx
      rcases List.mem_cons.mp h with z | z
      · exact .inl (by rw [z]; exact hx)
      · exact .inr (List.mem_cons_of_mem _ z)
    · rcases List.mem_cons.mp h with z | z
      · exact .inr (by rw [z]; exact List.mem_cons_self)
      · rcases mem_put z with z | z
        · exact .inl z
        · exact .inr (List.mem_cons_of_mem _ z)
theorem l_att {o : Expr} {o' : Ms.E} {f : Str} {pos : Pos} (go : GO G X.prog X.w X.K X.mg X.base n) (ho : PE X o (tE G C fr W o')) : PG X (.Attribute o f pos) (gL G C fr W (.att o' f)) := by
  refine PG.imp (pg_fld ho) fun v σ H Q ⟨φ, m, d, ρ, s, r, rd, p⟩ => ?_
  rw [store] at p
  refine ⟨φ, m, ρ, s, r, (PostX.to r s.clean p).mono (fun φ1 H1 x m1 e s1 p1 u ru => ?_) fun _ _ _ _ _ _ _ q => q⟩
  split at p1
  · rename_i i
    obtain ⟨a, rfl, hi⟩ := vref ru
    split at p1
    · rename_i c fs hm
      split at p1
      · rename_i hc
        obtain ⟨Cc, dx, gs, h1, h2, h3, h4⟩ := (show ∃ C dx gs, G.cl c = some C ∧ H1 a = some (.ins C dx gs) ∧ FsR G φ1 H1 fs gs ∧ ∀ p ∈ fs, (G.P.clss[c]?).any (fun k => k.flds.contains p.1) = true from s1.at_ hi hm)
        refine ⟨a, Cc, dx, gs, rfl, h2, go.cls c Cc h1, go.fld c Cc f h1 hc.2, by rw [fs_len h3]; omega, ?_⟩
        have rd1 := rd.ext e s.clean
        have e2 : Ext φ1 H1 φ1 (upd H1 a (.ins Cc dx (putF f v gs))) := ext_set hi h2 rfl fun _ _ z => by cases z
        refine p1 φ1 _ _ e2 (s1.set hi ⟨Cc, dx, _, h1, upd_same, (fs_put rd1 h3).ext0 e2.toEx0 s1.clean, fun q hq => ?_⟩) ((r.ext e s.clean).ext e2 s1.clean)
        rcases mem_put hq with z | z
        · rw [z]; exact hc.2
        · exact h4 q z
      · exact p1.elim
    · exact p1.elim
  · exact p1.elim
theorem l_sub {o i : Expr} {o' i' : Ms.E} {pos : Pos} (xo : XO G X n W) (ha : ∀ v, assign (.Subscript o i pos) X.env v = (do
      let ov ← holding [v] (eval o X.env)
      let iv ← holding [v, ov] (eval i X.env)
      standAt pos
      holding [v, ov, iv] (setItem ov iv v)
      release [v, ov, iv] [])) (ho : PE X o (tE G C fr W o')) (hi : PE X i (tE G C fr W i')) : PG X (.Subscript o i pos) (gL G C fr W (.sub o' i')) := by
  have st : PSet X (fun x y v H Q => ∃ φ m dx dy d ρ σ, SR G φ fr H m ∧ ValR G φ H dx x ∧ ValR G φ H dy y ∧ ValR G φ H d v ∧ EnvR G φ H ρ σ ∧ PostX G φ fr W H (match dx with
    | .ref p => match m[p]? with
      | some (.lst l) => match dy with
        | .int j => match L2.ixN l.length j with
          | some j => .nx ρ (m.set p (.lst (l.set j d)))
          | none => .bad
        | _ => .bad
      | some (.dct 0 l) => if !fr.lk.contains p && isKey 0 dy && decide (l.length < lim) then .nx ρ (m.set p (.dct 0 (dput 0 l dy d))) else .bad
      | _ => .bad
    | _ => .bad) { nx := fun σ' H' => σ' = σ → Q H', rt := fun _ _ => True, ct := fun _ _ => True }) := PSet.imp fun x y v H Q ⟨φ, m, dx, dy, d, ρ, σ, s, rx, ry, rv, r, p⟩ => by
    split at p
    · rename_i q
      obtain ⟨a, rfl, hi⟩ := vref rx
      split at p
      · rename_i l hm
        obtain ⟨vs, h1, h2⟩ := at_lst s hi hm
        split at p
        · rename_i j
          cases vint ry
          split at p
          · rename_i k hk
            obtain ⟨e, s'⟩ := s.app hi hm (h2.set k rv)
            exact ⟨_, set_list, a, vs, j, k, rfl, rfl, h1, by rw [h2.length]; exact hk, p φ _ σ e s' (r.ext e s.clean) rfl⟩
          · exact p.elim
        · exact p.elim
      · rename_i l hm
        split at p
        · rename_i hk
          simp only [Bool.and_eq_true, decide_eq_true_eq, Bool.not_eq_true'] at hk
          obtain ⟨⟨hlk, hky⟩, hlen⟩ := hk
          have o := s.at_ hi hm
          rw [hlk] at o
          obtain ⟨kvs, h1, h2⟩ := o
          have h1 : H a = some (.dK kvs) := h1
          obtain ⟨k', hk'⟩ := Option.isSome_iff_exists.mp (show (keyV dy).isSome = true from hky)
          obtain rfl := keyV_R hk' ry
          have e : Ext φ H φ (upd H a (.dK (putK kvs k' v))) := ext_set hi h1 rfl fun _ _ z => by cases z
          refine ⟨_, set_dict (hu1 xo.room), a, _, rfl, .k h1 (by rw [kv_len h2]; exact sizeLim' hlen), p φ _ σ e (s.set hi ?_) (r.ext e s.clean) rfl⟩
          rw [hlk]
          exact ⟨_, upd_same, (kv_put h2 hk' rv).ext0 e.toEx0 s.clean⟩
        · exact p.elim
      · exact p.elim
    · exact p.elim
  refine PG.imp (pg_sub ho hi st ha) fun v σ H Q ⟨φ, m, d, ρ, s, r, rd, p⟩ => ?_
  rw [store] at p
  refine ⟨φ, m, ρ, s, r, (PostX.to r s.clean p).mono (fun φ1 H1 x m1 e s1 p1 u ru => ?_) fun _ _ _ _ _ _ _ q => q⟩
  have r1 := r.ext e s.clean
  refine ⟨φ1, m1, ρ, s1, r1, (PostX.to r1 s1.clean p1).mono (fun φ2 H2 y m2 e2 s2 p2 w rw => ?_) fun _ _ _ _ _ _ _ q => q⟩
  exact ⟨φ2, m2, x, y, d, ρ, σ, s2, ru.ext e2 s1.clean, rw, (rd.ext e s.clean).ext e2 s1.clean, r1.ext e2 s1.clean, p2.mono (fun σ' H' q z => by rw [z] at q; exact q) (fun _ _ q => q) fun _ _ q => q⟩
end
end Ms

-- So15
set_option linter.all false
set_option Elab.async false
set_option maxRecDepth 10000
/-! Assignments, loops. -/
namespace Ms
open PySem L2 PySem.Spec PyProof.Rows
section
variable {X : Cx}
theorem ps_setDc {i : Nat} {y : Str} {py : Pos} {kx vx tg iter : Expr} {ifs : List Expr} {scope : Scope} {own : List (Str × Nat)} {pos spos : Pos} {wi : TI} {g : TG} {tt : TT} {tk tv : TE} (hc : X.calm = true) (hN : X.N.Nodup) (hy : X.N[i]? = some y) (hyl : X.env.scope.names.lookup y = some .local)
    (hsw : swapsWith (.DictComp kx vx [⟨tg, iter, ifs, 0⟩] scope pos) (some (.Name y py)) spos.line X.env = pure true) (hi : PI X tg iter wi) (ok : BlkOk X.N X.env.scope scope own)
    (hg : ∀ (s : Shared) (H : Hp) (C : Addr) (cl : List (Str × Addr)) (fp : List Addr), PG (X.blk s H scope (compEnvC scope cl C X.env) fp) tg g) (ht : ∀ (s : Shared) (H : Hp) (C : Addr) (cl : List (Str × Addr)) (fp : List Addr), PTs (X.blk s H scope (compEnvC scope cl C X.env) fp) ifs tt)
    (hk : ∀ (s : Shared) (H : Hp) (C : Addr) (cl : List (Str × Addr)) (fp : List Addr), PE (X.blk s H scope (compEnvC scope cl C X.env) fp) kx tk)
    (he : ∀ (s : Shared) (H : Hp) (C : Addr) (cl : List (Str × Addr)) (fp : List Addr), PE (X.blk s H scope (compEnvC scope cl C X.env) fp) vx tv) (hs : ∀ x, foldedSetIterable iter X.env x = pure x) :
    PS X (.Assign [.Name y py] (.DictComp kx vx [⟨tg, iter, ifs, 0⟩] scope pos) spos) (tAsg (tDc wi g tt tk tv (own.map (·.2))) (gName i)) := by
  refine ⟨fun pins s σ H D I h => ?_⟩
  rw [exec_Assign_Name_used _ _ _ _ hsw]
  refine wpAny_bind (wpAny_standAt (wpAny_bind ?_))
  show wpAny _ X.A (do let _ ← comprehension (.DictComp kx vx [⟨tg, iter, ifs, 0⟩] scope pos) scope X.env (firstIterPos [⟨tg, iter, ifs, 0⟩] pos) newDict false (eval iter X.env) (some (assign (.Name y py) X.env))) _ _ s
  have h : tDc wi g tt tk tv (own.map (·.2)) σ H (fun x H1 => gName i x σ H1 D.nx) := h
  refine wpAny_bind (thn (dc_core (Qf := fun _ s' => SP X pins D .next s') hc hN I hi ok hg ht hk he hs h fun L C s' m H' I' q hn f => ?_) fun _ s' hq => wpAny_pure (wpAny_pure hq))
  show wpAny _ _ (assign (.Name y py) X.env (.ref L)) _ _ _
  refine wpAny_assign_Name (store_ok2 (v := V.ref L) I' hN hy (.inl hyl) rfl (fun s2 I2 ⟨a, sb, ha⟩ => ?_) (.inr hyl))
  obtain ⟨f0, f1, f2, f3, f4, f5⟩ := f
  have haC : C ≠ a := by
    rcases ha with z | z
    · rw [z]; exact f1
    · exact fun e => f4 y a z e.symm
  refine ⟨m, hn.sameBut sb haC, fun h3 sb3 => ?_⟩
  exact ⟨_, H', I2.turned (t' := s2.toks) (fun b o hb e => (sb3.2 b hb).trans e) f0 f1 f3 f4 f5, q⟩
theorem sw_trueD {kx vx : Expr} {gs : List Comprehension} {scope : Scope} {pos py : Pos} {y : Str} {l : Nat} {env : PySem.Env} (hk : env.scope.kind = .function) (hy : env.scope.names.lookup y = some .local) (hl : (py.line == pos.line) = true)
    (ha : (scope.names.any fun (n, k) => n == y && (k == .local || k == .cell)) = false) : swapsWith (.DictComp kx vx gs scope pos) (some (.Name y py)) l env = pure true := by
  have ky : env.kindOf y = some .local := hy
  have hb : env.blockKind = .function := by unfold Env.blockKind; rw [hk]; rfl
  unfold swapsWith
  simp only [hb, ky, ha, Expr.pos, hl]
  rfl
end
theorem PS.or {X : Cx} {e : Stmt} {t t' : TS} (h : PS X e t) (h' : PS X e t') : PS X e (fun D σ H => t D σ H ∨ t' D σ H) := ⟨fun pins s σ H D I q => q.elim (h.run pins s σ H D I) (h'.run pins s σ H D I)⟩
theorem PS.ok {X : Cx} {e : Stmt} {t : TS} (h : X.Ok → PS X e t) : PS X e t := ⟨fun pins s σ H D I q => (h I.ok).run pins s σ H D I q⟩
section
variable {G : Top} {C : Cl} {fr : Fr} {W : WX} {X : Cx} {n : Nat} {σ : L2.St} {H H' : Hp} {E : KX} {φ φ' : List Gh} {m : Mem} {ρ : Env} {Dn Dn2 : Ends}
theorem set_go {g : Lg} {e' : Ms.E} (h : tSt G C fr W (.set g e') Dn σ H) : tS G fr W (fun ρ m => (ev G.P C fr e' ρ m).to ρ fun d m => store G.P C fr d ρ m g) Dn σ H := by
  obtain ⟨φ, m, ρ, s, r, p⟩ := h
  exact ⟨φ, m, ρ, s, r, by rw [exe] at p; exact p⟩
/-- target = value -/
theorem s_set {tg e : Expr} {g : Lg} {e' : Ms.E} {pos : Pos} (ns : NoStar tg) (hs : swapsWithSole [tg] e pos.line X.env = pure false) (hw : swappedStores [tg] e X.env = pure none) (he : PE X e (tE G C fr W e')) (hg : PG X tg (gL G C fr W g)) : PS X (.Assign [tg] e pos) (tSt G C fr W (.set g e')) := by
  refine PS.imp (ps_asg he hg hs hw (by rw [assignEach_cons ns]; rfl)) fun D σ H h => ?_
  refine (set_go h).go (k' := KD G) fun φ H d m ρ s r p v rv => ?_
  exact ⟨φ, m, d, ρ, s, r, rv, p.mono (fun _ _ q => q) (fun _ _ _ => True.intro) fun _ _ _ => True.intro⟩
/-- a, b = x, y with names alone -/
theorem s_par {x y : Str} {i j : Nat} {a b : Expr} {a' b' : Ms.E} {px py pt pt2 pos : Pos} {kt k2 : Nat} (xo : XO G X n W) (hi : X.N[i]? = some x) (hj : X.N[j]? = some y) (hij : i ≠ j) (hx : X.env.scope.names.lookup x = some .local) (hy : X.env.scope.names.lookup y = some .local)
    (hw : swappedStores [.Tuple [.Name x px, .Name y py] kt pt] (.Tuple [a, b] k2 pt2) X.env = pure (some [x, y])) (ha : PA X [a, b] (tA G C fr W [a', b'])) :
    PS X (.Assign [.Tuple [.Name x px, .Name y py] kt pt] (.Tuple [a, b] k2 pt2) pos) (tSt G C fr W (.set (.t [.v i, .v j]) (.tup [a', b']))) := by
  refine PS.imp (ps_par xo.calm xo.nd hi hj hij hx hy ha hw rfl) fun D σ H h => ?_
  obtain ⟨φ, m, ρ, s, r, p⟩ := set_go h
  have p := PostX.to r s.clean p
  rw [ev] at p
  refine ⟨φ, m, ρ, s, r, p.bind.mono (fun φ1 H1 ds m1 e1 s1 p1 vs rs => ?_) fun _ _ _ _ _ _ _ q => q⟩
  split at p1
  · have p2 := p1.here s1
    rw [store] at p2
    split at p2
    · rename_i hl
      match ds, hl, rs, p2 with
      | [d, e], _, rs, p2 =>
        obtain ⟨v, u, rfl, rv, ru⟩ := vals_two rs
        have r1 := r.ext e1 s.clean
        by_cases h1 : i < ρ.length
        · by_cases h2 : j < ρ.length
          · simp only [stores, store, Ms.X.seq, h1, h2, if_true, List.length_set] at p2
            exact ⟨v, u, rfl, p2.nx s1 ((r1.set rv h1).set ru (by simpa using h2))⟩
          · simp only [stores, store, Ms.X.seq, h1, h2, if_true, if_false, List.length_set] at p2
            exact (show False from p2).elim
        · simp only [stores, store, Ms.X.seq, h1, if_false] at p2
          exact (show False from p2).elim
    · exact p2.elim
  · exact p1.elim
theorem s_par3 {x y z : Str} {i j k : Nat} {a b c : Expr} {a' b' c' : Ms.E} {px py pz pt pt2 pos : Pos} {kt k2 : Nat} (xo : XO G X n W) (hi : X.N[i]? = some x) (hj : X.N[j]? = some y) (hk : X.N[k]? = some z) (hij : i ≠ j) (hik : i ≠ k) (hjk : j ≠ k) (hx : X.env.scope.names.lookup x = some .local) (hy : X.env.scope.names.lookup y = some .local) (hz : X.env.scope.names.lookup z = some .local)
    (hw : swappedStores [.Tuple [.Name x px, .Name y py, .Name z pz] kt pt] (.Tuple [a, b, c] k2 pt2) X.env = pure (some [x, y, z])) (ha : PA X [a, b, c] (tA G C fr W [a', b', c'])) :
    PS X (.Assign [.Tuple [.Name x px, .Name y py, .Name z pz] kt pt] (.Tuple [a, b, c] k2 pt2) pos) (tSt G C fr W (.set (.t [.v i, .v j, .v k]) (.tup [a', b', c']))) := by
  refine PS.imp (ps_par3 xo.calm xo.nd hi hj hk hij hik hjk hx hy hz ha hw rfl) fun D σ H h => ?_
  obtain ⟨φ, m, ρ, s, r, p⟩ := set_go h
  have p := PostX.to r s.clean p
  rw [ev] at p
  refine ⟨φ, m, ρ, s, r, p.bind.mono (fun φ1 H1 ds m1 e1 s1 p1 vs rs => ?_) fun _ _ _ _ _ _ _ q => q⟩
  split at p1
  · have p2 := p1.here s1
    rw [store] at p2
    split at p2
    · rename_i hl
      match ds, hl, rs, p2 with
      | [d, e, f], _, rs, p2 =>
        simp only [ValsR] at rs
        obtain ⟨v, _, rfl, rv, u, _, rfl, ru, w, _, rfl, rw', rfl⟩ := rs
        have r1 := r.ext e1 s.clean
        by_cases h1 : i < ρ.length
        · by_cases h2 : j < ρ.length
          · by_cases h3 : k < ρ.length
            · simp only [stores, store, Ms.X.seq, h1, h2, h3, if_true, List.length_set] at p2
              exact ⟨v, u, w, rfl, p2.nx s1 (((r1.set rv h1).set ru (by simpa using h2)).set rw' (by simpa using h3))⟩
            · simp only [stores, store, Ms.X.seq, h1, h2, h3, if_true, if_false, List.length_set] at p2
              exact (show False from p2).elim
          · simp only [stores, store, Ms.X.seq, h1, h2, if_true, if_false, List.length_set] at p2
            exact (show False from p2).elim
        · simp only [stores, store, Ms.X.seq, h1, if_false] at p2
          exact (show False from p2).elim
    · exact p2.elim
  · exact p1.elim
/-- name = [..] -/
theorem setv_go {i : Nat} {e' : Ms.E} {σ : L2.St} {H : Hp} (h : tSt G C fr W (.set (.v i) e') Dn σ H) : tE G C fr W e' σ H fun x H1 => Dn.nx (σ.set i (some x)) H1 := by
  refine (set_go h).go (k' := KD G) fun φ H d m ρ s r p v rv => ?_
  rw [store] at p
  split at p
  · exact p.nx s (r.set rv (by assumption))
  · exact p.elim
theorem s_setLc {i : Nat} {y : Str} {py spos : Pos} {elt tg iter : Expr} {ifs : List Expr} {scope : Scope} {own : List (Str × Nat)} {pos : Pos} {k : ItK} {l : List Ms.E} {g : Tg} {c : List Ms.E} {x : Ms.E} (xo : XO G X n W) (hy : X.N[i]? = some y) (hyl : X.env.scope.names.lookup y = some .local)
    (hsw : swapsWith (.ListComp elt [⟨tg, iter, ifs, 0⟩] scope pos) (some (.Name y py)) spos.line X.env = pure true) (hi : ∀ fr, PI X tg iter (tI G C fr W k l)) (ok : BlkOk X.N X.env.scope scope own)
    (hg : ∀ fr s H Cc cl fp, PG (X.blk s H scope (compEnvC scope cl Cc X.env) fp) tg (gT G fr g)) (ht : ∀ fr s H Cc cl fp, PTs (X.blk s H scope (compEnvC scope cl Cc X.env) fp) ifs (tTs G C fr W0 c))
    (he : ∀ fr s H Cc cl fp, PE (X.blk s H scope (compEnvC scope cl Cc X.env) fp) elt (tE G C fr W0 x)) (hs : ∀ x, foldedSetIterable iter X.env x = pure x) (ho : ∀ j ∈ tgV g, j ∈ own.map (·.2)) :
    PS X (.Assign [.Name y py] (.ListComp elt [⟨tg, iter, ifs, 0⟩] scope pos) spos) (tSt G C fr W (.set (.v i) (.lc x g k l c (own.map (·.2))))) := by
  have key := ps_setLc (elt := elt) (tg := tg) (iter := iter) (ifs := ifs) (scope := scope) (own := own) (pos := pos) (py := py) (spos := spos) (wi := tIE G C W k l) (g := gE G g) (tt := tTE G C c) (te := fun σ H Q => ∃ fr, tE G C fr W0 x σ H Q) xo.calm xo.nd hy hyl hsw (PI.ex hi) ok
    (fun s H Cc cl fp => PG.ex fun fr => hg fr s H Cc cl fp) (fun s H Cc cl fp => PTs.ex fun fr => ht fr s H Cc cl fp) (fun s H Cc cl fp => PE.ex fun fr => he fr s H Cc cl fp) hs
  exact PS.imp (PS.or key (ps_lock key)) fun D σ H h => (lc_read ho (setv_go h)).imp id id
theorem s_setDc {i : Nat} {y : Str} {py spos : Pos} {kx vx tg iter : Expr} {ifs : List Expr} {scope : Scope} {own : List (Str × Nat)} {pos : Pos} {k : ItK} {l : List Ms.E} {g : Tg} {c : List Ms.E} {u x : Ms.E} (xo : XO G X n W) (hy : X.N[i]? = some y) (hyl : X.env.scope.names.lookup y = some .local)
    (hsw : swapsWith (.DictComp kx vx [⟨tg, iter, ifs, 0⟩] scope pos) (some (.Name y py)) spos.line X.env = pure true) (hi : ∀ fr, PI X tg iter (tI G C fr W k l)) (ok : BlkOk X.N X.env.scope scope own)
    (hg : ∀ fr s H Cc cl fp, PG (X.blk s H scope (compEnvC scope cl Cc X.env) fp) tg (gT G fr g)) (ht : ∀ fr s H Cc cl fp, PTs (X.blk s H scope (compEnvC scope cl Cc X.env) fp) ifs (tTs G C fr W0 c))
    (hk : ∀ fr s H Cc cl fp, PE (X.blk s H scope (compEnvC scope cl Cc X.env) fp) kx (tE G C fr W0 u)) (he : ∀ fr s H Cc cl fp, PE (X.blk s H scope (compEnvC scope cl Cc X.env) fp) vx (tE G C fr W0 x))
    (hs : ∀ x, foldedSetIterable iter X.env x = pure x) (ho : ∀ j ∈ tgV g, j ∈ own.map (·.2)) :
    PS X (.Assign [.Name y py] (.DictComp kx vx [⟨tg, iter, ifs, 0⟩] scope pos) spos) (tSt G C fr W (.set (.v i) (.dc 0 u x g k l c (own.map (·.2))))) := by
  have key := ps_setDc (kx := kx) (vx := vx) (tg := tg) (iter := iter) (ifs := ifs) (scope := scope) (own := own) (pos := pos) (py := py) (spos := spos) (wi := tIE G C W k l) (g := gE G g) (tt := tTE G C c) (tk := fun σ H Q => ∃ fr, tE G C fr W0 u σ H Q) (tv := fun σ H Q => ∃ fr, tE G C fr W0 x σ H Q) xo.calm xo.nd hy hyl hsw (PI.ex hi) ok
    (fun s H Cc cl fp => PG.ex fun fr => hg fr s H Cc cl fp) (fun s H Cc cl fp => PTs.ex fun fr => ht fr s H Cc cl fp) (fun s H Cc cl fp => PE.ex fun fr => hk fr s H Cc cl fp) (fun s H Cc cl fp => PE.ex fun fr => he fr s H Cc cl fp) hs
  exact PS.imp (PS.or key (ps_lock key)) fun D σ H h => (dc_read ho (setv_go h)).imp id id
/-- name op= value -/
theorem aug_ok (o : Bin) : PIp X (opB o) (fun x y H Q => ∃ φ m d e, SR G φ fr H m ∧ ValR G φ H d x ∧ ValR G φ H e y ∧ Post G φ fr H (augop o d e m) (KD G Q) E) := fun pins s σ H x y v u Q I rx ry ⟨φ, m, d, e, sr, rd, re, p⟩ => by
  unfold augop at p
  split at p
  · cases vint rd; cases vint re
    exact ip_add pins s σ H _ _ v u Q I rx ry ⟨_, _, rfl, rfl, p.here sr _ rint⟩
  · cases vstr rd; cases vstr re
    split at p
    · exact in_addS pins s σ H _ _ v u Q I rx ry ⟨_, _, rfl, rfl, sizeLim (by assumption), p.here sr _ rstr⟩
    · exact p.elim
  · cases vint rd; cases vint re
    exact ip_sub pins s σ H _ _ v u Q I rx ry ⟨_, _, rfl, rfl, p.here sr _ rint⟩
  · exact p.elim
theorem PS.at {e : Stmt} {t : L2.St → TS} (h : ∀ σ₀, PS X e (t σ₀)) : PS X e (fun D σ H => t σ D σ H) := ⟨fun pins s σ H D I q => (h σ).run pins s σ H D I q⟩
theorem s_aug {i : Nat} {x : Str} {o : Bin} {e : Expr} {e' : Ms.E} {px pos : Pos} (xo : XO G X n W) (hi : X.N[i]? = some x) (hx : Loc X.env.scope x) (hf : X.fn x = true ∨ X.env.scope.names.lookup x = some .local) (he : PE X e (tE G C fr W e')) :
    PS X (.AugAssign (.Name x px) (opB o) e pos) (tSt G C fr W (.aug i o e')) := by
  refine PS.imp (PS.at fun σ₀ => ps_aug xo.nd hi hx he (aug_ok (G := G) (fr := fr) (E := EX G W σ₀) o) hf) fun D σ H ⟨φ, m, ρ, s, r, p⟩ => ?_
  rw [exe] at p
  split at p
  · rename_i x' hx'
    have h2 : ρ[i]? = some (some x') := by
      cases e : ρ[i]? with
      | none => rw [e] at hx'; cases hx'
      | some o => rw [e] at hx'; exact congrArg some hx'
    obtain ⟨v, h3, h4⟩ := r.at_ i x' h2
    refine ⟨v, h3, φ, m, ρ, s, r, (PostX.to r s.clean p).mono (fun φ1 H1 y m1 e1 s1 p1 u ru => ?_) fun _ _ _ _ _ _ _ q => q⟩
    have r1 := r.ext e1 s.clean
    refine ⟨φ1, m1, x', y, s1, h4.ext e1 s.clean, ru, (PostX.to r1 s1.clean p1).mono (fun φ2 H2 z m2 e2 s2 p2 w rw' => ?_) fun _ _ _ _ _ _ _ q => q⟩
    split at p2
    · exact p2.nx s2 ((r1.ext e2 s1.clean).set rw' (by assumption))
    · exact p2.elim
  · exact p.elim

/-! ### for -/
theorem for_go {k : ItK} {l : List Ms.E} {g : Tg} {a : List Ms.S} {ρ : Env} {σ : L2.St} {H : Hp} (s : SR G φ fr H m) (r : EnvR G φ H ρ σ)
    (p : PostX G φ fr W H ((evs G.P C fr l ρ m).to ρ fun ds m => match src fr m k ds with
    | some (s, n) => forGo s n g (fun ρ m => exes G.P C fr a ρ m) n ρ m
    | none => .bad) Dn) : tFor (tIE G C W k l) (gE G g) (fun D σ H => ∃ fr, tSs G C fr W a D σ H) Dn σ H := by
  refine ⟨fr, φ, m, ρ, s, r, (PostX.to r s.clean p).mono (fun φ1 H1 ds m1 e1 s1 p1 => ?_) fun _ _ _ _ _ _ _ q => q⟩
  split at p1
  · rename_i sc n hs
    refine ⟨sc, n, hs, fun J hJ => ?_⟩
    have r1 := r.ext e1 s.clean
    refine ⟨fun i mm σc Hc => i ≤ n ∧ mm = n - i ∧ ∃ φ' m' ρ', Ext φ1 H1 φ' Hc ∧ SR G φ' fr Hc m' ∧ EnvR G φ' Hc ρ' σc ∧ PostX G φ' fr W Hc (forGo sc n g (fun ρ m => exes G.P C fr a ρ m) (n - i) ρ' m') Dn, ⟨n, Nat.zero_le _, rfl, φ1, m1, ρ, .refl, s1, r1, p1⟩, ?_⟩
    intro i mm σc Hc ⟨hin, hmm, φ', m', ρ', e', s', r', P0⟩
    by_cases hi : i = n
    · subst hi
      rw [Nat.sub_self] at P0
      simp only [forGo] at P0
      split at P0
      · rename_i hok
        exact .inl ⟨(hJ φ' Hc m' e'.toEx1 s' hok).1, P0.nx s' r'⟩
      · exact P0.elim
    · refine .inr ?_
      have hlt : i < n := by omega
      obtain ⟨k', hk'⟩ : ∃ k', n - i = k' + 1 := ⟨n - i - 1, by omega⟩
      rw [hk'] at P0
      simp only [forGo] at P0
      split at P0
      · rename_i hok
        obtain ⟨_, go⟩ := hJ φ' Hc m' e'.toEx1 s' hok
        obtain ⟨hgo, hy⟩ := go i hlt
        have hsub : n - (k' + 1) = i := by omega
        rw [hsub] at P0
        split at P0
        · rename_i d hd
          split at P0
          · rename_i ρ2 hρ
            refine ⟨hgo, fun σ' H' => ∃ φ' m' ρ', Ext φ1 H1 φ' H' ∧ SR G φ' fr H' m' ∧ EnvR G φ' H' ρ' σ' ∧ PostX G φ' fr W H' (forGo sc n g (fun ρ m => exes G.P C fr a ρ m) k' ρ' m') Dn, fun σ' H' ⟨φ', m', ρ', q⟩ => ⟨k', by omega, by omega, by omega, φ', m', ρ', ?_⟩, fun x H' hyx => ?_⟩
            · have : n - (i + 1) = k' := by omega
              rw [this]
              exact q
            · obtain ⟨e3, s3, rx⟩ := hy x H' d hyx hd
              refine ⟨fr, φ', m', d, ρ', ρ2, s3, r'.ext e3 s'.clean, rx, hρ, fun σ2 r4 _ => ⟨fr, φ', m', ρ2, s3, r4, ?_⟩⟩
              have P1 := P0.ext e3
              have E3 := e'.trans e3
              generalize exes G.P C fr a ρ2 m' = rr at P1
              cases rr with
              | nx ρ m => exact fun φ' H' σ' e s re => ⟨φ', m, ρ, E3.trans e, s, re, PostX.ext (show PostX G _ fr W _ (forGo sc n g (fun ρ m => exes G.P C fr a ρ m) k' ρ m) Dn from P1) e⟩
              | ct ρ m => exact fun φ' H' σ' e s re => ⟨φ', m, ρ, E3.trans e, s, re, PostX.ext (show PostX G _ fr W _ (forGo sc n g (fun ρ m => exes G.P C fr a ρ m) k' ρ m) Dn from P1) e⟩
              | rt d m => exact P1
              | exc c l ρ m => exact P1
              | bad => exact P1
          · exact P0.elim
        · exact P0.elim
      · exact P0.elim
  · exact p1.elim
theorem lock_orX {t : TS} {k : ItK} {l : List Ms.E} {ρ : Env} {B : Fr → Env → Mem → Ms.X} {σ : L2.St} {H : Hp} (s : SR G φ fr H m) (r : EnvR G φ H ρ σ)
    (p : PostX G φ fr W H (Ms.X.noxIf (lockV fr m k l ρ).isSome (B (fr.lock (lockV fr m k l ρ)) ρ m)) Dn)
    (w : ∀ fr φ H D, SR G φ fr H m → EnvR G φ H ρ σ → PostX G φ fr W H (B fr ρ m) D → t D σ H) : t Dn σ H ∨ tLock t Dn σ H := by
  cases hq : lockV fr m k l ρ with
  | none =>
    rw [hq] at p
    refine .inl (w fr φ H Dn s r ?_)
    have p : PostX G φ fr W H (Ms.X.noxIf false (B fr ρ m)) Dn := p
    generalize B fr ρ m = rr at p
    cases rr <;> exact p
  | some j =>
    rw [hq] at p
    have p : PostX G φ fr W H (Ms.X.noxIf true (B { fr with lk := j :: fr.lk } ρ m)) Dn := p
    obtain ⟨i, tt, kv, rfl, rfl, hi, hm, hl⟩ := lock_at hq
    obtain ⟨v, h1, h2⟩ := r.at_ i _ hi
    obtain ⟨a, rfl, ha⟩ := vref h2
    obtain ⟨u, hu, hd, hall⟩ := s.lockd ha hm hl
    refine .inr ⟨a, u, hu, mut_of hd, fun od => ?_⟩
    obtain ⟨e1, s1⟩ := hall od
    refine w _ φ _ _ s1 (r.ext e1 s.clean) ?_
    generalize B { fr with lk := j :: fr.lk } ρ m = rr at p
    have un : ∀ φ' H' m', Ext φ (upd H a (.frz od u)) φ' H' → SR G φ' { fr with lk := j :: fr.lk } H' m' → H' a = some (.frz od u) ∧ Ext φ H φ' (upd H' a u) ∧ SR G φ' fr (upd H' a u) m' ∧ Ex0 φ' H' φ' (upd H' a u) := fun φ' H' m' e2 s2 => by
      obtain ⟨h3, e3⟩ := ext_unlock ha hu hd e2
      have ha' := e2.pre _ _ ha
      obtain ⟨ou, hou, hmu⟩ := s2.clean j a ha'
      exact ⟨h3, e3, s2.unlock ha' h3 hd hl, ex_set ha' hou hmu⟩
    cases rr with
    | nx ρ' m' =>
        intro φ' H' σ' e2 s2 r2
        obtain ⟨h3, e3, su, e0⟩ := un φ' H' m' e2 s2
        exact ⟨h3, p φ' _ σ' e3 su (r2.ext0 e0 s2.clean)⟩
    | ct ρ' m' =>
        intro φ' H' σ' e2 s2 r2
        obtain ⟨h3, e3, su, e0⟩ := un φ' H' m' e2 s2
        exact ⟨h3, p φ' _ σ' e3 su (r2.ext0 e0 s2.clean)⟩
    | rt d m' =>
        intro φ' H' e2 s2 v rv
        obtain ⟨h3, e3, su, e0⟩ := un φ' H' m' e2 s2
        exact ⟨h3, p φ' _ e3 su v (ValR.ext0 e0 s2.clean _ _ rv)⟩
    | exc c v ρ' m' => exact p.elim
    | bad => exact p.elim
theorem PSs.ex {ι : Type} {l : List Stmt} {t : ι → TS} (h : ∀ i, PSs X l (t i)) : PSs X l (fun D σ H => ∃ i, t i D σ H) := ⟨fun pins s σ H D I ⟨i, q⟩ => (h i).run pins s σ H D I q⟩
theorem s_for {tg iter : Expr} {body : List Stmt} {g : Tg} {k : ItK} {l : List Ms.E} {a : List Ms.S} {pos : Pos} (xo : XO G X n W) (hp : PassesOwn (model X.prog X.w) X.A X.env X.xe) (hi : ∀ fr, PI X tg iter (tI G C fr W k l)) (hg : ∀ fr, PG X tg (gT G fr g)) (hb : ∀ fr, PSs X body (tSs G C fr W a))
    (hs : ∀ x, foldedSetIterable iter X.env x = pure x) : PS X (.For tg iter body [] pos) (tSt G C fr W (.for_ g k l a)) := by
  have key := ps_for (tg := tg) (iter := iter) (body := body) (pos := pos) (wi := tIE G C W k l) (g := gE G g) (tb := fun D σ H => ∃ fr, tSs G C fr W a D σ H) hp xo.calm (PI.ex hi) (PG.ex hg) (PSs.ex hb) hs
  refine PS.imp (PS.or key (ps_lock key)) fun D σ H ⟨φ, m, ρ, s, r, p⟩ => ?_
  rw [exe] at p
  refine lock_orX (B := fun fr ρ m => (evs G.P C fr l ρ m).to ρ fun ds m => match src fr m k ds with
    | some (s, n) => forGo s n g (fun ρ m => exes G.P C fr a ρ m) n ρ m
    | none => .bad) s r p fun fr φ H D s r p => for_go s r p
end
end Ms

-- So16
set_option linter.all false
set_option Elab.async false
set_option maxRecDepth 10000
set_option maxHeartbeats 400000
/-! An own exception whose __init__ says super().__init__('..') and self.f = v: how it is made. -/
namespace Ms
open PySem L2 PySem.Spec PyProof.Rows PySem.Calls
open PySem.W (Looks InstAt findIn nsIn alongIn clsIn looks_findIn ksEnv ksFn codeIn)
abbrev eTail : List Value := [.type "Exception", .type "BaseException", .type "object"]
/-- own classes, then Exception -/
inductive ERefs : List Value → Prop
  | nil : ERefs eTail
  | cons {c : Addr} {r : List Value} : ERefs r → ERefs (.ref c :: r)
theorem ERefs.pass {self : Value} {l : List Value} (h : ERefs l) : refuseLoop self "__setattr__" l = pure () := by
  induction h with
  | nil => exact PySem.F.store_Exception.passes self
  | cons _ ih => rw [refuseLoop_ref]; exact ih
theorem ERefs.contains (Y : String) {l : List Value} (h : ERefs l) : l.contains (.type Y) = eTail.contains (.type Y) := by
  induction h with
  | nil => rfl
  | cons _ ih => rw [List.contains_cons, ih]; rfl
theorem ERefs.ne {l : List Value} (h : ERefs l) : l.isEmpty = false := by cases h <;> rfl
section
open Builtin Builtin.ObjectAttr
variable {prog : Program} {w : World} {A : Around} {E : Value → Shared → Prop} {R : Result → Shared → Prop} {hp : Heap} {g : Array GenState} {d : Drawn} {t : Nat} {os : OsState}
theorem e_osa {K : PySem.W.Frag} {name : Str} {tk : Tok} {v : Value} {x C : Addr} {fv : Array Value} {cd : ClassData}
    (X : K.In hp) (hx : hp.get? x = some { cls := .ref C, data := .fields fv }) (hcd : PySem.W.clsIn K C = some cd) (hm : ERefs cd.mro) (hh : cd.hasDict = true) (ha : PySem.W.findIn K (.ref C) name = some none)
    (hq : ∀ h' tk' dx, (∀ b o, b ≠ x → hp.get? b = some o → h'.get? b = some o) → hp.objs.size ≤ dx → dx ≠ x → h'.get? x = some { cls := .ref C, dict := some dx, data := .fields fv } →
      h'.Ns1 dx (fun y => if y = name then some v else none) → R (.ok (.ret .none)) ⟨h', g, d, tk', os⟩) :
    codeAny (model prog w) A (.call (.builtin "object.__setattr__") ⟨[.ref x, .str name tk, v], []⟩) R ⟨hp, g, d, t, os⟩ := by
  have I : PySem.W.InstAt hp x { cls := .ref C, data := .fields fv } C none := ⟨hx, rfl, rfl, trivial⟩
  have SF := PySem.F.store_object
  have hxs : x ≠ hp.objs.size := Nat.ne_of_lt (Heap.lt_size hx)
  have hob : cd.mro.contains (.type "object") = true := (hm.contains "object").trans (by decide +kernel)
  have sub : PySem.W.Looks (model prog w) hp (isInstance (.ref x) (.type "object")) true := I.type.andThen (PySem.W.looks_mroIn X (by unfold PySem.W.mroIn; rw [hcd, Option.bind_some, if_neg (by rw [hm.ne]; decide), hob]))
  refine codeAny_call_builtin SF.slot.plain SF.entry (@PySem.W.check_slot (model prog w) _ _ ⟨hp, g, d, t, os⟩ "object.__setattr__" "object" "__setattr__" (.ref x) [.str name tk, v] [] _ SF.kind SF.split sub (SF.args (.ref x) (.str name tk) v) ?_)
  have hmr : PySem.W.Looks (model prog w) hp (mroOf (.ref C)) cd.mro := (PySem.W.looks_clsIn X hcd).andThen .now
  have L3 : PySem.W.Looks (model prog w) hp (storeTaker? none) none := .now
  have hcls : PySem.W.Looks (model prog w) hp (classData C) cd := PySem.W.looks_clsIn X hcd
  rw [PySem.W.osa_eq, refuse_eq]
  refine wpAny_bind (wpAny_bind (I.type.at (wpAny_bind (hmr.at ?_))))
  rw [hm.pass]
  refine wpAny_pure (wpAny_bind (I.type.at (wpAny_bind ((PySem.W.looks_findIn X ha).at (wpAny_bind (L3.at ?_))))))
  show wpAny _ _ (storeInOwnDict (.ref x) (.ref C) (.str name tk) name v false) _ _ _
  obtain ⟨nm, bs, mro, ns, qn, hd, sn, sb, ab, col, del⟩ := cd
  dsimp only at hh
  subst hh
  unfold storeInOwnDict ownDictForStores
  repeat (first | with_reducible refine HandSPX.store_in_new ?_ ?_ | with_reducible refine wpAny_loadPart_at hx ?_ | with_reducible refine hcls.at ?_ | wp_step)
  · exact ⟨_, #[], _, (Heap.get?_update_ne _ _ _ _ hxs.symm).trans (Heap.get?_push_at rfl rfl), rfl, fun e he => absurd he (by simp), fun _ => rfl⟩
  · intro h' tk' hn' hs
    have hx₁ : (hp.push { cls := .type "dict", data := .dict #[] }).get? x = some { cls := .ref C, data := .fields fv } := Heap.get?_push_of_some _ hx
    refine hq h' tk' hp.objs.size (fun b o hb ho => ?_) (Nat.le_refl _) hxs.symm ?_ hn'
    · exact (hs.2 b (Nat.ne_of_lt (Heap.lt_size ho))).trans ((Heap.get?_update_ne _ _ _ _ hb).trans (Heap.get?_push_of_some _ ho))
    · exact (hs.2 x hxs).trans (Heap.get?_update_self _ hx₁ rfl)
end
/-- what is known of such an exception's class -/
structure EXC (P : Program) (K : PySem.W.Frag) (C fI : Addr) (fl : Str) : Prop where
  cls : ∃ nm q N bs bm sn sub ab col dd k0 k1 k2 k3 k5, K.lookup C = some (excClassObj nm q C N bs bm true sn sub ab col dd k0 k1 k2 k3 k5 "Exception.__new__") ∧ ERefs bm ∧ alongIn K "__init__" bm = some (some (.builtin "Exception.__init__"))
  op : nsIn K cStatics "thirdparty.any" = some none
  isE : PySem.W.subIn K (.ref C) (.type "Exception") = some true
  sa : findIn K (.ref C) "__setattr__" = some (some (.builtin "object.__setattr__"))
  no : findIn K (.ref C) fl = some none
  self : PySem.W.mroIn K C (.ref C) = some true
  sup : nsIn K mainGlobals "super" = some none
  iC : findIn K (.ref C) "__init__" = some (some (.ref fI))
  tI : PySem.W.typeIn K (.ref fI) = some (.type "function")
  exC : PySem.W.subIn K (.ref C) (.type "BaseException") = some true
  tyC : PySem.W.typeIn K (.ref C) = some (.type "type")
  kC : PySem.W.keepIn K (.ref C) = true
/-- the text handed on: told, or with the argument's text behind -/
inductive AE (av : Str) : Bool → Expr → Prop
  | c (txt : Str) (kk : Nat) (p : Pos) : AE av false (.Constant (.str txt) kk p)
  | s (txt : Str) (kk : Nat) (p pa pb pc pd : Pos) (h : txt.length ≤ 1000) : AE av true (.BinOp (.Constant (.str txt) kk p) .Add (.Call (.Name "str" pa) [.Name av pb] [] pc) pd)
/-- the def's body -/
def initB (sn an fl : Str) (ae : Expr) (p0 p1 p2 p4 p5 p6 p7 p8 p9 : Pos) : List Stmt :=
  [.Expr (.Call (.Attribute (.Call (.Name "super" p0) [] [] p1) "__init__" p2) [ae] [] p4) p5, .Assign [.Attribute (.Name sn p6) fl p7] (.Name an p8) p9]
/-- what is known of the def -/
structure INI (P : Program) (K : PySem.W.Frag) (C fI : Addr) (fl : Str) (b : Bool) : Prop where
  ex : ∃ name qual params body scope dV kV doc pm an cda ct cc oc od osl sn av ae p0 p1 p2 p4 p5 p6 p7 p8 p9 ar vs file tf ccl cdd ccs cl cld csl,
    body = initB sn av fl ae p0 p1 p2 p4 p5 p6 p7 p8 p9 ∧ AE av b ae ∧ (b = true → scope.names.lookup ("str" : Str) = some .globalImplicit) ∧ K.lookup fI = some ⟨oc, od, .func (ksFn name qual params body scope dV kV doc pm an (.ref cda) ct cc), osl⟩ ∧ codeIn K (.ref cda) qual = true ∧
    (params.posonlyargs ++ params.args).head? = some ar ∧ ar.arg = sn ∧ (∀ (s : Shared) (a b : Value), BindsTo s (ksFn name qual params body scope dV kV doc pm an (.ref cda) ct cc) ⟨[a, b], []⟩ [(sn, a), (av, b)]) ∧
    K.lookup cda = some ⟨ccl, cdd, .fields vs, ccs⟩ ∧ vs[2]? = some (.str file tf) ∧ ((P.main.file : Str) == file) = true ∧ (P.main.scope.names.lookup ("super" : Str)).isSome = false ∧
    K.lookup cc = some ⟨cl, cld, .cell (some (.ref C)), csl⟩ ∧ scope.kind = .function ∧ scope.isCoroutine = false ∧ scope.isGenerator = false ∧ (∀ x ∈ scope.names, x.2 ≠ .cell) ∧
    scope.names.lookup ("super" : Str) = some .globalImplicit ∧ scope.names.lookup ("__class__" : Str) = some .free ∧ scope.names.lookup sn = some .local ∧ scope.names.lookup av = some .local ∧
    (p2.endLine == p4.line) = true ∧ sn ≠ av ∧ (sn == ("__debug__" : Str)) = false ∧ (av == ("__debug__" : Str)) = false
/-- a method's call on one line -/
theorem mline {o : Expr} {m : Str} {apos pos : Pos} {env : PySem.Env} {ov : Value} {n : Nat} {args : List (Bool × Sem Value)} {kws : List (Option Str × Sem Value)} (hf : methodCallForm n args kws = true) (hl : (apos.endLine == pos.line) = true) :
    methodCall o m apos pos env ov n args kws = (do
      let (f, first) ← holding [ov] (getMethod ov m (do return (← importBound o env).getD true))
      callWith pos f first args kws) := by
  have e1 : calleeOf (methodCallForm n args kws) o env ov m = getMethod ov m (do return (← importBound o env).getD true) := by rw [hf] <;> rfl
  have e2 : methodCallPos (methodCallForm n args kws) o env apos pos = pure pos := by
    unfold methodCallPos
    exact if_pos (by rw [hl, Bool.or_true])
  unfold methodCall
  rw [e1, e2]
  first
    | rfl
    | simp only [pure_bind]
section
variable {P : Program} {w : World} {A : Around} {R : Result → Shared → Prop} {hp : Heap} {g : Array GenState} {d : Drawn} {t : Nat} {os : OsState} {K : PySem.W.Frag} {C fI x t0 : Addr} {fl : Str} {u : Value} {mg mb : Str → Option Value}
theorem ae_ok {b : Bool} {ae : Expr} {av : Str} {env : PySem.Env} {pos : Pos} {E : Value → Shared → Prop} {Q : List Value → Shared → Prop} {nsl : Str → Option Value} (ha : AE av b ae) (hkE : env.scope.kind = .function) (hs : b = true → env.kindOf "str" = some .globalImplicit) (hg : hp.Ns env.globals mg) (hmg : mg "str" = none) (hb : hp.Ns env.builtins mb) (hmb : mb "str" = some (.type "str"))
    (hkav : env.kindOf av = some .local) (hns : hp.Ns env.locals nsl) (hv : nsl av = some u) (hd : (av == ("__debug__" : Str)) = false) (hu : b = true → ∃ w tk, u = .str w tk ∧ w.length ≤ 1000)
    (h : ∀ v tk, Q [v] ⟨hp, g, d, tk, os⟩) : wpAny (model P w) A (spliced (backTo pos (starEach [ae] env))) Q E ⟨hp, g, d, t, os⟩ := by
  cases ha with
  | c txt kk p => exact args_cons (Constant_str (args_nil (h _ _))) rfl
  | s txt kk p pa pb pc pd hl =>
    obtain ⟨w, tk, rfl, hw⟩ := hu rfl
    refine args_cons (wpAny_BinOp (Constant_str (wpAny_Call_Name_kw (wpAny_Name (PySem.W.ks_loadName_global hkE (hs rfl) (loadGlobal_builtin hg hmg hb hmb ?_)) (by decide))))) rfl
    refine callWith_type1 (args_cons (wpAny_Name (wpAny_loadName_local hkE hkav hns hv ?_) hd) rfl)
    refine args_nil ?_
    show wpAny _ _ (call (.type "str") [.str w tk]) _ _ _
    refine PySem.P.str_of_str ?_
    exact PySem.SB.add (fun t' k => args_nil (h _ _)) (by rw [sizeLine_eq]; omega)
theorem init_run {b : Bool} (Y : EXC P K C fI fl) (Z : INI P K C fI fl b) (hms : mg "str" = none) (hmbs : mb "str" = some (.type "str")) (hu : b = true → ∃ w tk, u = .str w tk ∧ w.length ≤ 1000) (X : K.In hp) (lim : hp.NoLimit) (hg : hp.Ns mainGlobals mg) (hmg : mg "super" = none) (hb : hp.Ns builtinsNs mb) (hmb : mb "super" = some (.type "super")) (hroom : A.depth < recursionLimit) (hKx : ∀ b o, K.lookup b = some o → b ≠ x)
    (hx : hp.get? x = some (HandSPX.excO C t0))
    (hq : ∀ h' tk' dx t1, (∀ b o, b ≠ x → hp.get? b = some o → h'.get? b = some o) → hp.objs.size ≤ dx → dx ≠ x → h'.get? x = some { cls := .ref C, dict := some dx, data := .fields #[.ref t1, .none, .none, .none, .bool false, .none] } →
      h'.Ns1 dx (fun y => if y = fl then some u else none) → R (.ok (.ret .none)) ⟨h', g, d, tk', os⟩) :
    codeAny (model P w) A (.call (.ref fI) ⟨[.ref x, u], []⟩) R ⟨hp, g, d, t, os⟩ := by
  obtain ⟨nm, q, N, bs, bm, sns, sub, ab, col, dd, k0, k1, k2, k3, k5, hC, hbm, hal⟩ := Y.cls
  obtain ⟨name, qual, params, body, scope, dV, kV, doc, pm, an, cda, ct, cc, oc, od, osl, sn, av, ae, p0, p1, p2, p4, p5, p6, p7, p8, p9, ar, vs, file, tf, ccl, cdd, ccs, cl, cld, csl,
    rfl, hae, hstr, ho, hcd, hpar, har, hbind, hcode, hvs, hfile, htop, hcell, hk, hco, hgen, hnc, hks, hkc, hksn, hkav, hline, hne, hd1, hd2⟩ := Z.ex
  have hcl : clsIn K C = some { name := nm, bases := bs, mro := .ref C :: bm, ns := N, qualname := q, hasDict := true, slotNames := sns, subclasses := sub, abstract := ab, collection := col, hasDel := false } := by unfold PySem.W.clsIn; rw [hC] <;> rfl
  refine ks_codeAny_call_defAt (binds := [(sn, .ref x), (av, u)]) hroom (X _ _ ho) rfl lim (PySem.W.codeRec_of X hcd) rfl (hbind _ _ _) hnc (fun y hy => ?_) (fun h₀ hns hk0 => ?_) hco hgen hk
  · rcases List.mem_cons.mp hy with z | z
    · rw [z]; exact hksn
    · rw [List.mem_singleton.mp z]; exact hkav
  have X0 : K.In h₀ := fun b o e => hk0 b o (X b o e)
  have hg0 := hg.keeps (h' := h₀) fun b o e => hk0 b o e
  have hb0 := hb.keeps (h' := h₀) fun b o e => hk0 b o e
  have hx0 := hk0 _ _ hx
  have hC0 := X0 _ _ hC
  generalize hen : callEnv (ksFn name qual params (initB sn av fl ae p0 p1 p2 p4 p5 p6 p7 p8 p9) scope dV kV doc pm an (.ref cda) ct cc) (Shared.heap ⟨hp, g, d, t, os⟩).objs.size fI = env
  have ek : env.scope = scope := by rw [← hen]; rfl
  have el : env.locals = hp.objs.size := by rw [← hen]; rfl
  have ec : env.cells.lookup ("__class__" : Str) = some cc := by rw [← hen]; rfl
  have eg : env.globals = mainGlobals := by rw [← hen]; rfl
  have eb : env.builtins = builtinsNs := by rw [← hen]; rfl
  have ef : env.func = some fI := by rw [← hen]; rfl
  have eco : env.code = .ref cda := by rw [← hen]; rfl
  have hbn : (sn == av) = false := by simpa using hne
  have hbn2 : (av == sn) = false := by simpa using fun z : av = sn => hne z.symm
  have kof : ∀ y, env.kindOf y = scope.names.lookup y := fun y => by unfold Env.kindOf; rw [ek]
  have hkE : env.scope.kind = .function := by rw [ek]; exact hk
  have he : eval (.Call (.Attribute (.Call (.Name "super" p0) [] [] p1) "__init__" p2) [ae] [] p4) env = (do
      let ov ← attributeBase (.Call (.Name "super" p0) [] [] p1) "__init__" env (eval (.Call (.Name "super" p0) [] [] p1) env)
      standAt p2.atName
      let (f, first) ← holding [ov] (getMethod ov "__init__" (do return (← importBound (.Call (.Name "super" p0) [] [] p1) env).getD true))
      callWith p4 f first (backTo p4 (starEach [ae] env)) []) := by
    show (do
      let ov ← attributeBase (.Call (.Name "super" p0) [] [] p1) "__init__" env (eval (.Call (.Name "super" p0) [] [] p1) env)
      standAt p2.atName
      methodCall (.Call (.Name "super" p0) [] [] p1) "__init__" p2 p4 env ov 1 (backTo p4 (starEach [ae] env)) []) = _
    congr 1
    funext ov
    congr 1
    funext _
    exact mline (by cases hae <;> rfl) hline
  refine ks_wpAt_execs_cons (ks_wpAt_Expr_any (ks_wpAt_MethodCall ?_ he) ?_ rfl)
  rotate_left
  · simp [interactive, hkE]
  refine ks_wpAt_super_base (env := env) (f := fI) (by rw [kof]; exact hks) (by rw [kof]; exact hkc) rfl ef (X0 _ _ ho) rfl hpar eco (X0 _ _ hcode) rfl hvs hfile htop ?_
  refine PySem.W.ks_loadName_global hkE (by rw [kof]; exact hks) (loadGlobal_builtin (by rw [eg]; exact hg0) hmg (by rw [eb]; exact hb0) hmb ⟨rfl, ?_⟩)
  refine wpAny_loadName_free hkE (by rw [kof]; exact hkc) ec ⟨_, X0 _ _ hcell, rfl⟩ ?_
  rw [har]
  refine wpAny_loadName_local hkE (by rw [kof]; exact hksn) (by rw [el]; exact hns) (v := .ref x) (by show List.lookup sn [(av, u), (sn, .ref x)] = some (.ref x); simp [List.lookup, hbn]) ?_
  refine ks_wpAny_isType_cls hC0 rfl ⟨rfl, ?_⟩
  have I0 : InstAt h₀ x (HandSPX.excO C t0) C none := ⟨hx0, rfl, rfl, trivial⟩
  refine ks_wpAny_call_super hC0 rfl hx0 rfl (fun c e => nomatch e) (PySem.W.looks_mroIn X0 Y.self) (fun h1 e1 k1 => ?_)
  have X1 : K.In h1 := fun b o e => k1 b o (X0 b o e)
  have hx1 := k1 _ _ hx0
  have I1 : InstAt h1 x (HandSPX.excO C t0) C none := ⟨hx1, rfl, rfl, trivial⟩
  have hin : Looks (model P w) h1 (isInstance (.ref x) (.type "Exception")) true := I1.type.andThen (PySem.W.looks_subIn X1 Y.isE)
  have hmro : Looks (model P w) h1 (mroOf (.ref C)) (.ref C :: bm) := (PySem.W.looks_clsIn X1 hcl).andThen .now
  have hxC : x ≠ C := fun z => by
    rw [z, hC0] at hx0
    cases hx0
  refine ESX.getMethod_super e1 (PySem.W.looks_opaque X1 Y.op) hmro (ESX.drop_own C bm) X1 hal hxC rfl hin ?_
  dsimp only
  refine ESX.callWith_bound (x := x) (u := h1.objs.size) ?_ (by cases hae <;> rfl) (by cases hae <;> rfl)
  have hC1 := X1 _ _ hC
  have up2 : ∀ b o, h1.get? b = some o → (h1.push (ESX.bw x)).get? b = some o := fun b o e => Heap.get?_push_of_some _ e
  have X2 : K.In (h1.push (ESX.bw x)) := fun b o e => up2 b o (X1 b o e)
  have hx2 := up2 _ _ hx1
  have hu2 : (h1.push (ESX.bw x)).get? h1.objs.size = some (ESX.bw x) := Heap.get?_push_at rfl rfl
  refine ae_ok (nsl := fun y => List.lookup y ([(sn, Value.ref x), (av, u)].reverse)) hae hkE (fun z => by rw [kof]; exact hstr z) (by rw [eg]; exact hg0.keeps fun b o e => up2 _ _ (k1 _ _ e)) hms (by rw [eb]; exact hb0.keeps fun b o e => up2 _ _ (k1 _ _ e)) hmbs (by rw [kof]; exact hkav) (by rw [el]; exact hns.at fun o e => up2 _ _ (k1 _ _ e)) (by show List.lookup av [(av, u), (sn, .ref x)] = some u; simp [List.lookup]) hd2 hu fun v tk => ⟨hu2, ?_⟩
  refine ESX.call_bw (up2 _ _ hC1) hx2 hu2 (by show 1 ≤ sizeLine; decide) (fun h3 t1 k3 hx3 => ?_)
  have nx : ∀ (b : Addr) (o : Obj), hp.get? b = some o → b ≠ x → h3.get? b = some o := fun b o e hb => k3 b o hb (up2 _ _ (k1 _ _ (hk0 _ _ e)))
  have X3 : K.In h3 := fun b o e => nx b o (X b o e) (hKx b o e)
  have hxL : hp.objs.size ≠ x := Nat.ne_of_gt (Heap.lt_size hx)
  have L3 : ∀ o, h₀.get? hp.objs.size = some o → h3.get? hp.objs.size = some o := fun o e => k3 _ _ hxL (up2 _ _ (k1 _ _ e))
  have hns3 : h3.Ns hp.objs.size (fun y => List.lookup y ([(sn, Value.ref x), (av, u)].reverse)) := hns.at L3
  have hsz : hp.objs.size ≤ h3.objs.size := by
    obtain ⟨o, es, ep, e, _⟩ := hns3
    exact Nat.le_of_lt (Heap.lt_size e)
  have I3 : InstAt h3 x (HandSPX.excO C t1) C none := ⟨hx3, rfl, rfl, trivial⟩
  refine ks_wpAt_execs_cons (ks_wpAt_Assign_Attr (wpAt_of_wpAny (wpAny_Name (wpAny_loadName_local hkE (by rw [kof]; exact hkav) (by rw [el]; exact hns3) (v := u) (by show List.lookup av [(av, u), (sn, .ref x)] = some u; simp [List.lookup]) ?_) hd2)) rfl)
  refine wpAny_Name (wpAny_loadName_local hkE (by rw [kof]; exact hksn) (by rw [el]; exact hns3) (v := .ref x) (by show List.lookup sn [(av, u), (sn, .ref x)] = some (.ref x); simp [List.lookup, hbn]) ?_) hd1
  refine PySem.W.set_plain X3 I3 Y.sa (e_osa X3 hx3 hcl (.cons hbm) rfl Y.no fun h4 tk4 dx k4 dn dne hx4 hn4 => ?_)
  refine wpAt_of_wpAny (wpAny_execs_nil ?_)
  exact hq h4 tk4 dx t1 (fun b o hb e => k4 b o hb (nx b o e hb)) (Nat.le_trans hsz dn) dne hx4 hn4
end
end Ms

-- So17
set_option linter.all false
set_option Elab.async false
set_option maxRecDepth 10000
/-! Raising an own exception. -/
namespace Ms
open PySem L2 PySem.Spec PyProof.Rows PySem.Calls
section
variable {X : Cx} {x fl : Str} {C fI : Addr} {e : Expr} {p pos : Pos} {ta : TA} {n : Nat}
theorem pmk_ok {b : Bool} (Y : EXC X.prog X.K C fI fl) (Z : INI X.prog X.K C fI fl b) (hmst : X.mg "str" = none) (hr : Room (n + 1) X.A) (hg : L2.Gl X x) (hm : X.mg x = some (.ref C)) (hms : X.mg "super" = none) (ns : NoStar e) (ha : PA X [e] ta) (hdb : (x == ("__debug__" : Str)) = false) :
    PMk X (.Call (.Name x p) [e] [] pos) (fun σ H Q => ta σ H fun vs H1 => ∃ v, vs = [v] ∧ (b = true → ∃ w : Str, v = .str w ∧ w.length ≤ 1000) ∧ ∀ d, H1 d = none → Q (.ref C) (some d) (upd H1 d (.xd [(fl, v)]))) := by
  intro pins s σ H Q I h
  obtain ⟨nm, q, N, bs, bm, sns, sub, ab, col, dd, k0, k1, k2, k3, k5, hC, hbm, hal⟩ := Y.cls
  refine wpAny_Call_Name_kw (ld_glob I hg hm ?_ hdb)
  refine PySem.W.callWith_K (h₀ := X.base) I.ok.mod.kin Y.kC (thn (ha.run pos pins s σ H _ I h) fun us s1 ⟨vs, H1, I1, r1, v, ev, hw, hq⟩ => ⟨I1.kIn, ?_⟩) (starEach_cons ns) rfl
  subst ev
  obtain ⟨u, rfl, ru⟩ := r1.one
  show wpAny _ _ (call (.ref C) [u]) _ _ _
  have hzz : ([u] : List Value).length ≤ sizeLine := by show 1 ≤ sizeLine; decide
  obtain ⟨mb, hb1, hb2⟩ := I1.mod.blt
  have lim := I1.nolimit
  have hgl := I1.mod.glob.keeps I1.bk
  have hbl := hb1.keeps I1.bk
  have hKin := I1.kIn
  obtain ⟨hp, g, dr, tk, os⟩ := s1
  have up : ∀ b o, hp.get? b = some o → ((hp.push (PySem.W.kdv_tup [u])).push (HandSPX.excO C hp.objs.size)).get? b = some o := fun b o e => Heap.get?_push_of_some _ (Heap.get?_push_of_some _ e)
  have hget : ((hp.push (PySem.W.kdv_tup [u])).push (HandSPX.excO C hp.objs.size)).get? (hp.objs.size + 1) = some (HandSPX.excO C hp.objs.size) := by heap_get
  have hlt : ∀ b o, hp.get? b = some o → b ≠ hp.objs.size + 1 := fun b o e => Nat.ne_of_lt (Nat.lt_succ_of_lt (Heap.lt_size e))
  refine wpAny_call (HandSPX.call_own PySem.F.excBase_Exception (fun T => hbm.contains T) (hKin _ _ hC) (PySem.W.looks_findIn hKin Y.iC) (fun self => PySem.W.bind_fn hKin self Y.tI) hzz
    (init_run (mg := X.mg) (mb := mb) Y Z hmst ((hb2 _ (by decide)).trans rfl) (fun z => by
      obtain ⟨w, rfl, hl⟩ := hw z
      obtain ⟨tk, rfl⟩ := ru
      exact ⟨w, tk, rfl, hl⟩) (fun b o e => up b o (hKin b o e)) ((lim.push _).push _) (hgl.keeps up) hms (hbl.keeps up) ((hb2 _ (by decide)).trans rfl) (hr.make C [u] []).depth (fun b o e => hlt b o (hKin b o e)) hget
      (fun h' tk' dx t1 k dn dne hx hn => ⟨rfl, ?_⟩)))
  have hkeep : ∀ b o, hp.get? b = some o → h'.get? b = some o := fun b o e => k b o (hlt b o e) (up b o e)
  have hdx : hp.objs.size ≤ dx := Nat.le_trans (by rw [Heap.size_push, Heap.size_push]; omega) dn
  have hnd : H1 dx = none := I1.hok.fresh hdx
  have hna : H1 (hp.objs.size + 1) = none := I1.hok.fresh (Nat.le_succ _)
  obtain ⟨Gr, g1, g2⟩ := restrict h' fun b => decide (b ≠ hp.objs.size + 1)
  have gk : ∀ b, b ≠ hp.objs.size + 1 → Gr.get? b = h'.get? b := fun b hb => g1 b (decide_eq_true hb)
  have ge : Gr.get? (hp.objs.size + 1) = none := g2 _ (by simp)
  have J : Inv X pins σ (upd H1 dx (.xd [(fl, v)])) ⟨Gr, g, dr, tk', os⟩ :=
    I1.laid (t' := tk') (a := dx) (o := .xd [(fl, v)]) (h' := Gr) (fun b o e => (gk b (hlt b o e)).trans (hkeep b o e)) hdx ⟨_, hn.at fun o e => (gk dx dne).trans e, relO_put (fs := []) ru fun g => True.intro⟩
  refine ⟨hp.objs.size + 1, _, _, ⟨Gr, g, dr, tk', os⟩, _, .ref C, some dx, rfl, J, fun b o e => ?_, ge, hx, ⟨rfl, rfl⟩, rfl, rfl, ?_, rfl, I1.bare, raises_own Y.exC Y.tyC, hq dx hnd⟩
  · by_cases hb : b = hp.objs.size + 1
    · rw [hb, ge] at e; cases e
    · exact (gk b hb).symm.trans e
  · rw [upd_ne (Ne.symm dne)]; exact hna
end
end Ms

-- So18
set_option linter.all false
set_option Elab.async false
set_option maxRecDepth 10000
/-! try with several clauses 'except X as e'. -/
namespace Ms
open PySem L2 PySem.Spec PyProof.Rows PySem.Calls
/-- what the clauses wish of the body's exception -/
def wMA (K : PySem.W.Frag) (Wo : WX) (D : Ends) : List (Value × Nat × (Addr → Value → Option Addr → TS)) → WX
  | [] => Wo
  | (c, i, ts) :: r => fun cls d σ H => ∃ b, PySem.W.exmOne K cls c = some b ∧ (b = true → ∀ a, H a = none → ts a cls d { nx := fun σ' H' => D.nx (σ'.set i none) H', rt := D.rt, bk := fun σ' H' => D.bk (σ'.set i none) H', ct := fun σ' H' => D.ct (σ'.set i none) H' } (σ.set i (some (.ref a))) H) ∧
    (b = false → wMA K Wo D r cls d σ H)
inductive AsOk (X : Cx) : List ExceptHandler → List (Value × Nat × (Addr → Value → Option Addr → TS)) → Prop
  | nil : AsOk X [] []
  | cons {x n : Str} {c : Value} {i : Nat} {ts : Addr → Value → Option Addr → TS} {b₀ : Stmt} {suite : List Stmt} {np pp : Pos} {hds : List ExceptHandler} {l : List (Value × Nat × (Addr → Value → Option Addr → TS))} (hc : Names X x c) (hi : X.N[i]? = some n) (hln : X.env.kindOf n = some .local)
      (hsu : ∀ (a : Addr) (oe : Obj) (cls : Value) (d : Option Addr) (pn : List (Addr × Obj)), Zc cls d oe → (∃ vs, oe.data = .fields vs) → PSs (X.suite a ((a, oe) :: pn)) (b₀ :: suite) (ts a cls d)) (r : AsOk X hds l) :
      AsOk X (.ExceptHandler (some (.Name x np)) (some n) (b₀ :: suite) pp :: hds) ((c, i, ts) :: l)
section
variable {X : Cx} {body : List Stmt} {h₀ : ExceptHandler} {hds : List ExceptHandler} {l : List (Value × Nat × (Addr → Value → Option Addr → TS))} {pos : Pos} {tb : WX → TS} {Wo : WX}
theorem ps_tryN (hs : X.stack = X.env :: X.outer) (hf : X.env.frame = some X.env.locals) (hN : X.N.Nodup) (tk : Takes X Wo)
    (hb : ∀ (W : WX) (pn : List (Addr × Obj)) (xe : Value → Shared → Prop), Takes (X.tr pn xe) W → PassesOwn (model X.prog X.w) X.A X.env xe → PSs (X.tr pn xe) body (tb W))
    (hh : AsOk X (h₀ :: hds) l) : PS X (.Try body (h₀ :: hds) [] [] pos) (fun D σ H => tb (wMA X.K Wo D l) D σ H) := by
  refine ⟨fun pins s σ H D I h => ?_⟩
  have ok := I.ok
  have hfr : X.A.frames = some (X.env :: X.outer) := by rw [ok.frames, hs]
  refine wpAny_Try_except ?_
  refine wpAny_mono ((hb (wMA X.K Wo D l) (X.pn ++ pins) (fun e s₁ => wpAny (model X.prog X.w) X.A (noteFrame e X.env) (fun _ s₂ => wpAny (model X.prog X.w) X.A (setFlight e none) (fun _ s₃ =>
    wpAny (model X.prog X.w) X.A (handleBy e X.env (h₀ :: hds)) (SP X pins D) X.xe s₃) X.xe s₂) X.xe s₁) (fun u s' xx => ?_) PassesOwn.looking).run [] s σ H D (I.toTry _) h) (fun f s1 hsp => ?_) (fun e s1 he => he)
  · obtain ⟨a, B, sI, pins', σ', H', cls, d, rfl, J', nb, up, sky, na, os, ag, w⟩ := xx
    have J : Inv X pins σ' H' sI := J'.ofTry ok
    have sky' : Sky B (X.env :: X.outer) a (Zc cls d) X.env.locals s'.heap := by rw [← hs]; exact sky
    show wpAny (model X.prog X.w) X.A (noteFrame (.ref a) X.env) _ _ _
    refine Sky.land Zc.steady hfr hf sky' fun h3 fl3 up3 => ?_
    have J3 : Inv X pins σ' H' { s' with heap := h3 } := J.landed nb fl3.1 (up.trans up3) os ag
    obtain ⟨oe3, vs3, he3, hz3, hd3⟩ := fl3.there
    have notFr : ∀ {h : Heap} {o : Obj} {vs : Array Value}, h.FunFrames B (X.env :: X.outer) → h.get? a = some o → o.data = .fields vs → a ∉ frs (X.env :: X.outer) := fun {h o vs} ff e dd hm => by
      obtain ⟨_, o', e', hnf⟩ := ff.mem hm
      rw [e] at e'; cases e'
      exact hnf _ dd
    have nfr := notFr fl3.2.2.1 he3 hd3
    have nL : a ≠ X.env.locals := fun z => nfr (List.mem_filterMap.mpr ⟨X.env, List.mem_cons_self, by rw [hf, z]⟩)
    have nF : a ∉ X.fs := fun hm => by
      obtain ⟨e, he, q⟩ := List.mem_filterMap.mp hm
      exact nfr (List.mem_filterMap.mpr ⟨e, List.mem_cons_of_mem _ he, q⟩)
    have S3 := J3.suite he3 hd3 na nL nF
    have go : ∀ {hds' : List ExceptHandler} {l' : List (Value × Nat × (Addr → Value → Option Addr → TS))}, AsOk X hds' l' → wMA X.K Wo D l' cls d σ' H' →
        wpAny (model X.prog X.w) X.A (handleBy (.ref a) X.env hds') (SP X pins D) X.xe { s' with heap := h3 } := by
      intro hds' l' hk
      induction hk with
      | nil =>
        intro w
        refine wpAny_handleBy_nil ?_
        obtain ⟨k1, k2, k3, oe, vs, T, oT, ts', he, hz, hd, h1, hr⟩ := id fl3
        unfold PySem.passOn
        refine wpAny_bind (wpAny_field he hd h1 ?_)
        rw [if_neg (show ¬ ((Value.ref T == Value.none) = true) from by simp)]
        have fin : wpAny (model X.prog X.w) X.A (setFlight (.ref a) X.env.frame) (fun _ s4 => wpAny (model X.prog X.w) X.A (throw (.ref a) : Sem Flow) (SP X pins D) X.xe s4) X.xe { s' with heap := h3 } := by
          rw [hf]
          refine HandSPX.setFlight_upZ fl3 fun h4 hh4 up4 => wpAny_throw (tk _ _ ?_)
          exact ⟨a, B, sI, pins, σ', H', cls, d, rfl, J, nb, (up.trans up3).trans up4, .inr (.inr (by rw [hs]; exact hh4)), na, os, ag, w⟩
        first
          | exact wpAny_bind (wpAny_pure (wpAny_bind fin))
          | exact wpAny_bind fin
      | @cons x n c i ts b₀ suite np pp hds2 l2 hc hi hln hsu r ih =>
        intro w
        have hloc : Loc X.env.scope n := .inl hln
        obtain ⟨b, hb1, hyes, hno⟩ := w
        refine wpAny_handleBy_cons (codeAny_handlers_test ?_) (by intro q; cases q)
        have LT : PySem.W.Looks (model X.prog X.w) h3 (typeOf (.ref a)) cls := fun A Q E s k q => wpAny_typeOf_ref (k _ _ he3) (by rw [hz3.1]; exact q)
        have LM := PySem.W.exm_one (M := model X.prog X.w) (J3.kIn) LT hb1
        have test : ∀ {Q : Value → Shared → Prop} {E : Value → Shared → Prop}, Q c { s' with heap := h3 } → wpAny (model X.prog X.w) (X.A.mark (some (.ref a))) (eval (.Name x np) X.env) Q E { s' with heap := h3 } := fun {Q E} q => by
          obtain ⟨hg, hdbg, hm | ⟨hm, hv, hnn⟩⟩ := hc
          · exact ld_glob (X := X.suite a ((a, oe3) :: (X.pn ++ pins))) S3 hg hm q hdbg
          · exact ld_blt (X := X.suite a ((a, oe3) :: (X.pn ++ pins))) S3 hg hm hv q hnn hdbg
        refine test (LM.here ?_)
        cases b with
        | true =>
          refine codeAny_handlers_suite_as ?_
          refine HandSPX.lands_againZ fl3 fun h4 fl4 up4 => ?_
          have J4 : Inv X pins σ' H' { s' with heap := h4 } := J.landed nb fl4.1 ((up.trans up3).trans up4) os ag
          obtain ⟨oe4, vs4, he4, hz4, hd4⟩ := fl4.there
          have S4 := J4.suite he4 hd4 na nL nF
          refine store_ok (X := X.suite a ((a, oe4) :: (X.pn ++ pins))) (v := .ref a) S4 hN hi hloc rfl (fun s5 S5 => ?_) (.inr hln)
          refine wpAny_mono ((hsu a oe4 cls d (X.pn ++ pins) hz4 ⟨_, hd4⟩).run [] s5 _ H' _ S5 (hyes rfl a na)) (fun f s6 hsp => ?_) (fun _ _ z => False.elim z)
          have end_ : ∀ {σ6 : L2.St} {H6 : Hp} {Q : Shared → Prop}, Inv (X.suite a ((a, oe4) :: (X.pn ++ pins))) [] σ6 H6 s6 → (∀ s7, Inv X pins (σ6.set i none) H6 s7 → Q s7) →
              wpAny (model X.prog X.w) X.A (do bindName X.env n .none; unbindBehindTheSuite X.env n pp) (fun _ s7 => Q s7) X.xe s6 := fun {σ6 H6 Q} S6 hq => gone_ok (S6.unsuite ok) hN hi hln hq
          cases f with
          | next =>
            obtain ⟨σ6, H6, S6, q6⟩ := hsp
            exact end_ S6 fun s7 J7 => ⟨_, _, J7, q6⟩
          | brk =>
            obtain ⟨σ6, H6, S6, q6⟩ := hsp
            exact end_ S6 fun s7 J7 => ⟨_, _, J7, q6⟩
          | cont =>
            obtain ⟨σ6, H6, S6, q6⟩ := hsp
            exact end_ S6 fun s7 J7 => ⟨_, _, J7, q6⟩
          | ret u =>
            obtain ⟨v6, σ6, H6, S6, r6, q6⟩ := hsp
            exact end_ S6 fun s7 J7 => ⟨_, _, _, J7, r6, q6⟩
        | false =>
          show wpAny _ X.A (handleBy (.ref a) X.env hds2) _ _ _
          exact ih (hno rfl)
    exact go hh w
  · cases f with
    | next =>
      obtain ⟨σ', H', J', q⟩ := hsp
      exact wpAny_execs_nil ⟨σ', H', J'.ofTry ok, q⟩
    | brk =>
      obtain ⟨σ', H', J', q⟩ := hsp
      exact ⟨σ', H', J'.ofTry ok, q⟩
    | cont =>
      obtain ⟨σ', H', J', q⟩ := hsp
      exact ⟨σ', H', J'.ofTry ok, q⟩
    | ret u =>
      obtain ⟨v, σ', H', J', r, q⟩ := hsp
      exact ⟨v, σ', H', J'.ofTry ok, r, q⟩
end
end Ms

-- So19
set_option linter.all false
set_option Elab.async false
set_option maxRecDepth 10000
/-! raise and try of the machine. -/
namespace Ms
open PySem L2 PySem.Spec PyProof.Rows
/-- what an except clause names -/
def TvX (G : Top) : Ty → Value → Prop
  | .exc k, tv => ∃ D, G.ex k = some D ∧ tv = .ref D
  | .ty n, tv => n = "Exception" ∧ tv = .type n
  | .cls _, _ => False
/-- the facts of the program's own exceptions -/
structure GX (G : Top) (P : Program) (K : PySem.W.Frag) (mg : Str → Option Value) : Prop where
  sup : mg "super" = none
  str : mg "str" = none
  ex : ∀ (c : Nat) (C : Addr) (e : Exc) (fl : Str), G.ex c = some C → G.P.excs[c]? = some e → e.fld = some fl → (∃ fI, EXC P K C fI fl ∧ INI P K C fI fl (e.text != 0)) ∧ XfC K C ∧ PySem.W.findIn K (.ref C) fl = some none
  exm : ∀ (c : Nat) (C : Addr) (t : Ty) (tv : Value), G.ex c = some C → TvX G t tv → PySem.W.exmOne K (.ref C) tv = some (tyOf G.P c t)
section
variable {G : Top} {C : Cl} {fr : Fr} {W : WX} {X : Cx} {n : Nat} {σ : L2.St} {H H' : Hp} {E : KX} {φ φ' : List Gh} {m : Mem} {ρ : Env} {Dn Dn2 : Ends}
theorem Post.evs1 {P : Prog} {e' : Ms.E} {K : KT (List D)} (h : Post G φ fr H (evs P C fr [e'] ρ m) K E) : Post G φ fr H (evs P C fr [e'] ρ m) (fun φ' H' ds m' => (∃ d, ds = [d]) ∧ K φ' H' ds m') E := by
  rw [evs_one] at h ⊢
  cases hx : ev P C fr e' ρ m with
  | ok x m1 => rw [hx] at h; exact fun φ1 H1 e1 s1 => ⟨⟨x, rfl⟩, h φ1 H1 e1 s1⟩
  | exc c l m1 => rw [hx] at h; exact h
  | bad => rw [hx] at h; exact h.elim
theorem Post.evsC {P : Prog} {e' : Ms.E} {K : KT (List D)} (h : Post G φ fr H (evs P C fr [e'] ρ m) K E) : Post G φ fr H (evs P C fr [e'] ρ m) (fun φ' H' ds m' => (∀ w : Str, e' = .cst (.str w) → ds = [.str w]) ∧ K φ' H' ds m') E := by
  rw [evs_one] at h ⊢
  cases hx : ev P C fr e' ρ m with
  | ok x m1 =>
    rw [hx] at h
    refine fun φ1 H1 e1 s1 => ⟨fun w hw => ?_, h φ1 H1 e1 s1⟩
    subst hw
    rw [ev] at hx
    cases hx
    rfl
  | exc c l m1 => rw [hx] at h; exact h
  | bad => rw [hx] at h; exact h.elim
theorem s_rse {c : Nat} {Cc : Addr} {ec : Exc} {fl x : Str} {e : Expr} {e' : Ms.E} {p cpos pos : Pos} (gx : GX G X.prog X.K X.mg) (xo : XO G X n W) (hc : G.ex c = some Cc) (he : G.P.excs[c]? = some ec) (hf : ec.fld = some fl) (hg : L2.Gl X x) (hm : X.mg x = some (.ref Cc)) (hdb : (x == ("__debug__" : Str)) = false)
    (ns : NoStar e) (htx : ec.text = 0 ∨ ∃ w : Str, e' = .cst (.str w) ∧ w.length ≤ 1000) (ha : PA X [e] (tA G C fr W [e'])) : PS X (.Raise (some (.Call (.Name x p) [e] [] cpos)) none pos) (tSt G C fr W (.rse c [e'])) := by
  obtain ⟨⟨fI, Y, Z⟩, _, _⟩ := gx.ex c Cc ec fl hc he hf
  refine PS.imp (ps_raise xo.calm xo.tk (pmk_ok Y Z gx.str xo.room hg hm gx.sup ns ha hdb)) fun D σ H ⟨φ, m, ρ, s, r, p⟩ => ?_
  rw [exe] at p
  have p := PostX.to r s.clean p
  have p2 : Post G φ fr H (evs G.P C fr [e'] ρ m) (fun φ' H' ds m' => (∀ w : Str, e' = .cst (.str w) → ds = [.str w]) ∧ _) _ := p.evsC
  refine ⟨φ, m, ρ, s, r, p2.evs1.mono (fun φ1 H1 ds m1 e1 s1 p1 vs rs => ?_) fun _ _ _ _ _ _ _ q => q⟩
  obtain ⟨⟨d, rfl⟩, hcs, p1⟩ := p1
  obtain ⟨v, rfl, rv⟩ := vals_one rs
  refine ⟨v, rfl, fun hb => ?_, fun dx hdx => ?_⟩
  · rcases htx with h | ⟨w, h, hl⟩
    · rw [h] at hb; cases hb
    · have := hcs w h
      cases this
      exact ⟨w, by simpa [ValR] using rv, hl⟩
  have e2 : Ext φ1 H1 φ1 (upd H1 dx (.xd [(fl, v)])) := ext_same (same_new hdx)
  refine p1 φ1 _ σ e2 (s1.grow (same_new hdx)) ((r.ext e1 s.clean).ext e2 s1.clean) (.ref Cc) (some dx) ⟨Cc, hc, rfl, ec, he, ?_⟩
  rw [hf]
  exact ⟨dx, v, rfl, upd_same, rv.ext e2 s1.clean⟩

/-! ### except suites -/
/-- the state within a suite -/
def tH (G : Top) (c : Nat) (l : List D) (i : Nat) (e : Ms.E) (a : Addr) (cls : Value) (dd : Option Addr) : TE := fun σ H Q => ∃ φ fr m ρ d, SR G φ fr H m ∧ EnvR G φ H ρ σ ∧ σ[i]? = some (some (.ref a)) ∧ ExcR G φ H c l cls dd ∧ evH G.P c l i e ρ = some d ∧
  ∀ φ' H', Ext φ H φ' H' → SR G φ' fr H' m → ∀ v, ValR G φ' H' d v → Q v H'
def tHs (G : Top) (c : Nat) (l : List D) (i : Nat) (es : List Ms.E) (a : Addr) (cls : Value) (dd : Option Addr) : TA := fun σ H Q => ∃ φ fr m ρ ds, SR G φ fr H m ∧ EnvR G φ H ρ σ ∧ σ[i]? = some (some (.ref a)) ∧ ExcR G φ H c l cls dd ∧ evH.evHs G.P c l i es ρ = some ds ∧
  ∀ φ' H', Ext φ H φ' H' → SR G φ' fr H' m → ∀ vs, ValsR G φ' H' ds vs → Q vs H'
variable {c : Nat} {l : List D} {i : Nat} {a : Addr} {cls : Value} {dd : Option Addr} {e : Expr} {e' : Ms.E} {es : List Expr} {es' : List Ms.E}
theorem ExcR.ext (h : ExcR G φ H c l cls dd) (e : Ext φ H φ' H') (cl : Clean φ H) : ExcR G φ' H' c l cls dd := by
  obtain ⟨Cc, h1, h2, ec, h3, h4⟩ := h
  refine ⟨Cc, h1, h2, ec, h3, ?_⟩
  split at h4
  · rename_i f d hf
    obtain ⟨dx, u, h5, h6, h7⟩ := h4
    exact ⟨dx, u, h5, e.imm cl h6 rfl (fun _ z => by cases z), h7.ext e cl⟩
  · exact True.intro
  · exact h4.elim
theorem h_cst {d : D} {v : V} (he : PE X e (tC v)) (hv : ∀ φ H, ValR G φ H d v) : PE X e (tH G c l i (.cst d) a cls dd) := PE.imp he fun σ H Q ⟨φ, fr, m, ρ, d', s, r, hi, hx, he, q⟩ => by
  cases he
  exact q φ H .refl s v (hv _ _)
theorem h_var {j : Nat} (he : PE X e (tVar j)) : PE X e (tH G c l i (.var j) a cls dd) := PE.imp he fun σ H Q ⟨φ, fr, m, ρ, d, s, r, hi, hx, he, q⟩ => by
  have h2 : ρ[j]? = some (some d) := by
    have he : (ρ[j]?).join = some d := he
    cases e : ρ[j]? with
    | none => rw [e] at he; cases he
    | some o => rw [e] at he; exact congrArg some he
  obtain ⟨v, h3, h4⟩ := r.at_ j d h2
  exact ⟨v, h3, q φ H .refl s v h4⟩
theorem h_att {f : Str} {oe : Obj} {pn : List (Addr × Obj)} {pos : Pos} (gx : GX G X.prog X.K X.mg) (hz : Zc cls dd oe) (hfs : ∃ vs, oe.data = .fields vs) (he : PE (X.suite a ((a, oe) :: pn)) e (tVar i)) (hb : attributeBase e f X.env (eval e X.env) = eval e X.env) :
    PE (X.suite a ((a, oe) :: pn)) (.Attribute e f pos) (tH G c l i (.att (.var i) f) a cls dd) := by
  refine PE.imp (PE.ex fun C : { C : Addr // XfC X.K C ∧ PySem.W.findIn X.K (.ref C) f = some none } => pe_xf C.2.1 C.2.2 hz hfs he hb) fun σ H Q ⟨φ, fr, m, ρ, d, s, r, hi, hx, he, q⟩ => ?_
  simp only [evH] at he
  split at he
  · rename_i hf
    obtain ⟨ec, hec, hfl⟩ := Option.bind_eq_some_iff.mp hf.2
    obtain ⟨Cc, h1, h2, ec', h3, h4⟩ := hx
    rw [hec] at h3
    cases h3
    obtain ⟨_, hxf, hno⟩ := gx.ex c Cc ec f h1 hec hfl
    cases l with
    | nil => cases he
    | cons d0 l =>
      rw [hfl] at h4
      cases l with
      | nil =>
        cases he
        obtain ⟨dx, u, h5, h6, h7⟩ := h4
        exact ⟨⟨Cc, hxf, hno⟩, .ref a, hi, rfl, h2, dx, _, u, h5, h6, by simp [List.lookup], q φ H .refl s u h7⟩
      | cons d1 l => exact h4.elim
  · cases he
theorem hs_nil : PA X [] (tHs G c l i [] a cls dd) := PA.imp pa_nil fun σ H Q ⟨φ, fr, m, ρ, ds, s, r, hi, hx, he, q⟩ => by
  cases he
  exact q φ H .refl s [] .nil
theorem hs_cons (ns : NoStar e) (h1 : PE X e (tH G c l i e' a cls dd)) (h2 : PA X es (tHs G c l i es' a cls dd)) : PA X (e :: es) (tHs G c l i (e' :: es') a cls dd) := PA.imp (pa_cons h1 h2 (starEach_cons ns)) fun σ H Q ⟨φ, fr, m, ρ, ds, s, r, hi, hx, he, q⟩ => by
  simp only [evH.evHs] at he
  obtain ⟨d, h1, h2⟩ := Option.bind_eq_some_iff.mp he
  obtain ⟨ds', h3, rfl⟩ := Option.map_eq_some_iff.mp h2
  refine ⟨φ, fr, m, ρ, d, s, r, hi, hx, h1, fun φ1 H1 e1 s1 v rv => ?_⟩
  exact ⟨φ1, fr, m, ρ, ds', s1, r.ext e1 s.clean, hi, hx.ext e1 s.clean, h3, fun φ2 H2 e2 s2 vs rs => q φ2 H2 (e1.trans e2) s2 _ (.cons (rv.ext e2 s1.clean) rs)⟩
theorem h_tup {k : Nat} {pos : Pos} (hl : es'.length ≤ 1000) (h : PA X es (tHs G c l i es' a cls dd)) : PE X (.Tuple es k pos) (tH G c l i (.tup es') a cls dd) := PE.imp (pe_tup h) fun σ H Q ⟨φ, fr, m, ρ, d, s, r, hi, hx, he, q⟩ => by
  simp only [evH] at he
  obtain ⟨ds, h1, rfl⟩ := Option.map_eq_some_iff.mp he
  refine ⟨φ, fr, m, ρ, ds, s, r, hi, hx, h1, fun φ1 H1 e1 s1 vs rs => ⟨?_, fun p hp => ?_⟩⟩
  · rw [rs.length]
    have len : ∀ {es' : List Ms.E} {ds : List D}, evH.evHs G.P c l i es' ρ = some ds → ds.length = es'.length := by
      intro es'
      induction es' with
      | nil => intro ds h; cases h; rfl
      | cons x es' ih =>
        intro ds h
        simp only [evH.evHs] at h
        obtain ⟨d, _, h2⟩ := Option.bind_eq_some_iff.mp h
        obtain ⟨ds', h3, rfl⟩ := Option.map_eq_some_iff.mp h2
        rw [List.length_cons, List.length_cons, ih h3]
    rw [len h1]
    exact Nat.le_trans hl (by decide)
  · have e2 : Ext φ1 H1 φ1 (upd H1 p (.tup vs)) := ext_same (same_new hp)
    exact q φ1 _ (e1.trans e2) (s1.grow (same_new hp)) _ (rtup upd_same (rs.ext e2 s1.clean))

/-! ### try -/
inductive HdOk (G : Top) (X : Cx) : List ExceptHandler → List (Ty × Nat × Ms.E) → Prop
  | nil : HdOk G X [] []
  | cons {x n : Str} {t : Ty} {tv : Value} {i : Nat} {e : Expr} {e' : Ms.E} {np rp pp : Pos} {hds : List ExceptHandler} {r : List (Ty × Nat × Ms.E)} (hc : Names X x tv) (ht : TvX G t tv) (hi : X.N[i]? = some n) (hln : X.env.kindOf n = some .local)
      (hsu : ∀ (a : Addr) (oe : Obj) (cls : Value) (d : Option Addr) (pn : List (Addr × Obj)) (c : Nat) (l : List D), Zc cls d oe → (∃ vs, oe.data = .fields vs) → PE (X.suite a ((a, oe) :: pn)) e (tH G c l i e' a cls d)) (hr : HdOk G X hds r) :
      HdOk G X (.ExceptHandler (some (.Name x np)) (some n) [.Return (some e) rp] pp :: hds) ((t, i, e') :: r)
theorem hd_ok (gx : GX G X.prog X.K X.mg) {hds : List ExceptHandler} {h : List (Ty × Nat × Ms.E)} (hd : HdOk G X hds h) : ∃ l, AsOk X hds l ∧ ∀ (c : Nat) (v : List D) (ρ : Env) (m : Mem) (Dn : Ends) (φ : List Gh) (fr : Fr) (H : Hp), PostX G φ fr W H (handle G.P c v ρ m h) Dn →
    ∀ φ' H' σ', Ext φ H φ' H' → SR G φ' fr H' m → EnvR G φ' H' ρ σ' → EX G (wMA X.K W Dn l) σ' φ' H' c v m := by
  induction hd with
  | nil => exact ⟨[], .nil, fun c v ρ m Dn φ fr H p φ' H' σ' e s r => p φ' H' σ' e s r⟩
  | @cons x n t tv i e e' np rp pp hds r hc ht hi hln hsu hr ih =>
    obtain ⟨l, hl, ih⟩ := ih
    refine ⟨(tv, i, fun a cls d => tSeq (tRet fun σ H Q => ∃ q : Nat × List D, tH G q.1 q.2 i e' a cls d σ H Q) tNext) :: l, .cons hc hi hln (fun a oe cls d pn hz hf => pss_cons (ps_ret (PE.ex fun q : Nat × List D => hsu a oe cls d pn q.1 q.2 hz hf)) pss_nil) hl, ?_⟩
    intro c v ρ m Dn φ fr H p φ' H' σ' e0 s0 r0 cls dd hx
    obtain ⟨Cc, h1, rfl, h3⟩ := id hx
    refine ⟨_, gx.exm c Cc t tv h1 ht, fun hb a ha => ?_, fun hb => ?_⟩
    · simp only [handle, hb, if_true] at p
      split at p
      · rename_i hlen
        split at p
        · rename_i d hd
          refine ⟨(c, v), φ', fr, m, ρ.set i none, d, s0, ⟨by rw [List.length_set, List.length_set, r0.len], fun j dj hj => ?_⟩, List.getElem?_set_self (by rw [r0.len]; exact hlen), hx, hd, fun φ1 H1 e1 s1 w rw' => p φ1 H1 (e0.trans e1) s1 w rw'⟩
          by_cases hij : i = j
          · subst hij
            rw [List.getElem?_set_self hlen] at hj
            cases hj
          · rw [List.getElem?_set_ne hij] at hj ⊢
            exact r0.at_ j dj hj
        · exact p.elim
      · exact p.elim
    · simp only [handle, hb, Bool.false_eq_true, if_false] at p
      exact ih c v ρ m Dn φ fr H p φ' H' σ' e0 s0 r0 (.ref Cc) dd hx
theorem s_tri {body : List Stmt} {h₀ : ExceptHandler} {hds : List ExceptHandler} {h : List (Ty × Nat × Ms.E)} {b : List Ms.S} {pos : Pos} (gx : GX G X.prog X.K X.mg) (xo : XO G X n W) (hs : X.stack = X.env :: X.outer) (hf : X.env.frame = some X.env.locals)
    (hb : ∀ (W : WX) (pn : List (Addr × Obj)) (xe : Value → Shared → Prop), Takes (X.tr pn xe) W → PassesOwn (model X.prog X.w) X.A X.env xe → PSs (X.tr pn xe) body (tSs G C fr W b)) (hh : HdOk G X (h₀ :: hds) h) :
    PS X (.Try body (h₀ :: hds) [] [] pos) (tSt G C fr W (.tri b h)) := by
  obtain ⟨l, hl, hk⟩ := hd_ok (W := W) gx hh
  refine PS.imp (ps_tryN hs hf xo.nd xo.tk hb hl) fun D σ H ⟨φ, m, ρ, s, r, p⟩ => ?_
  refine ⟨φ, m, ρ, s, r, ?_⟩
  rw [exe] at p
  cases hr : exes G.P C fr b ρ m with
  | nx ρ' m' => rw [hr] at p; exact p
  | ct ρ' m' => rw [hr] at p; exact p
  | rt d m' => rw [hr] at p; exact p
  | bad => rw [hr] at p; exact p.elim
  | exc c v ρ' m' =>
    rw [hr] at p
    exact fun φ' H' σ' e s1 r1 => hk c v ρ' m' D φ fr H p φ' H' σ' e s1 r1
end
end Ms

-- So20
set_option linter.all false
set_option Elab.async false
set_option maxRecDepth 10000
/-! Frames' cells: told while a closure may be called, untold within it. -/
namespace Ms
open PySem L2 PySem.Spec PyProof.Rows
open Classical in
/-- the cells are not told -/
noncomputable def unc (H : Hp) (cs : List (Str × Addr)) : Hp := fun b => if (∃ x, cs.lookup x = some b) then none else H b
open Classical in
/-- the cells are told, as G has them -/
noncomputable def trk (H G : Hp) (cs : List (Str × Addr)) : Hp := fun b => if (∃ x, cs.lookup x = some b) then G b else H b
section
variable {H G : Hp} {cs : List (Str × Addr)} {b : Addr} {x : Str}
theorem unc_in (h : cs.lookup x = some b) : unc H cs b = none := if_pos ⟨x, h⟩
theorem unc_out (h : ∀ x, cs.lookup x ≠ some b) : unc H cs b = H b := if_neg fun ⟨x, e⟩ => h x e
theorem trk_in (h : cs.lookup x = some b) : trk H G cs b = G b := if_pos ⟨x, h⟩
theorem trk_out (h : ∀ x, cs.lookup x ≠ some b) : trk H G cs b = H b := if_neg fun ⟨x, e⟩ => h x e
theorem in_out (cs : List (Str × Addr)) (b : Addr) : (∃ x, cs.lookup x = some b) ∨ ∀ x, cs.lookup x ≠ some b := by
  by_cases h : ∃ x, cs.lookup x = some b
  · exact .inl h
  · exact .inr fun x e => h ⟨x, e⟩
/-- every one of the cells is told -/
def Told (H : Hp) (cs : List (Str × Addr)) : Prop := ∀ (x : Str) (c : Addr), cs.lookup x = some c → ∃ (o : Obj) (u : Option Value), H c = some (CellO c o) ∧ o.data = .cell u
def NotTold (H : Hp) (cs : List (Str × Addr)) : Prop := ∀ (x : Str) (c : Addr), cs.lookup x = some c → H c = none
theorem cel_of {c : Addr} {o : Obj} {u : Option Value} (h : o.data = .cell u) : IsCel (CellO c o) := ⟨c, o, u, rfl, h⟩
theorem cell_ne {c : Addr} {o : Obj} : (∀ p, CellO c o ≠ .tbl p) ∧ (∀ y, CellO c o ≠ .own y) ∧ (∀ y, CellO c o ≠ .tup y) ∧ (∀ a y, CellO c o ≠ .frz a y) := by
  unfold CellO
  exact ⟨fun _ z => (by cases z), fun _ z => (by cases z), fun _ z => (by cases z), fun _ _ z => (by cases z)⟩
theorem unc_of_ne (t : Told H cs) {o : HO} (h : H b = some o) (hn : ∀ c ob u, ob.data = .cell u → o ≠ CellO c ob) : unc H cs b = some o := by
  rcases in_out cs b with ⟨x, e⟩ | e
  · obtain ⟨ob, u, h1, h2⟩ := t x b e
    rw [h] at h1
    cases h1
    exact absurd rfl (hn _ _ _ h2)
  · rw [unc_out e]; exact h
variable {P : Program} {w : World} {h : Heap}
theorem cell_at {c : Addr} {o : Obj} (hok : HOk P w H h) (e : H c = some (CellO c o)) : h.get? c = some o := by
  have z : ObjOk P w H h c (.ext fun h => h.get? c = some o) := hok c _ e
  exact z.1
theorem cell_ok {c : Addr} {o : Obj} (e : h.get? c = some o) : ObjOk P w H h c (CellO c o) := ⟨e, ⟨o, e⟩, fun h1 h2 z k => k _ z⟩
theorem hok_unc (t : Told H cs) (hok : HOk P w H h) : HOk P w (unc H cs) h := fun b o e => by
  rcases in_out cs b with ⟨x, z⟩ | z
  · rw [unc_in z] at e; cases e
  · rw [unc_out z] at e
    exact (hok b o e).stay (fun _ _ _ q => q) (fun c hc => unc_of_ne t hc fun c' ob u _ q => (cell_ne.2.1 b) q.symm) fun c xs hc => unc_of_ne t hc fun c' ob u _ q => (cell_ne.2.2.1 xs) q.symm
/-- told as they stand in the heap -/
theorem hok_trk (n : NotTold H cs) (t : Told G cs) (hg : ∀ (x : Str) (c : Addr), cs.lookup x = some c → ∀ o, G c = some (CellO c o) → h.get? c = some o) (hok : HOk P w H h) : HOk P w (trk H G cs) h := fun b o e => by
  have up : ∀ c u, H c = some u → trk H G cs c = some u := fun c u hc => by
    rcases in_out cs c with ⟨x, z⟩ | z
    · rw [n x c z] at hc; cases hc
    · rw [trk_out z]; exact hc
  rcases in_out cs b with ⟨x, z⟩ | z
  · rw [trk_in z] at e
    obtain ⟨ob, u, h1, h2⟩ := t x b z
    rw [h1] at e
    cases e
    exact cell_ok (hg x b z ob h1)
  · rw [trk_out z] at e
    exact (hok b o e).stay (fun _ _ _ q => q) (fun c hc => up c _ hc) fun c xs hc => up c _ hc
end
/-! ### the relations -/
section
variable {G : Top} {C : Cl} {fr : Fr} {W : WX} {X : Cx} {n : Nat} {σ : L2.St} {H H' H1 : Hp} {E : KX} {φ φ' : List Gh} {m : Mem} {ρ : Env} {cs : List (Str × Addr)} {N : List Str} {id : Nat} {l : List (Nat × Env)}
theorem exW_unc (t : Told H cs) : ExW φ H φ (unc H cs) := ⟨fun _ _ q => q, fun a o h m ht hc => unc_of_ne t h fun c ob u hd z => hc (z ▸ cel_of hd)⟩
theorem tabs_unc {T : List (Addr × Str)} (t : Told H cs) (h : LamX.Tabs T H) : LamX.Tabs T (unc H cs) := fun q hq => by
  obtain ⟨ps, h1, h2, h3⟩ := h q hq
  refine ⟨ps, unc_of_ne t h1 fun c ob u _ z => (cell_ne.1 ps) z.symm, h2, fun pos cv hc => ?_⟩
  obtain ⟨k, e1, e2⟩ := h3 pos cv hc
  exact ⟨k, e1, unc_of_ne t e2 fun c ob u hd z => cel_code (z ▸ cel_of hd)⟩
theorem told_of (h : CellsR G φ H cs N ρ) : Told H cs := fun x c e => by
  obtain ⟨o, u, h1, h2, _⟩ := h x c e
  exact ⟨o, u, h1, h2⟩
/-- frames that are not this one stay -/
theorem SR.untrk (s : SR G φ fr H m) (hid : φ[id]? = some (.fr cs N)) (hm : ∃ ρ, (id, ρ) ∈ fr.fr) (t : Told H cs) (hl : ∀ p ∈ l, p ∈ fr.fr ∧ p.1 ≠ id) : SR G φ { fr with fr := l } (unc H cs) m := by
  have e := exW_unc (φ := φ) t
  refine ⟨s.len, s.inj, fun i o hi => ?_, fun id' ρ' h' => ?_, fun i j a b h1 h2 => s.apt i j a b (hl _ h1).1 (hl _ h2).1, tabs_unc t s.tabs, s.lkb⟩
  · rcases s.ob i o hi with q | ⟨a, h1, h2⟩
    · exact .inl q
    · obtain ⟨u, hu, hm⟩ := h2.mut
      refine .inr ⟨a, h1, h2.extW e ?_⟩
      have hs : unc H cs a = some u := unc_of_ne t hu fun c ob v hd z => by
        rw [z] at hm
        cases hm
      rw [hs, hu]
  · obtain ⟨h3, h4⟩ := hl _ h'
    obtain ⟨cs', N', h5, hj, h6⟩ := s.frs id' ρ' h3
    refine ⟨cs', N', h5, hj, fun x c hx => ?_⟩
    obtain ⟨o, u, a1, a2, a3⟩ := h6 x c hx
    obtain ⟨ρ0, hm⟩ := hm
    refine ⟨o, u, ?_, a2, fun i d b1 b2 => ?_⟩
    · rw [unc_out fun y hy => s.apt id' id ρ' ρ0 h3 hm h4 cs' N' cs N h5 hid x y c hx hy]
      exact a1
    · obtain ⟨v, w, c1, c2, c3⟩ := a3 i d b1 b2
      exact ⟨v, w, c1, c2, ValR.extW e _ _ c3⟩
/-- behind a stretch with the cells told -/
theorem ext_unc {H0 : Hp} (n : NotTold H cs) (e : Ext φ (trk H H0 cs) φ' H') : Ext φ H φ' (unc H' cs) := by
  have a : ∀ b o, H b = some o → (∀ x, cs.lookup x ≠ some b) ∧ trk H H0 cs b = some o := fun b o h => by
    rcases in_out cs b with ⟨x, z⟩ | z
    · rw [n x b z] at h; cases h
    · exact ⟨z, by rw [trk_out z]; exact h⟩
  refine ⟨⟨⟨e.pre, fun b o h m t => ?_⟩, fun i b h1 h2 => ?_, fun b h => ?_, fun b o u h => ?_⟩, fun b o h q t => ?_⟩
  · obtain ⟨z, h'⟩ := a b o h
    rw [unc_out z]; exact e.im b o h' m t
  · cases hb : H b with
    | none => rfl
    | some o =>
      have := e.new i b h1 h2
      rw [(a b o hb).2] at this
      cases this
  · cases hb : H b with
    | none => rfl
    | some o =>
      obtain ⟨z, h'⟩ := a b o hb
      rw [unc_out z] at h
      rw [e.dom b h] at h'
      cases h'
  · obtain ⟨z, h'⟩ := a b _ h
    rw [unc_out z]; exact e.frz b o u h'
  · obtain ⟨z, h'⟩ := a b o h
    rw [unc_out z]; exact e.keep b o h' q t
theorem trk_up {H0 : Hp} (n : NotTold H cs) : ∀ b o, H b = some o → trk H H0 cs b = some o := fun b o h => by
  rcases in_out cs b with ⟨x, z⟩ | z
  · rw [n x b z] at h; cases h
  · rw [trk_out z]; exact h
/-- the cells are told -/
theorem SR.trk {H0 : Hp} (s : SR G φ fr H m) (hid : φ[id]? = some (.fr cs N)) (n : NotTold H cs) (hj : (∀ (x y : Str) (c : Addr), cs.lookup x = some c → cs.lookup y = some c → x = y) ∧ ρ.length = N.length ∧ N.Nodup) (hc : CellsR G φ (Ms.trk H H0 cs) cs N ρ) : SR G φ { fr with fr := (id, ρ) :: fr.fr } (Ms.trk H H0 cs) m := by
  have up := trk_up (H0 := H0) n
  have s2 := s.grow up
  have told : ∀ (i : Nat) (ρ' : Env), (i, ρ') ∈ fr.fr → ∀ cs' N', φ[i]? = some (.fr cs' N') → ∀ (x y : Str) (c : Addr), cs'.lookup x = some c → cs.lookup y = some c → False := fun i ρ' h cs' N' h1 x y c h2 h3 => by
    obtain ⟨cs2, N2, h4, _, h5⟩ := s.frs i ρ' h
    rw [h1] at h4
    cases h4
    obtain ⟨o, u, h6, _⟩ := h5 x c h2
    rw [n y c h3] at h6
    cases h6
  refine ⟨s2.len, s2.inj, s2.ob, fun id' ρ' h => ?_, fun i j a b h1 h2 hne cs1 N1 cs2 N2 h3 h4 x y c h5 h6 => ?_, s2.tabs, s2.lkb⟩
  · rcases List.mem_cons.mp h with z | z
    · cases z
      exact ⟨cs, N, hid, hj, hc⟩
    · exact s2.frs id' ρ' z
  · rcases List.mem_cons.mp h1 with z1 | z1 <;> rcases List.mem_cons.mp h2 with z2 | z2
    · cases z1; cases z2; exact hne rfl
    · cases z1
      rw [hid] at h3
      cases h3
      exact told j b z2 cs2 N2 h4 y x c h6 h5
    · cases z2
      rw [hid] at h4
      cases h4
      exact told i a z1 cs1 N1 h3 x y c h5 h6
    · exact s2.apt i j a b z1 z2 hne cs1 N1 cs2 N2 h3 h4 x y c h5 h6
end
end Ms

-- So21
set_option linter.all false
set_option Elab.async false
set_option maxRecDepth 10000
/-! A def is called with closures of the running frame. -/
namespace Ms
open PySem L2 PySem.Spec PyProof.Rows
/-- the heap's own objects as cells -/
def obsH (h : Heap) : Hp := fun b => (h.get? b).map fun o => CellO b o
/-- they stand as cells -/
def CelAt (h : Heap) (cs : List (Str × Addr)) : Prop := ∀ (x : Str) (c : Addr), cs.lookup x = some c → ∃ (o : Obj) (u : Option Value), h.get? c = some o ∧ o.data = .cell u
/-- told as they stood -/
def SameC (h : Heap) (H' : Hp) (cs : List (Str × Addr)) : Prop := ∀ (x : Str) (c : Addr) (o : Obj), cs.lookup x = some c → h.get? c = some o → H' c = some (CellO c o)
section
variable {P : Program} {w : World} {outer : List PySem.Env} {H : Hp} {s s' : Shared} {cs : List (Str × Addr)} {Q : VK} {E : XK} {u : Value}
theorem told_obs {h : Heap} (ca : CelAt h cs) : Told (obsH h) cs := fun x c e => by
  obtain ⟨o, u, h1, h2⟩ := ca x c e
  exact ⟨o, u, by unfold obsH; rw [h1]; rfl, h2⟩
theorem told_same {h : Heap} {H' : Hp} (ca : CelAt h cs) (hs : SameC h H' cs) : Told H' cs := fun x c e => by
  obtain ⟨o, u, h1, h2⟩ := ca x c e
  exact ⟨o, u, hs x c o e h1, h2⟩
theorem un_unc {H' : Hp} {h h' : Heap} {fs : List Addr} (n : NotTold H cs) (ca : CelAt h cs) (hs : SameC h H' cs) (hok : HOk P w H' h') (un : Un fs [] (trk H (obsH h) cs) H' h h') (hf : ∀ (x : Str) (c : Addr), cs.lookup x = some c → c ∉ fs) : Un fs [] H (unc H' cs) h h' := by
  have at' : ∀ (x : Str) (c : Addr) (o : Obj), cs.lookup x = some c → h.get? c = some o → h'.get? c = some o := fun x c o e q => cell_at hok (hs x c o e q)
  have up := trk_up (H0 := obsH h) n
  have no : ∀ b, H b = none → (∀ x, cs.lookup x ≠ some b) → trk H (obsH h) cs b = none := fun b e z => by rw [trk_out z]; exact e
  have ot : ∀ b o, H b = some o → ∀ x, cs.lookup x ≠ some b := fun b o e x z => by rw [n x b z] at e; cases e
  refine ⟨fun b o q nb hb hx => ?_, fun b o q nb hb hx => ?_, fun b o q nb hx => ?_, un.there, fun b xs q => ?_, fun b o v q => ?_, fun b ps q => ?_⟩
  · rcases in_out cs b with ⟨x, z⟩ | z
    · exact at' x b o z q
    · exact un.keep b o q (no b nb z) hb hx
  · rcases in_out cs b with ⟨x, z⟩ | z
    · exact absurd hb (hf x b z)
    · exact un.slot b o q (no b nb z) hb hx
  · rcases in_out cs b with ⟨x, z⟩ | z
    · exact unc_in z
    · rw [unc_out z]; exact un.free b o q (no b nb z) hx
  · rw [unc_out (ot b _ q)]; exact un.tups b xs (up b _ q)
  · rw [unc_out (ot b _ q)]; exact un.frzs b o v (up b _ q)
  · rw [unc_out (ot b _ q)]; exact un.tbls b ps (up b _ q)
theorem ce_unc (n : NotTold H cs) (ca : CelAt s.heap cs) (hf : ∀ (x : Str) (c : Addr), cs.lookup x = some c → c ∉ frs outer) (h : CE outer P w (trk H (obsH s.heap) cs) s (fun v H' => SameC s.heap H' cs ∧ Q v (unc H' cs)) u s') : CE outer P w H s Q u s' := by
  obtain ⟨v, H', os, bare, un, hok, r, hs, q⟩ := h
  exact ⟨v, unc H' cs, os, bare, un_unc n ca hs hok un hf, hok_unc (told_same ca hs) hok, r, q⟩
theorem cx_unc (n : NotTold H cs) (ca : CelAt s.heap cs) (hf : ∀ (x : Str) (c : Addr), cs.lookup x = some c → c ∉ frs outer) (h : L2.CX P w outer (trk H (obsH s.heap) cs) s (fun cls d H' => SameC s.heap H' cs ∧ E cls d (unc H' cs)) u s') : L2.CX P w outer H s E u s' := by
  obtain ⟨a, B, H', cls, d, e, fl, hok, ub, na, os, bare, hs, q⟩ := h
  have at' : ∀ (x : Str) (c : Addr) (o : Obj), cs.lookup x = some c → s.heap.get? c = some o → B.get? c = some o := fun x c o e q => cell_at hok (hs x c o e q)
  have up := trk_up (H0 := obsH s.heap) n
  have no : ∀ b, H b = none → (∀ x, cs.lookup x ≠ some b) → trk H (obsH s.heap) cs b = none := fun b e z => by rw [trk_out z]; exact e
  have ot : ∀ b o, H b = some o → ∀ x, cs.lookup x ≠ some b := fun b o e x z => by rw [n x b z] at e; cases e
  refine ⟨a, B, unc H' cs, cls, d, e, fl, hok_unc (told_same ca hs) hok, ⟨fun b o q nb hb => ?_, ub.slot, fun b o q nb => ?_, ub.there, fun b xs q => ?_, fun b o v q => ?_, fun b ps q => ?_⟩, ?_, os, bare, q⟩
  · rcases in_out cs b with ⟨x, z⟩ | z
    · exact at' x b o z q
    · exact ub.keep b o q (no b nb z) hb
  · rcases in_out cs b with ⟨x, z⟩ | z
    · exact unc_in z
    · rw [unc_out z]; exact ub.free b o q (no b nb z)
  · rw [unc_out (ot b _ q)]; exact ub.tups b xs (up b _ q)
  · rw [unc_out (ot b _ q)]; exact ub.frzs b o v (up b _ q)
  · rw [unc_out (ot b _ q)]; exact ub.tbls b ps (up b _ q)
  · rcases in_out cs a with ⟨x, z⟩ | z
    · exact unc_in z
    · rw [unc_out z]; exact na
end
section
variable {G : Top} {fr : Fr} {W : WX} {X : Cx} {n : Nat} {σ : L2.St} {H H' : Hp} {φ φ' : List Gh} {m : Mem} {ρ : Env} {id : Nat} {pins : List (Addr × Obj)} {s : Shared}
/-- a def's own context: its cells are its own -/
structure Own (X : Cx) : Prop where
  fn : ∀ x, X.fn x = true
  kind : ∀ x c, X.env.cells.lookup x = some c → X.env.scope.names.lookup x = some .cell
theorem cel_inv (I : Inv X pins σ H s) : CelAt s.heap X.env.cells := fun x c e => by
  obtain ⟨v, o, ho, hd⟩ := I.cell x c e
  exact ⟨o, v, ho, hd⟩
theorem cel_fr (ow : Own X) (I : Inv X pins σ H s) : ∀ (x : Str) (c : Addr), X.env.cells.lookup x = some c → c ∉ frs X.stack := fun x c e hb => by
  rcases List.mem_cons.mp (I.stkSub c hb) with z | z
  · exact I.cne x c e z
  · obtain ⟨_, o, ho, _⟩ := I.ok.funs.mem z
    exact absurd (Nat.lt_of_lt_of_le (Heap.lt_size ho) (I.ok.cab x c (ow.fn x) e)) (Nat.lt_irrefl _)
theorem env0_trk (ow : Own X) (I : Inv X pins σ H s) : Env0 X.prog X.w X.K X.mg X.base X.A X.stack s (trk H (obsH s.heap) X.env.cells) := by
  have e := I.env0
  have n : NotTold H X.env.cells := fun x c h => I.freeC x c h
  refine ⟨e.frames, e.mod, fun b o h => ⟨(e.bs b o h).1, ?_⟩, e.bsz, e.funs, fun b hb => ?_, hok_trk n (told_obs (cel_inv I)) (fun x c hc o ho => ?_) e.hok, e.bare⟩
  · rw [trk_out fun x z => ?_]
    · exact (e.bs b o h).2
    · exact absurd (Nat.lt_of_lt_of_le (Heap.lt_size h) (Nat.le_trans I.ok.bsz (I.ok.cab x b (ow.fn x) z))) (Nat.lt_irrefl _)
  · rw [trk_out fun x z => cel_fr ow I x b z hb]
    exact e.frf b hb
  · obtain ⟨o', u, h1, _⟩ := cel_inv I x c hc
    unfold obsH at ho
    rw [h1] at ho
    have : CellO c o' = CellO c o := Option.some.inj ho
    have e2 := congrFun (HO.ext.inj this) s.heap
    have t : s.heap.get? c = some o' := h1
    exact (show s.heap.get? c = some o by rw [← e2]; exact t)
theorem same_obs (I : Inv X pins σ H s) (e : Ext φ (trk H (obsH s.heap) X.env.cells) φ' H') : SameC s.heap H' X.env.cells := fun x c o hx ho => by
  obtain ⟨o', u, h1, h2⟩ := cel_inv I x c hx
  rw [ho] at h1
  cases h1
  refine e.im c _ (by rw [trk_in hx]; unfold obsH; rw [ho]; rfl) rfl fun ps z => by unfold CellO at z; cases z
theorem car_lam {k : Nat} {a : Addr} (go : GO G X.prog X.w X.K X.mg X.base n) (xo : XO G X n W) (ow : Own X) (h : G.df k = some a) : CaR X σ a (fun vs H Q => ∃ φ fr m ds ρ id, SR G φ fr H m ∧ EnvR G φ H ρ σ ∧ φ[id]? = some (.fr X.env.cells X.N) ∧ (∀ p ∈ fr.fr, p.1 ≠ id) ∧ ValsR G φ H ds vs ∧
    Post G φ fr H (callN G.P n { fr with fr := (id, ρ) :: fr.fr } (.df k) ds m) (KD G Q) (KE1 G (WE W σ))) := fun pins s H vs us Q I r ⟨φ, fr, m, ds, ρ, id, sr, re, hid, hnew, rv, p⟩ => by
  obtain ⟨fd, ps, F, b, _⟩ := go.fn n k a (Nat.le_refl _) h
  have nt : NotTold H X.env.cells := fun x c h => I.freeC x c h
  have ca := cel_inv I
  have e0 := env0_trk ow I
  have cR : CellsR G φ (trk H (obsH s.heap) X.env.cells) X.env.cells X.N ρ := fun x c hx => by
    obtain ⟨o, u, h1, h2⟩ := ca x c hx
    refine ⟨o, u, by rw [trk_in hx]; unfold obsH; rw [h1]; rfl, h2, fun i d hN hd => ?_⟩
    obtain ⟨v, hv, rv⟩ := re.at_ i d hd
    obtain ⟨mm, _, hl⟩ := I.loc
    have kc := ow.kind x c hx
    obtain ⟨w', rw', q⟩ := hl i x v hN hv (.inr (.inl kc))
    rcases q with ⟨k', _⟩ | ⟨_, c', h3, o', h4, h5⟩
    · have k' : X.env.scope.names.lookup x = some .local := k'
      rw [kc] at k'
      cases k'
    · rw [hx] at h3
      cases h3
      rw [h1] at h4
      cases h4
      rw [h2] at h5
      exact ⟨v, w', by cases h5; rfl, rw', rv.ext (ext_same (trk_up nt)) sr.clean⟩
  have s1 := sr.trk hid nt ⟨fun x y c h1 h2 => I.ok.inj x y c h1 h2, by rw [← re.len, I.len], xo.nd⟩ cR
  have e1 : Ext φ H φ (trk H (obsH s.heap) X.env.cells) := ext_same (trk_up nt)
  have q : spD G n (.df k) vs (trk H (obsH s.heap) X.env.cells) (fun v H' => SameC s.heap H' X.env.cells ∧ Q v (unc H' X.env.cells)) (fun cls d H' => SameC s.heap H' X.env.cells ∧ WE W σ cls d (unc H' X.env.cells)) := by
    refine ⟨φ, _, m, ds, s1, rv.ext e1 sr.clean, ?_⟩
    have back : ∀ φ' H' m', Ext φ (trk H (obsH s.heap) X.env.cells) φ' H' → SR G φ' { fr with fr := (id, ρ) :: fr.fr } H' m' → SameC s.heap H' X.env.cells ∧ Told H' X.env.cells ∧ Ext φ H φ' (unc H' X.env.cells) ∧ SR G φ' fr (unc H' X.env.cells) m' := fun φ' H' m' e s2 => by
      have sc := same_obs I e
      have t := told_same ca sc
      exact ⟨sc, t, ext_unc nt e, s2.untrk (l := fr.fr) (e.pre _ _ hid) ⟨ρ, List.mem_cons_self⟩ t fun p hp => ⟨List.mem_cons_of_mem _ hp, hnew p hp⟩⟩
    generalize callN G.P n { fr with fr := (id, ρ) :: fr.fr } (.df k) ds m = rr at p
    cases rr with
    | ok d m' =>
      intro φ' H' e s2 v rv'
      obtain ⟨sc, t, e2, s3⟩ := back φ' H' m' e s2
      exact ⟨sc, p φ' _ e2 s3 v (ValR.extW (exW_unc t) _ _ rv')⟩
    | exc c lv m' =>
      intro φ' H' e s2 cls dd hx
      obtain ⟨sc, t, e2, s3⟩ := back φ' H' m' e s2
      refine ⟨sc, p φ' _ e2 s3 cls dd ?_⟩
      obtain ⟨Cc, x1, x2, ec, x3, x4⟩ := hx
      refine ⟨Cc, x1, x2, ec, x3, ?_⟩
      split at x4
      · rename_i f d hf
        obtain ⟨dx, u, h5, h6, h7⟩ := x4
        exact ⟨dx, u, h5, (exW_unc (φ := φ') t).im dx _ h6 rfl (fun _ z => by cases z) (cel_no fun _ z => by cases z), ValR.extW (exW_unc t) _ _ h7⟩
      · exact True.intro
      · exact x4.elim
    | bad => exact p.elim
  have hl := F.len _ _ _ _ q
  have bb := b s us I.kIn (by rw [List.append_nil, ← r.length]; exact hl)
  rw [List.append_nil] at bb
  refine wpAny_call (codeAny_mono (F.run X.A X.stack s _ _ _ _ _ _ xo.room e0 bb r q) fun z s' hz => ?_)
  cases z with
  | error e => exact passAt xo.tk σ pins _ _ e s' I (cx_unc nt ca (cel_fr ow I) hz)
  | ok fl =>
    cases fl with
    | ret u => exact I.after (ce_unc nt ca (cel_fr ow I) hz)
    | next => exact False.elim hz
    | brk => exact False.elim hz
    | cont => exact False.elim hz
end
end Ms

-- So22
set_option linter.all false
set_option Elab.async false
set_option maxRecDepth 10000
/-! A lambda is made. -/
namespace Ms
open PySem L2 PySem.Spec PyProof.Rows
section
variable {G : Top} {C : Cl} {fr : Fr} {W : WX} {X : Cx} {n : Nat} {σ : L2.St} {H H' : Hp} {φ φ' : List Gh} {m : Mem} {ρ : Env} {id : Nat} {pins : List (Addr × Obj)} {s : Shared}
theorem SR.over (s : SR G φ fr H m) (e : Ext φ H φ H') (h : ∀ (i : Nat) (a : Addr), φ[i]? = some (.adr a) → H' a = H a) (t : LamX.Tabs G.T H') : SR G φ fr H' m := by
  refine ⟨s.len, s.inj, fun i o hi => ?_, s.frs.ext e s.clean, s.apt, t, s.lkb⟩
  rcases s.ob i o hi with q | ⟨a, h1, h2⟩
  · exact .inl q
  · exact .inr ⟨a, h1, h2.ext e s.clean (h i a h1)⟩
/-- the lambda of the text, as the top has it -/
structure LamOk (G : Top) (X : Cx) (k : Nat) (params : Arguments) (body : Expr) (scope : Scope) : Prop where
  lam : G.lam k = some ⟨X.env.qual ++ "<lambda>", params, body, scope, X.N⟩
  tab : ∃ c P, LamX.TabB X.base X.mg c P ∧ X.env.code = .ref c ∧ (P, X.env.qual ++ "<lambda>") ∈ G.T ∧ ∀ p ∈ G.T, p.1 = P → p.2 = X.env.qual ++ "<lambda>"
  dfl : defaultsOf params X.env = ([], [])
  free : ∀ y ∈ scope.names, y.2 = .free → ∃ c, X.env.cells.lookup y.1 = some c
def tLam (G : Top) (X : Cx) (k : Nat) : TE := fun σ H Q => ∃ φ fr m id, SR G φ fr H m ∧ φ[id]? = some (.fr X.env.cells X.N) ∧ ∀ H' v, Ext φ H φ H' → SR G φ fr H' m → ValR G φ H' (.clo k id) v → Q v H'
theorem s_lam {k : Nat} {params : Arguments} {body : Expr} {scope : Scope} {pos : Pos} (lo : LamOk G X k params body scope) : PE X (.Lambda params body scope pos) (tLam G X k) := by
  refine ⟨fun pins s σ H Q I ⟨φ, fr, m, id, sr, hid, q⟩ => ?_⟩
  obtain ⟨c, P, TB, hcode, hm, hu⟩ := lo.tab
  have hT := sr.tabs
  obtain ⟨ps, hP, ht, ha⟩ := hT _ hm
  refine PySem.W.kla_eval lo.dfl ?_
  have bP : s.heap.BuiltinsAt X.mg P := TB.bm.keeps I.bk
  have hP' : s.heap.get? P = some { cls := .none, data := .fields ps } := I.hok P _ hP
  have noA : ∀ (i : Nat) (a : Addr), φ[i]? = some (.adr a) → ∃ o, H a = some o ∧ isMut o = true := sr.clean
  cases hc : codeAmong pos ps.toList with
  | none =>
    refine PySem.W.kla_makeFunction (mg := X.mg) (c := c) (P := P) (ps := ps) (closure_ok lo.free) I.ok.glob (I.mod.glob.keeps I.bk) hcode (TB.code.keeps I.bk) hP' ht hc TB.gP bP fun c' ctv h' tk hx hge hlt hrec htb => ?_
    obtain ⟨c2, oc, vs, t, e2, hoc, hd, hv⟩ := hrec
    cases e2
    have hsz : s.heap.objs.size ≤ h'.objs.size := Nat.le_trans hge (Nat.le_of_lt hlt)
    have nC : H c' = none := I.hok.fresh hge
    have nF : H h'.objs.size = none := I.hok.fresh hsz
    have I1 := LamX.inv_table (q := X.env.qual ++ "<lambda>") (t' := tk) (more := #[rawInt pos.line, rawInt pos.col, .ref c']) (h' := h') I hP (fun b o hb e => hx b o hb e) htb hge ⟨oc, vs, t, hoc, hd, hv⟩
    have I2 := I1.laid (t' := tk) (a := h'.objs.size) (o := CloO (X.env.qual ++ "<lambda>") ⟨X.env.qual ++ "<lambda>", params, body, scope, X.N⟩ X.env.cells h'.objs.size ((X.mg "__name__").getD .none) c' ctv)
      (h' := h'.push (PySem.W.kla_obj "<lambda>" (X.env.qual ++ "<lambda>") params body scope (cloFrom X.env.cells scope.names []) ((X.mg "__name__").getD .none) c' ctv)) (fun b o e => Heap.get?_push_of_some _ e) (Nat.le_refl _)
      ⟨Heap.get?_push_size _ rfl, ⟨_, Heap.get?_push_size _ rfl⟩, fun h1 h2 z k => k _ z⟩
    have n1 : h'.objs.size ≠ c' := Nat.ne_of_gt hlt
    have n2 : h'.objs.size ≠ P := Nat.ne_of_gt (Nat.lt_of_lt_of_le (Heap.lt_size hP') hsz)
    have nCP : c' ≠ P := fun z => by rw [z, hP] at nC; cases nC
    generalize hH3 : upd (upd (upd H P (.tbl (ps ++ #[rawInt pos.line, rawInt pos.col, .ref c']))) c' (LamX.CodeO c' (X.env.qual ++ "<lambda>"))) h'.objs.size (CloO (X.env.qual ++ "<lambda>") ⟨X.env.qual ++ "<lambda>", params, body, scope, X.N⟩ X.env.cells h'.objs.size ((X.mg "__name__").getD .none) c' ctv) = H3 at I2
    have at3 : ∀ b o, H b = some o → (∀ ps, o ≠ .tbl ps) → H3 b = some o := fun b o e n => by
      rw [← hH3, upd_ne (ne_of_none e nF), upd_ne (ne_of_none e nC), upd_ne (fun z => n ps (Option.some.inj (e.symm.trans (by rw [z]; exact hP))))]
      exact e
    have e3 : Ext φ H φ H3 := by
      refine ⟨⟨⟨fun _ _ q => q, fun a o e _ t => at3 a o e t⟩, fun i a h1 h2 => (by rw [h1] at h2; cases h2), fun b e => ?_, fun a o u e => at3 a _ e fun _ z => by cases z⟩, fun a o e _ t => at3 a o e t⟩
      cases hb : H b with
      | none => rfl
      | some o =>
        exfalso
        by_cases hbP : b = P
        · rw [← hH3, upd_ne (by rw [hbP]; exact Ne.symm n2), upd_ne (by rw [hbP]; exact Ne.symm nCP), hbP, upd_same] at e
          cases e
        · rw [← hH3, upd_ne (ne_of_none hb nF), upd_ne (ne_of_none hb nC), upd_ne hbP, hb] at e
          cases e
    have c3 : H3 c' = some (LamX.CodeO c' (X.env.qual ++ "<lambda>")) := by rw [← hH3, upd_ne (Ne.symm n1), upd_same]
    have f3 : H3 h'.objs.size = some (CloO (X.env.qual ++ "<lambda>") ⟨X.env.qual ++ "<lambda>", params, body, scope, X.N⟩ X.env.cells h'.objs.size ((X.mg "__name__").getD .none) c' ctv) := by rw [← hH3, upd_same]
    have p3 : H3 P = some (.tbl (ps ++ #[rawInt pos.line, rawInt pos.col, .ref c'])) := by rw [← hH3, upd_ne (Ne.symm n2), upd_ne (Ne.symm nCP), upd_same]
    have eL : (ps ++ #[rawInt pos.line, rawInt pos.col, .ref c']).toList = ps.toList ++ [rawInt pos.line, rawInt pos.col, .ref c'] := by simp
    have t3 : LamX.Tabs G.T H3 := fun p hp => by
      by_cases hb : p.1 = P
      · rw [hu p hp hb, hb]
        refine ⟨_, p3, by rw [eL]; exact PySem.TriplesOk_snoc _ _ _ _ ht, fun p' cv hcv => ?_⟩
        rw [eL] at hcv
        rcases LamX.among_app _ ht hcv with z | z
        · obtain ⟨c0, e1, e2⟩ := ha p' cv z
          exact ⟨c0, e1, at3 _ _ e2 LamX.codeO_ne⟩
        · exact ⟨c', z, c3⟩
      · obtain ⟨ps', a1, a2, a3⟩ := hT p hp
        refine ⟨ps', by rw [← hH3, upd_ne (ne_of_none a1 nF), upd_ne (ne_of_none a1 nC), upd_ne hb]; exact a1, a2, fun p' cv hcv => ?_⟩
        obtain ⟨c0, e1, e2⟩ := a3 p' cv hcv
        exact ⟨c0, e1, at3 _ _ e2 LamX.codeO_ne⟩
    have s3 := sr.over e3 (fun i a h => by
      obtain ⟨o, ho, hmu⟩ := noA i a h
      exact (at3 a o ho fun ps z => (by rw [z] at hmu; cases hmu)).trans ho.symm) t3
    refine ⟨.ref h'.objs.size, H3, I2, rfl, q H3 _ e3 s3 ?_⟩
    simp only [ValR]
    exact ⟨h'.objs.size, X.env.cells, X.N, _, _, c', ctv, rfl, hid, lo.lam, rfl, f3, c3, lo.free⟩
  | some cv =>
    obtain ⟨c', e, hco⟩ := ha pos cv hc
    subst e
    refine PySem.W.kla_makeFunctionHit (mg := X.mg) (c := c) (P := P) (ps := ps) (closure_ok lo.free) I.ok.glob (I.mod.glob.keeps I.bk) hcode (TB.code.keeps I.bk) hP' ht hc bP fun ctv h' tk hx hsz => ?_
    have nF : H h'.objs.size = none := I.hok.fresh hsz
    have I2 := I.laid (t' := tk) (a := h'.objs.size) (o := CloO (X.env.qual ++ "<lambda>") ⟨X.env.qual ++ "<lambda>", params, body, scope, X.N⟩ X.env.cells h'.objs.size ((X.mg "__name__").getD .none) c' ctv)
      (h' := h'.push (PySem.W.kla_obj "<lambda>" (X.env.qual ++ "<lambda>") params body scope (cloFrom X.env.cells scope.names []) ((X.mg "__name__").getD .none) c' ctv)) (fun b o e => Heap.get?_push_of_some _ (hx b o e)) hsz
      ⟨Heap.get?_push_size _ rfl, ⟨_, Heap.get?_push_size _ rfl⟩, fun h1 h2 z k => k _ z⟩
    have sm := same_new (u := CloO (X.env.qual ++ "<lambda>") ⟨X.env.qual ++ "<lambda>", params, body, scope, X.N⟩ X.env.cells h'.objs.size ((X.mg "__name__").getD .none) c' ctv) nF
    refine ⟨.ref h'.objs.size, _, I2, rfl, q _ _ (ext_same sm) (sr.grow sm) ?_⟩
    simp only [ValR]
    exact ⟨h'.objs.size, X.env.cells, X.N, _, _, c', ctv, rfl, hid, lo.lam, rfl, upd_same, sm _ _ hco, lo.free⟩
end
end Ms

-- So23
set_option linter.all false
set_option Elab.async false
set_option maxRecDepth 10000
/-! A call with closures among its arguments. -/
namespace Ms
open PySem L2 PySem.Spec PyProof.Rows
def isLam : Ms.E → Bool
  | .lam _ => true
  | .lst [.lam _] => true
  | _ => false
section
variable {G : Top} {C : Cl} {fr : Fr} {W : WX} {X : Cx} {n : Nat} {σ : L2.St} {H H' : Hp} {φ φ' : List Gh} {m : Mem} {ρ : Env} {id : Nat} {pins : List (Addr × Obj)} {s : Shared}
theorem evL_cons {P : Prog} {e : Ms.E} {l : List Ms.E} (h : isLam e = false) : evL P C fr id (e :: l) ρ m = (ev P C fr e ρ m).bind fun x m => (evL P C fr id l ρ m).bind fun xs m => .ok (x :: xs) m := by
  cases e with
  | lam k => cases h
  | lst es =>
    match es, h with
    | [], _ => rw [evL]; all_goals (intros; simp_all)
    | [.lam k], h => cases h
    | [.var i], _ => rw [evL]; all_goals (intros; simp_all)
    | e :: e2 :: es, _ => rw [evL]; all_goals (intros; simp_all)
    | _, _ => rw [evL] <;> (intros; simp_all [isLam])
  | _ => rw [evL] <;> (intros; simp_all)
def tAL (G : Top) (C : Cl) (fr : Fr) (W : WX) (X : Cx) (id : Nat) (l : List Ms.E) : TA := fun σ H Q => ∃ φ m ρ, SR G φ fr H m ∧ EnvR G φ H ρ σ ∧ φ[id]? = some (.fr X.env.cells X.N) ∧ Post G φ fr H (evL G.P C fr id l ρ m) (KDs G Q) (EX G W σ)
variable {e : Expr} {es : List Expr} {e' : Ms.E} {l : List Ms.E}
theorem al_nil : PA X [] (tAL G C fr W X id []) := PA.imp pa_nil fun σ H Q ⟨φ, m, ρ, s, r, hid, p⟩ => by
  rw [evL] at p
  exact p.here s [] .nil
theorem al_cons (ns : NoStar e) (hl : isLam e' = false) (ha : PE X e (tE G C fr W e')) (hr : PA X es (tAL G C fr W X id l)) : PA X (e :: es) (tAL G C fr W X id (e' :: l)) := by
  refine PA.imp (pa_cons ha hr (starEach_cons ns)) fun σ H Q ⟨φ, m, ρ, s, r, hid, p⟩ => ?_
  rw [evL_cons hl] at p
  refine ⟨φ, m, ρ, s, r, p.bind.mono (fun φ1 H1 x m1 e1 s1 p1 v rv => ?_) fun _ _ _ _ _ _ _ q => q⟩
  refine ⟨φ1, m1, ρ, s1, r.ext e1 s.clean, e1.pre _ _ hid, p1.bind.mono (fun φ2 H2 ds m2 e2 s2 p2 vs rs => ?_) fun _ _ _ _ _ _ _ q => q⟩
  exact p2.here s2 _ (.cons (rv.ext e2 s1.clean) rs)
theorem al_lam {k : Nat} {params : Arguments} {body : Expr} {scope : Scope} {pos : Pos} (lo : LamOk G X k params body scope) (hr : PA X es (tAL G C fr W X id l)) : PA X (.Lambda params body scope pos :: es) (tAL G C fr W X id (.lam k :: l)) := by
  refine PA.imp (pa_cons (s_lam (pos := pos) lo) hr (starEach_cons fun _ _ z => by cases z)) fun σ H Q ⟨φ, m, ρ, s, r, hid, p⟩ => ?_
  rw [evL] at p
  refine ⟨φ, fr, m, id, s, hid, fun H1 v e1 s1 rv => ?_⟩
  refine ⟨φ, m, ρ, s1, r.ext e1 s.clean, hid, (Post.ext e1 p.bind).mono (fun φ2 H2 ds m2 e2 s2 p2 vs rs => ?_) fun _ _ _ _ _ _ _ q => q⟩
  exact p2.here s2 _ (.cons (rv.ext e2 s1.clean) rs)
theorem al_lst {k : Nat} {params : Arguments} {body : Expr} {scope : Scope} {pos lpos : Pos} (lo : LamOk G X k params body scope) (hr : PA X es (tAL G C fr W X id l)) : PA X (.List [.Lambda params body scope pos] lpos :: es) (tAL G C fr W X id (.lst [.lam k] :: l)) := by
  refine PA.imp (pa_cons (pe_lst (pos := lpos) (pa_cons (s_lam (pos := pos) lo) pa_nil (starEach_cons fun _ _ z => by cases z))) hr (starEach_cons fun _ _ z => by cases z)) fun σ H Q ⟨φ, m, ρ, s, r, hid, p⟩ => ?_
  rw [evL] at p
  refine ⟨φ, fr, m, id, s, hid, fun H1 v e1 s1 rv => ⟨by show 1 ≤ sizeLine; decide, fun q hq => ?_⟩⟩
  have e2 : Ext φ H1 (φ ++ [.adr q]) (upd H1 q (.lst [v])) := ext_new (same_new hq) hq
  have s2 := s1.new (o := .lst [.clo k id]) (same_new hq) hq (ob_lst upd_same (.one (rv.ext e2 s1.clean)))
  have e12 := e1.trans e2
  refine ⟨φ ++ [.adr q], _, ρ, s2, r.ext e12 s.clean, e12.pre _ _ hid, (Post.ext e12 p.bind).mono (fun φ3 H3 ds m3 e3 s3 p3 vs rs => ?_) fun _ _ _ _ _ _ _ q => q⟩
  exact p3.here s3 _ (.cons (rref (e3.pre _ _ (by rw [← s.len]; simp))) rs)
theorem SR.mark {g : List (Str × Addr)} {N : List Str} (s : SR G φ fr H m) : SR G (φ ++ [.fr g N]) fr H (m ++ [.mark]) ∧ Ext φ H (φ ++ [.fr g N]) H := by
  have pre : ∀ (i : Nat) (y : Gh), φ[i]? = some y → (φ ++ [Gh.fr g N])[i]? = some y := fun i y q => by
    rw [List.getElem?_append_left (List.getElem?_eq_some_iff.mp q).1]
    exact q
  have at_ : ∀ (i : Nat) (a : Addr), (φ ++ [Gh.fr g N])[i]? = some (.adr a) → φ[i]? = some (.adr a) := fun i a q => by
    by_cases hi : i < φ.length
    · rw [List.getElem?_append_left hi] at q
      exact q
    · rw [List.getElem?_append_right (by omega)] at q
      cases hk : i - φ.length with
      | zero => rw [hk] at q; cases q
      | succ k => rw [hk] at q; simp at q
  have e : Ext φ H (φ ++ [.fr g N]) H := ⟨⟨⟨pre, fun _ _ q _ _ => q⟩, fun i a h1 h2 => (by rw [at_ i a h2] at h1; cases h1), fun _ q => q, fun _ _ _ q => q⟩, fun _ _ q _ _ => q⟩
  refine ⟨⟨by simp [s.len], fun i j a h1 h2 => s.inj i j a (at_ i a h1) (at_ j a h2), fun i o hi => ?_, s.frs.ext e s.clean, s.apt.ext0 e.toEx0 s.frs, s.tabs, fun i hi => by rw [List.length_append]; exact Nat.lt_of_lt_of_le (s.lkb i hi) (Nat.le_add_right _ _)⟩, e⟩
  by_cases hlt : i < m.length
  · rw [List.getElem?_append_left hlt] at hi
    rcases s.ob i o hi with ⟨q, cs, N', q2⟩ | ⟨a, h1, h2⟩
    · exact .inl ⟨q, cs, N', pre _ _ q2⟩
    · exact .inr ⟨a, pre _ _ h1, h2.ext e s.clean rfl⟩
  · rw [List.getElem?_append_right (by omega)] at hi
    cases hk : i - m.length with
    | zero =>
      rw [hk] at hi
      cases hi
      have : i = m.length := by omega
      subst this
      exact .inl ⟨rfl, g, N, by rw [← s.len]; simp⟩
    | succ k => rw [hk] at hi; simp at hi
theorem s_calL {k : Nat} {a : Addr} {x : Str} {p pos : Pos} (go : GO G X.prog X.w X.K X.mg X.base n) (xo : XO G X n W) (ow : Own X) (h : G.df k = some a) (hg : L2.Gl X x) (hm : X.mg x = some (.ref a)) (hdb : (x == ("__debug__" : Str)) = false)
    (hst : ∀ e ∈ es, NoStar e) (ha : ∀ id, PA X es (tAL G (callN G.P n) fr W X id l)) : PE X (.Call (.Name x p) es [] pos) (tE G (callN G.P n) fr W (.calL k l)) := by
  have ha' : PA X es (fun σ H Q => ∃ id, tAL G (callN G.P n) fr W X id l σ H Q) := ⟨fun pos pins s σ H Q I ⟨id, q⟩ => (ha id).run pos pins s σ H Q I q⟩
  refine PE.imp (pe_gcall (fun σ => car_lam go xo ow h) (go.kpf k a h) hg hm hdb hst ha') fun σ H Q ⟨φ, m, ρ, s, r, p⟩ => ?_
  simp only [ev] at p
  obtain ⟨s0, e0⟩ := s.mark (g := X.env.cells) (N := X.N)
  have hid : (φ ++ [Gh.fr X.env.cells X.N])[m.length]? = some (.fr X.env.cells X.N) := by rw [← s.len]; simp
  refine ⟨m.length, _, _, ρ, s0, r.ext e0 s.clean, hid, (Post.ext e0 p.bind).mono (fun φ1 H1 ds m1 e1 s1 p1 vs rs => ?_) fun _ _ _ _ _ _ _ q => q⟩
  refine ⟨φ1, fr, m1, ds, ρ, m.length, s1, (r.ext e0 s.clean).ext e1 s0.clean, e1.pre _ _ hid, fun q hq z => ?_, rs, p1⟩
  obtain ⟨cs, N, h1, _⟩ := s.frs q.1 q.2 hq
  have := (List.getElem?_eq_some_iff.mp h1).1
  rw [z, s.len] at this
  exact Nat.lt_irrefl _ this
end
end Ms

-- So24
set_option linter.all false
set_option Elab.async false
set_option maxRecDepth 10000
/-! A closure is called. -/
namespace Ms
open PySem L2 PySem.Spec PyProof.Rows
/-! ### the cells told again -/
section
variable {P : Program} {w : World} {outer : List PySem.Env} {H H' : Hp} {s s' : Shared} {cs : List (Str × Addr)} {Q : VK} {E : XK} {u : Value}
theorem told_heap (hok : HOk P w H s.heap) (t : Told H cs) : ∀ (x : Str) (c : Addr), cs.lookup x = some c → ∃ (o : Obj) (u : Option Value), H c = some (CellO c o) ∧ o.data = .cell u ∧ s.heap.get? c = some o := fun x c e => by
  obtain ⟨o, u, h1, h2⟩ := t x c e
  exact ⟨o, u, h1, h2, cell_at hok h1⟩
theorem cellO_inj {c : Addr} {o o' : Obj} {h : Heap} (e : CellO c o = CellO c o') (q : h.get? c = some o) : h.get? c = some o' := by
  have e2 := congrFun (HO.ext.inj e) h
  rw [← e2]
  exact q
theorem ce_trk (hok : HOk P w H s.heap) (t : Told H cs) (hf : ∀ b ∈ frs outer, H b = none) (h : CE outer P w (unc H cs) s (fun v H' => NotTold H' cs → Q v (trk H' H cs)) u s') : CE outer P w H s Q u s' := by
  obtain ⟨v, H', os, bare, un, hok', r, q⟩ := h
  have th := told_heap hok t
  have no : ∀ b, H b = none → (∀ x, cs.lookup x ≠ some b) ∧ unc H cs b = none := fun b e => by
    rcases in_out cs b with ⟨x, z⟩ | z
    · obtain ⟨o, _, h1, _⟩ := t x b z
      rw [e] at h1; cases h1
    · exact ⟨z, by rw [unc_out z]; exact e⟩
  have nt : NotTold H' cs := fun x c e => by
    obtain ⟨o, _, h1, h2, h3⟩ := th x c e
    exact un.free c o h3 (unc_in e) (by simp)
  have ot : ∀ b o, H b = some o → (∀ c ob u, ob.data = .cell u → o ≠ CellO c ob) → (∀ x, cs.lookup x ≠ some b) ∧ unc H cs b = some o := fun b o e n => by
    refine ⟨fun x z => ?_, unc_of_ne t e n⟩
    obtain ⟨ob, uu, h1, h2⟩ := t x b z
    rw [e] at h1
    exact n b ob uu h2 (Option.some.inj h1)
  refine ⟨v, trk H' H cs, os, bare, ⟨fun b o e nb hb hx => ?_, fun b o e nb hb hx => ?_, fun b o e nb hx => ?_, un.there, fun b xs e => ?_, fun b o v e => ?_, fun b ps e => ?_⟩, hok_trk nt t (fun x c hc o ho => ?_) hok', r, q nt⟩
  · exact un.keep b o e (no b nb).2 hb hx
  · exact un.slot b o e (no b nb).2 hb hx
  · rw [trk_out (no b nb).1]; exact un.free b o e (no b nb).2 hx
  · obtain ⟨h1, h2⟩ := ot b _ e fun c ob _ _ z => (cell_ne.2.2.1 xs) z.symm
    rw [trk_out h1]; exact un.tups b xs h2
  · obtain ⟨h1, h2⟩ := ot b _ e fun c ob _ _ z => (cell_ne.2.2.2 o v) z.symm
    rw [trk_out h1]; exact un.frzs b o v h2
  · obtain ⟨h1, h2⟩ := ot b _ e fun c ob _ _ z => (cell_ne.1 ps) z.symm
    rw [trk_out h1]; exact un.tbls b ps h2
  · obtain ⟨o', uu, h1, h2, h3⟩ := th x c hc
    rw [h1] at ho
    exact un.keep c o (cellO_inj (Option.some.inj ho) h3) (unc_in hc) (fun z => by rw [hf c z] at h1; cases h1) (by simp)
theorem cx_trk (hok : HOk P w H s.heap) (t : Told H cs) (hf : ∀ b ∈ frs outer, H b = none) (h : L2.CX P w outer (unc H cs) s (fun cls d H' => NotTold H' cs → E cls d (trk H' H cs)) u s') : L2.CX P w outer H s E u s' := by
  obtain ⟨a, B, H', cls, d, e0, fl, hok', ub, na, os, bare, q⟩ := h
  have th := told_heap hok t
  have no : ∀ b, H b = none → (∀ x, cs.lookup x ≠ some b) ∧ unc H cs b = none := fun b e => by
    rcases in_out cs b with ⟨x, z⟩ | z
    · obtain ⟨o, _, h1, _⟩ := t x b z
      rw [e] at h1; cases h1
    · exact ⟨z, by rw [unc_out z]; exact e⟩
  have nt : NotTold H' cs := fun x c e => by
    obtain ⟨o, _, h1, h2, h3⟩ := th x c e
    exact ub.free c o h3 (unc_in e)
  have ot : ∀ b o, H b = some o → (∀ c ob u, ob.data = .cell u → o ≠ CellO c ob) → (∀ x, cs.lookup x ≠ some b) ∧ unc H cs b = some o := fun b o e n => by
    refine ⟨fun x z => ?_, unc_of_ne t e n⟩
    obtain ⟨ob, uu, h1, h2⟩ := t x b z
    rw [e] at h1
    exact n b ob uu h2 (Option.some.inj h1)
  have at' : ∀ (x : Str) (c : Addr), cs.lookup x = some c → ∀ o, H c = some (CellO c o) → B.get? c = some o := fun x c hc o ho => by
    obtain ⟨o', uu, h1, h2, h3⟩ := th x c hc
    rw [h1] at ho
    exact ub.keep c o (cellO_inj (Option.some.inj ho) h3) (unc_in hc) (fun z => by rw [hf c z] at h1; cases h1)
  refine ⟨a, B, trk H' H cs, cls, d, e0, fl, hok_trk nt t at' hok', ⟨fun b o e nb hb => ?_, ub.slot, fun b o e nb => ?_, ub.there, fun b xs e => ?_, fun b o v e => ?_, fun b ps e => ?_⟩, ?_, os, bare, q nt⟩
  · exact ub.keep b o e (no b nb).2 hb
  · rw [trk_out (no b nb).1]; exact ub.free b o e (no b nb).2
  · obtain ⟨h1, h2⟩ := ot b _ e fun c ob _ _ z => (cell_ne.2.2.1 xs) z.symm
    rw [trk_out h1]; exact ub.tups b xs h2
  · obtain ⟨h1, h2⟩ := ot b _ e fun c ob _ _ z => (cell_ne.2.2.2 o v) z.symm
    rw [trk_out h1]; exact ub.frzs b o v h2
  · obtain ⟨h1, h2⟩ := ot b _ e fun c ob _ _ z => (cell_ne.1 ps) z.symm
    rw [trk_out h1]; exact ub.tbls b ps h2
  · rcases in_out cs a with ⟨x, z⟩ | z
    · obtain ⟨o, uu, h1, h2, h3⟩ := th x a z
      have := at' x a z o h1
      rw [fl.2.1] at this
      cases this
    · rw [trk_out z]; exact na
end
/-! ### the relations, told again -/
section
variable {G : Top} {C : Cl} {fr : Fr} {W : WX} {X : Cx} {n : Nat} {σ : L2.St} {H H' : Hp} {φ φ' : List Gh} {m : Mem} {ρ : Env} {cs : List (Str × Addr)} {N : List Str} {id : Nat} {l : List (Nat × Env)}
theorem ext_trk (t : Told H cs) (nt : NotTold H' cs) (c : Clean φ' H') (e : Ext φ (unc H cs) φ' H') : Ext φ H φ' (trk H' H cs) := by
  have key : ∀ b o, H b = some o → (∃ x, cs.lookup x = some b) ∨ ((∀ x, cs.lookup x ≠ some b) ∧ unc H cs b = some o) := fun b o h => by
    rcases in_out cs b with z | z
    · exact .inl z
    · exact .inr ⟨z, by rw [unc_out z]; exact h⟩
  have get : ∀ b o, H b = some o → (unc H cs b = some o → H' b = some o) → trk H' H cs b = some o := fun b o h k => by
    rcases key b o h with ⟨x, z⟩ | ⟨z, z2⟩
    · rw [trk_in z]; exact h
    · rw [trk_out z]; exact k z2
  refine ⟨⟨⟨e.pre, fun b o h m t => get b o h fun z => e.im b o z m t⟩, fun i b h1 h2 => ?_, fun b h => ?_, fun b o u h => get b _ h fun z => e.frz b o u z⟩, fun b o h q t => get b o h fun z => e.keep b o z q t⟩
  · have := e.new i b h1 h2
    rcases in_out cs b with ⟨x, z⟩ | z
    · obtain ⟨o, ho, _⟩ := c i b h2
      rw [nt x b z] at ho
      cases ho
    · rw [unc_out z] at this; exact this
  · rcases in_out cs b with ⟨x, z⟩ | z
    · rw [trk_in z] at h; exact h
    · rw [trk_out z] at h
      have := e.dom b h
      rw [unc_out z] at this
      exact this
theorem SR.retrk {fr' : Fr} {m0 : Mem} (s0 : SR G φ fr H m0) (t : Told H cs) (nt : NotTold H' cs) (s : SR G φ' fr' H' m) (hl : fr'.lk = fr.lk) (e : Ext φ H φ' (Ms.trk H' H cs)) : SR G φ' fr (Ms.trk H' H cs) m := by
  have s2 := s.grow (trk_up (H0 := H) nt)
  refine ⟨s2.len, s2.inj, fun i o hi => ?_, s0.frs.ext e s0.clean, s0.apt.ext0 e.toEx0 s0.frs, s2.tabs, fun i hi => s2.lkb i (by rw [hl]; exact hi)⟩
  have := s2.ob i o hi
  rw [hl] at this
  exact this
/-- a list of things, each with its property -/
theorem pick_list {α : Type} : ∀ (n : Nat) (Pp : Nat → α → Prop), (∀ i, i < n → ∃ a, Pp i a) → ∃ l : List α, l.length = n ∧ ∀ i a, l[i]? = some a → Pp i a
  | 0, _, _ => ⟨[], rfl, fun i a h => by simp at h⟩
  | n + 1, Pp, h => by
    obtain ⟨l, hl, hp⟩ := pick_list n Pp fun i hi => h i (Nat.lt_succ_of_lt hi)
    obtain ⟨a, ha⟩ := h n (Nat.lt_succ_self n)
    refine ⟨l ++ [a], by simp [hl], fun i b hb => ?_⟩
    by_cases hi : i < l.length
    · rw [List.getElem?_append_left hi] at hb
      exact hp i b hb
    · rw [List.getElem?_append_right (by omega)] at hb
      cases hk : i - l.length with
      | zero =>
        rw [hk] at hb
        cases hb
        have : i = n := by omega
        rw [this]; exact ha
      | succ k => rw [hk] at hb; simp at hb
def setManyV (σ : L2.St) : List Nat → List V → L2.St
  | i :: is, v :: vs => setManyV (σ.set i (some v)) is vs
  | _, _ => σ
theorem setMany_R : ∀ {sl : List Nat} {ds : List D} {vs : List V} {ρ : Env} {σ : L2.St}, EnvR G φ H ρ σ → ValsR G φ H ds vs → (∀ i ∈ sl, i < ρ.length) → EnvR G φ H (setMany ρ sl ds) (setManyV σ sl vs)
  | [], ds, vs, ρ, σ, r, _, _ => by
    cases ds <;> cases vs <;> exact r
  | i :: sl, [], vs, ρ, σ, r, rv, _ => by
    simp only [ValsR] at rv
    subst rv
    exact r
  | i :: sl, d :: ds, vs, ρ, σ, r, rv, hl => by
    simp only [ValsR] at rv
    obtain ⟨v, us, rfl, h1, h2⟩ := rv
    exact setMany_R (sl := sl) (r.set h1 (hl i List.mem_cons_self)) h2 fun j hj => by rw [List.length_set]; exact hl j (List.mem_cons_of_mem _ hj)
theorem setManyV_len : ∀ {sl : List Nat} {vs : List V} {σ : L2.St}, (setManyV σ sl vs).length = σ.length
  | [], vs, σ => by cases vs <;> rfl
  | i :: sl, [], σ => rfl
  | i :: sl, v :: vs, σ => by show (setManyV (σ.set i (some v)) sl vs).length = _; rw [setManyV_len, List.length_set]
/-- what stands at a slot -/
theorem setManyV_at : ∀ {sl : List Nat} {vs : List V} {σ : L2.St} {i : Nat} {v : V}, sl.length = vs.length → (setManyV σ sl vs)[i]? = some (some v) → (∃ j : Nat, sl[j]? = some i ∧ vs[j]? = some v) ∨ σ[i]? = some (some v)
  | [], vs, σ, i, v, _, h => by cases vs <;> exact .inr h
  | k :: sl, [], σ, i, v, hl, h => by cases hl
  | k :: sl, w :: vs, σ, i, v, hl, h => by
    rcases setManyV_at (sl := sl) (vs := vs) (by simpa using hl) (show (setManyV (σ.set k (some w)) sl vs)[i]? = _ from h) with ⟨j, h1, h2⟩ | h1
    · exact .inl ⟨j + 1, by simpa using h1, by simpa using h2⟩
    · by_cases hk : k = i
      · subst hk
        by_cases hlt : k < σ.length
        · rw [List.getElem?_set_self hlt] at h1
          cases h1
          exact .inl ⟨0, rfl, rfl⟩
        · rw [List.getElem?_eq_none (by rw [List.length_set]; omega)] at h1
          cases h1
      · rw [List.getElem?_set_ne hk] at h1
        exact .inr h1
theorem pick_len {ρ : Env} {fs : List Nat} : (pick ρ fs).length = ρ.length := by simp [pick]
theorem pick_at {ρ : Env} {fs : List Nat} {i : Nat} {d : D} (h : (pick ρ fs)[i]? = some (some d)) : i ∈ fs ∧ ρ[i]? = some (some d) := by
  unfold pick at h
  rw [List.getElem?_map] at h
  cases hr : (List.range ρ.length)[i]? with
  | none => rw [hr] at h; cases h
  | some j =>
    rw [hr] at h
    have hj : j = i := by
      obtain ⟨h1, h2⟩ := List.getElem?_eq_some_iff.mp hr
      simpa using h2.symm
    subst hj
    simp only [Option.map_some, Option.some.injEq] at h
    split at h
    · rename_i hc
      refine ⟨by simpa using hc, ?_⟩
      cases e : ρ[j]? with
      | none => rw [e] at h; cases h
      | some o => rw [e] at h; exact congrArg some h
    · cases h
end
end Ms

-- So25
set_option linter.all false
set_option Elab.async false
set_option maxRecDepth 10000
/-! A closure is called: its body runs in its frame. -/
namespace Ms
open PySem L2 PySem.Spec PyProof.Rows PySem.Calls
/-- what is known of a lambda -/
structure LamF (L : LamT) (l : Lam) : Prop where
  kind : L.scope.kind = .function
  co : L.scope.isCoroutine = false
  gen : L.scope.isGenerator = false
  nocell : ∀ y ∈ L.scope.names, y.2 ≠ .cell
  ps : ∃ ps : List Str, ps.length = l.np ∧ l.sl.length = l.np ∧ ps.Nodup ∧
    (∀ (clos : List (Str × Addr)) (pm : Value) (c' : Addr) (ctv : Value) (us : List Value), us.length = l.np → bindArgs (PySem.W.kla_fn "<lambda>" L.qual L.params L.body L.scope clos pm (.ref c') ctv) ⟨us, []⟩ = pure (ps.zip us)) ∧
    (∀ x ∈ ps, L.scope.names.lookup x = some .local) ∧ (∀ x, L.scope.names.lookup x = some .local → x ∈ ps) ∧ ∀ (j i : Nat), l.sl[j]? = some i → ∃ x, ps[j]? = some x ∧ L.N[i]? = some x
  fs : ∀ i ∈ l.fs, ∃ x, L.N[i]? = some x ∧ L.scope.names.lookup x = some .free
abbrev cloEnv (s : Shared) (L : LamT) (cs : List (Str × Addr)) (f c' : Addr) : PySem.Env := PySem.W.envX L.qual L.scope s.heap.objs.size f (.ref c') (cloFrom cs L.scope.names [])
def clCx (X : Cx) (s : Shared) (H : Hp) (E : XK) (L : LamT) (cs : List (Str × Addr)) (f c' : Addr) : Cx where
  prog := X.prog
  w := X.w
  K := X.K
  mg := X.mg
  base := X.base
  A := X.A.deeper (cloEnv s L cs f c')
  N := L.N
  s_0 := s
  H_0 := H
  env := cloEnv s L cs f c'
  outer := X.stack
  stack := cloEnv s L cs f c' :: X.stack
  ex := []
  fn := fun _ => false
  calm := true
  pn := []
  xe := fun e s' => wpAny (model X.prog X.w) (X.A.deeper (cloEnv s L cs f c')) (leaving (cloEnv s L cs f c') e) (fun _ s'' => L2.CX X.prog X.w X.stack H s E e s'') (fun e' s'' => L2.CX X.prog X.w X.stack H s E e' s'') s'
section
variable {G : Top} {C : Cl} {fr : Fr} {W : WX} {X : Cx} {n : Nat} {σ : L2.St} {H H' : Hp} {φ φ' : List Gh} {m : Mem} {ρ : Env} {cs : List (Str × Addr)} {N : List Str} {id : Nat} {pins : List (Addr × Obj)} {s : Shared} {L : LamT} {f c' : Addr} {E : XK}
theorem clo_start {h₁ : Heap} {tk : Nat} {σ' : L2.St} {binds : List (Str × Value)} (e0 : Env0 X.prog X.w X.K X.mg X.base X.A X.stack s H) (hd : X.A.handled = none) (hk : L.scope.kind = .function) (hnc : ∀ y ∈ L.scope.names, y.2 ≠ .cell) (t : Told H cs) (hj : ∀ (x y : Str) (c : Addr), cs.lookup x = some c → cs.lookup y = some c → x = y)
    (hfree : ∀ y ∈ L.scope.names, y.2 = .free → ∃ c, cs.lookup y.1 = some c) (hns : h₁.Ns s.heap.objs.size fun y => binds.reverse.lookup y) (kp : ∀ b o, s.heap.get? b = some o → h₁.get? b = some o) (hlen : σ'.length = L.N.length)
    (hloc : ∀ (i : Nat) (x : Str) (v : V), L.N[i]? = some x → σ'[i]? = some (some v) → Vis L.scope x → ∃ u, RelV v u ∧ ((L.scope.names.lookup x = some .local ∧ binds.reverse.lookup x = some u) ∨ (L.scope.names.lookup x = some .free ∧ ∃ (c : Addr) (o : Obj), cs.lookup x = some c ∧ H c = some (CellO c o) ∧ o.data = .cell (some u)))) :
    Inv (clCx X s (unc H cs) E L cs f c') [] σ' (unc H cs) { s with heap := h₁, toks := tk } := by
  have th := told_heap e0.hok t
  have cm : ∀ {y c}, (cloFrom cs L.scope.names []).lookup y = some c → cs.lookup y = some c := fun {y c} e => by
    rcases cloFrom_mem (PySem.mem_of_lookup e) with hm | ⟨h1, h2⟩
    · cases hm
    · obtain ⟨c1, hc⟩ := hfree _ h1 rfl
      have hc : cs.lookup y = some c1 := hc
      have e2 : c = c1 := by rw [h2, hc] <;> rfl
      rw [e2]
      exact hc
  have look : ∀ {y}, L.scope.names.lookup y = some .free → ∃ c, (cloFrom cs L.scope.names []).lookup y = some c := fun {y} hl => by
    have hy : (y, NameKind.free) ∈ L.scope.names := PySem.mem_of_lookup hl
    exact mem_lookup (cloFrom_has (cells := cs) (acc := []) hy)
  have noA : ∀ b : Addr, b ∉ (clCx X s (unc H cs) E L cs f c').ex := fun b z => absurd (show b ∈ ([] : List Addr) from z) (by simp)
  have un0 : ∀ b, H b = none → unc H cs b = none := fun b e => by
    rcases in_out cs b with ⟨x, z⟩ | z
    · exact unc_in z
    · rw [unc_out z]; exact e
  refine ⟨⟨e0.mod, hk, rfl, rfl, Nat.le_refl _, fun y z c e1 e2 => hj y z c (cm e1) (cm e2), fun y hy => ?_, fun y c z _ => ?_, fun _ => hd, Around.frames_deeper e0.frames, .inr ⟨rfl, rfl⟩, fun b z => absurd z (noA b), fun b o e => ⟨(e0.bs b o e).1, un0 b (e0.bs b o e).2⟩, e0.bsz, fun b _ _ => noA b,
      fun b z => absurd z (noA b), e0.funs, fun b hb => un0 b (e0.frf b hb)⟩,
    rfl, e0.bare, Un.kept kp, ⟨_, hns, fun i y v e1 e2 e3 => ?_⟩, fun y c e => ?_, un0 _ (e0.hok.fresh (Nat.le_refl _)), fun y c e => unc_in (cm e), fun q hq => absurd (show q ∈ ([] : List (Addr × Obj)) ++ [] from hq) (by simp), (hok_unc t e0.hok).kept kp, hlen⟩
  · have hy : L.scope.names.lookup y = some .cell ∨ L.scope.names.lookup y = some .free := hy
    rcases hy with hy | hy
    · exact absurd rfl (hnc _ (PySem.mem_of_lookup hy))
    · exact look hy
  · have z : false = true := z
    cases z
  · obtain ⟨u, r, q⟩ := hloc i y v e1 e2 e3
    refine ⟨u, r, ?_⟩
    rcases q with ⟨q1, q2⟩ | ⟨q1, c, o, q2, q3, q4⟩
    · exact .inl ⟨q1, q2⟩
    · obtain ⟨c2, h2⟩ := look q1
      have h3 := cm h2
      rw [q2] at h3
      cases h3
      exact .inr ⟨.inr q1, c, h2, o, kp _ _ (cell_at e0.hok q3), q4⟩
  · obtain ⟨o, u, h1, h2, h3⟩ := th y c (cm e)
    exact ⟨u, o, kp _ _ h3, h2⟩
theorem look_mem {x : Str} {u : Value} : ∀ {l : List (Str × Value)}, (l.map (·.1)).Nodup → (x, u) ∈ l → l.lookup x = some u
  | [], _, h => by cases h
  | (y, v) :: l, nd, h => by
    rw [List.map_cons, List.nodup_cons] at nd
    rw [List.lookup_cons]
    rcases List.mem_cons.mp h with z | z
    · cases z
      simp
    · have hne : (x == y) = false := by
        cases e : x == y with
        | false => rfl
        | true =>
          have : x = y := beq_iff_eq.mp e
          exact absurd (List.mem_map_of_mem (f := (·.1)) z) (by rw [this]; exact nd.1)
      rw [hne]
      exact look_mem nd.2 z
theorem zip_look {ps : List Str} {us : List Value} {j : Nat} {x : Str} {u : Value} (nd : ps.Nodup) (hl : ps.length = us.length) (h1 : ps[j]? = some x) (h2 : us[j]? = some u) : (ps.zip us).reverse.lookup x = some u := by
  refine look_mem ?_ ?_
  · rw [List.map_reverse, List.map_fst_zip (by omega)]
    exact List.pairwise_reverse.mpr (nd.imp fun h => Ne.symm h)
  · rw [List.mem_reverse]
    refine List.mem_of_getElem? (i := j) ?_
    rw [List.getElem?_zip_eq_some]
    exact ⟨h1, h2⟩
theorem mem_lookN {id : Nat} {ρ : Env} : ∀ {l : List (Nat × Env)}, l.lookup id = some ρ → (id, ρ) ∈ l
  | [], h => by cases h
  | (j, r) :: l, h => by
    rw [List.lookup_cons] at h
    split at h
    · rename_i e
      cases h
      rw [beq_iff_eq.mp e]
      exact List.mem_cons_self
    · exact List.mem_cons_of_mem _ (mem_lookN h)
/-- the soundness of a lambda's body -/
def BodyOk (G : Top) (X : Cx) (L : LamT) (l : Lam) (n : Nat) : Prop := ∀ (Y : Cx) (W' : WX) (fr : Fr) (j : Nat), j < n → Y.prog = X.prog → Y.w = X.w → Y.K = X.K → Y.mg = X.mg → Y.base = X.base → Y.N = L.N → Y.env.scope = L.scope → GO G X.prog X.w X.K X.mg X.base j → XO G Y j W' → PE Y L.body (tE G (callN G.P j) fr W' l.body)
theorem GO.mono {P : Program} {w : World} {K : PySem.W.Frag} {mg : Str → Option Value} {base : Heap} {j : Nat} (go : GO G P w K mg base n) (h : j ≤ n) : GO G P w K mg base j :=
  ⟨fun i k a hi hk => go.fn i k a (Nat.le_trans hi h) hk, go.kpf, go.mks, go.cls, go.eqm, go.sub, go.fld, go.subT, go.subC, go.ins⟩
theorem clo_run {k : Nat} {l : Lam} {ds : List D} {vs : List V} {us : List Value} {Q : VK} (go : GO G X.prog X.w X.K X.mg X.base n) (xo : XO G X n W) (hl : G.lam k = some L) (hP : G.P.lams[k]? = some l) (lf : LamF L l) (hbody : BodyOk G X L l n)
    (I : Inv X pins σ H s) (r : Vals vs us) (sr : SR G φ fr H m) (rf : ValR G φ H (.clo k id) (.ref f)) (rv : ValsR G φ H ds vs) (p : Post G φ fr H (callN G.P n fr (.cl k id) ds m) (KD G Q) (KE1 G (WE W σ))) :
    wpAny (model X.prog X.w) X.A (call (.ref f) us) (EP X pins σ Q) X.xe s := by
  cases n with
  | zero => exact p.elim
  | succ n =>
    simp only [callN, hP] at p
    cases hlk : fr.fr.lookup id with
    | none => rw [hlk] at p; exact p.elim
    | some ρ =>
      rw [hlk] at p
      dsimp only at p
      split at p
      · rename_i hnp
        have hmem := mem_lookN hlk
        simp only [ValR] at rf
        obtain ⟨f', cs, N, L', pm, c', ctv, e1, hfr, hL, hN, hf, hc', hfree⟩ := rf
        cases e1
        rw [hl] at hL
        cases hL
        subst hN
        obtain ⟨cs2, N2, h1, ⟨hj, hlen, hnd⟩, hcells⟩ := sr.frs id ρ hmem
        rw [hfr] at h1
        cases h1
        have t := told_of hcells
        obtain ⟨ps, hp1, hp2, hpn, hbind, hploc, hlocp, hsl⟩ := lf.ps
        have hvl := rv.length
        have hul : us.length = l.np := by rw [← r.length, hvl, hnp]
        obtain ⟨σ0, hσl, hσ⟩ := pick_list (α := Option V) L.N.length (fun i o => (∀ v, o = some v → i ∈ l.fs ∧ ∃ x c ob w, L.N[i]? = some x ∧ cs.lookup x = some c ∧ H c = some (CellO c ob) ∧ ob.data = .cell (some w) ∧ RelV v w) ∧ (∀ d, (pick ρ l.fs)[i]? = some (some d) → ∃ v, o = some v ∧ ValR G φ H d v)) fun i _ => by
          by_cases hd : ∃ d, (pick ρ l.fs)[i]? = some (some d)
          · obtain ⟨d, hd⟩ := hd
            obtain ⟨hi, hd2⟩ := pick_at hd
            obtain ⟨x, hx, hfx⟩ := lf.fs i hi
            obtain ⟨c, hc⟩ := hfree (x, .free) (PySem.mem_of_lookup hfx) rfl
            obtain ⟨ob, u, a1, a2, a3⟩ := hcells x c hc
            obtain ⟨v, w', b1, b2, b3⟩ := a3 i d hx hd2
            refine ⟨some v, fun v' hv' => ?_, fun d' hd' => ⟨v, rfl, ?_⟩⟩
            · cases hv'
              exact ⟨hi, x, c, ob, w', hx, hc, a1, by rw [a2, b1], b2⟩
            · rw [hd] at hd'
              cases hd'
              exact b3
          · exact ⟨none, fun v hv => absurd hv (by simp), fun d h => absurd ⟨d, h⟩ hd⟩
        have en0 : EnvR G φ H (pick ρ l.fs) σ0 := ⟨by rw [hσl, pick_len, hlen], fun i d hd => by
          have hlt : i < σ0.length := by
            rw [hσl, ← hlen, ← pick_len (fs := l.fs)]
            exact (List.getElem?_eq_some_iff.mp hd).1
          obtain ⟨v, hv, rv⟩ := (hσ i σ0[i] (by simp [hlt])).2 d hd
          exact ⟨v, by simp [hlt, hv], rv⟩⟩
        have en1 : EnvR G φ H (setMany (pick ρ l.fs) l.sl ds) (setManyV σ0 l.sl vs) := setMany_R en0 rv fun i hi => by
          obtain ⟨j, hj2⟩ := List.mem_iff_getElem?.mp hi
          obtain ⟨x, _, hx⟩ := hsl j i hj2
          rw [pick_len, hlen]
          exact (List.getElem?_eq_some_iff.mp hx).1
        have e0 := I.env0
        have sfl : ∀ b ∈ frs X.stack, H b = none := I.stkFree
        have of1 : s.heap.get? f = some (PySem.W.kla_obj "<lambda>" L.qual L.params L.body L.scope (cloFrom cs L.scope.names []) pm c' ctv) := by
          have z : ObjOk X.prog X.w H s.heap f (.ext fun h => h.get? f = some (PySem.W.kla_obj "<lambda>" L.qual L.params L.body L.scope (cloFrom cs L.scope.names []) pm c' ctv)) := I.hok f _ hf
          exact z.1
        have oc1 : ∃ (oc : Obj) (vs : Array Value) (t : Tok), s.heap.get? c' = some oc ∧ oc.data = .fields vs ∧ vs[1]? = some (.str L.qual t) := by
          have z : ObjOk X.prog X.w H s.heap c' (.ext fun h => ∃ (oc : Obj) (vs : Array Value) (t : Tok), h.get? c' = some oc ∧ oc.data = .fields vs ∧ vs[1]? = some (.str L.qual t)) := I.hok c' _ hc'
          exact z.1
        obtain ⟨oc, cvs, ct, hoc, hdc, hvc⟩ := oc1
        have sr0 : SR G φ { fr with fr := fr.fr.filter fun p => p.1 != id } (unc H cs) m := sr.untrk hfr ⟨ρ, hmem⟩ t fun q hq => by
          rw [List.mem_filter] at hq
          exact ⟨hq.1, by simpa using hq.2⟩
        have rc : codeAny (model X.prog X.w) X.A (.call (.ref f) ⟨us, []⟩) (CR (L2.CX X.prog X.w) X.stack X.prog X.w (unc H cs) s (fun v H' => NotTold H' cs → Q v (trk H' H cs)) (fun cls d H' => NotTold H' cs → WE W σ cls d (trk H' H cs))) s := by
          refine PySem.W.kla_callFunE xo.room.depth of1 rfl lf.co lf.gen rfl ⟨c', oc, cvs, ct, rfl, hoc, hdc, hvc⟩ ?_
          rw [hbind _ _ _ _ us hul]
          refine wpAny_pure (wpAny_newFunctionEnv lf.nocell (fun y hy => hploc _ (List.of_mem_zip hy).1) (fun h₁ hns hsb => ⟨I.nolimit.fresh _ hsb, ?_⟩) lf.kind)
          show codeAny _ _ (.expr L.body (cloEnv s L cs f c')) _ _
          have kp : ∀ b o, s.heap.get? b = some o → h₁.get? b = some o := fun b o e => hsb.extBut b o (Nat.ne_of_lt (Heap.lt_size e)) (Heap.get?_push_of_some _ e)
          have J : Inv (clCx X s (unc H cs) (fun cls d H' => NotTold H' cs → WE W σ cls d (trk H' H cs)) L cs f c') [] (setManyV σ0 l.sl vs) (unc H cs) { s with heap := h₁, toks := s.toks + (ps.zip us).length } :=
            clo_start e0 xo.room.hd lf.kind lf.nocell t hj hfree hns kp (by rw [setManyV_len, hσl]) fun i x v hN hv _ => by
              rcases setManyV_at (by rw [hp2, hvl, hnp]) hv with ⟨j, q1, q2⟩ | q
              · obtain ⟨x', a1, a2⟩ := hsl j i q1
                rw [hN] at a2
                cases a2
                obtain ⟨u, b1, b2⟩ := r.get q2
                exact ⟨u, b2, .inl ⟨hploc x (List.mem_of_getElem? a1), zip_look hpn (by rw [hp1, hul]) a1 b1⟩⟩
              · obtain ⟨hi, x', c, ob, w', a1, a2, a3, a4, a5⟩ := (hσ i (some v) q).1 v rfl
                rw [hN] at a1
                cases a1
                obtain ⟨x'', b1, b2⟩ := lf.fs i hi
                rw [hN] at b1
                cases b1
                exact ⟨w', a5, .inr ⟨b2, c, ob, a2, a3, a4⟩⟩
          have tk := takes_of (X := clCx X s (unc H cs) (fun cls d H' => NotTold H' cs → WE W σ cls d (trk H' H cs)) L cs f c') rfl rfl rfl rfl
          have pe := hbody (clCx X s (unc H cs) (fun cls d H' => NotTold H' cs → WE W σ cls d (trk H' H cs)) L cs f c') _ { fr with fr := fr.fr.filter fun p => p.1 != id } n (Nat.lt_succ_self n) rfl rfl rfl rfl rfl rfl rfl (go.mono (Nat.le_succ _)) ⟨rfl, hnd, xo.room.deeper _, tk⟩
          refine PySem.W.kla_codeExpr (wpAny_mono (pe.run [] _ _ (unc H cs) (fun v H' => NotTold H' cs → Q v (trk H' H cs)) J ?_) (fun v s' hq => ?_) fun e s' hq => hq)
          · refine ⟨φ, m, _, sr0, en1.extW (exW_unc t), ?_⟩
            generalize ev G.P (callN G.P n) { fr with fr := fr.fr.filter fun p => p.1 != id } l.body (setMany (pick ρ l.fs) l.sl ds) m = rr at p
            cases rr with
            | ok d m' =>
              intro φ' H' e s2 v rv' nt
              have e2 := ext_trk t nt s2.clean e
              exact p φ' _ e2 (sr.retrk t nt s2 rfl e2) v (rv'.ext (ext_same (trk_up nt)) s2.clean)
            | exc c lv m' =>
              intro φ' H' e s2 cls dd hx nt
              have e2 := ext_trk t nt s2.clean e
              exact p φ' _ e2 (sr.retrk t nt s2 rfl e2) cls dd (hx.ext (ext_same (trk_up nt)) s2.clean)
            | bad => exact p.elim
          · obtain ⟨w', H', J', rw', q⟩ := hq
            exact ⟨w', H', J'.os, J'.bare, J'.base, J'.hok, rw', q⟩
        refine wpAny_call (codeAny_mono rc fun z s' hz => ?_)
        cases z with
        | error e => exact passAt xo.tk σ pins _ _ e s' I (cx_trk I.hok t sfl hz)
        | ok fl =>
          cases fl with
          | ret u => exact I.after (ce_trk I.hok t sfl hz)
          | next => exact False.elim hz
          | brk => exact False.elim hz
          | cont => exact False.elim hz
      · exact p.elim
end
end Ms

-- So26
set_option linter.all false
set_option Elab.async false
set_option maxRecDepth 10000
/-! What stands under a name is called. -/
namespace Ms
open PySem L2 PySem.Spec PyProof.Rows PySem.Calls
section
variable {G : Top} {fr : Fr} {W : WX} {X : Cx} {n : Nat} {σ : L2.St} {H H' : Hp} {φ φ' : List Gh} {m : Mem} {ρ : Env}
/-- the lambdas of the text -/
def LamsOk (G : Top) (X : Cx) (n : Nat) : Prop := ∀ (k : Nat) (L : LamT), G.lam k = some L → ∃ l, G.P.lams[k]? = some l ∧ LamF L l ∧ BodyOk G X L l n
theorem clo_fn {k id : Nat} {f : Addr} {pins : List (Addr × Obj)} {s : Shared} (I : Inv X pins σ H s) (r : ValR G φ H (.clo k id) (.ref f)) : PySem.W.FnAt f s.heap := by
  simp only [ValR] at r
  obtain ⟨f', cs, N, L, pm, c', ctv, e1, _, _, _, hf, _⟩ := r
  cases e1
  have z : ObjOk X.prog X.w H s.heap f (.ext fun h => h.get? f = some (PySem.W.kla_obj "<lambda>" L.qual L.params L.body L.scope (cloFrom cs L.scope.names []) pm c' ctv)) := I.hok f _ hf
  exact ⟨_, _, _, _, z.1⟩
theorem s_cv {i : Nat} {x : Str} {p pos : Pos} {es : List Expr} {l : List Ms.E} (go : GO G X.prog X.w X.K X.mg X.base n) (xo : XO G X n W) (lk : LamsOk G X n) (hN : X.N[i]? = some x) (hv : Vis X.env.scope x) (hd : (x == ("__debug__" : Str)) = false) (hcd : (x == ("__classdict__" : Str)) = false)
    (hst : ∀ e ∈ es, NoStar e) (ha : PA X es (tA G (callN G.P n) fr W l)) : PE X (.Call (.Name x p) es [] pos) (tE G (callN G.P n) fr W (.cv (.var i) l)) := by
  refine ⟨fun pins s σ H Q I ⟨φ, m, ρ, sr, re, p0⟩ => ?_⟩
  simp only [ev] at p0
  obtain ⟨d, hd0, p1⟩ := Post.opt (Post.bind p0)
  have p1 := p1.here sr
  cases hf : isF d with
  | false => rw [hf] at p1; exact p1.elim
  | true =>
  rw [hf] at p1
  have p1 : Post G φ fr H ((evs G.P (callN G.P n) fr l ρ m).bind fun ds m => callV (callN G.P n) fr d ds m) (KD G Q) (EX G W σ) := p1
  have h2 : ρ[i]? = some (some d) := by
    cases e : ρ[i]? with
    | none => rw [e] at hd0; cases hd0
    | some o => rw [e] at hd0; exact congrArg some hd0
  obtain ⟨v, h3, h4⟩ := re.at_ i d h2
  have ht : tA G (callN G.P n) fr W l σ H (fun vs H1 => ∃ φ1 m1 ds, Ext φ H φ1 H1 ∧ SR G φ1 fr H1 m1 ∧ ValsR G φ1 H1 ds vs ∧ Post G φ1 fr H1 (callV (callN G.P n) fr d ds m1) (KD G Q) (EX G W σ)) :=
    ⟨φ, m, ρ, sr, re, p1.bind.mono (fun φ1 H1 ds m1 e1 s1 q vs rs => ⟨φ1, m1, ds, e1, s1, rs, q⟩) fun _ _ _ _ _ _ _ q => q⟩
  refine wpAny_Call_Name_kw (thn ((pe_var (pos := p) (i := i) hN hv hd hcd).run pins s σ H (fun v' H1 => v' = v ∧ H1 = H) I ⟨v, h3, rfl, rfl⟩) fun u s1 ⟨v', H1, I1, r1, q1⟩ => ?_)
  obtain ⟨rfl, rfl⟩ := q1
  have run := ha.run pos pins s1 σ H1 _ I1 ht
  have nostarC : ∀ {e : Expr} {es : List Expr}, (∀ y ∈ e :: es, NoStar y) → starEach (e :: es) X.env = (false, eval e X.env) :: starEach es X.env ∧ (backTo pos (starEach es X.env)).any (·.1) = false := fun {e es} h => ⟨starEach_cons (h e List.mem_cons_self), star_plain fun y hy => h y (List.mem_cons_of_mem _ hy)⟩
  cases d with
  | fn k =>
    simp only [ValR] at h4
    obtain ⟨a, rfl, hk⟩ := h4
    obtain rfl : u = Value.ref a := r1
    have fin : ∀ (s2 : Shared) (us : List Value) (vs : List V) (H2 : Hp), Inv X pins σ H2 s2 → Vals vs us → (∃ φ1 m1 ds, Ext φ H1 φ1 H2 ∧ SR G φ1 fr H2 m1 ∧ ValsR G φ1 H2 ds vs ∧ Post G φ1 fr H2 (callV (callN G.P n) fr (.fn k) ds m1) (KD G Q) (EX G W σ)) → wpAny (model X.prog X.w) X.A (call (.ref a) us) (EP X pins σ Q) X.xe s2 := fun s2 us vs H2 I2 rv ⟨φ1, m1, ds, _, s1, rs, q⟩ =>
      car_df go xo hk pins s2 H2 vs us Q I2 rv ⟨φ1, fr, m1, ds, s1, rs, q⟩
    cases es with
    | nil =>
      have e : spliced (backTo pos (starEach [] X.env)) = (pure [] : Sem (List Value)) := rfl
      rw [e] at run
      intro Γ p0 hΓ
      obtain ⟨vs, H2, I2, rv, q⟩ := (show ∃ vs H2, Inv X pins σ H2 s1 ∧ Vals vs [] ∧ _ from run Γ p0 hΓ)
      exact PySem.W.callWith_K0 (first := []) I2.kIn (go.kpf k a hk) (fin s1 [] vs H2 I2 rv q) Γ p0 hΓ
    | cons e es =>
      exact PySem.W.callWith_K (h₀ := X.base) I.ok.mod.kin (go.kpf k a hk) (thn run fun us s2 ⟨vs, H2, I2, rv, q⟩ => ⟨I2.kIn, fin s2 us vs H2 I2 rv q⟩) (nostarC hst).1 (nostarC hst).2
  | clo k id =>
    have h4' := h4
    simp only [ValR] at h4
    obtain ⟨f, cs, N, L, pm, c', ctv, rfl, _, hL, _⟩ := h4
    obtain rfl : u = Value.ref f := r1
    obtain ⟨ll, hP, lf, bo⟩ := lk k L hL
    have fin : ∀ (s2 : Shared) (us : List Value) (vs : List V) (H2 : Hp), Inv X pins σ H2 s2 → Vals vs us → (∃ φ1 m1 ds, Ext φ H1 φ1 H2 ∧ SR G φ1 fr H2 m1 ∧ ValsR G φ1 H2 ds vs ∧ Post G φ1 fr H2 (callV (callN G.P n) fr (.clo k id) ds m1) (KD G Q) (EX G W σ)) → PySem.W.FnAt f s2.heap ∧ wpAny (model X.prog X.w) X.A (call (.ref f) us) (EP X pins σ Q) X.xe s2 := fun s2 us vs H2 I2 rv ⟨φ1, m1, ds, e1, s1, rs, q⟩ =>
      have hf2 := h4'.ext e1 sr.clean
      ⟨clo_fn I2 hf2, clo_run go xo hL hP lf bo I2 rv s1 hf2 rs q⟩
    cases es with
    | nil =>
      have e : spliced (backTo pos (starEach [] X.env)) = (pure [] : Sem (List Value)) := rfl
      rw [e] at run
      intro Γ p0 hΓ
      obtain ⟨vs, H2, I2, rv, q⟩ := (show ∃ vs H2, Inv X pins σ H2 s1 ∧ Vals vs [] ∧ _ from run Γ p0 hΓ)
      obtain ⟨f1, f2⟩ := fin s1 [] vs H2 I2 rv q
      exact PySem.W.callWith_F0 (first := []) f1 f2 Γ p0 hΓ
    | cons e es =>
      exact PySem.W.callWith_F (clo_fn I1 h4') (thn run fun us s2 ⟨vs, H2, I2, rv, q⟩ => fin s2 us vs H2 I2 rv q) (nostarC hst).1 (nostarC hst).2
  | _ => cases hf
end
end Ms

-- Tr
set_option linter.all false
set_option Elab.async false
set_option maxRecDepth 10000
/-! From the program's text to the machine's terms. -/
namespace Ms
open PySem L2 PySem.Spec PyProof.Rows
inductive Gv where
  | df (k np : Nat) (dl : List D)
  | ct (c np : Nat) (dl : List D)
  | ex (c : Nat) (b s : Bool)
  | cst (d : D)
structure Tr where
  N : List Str
  gt : List (Str × Gv)
  lam : List ((Nat × Nat) × Nat)
  dc : Bool
/-- a lambda that was met: its number, its text -/
abbrev LI := Nat × Arguments × Expr × Scope
abbrev M (α : Type) := Option (α × List LI)
def M.ok {α : Type} (a : α) : M α := some (a, [])
def M.andThen {α β : Type} (x : M α) (f : α → M β) : M β := match x with
  | some (a, l) => match f a with
    | some (b, l') => some (b, l ++ l')
    | none => none
  | none => none
def M.one (x : LI) : M Unit := some ((), [x])
def M.chk {α : Type} (b : Bool) (x : M α) : M α := if b then x else none
def idxOf (x : Str) : List Str → Option Nat
  | [] => none
  | y :: l => if x = y then some 0 else (idxOf x l).map (· + 1)
def binOf : Operator → Option Bin
  | .Add => some .add | .Sub => some .sub | .Mult => some .mul | .Mod => some .mod | .FloorDiv => some .fdiv | .Pow => some .pow | .BitAnd => some .band | .BitOr => some .bor | .BitXor => some .bxor | .LShift => some .shl | .RShift => some .shr
  | _ => none
def cmpOf : CmpOp → Cmp
  | .Eq => .eq | .NotEq => .ne | .Lt => .lt | .LtE => .le | .Gt => .gt | .GtE => .ge | .Is => .is | .IsNot => .isNot | .In => .isIn | .NotIn => .notIn
def cstOf : Const → Option D
  | .none => some .non | .bool b => some (.bl b) | .int i => some (.int i) | .str s => some (.str s)
  | _ => none
def plainName (x : Str) : Bool := !(x == ("__debug__" : Str)) && !(x == ("__classdict__" : Str)) && !(x == ("__name__" : Str))
/-- the built-in functions -/
def bltTab : List (Str × Bl) := [("len", .len), ("abs", .abs), ("int", .int), ("tuple", .tuple), ("list", .list), ("max", .max), ("min", .min), ("sum", .sum), ("all", .all), ("any", .any), ("divmod", .divmod), ("sorted", .sorted), ("range", .range)]
def itTab : List (Str × ItK) := [("range", .rng), ("enumerate", .enum), ("zip", .zip), ("reversed", .rev)]
def mtTab : List (Str × Mt) := [("append", .append), ("extend", .extend), ("index", .index)]
def tyTab : List (Str × String) := [("int", "int"), ("bool", "bool"), ("str", "str"), ("list", "list"), ("tuple", "tuple"), ("dict", "dict")]
/-- a test whose parts the model takes apart as we do -/
def tst : Nat → Expr → Bool
  | 0, _ => false
  | n + 1, .UnaryOp .Not x _ => tst n x
  | n + 1, .BoolOp _ vs _ => vs.all (tst n)
  | _ + 1, .IfExp _ _ _ _ => false
  | _ + 1, _ => true
def noCallB : Expr → Bool
  | .Call .. => false
  | _ => true
def noSlB : Expr → Bool
  | .Slice .. => false
  | _ => true
def isLamE : Expr → Bool
  | .Lambda .. => true
  | .List [.Lambda ..] _ => true
  | _ => false
def tgNames : Expr → List Str
  | .Name x _ => [x]
  | .Tuple [.Name x _, .Name y _] _ _ => [x, y]
  | .Tuple [.Name x _, .Name y _, .Name z _] _ _ => [x, y, z]
  | _ => []
def trTg (T : Tr) (sc : Scope) : Nat → Expr → Option Tg
  | 0, _ => none
  | _ + 1, .Name x _ => match sc.names.lookup x, idxOf x T.N with
    | some .local, some i => some (.v i)
    | some .cell, some i => some (.v i)
    | _, _ => none
  | n + 1, .Tuple es _ _ => if es.all noStarB then (es.mapM (trTg T sc n)).map .t else none
  | _ + 1, _ => none
def ownOf (T : Tr) (tg : Expr) : Option (List (Str × Nat)) := (tgNames tg).mapM fun x => (idxOf x T.N).map fun i => (x, i)
def isGl (sc : Scope) (x : Str) : Bool := decide (sc.names.lookup x = some .globalImplicit) && plainName x
def isVar (sc : Scope) (x : Str) : Bool := plainName x && (match sc.names.lookup x with | some .local => true | some .cell => true | some .free => true | _ => false)
def missing (np : Nat) (dl : List D) (n : Nat) : Option (List Ms.E) := if n ≤ np ∧ np - n ≤ dl.length then some ((dl.drop (dl.length - (np - n))).map .cst) else none
def tyOfE (T : Tr) (sc : Scope) : Expr → Option (List Ty)
  | .Name x _ => if isGl sc x then match T.gt.lookup x with
      | some (.ct c _ _) => some [.cls c]
      | some _ => none
      | none => (tyTab.lookup x).map fun t => [.ty t]
    else none
  | .Tuple es _ _ => if es.length > 1000 then none else (es.mapM fun e => match e with
      | .Name x _ => if isGl sc x then match T.gt.lookup x with
          | some (.ct c _ _) => some (Ty.cls c)
          | some _ => none
          | none => (tyTab.lookup x).map .ty
        else none
      | _ => none)
  | _ => none
mutual
def trE (T : Tr) : Nat → Scope → Expr → M Ms.E
  | 0, _, _ => none
  | n + 1, sc, e => match e with
    | .Name x _ => if isVar sc x then (match idxOf x T.N with | some i => M.ok (.var i) | none => none) else if isGl sc x then (match T.gt.lookup x with
        | some (.df k _ _) => M.ok (.cst (.fn k))
        | some (.cst d) => M.ok (.cst d)
        | _ => none) else none
    | .Constant c _ _ => match cstOf c with
      | some d => M.ok (.cst d)
      | none => none
    | .BinOp l op r _ => match binOf op with
      | some o => (trE T n sc l).andThen fun a => (trE T n sc r).andThen fun b => M.ok (.bin o a b)
      | none => none
    | .UnaryOp .Not x _ => (trE T n sc x).andThen fun a => M.ok (.not a)
    | .UnaryOp .USub x _ => (trE T n sc x).andThen fun a => M.ok (.neg a)
    | .UnaryOp .Invert x _ => (trE T n sc x).andThen fun a => M.ok (.inv a)
    | .BoolOp op vs _ => trB T n sc op vs
    | .Compare l [o] [r] _ => M.chk (!behindInMarks o r) ((trE T n sc l).andThen fun a => (trE T n sc r).andThen fun b => M.ok (.cmp (cmpOf o) a b))
    | .Compare l [o, o'] [r, r'] _ => M.chk (!lastMarks [o, o'] [r, r']) ((trE T n sc l).andThen fun a => (trE T n sc r).andThen fun b => (trE T n sc r').andThen fun c => M.ok (.chn (cmpOf o) (cmpOf o') a b c))
    | .IfExp c a b _ => M.chk (tst 20 c) ((trE T n sc c).andThen fun c => (trE T n sc a).andThen fun a => (trE T n sc b).andThen fun b => M.ok (.ite c a b))
    | .Attribute v f _ => M.chk (noCallB v) ((trE T n sc v).andThen fun a => M.ok (.att a f))
    | .Subscript v (.Slice none none (some (.UnaryOp .USub (.Constant (.int 1) _ _) _)) _) _ => (trE T n sc v).andThen fun a => M.ok (.rev a)
    | .Subscript v (.Slice lo hi none _) _ => (trE T n sc v).andThen fun a => (trO T n sc lo).andThen fun l => (trO T n sc hi).andThen fun h => M.ok (.slc a l h)
    | .Subscript v i _ => M.chk (noSlB i) ((trE T n sc v).andThen fun a => (trE T n sc i).andThen fun b => M.ok (.idx a b))
    | .Tuple es _ _ => (trA T n sc es).andThen fun l => M.ok (.tup l)
    | .List es _ => (trA T n sc es).andThen fun l => M.ok (.lst l)
    | .Dict [] [] _ => M.ok (.dnew 0)
    | .ListComp elt [⟨tg, iter, ifs, 0⟩] scope _ => match ownOf T tg, trTg { T with dc := false } scope 5 tg with
      | some own, some g => M.chk (blkC T.N sc scope own && (tgV g).all fun j => (own.map (·.2)).contains j) ((trI T n sc tg iter).andThen fun kl => (trC T n scope ifs).andThen fun c => (trE { T with dc := false } n scope elt).andThen fun x => M.ok (.lc x g kl.1 kl.2 c (own.map (·.2))))
      | _, _ => none
    | .DictComp kx vx [⟨tg, iter, ifs, 0⟩] scope _ => match ownOf T tg, trTg { T with dc := false } scope 5 tg with
      | some own, some g => M.chk (blkC T.N sc scope own && (tgV g).all fun j => (own.map (·.2)).contains j) ((trI T n sc tg iter).andThen fun kl => (trC T n scope ifs).andThen fun c => (trE { T with dc := false } n scope kx).andThen fun x => (trE { T with dc := false } n scope vx).andThen fun y => M.ok (.dc 0 x y g kl.1 kl.2 c (own.map (·.2))))
      | _, _ => none
    | .Call (.Name x _) args [] _ => if isVar sc x then (match idxOf x T.N with | some i => (trA T n sc args).andThen fun l => M.ok (.cv (.var i) l) | none => none) else M.chk (isGl sc x) (match T.gt.lookup x with
        | some (.df k np dl) => if args.any isLamE then M.chk (T.dc && decide (args.length = np)) ((trL T n sc args).andThen fun l => M.ok (.calL k l)) else match missing np dl args.length with
          | some ms => (trA T n sc args).andThen fun l => M.ok (.call k (l ++ ms))
          | none => none
        | some (.ct c np dl) => match missing np dl args.length with
          | some ms => (trA T n sc args).andThen fun l => M.ok (.mk c (l ++ ms))
          | none => none
        | some _ => none
        | none => match args with
          | [a, t] => if x = ("isinstance" : Str) then (match tyOfE T sc t with | some ts => (trE T n sc a).andThen fun a => M.ok (.isi a ts) | none => none) else (match bltTab.lookup x with | some f => (trA T n sc args).andThen fun l => M.ok (.blt f l) | none => none)
          | _ => match bltTab.lookup x with | some f => M.chk (!args.isEmpty) ((trA T n sc args).andThen fun l => M.ok (.blt f l)) | none => none)
    | .Call (.Attribute o m apos) (e :: es) [] cpos => match mtTab.lookup m with
      | some f => M.chk (noCallB o && apos.endLine == cpos.line && decide (es.length ≤ 20)) ((trE T n sc o).andThen fun o => (trA T n sc (e :: es)).andThen fun l => M.ok (.mth f o l))
      | none => none
    | .Call (.Attribute o m apos) [] [] cpos => M.chk (decide (m = "bit_length") && noCallB o && apos.endLine == cpos.line) ((trE T n sc o).andThen fun o => M.ok (.omt m o []))
    | _ => none
def trB (T : Tr) : Nat → Scope → BoolOp → List Expr → M Ms.E
  | 0, _, _, _ => none
  | n + 1, sc, op, [a] => trE T n sc a
  | n + 1, sc, .And, a :: b :: r => (trE T n sc a).andThen fun x => (trB T n sc .And (b :: r)).andThen fun y => M.ok (.and x y)
  | n + 1, sc, .Or, a :: b :: r => (trE T n sc a).andThen fun x => (trB T n sc .Or (b :: r)).andThen fun y => M.ok (.or x y)
  | _ + 1, _, _, [] => none
def trA (T : Tr) : Nat → Scope → List Expr → M (List Ms.E)
  | 0, _, _ => none
  | _ + 1, _, [] => M.ok []
  | n + 1, sc, e :: es => M.chk (noStarB e) ((trE T n sc e).andThen fun x => (trA T n sc es).andThen fun l => M.ok (x :: l))
def trO (T : Tr) : Nat → Scope → Option Expr → M (Option Ms.E)
  | 0, _, _ => none
  | _ + 1, _, none => M.ok none
  | n + 1, sc, some e => (trE T n sc e).andThen fun x => M.ok (some x)
/-- a comprehension's tests: none or one -/
def trC (T : Tr) : Nat → Scope → List Expr → M (List Ms.E)
  | 0, _, _ => none
  | _ + 1, _, [] => M.ok []
  | n + 1, sc, [e] => M.chk (tst 20 e) ((trE { T with dc := false } n sc e).andThen fun x => M.ok [x])
  | _ + 1, _, _ => none
/-- what is walked -/
def trI (T : Tr) : Nat → Scope → Expr → Expr → M (ItK × List Ms.E)
  | 0, _, _, _ => none
  | n + 1, sc, tg, .Call (.Name x p) args [] pos => match (if isGl sc x && (T.gt.lookup x).isNone then itTab.lookup x else none) with
    | some k => (trA T n sc args).andThen fun l => M.chk (match k, args, tg with
        | .rng, [_], _ => true | .rng, [_, _], _ => true | .enum, [_], .Tuple .. => true | .zip, [_, _], .Tuple .. => true | .rev, [_], _ => true | _, _, _ => false) (M.ok (k, l))
    | none => (trE T n sc (.Call (.Name x p) args [] pos)).andThen fun x => M.ok (.one, [x])
  | n + 1, sc, _, e => (trE T n sc e).andThen fun x => M.ok (.one, [x])
/-- arguments with lambdas among them -/
def trL (T : Tr) : Nat → Scope → List Expr → M (List Ms.E)
  | 0, _, _ => none
  | _ + 1, _, [] => M.ok []
  | n + 1, sc, e :: es => M.chk (noStarB e) (match e with
    | .Lambda params body scope pos => match T.lam.lookup (pos.line, pos.col) with
      | some k => (M.one (k, params, body, scope)).andThen fun _ => (trL T n sc es).andThen fun l => M.ok (.lam k :: l)
      | none => none
    | .List [.Lambda params body scope pos] _ => match T.lam.lookup (pos.line, pos.col) with
      | some k => (M.one (k, params, body, scope)).andThen fun _ => (trL T n sc es).andThen fun l => M.ok (.lst [.lam k] :: l)
      | none => none
    | e => (trE T n sc e).andThen fun x => M.chk (!isLam x) ((trL T n sc es).andThen fun l => M.ok (x :: l)))
end
end Ms

-- So27
set_option linter.all false
set_option Elab.async false
set_option maxRecDepth 10000
/-! The translator's expressions hold in the model: tools. -/
namespace Ms
open PySem L2 PySem.Spec PyProof.Rows
theorem M.andThen_some {α β : Type} {x : M α} {f : α → M β} {r : β} {ls : List LI} (h : M.andThen x f = some (r, ls)) : ∃ a l1 l2, x = some (a, l1) ∧ f a = some (r, l2) ∧ ls = l1 ++ l2 := by
  unfold M.andThen at h
  cases x with
  | none => cases h
  | some p =>
    obtain ⟨a, l1⟩ := p
    simp only at h
    cases e : f a with
    | none => rw [e] at h; cases h
    | some q =>
      obtain ⟨b, l2⟩ := q
      rw [e] at h
      cases h
      exact ⟨a, l1, l2, rfl, e, rfl⟩
theorem M.chk_some {α : Type} {b : Bool} {x : M α} {r : α × List LI} (h : M.chk b x = some r) : b = true ∧ x = some r := by
  unfold M.chk at h
  split at h
  · exact ⟨by assumption, h⟩
  · cases h
theorem M.ok_some {α : Type} {a : α} {r : α} {ls : List LI} (h : M.ok a = some (r, ls)) : r = a ∧ ls = [] := by
  cases h
  exact ⟨rfl, rfl⟩
theorem idxOf_some {x : Str} : ∀ {l : List Str} {i : Nat}, idxOf x l = some i → l[i]? = some x
  | [], _, h => by cases h
  | y :: l, i, h => by
    unfold idxOf at h
    split at h
    · cases h
      rename_i e
      rw [e]
      rfl
    · obtain ⟨j, hj, rfl⟩ := Option.map_eq_some_iff.mp h
      have := idxOf_some hj
      simpa using this
theorem binOf_some {o : Operator} {b : Bin} (h : binOf o = some b) : opB b = o := by
  cases o <;> cases h <;> rfl
theorem cmpOf_op (o : CmpOp) : opC (cmpOf o) = o := by cases o <;> rfl
theorem noStar_by {e : Expr} (h : noStarB e = true) : NoStar e := by
  intro x p z
  subst z
  cases h
theorem vis_by {sc : Scope} {x : Str} (h : isVar sc x = true) : Vis sc x ∧ (x == ("__debug__" : Str)) = false ∧ (x == ("__classdict__" : Str)) = false := by
  unfold isVar plainName at h
  simp only [Bool.and_eq_true, Bool.not_eq_true'] at h
  refine ⟨?_, h.1.1.1, h.1.1.2⟩
  have h2 := h.2
  unfold Vis
  split at h2
  · exact .inl (by assumption)
  · exact .inr (.inl (by assumption))
  · exact .inr (.inr (by assumption))
  · cases h2
theorem gl_by {X : Cx} {sc : Scope} {x : Str} (hs : X.env.scope = sc) (h : isGl sc x = true) : L2.Gl X x ∧ (x == ("__debug__" : Str)) = false ∧ x ≠ "__name__" := by
  unfold isGl plainName at h
  simp only [Bool.and_eq_true, Bool.not_eq_true'] at h
  refine ⟨?_, h.2.1.1, fun z => ?_⟩
  · unfold L2.Gl PySem.Env.kindOf
    rw [hs]
    exact of_decide_eq_true h.1
  · rw [z] at h
    exact absurd h.2.2 (by decide)
/-- a name of the top -/
def GvR (G : Top) (K : PySem.W.Frag) (mg : Str → Option Value) (x : Str) : Gv → Prop
  | .df k _ dl => ∃ a, G.df k = some a ∧ mg x = some (.ref a) ∧ ∀ j, j ≤ dl.length → ∃ i, ∀ φ H, ValsR G φ H (dl.drop j) (((G.dv k).drop i).map (·.1))
  | .ct c _ dl => ∃ a, G.cl c = some a ∧ mg x = some (.ref a) ∧ (G.P.clss[c]?).isSome = true ∧ dl = []
  | .ex c b s => ∃ a, G.ex c = some a ∧ mg x = some (.ref a) ∧ (b = true → ∃ ec fl, G.P.excs[c]? = some ec ∧ ec.fld = some fl ∧ (s = false → ec.text = 0))
  | .cst d => ∃ v u, mg x = some u ∧ RelV v u ∧ ∀ φ H, ValR G φ H d v
structure TopOk (G : Top) (T : Tr) (X : Cx) : Prop where
  N : X.N = T.N
  gv : ∀ x g, T.gt.lookup x = some g → GvR G X.K X.mg x g
  nob : ∀ x, T.gt.lookup x = none → x ∈ bltTab.map (·.1) ++ itTab.map (·.1) ++ tyTab.map (·.1) ++ [("isinstance" : Str)] → X.mg x = none
end Ms

-- So28
set_option linter.all false
set_option Elab.async false
set_option maxRecDepth 10000
/-! Where the translator's scope stands for the model's. -/
namespace Ms
open PySem L2 PySem.Spec PyProof.Rows
/-- the model's scope sc' answers as our sc, but for a comprehension's free names -/
structure ScR (sc sc' : Scope) : Prop where
  loc : ∀ x, sc.names.lookup x = some .local → sc'.names.lookup x = some .local
  cel : ∀ x, sc.names.lookup x = some .cell → sc'.names.lookup x = some .cell
  fre : ∀ x, sc.names.lookup x = some .free → sc'.names.lookup x = some .cell ∨ sc'.names.lookup x = some .free
  glo : ∀ x, sc.names.lookup x = some .globalImplicit → sc'.names.lookup x = some .globalImplicit
theorem ScR.refl {sc : Scope} : ScR sc sc := ⟨fun _ h => h, fun _ h => h, fun _ h => .inr h, fun _ h => h⟩
theorem ScR.vis {sc sc' : Scope} {x : Str} (r : ScR sc sc') (h : Vis sc x) : Vis sc' x := by
  rcases h with h | h | h
  · exact .inl (r.loc x h)
  · exact .inr (.inl (r.cel x h))
  · rcases r.fre x h with h | h
    · exact .inr (.inl h)
    · exact .inr (.inr h)
theorem lookup_keys {f : Str × NameKind → Str × NameKind} (hf : ∀ p, (f p).1 = p.1) : ∀ (l : List (Str × NameKind)) (x : Str), (l.map f).lookup x = (l.lookup x).map fun k => (f (x, k)).2
  | [], _ => rfl
  | (y, k) :: l, x => by
    rw [List.map_cons, List.lookup_cons, List.lookup_cons]
    have e : f (y, k) = (y, (f (y, k)).2) := Prod.ext (hf _) rfl
    rw [e]
    cases h : x == y with
    | true =>
      have := beq_iff_eq.mp h
      subst this
      rfl
    | false => exact lookup_keys hf l x
theorem ScR.blk {scope : Scope} {env : PySem.Env} {cl : List (Str × Addr)} {C : Addr} : ScR scope (compEnvC scope cl C env).scope := by
  have key : ∀ x, ((compEnvC scope cl C env).scope.names.lookup x) = (scope.names.lookup x).map fun k => if (k == NameKind.free && env.scope.kind == .function && env.kindOf x == some .cell) then .cell else k := fun x => by
    show ((relabel scope env).names.lookup x) = _
    unfold relabel
    rw [lookup_keys]
    · cases scope.names.lookup x with
      | none => rfl
      | some k =>
        simp only [Option.map_some]
        split <;> rfl
    · intro p
      obtain ⟨a, b⟩ := p
      simp only
      split <;> rfl
  refine ⟨fun x h => ?_, fun x h => ?_, fun x h => ?_, fun x h => ?_⟩
  · rw [key, h]; rfl
  · rw [key, h]; rfl
  · rw [key, h]
    simp only [Option.map_some]
    split
    · exact .inl rfl
    · exact .inr rfl
  · rw [key, h]; rfl
structure Fits (G : Top) (T : Tr) (sc : Scope) (X : Cx) (W : WX) (j : Nat) : Prop where
  top : TopOk G T X
  lk : LamsOk G X j
  scr : ScR sc X.env.scope
  go : GO G X.prog X.w X.K X.mg X.base j
  xo : XO G X j W
  fn : ∀ x, sc.names.lookup x = some .cell → X.fn x = true
  ow : T.dc = true → Own X
theorem Fits.blk {G : Top} {T : Tr} {sc scope : Scope} {X : Cx} {W : WX} {j : Nat} {own : List (Str × Nat)} (F : Fits G T sc X W j) (s : Shared) (H : Hp) (Cc : Addr) (cl : List (Str × Addr)) (fp : List Addr) : Fits G { T with dc := false } scope (X.blk s H scope (compEnvC scope cl Cc X.env) fp) W0 j where
  top := ⟨F.top.N, F.top.gv, F.top.nob⟩
  lk := F.lk
  scr := ScR.blk
  go := F.go
  xo := ⟨F.xo.calm, F.xo.nd, F.xo.room, fun u s' ⟨a, B, sI, pins, σ, H, cls, d, e, I, nb, up, sky, na, os, ag, w⟩ => w.elim⟩
  fn := fun x h => beq_iff_eq.mpr h
  ow := fun h => by cases h
theorem Fits.blkOk {G : Top} {T : Tr} {sc scope : Scope} {X : Cx} {W : WX} {j : Nat} {own : List (Str × Nat)} (F : Fits G T sc X W j) (h : blkC T.N sc scope own = true) : BlkOk X.N X.env.scope scope own := by
  have b := blkOk_by h
  rw [F.top.N]
  refine ⟨b.kind, b.uniq, b.ix, fun y hy e => ?_, b.own⟩
  rcases b.free y hy e with h | h
  · exact .inl (F.scr.cel _ h)
  · exact F.scr.fre _ h
theorem Fits.gl {G : Top} {T : Tr} {sc : Scope} {X : Cx} {W : WX} {j : Nat} {x : Str} (F : Fits G T sc X W j) (h : isGl sc x = true) : L2.Gl X x ∧ (x == ("__debug__" : Str)) = false ∧ x ≠ "__name__" := by
  unfold isGl plainName at h
  simp only [Bool.and_eq_true, Bool.not_eq_true'] at h
  refine ⟨?_, h.2.1.1, fun z => ?_⟩
  · unfold L2.Gl PySem.Env.kindOf
    exact F.scr.glo _ (of_decide_eq_true h.1)
  · rw [z] at h
    exact absurd h.2.2 (by decide)
end Ms

-- So29
set_option linter.all false
set_option Elab.async false
set_option maxRecDepth 10000
/-! The translator's expressions hold in the model. -/
namespace Ms
open PySem L2 PySem.Spec PyProof.Rows
def LIok (G : Top) (T : Tr) (X : Cx) (ls : List LI) : Prop := T.dc = true → ∀ li ∈ ls, LamOk G X li.1 li.2.1 li.2.2.1 li.2.2.2
theorem LIok.l {G : Top} {T : Tr} {X : Cx} {a b : List LI} (h : LIok G T X (a ++ b)) : LIok G T X a := fun d li m => h d li (List.mem_append_left _ m)
theorem LIok.r {G : Top} {T : Tr} {X : Cx} {a b : List LI} (h : LIok G T X (a ++ b)) : LIok G T X b := fun d li m => h d li (List.mem_append_right _ m)
theorem LIok.no {G : Top} {T : Tr} {X : Cx} {a : List LI} : LIok G { T with dc := false } X a := fun d => by cases d
structure Snd (G : Top) (n : Nat) : Prop where
  e : ∀ {T : Tr} {sc : Scope} {X : Cx} {W : WX} {j : Nat} {e : Expr} {e' : Ms.E} {ls : List LI}, Fits G T sc X W j → trE T n sc e = some (e', ls) → LIok G T X ls → ∀ fr, PE X e (tE G (callN G.P j) fr W e') ∧ ∀ k, tst k e = true → PT X e (tT G (callN G.P j) fr W e')
  b : ∀ {T : Tr} {sc : Scope} {X : Cx} {W : WX} {j : Nat} {op : BoolOp} {vs : List Expr} {pos : Pos} {e' : Ms.E} {ls : List LI}, Fits G T sc X W j → trB T n sc op vs = some (e', ls) → LIok G T X ls → ∀ fr, PE X (.BoolOp op vs pos) (tE G (callN G.P j) fr W e') ∧ ((∀ v ∈ vs, ∃ k, tst k v = true) → PW X (.BoolOp op vs pos) (tT G (callN G.P j) fr W e'))
  a : ∀ {T : Tr} {sc : Scope} {X : Cx} {W : WX} {j : Nat} {es : List Expr} {l : List Ms.E} {ls : List LI}, Fits G T sc X W j → trA T n sc es = some (l, ls) → LIok G T X ls → ∀ fr, PA X es (tA G (callN G.P j) fr W l) ∧ ∀ e ∈ es, NoStar e
  o : ∀ {T : Tr} {sc : Scope} {X : Cx} {W : WX} {j : Nat} {e : Option Expr} {e' : Option Ms.E} {ls : List LI}, Fits G T sc X W j → trO T n sc e = some (e', ls) → LIok G T X ls → ∀ fr, PO X e (tO G (callN G.P j) fr W e')
  c : ∀ {T : Tr} {sc : Scope} {X : Cx} {j : Nat} {es : List Expr} {l : List Ms.E} {ls : List LI}, Fits G { T with dc := false } sc X W0 j → trC T n sc es = some (l, ls) → ∀ fr, PTs X es (tTs G (callN G.P j) fr W0 l)
  i : ∀ {T : Tr} {sc : Scope} {X : Cx} {W : WX} {j : Nat} {tg e : Expr} {k : ItK} {l : List Ms.E} {ls : List LI}, Fits G T sc X W j → trI T n sc tg e = some ((k, l), ls) → LIok G T X ls → ∀ fr, PI X tg e (tI G (callN G.P j) fr W k l)
  l : ∀ {T : Tr} {sc : Scope} {X : Cx} {W : WX} {j : Nat} {es : List Expr} {l : List Ms.E} {ls : List LI}, Fits G T sc X W j → T.dc = true → trL T n sc es = some (l, ls) → LIok G T X ls → ∀ fr id, PA X es (tAL G (callN G.P j) fr W X id l) ∧ ∀ e ∈ es, NoStar e
section
variable {G : Top} {n : Nat} {T : Tr} {sc : Scope} {X : Cx} {W : WX} {j : Nat} {ls : List LI}
theorem snd_b (ih : Snd G n) {op : BoolOp} {vs : List Expr} {pos : Pos} {e' : Ms.E} (F : Fits G T sc X W j) (h : trB T (n + 1) sc op vs = some (e', ls)) (hl : LIok G T X ls) (fr : Fr) :
    PE X (.BoolOp op vs pos) (tE G (callN G.P j) fr W e') ∧ ((∀ v ∈ vs, ∃ k, tst k v = true) → PW X (.BoolOp op vs pos) (tT G (callN G.P j) fr W e')) := by
  match op, vs, h with
  | .And, [a], h =>
    rw [trB] at h
    have q := ih.e F h hl fr
    exact ⟨s_one q.1, fun t => by
      obtain ⟨k, hk⟩ := t a List.mem_cons_self
      exact pw_and1 (q.2 k hk)⟩
  | .Or, [a], h =>
    rw [trB] at h
    have q := ih.e F h hl fr
    exact ⟨s_one q.1, fun t => by
      obtain ⟨k, hk⟩ := t a List.mem_cons_self
      exact pw_or1 (q.2 k hk)⟩
  | .And, a :: b :: r, h =>
    rw [trB] at h
    obtain ⟨x, l1, l2, h1, h2, rfl⟩ := M.andThen_some h
    obtain ⟨y, l3, l4, h3, h4, rfl⟩ := M.andThen_some h2
    obtain ⟨rfl, rfl⟩ := M.ok_some h4
    have q := ih.e F h1 hl.l fr
    have p := ih.b (pos := pos) F h3 hl.r.l fr
    exact ⟨s_and F.xo q.1 p.1, fun t => by
      obtain ⟨k, hk⟩ := t a List.mem_cons_self
      exact st_and (q.2 k hk) (p.2 fun v hv => t v (List.mem_cons_of_mem _ hv))⟩
  | .Or, a :: b :: r, h =>
    rw [trB] at h
    obtain ⟨x, l1, l2, h1, h2, rfl⟩ := M.andThen_some h
    obtain ⟨y, l3, l4, h3, h4, rfl⟩ := M.andThen_some h2
    obtain ⟨rfl, rfl⟩ := M.ok_some h4
    have q := ih.e F h1 hl.l fr
    have p := ih.b (pos := pos) F h3 hl.r.l fr
    exact ⟨s_or F.xo q.1 p.1, fun t => by
      obtain ⟨k, hk⟩ := t a List.mem_cons_self
      exact st_or (q.2 k hk) (p.2 fun v hv => t v (List.mem_cons_of_mem _ hv))⟩
  | op, [], h => cases op <;> (rw [trB] at h; cases h)
theorem snd_a (ih : Snd G n) {es : List Expr} {l : List Ms.E} (F : Fits G T sc X W j) (h : trA T (n + 1) sc es = some (l, ls)) (hl : LIok G T X ls) (fr : Fr) : PA X es (tA G (callN G.P j) fr W l) ∧ ∀ e ∈ es, NoStar e := by
  cases es with
  | nil =>
    rw [trA] at h
    obtain ⟨rfl, rfl⟩ := M.ok_some h
    exact ⟨sa_nil, fun _ m => by cases m⟩
  | cons e es =>
    rw [trA] at h
    obtain ⟨hs, h⟩ := M.chk_some h
    obtain ⟨x, l1, l2, h1, h2, rfl⟩ := M.andThen_some h
    obtain ⟨y, l3, l4, h3, h4, rfl⟩ := M.andThen_some h2
    obtain ⟨rfl, rfl⟩ := M.ok_some h4
    have p := ih.a F h3 hl.r.l fr
    refine ⟨sa_cons (noStar_by hs) (ih.e F h1 hl.l fr).1 p.1, fun z m => ?_⟩
    rcases List.mem_cons.mp m with rfl | m
    · exact noStar_by hs
    · exact p.2 z m
theorem snd_o (ih : Snd G n) {e : Option Expr} {e' : Option Ms.E} (F : Fits G T sc X W j) (h : trO T (n + 1) sc e = some (e', ls)) (hl : LIok G T X ls) (fr : Fr) : PO X e (tO G (callN G.P j) fr W e') := by
  cases e with
  | none =>
    rw [trO] at h
    obtain ⟨rfl, rfl⟩ := M.ok_some h
    exact so_none
  | some e =>
    rw [trO] at h
    obtain ⟨x, l1, l2, h1, h2, rfl⟩ := M.andThen_some h
    obtain ⟨rfl, rfl⟩ := M.ok_some h2
    exact so_some (ih.e F h1 hl.l fr).1
theorem snd_c (ih : Snd G n) {es : List Expr} {l : List Ms.E} (F : Fits G { T with dc := false } sc X W0 j) (h : trC T (n + 1) sc es = some (l, ls)) (fr : Fr) : PTs X es (tTs G (callN G.P j) fr W0 l) := by
  match es, h with
  | [], h =>
    rw [trC] at h
    obtain ⟨rfl, rfl⟩ := M.ok_some h
    exact ts_nil
  | [e], h =>
    rw [trC] at h
    obtain ⟨ht, h⟩ := M.chk_some h
    obtain ⟨x, l1, l2, h1, h2, rfl⟩ := M.andThen_some h
    obtain ⟨rfl, rfl⟩ := M.ok_some h2
    exact ts_one ((ih.e F h1 LIok.no fr).2 20 ht)
  | _ :: _ :: _, h => simp [trC] at h
theorem snd_l (ih : Snd G n) {es : List Expr} {l : List Ms.E} (F : Fits G T sc X W j) (hd : T.dc = true) (h : trL T (n + 1) sc es = some (l, ls)) (hl : LIok G T X ls) (fr : Fr) (id : Nat) : PA X es (tAL G (callN G.P j) fr W X id l) ∧ ∀ e ∈ es, NoStar e := by
  cases es with
  | nil =>
    rw [trL] at h
    obtain ⟨rfl, rfl⟩ := M.ok_some h
    exact ⟨al_nil, fun _ m => by cases m⟩
  | cons e es =>
    unfold trL at h
    obtain ⟨hs, h⟩ := M.chk_some h
    have ns := noStar_by hs
    have fin : ∀ {P : Prop}, (P ∧ ∀ z ∈ es, NoStar z) → P ∧ ∀ z ∈ e :: es, NoStar z := fun ⟨p, q⟩ => ⟨p, fun z m => by
      rcases List.mem_cons.mp m with rfl | m
      · exact ns
      · exact q z m⟩
    split at h
    · split at h
      · obtain ⟨u, l1, l2, h1, h2, rfl⟩ := M.andThen_some h
        obtain ⟨y, l3, l4, h3, h4, rfl⟩ := M.andThen_some h2
        obtain ⟨rfl, rfl⟩ := M.ok_some h4
        cases h1
        have p := ih.l F hd h3 hl.r.l fr id
        exact fin ⟨al_lam (hl hd _ List.mem_cons_self) p.1, p.2⟩
      · cases h
    · split at h
      · obtain ⟨u, l1, l2, h1, h2, rfl⟩ := M.andThen_some h
        obtain ⟨y, l3, l4, h3, h4, rfl⟩ := M.andThen_some h2
        obtain ⟨rfl, rfl⟩ := M.ok_some h4
        cases h1
        have p := ih.l F hd h3 hl.r.l fr id
        exact fin ⟨al_lst (hl hd _ List.mem_cons_self) p.1, p.2⟩
      · cases h
    · obtain ⟨x, l1, l2, h1, h2, rfl⟩ := M.andThen_some h
      obtain ⟨hn, h2⟩ := M.chk_some h2
      obtain ⟨y, l3, l4, h3, h4, rfl⟩ := M.andThen_some h2
      obtain ⟨rfl, rfl⟩ := M.ok_some h4
      have p := ih.l F hd h3 hl.r.l fr id
      exact fin ⟨al_cons ns (by simpa using hn) (ih.e F h1 hl.l fr).1 p.1, p.2⟩
end
end Ms

-- So30
set_option linter.all false
set_option Elab.async false
set_option maxRecDepth 10000
/-! The translator's walks hold in the model. -/
namespace Ms
open PySem L2 PySem.Spec PyProof.Rows
theorem look_in {α : Type} {x : Str} {k : α} : ∀ {l : List (Str × α)}, l.lookup x = some k → (x, k) ∈ l
  | [], h => by cases h
  | (y, v) :: l, h => by
    rw [List.lookup_cons] at h
    cases e : x == y with
    | true =>
      rw [e] at h
      cases h
      rw [beq_iff_eq.mp e]
      exact List.mem_cons_self
    | false =>
      rw [e] at h
      exact List.mem_cons_of_mem _ (look_in h)
theorem it_tab {x : Str} {k : ItK} (h : itTab.lookup x = some k) : (x = "range" ∧ k = .rng) ∨ (x = "enumerate" ∧ k = .enum) ∨ (x = "zip" ∧ k = .zip) ∨ (x = "reversed" ∧ k = .rev) := by
  have m := look_in h
  unfold itTab at m
  simp only [List.mem_cons, Prod.mk.injEq, List.not_mem_nil, or_false] at m
  exact m
section
variable {G : Top} {n : Nat} {T : Tr} {sc : Scope} {X : Cx} {W : WX} {j : Nat} {ls : List LI}
theorem trA_len : ∀ {n : Nat} {es : List Expr} {l : List Ms.E} {ls : List LI}, trA T n sc es = some (l, ls) → l.length = es.length
  | 0, es, l, ls, h => by rw [trA] at h; cases h
  | n + 1, [], l, ls, h => by
    rw [trA] at h
    obtain ⟨rfl, rfl⟩ := M.ok_some h
    rfl
  | n + 1, e :: es, l, ls, h => by
    rw [trA] at h
    obtain ⟨hs, h⟩ := M.chk_some h
    obtain ⟨x, l1, l2, h1, h2, rfl⟩ := M.andThen_some h
    obtain ⟨y, l3, l4, h3, h4, rfl⟩ := M.andThen_some h2
    obtain ⟨rfl, rfl⟩ := M.ok_some h4
    rw [List.length_cons, List.length_cons, trA_len h3]
theorem trA_one {n : Nat} {u : Expr} {l : List Ms.E} (h : trA T n sc [u] = some (l, ls)) : ∃ y, l = [y] := by
  have := trA_len h
  match l, this with
  | [y], _ => exact ⟨y, rfl⟩
theorem trA_two {n : Nat} {u v : Expr} {l : List Ms.E} (h : trA T n sc [u, v] = some (l, ls)) : ∃ y z, l = [y, z] := by
  have := trA_len h
  match l, this with
  | [y, z], _ => exact ⟨y, z, rfl⟩
theorem snd_i (ih : Snd G n) {tg e : Expr} {k : ItK} {l : List Ms.E} (F : Fits G T sc X W j) (h : trI T (n + 1) sc tg e = some ((k, l), ls)) (hl : LIok G T X ls) (fr : Fr) : PI X tg e (tI G (callN G.P j) fr W k l) := by
  rw [trI.eq_def] at h
  split at h
  · cases h
  · rename_i sc0 tg0 n1 s1 e1 e2 n' x0 p0 args pos0 heq
    cases heq
    split at h
    · rename_i hk
      split at hk
      · rename_i hg
        simp only [Bool.and_eq_true, Option.isNone_iff_eq_none] at hg
        obtain ⟨x, l1, l2, h1, h2, rfl⟩ := M.andThen_some h
        obtain ⟨hc, h2⟩ := M.chk_some h2
        cases h2
        have a := ih.a F h1 hl.l fr
        have gl := (F.gl hg.1).1
        have mb : ∀ y, x0 = y → y ∈ bltTab.map (·.1) ++ itTab.map (·.1) ++ tyTab.map (·.1) ++ [("isinstance" : Str)] → X.mg y = none := fun y e m => by
          subst e
          exact F.top.nob _ hg.2 m
        have one : ∀ u us, args = u :: us → NoStar u := fun u us e => a.2 u (by rw [e]; exact List.mem_cons_self)
        have two : ∀ u v us, args = u :: v :: us → NoStar v := fun u v us e => a.2 v (by rw [e]; exact List.mem_cons_of_mem _ List.mem_cons_self)
        rcases it_tab hk with ⟨rfl, rfl⟩ | ⟨rfl, rfl⟩ | ⟨rfl, rfl⟩ | ⟨rfl, rfl⟩
        · have mb := mb _ rfl (by decide)
          match args, hc, h1, a, one, two with
          | [u], _, h1, a, one, two =>
            obtain ⟨y, rfl⟩ := trA_one h1
            exact i_rng1 gl mb (one _ _ rfl) a.1
          | [u, v], _, h1, a, one, two =>
            obtain ⟨y, z, rfl⟩ := trA_two h1
            exact i_rng2 gl mb (one _ _ rfl) (two _ _ _ rfl) a.1
        · have mb := mb _ rfl (by decide)
          match args, tg0, hc, a, one, two with
          | [u], .Tuple .., _, a, one, two => exact i_enum gl mb (one _ _ rfl) a.1
        · have mb := mb _ rfl (by decide)
          match args, tg0, hc, a, one, two with
          | [u, v], .Tuple .., _, a, one, two => exact i_zip gl mb (one _ _ rfl) (two _ _ _ rfl) a.1
        · have mb := mb _ rfl (by decide)
          match args, hc, a, one, two with
          | [u], _, a, one, two => exact i_rev gl mb (one _ _ rfl) a.1
      · cases hk
    · obtain ⟨x, l1, l2, h1, h2, rfl⟩ := M.andThen_some h
      cases h2
      exact i_val (ih.e F h1 hl.l fr).1
  · rename_i n' heq hne
    cases heq
    obtain ⟨x, l1, l2, h1, h2, rfl⟩ := M.andThen_some h
    cases h2
    exact i_val (ih.e F h1 hl.l fr).1
end
end Ms

-- So31
set_option linter.all false
set_option Elab.async false
set_option maxRecDepth 10000
/-! The translator's plain expressions hold in the model. -/
namespace Ms
open PySem L2 PySem.Spec PyProof.Rows
section
variable {G : Top} {n : Nat} {T : Tr} {sc : Scope} {X : Cx} {W : WX} {j : Nat} {ls : List LI} {C : Cl} {fr : Fr}
theorem both {e : Expr} {e' : Ms.E} (xo : XO G X j W) (h : PE X e (tE G C fr W e')) (he : ∀ whole, isTrue e X.env whole = (do let v ← whole; standAt e.pos; holding [v] (truthy v))) : PE X e (tE G C fr W e') ∧ ∀ k, tst k e = true → PT X e (tT G C fr W e') := ⟨h, fun _ _ => st_truth xo h he⟩
theorem s_glob {x : Str} {pos : Pos} {v : V} {u : Value} {d : D} (hg : L2.Gl X x) (hm : X.mg x = some u) (r : RelV v u) (hd : (x == ("__debug__" : Str)) = false) (hv : ∀ φ H, ValR G φ H d v) : PE X (.Name x pos) (tE G C fr W (.cst d)) := by
  refine PE.imp (pe_glob hg hm r hd) fun σ H Q ⟨φ, m, ρ, s, rr, p⟩ => ?_
  simp only [ev] at p
  exact p.here s v (hv φ H)
theorem snd_name {x : Str} {pos : Pos} {e' : Ms.E} (F : Fits G T sc X W j) (h : trE T (n + 1) sc (.Name x pos) = some (e', ls)) : PE X (.Name x pos) (tE G (callN G.P j) fr W e') := by
  rw [trE] at h
  split at h
  · rename_i hv
    obtain ⟨v, d1, d2⟩ := vis_by hv
    split at h
    · rename_i i hi
      obtain ⟨rfl, rfl⟩ := M.ok_some h
      exact s_var (by rw [F.top.N]; exact idxOf_some hi) (F.scr.vis v) d1 d2
    · cases h
  · split at h
    · rename_i hg
      obtain ⟨g1, g2, g3⟩ := F.gl hg
      split at h
      · rename_i k np dl hk
        obtain ⟨rfl, rfl⟩ := M.ok_some h
        obtain ⟨a, ha, hm, _⟩ := F.top.gv _ _ hk
        exact s_glob (v := .ref a) g1 hm rfl g2 fun φ H => by simp only [ValR]; exact ⟨a, rfl, ha⟩
      · rename_i d hk
        obtain ⟨rfl, rfl⟩ := M.ok_some h
        obtain ⟨v, u, hm, r, hv⟩ := F.top.gv _ _ hk
        exact s_glob g1 hm r g2 hv
      · cases h
    · cases h
theorem snd_cst {c : Const} {k : Nat} {pos : Pos} {e' : Ms.E} (h : trE T (n + 1) sc (.Constant c k pos) = some (e', ls)) : PE X (.Constant c k pos) (tE G C fr W e') := by
  rw [trE] at h
  split at h
  · rename_i d hd
    obtain ⟨rfl, rfl⟩ := M.ok_some h
    unfold cstOf at hd
    split at hd
    · cases hd; exact s_non
    · cases hd; exact s_bl
    · cases hd; exact s_int
    · cases hd; exact s_str
    · cases hd
  · cases h
end
end Ms

-- So32
set_option linter.all false
set_option Elab.async false
set_option maxRecDepth 10000
/-! The translator's expressions hold in the model: one level. -/
namespace Ms
open PySem L2 PySem.Spec PyProof.Rows
/-- what comprehensions and calls add -/
structure Snd2 (G : Top) (n : Nat) : Prop where
  lc : ∀ {T : Tr} {sc : Scope} {X : Cx} {W : WX} {j : Nat} {elt tg iter : Expr} {ifs : List Expr} {scope : Scope} {pos : Pos} {e' : Ms.E} {ls : List LI}, Fits G T sc X W j → trE T (n + 1) sc (.ListComp elt [⟨tg, iter, ifs, 0⟩] scope pos) = some (e', ls) → LIok G T X ls → ∀ fr, PE X (.ListComp elt [⟨tg, iter, ifs, 0⟩] scope pos) (tE G (callN G.P j) fr W e')
  dc : ∀ {T : Tr} {sc : Scope} {X : Cx} {W : WX} {j : Nat} {kx vx tg iter : Expr} {ifs : List Expr} {scope : Scope} {pos : Pos} {e' : Ms.E} {ls : List LI}, Fits G T sc X W j → trE T (n + 1) sc (.DictComp kx vx [⟨tg, iter, ifs, 0⟩] scope pos) = some (e', ls) → LIok G T X ls → ∀ fr, PE X (.DictComp kx vx [⟨tg, iter, ifs, 0⟩] scope pos) (tE G (callN G.P j) fr W e')
  ca : ∀ {T : Tr} {sc : Scope} {X : Cx} {W : WX} {j : Nat} {x : Str} {p pos : Pos} {args : List Expr} {e' : Ms.E} {ls : List LI}, Fits G T sc X W j → trE T (n + 1) sc (.Call (.Name x p) args [] pos) = some (e', ls) → LIok G T X ls → ∀ fr, PE X (.Call (.Name x p) args [] pos) (tE G (callN G.P j) fr W e')
  me : ∀ {T : Tr} {sc : Scope} {X : Cx} {W : WX} {j : Nat} {o e : Expr} {m : Str} {ap pos : Pos} {es : List Expr} {e' : Ms.E} {ls : List LI}, Fits G T sc X W j → trE T (n + 1) sc (.Call (.Attribute o m ap) (e :: es) [] pos) = some (e', ls) → LIok G T X ls → ∀ fr, PE X (.Call (.Attribute o m ap) (e :: es) [] pos) (tE G (callN G.P j) fr W e')
section
variable {G : Top} {n : Nat} {T : Tr} {sc : Scope} {X : Cx} {W : WX} {j : Nat} {ls : List LI} {C : Cl} {fr : Fr}
theorem plainIx_by {b : Expr} (h : noSlB b = true) : PlainIx b := by
  intro o i
  cases b <;> first | rfl | cases h
theorem base_by {o : Expr} {f : Str} {env : PySem.Env} {whole : Sem Value} (h : noCallB o = true) : attributeBase o f env whole = whole := by
  cases o <;> first | rfl | cases h
theorem chn_by {a b c : Expr} {a' b' c' : Ms.E} {o p : CmpOp} {pos : Pos} (xo : XO G X j W) (hm : lastMarks [o, p] [b, c] = false) (ha : PE X a (tE G (callN G.P j) fr W a')) (hb : PE X b (tE G (callN G.P j) fr W b')) (hc : PE X c (tE G (callN G.P j) fr W c')) :
    PE X (.Compare a [o, p] [b, c] pos) (tE G (callN G.P j) fr W (.chn (cmpOf o) (cmpOf p) a' b' c')) ∧ ∀ k, tst k (.Compare a [o, p] [b, c] pos) = true → PT X (.Compare a [o, p] [b, c] pos) (tT G (callN G.P j) fr W (.chn (cmpOf o) (cmpOf p) a' b' c')) := by
  have h2 : lastMarks [opC (cmpOf o), opC (cmpOf p)] [b, c] = false := by rw [cmpOf_op, cmpOf_op]; exact hm
  have k1 := s_chn (pos := pos) xo h2 ha hb hc
  have k2 := st_chn (pos := pos) xo h2 ha hb hc
  rw [cmpOf_op, cmpOf_op] at k1 k2
  exact ⟨k1, fun _ _ => k2⟩
theorem snd_e (ih : Snd G n) (ih2 : Snd2 G n) {e : Expr} {e' : Ms.E} (F : Fits G T sc X W j) (h : trE T (n + 1) sc e = some (e', ls)) (hl : LIok G T X ls) (fr : Fr) : PE X e (tE G (callN G.P j) fr W e') ∧ ∀ k, tst k e = true → PT X e (tT G (callN G.P j) fr W e') := by
  have h0 := h
  rw [trE.eq_def] at h
  split at h
  · cases h
  · rename_i heq
    cases heq
    split at h
    · exact both F.xo (snd_name F h0) fun _ => rfl
    · exact both F.xo (snd_cst h0) fun _ => rfl
    · split at h
      · rename_i o ho
        obtain ⟨x, l1, l2, h1, h2, rfl⟩ := M.andThen_some h
        obtain ⟨y, l3, l4, h3, h4, rfl⟩ := M.andThen_some h2
        obtain ⟨rfl, rfl⟩ := M.ok_some h4
        rw [← binOf_some ho]
        exact both F.xo (s_bin (ih.e F h1 hl.l fr).1 (ih.e F h3 hl.r.l fr).1) fun _ => rfl
      · cases h
    · obtain ⟨x, l1, l2, h1, h2, rfl⟩ := M.andThen_some h
      obtain ⟨rfl, rfl⟩ := M.ok_some h2
      have q := ih.e F h1 hl.l fr
      refine ⟨s_not F.xo q.1, fun k hk => ?_⟩
      cases k with
      | zero => cases hk
      | succ k => exact st_not (q.2 k hk)
    · obtain ⟨x, l1, l2, h1, h2, rfl⟩ := M.andThen_some h
      obtain ⟨rfl, rfl⟩ := M.ok_some h2
      exact both F.xo (s_neg (ih.e F h1 hl.l fr).1) fun _ => rfl
    · obtain ⟨x, l1, l2, h1, h2, rfl⟩ := M.andThen_some h
      obtain ⟨rfl, rfl⟩ := M.ok_some h2
      exact both F.xo (s_inv (ih.e F h1 hl.l fr).1) fun _ => rfl
    · have q := fun pos => ih.b (pos := pos) F h hl fr
      refine ⟨(q _).1, fun k hk => ?_⟩
      cases k with
      | zero => cases hk
      | succ k =>
        refine ((q _).2 fun v hv => ⟨k, ?_⟩).pt
        rw [tst] at hk
        exact List.all_eq_true.mp hk v hv
    · obtain ⟨hb, h⟩ := M.chk_some h
      obtain ⟨x, l1, l2, h1, h2, rfl⟩ := M.andThen_some h
      obtain ⟨y, l3, l4, h3, h4, rfl⟩ := M.andThen_some h2
      obtain ⟨rfl, rfl⟩ := M.ok_some h4
      have a := (ih.e F h1 hl.l fr).1
      have b := (ih.e F h3 hl.r.l fr).1
      have k1 := s_cmp (pos := ‹Pos›) F.go F.xo (by rw [cmpOf_op]; simpa using hb) a b
      have k2 := st_cmp (pos := ‹Pos›) F.go F.xo (by rw [cmpOf_op]; simpa using hb) a b
      rw [cmpOf_op] at k1 k2
      exact ⟨k1, fun _ _ => k2⟩
    · obtain ⟨hb, h⟩ := M.chk_some h
      obtain ⟨x, l1, l2, h1, h2, rfl⟩ := M.andThen_some h
      obtain ⟨y, l3, l4, h3, h4, rfl⟩ := M.andThen_some h2
      obtain ⟨z, l5, l6, h5, h6, rfl⟩ := M.andThen_some h4
      obtain ⟨rfl, rfl⟩ := M.ok_some h6
      have a := (ih.e F h1 hl.l fr).1
      have b := (ih.e F h3 hl.r.l fr).1
      have c := (ih.e F h5 hl.r.r.l fr).1
      exact chn_by F.xo (by simpa using hb) a b c
    · obtain ⟨hb, h⟩ := M.chk_some h
      obtain ⟨x, l1, l2, h1, h2, rfl⟩ := M.andThen_some h
      obtain ⟨y, l3, l4, h3, h4, rfl⟩ := M.andThen_some h2
      obtain ⟨z, l5, l6, h5, h6, rfl⟩ := M.andThen_some h4
      obtain ⟨rfl, rfl⟩ := M.ok_some h6
      refine ⟨s_ite ((ih.e F h1 hl.l fr).2 20 hb) (ih.e F h3 hl.r.l fr).1 (ih.e F h5 hl.r.r.l fr).1, fun k hk => ?_⟩
      cases k <;> cases hk
    · obtain ⟨hb, h⟩ := M.chk_some h
      obtain ⟨x, l1, l2, h1, h2, rfl⟩ := M.andThen_some h
      obtain ⟨rfl, rfl⟩ := M.ok_some h2
      exact both F.xo (s_att F.go (base_by hb) (ih.e F h1 hl.l fr).1) fun _ => rfl
    · obtain ⟨x, l1, l2, h1, h2, rfl⟩ := M.andThen_some h
      obtain ⟨rfl, rfl⟩ := M.ok_some h2
      exact both F.xo (s_rev (ih.e F h1 hl.l fr).1) fun _ => rfl
    · obtain ⟨x, l1, l2, h1, h2, rfl⟩ := M.andThen_some h
      obtain ⟨y, l3, l4, h3, h4, rfl⟩ := M.andThen_some h2
      obtain ⟨z, l5, l6, h5, h6, rfl⟩ := M.andThen_some h4
      obtain ⟨rfl, rfl⟩ := M.ok_some h6
      exact both F.xo (s_slc (ih.e F h1 hl.l fr).1 (ih.o F h3 hl.r.l fr) (ih.o F h5 hl.r.r.l fr)) fun _ => rfl
    · obtain ⟨hb, h⟩ := M.chk_some h
      obtain ⟨x, l1, l2, h1, h2, rfl⟩ := M.andThen_some h
      obtain ⟨y, l3, l4, h3, h4, rfl⟩ := M.andThen_some h2
      obtain ⟨rfl, rfl⟩ := M.ok_some h4
      exact both F.xo (s_idx F.xo (plainIx_by hb) (ih.e F h1 hl.l fr).1 (ih.e F h3 hl.r.l fr).1) fun _ => rfl
    · obtain ⟨x, l1, l2, h1, h2, rfl⟩ := M.andThen_some h
      obtain ⟨rfl, rfl⟩ := M.ok_some h2
      exact both F.xo (s_tup (ih.a F h1 hl.l fr).1) fun _ => rfl
    · obtain ⟨x, l1, l2, h1, h2, rfl⟩ := M.andThen_some h
      obtain ⟨rfl, rfl⟩ := M.ok_some h2
      exact both F.xo (s_lst (ih.a F h1 hl.l fr).1) fun _ => rfl
    · obtain ⟨rfl, rfl⟩ := M.ok_some h
      exact both F.xo (s_dnew (.inl rfl)) fun _ => rfl
    · exact both F.xo (ih2.lc F h0 hl fr) fun _ => rfl
    · exact both F.xo (ih2.dc F h0 hl fr) fun _ => rfl
    · exact both F.xo (ih2.ca F h0 hl fr) fun _ => rfl
    · exact both F.xo (ih2.me F h0 hl fr) fun _ => rfl
    · obtain ⟨hb, h⟩ := M.chk_some h
      simp only [Bool.and_eq_true, decide_eq_true_eq] at hb
      obtain ⟨x, l1, l2, h1, h2, rfl⟩ := M.andThen_some h
      obtain ⟨rfl, rfl⟩ := M.ok_some h2
      obtain ⟨⟨rfl, hb1⟩, hb2⟩ := hb
      exact both F.xo (s_bits (base_by hb1) hb2 (ih.e F h1 hl.l fr).1) fun _ => rfl
    · cases h
end
end Ms

-- So33
set_option linter.all false
set_option Elab.async false
set_option maxRecDepth 10000
/-! The translator's comprehensions and method calls hold in the model. -/
namespace Ms
open PySem L2 PySem.Spec PyProof.Rows
section
variable {G : Top} {n : Nat} {T : Tr} {sc : Scope} {X : Cx} {W : WX} {j : Nat} {ls : List LI} {C : Cl} {fr : Fr}
theorem snd_me (ih : Snd G n) {o e : Expr} {m : Str} {ap pos : Pos} {es : List Expr} {e' : Ms.E} (F : Fits G T sc X W j) (h : trE T (n + 1) sc (.Call (.Attribute o m ap) (e :: es) [] pos) = some (e', ls)) (hl : LIok G T X ls) (fr : Fr) :
    PE X (.Call (.Attribute o m ap) (e :: es) [] pos) (tE G (callN G.P j) fr W e') := by
  rw [trE] at h
  split at h
  · rename_i f hf
    obtain ⟨hb, h⟩ := M.chk_some h
    simp only [Bool.and_eq_true, decide_eq_true_eq] at hb
    obtain ⟨x, l1, l2, h1, h2, rfl⟩ := M.andThen_some h
    obtain ⟨y, l3, l4, h3, h4, rfl⟩ := M.andThen_some h2
    obtain ⟨rfl, rfl⟩ := M.ok_some h4
    have hm := look_in hf
    unfold mtTab at hm
    simp only [List.mem_cons, Prod.mk.injEq, List.not_mem_nil, or_false] at hm
    have k : m = mtN f ∧ mtB f = true := by
      rcases hm with ⟨rfl, rfl⟩ | ⟨rfl, rfl⟩ | ⟨rfl, rfl⟩ <;> exact ⟨rfl, rfl⟩
    obtain ⟨rfl, k2⟩ := k
    have a := ih.a F h3 hl.r.l fr
    exact s_mth F.xo k2 (base_by hb.1.1) hb.1.2 hb.2 a.2 (ih.e F h1 hl.l fr).1 a.1
  · cases h
theorem own_some {T : Tr} {tg : Expr} {own : List (Str × Nat)} (h : ownOf T tg = some own) : True := trivial
theorem snd_tg : ∀ {n : Nat} {tg : Expr} {g : Tg} {T : Tr} {sc : Scope} {X : Cx} {W : WX} (F : Fits G T sc X W j), trTg T sc n tg = some g → ∀ fr, PG X tg (gT G fr g)
  | 0, tg, g, T, sc, X, W, F, h, fr => by rw [trTg] at h; cases h
  | n + 1, tg, g, T, sc, X, W, F, h, fr => by
    rw [trTg.eq_def] at h
    split at h
    · cases h
    · rename_i heq
      cases heq
      split at h
      · rename_i hx hi
        cases h
        exact g_name F.xo.nd (by rw [F.top.N]; exact idxOf_some hi) (.inl (F.scr.loc _ hx)) (.inr (F.scr.loc _ hx))
      · rename_i hx hi
        cases h
        exact g_name F.xo.nd (by rw [F.top.N]; exact idxOf_some hi) (.inr (F.scr.cel _ hx)) (.inl (F.fn _ hx))
      · cases h
    · rename_i heq
      cases heq
      split at h
      · rename_i hs
        obtain ⟨l, hm, rfl⟩ := Option.map_eq_some_iff.mp h
        have ns : ∀ e, e ∈ _ → NoStar e := fun e m => noStar_by (List.all_eq_true.mp hs e m)
        have key : ∀ {es : List Expr} {l : List Tg}, es.mapM (trTg T sc n) = some l → (∀ e ∈ es, NoStar e) → PGs X es (gTs G fr l) ∧ l.length = es.length := by
          intro es
          induction es with
          | nil =>
            intro l hm _
            simp at hm
            subst hm
            exact ⟨gs_nil, rfl⟩
          | cons e es ihs =>
            intro l hm ns
            rw [List.mapM_cons] at hm
            simp only [Option.bind_eq_bind, Option.bind_eq_some_iff, Option.pure_def, Option.some.injEq] at hm
            obtain ⟨x, hx, y, hy, rfl⟩ := hm
            obtain ⟨p1, p2⟩ := ihs hy fun e m => ns e (List.mem_cons_of_mem _ m)
            exact ⟨gs_cons (ns e List.mem_cons_self) (snd_tg F hx fr) p1, congrArg Nat.succ p2⟩
        obtain ⟨p1, p2⟩ := key hm ns
        exact g_tup F.xo.calm p2 ns p1
      · cases h
    · cases h
end
end Ms

-- So34
set_option linter.all false
set_option Elab.async false
set_option maxRecDepth 10000
/-! The translator's comprehensions hold in the model. -/
namespace Ms
open PySem L2 PySem.Spec PyProof.Rows
section
variable {G : Top} {n : Nat} {T : Tr} {sc : Scope} {X : Cx} {W : WX} {j : Nat} {ls : List LI} {C : Cl} {fr : Fr}
theorem fold_by {e : Expr} {env : PySem.Env} (h : ∀ a b c, e ≠ .Set a b c) (x : Value) : foldedSetIterable e env x = pure x := by
  unfold foldedSetIterable
  cases e <;> first | rfl | exact absurd rfl (h _ _ _)
theorem trI_noSet {tg iter : Expr} {r : (ItK × List Ms.E) × List LI} (h : trI T n sc tg iter = some r) : ∀ a b c, iter ≠ .Set a b c := by
  intro a b c e
  subst e
  cases n with
  | zero => rw [trI] at h; cases h
  | succ n =>
    rw [trI.eq_def] at h
    simp only at h
    cases n with
    | zero => simp [trE, M.andThen] at h
    | succ n => simp [trE, M.andThen] at h
theorem snd_lc (ih : Snd G n) {elt tg iter : Expr} {ifs : List Expr} {scope : Scope} {pos : Pos} {e' : Ms.E} (F : Fits G T sc X W j) (h : trE T (n + 1) sc (.ListComp elt [⟨tg, iter, ifs, 0⟩] scope pos) = some (e', ls)) (hl : LIok G T X ls) (fr : Fr) :
    PE X (.ListComp elt [⟨tg, iter, ifs, 0⟩] scope pos) (tE G (callN G.P j) fr W e') := by
  rw [trE] at h
  split at h
  · rename_i own g ho hg
    obtain ⟨hb, h⟩ := M.chk_some h
    rw [Bool.and_eq_true] at hb
    obtain ⟨⟨k, l⟩, l1, l2, h1, h2, rfl⟩ := M.andThen_some h
    obtain ⟨c, l3, l4, h3, h4, rfl⟩ := M.andThen_some h2
    obtain ⟨x, l5, l6, h5, h6, rfl⟩ := M.andThen_some h4
    obtain ⟨rfl, rfl⟩ := M.ok_some h6
    refine s_lc F.xo (fun fr => ih.i F h1 hl.l fr) (F.blkOk hb.1) (fun fr s H Cc cl fp => snd_tg (F.blk (own := own) s H Cc cl fp) hg fr) (fun fr s H Cc cl fp => ih.c (F.blk (own := own) s H Cc cl fp) h3 fr)
      (fun fr s H Cc cl fp => (ih.e (F.blk (own := own) s H Cc cl fp) h5 LIok.no fr).1) (fun x => fold_by (trI_noSet h1) x) fun i hi => ?_
    exact List.contains_iff_mem.mp (List.all_eq_true.mp hb.2 i hi)
  · cases h
theorem snd_dc (ih : Snd G n) {kx vx tg iter : Expr} {ifs : List Expr} {scope : Scope} {pos : Pos} {e' : Ms.E} (F : Fits G T sc X W j) (h : trE T (n + 1) sc (.DictComp kx vx [⟨tg, iter, ifs, 0⟩] scope pos) = some (e', ls)) (hl : LIok G T X ls) (fr : Fr) :
    PE X (.DictComp kx vx [⟨tg, iter, ifs, 0⟩] scope pos) (tE G (callN G.P j) fr W e') := by
  rw [trE] at h
  split at h
  · rename_i own g ho hg
    obtain ⟨hb, h⟩ := M.chk_some h
    rw [Bool.and_eq_true] at hb
    obtain ⟨⟨k, l⟩, l1, l2, h1, h2, rfl⟩ := M.andThen_some h
    obtain ⟨c, l3, l4, h3, h4, rfl⟩ := M.andThen_some h2
    obtain ⟨x, l5, l6, h5, h6, rfl⟩ := M.andThen_some h4
    obtain ⟨y, l7, l8, h7, h8, rfl⟩ := M.andThen_some h6
    obtain ⟨rfl, rfl⟩ := M.ok_some h8
    refine s_dc F.xo (fun fr => ih.i F h1 hl.l fr) (F.blkOk hb.1) (fun fr s H Cc cl fp => snd_tg (F.blk (own := own) s H Cc cl fp) hg fr) (fun fr s H Cc cl fp => ih.c (F.blk (own := own) s H Cc cl fp) h3 fr)
      (fun fr s H Cc cl fp => (ih.e (F.blk (own := own) s H Cc cl fp) h5 LIok.no fr).1) (fun fr s H Cc cl fp => (ih.e (F.blk (own := own) s H Cc cl fp) h7 LIok.no fr).1) (fun x => fold_by (trI_noSet h1) x) fun i hi => ?_
    exact List.contains_iff_mem.mp (List.all_eq_true.mp hb.2 i hi)
  · cases h
end
end Ms

-- So35
set_option linter.all false
set_option Elab.async false
set_option maxRecDepth 10000
/-! The translator's calls hold in the model. -/
namespace Ms
open PySem L2 PySem.Spec PyProof.Rows
section
variable {G : Top} {n : Nat} {T : Tr} {sc : Scope} {X : Cx} {W : WX} {j : Nat} {ls : List LI} {C : Cl} {fr : Fr}
theorem missing_some {np k : Nat} {dl : List D} {ms : List Ms.E} (h : missing np dl k = some ms) : ∃ i, i ≤ dl.length ∧ ms = (dl.drop i).map .cst := by
  unfold missing at h
  split at h
  · cases h
    exact ⟨_, Nat.sub_le _ _, rfl⟩
  · cases h
theorem blt_boot {x : Str} {f : Bl} (h : bltTab.lookup x = some f) : bootBuiltins x = some (bltV f) ∧ x ∈ bltTab.map (·.1) := by
  have m := look_in h
  refine ⟨?_, List.mem_map.mpr ⟨_, m, rfl⟩⟩
  have key : ∀ p ∈ bltTab, bootBuiltins p.1 = some (bltV p.2) := by decide +kernel
  exact key _ m
theorem snd_blt (ih : Snd G n) {f : Bl} {x : Str} {p pos : Pos} {e : Expr} {es : List Expr} {l : List Ms.E} (F : Fits G T sc X W j) (hg : isGl sc x = true) (hx : T.gt.lookup x = none) (hf : bltTab.lookup x = some f) (h : trA T n sc (e :: es) = some (l, ls)) (hl : LIok G T X ls) :
    PE X (.Call (.Name x p) (e :: es) [] pos) (tE G (callN G.P j) fr W (.blt f l)) := by
  obtain ⟨g1, g2, g3⟩ := F.gl hg
  obtain ⟨b1, b2⟩ := blt_boot hf
  have a := ih.a F h hl fr
  exact s_blt F.xo.calm g1 (F.top.nob _ hx (by simp only [List.mem_append]; exact .inl (.inl (.inl b2)))) b1 g3 g2 a.2 a.1
theorem snd_tyc {a b : Str} {x : Str} {p : Pos} {t : Ty} (F : Fits G T sc X W j) (h : (if isGl sc x then match T.gt.lookup x with | some (.ct c _ _) => some (Ty.cls c) | some _ => none | none => (tyTab.lookup x).map .ty else none) = some t) : ∃ v u, TyE G X (.Name x p) t v u := by
  split at h
  · rename_i hg
    obtain ⟨g1, g2, g3⟩ := F.gl hg
    have ns : NoStar (.Name x p) := fun _ _ z => by cases z
    split at h
    · rename_i c np dl hk
      cases h
      obtain ⟨a, ha, hm, _⟩ := F.top.gv _ _ hk
      exact ⟨.ref a, .ref a, pe_glob g1 hm rfl g2, ⟨a, ha, rfl, rfl⟩, ns⟩
    · cases h
    · rename_i hk
      obtain ⟨s, hs, rfl⟩ := Option.map_eq_some_iff.mp h
      have m := look_in hs
      have key : ∀ p ∈ tyTab, bootBuiltins p.1 = some (.type p.2) := by decide +kernel
      exact ⟨.ty s, .type s, pe_bltn g1 (F.top.nob _ hk (by simp only [List.mem_append]; exact .inl (.inr (List.mem_map.mpr ⟨_, m, rfl⟩)))) (key _ m) rfl g3 g2, ⟨rfl, rfl⟩, ns⟩
  · cases h
end
end Ms

-- So36
set_option linter.all false
set_option Elab.async false
set_option maxRecDepth 10000
/-! The translator's calls of a name hold in the model. -/
namespace Ms
open PySem L2 PySem.Spec PyProof.Rows
section
variable {G : Top} {n : Nat} {T : Tr} {sc : Scope} {X : Cx} {W : WX} {j : Nat} {ls : List LI} {C : Cl} {fr : Fr}
theorem snd_cvar (ih : Snd G n) {x : Str} {p pos : Pos} {args : List Expr} {l : List Ms.E} {i : Nat} (F : Fits G T sc X W j) (hv : isVar sc x = true) (hi : idxOf x T.N = some i) (h : trA T n sc args = some (l, ls)) (hl : LIok G T X ls) (fr : Fr) :
    PE X (.Call (.Name x p) args [] pos) (tE G (callN G.P j) fr W (.cv (.var i) l)) := by
  obtain ⟨v, d1, d2⟩ := vis_by hv
  have a := ih.a F h hl fr
  exact s_cv F.go F.xo F.lk (by rw [F.top.N]; exact idxOf_some hi) (F.scr.vis v) d1 d2 a.2 a.1
theorem snd_cdf (ih : Snd G n) {x : Str} {p pos : Pos} {args : List Expr} {l ms : List Ms.E} {k np : Nat} {dl : List D} (F : Fits G T sc X W j) (hg : isGl sc x = true) (hx : T.gt.lookup x = some (.df k np dl)) (hm : missing np dl args.length = some ms) (h : trA T n sc args = some (l, ls)) (hl : LIok G T X ls) (fr : Fr) :
    PE X (.Call (.Name x p) args [] pos) (tE G (callN G.P j) fr W (.call k (l ++ ms))) := by
  obtain ⟨g1, g2, g3⟩ := F.gl hg
  obtain ⟨a, ha, hma, hd⟩ := F.top.gv _ _ hx
  obtain ⟨i, hi, rfl⟩ := missing_some hm
  obtain ⟨i2, h2⟩ := hd i hi
  have q := ih.a F h hl fr
  exact s_callD F.go F.xo ha g1 hma g2 h2 q.2 q.1
theorem snd_cct (ih : Snd G n) {x : Str} {p pos : Pos} {args : List Expr} {l ms : List Ms.E} {c np : Nat} {dl : List D} (F : Fits G T sc X W j) (hg : isGl sc x = true) (hx : T.gt.lookup x = some (.ct c np dl)) (hm : missing np dl args.length = some ms) (h : trA T n sc args = some (l, ls)) (hl : LIok G T X ls) (fr : Fr) :
    PE X (.Call (.Name x p) args [] pos) (tE G (callN G.P j) fr W (.mk c (l ++ ms))) := by
  obtain ⟨g1, g2, g3⟩ := F.gl hg
  obtain ⟨a, ha, hma, hc, rfl⟩ := F.top.gv _ _ hx
  obtain ⟨i, hi, rfl⟩ := missing_some hm
  have q := ih.a F h hl fr
  rw [List.drop_nil, List.map_nil, List.append_nil]
  exact s_mk F.go F.xo ha hc g1 hma g2 q.2 q.1
theorem snd_cl (ih : Snd G n) {x : Str} {p pos : Pos} {args : List Expr} {l : List Ms.E} {k np : Nat} {dl : List D} (F : Fits G T sc X W j) (hg : isGl sc x = true) (hx : T.gt.lookup x = some (.df k np dl)) (hd : T.dc = true) (h : trL T n sc args = some (l, ls)) (hl : LIok G T X ls) (fr : Fr) :
    PE X (.Call (.Name x p) args [] pos) (tE G (callN G.P j) fr W (.calL k l)) := by
  obtain ⟨g1, g2, g3⟩ := F.gl hg
  obtain ⟨a, ha, hma, _⟩ := F.top.gv _ _ hx
  exact s_calL F.go F.xo (F.ow hd) ha g1 hma g2 (ih.l F hd h hl fr 0).2 fun id => (ih.l F hd h hl fr id).1
end
end Ms

-- So37
set_option linter.all false
set_option Elab.async false
set_option maxRecDepth 10000
/-! The translator's calls of a name hold in the model: joined. -/
namespace Ms
open PySem L2 PySem.Spec PyProof.Rows
section
variable {G : Top} {n : Nat} {T : Tr} {sc : Scope} {X : Cx} {W : WX} {j : Nat} {ls : List LI} {C : Cl} {fr : Fr}
theorem tyEs_by {es : List Expr} {ts : List Ty} (F : Fits G T sc X W j) (h : (es.mapM fun e => match e with
      | .Name x _ => if isGl sc x then match T.gt.lookup x with
          | some (.ct c _ _) => some (Ty.cls c)
          | some _ => none
          | none => (tyTab.lookup x).map .ty
        else none
      | _ => none) = some ts) : ∃ vs us, TyEs G X es ts vs us := by
  induction es generalizing ts with
  | nil =>
    simp at h
    subst h
    exact ⟨[], [], .nil⟩
  | cons e es ih =>
    rw [List.mapM_cons] at h
    simp only [Option.bind_eq_bind, Option.bind_eq_some_iff, Option.pure_def, Option.some.injEq] at h
    obtain ⟨t, ht, y, hy, rfl⟩ := h
    obtain ⟨vs, us, r⟩ := ih hy
    split at ht
    · obtain ⟨v, u, q⟩ := snd_tyc (a := "") (b := "") F ht
      exact ⟨v :: vs, u :: us, .cons q r⟩
    · cases ht
/-- a call of a built-in thing -/
def tr0 (T : Tr) (n : Nat) (sc : Scope) (x : Str) (args : List Expr) : M Ms.E := match args with
          | [a, t] => if x = ("isinstance" : Str) then (match tyOfE T sc t with | some ts => (trE T n sc a).andThen fun a => M.ok (.isi a ts) | none => none) else (match bltTab.lookup x with | some f => (trA T n sc args).andThen fun l => M.ok (.blt f l) | none => none)
          | _ => match bltTab.lookup x with | some f => M.chk (!args.isEmpty) ((trA T n sc args).andThen fun l => M.ok (.blt f l)) | none => none
theorem trE_call {x : Str} {p pos : Pos} {args : List Expr} : trE T (n + 1) sc (.Call (.Name x p) args [] pos) = (if isVar sc x then (match idxOf x T.N with | some i => (trA T n sc args).andThen fun l => M.ok (.cv (.var i) l) | none => none) else M.chk (isGl sc x) (match T.gt.lookup x with
        | some (.df k np dl) => if args.any isLamE then M.chk (T.dc && decide (args.length = np)) ((trL T n sc args).andThen fun l => M.ok (.calL k l)) else match missing np dl args.length with
          | some ms => (trA T n sc args).andThen fun l => M.ok (.call k (l ++ ms))
          | none => none
        | some (.ct c np dl) => match missing np dl args.length with
          | some ms => (trA T n sc args).andThen fun l => M.ok (.mk c (l ++ ms))
          | none => none
        | some _ => none
        | none => tr0 T n sc x args)) := by
  match args with
  | [] => rfl
  | [_] => rfl
  | [_, _] => rfl
  | _ :: _ :: _ :: _ => rfl
theorem trE_ns {e : Expr} {r : Ms.E × List LI} (h : trE T n sc e = some r) : NoStar e := by
  intro a b z
  subst z
  cases n with
  | zero => rw [trE] at h; cases h
  | succ n => simp [trE] at h
theorem TyEs.len {es : List Expr} {ts : List Ty} {vs : List V} {us : List Value} (h : TyEs G X es ts vs us) : vs.length = es.length := by
  induction h with
  | nil => rfl
  | cons _ _ ih => exact congrArg Nat.succ ih
theorem snd_isi (ih : Snd G n) {p pos : Pos} {a t : Expr} {a' : Ms.E} {ts : List Ty} (F : Fits G T sc X W j) (hg : isGl sc "isinstance" = true) (hx : T.gt.lookup ("isinstance" : Str) = none) (ht : tyOfE T sc t = some ts) (h : trE T n sc a = some (a', ls)) (hl : LIok G T X ls) (fr : Fr) :
    PE X (.Call (.Name "isinstance" p) [a, t] [] pos) (tE G (callN G.P j) fr W (.isi a' ts)) := by
  obtain ⟨g1, g2, g3⟩ := F.gl hg
  have hm := F.top.nob _ hx (by decide)
  have q := (ih.e F h hl fr).1
  have ns := trE_ns h
  unfold tyOfE at ht
  split at ht
  · rename_i y yp
    have ht2 : ∃ t0, ts = [t0] ∧ (if isGl sc y then match T.gt.lookup y with | some (.ct c _ _) => some (Ty.cls c) | some _ => none | none => (tyTab.lookup y).map .ty else none) = some t0 := by
      split at ht
      · rename_i hg2
        rw [if_pos hg2]
        split at ht
        · rename_i hk; cases ht; exact ⟨_, rfl, by first | rw [hk] | rfl⟩
        · cases ht
        · rename_i hk; obtain ⟨u, hu, rfl⟩ := Option.map_eq_some_iff.mp ht
          exact ⟨_, rfl, by first | (rw [hk, hu]; rfl) | (rw [hu]; rfl)⟩
      · cases ht
    obtain ⟨t0, rfl, ht3⟩ := ht2
    obtain ⟨v, u, k⟩ := snd_tyc (a := "") (b := "") F ht3
    exact s_isi F.go g1 hm ns q k
  · split at ht
    · cases ht
    · rename_i hlen
      obtain ⟨vs, us, k⟩ := tyEs_by F ht
      exact s_isiT F.go g1 hm ns q k (by rw [k.len]; omega)
  · cases ht
theorem snd_c0 (ih : Snd G n) {x : Str} {p pos : Pos} {args : List Expr} {e' : Ms.E} (F : Fits G T sc X W j) (hg : isGl sc x = true) (hx : T.gt.lookup x = none) (h : tr0 T n sc x args = some (e', ls)) (hl : LIok G T X ls) (fr : Fr) :
    PE X (.Call (.Name x p) args [] pos) (tE G (callN G.P j) fr W e') := by
  unfold tr0 at h
  split at h
  · split at h
    · rename_i hi
      subst hi
      split at h
      · rename_i ts ht
        obtain ⟨l, l1, l2, h1, h2, rfl⟩ := M.andThen_some h
        obtain ⟨rfl, rfl⟩ := M.ok_some h2
        exact snd_isi ih F hg hx ht h1 hl.l fr
      · cases h
    · split at h
      · rename_i f hf
        obtain ⟨l, l1, l2, h1, h2, rfl⟩ := M.andThen_some h
        obtain ⟨rfl, rfl⟩ := M.ok_some h2
        exact snd_blt ih F hg hx hf h1 hl.l
      · cases h
  · split at h
    · rename_i f hf
      obtain ⟨hb, h⟩ := M.chk_some h
      obtain ⟨l, l1, l2, h1, h2, rfl⟩ := M.andThen_some h
      obtain ⟨rfl, rfl⟩ := M.ok_some h2
      match args, hb, h1 with
      | e :: es, _, h1 => exact snd_blt ih F hg hx hf h1 hl.l
    · cases h
theorem snd_ca (ih : Snd G n) {x : Str} {p pos : Pos} {args : List Expr} {e' : Ms.E} (F : Fits G T sc X W j) (h : trE T (n + 1) sc (.Call (.Name x p) args [] pos) = some (e', ls)) (hl : LIok G T X ls) (fr : Fr) :
    PE X (.Call (.Name x p) args [] pos) (tE G (callN G.P j) fr W e') := by
  rw [trE_call] at h
  split at h
  · rename_i hv
    split at h
    · rename_i i hi
      obtain ⟨l, l1, l2, h1, h2, rfl⟩ := M.andThen_some h
      obtain ⟨rfl, rfl⟩ := M.ok_some h2
      exact snd_cvar ih F hv hi h1 hl.l fr
    · cases h
  · obtain ⟨hg, h⟩ := M.chk_some h
    split at h
    · rename_i k np dl hx
      split at h
      · obtain ⟨hb, h⟩ := M.chk_some h
        rw [Bool.and_eq_true] at hb
        obtain ⟨l, l1, l2, h1, h2, rfl⟩ := M.andThen_some h
        obtain ⟨rfl, rfl⟩ := M.ok_some h2
        exact snd_cl ih F hg hx hb.1 h1 hl.l fr
      · split at h
        · rename_i ms hm
          obtain ⟨l, l1, l2, h1, h2, rfl⟩ := M.andThen_some h
          obtain ⟨rfl, rfl⟩ := M.ok_some h2
          exact snd_cdf ih F hg hx hm h1 hl.l fr
        · cases h
    · rename_i c np dl hx
      split at h
      · rename_i ms hm
        obtain ⟨l, l1, l2, h1, h2, rfl⟩ := M.andThen_some h
        obtain ⟨rfl, rfl⟩ := M.ok_some h2
        exact snd_cct ih F hg hx hm h1 hl.l fr
      · cases h
    · cases h
    · rename_i hx
      exact snd_c0 ih F hg hx h hl fr
end
end Ms

-- So38
set_option linter.all false
set_option Elab.async false
set_option maxRecDepth 10000
/-! The translator's expressions hold in the model: joined. -/
namespace Ms
open PySem L2 PySem.Spec PyProof.Rows
theorem snd0 {G : Top} : Snd G 0 where
  e := fun _ h => by rw [trE] at h; cases h
  b := fun _ h => by rw [trB] at h; cases h
  a := fun _ h => by rw [trA] at h; cases h
  o := fun _ h => by rw [trO] at h; cases h
  c := fun _ h => by rw [trC] at h; cases h
  i := fun _ h => by rw [trI] at h; cases h
  l := fun _ _ h => by rw [trL] at h; cases h
theorem snd {G : Top} : ∀ n : Nat, Snd G n
  | 0 => snd0
  | n + 1 => by
    have ih := snd (G := G) n
    have ih2 : Snd2 G n := ⟨fun F h hl fr => snd_lc ih F h hl fr, fun F h hl fr => snd_dc ih F h hl fr, fun F h hl fr => snd_ca ih F h hl fr, fun F h hl fr => snd_me ih F h hl fr⟩
    exact ⟨fun F h hl fr => snd_e ih ih2 F h hl fr, fun F h hl fr => snd_b ih F h hl fr, fun F h hl fr => snd_a ih F h hl fr, fun F h hl fr => snd_o ih F h hl fr, fun F h fr => snd_c ih F h fr, fun F h hl fr => snd_i ih F h hl fr, fun F hd h hl fr id => snd_l ih F hd h hl fr id⟩
end Ms

-- Tr2
set_option linter.all false
set_option Elab.async false
set_option maxRecDepth 10000
/-! From the program's text to the machine's terms: statements. -/
namespace Ms
open PySem L2 PySem.Spec PyProof.Rows
mutual
def trLg (T : Tr) : Nat → Scope → Expr → M Lg
  | 0, _, _ => none
  | n + 1, sc, e => match e with
    | .Name x _ => match sc.names.lookup x, idxOf x T.N with
      | some .local, some i => M.ok (.v i)
      | some .cell, some i => M.ok (.v i)
      | _, _ => none
    | .Attribute o f _ => M.chk (noCallB o) ((trE T n sc o).andThen fun a => M.ok (.att a f))
    | .Subscript o i _ => M.chk (noSlB i) ((trE T n sc o).andThen fun a => (trE T n sc i).andThen fun b => M.ok (.sub a b))
    | .Tuple es _ _ => (trLgs T n sc es).andThen fun l => M.ok (.t l)
    | _ => none
def trLgs (T : Tr) : Nat → Scope → List Expr → M (List Lg)
  | 0, _, _ => none
  | _ + 1, _, [] => M.ok []
  | n + 1, sc, e :: es => M.chk (noStarB e) ((trLg T n sc e).andThen fun g => (trLgs T n sc es).andThen fun l => M.ok (g :: l))
end
/-- does the comprehension's frame hand the value over? -/
def swC (sc : Scope) (e tg : Expr) : Bool :=
  match (match e with | .ListComp _ _ s _ | .SetComp _ _ s _ | .DictComp _ _ _ s _ => some s | _ => none), tg with
  | some scope, .Name t pos => (sc.names.lookup t == some .local) && pos.line == e.pos.line && !(scope.names.any fun (n, k) => n == t && (k == .local || k == .cell))
  | _, _ => false
/-- the names that are stored from the right, if they are -/
def swS (sc : Scope) (tg value : Expr) : Option (Option (List Str)) :=
  match tg, value with
  | .List .., .Tuple .. => none
  | .Tuple ts _ _, .Tuple vs _ _ =>
    if !(ts.length == 2 || ts.length == 3) || vs.length != ts.length then some none else
    if vs.any fun | .Starred .. => true | _ => false then some none else
    let line := (ts.head?.map (·.pos.line)).getD 0
    let names := ts.filterMap fun
      | .Name id pos => if sc.names.lookup id == some .local && pos.line == line then some id else none
      | _ => none
    if names.length != ts.length || names.eraseDups.length != names.length then some none else
    if vs.all (foldedForSure 8) then some none else
    if vs.all (constantsAlone 8) then none else some (some names)
  | _, _ => some none
def asgOk (sc : Scope) (tg e : Expr) : Bool := match swS sc tg e with
  | some none => noStarB tg && (!swC sc e tg || (match e with | .ListComp _ [⟨_, _, _, 0⟩] _ _ => true | .DictComp _ _ [⟨_, _, _, 0⟩] _ _ => true | _ => false))
  | some (some _) => (match tg, e with
    | .Tuple [.Name x _, .Name y _] _ _, .Tuple [_, _] _ _ => decide (x ≠ y)
    | .Tuple [.Name x _, .Name y _, .Name z _] _ _, .Tuple [_, _, _] _ _ => decide (x ≠ y) && decide (x ≠ z) && decide (y ≠ z)
    | _, _ => false)
  | none => false
def notComp : Expr → Bool
  | .ListComp .. => false
  | .SetComp .. => false
  | .DictComp .. => false
  | _ => true
def excTy (T : Tr) (sc : Scope) (x : Str) : Option Ty := if isGl sc x then (match T.gt.lookup x with
  | some (.ex c _ _) => some (.exc c)
  | some _ => none
  | none => if x = ("Exception" : Str) then some (.ty "Exception") else none) else none
/-- what an except suite answers -/
def trH (T : Tr) (v : Str) (iv : Nat) : Nat → Scope → Expr → Option Ms.E
  | 0, _, _ => none
  | n + 1, sc, e => match e with
    | .Name x _ => if isVar sc x then (idxOf x T.N).map .var else none
    | .Constant c _ _ => (cstOf c).map .cst
    | .Attribute (.Name x _) f _ => if isVar sc x && decide (x = v) then some (.att (.var iv) f) else none
    | .Tuple es _ _ => if es.all noStarB && decide (es.length ≤ 1000) then (es.mapM (trH T v iv n sc)).map .tup else none
    | _ => none
def trHd (T : Tr) (sc : Scope) : ExceptHandler → Option (Ty × Nat × Ms.E)
  | .ExceptHandler (some (.Name x _)) (some v) [.Return (some e) _] _ => match excTy T sc x, idxOf v T.N with
    | some t, some i => if decide (sc.names.lookup v = some .local) then (trH T v i 10 sc e).map fun e' => (t, i, e') else none
    | _, _ => none
  | _ => none
def isCstS : Expr → Bool
  | .Constant (.str w) _ _ => decide (w.length ≤ 1000)
  | _ => false
mutual
def trS (T : Tr) : Nat → Scope → Stmt → M Ms.S
  | 0, _, _ => none
  | n + 1, sc, st => match st with
    | .Assign [tg] e _ => M.chk (asgOk sc tg e) ((trE T n sc e).andThen fun x => (trLg T n sc tg).andThen fun g => M.ok (.set g x))
    | .AugAssign (.Name x _) op e _ => match binOf op, trTg T sc 1 (.Name x ⟨0, 0, 0, 0⟩) with
      | some o, some (.v i) => (trE T n sc e).andThen fun y => M.ok (.aug i o y)
      | _, _ => none
    | .If c a b _ => M.chk (tst 20 c) ((trE T n sc c).andThen fun c => (trSs T n sc a).andThen fun a => (trSs T n sc b).andThen fun b => M.ok (.ife c a b))
    | .While c a [] _ => M.chk (tst 20 c) ((trE T n sc c).andThen fun c => (trSs T n sc a).andThen fun a => M.ok (.whl c a))
    | .For tg iter body [] _ => match trTg T sc 5 tg with
      | some g => (trI T n sc tg iter).andThen fun kl => (trSs T n sc body).andThen fun a => M.ok (.for_ g kl.1 kl.2 a)
      | none => none
    | .Return (some e) _ => (trE T n sc e).andThen fun x => M.ok (.ret x)
    | .Raise (some (.Call (.Name x _) [e] [] _)) none _ => M.chk (isGl sc x && noStarB e) (match T.gt.lookup x with
      | some (.ex c true s) => M.chk (!s || isCstS e) ((trA T n sc [e]).andThen fun l => M.ok (.rse c l))
      | _ => none)
    | .Expr e _ => M.chk (notComp e) ((trE T n sc e).andThen fun x => M.ok (.ex x))
    | .Try body (h :: hds) [] [] _ => (trSs T n sc body).andThen fun a => match (h :: hds).mapM (trHd T sc) with
      | some l => M.ok (.tri a l)
      | none => none
    | .Pass _ => M.ok .pas
    | .Continue _ => M.ok .cont
    | _ => none
def trSs (T : Tr) : Nat → Scope → List Stmt → M (List Ms.S)
  | 0, _, _ => none
  | _ + 1, _, [] => M.ok []
  | n + 1, sc, s :: l => (trS T n sc s).andThen fun x => (trSs T n sc l).andThen fun r => M.ok (x :: r)
end
end Ms

-- So39
set_option linter.all false
set_option Elab.async false
set_option maxRecDepth 10000
/-! The translator's statements hold in the model: targets. -/
namespace Ms
open PySem L2 PySem.Spec PyProof.Rows
section
variable {G : Top} {n : Nat} {T : Tr} {sc : Scope} {X : Cx} {W : WX} {j : Nat} {ls : List LI} {C : Cl} {fr : Fr}
structure SndL (G : Top) (n : Nat) : Prop where
  l : ∀ {T : Tr} {sc : Scope} {X : Cx} {W : WX} {j : Nat} {e : Expr} {g : Lg} {ls : List LI}, Fits G T sc X W j → trLg T n sc e = some (g, ls) → LIok G T X ls → ∀ fr, PG X e (gL G (callN G.P j) fr W g)
  ls : ∀ {T : Tr} {sc : Scope} {X : Cx} {W : WX} {j : Nat} {es : List Expr} {g : List Lg} {ls : List LI}, Fits G T sc X W j → trLgs T n sc es = some (g, ls) → LIok G T X ls → ∀ fr, PGs X es (gLs G (callN G.P j) fr W g) ∧ g.length = es.length ∧ ∀ e ∈ es, NoStar e
theorem sndL_l (ih : SndL G n) {e : Expr} {g : Lg} (F : Fits G T sc X W j) (h : trLg T (n + 1) sc e = some (g, ls)) (hl : LIok G T X ls) (fr : Fr) : PG X e (gL G (callN G.P j) fr W g) := by
  rw [trLg.eq_def] at h
  split at h
  · cases h
  · rename_i heq
    cases heq
    split at h
    · split at h
      · rename_i hx hi
        obtain ⟨rfl, rfl⟩ := M.ok_some h
        exact l_name F.xo.nd (by rw [F.top.N]; exact idxOf_some hi) (.inl (F.scr.loc _ hx)) (.inr (F.scr.loc _ hx))
      · rename_i hx hi
        obtain ⟨rfl, rfl⟩ := M.ok_some h
        exact l_name F.xo.nd (by rw [F.top.N]; exact idxOf_some hi) (.inr (F.scr.cel _ hx)) (.inl (F.fn _ hx))
      · cases h
    · obtain ⟨hb, h⟩ := M.chk_some h
      obtain ⟨x, l1, l2, h1, h2, rfl⟩ := M.andThen_some h
      obtain ⟨rfl, rfl⟩ := M.ok_some h2
      exact l_att F.go ((snd n).e F h1 hl.l fr).1
    · rename_i o i pos
      obtain ⟨hb, h⟩ := M.chk_some h
      obtain ⟨x, l1, l2, h1, h2, rfl⟩ := M.andThen_some h
      obtain ⟨y, l3, l4, h3, h4, rfl⟩ := M.andThen_some h2
      obtain ⟨rfl, rfl⟩ := M.ok_some h4
      refine l_sub F.xo (fun v => ?_) ((snd n).e F h1 hl.l fr).1 ((snd n).e F h3 hl.r.l fr).1
      cases i <;> first | rfl | cases hb
    · obtain ⟨x, l1, l2, h1, h2, rfl⟩ := M.andThen_some h
      obtain ⟨rfl, rfl⟩ := M.ok_some h2
      obtain ⟨q1, q2, q3⟩ := ih.ls F h1 hl.l fr
      exact l_tup F.xo.calm q2 q3 q1
    · cases h
theorem sndL_ls (ih : SndL G n) {es : List Expr} {g : List Lg} (F : Fits G T sc X W j) (h : trLgs T (n + 1) sc es = some (g, ls)) (hl : LIok G T X ls) (fr : Fr) : PGs X es (gLs G (callN G.P j) fr W g) ∧ g.length = es.length ∧ ∀ e ∈ es, NoStar e := by
  cases es with
  | nil =>
    rw [trLgs] at h
    obtain ⟨rfl, rfl⟩ := M.ok_some h
    exact ⟨ls_nil, rfl, fun _ m => by cases m⟩
  | cons e es =>
    rw [trLgs] at h
    obtain ⟨hs, h⟩ := M.chk_some h
    obtain ⟨x, l1, l2, h1, h2, rfl⟩ := M.andThen_some h
    obtain ⟨y, l3, l4, h3, h4, rfl⟩ := M.andThen_some h2
    obtain ⟨rfl, rfl⟩ := M.ok_some h4
    obtain ⟨q1, q2, q3⟩ := ih.ls F h3 hl.r.l fr
    refine ⟨ls_cons (noStar_by hs) (ih.l F h1 hl.l fr) q1, congrArg Nat.succ q2, fun z m => ?_⟩
    rcases List.mem_cons.mp m with rfl | m
    · exact noStar_by hs
    · exact q3 z m
theorem sndL : ∀ n : Nat, SndL G n
  | 0 => ⟨fun _ h => by (rw [trLg] at h; cases h), fun _ h => by (rw [trLgs] at h; cases h)⟩
  | n + 1 => ⟨fun F h hl fr => sndL_l (sndL n) F h hl fr, fun F h hl fr => sndL_ls (sndL n) F h hl fr⟩
/-! ### which stores are swapped -/
theorem swC_ok {e tg : Expr} {l : Nat} {env : PySem.Env} (hk : env.scope.kind = .function) (hs : env.scope = sc) : swapsWith e (some tg) l env = pure (swC sc e tg) := by
  have hb : env.blockKind = .function := by unfold Env.blockKind; rw [hk]; rfl
  subst hs
  unfold swapsWith swC
  cases e <;> first | rfl | skip
  all_goals cases tg <;> first | rfl | skip
  all_goals simp only [hb, PySem.Env.kindOf]
  all_goals rfl
end
end Ms

-- So40
set_option linter.all false
set_option Elab.async false
set_option maxRecDepth 10000
/-! Which stores are swapped. -/
namespace Ms
open PySem L2 PySem.Spec PyProof.Rows
theorem swIfs {c1 b1 b2 b3 b4 b5 : Bool} {N : List Str} {bad : Sem (Option (List Str))} {r : Option (List Str)} (hc : c1 = b1) (h : (if b1 = true then some none else if b2 = true then some none else if b3 = true then some none else if b4 = true then some none else if b5 = true then none else some (some N)) = some r) :
    (if c1 = true then pure none else if b2 = true then pure none else if b3 = true then pure none else if b4 = true then pure none else if b5 = true then bad else pure (some N)) = (pure r : Sem (Option (List Str))) := by
  subst hc
  cases c1
  · cases b2
    · cases b3
      · cases b4
        · cases b5
          · cases h; rfl
          · cases h
        · cases h; rfl
      · cases h; rfl
    · cases h; rfl
  · cases h; rfl
theorem swS_ok {sc : Scope} {tg e : Expr} {env : PySem.Env} {r : Option (List Str)} (hk : env.scope.kind = .function) (hs : env.scope = sc) (h : swS sc tg e = some r) : swappedStores [tg] e env = pure r := by
  have hb : env.blockKind = .function := by unfold Env.blockKind; rw [hk]; rfl
  subst hs
  unfold swS at h
  split at h
  · cases h
  · unfold swappedStores
    simp only [hb, PySem.Env.kindOf]
    exact swIfs (by simp) h
  · rename_i h1 h2
    cases h
    unfold swappedStores
    split
    · rename_i ts vs hh
      split at hh
      · rename_i q1 q2
        cases q1
        exact (h2 _ _ _ _ _ _ (List.cons.inj q2).1 rfl).elim
      · rename_i q1 q2
        cases q1
        exact (h1 _ _ _ _ _ (List.cons.inj q2).1 rfl).elim
      · cases hh
    · rfl
end Ms

-- So41
set_option linter.all false
set_option Elab.async false
set_option maxRecDepth 10000
/-! The translator's statements hold in the model: where they stand, except suites. -/
namespace Ms
open PySem L2 PySem.Spec PyProof.Rows
structure FitS (G : Top) (T : Tr) (sc : Scope) (X : Cx) (W : WX) (j : Nat) : Prop extends Fits G T sc X W j where
  scq : X.env.scope = sc
  kind : X.env.scope.kind = .function
  pass : PassesOwn (model X.prog X.w) X.A X.env X.xe
  gx : GX G X.prog X.K X.mg
  stk : X.stack = X.env :: X.outer
  frame : X.env.frame = some X.env.locals
  nexc : T.gt.lookup ("Exception" : Str) = none → X.mg ("Exception" : Str) = none
section
variable {G : Top} {n : Nat} {T : Tr} {sc : Scope} {X : Cx} {W : WX} {j : Nat} {ls : List LI} {C : Cl} {fr : Fr}
theorem FitS.tr (F : FitS G T sc X W j) {W' : WX} {pn : List (Addr × Obj)} {xe : Value → Shared → Prop} (tk : Takes (X.tr pn xe) W') (hp : PassesOwn (model X.prog X.w) X.A X.env xe) : FitS G T sc (X.tr pn xe) W' j where
  top := ⟨F.top.N, F.top.gv, F.top.nob⟩
  lk := F.lk
  scr := F.scr
  go := F.go
  xo := ⟨F.xo.calm, F.xo.nd, F.xo.room, tk⟩
  fn := F.fn
  ow := fun h => ⟨(F.ow h).fn, (F.ow h).kind⟩
  scq := F.scq
  kind := F.kind
  pass := hp
  gx := F.gx
  stk := F.stk
  frame := F.frame
  nexc := F.nexc
theorem LIok.tr {pn : List (Addr × Obj)} {xe : Value → Shared → Prop} (h : LIok G T X ls) : LIok G T (X.tr pn xe) ls := fun d li m => by
  obtain ⟨a, b, c, e⟩ := h d li m
  exact ⟨a, b, c, e⟩
theorem snd_h (F : FitS G T sc X W j) {v : Str} {iv : Nat} (hiv : T.N[iv]? = some v) {a : Addr} {oe : Obj} {cls : Value} {d : Option Addr} {pn : List (Addr × Obj)} (c : Nat) (l : List D) (hz : Zc cls d oe) (hf : ∃ vs, oe.data = .fields vs) :
    ∀ (n : Nat) {e : Expr} {e' : Ms.E}, trH T v iv n sc e = some e' → PE (X.suite a ((a, oe) :: pn)) e (tH G c l iv e' a cls d) := by
  intro n
  induction n with
  | zero => intro e e' h; rw [trH] at h; cases h
  | succ n ih =>
    intro e e' h
    have vr : ∀ {x : Str} {pos : Pos} {i : Nat}, isVar sc x = true → idxOf x T.N = some i → PE (X.suite a ((a, oe) :: pn)) (.Name x pos) (tVar i) := fun hv hi => by
      obtain ⟨v, d1, d2⟩ := vis_by hv
      exact pe_var (X := X.suite a ((a, oe) :: pn)) (show X.N[_]? = _ by rw [F.top.N]; exact idxOf_some hi) (F.scr.vis v) d1 d2
    rw [trH.eq_def] at h
    split at h
    · cases h
    · rename_i heq
      cases heq
      split at h
      · split at h
        · rename_i hv
          obtain ⟨i, hi, rfl⟩ := Option.map_eq_some_iff.mp h
          exact h_var (vr hv hi)
        · cases h
      · obtain ⟨d', hd, rfl⟩ := Option.map_eq_some_iff.mp h
        unfold cstOf at hd
        split at hd
        · cases hd; exact h_cst pe_non fun φ H => by simp only [ValR]
        · cases hd; exact h_cst pe_bl fun φ H => by simp only [ValR]
        · cases hd; exact h_cst pe_int fun φ H => by simp only [ValR]
        · cases hd; exact h_cst pe_str fun φ H => by simp only [ValR]
        · cases hd
      · split at h
        · rename_i hv
          cases h
          rw [Bool.and_eq_true, decide_eq_true_eq] at hv
          obtain ⟨hv, hxv⟩ := hv
          subst hxv
          obtain ⟨u, d1, d2⟩ := vis_by hv
          exact h_att (X := X) F.gx hz hf (pe_var (X := X.suite a ((a, oe) :: pn)) (show X.N[_]? = _ by rw [F.top.N]; exact hiv) (F.scr.vis u) d1 d2) rfl
        · cases h
      · split at h
        · rename_i hs
          rw [Bool.and_eq_true, decide_eq_true_eq] at hs
          obtain ⟨l', hm, rfl⟩ := Option.map_eq_some_iff.mp h
          have key : ∀ {f : Expr → Option Ms.E} (ihf : ∀ {e : Expr} {e' : Ms.E}, f e = some e' → PE (X.suite a ((a, oe) :: pn)) e (tH G c l iv e' a cls d)) {es : List Expr} {l' : List Ms.E}, es.mapM f = some l' → (∀ e ∈ es, NoStar e) → PA (X.suite a ((a, oe) :: pn)) es (tHs G c l iv l' a cls d) ∧ l'.length = es.length := by
            intro f ihf es
            induction es with
            | nil =>
              intro l' hm _
              simp at hm
              subst hm
              exact ⟨hs_nil, rfl⟩
            | cons e es ihs =>
              intro l' hm ns
              rw [List.mapM_cons] at hm
              simp only [Option.bind_eq_bind, Option.bind_eq_some_iff, Option.pure_def, Option.some.injEq] at hm
              obtain ⟨x, hx, y, hy, rfl⟩ := hm
              obtain ⟨p1, p2⟩ := ihs hy fun e m => ns e (List.mem_cons_of_mem _ m)
              exact ⟨hs_cons (ns e List.mem_cons_self) (ihf hx) p1, congrArg Nat.succ p2⟩
          obtain ⟨p1, p2⟩ := key ih hm fun e m => noStar_by (List.all_eq_true.mp hs.1 e m)
          exact h_tup (by rw [p2]; exact hs.2) p1
        · cases h
      · cases h
theorem snd_hd (F : FitS G T sc X W j) {hd : ExceptHandler} {t : Ty} {i : Nat} {e' : Ms.E} {hds : List ExceptHandler} {r : List (Ty × Nat × Ms.E)} (h : trHd T sc hd = some (t, i, e')) (hr : HdOk G X hds r) : HdOk G X (hd :: hds) ((t, i, e') :: r) := by
  unfold trHd at h
  split at h
  · rename_i x np v e rp pp
    split at h
    · rename_i t' i' ht hi
      split at h
      · rename_i hl
        obtain ⟨e2, he, hh⟩ := Option.map_eq_some_iff.mp h
        cases hh
        have hN := idxOf_some hi
        unfold excTy at ht
        split at ht
        · rename_i hg
          obtain ⟨g1, g2, g3⟩ := F.gl hg
          have loc : X.env.kindOf v = some .local := by
            unfold Env.kindOf
            rw [F.scq]
            exact of_decide_eq_true hl
          split at ht
          · rename_i c b hc
            cases ht
            obtain ⟨a, ha, hm, _⟩ := F.top.gv _ _ hc
            exact .cons (tv := .ref a) ⟨g1, g2, .inl hm⟩ ⟨a, ha, rfl⟩ (by rw [F.top.N]; exact hN) loc (fun a oe cls d pn c l hz hf => snd_h F hN c l hz hf 10 he) hr
          · cases ht
          · rename_i hno
            split at ht
            · rename_i hx
              cases ht
              subst hx
              exact .cons (tv := .type "Exception") ⟨g1, g2, .inr ⟨F.nexc hno, by decide +kernel, g3⟩⟩ ⟨rfl, rfl⟩ (by rw [F.top.N]; exact hN) loc (fun a oe cls d pn c l hz hf => snd_h F hN c l hz hf 10 he) hr
            · cases ht
        · cases ht
      · cases h
    · cases h
  · cases h
theorem snd_hds (F : FitS G T sc X W j) : ∀ {hds : List ExceptHandler} {r : List (Ty × Nat × Ms.E)}, hds.mapM (trHd T sc) = some r → HdOk G X hds r
  | [], r, h => by simp at h; subst h; exact .nil
  | hd :: hds, r, h => by
    rw [List.mapM_cons] at h
    simp only [Option.bind_eq_bind, Option.bind_eq_some_iff, Option.pure_def, Option.some.injEq] at h
    obtain ⟨⟨t, i, e'⟩, hx, y, hy, rfl⟩ := h
    exact snd_hd F hx (snd_hds F hy)
end
end Ms

-- So42
set_option linter.all false
set_option Elab.async false
set_option maxRecDepth 10000
/-! The translator's assignments hold in the model. -/
namespace Ms
open PySem L2 PySem.Spec PyProof.Rows
section
variable {G : Top} {n : Nat} {T : Tr} {sc : Scope} {X : Cx} {W : WX} {j : Nat} {ls : List LI} {C : Cl} {fr : Fr}
/-- name = [..], name = {..}, the comprehension's frame handing the value over -/
theorem snd_setLc {y : Str} {py spos : Pos} {elt tg iter : Expr} {ifs : List Expr} {scope : Scope} {pos : Pos} {e' : Ms.E} {g' : Lg} {l1 l2 : List LI} (F : FitS G T sc X W j) (hsw : swC sc (.ListComp elt [⟨tg, iter, ifs, 0⟩] scope pos) (.Name y py) = true)
    (h : trE T n sc (.ListComp elt [⟨tg, iter, ifs, 0⟩] scope pos) = some (e', l1)) (hg' : trLg T n sc (.Name y py) = some (g', l2)) (hl : LIok G T X l1) (fr : Fr) : PS X (.Assign [.Name y py] (.ListComp elt [⟨tg, iter, ifs, 0⟩] scope pos) spos) (tSt G (callN G.P j) fr W (.set g' e')) := by
  have hsw0 := swC_ok (e := .ListComp elt [⟨tg, iter, ifs, 0⟩] scope pos) (tg := .Name y py) (l := spos.line) F.kind F.scq
  rw [hsw] at hsw0
  have hloc : sc.names.lookup y = some .local := by
    unfold swC at hsw
    simp only [Bool.and_eq_true, beq_iff_eq] at hsw
    exact hsw.1.1
  cases n with
  | zero => rw [trE] at h; cases h
  | succ n =>
    have ih := snd (G := G) n
    rw [trLg] at hg'
    rw [hloc] at hg'
    split at hg'
    · rename_i i hx hi
      obtain ⟨rfl, rfl⟩ := M.ok_some hg'
      rw [trE] at h
      split at h
      · rename_i own g ho hg
        obtain ⟨hb, h⟩ := M.chk_some h
        rw [Bool.and_eq_true] at hb
        obtain ⟨⟨k, l⟩, l1, l2, h1, h2, rfl⟩ := M.andThen_some h
        obtain ⟨c, l3, l4, h3, h4, rfl⟩ := M.andThen_some h2
        obtain ⟨x, l5, l6, h5, h6, rfl⟩ := M.andThen_some h4
        obtain ⟨rfl, rfl⟩ := M.ok_some h6
        refine s_setLc F.xo (by rw [F.top.N]; exact idxOf_some hi) (by rw [F.scq]; exact hloc) hsw0 (fun fr => ih.i F.toFits h1 hl.l fr) (F.toFits.blkOk hb.1) (fun fr s H Cc cl fp => snd_tg (F.toFits.blk (own := own) s H Cc cl fp) hg fr) (fun fr s H Cc cl fp => ih.c (F.toFits.blk (own := own) s H Cc cl fp) h3 fr)
          (fun fr s H Cc cl fp => (ih.e (F.toFits.blk (own := own) s H Cc cl fp) h5 LIok.no fr).1) (fun x => fold_by (trI_noSet h1) x) fun i hi => ?_
        exact List.contains_iff_mem.mp (List.all_eq_true.mp hb.2 i hi)
      · cases h
    · rename_i hx hi
      cases hx
    · cases hg'
theorem snd_setDc {y : Str} {py spos : Pos} {kx vx tg iter : Expr} {ifs : List Expr} {scope : Scope} {pos : Pos} {e' : Ms.E} {g' : Lg} {l1 l2 : List LI} (F : FitS G T sc X W j) (hsw : swC sc (.DictComp kx vx [⟨tg, iter, ifs, 0⟩] scope pos) (.Name y py) = true)
    (h : trE T n sc (.DictComp kx vx [⟨tg, iter, ifs, 0⟩] scope pos) = some (e', l1)) (hg' : trLg T n sc (.Name y py) = some (g', l2)) (hl : LIok G T X l1) (fr : Fr) : PS X (.Assign [.Name y py] (.DictComp kx vx [⟨tg, iter, ifs, 0⟩] scope pos) spos) (tSt G (callN G.P j) fr W (.set g' e')) := by
  have hsw0 := swC_ok (e := .DictComp kx vx [⟨tg, iter, ifs, 0⟩] scope pos) (tg := .Name y py) (l := spos.line) F.kind F.scq
  rw [hsw] at hsw0
  have hloc : sc.names.lookup y = some .local := by
    unfold swC at hsw
    simp only [Bool.and_eq_true, beq_iff_eq] at hsw
    exact hsw.1.1
  cases n with
  | zero => rw [trE] at h; cases h
  | succ n =>
    have ih := snd (G := G) n
    rw [trLg] at hg'
    rw [hloc] at hg'
    split at hg'
    · rename_i i hx hi
      obtain ⟨rfl, rfl⟩ := M.ok_some hg'
      rw [trE] at h
      split at h
      · rename_i own g ho hg
        obtain ⟨hb, h⟩ := M.chk_some h
        rw [Bool.and_eq_true] at hb
        obtain ⟨⟨k, l⟩, l1, l2, h1, h2, rfl⟩ := M.andThen_some h
        obtain ⟨c, l3, l4, h3, h4, rfl⟩ := M.andThen_some h2
        obtain ⟨u, l5, l6, h5, h6, rfl⟩ := M.andThen_some h4
        obtain ⟨x, l7, l8, h7, h8, rfl⟩ := M.andThen_some h6
        obtain ⟨rfl, rfl⟩ := M.ok_some h8
        refine s_setDc F.xo (by rw [F.top.N]; exact idxOf_some hi) (by rw [F.scq]; exact hloc) hsw0 (fun fr => ih.i F.toFits h1 hl.l fr) (F.toFits.blkOk hb.1) (fun fr s H Cc cl fp => snd_tg (F.toFits.blk (own := own) s H Cc cl fp) hg fr) (fun fr s H Cc cl fp => ih.c (F.toFits.blk (own := own) s H Cc cl fp) h3 fr)
          (fun fr s H Cc cl fp => (ih.e (F.toFits.blk (own := own) s H Cc cl fp) h5 LIok.no fr).1) (fun fr s H Cc cl fp => (ih.e (F.toFits.blk (own := own) s H Cc cl fp) h7 LIok.no fr).1) (fun x => fold_by (trI_noSet h1) x) fun i hi => ?_
        exact List.contains_iff_mem.mp (List.all_eq_true.mp hb.2 i hi)
      · cases h
    · rename_i hx hi
      cases hx
    · cases hg'
theorem lg_loc {x : Str} {p : Pos} {g : Lg} {l : List LI} (h : trLg T n sc (.Name x p) = some (g, l)) (hx : sc.names.lookup x = some .local) : ∃ i, idxOf x T.N = some i ∧ g = .v i := by
  cases n with
  | zero => rw [trLg] at h; cases h
  | succ n =>
    rw [trLg] at h
    rw [hx] at h
    split at h
    · rename_i i _ hi
      obtain ⟨rfl, _⟩ := M.ok_some h
      exact ⟨i, hi, rfl⟩
    · rename_i hh _
      cases hh
    · cases h
theorem lgs_one {e : Expr} {es : List Expr} {g : List Lg} {l : List LI} (h : trLgs T n sc (e :: es) = some (g, l)) : ∃ m x r a b, trLg T m sc e = some (x, a) ∧ trLgs T m sc es = some (r, b) ∧ g = x :: r := by
  cases n with
  | zero => rw [trLgs] at h; cases h
  | succ n =>
    rw [trLgs] at h
    obtain ⟨hs, h⟩ := M.chk_some h
    obtain ⟨x, l1, l2, h1, h2, rfl⟩ := M.andThen_some h
    obtain ⟨y, l3, l4, h3, h4, rfl⟩ := M.andThen_some h2
    obtain ⟨rfl, rfl⟩ := M.ok_some h4
    exact ⟨n, x, y, _, _, h1, h3, rfl⟩
theorem lgs_nil {g : List Lg} {l : List LI} (h : trLgs T n sc [] = some (g, l)) : g = [] := by
  cases n with
  | zero => rw [trLgs] at h; cases h
  | succ n =>
    rw [trLgs] at h
    exact (M.ok_some h).1
theorem lg_tup {es : List Expr} {k : Nat} {p : Pos} {g : Lg} {l : List LI} (h : trLg T n sc (.Tuple es k p) = some (g, l)) : ∃ m r a, trLgs T m sc es = some (r, a) ∧ g = .t r := by
  cases n with
  | zero => rw [trLg] at h; cases h
  | succ n =>
    rw [trLg] at h
    obtain ⟨x, l1, l2, h1, h2, rfl⟩ := M.andThen_some h
    obtain ⟨rfl, rfl⟩ := M.ok_some h2
    exact ⟨n, x, _, h1, rfl⟩
theorem e_tup {es : List Expr} {k : Nat} {p : Pos} {e' : Ms.E} {l : List LI} (h : trE T n sc (.Tuple es k p) = some (e', l)) : ∃ m r, trA T m sc es = some (r, l) ∧ e' = .tup r := by
  cases n with
  | zero => rw [trE] at h; cases h
  | succ n =>
    rw [trE] at h
    obtain ⟨x, l1, l2, h1, h2, rfl⟩ := M.andThen_some h
    obtain ⟨rfl, rfl⟩ := M.ok_some h2
    exact ⟨n, x, by rw [List.append_nil]; exact h1, rfl⟩
theorem idx_ne {x y : Str} {i k : Nat} {N : List Str} (h1 : idxOf x N = some i) (h2 : idxOf y N = some k) (h : x ≠ y) : i ≠ k := fun z => by
  subst z
  have a := idxOf_some h1
  rw [idxOf_some h2] at a
  exact h (Option.some.inj a).symm
theorem swS_two {x y : Str} {px py pt pt2 : Pos} {k k2 : Nat} {a b : Expr} {N : List Str} (h : swS sc (.Tuple [.Name x px, .Name y py] k pt) (.Tuple [a, b] k2 pt2) = some (some N)) : N = [x, y] ∧ sc.names.lookup x = some .local ∧ sc.names.lookup y = some .local := by
  unfold swS at h
  simp only at h
  split at h
  · cases h
  · split at h
    · cases h
    · split at h
      · cases h
      · rename_i hn
        split at h
        · cases h
        · split at h
          · cases h
          · cases h
            cases h1 : (sc.names.lookup x == some .local && px.line == (([Expr.Name x px, Expr.Name y py].head?.map (·.pos.line)).getD 0)) with
            | false =>
              exfalso
              simp only [List.filterMap_cons, List.filterMap_nil, h1, Bool.false_eq_true, if_false, Bool.or_eq_true, bne_iff_ne, ne_eq, not_or, Decidable.not_not] at hn
              have := hn.1
              split at this <;> simp at this
            | true =>
              cases h2 : (sc.names.lookup y == some .local && py.line == (([Expr.Name x px, Expr.Name y py].head?.map (·.pos.line)).getD 0)) with
              | false =>
                exfalso
                simp only [List.filterMap_cons, List.filterMap_nil, h1, h2, if_true, Bool.false_eq_true, if_false, Bool.or_eq_true, bne_iff_ne, ne_eq, not_or, Decidable.not_not] at hn
                have := hn.1
                simp at this
              | true =>
                simp only [List.filterMap_cons, List.filterMap_nil, h1, h2, if_true]
                simp only [Bool.and_eq_true, beq_iff_eq] at h1 h2
                exact ⟨trivial, h1.1, h2.1⟩
theorem fm_len {α β : Type} {f : α → Option β} : ∀ {l : List α}, (l.filterMap f).length = l.length → ∀ x ∈ l, (f x).isSome = true
  | [], _, x, m => by cases m
  | a :: l, h, x, m => by
    have hl := List.length_filterMap_le f l
    cases e : f a with
    | none =>
      rw [List.filterMap_cons, e, List.length_cons] at h
      simp only at h
      omega
    | some b =>
      rw [List.filterMap_cons, e, List.length_cons] at h
      simp only [List.length_cons, Nat.add_right_cancel_iff] at h
      rcases List.mem_cons.mp m with rfl | m
      · rw [e]; rfl
      · exact fm_len h x m
theorem swS_three {x y z : Str} {px py pz pt pt2 : Pos} {k k2 : Nat} {a b c : Expr} {N : List Str} (h : swS sc (.Tuple [.Name x px, .Name y py, .Name z pz] k pt) (.Tuple [a, b, c] k2 pt2) = some (some N)) : N = [x, y, z] ∧ sc.names.lookup x = some .local ∧ sc.names.lookup y = some .local ∧ sc.names.lookup z = some .local := by
  unfold swS at h
  simp only at h
  split at h
  · cases h
  · split at h
    · cases h
    · split at h
      · cases h
      · rename_i hn
        split at h
        · cases h
        · split at h
          · cases h
          · cases h
            simp only [Bool.or_eq_true, bne_iff_ne, ne_eq, not_or, Decidable.not_not] at hn
            have q := fm_len hn.1
            have h1 := q (.Name x px) (by simp)
            have h2 := q (.Name y py) (by simp)
            have h3 := q (.Name z pz) (by simp)
            simp only at h1 h2 h3
            split at h1
            · rename_i g1
              split at h2
              · rename_i g2
                split at h3
                · rename_i g3
                  simp only [List.filterMap_cons, List.filterMap_nil, g1, g2, g3, if_true]
                  simp only [Bool.and_eq_true, beq_iff_eq] at g1 g2 g3
                  exact ⟨trivial, g1.1, g2.1, g3.1⟩
                · cases h3
              · cases h2
            · cases h1
end
end Ms

-- So43
set_option linter.all false
set_option Elab.async false
set_option maxRecDepth 10000
/-! The translator's assignments hold in the model: joined. -/
namespace Ms
open PySem L2 PySem.Spec PyProof.Rows
section
variable {G : Top} {n : Nat} {T : Tr} {sc : Scope} {X : Cx} {W : WX} {j : Nat} {ls : List LI} {C : Cl} {fr : Fr}
theorem tA_tup {es : List Expr} {l : List Ms.E} {p : Pos} {m : Nat} {l1 : List LI} (F : FitS G T sc X W j) (h : trA T m sc es = some (l, l1)) (hl : LIok G T X l1) (fr : Fr) : PA X es (tA G (callN G.P j) fr W l) := ((snd m).a F.toFits h hl fr).1
theorem snd_par {x y : Str} {px py pt pt2 pos : Pos} {kt k2 : Nat} {a b : Expr} {e' : Ms.E} {g : Lg} {N : List Str} {l1 l2 : List LI} (F : FitS G T sc X W j) (hs : swS sc (.Tuple [.Name x px, .Name y py] kt pt) (.Tuple [a, b] k2 pt2) = some (some N)) (hxy : x ≠ y)
    (he : trE T n sc (.Tuple [a, b] k2 pt2) = some (e', l1)) (hg : trLg T n sc (.Tuple [.Name x px, .Name y py] kt pt) = some (g, l2)) (hl : LIok G T X l1) (fr : Fr) :
    PS X (.Assign [.Tuple [.Name x px, .Name y py] kt pt] (.Tuple [a, b] k2 pt2) pos) (tSt G (callN G.P j) fr W (.set g e')) := by
  obtain ⟨rfl, hx, hy⟩ := swS_two hs
  obtain ⟨m, r, h1, rfl⟩ := e_tup he
  obtain ⟨a', b', rfl⟩ := trA_two h1
  obtain ⟨m2, g2, l3, h2, rfl⟩ := lg_tup hg
  obtain ⟨m3, u, r3, l4, l5, h3, h4, rfl⟩ := lgs_one h2
  obtain ⟨m4, v, r4, l6, l7, h5, h6, rfl⟩ := lgs_one h4
  obtain rfl := lgs_nil h6
  obtain ⟨i, hi, rfl⟩ := lg_loc h3 hx
  obtain ⟨k, hk, rfl⟩ := lg_loc h5 hy
  exact s_par F.xo (by rw [F.top.N]; exact idxOf_some hi) (by rw [F.top.N]; exact idxOf_some hk) (idx_ne hi hk hxy) (by rw [F.scq]; exact hx) (by rw [F.scq]; exact hy) (swS_ok F.kind F.scq hs) (tA_tup (p := pos) F h1 hl fr)
theorem snd_par3 {x y z : Str} {px py pz pt pt2 pos : Pos} {kt k2 : Nat} {a b c : Expr} {e' : Ms.E} {g : Lg} {N : List Str} {l1 l2 : List LI} (F : FitS G T sc X W j) (hs : swS sc (.Tuple [.Name x px, .Name y py, .Name z pz] kt pt) (.Tuple [a, b, c] k2 pt2) = some (some N)) (hxy : x ≠ y) (hxz : x ≠ z) (hyz : y ≠ z)
    (he : trE T n sc (.Tuple [a, b, c] k2 pt2) = some (e', l1)) (hg : trLg T n sc (.Tuple [.Name x px, .Name y py, .Name z pz] kt pt) = some (g, l2)) (hl : LIok G T X l1) (fr : Fr) :
    PS X (.Assign [.Tuple [.Name x px, .Name y py, .Name z pz] kt pt] (.Tuple [a, b, c] k2 pt2) pos) (tSt G (callN G.P j) fr W (.set g e')) := by
  obtain ⟨rfl, hx, hy, hz⟩ := swS_three hs
  obtain ⟨m, r, h1, rfl⟩ := e_tup he
  have hlen := trA_len h1
  match r, hlen, h1 with
  | [a', b', c'], _, h1 =>
    obtain ⟨m2, g2, l3, h2, rfl⟩ := lg_tup hg
    obtain ⟨m3, u, r3, l4, l5, h3, h4, rfl⟩ := lgs_one h2
    obtain ⟨m4, v, r4, l6, l7, h5, h6, rfl⟩ := lgs_one h4
    obtain ⟨m5, w, r5, l8, l9, h7, h8, rfl⟩ := lgs_one h6
    obtain rfl := lgs_nil h8
    obtain ⟨i, hi, rfl⟩ := lg_loc h3 hx
    obtain ⟨k, hk, rfl⟩ := lg_loc h5 hy
    obtain ⟨q, hq, rfl⟩ := lg_loc h7 hz
    exact s_par3 F.xo (by rw [F.top.N]; exact idxOf_some hi) (by rw [F.top.N]; exact idxOf_some hk) (by rw [F.top.N]; exact idxOf_some hq) (idx_ne hi hk hxy) (idx_ne hi hq hxz) (idx_ne hk hq hyz) (by rw [F.scq]; exact hx) (by rw [F.scq]; exact hy) (by rw [F.scq]; exact hz) (swS_ok F.kind F.scq hs) (tA_tup (p := pos) F h1 hl fr)
theorem snd_asg {tg e : Expr} {e' : Ms.E} {g : Lg} {l1 l2 : List LI} {pos : Pos} (F : FitS G T sc X W j) (ha : asgOk sc tg e = true) (he : trE T n sc e = some (e', l1)) (hg : trLg T n sc tg = some (g, l2)) (h1 : LIok G T X l1) (h2 : LIok G T X l2) (fr : Fr) :
    PS X (.Assign [tg] e pos) (tSt G (callN G.P j) fr W (.set g e')) := by
  unfold asgOk at ha
  split at ha
  · rename_i hs
    rw [Bool.and_eq_true, Bool.or_eq_true, Bool.not_eq_true'] at ha
    obtain ⟨hst, hsw⟩ := ha
    cases hc : swC sc e tg with
    | false =>
      have hw := swC_ok (e := e) (tg := tg) (l := pos.line) F.kind F.scq
      rw [hc] at hw
      exact s_set (noStar_by hst) hw (swS_ok F.kind F.scq hs) ((snd n).e F.toFits he h1 fr).1 ((sndL n).l F.toFits hg h2 fr)
    | true =>
      rw [hc] at hsw
      rcases hsw with z | z
      · cases z
      · have ht : ∃ y py, tg = .Name y py := by
          unfold swC at hc
          split at hc
          · exact ⟨_, _, rfl⟩
          · cases hc
        obtain ⟨y, py, rfl⟩ := ht
        split at z
        · exact snd_setLc F hc he hg h1 fr
        · exact snd_setDc F hc he hg h1 fr
        · cases z
  · rename_i N hs
    split at ha
    · rename_i x px y py kt pt a b k2 pt2
      exact snd_par F hs (of_decide_eq_true ha) he hg h1 fr
    · simp only [Bool.and_eq_true, decide_eq_true_eq] at ha
      exact snd_par3 F hs ha.1.1 ha.1.2 ha.2 he hg h1 fr
    · cases ha
  · cases ha
end
end Ms

-- So44
set_option linter.all false
set_option Elab.async false
set_option maxRecDepth 10000
/-! The translator's statements hold in the model. -/
namespace Ms
open PySem L2 PySem.Spec PyProof.Rows
theorem cstS_by {T : Tr} {n : Nat} {sc : Scope} {e : Expr} {e' : Ms.E} {ls : List LI} (hb : (!true || isCstS e) = true) (h : trA T n sc [e] = some ([e'], ls)) : ∃ w : Str, e' = .cst (.str w) ∧ w.length ≤ 1000 := by
  have hb : isCstS e = true := hb
  unfold isCstS at hb
  split at hb
  · rename_i w _ _
    cases n with
    | zero => rw [trA] at h; cases h
    | succ n =>
      rw [trA] at h
      obtain ⟨_, h⟩ := M.chk_some h
      obtain ⟨x, l1, l2, h1, h2, _⟩ := M.andThen_some h
      obtain ⟨y, l3, l4, h3, h4, _⟩ := M.andThen_some h2
      obtain ⟨q, _⟩ := M.ok_some h4
      cases q
      cases n with
      | zero => rw [trE] at h1; cases h1
      | succ n =>
        rw [trE] at h1
        simp only [cstOf] at h1
        obtain ⟨q, _⟩ := M.ok_some h1
        exact ⟨_, q, of_decide_eq_true hb⟩
  · cases hb
structure SndS (G : Top) (n : Nat) : Prop where
  s : ∀ {T : Tr} {sc : Scope} {X : Cx} {W : WX} {j : Nat} {st : Stmt} {s' : Ms.S} {ls : List LI}, FitS G T sc X W j → trS T n sc st = some (s', ls) → LIok G T X ls → ∀ fr, PS X st (tSt G (callN G.P j) fr W s')
  ss : ∀ {T : Tr} {sc : Scope} {X : Cx} {W : WX} {j : Nat} {l : List Stmt} {l' : List Ms.S} {ls : List LI}, FitS G T sc X W j → trSs T n sc l = some (l', ls) → LIok G T X ls → ∀ fr, PSs X l (tSs G (callN G.P j) fr W l')
section
variable {G : Top} {n : Nat} {T : Tr} {sc : Scope} {X : Cx} {W : WX} {j : Nat} {ls : List LI} {C : Cl} {fr : Fr}
theorem sndS_ss (ih : SndS G n) {l : List Stmt} {l' : List Ms.S} (F : FitS G T sc X W j) (h : trSs T (n + 1) sc l = some (l', ls)) (hl : LIok G T X ls) (fr : Fr) : PSs X l (tSs G (callN G.P j) fr W l') := by
  cases l with
  | nil =>
    rw [trSs] at h
    obtain ⟨rfl, rfl⟩ := M.ok_some h
    exact ss_nil
  | cons s l =>
    rw [trSs] at h
    obtain ⟨x, l1, l2, h1, h2, rfl⟩ := M.andThen_some h
    obtain ⟨y, l3, l4, h3, h4, rfl⟩ := M.andThen_some h2
    obtain ⟨rfl, rfl⟩ := M.ok_some h4
    exact ss_cons (ih.s F h1 hl.l fr) (ih.ss F h3 hl.r.l fr)
theorem sndS_s (ih : SndS G n) {st : Stmt} {s' : Ms.S} (F : FitS G T sc X W j) (h : trS T (n + 1) sc st = some (s', ls)) (hl : LIok G T X ls) (fr : Fr) : PS X st (tSt G (callN G.P j) fr W s') := by
  have E := snd (G := G) n
  rw [trS.eq_def] at h
  split at h
  · cases h
  · rename_i heq
    cases heq
    split at h
    · -- assignment
      obtain ⟨ha, h⟩ := M.chk_some h
      obtain ⟨x, l1, l2, h1, h2, rfl⟩ := M.andThen_some h
      obtain ⟨y, l3, l4, h3, h4, rfl⟩ := M.andThen_some h2
      obtain ⟨rfl, rfl⟩ := M.ok_some h4
      exact snd_asg F ha h1 h3 hl.l hl.r.l fr
    · -- name op= value
      split at h
      · rename_i o i ho hi
        obtain ⟨x, l1, l2, h1, h2, rfl⟩ := M.andThen_some h
        obtain ⟨rfl, rfl⟩ := M.ok_some h2
        rw [← binOf_some ho]
        rw [trTg] at hi
        split at hi
        · rename_i hx hq
          cases hi
          exact s_aug F.xo (by rw [F.top.N]; exact idxOf_some hq) (.inl (F.scr.loc _ hx)) (.inr (F.scr.loc _ hx)) (E.e F.toFits h1 hl.l fr).1
        · rename_i hx hq
          cases hi
          exact s_aug F.xo (by rw [F.top.N]; exact idxOf_some hq) (.inr (F.scr.cel _ hx)) (.inl (F.fn _ hx)) (E.e F.toFits h1 hl.l fr).1
        · cases hi
      · cases h
    · -- if
      obtain ⟨hb, h⟩ := M.chk_some h
      obtain ⟨x, l1, l2, h1, h2, rfl⟩ := M.andThen_some h
      obtain ⟨y, l3, l4, h3, h4, rfl⟩ := M.andThen_some h2
      obtain ⟨z, l5, l6, h5, h6, rfl⟩ := M.andThen_some h4
      obtain ⟨rfl, rfl⟩ := M.ok_some h6
      exact s_ife ((E.e F.toFits h1 hl.l fr).2 20 hb) (ih.ss F h3 hl.r.l fr) (ih.ss F h5 hl.r.r.l fr)
    · -- while
      obtain ⟨hb, h⟩ := M.chk_some h
      obtain ⟨x, l1, l2, h1, h2, rfl⟩ := M.andThen_some h
      obtain ⟨y, l3, l4, h3, h4, rfl⟩ := M.andThen_some h2
      obtain ⟨rfl, rfl⟩ := M.ok_some h4
      exact s_whl F.pass ((E.e F.toFits h1 hl.l fr).2 20 hb) (ih.ss F h3 hl.r.l fr)
    · -- for
      split at h
      · rename_i g hg
        obtain ⟨⟨k, l⟩, l1, l2, h1, h2, rfl⟩ := M.andThen_some h
        obtain ⟨y, l3, l4, h3, h4, rfl⟩ := M.andThen_some h2
        obtain ⟨rfl, rfl⟩ := M.ok_some h4
        exact s_for F.xo F.pass (fun fr => E.i F.toFits h1 hl.l fr) (fun fr => snd_tg F.toFits hg fr) (fun fr => ih.ss F h3 hl.r.l fr) fun x => fold_by (trI_noSet h1) x
      · cases h
    · -- return
      obtain ⟨x, l1, l2, h1, h2, rfl⟩ := M.andThen_some h
      obtain ⟨rfl, rfl⟩ := M.ok_some h2
      exact s_ret (E.e F.toFits h1 hl.l fr).1
    · -- raise
      obtain ⟨hb, h⟩ := M.chk_some h
      rw [Bool.and_eq_true] at hb
      obtain ⟨g1, g2, g3⟩ := F.gl hb.1
      split at h
      · rename_i c sb hc
        obtain ⟨hsb, h⟩ := M.chk_some h
        obtain ⟨x, l1, l2, h1, h2, rfl⟩ := M.andThen_some h
        obtain ⟨rfl, rfl⟩ := M.ok_some h2
        obtain ⟨a, ha, hm, hq⟩ := F.top.gv _ _ hc
        obtain ⟨ec, fl, hec, hfl, htx⟩ := hq rfl
        obtain ⟨e', rfl⟩ := trA_one h1
        refine s_rse F.gx F.xo ha hec hfl g1 hm g2 (noStar_by hb.2) ?_ (E.a F.toFits h1 hl.l fr).1
        cases sb with
        | false => exact .inl (htx rfl)
        | true => exact .inr (cstS_by hsb h1)
      · cases h
    · -- an expression
      obtain ⟨hb, h⟩ := M.chk_some h
      obtain ⟨x, l1, l2, h1, h2, rfl⟩ := M.andThen_some h
      obtain ⟨rfl, rfl⟩ := M.ok_some h2
      refine s_ex (E.e F.toFits h1 hl.l fr).1 ?_
      unfold swapsWith
      rename_i e _ _
      cases e <;> first | rfl | cases hb
    · -- try
      obtain ⟨x, l1, l2, h1, h2, rfl⟩ := M.andThen_some h
      split at h2
      · rename_i hs
        obtain ⟨rfl, rfl⟩ := M.ok_some h2
        exact s_tri F.gx F.xo F.stk F.frame (fun W' pn xe tk hp => ih.ss (F.tr tk hp) h1 hl.l.tr fr) (snd_hds F hs)
      · cases h2
    · obtain ⟨rfl, rfl⟩ := M.ok_some h
      exact s_pas
    · obtain ⟨rfl, rfl⟩ := M.ok_some h
      exact s_cont
    · cases h
theorem sndS : ∀ n : Nat, SndS G n
  | 0 => ⟨fun _ h => by (rw [trS] at h; cases h), fun _ h => by (rw [trSs] at h; cases h)⟩
  | n + 1 => ⟨fun F h hl fr => sndS_s (sndS n) F h hl fr, fun F h hl fr => sndS_ss (sndS n) F h hl fr⟩
end
end Ms

-- So45
set_option linter.all false
set_option Elab.async false
set_option maxRecDepth 10000
/-! How arguments are bound. -/
namespace Ms
open PySem L2 PySem.Spec PyProof.Rows
theorem lookup_zip {α : Type} {ps : List Str} {us : List α} (nd : ps.Nodup) (hl : us.length = ps.length) : ps.filterMap (fun n => ((ps.zip us).lookup n).map (n, ·)) = ps.zip us := by
  induction ps generalizing us with
  | nil => simp
  | cons p ps ih =>
    match us, hl with
    | u :: us, hl =>
      have hl : us.length = ps.length := by simpa using hl
      rw [List.nodup_cons] at nd
      simp only [List.zip_cons_cons, List.filterMap_cons, List.lookup_cons, beq_self_eq_true, Option.map_some]
      congr 1
      refine Eq.trans ?_ (ih nd.2 hl)
      have key : ∀ l : List Str, (∀ n ∈ l, n ≠ p) → l.filterMap (fun n => (match n == p with | true => some u | false => (ps.zip us).lookup n).map (n, ·)) = l.filterMap (fun n => ((ps.zip us).lookup n).map (n, ·)) := by
        intro l
        induction l with
        | nil => intro _; rfl
        | cons n l ihl =>
          intro h
          have : (n == p) = false := by
            cases e : n == p with
            | false => rfl
            | true => exact absurd (beq_iff_eq.mp e) (h n List.mem_cons_self)
          rw [List.filterMap_cons, List.filterMap_cons, this, ihl fun n hn => h n (List.mem_cons_of_mem _ hn)]
      exact key ps fun n hn z => nd.1 (by rw [← z]; exact hn)
theorem lookup_zip_some {α : Type} {ps : List Str} {us : List α} (hl : us.length = ps.length) {n : Str} (hn : n ∈ ps) : ((ps.zip us).lookup n).isNone = false := by
  induction ps generalizing us with
  | nil => cases hn
  | cons p ps ih =>
    match us, hl with
    | u :: us, hl =>
      rw [List.zip_cons_cons, List.lookup_cons]
      cases e : n == p with
      | true => rfl
      | false =>
        rcases List.mem_cons.mp hn with rfl | h
        · simp at e
        · exact ih (by simpa using hl) h
theorem bind_plain {fd : FuncData} {us : List Value} {args : List Arg} {dfl : List Expr} (hp : fd.params = ⟨[], args, none, [], [], none, dfl⟩) (hd : fd.defaults = .none) (hl : us.length = args.length) (nd : (args.map (·.arg)).Nodup) :
    bindArgs fd ⟨us, []⟩ = pure ((args.map (·.arg)).zip us) := by
  unfold bindArgs
  rw [hd]
  simp only [hp]
  have e1 : seqItems? Value.none = pure none := rfl
  have e2 : args.filterMap ((fun n => ((List.map (fun x : Arg => x.arg) args).zip us |>.lookup n).map (n, ·)) ∘ fun x => x.arg) = (args.map (·.arg)).zip us := by
    rw [← List.filterMap_map]
    exact lookup_zip nd (by simpa using hl)
  have e3 : ∀ k, (((args.map (·.arg)).take k).filter fun n => (((args.map (·.arg)).zip us).lookup n).isNone).isEmpty = true := fun k => by
    rw [List.isEmpty_iff, List.filter_eq_nil_iff]
    intro n hn
    rw [lookup_zip_some (by simpa using hl) (List.mem_of_mem_take hn)]
    simp
  simp [e1, hl, e2, e3]

/-- the defaults' loop -/
theorem dfl_loop {α : Type} : ∀ (l : List (Str × α)) (s : List (Str × α)), (l.map (·.1)).Nodup →
    l.foldl (fun s p => if (s.lookup p.1).isNone then s ++ [p] else s) s = s ++ l.filter fun p => (s.lookup p.1).isNone
  | [], s, _ => by simp
  | p :: l, s, nd => by
    rw [List.map_cons, List.nodup_cons] at nd
    rw [List.foldl_cons, List.filter_cons]
    split
    · rename_i h
      rw [dfl_loop l _ nd.2, List.append_assoc]
      show s ++ (p :: _) = s ++ (p :: _)
      congr 2
      refine List.filter_congr fun q hq => ?_
      have hne : (q.1 == p.1) = false := by
        cases e : q.1 == p.1 with
        | false => rfl
        | true => exact absurd (List.mem_map_of_mem (f := (·.1)) hq) (by rw [beq_iff_eq.mp e]; exact nd.1)
      rw [List.lookup_append]
      cases (s.lookup q.1) with
      | some v => rfl
      | none =>
        rw [List.lookup_cons, hne]
        rfl
    · rw [dfl_loop l _ nd.2]
theorem forIn_dfl : ∀ (l : List (Str × Value)) (s : List (Str × Value)),
    (forIn l s fun x s => if (s.lookup x.1).isNone = true then (pure (ForInStep.yield (s ++ [(x.1, x.2)])) : Sem _) else pure (ForInStep.yield s)) = pure (l.foldl (fun s p => if (s.lookup p.1).isNone then s ++ [p] else s) s)
  | [], s => by simp
  | p :: l, s => by
    rw [List.forIn_cons, List.foldl_cons]
    cases h : (s.lookup p.1).isNone with
    | true =>
      simp only [if_true, pure_bind]
      exact forIn_dfl l _
    | false =>
      simp only [Bool.false_eq_true, if_false, pure_bind]
      exact forIn_dfl l _
theorem filt_all {ps : List Str} {us its : List Value} {j : Nat} (nd : ps.Nodup) (hj : j ≤ its.length) (hm : its.length ≤ ps.length) (hl : us.length + (its.length - j) = ps.length) :
    ps.zip us ++ ((ps.drop (ps.length - its.length)).zip its).filter (fun p => ((ps.zip us).lookup p.1).isNone) = ps.zip (us ++ its.drop j) := by
  have hn : us.length ≤ ps.length := by omega
  have e1 : ps = ps.take us.length ++ ps.drop us.length := (List.take_append_drop _ _).symm
  have e2 : ps.zip us = (ps.take us.length).zip us := by
    conv => lhs; rw [e1, ← List.append_nil us]
    rw [List.zip_append (by simp; omega)]
    simp
  have e3 : ps.drop (ps.length - its.length) = (ps.drop (ps.length - its.length)).take j ++ ps.drop us.length := by
    conv => lhs; rw [← List.take_append_drop j (ps.drop (ps.length - its.length))]
    rw [List.drop_drop, show ps.length - its.length + j = us.length by omega]
  have e4 : (ps.drop (ps.length - its.length)).zip its = ((ps.drop (ps.length - its.length)).take j).zip (its.take j) ++ (ps.drop us.length).zip (its.drop j) := by
    have e7 : its = its.take j ++ its.drop j := (List.take_append_drop j its).symm
    generalize hA : its.take j = A at e7 ⊢
    generalize hB : its.drop j = B at e7 ⊢
    have lA : A.length = j := by rw [← hA, List.length_take]; omega
    rw [e3]
    rw [show (((ps.drop (ps.length - its.length)).take j ++ ps.drop us.length).zip its) = (((ps.drop (ps.length - its.length)).take j ++ ps.drop us.length).zip (A ++ B)) from by rw [← e7]]
    rw [List.zip_append (by simp; omega)]
    congr 2
    rw [List.take_append_of_le_length (by simp; omega), List.take_take, Nat.min_self]
  have e5 : ps.zip (us ++ its.drop j) = (ps.take us.length).zip us ++ (ps.drop us.length).zip (its.drop j) := by
    conv => lhs; rw [e1]
    rw [List.zip_append (by simp; omega)]
  rw [e5, e4, List.filter_append, e2]
  congr 1
  have nd2 : (ps.take us.length ++ ps.drop us.length).Nodup := by rw [← e1]; exact nd
  have f1 : (((ps.drop (ps.length - its.length)).take j).zip (its.take j)).filter (fun p => (((ps.take us.length).zip us).lookup p.1).isNone) = [] := by
    rw [List.filter_eq_nil_iff]
    intro p hp
    have hp1 : p.1 ∈ (ps.drop (ps.length - its.length)).take j := (List.of_mem_zip (a := p.1) (b := p.2) hp).1
    have hp2 : p.1 ∈ ps.take us.length := by
      obtain ⟨i, hi, hi2⟩ := List.mem_iff_getElem.mp hp1
      rw [List.length_take, List.length_drop] at hi
      rw [List.getElem_take, List.getElem_drop] at hi2
      rw [← hi2]
      refine List.mem_iff_getElem.mpr ⟨ps.length - its.length + i, by rw [List.length_take]; omega, by rw [List.getElem_take]⟩
    rw [lookup_zip_some (by simp; omega) hp2]
    simp
  have f2 : ((ps.drop us.length).zip (its.drop j)).filter (fun p => (((ps.take us.length).zip us).lookup p.1).isNone) = (ps.drop us.length).zip (its.drop j) := by
    rw [List.filter_eq_self]
    intro p hp
    have hp1 : p.1 ∈ ps.drop us.length := (List.of_mem_zip (a := p.1) (b := p.2) hp).1
    cases e : ((ps.take us.length).zip us).lookup p.1 with
    | none => rfl
    | some v =>
      have := (List.of_mem_zip (look_in e)).1
      exact absurd rfl ((List.nodup_append.mp nd2).2.2 _ this _ hp1)
  rw [f1, f2, List.nil_append]
theorem bind_dfl {fd : FuncData} {us its : List Value} {args : List Arg} {dfl : List Expr} {T : Addr} {j : Nat} (hp : fd.params = ⟨[], args, none, [], [], none, dfl⟩) (hd : fd.defaults = .ref T) (hj : j ≤ its.length) (hm : its.length ≤ args.length) (hl : us.length + (its.length - j) = args.length) (nd : (args.map (·.arg)).Nodup) :
    ∃ k, bindArgs fd ⟨us, []⟩ = seqItems? (.ref T) >>= k ∧ k (some its.toArray) = pure ((args.map (·.arg)).zip (us ++ its.drop j)) := by
  have hu : us.length ≤ args.length := by omega
  have e0 : its.length - args.length = 0 := by omega
  have em : (((args.map (·.arg)).take (args.length - its.length)).filter fun n => (((args.map (·.arg)).zip us).lookup n).isNone).isEmpty = true := by
    rw [List.isEmpty_iff, List.filter_eq_nil_iff]
    intro n hn
    have e2 : (args.map (·.arg)).zip us = ((args.map (·.arg)).take us.length).zip us := by
      conv => lhs; rw [← List.take_append_drop us.length (args.map (·.arg)), ← List.append_nil us]
      rw [List.zip_append (by simp; omega)]
      simp
    have : n ∈ (args.map (·.arg)).take us.length := by
      obtain ⟨i, hi, hi2⟩ := List.mem_iff_getElem.mp hn
      rw [List.length_take] at hi
      rw [List.getElem_take] at hi2
      rw [← hi2]
      exact List.mem_iff_getElem.mpr ⟨i, by rw [List.length_take]; omega, by rw [List.getElem_take]⟩
    rw [e2, lookup_zip_some (by simp; omega) this]
    simp
  unfold bindArgs
  rw [hd]
  simp only [hp]
  refine ⟨_, rfl, ?_⟩
  have q := filt_all (ps := args.map (·.arg)) nd hj (by simpa using hm) (by simpa using hl)
  rw [List.length_map] at q
  have q2 := dfl_loop ((List.drop (args.length - its.length) (args.map (·.arg))).zip its) ((args.map (·.arg)).zip us) (by
    rw [List.map_fst_zip (by simp; omega)]
    exact nd.sublist (List.drop_sublist _ _))
  rw [q] at q2
  have q3 := lookup_zip (ps := args.map (·.arg)) (us := us ++ its.drop j) nd (by simp; omega)
  simp only [List.map_nil, List.nil_append, List.length_map, Option.getD_some, e0, List.drop_zero, em, forIn_dfl, q2]
  have q4 : args.filterMap ((fun n => (((args.map (·.arg)).zip (us ++ its.drop j)).lookup n).map (n, ·)) ∘ fun x => x.arg) = (args.map (·.arg)).zip (us ++ its.drop j) := by
    rw [← List.filterMap_map]
    exact q3
  simp [q4, Nat.not_lt.mpr hu]
end Ms

-- So46
set_option linter.all false
set_option Elab.async false
set_option maxRecDepth 10000
/-! A def of the text keeps what the machine says. -/
namespace Ms
open PySem L2 PySem.Spec PyProof.Rows
/-- a def of the text, its slots -/
structure Dd where
  d : He.DefD
  N : List Str
structure Spec where
  defs : List Dd
  cls : List Str
  exs : List Str
  gt : List (Str × Gv)
  lamN : List ((Nat × Nat) × Nat)
  P : Prog
  fuel : Nat
def Spec.T (S : Spec) (d : Dd) : Tr := ⟨d.N, S.gt, S.lamN, true⟩
def argsOf : Arguments → Option (List Str)
  | ⟨[], args, none, [], [], none, _⟩ => some (args.map (·.arg))
  | _ => none
def nodupB : List Str → Bool
  | [] => true
  | x :: l => !l.contains x && nodupB l
theorem nodupB_ok : ∀ {l : List Str}, nodupB l = true → l.Nodup
  | [], _ => List.nodup_nil
  | x :: l, h => by
    unfold nodupB at h
    rw [Bool.and_eq_true, Bool.not_eq_true'] at h
    rw [List.nodup_cons]
    exact ⟨fun m => (by rw [List.contains_iff_mem.mpr m] at h; exact Bool.noConfusion h.1), nodupB_ok h.2⟩
def isK (a : Option NameKind) (b : NameKind) : Bool := match a with
  | some k => k == b
  | none => false
theorem isK_ok {a : Option NameKind} {b : NameKind} (h : isK a b = true) : a = some b := by
  cases a with
  | none => cases h
  | some k => rw [show k = b from beq_iff_eq.mp h]
def scOk (N ps : List Str) (sc : Scope) : Bool := sc.kind == .function && (!sc.isCoroutine && (!sc.isGenerator && (nodupB N && (N.take ps.length == ps && (ps.all (fun x => isK (sc.names.lookup x) .local || isK (sc.names.lookup x) .cell) && (sc.names.all (fun y => !(y.2 == .free)) && nodupB (sc.names.map (·.1))))))))
theorem scOk_ok {N ps : List Str} {sc : Scope} (h : scOk N ps sc = true) : FnScope N ps sc ∧ (sc.names.map (·.1)).Nodup := by
  unfold scOk at h
  simp only [Bool.and_eq_true, Bool.not_eq_true', beq_iff_eq, List.all_eq_true, Bool.or_eq_true] at h
  obtain ⟨h1, h2, h3, h4, h5, h6, h7, h8⟩ := h
  refine ⟨⟨h1, h2, h3, nodupB_ok h4, h5, fun x hx => ?_, fun y hy z => ?_⟩, nodupB_ok h8⟩
  · rcases h6 x hx with q | q
    · exact .inl (isK_ok q)
    · exact .inr (isK_ok q)
  · have := h7 y hy
    rw [z] at this
    cases this
def trDf (S : Spec) (d : Dd) : Option (Df × List LI) := match argsOf d.d.params with
  | some ps => if scOk d.N ps d.d.scope && (nodupB ps && (d.d.kwd.isEmpty && decide (d.d.dfl.length ≤ ps.length))) then
      match trSs (S.T d) S.fuel d.d.scope d.d.body with
      | some (b, ls) => some (⟨ps.length, d.N.length, b⟩, ls)
      | none => none
    else none
  | none => none
/-- the lambdas' name within a def -/
def lamQ (q : Str) : Str := (q ++ ".<locals>." : Str) ++ "<lambda>"
theorem look_nd {α : Type} {x : Str} {k : α} : ∀ {l : List (Str × α)}, (l.map (·.1)).Nodup → (x, k) ∈ l → l.lookup x = some k
  | [], _, h => by cases h
  | (y, v) :: l, nd, h => by
    rw [List.map_cons, List.nodup_cons] at nd
    rw [List.lookup_cons]
    rcases List.mem_cons.mp h with z | z
    · cases z
      simp
    · have hne : (x == y) = false := by
        cases e : x == y with
        | false => rfl
        | true => exact absurd (List.mem_map_of_mem (f := (·.1)) z) (by rw [show x = y from beq_iff_eq.mp e]; exact nd.1)
      rw [hne]
      exact look_nd nd.2 z
theorem cells_kind {x : Str} {c : Addr} : ∀ (names : List (Str × NameKind)) (n : Nat) (acc : List (Str × Addr)), (cellsFrom n names acc).lookup x = some c → (x, NameKind.cell) ∈ names ∨ acc.lookup x = some c
  | [], _, _, h => .inr h
  | (y, k) :: r, n, acc, h => by
    unfold cellsFrom at h
    split at h
    · rename_i hk
      rcases cells_kind r _ _ h with q | q
      · exact .inl (List.mem_cons_of_mem _ q)
      · rw [List.lookup_cons] at q
        split at q
        · rename_i e
          rw [show x = y from beq_iff_eq.mp e, show k = .cell from beq_iff_eq.mp hk]
          exact .inl List.mem_cons_self
        · exact .inr q
    · rcases cells_kind r _ _ h with q | q
      · exact .inl (List.mem_cons_of_mem _ q)
      · exact .inr q
section
variable {G : Top} {φ : List Gh} {H : Hp} {fr : Fr} {m : Mem}
theorem envR_start {N : List Str} : ∀ {ds : List D} {vs : List V}, ValsR G φ H ds vs → EnvR G φ H (startE N.length ds) (L2.start N vs) := fun {ds vs} h => by
  have hl := h.length
  refine ⟨by simp [startE, L2.start, hl], fun i d hi => ?_⟩
  unfold startE at hi
  unfold L2.start
  by_cases hlt : i < ds.length
  · rw [List.getElem?_append_left (by simpa using hlt), List.getElem?_map] at hi
    cases e : ds[i]? with
    | none => rw [e] at hi; cases hi
    | some d' =>
      rw [e] at hi
      cases hi
      obtain ⟨v, h1, h2⟩ := h.get e
      exact ⟨v, by rw [List.getElem?_append_left (by simp [hl]; exact hlt), List.getElem?_map, h1]; rfl, h2⟩
  · rw [List.getElem?_append_right (by simpa using hlt)] at hi
    rw [List.getElem?_replicate] at hi
    split at hi <;> cases hi
end
section
variable {G : Top} {S : Spec} {P : Program} {w : World} {K : PySem.W.Frag} {mg : Str → Option Value} {base : Heap}
/-- what the top gives to every def -/
structure TopG (G : Top) (S : Spec) (K : PySem.W.Frag) (mg : Str → Option Value) : Prop where
  gv : ∀ x g, S.gt.lookup x = some g → GvR G K mg x g
  nob : ∀ x, S.gt.lookup x = none → x ∈ bltTab.map (·.1) ++ itTab.map (·.1) ++ tyTab.map (·.1) ++ [("isinstance" : Str)] → mg x = none
  nexc : S.gt.lookup ("Exception" : Str) = none → mg ("Exception" : Str) = none
/-- a lambda's row -/
structure LiOk (G : Top) (d : Dd) (li : LI) : Prop where
  lam : G.lam li.1 = some ⟨lamQ d.d.qual, li.2.1, li.2.2.1, li.2.2.2, d.N⟩
  dfl : li.2.1.defaults = [] ∧ li.2.1.kwonlyargs = [] ∧ li.2.1.kw_defaults = []
  free : ∀ y ∈ li.2.2.2.names, y.2 = .free → d.d.scope.names.lookup y.1 = some .cell
def TabG (G : Top) (K : PySem.W.Frag) (mg : Str → Option Value) (base : Heap) (d : Dd) (f : Addr) : Prop := ∀ oc od fd osl, K.lookup f = some ⟨oc, od, .func fd, osl⟩ → ∃ c Pt, fd.code = .ref c ∧ LamX.TabB base mg c Pt ∧ (Pt, lamQ d.d.qual) ∈ G.T ∧ ∀ p ∈ G.T, p.1 = Pt → p.2 = lamQ d.d.qual
theorem dfl_nil {p : Arguments} {env : PySem.Env} (h : p.defaults = [] ∧ p.kwonlyargs = [] ∧ p.kw_defaults = []) : defaultsOf p env = ([], []) := by
  obtain ⟨a, b, c, d, e, f, g⟩ := p
  obtain ⟨rfl, _, rfl⟩ := h
  rfl
def LamsG (G : Top) (P : Program) (w : World) (K : PySem.W.Frag) (mg : Str → Option Value) (base : Heap) (i : Nat) : Prop := ∀ X : Cx, X.prog = P → X.w = w → X.K = K → X.mg = mg → X.base = base → LamsOk G X i
theorem df_ok {d : Dd} {df : Df} {lis : List LI} {ps : List Str} {dvs : List V} {f : Addr} {fd : FuncData} {k i : Nat} (h : trDf S d = some (df, lis)) (hps : argsOf d.d.params = some ps) (F : FunD K d.d.name d.d.qual d.d.params d.d.body d.d.scope dvs [] f fd) (hP : G.P.defs[k]? = some df)
    (tp : TopG G S K mg) (go : GO G P w K mg base i) (gx : GX G P K mg) (lk : LamsG G P w K mg base i) (li : ∀ l ∈ lis, LiOk G d l) (tb : lis ≠ [] → TabG G K mg base d f) : FnOk P w K mg base (L2.CX P w) (i + 2) f fd ps (spD G (i + 1) (.df k)) := by
  unfold trDf at h
  rw [hps] at h
  simp only at h
  split at h
  · rename_i hc
    rw [Bool.and_eq_true] at hc
    obtain ⟨sc, nd⟩ := scOk_ok hc.1
    split at h
    · rename_i b ls hb
      obtain ⟨rfl, hls⟩ := Prod.mk.inj (Option.some.inj h)
      subst hls
      obtain ⟨oc, od, dV, kV, doc, pm, an, cdv, ct, osl, rfl, lkp, hcd, _, _⟩ := F.ex
      refine fn_of lkp hcd sc (fun vs H Q E q => ?_) fun A outer s H vs Q E hr hsp => ?_
      · obtain ⟨φ, fr, m, ds, sr, rv, p⟩ := q
        simp only [callN, hP] at p
        split at p
        · rename_i hl
          rw [rv.length]
          exact hl
        · exact p.elim
      · obtain ⟨φ, fr, m, ds, sr, rv, p⟩ := hsp
        simp only [callN, hP] at p
        split at p
        · rename_i hl
          have FS : FitS G (S.T d) d.d.scope (cxOf (L2.CX P w) P w K mg base d.N d.d.qual d.d.scope f cdv A outer s H E) (fun cls dd _ H => E cls dd H) i := {
            top := ⟨rfl, tp.gv, tp.nob⟩
            lk := lk _ rfl rfl rfl rfl rfl
            scr := ScR.refl
            go := go
            xo := ⟨rfl, sc.nd, hr, takes_of rfl rfl rfl rfl⟩
            fn := fun _ _ => rfl
            ow := fun _ => ⟨fun _ => rfl, fun x c hx => by
              rcases cells_kind _ _ _ hx with q | q
              · exact look_nd nd q
              · cases q⟩
            scq := rfl
            kind := sc.kind
            pass := passes_of rfl
            gx := gx
            stk := rfl
            frame := rfl
            nexc := tp.nexc }
          have hli : LIok G (S.T d) (cxOf (L2.CX P w) P w K mg base d.N d.d.qual d.d.scope f cdv A outer s H E) ls := fun _ l hm => by
            obtain ⟨h1, h2, h3⟩ := li l hm
            obtain ⟨c, Pt, e1, e2, e3, e4⟩ := tb (fun z => by rw [z] at hm; cases hm) _ _ _ _ lkp
            refine ⟨h1, ⟨c, Pt, e2, e1, e3, e4⟩, dfl_nil h2, fun y hy hf => ?_⟩
            exact cell_has (h3 y hy hf)
          refine ⟨_, (sndS S.fuel).ss FS hb hli fr, φ, m, _, sr, envR_start rv, ?_⟩
          generalize exes G.P (callN G.P i) fr b (startE d.N.length ds) m = rr at p
          cases rr with
          | nx ρ m' => exact fun φ' H' σ' e s2 _ => p φ' H' e s2 .non rnon
          | rt v m' => exact fun φ' H' e s2 u ru => p φ' H' e s2 u ru
          | exc c l ρ m' => exact fun φ' H' σ' e s2 _ => p φ' H' e s2
          | ct ρ m' => exact p.elim
          | bad => exact p.elim
        · exact p.elim
    · cases h
  · cases h
end
end Ms

-- So47
set_option linter.all false
set_option Elab.async false
set_option maxRecDepth 10000
/-! What the top must hold: told as tests, read off the heap. -/
namespace Ms
open PySem L2 PySem.Spec PyProof.Rows
def Spec.pl (S : Spec) (k : Nat) : Str × Option Str := match S.defs[k]? with
  | some d => d.d.at_
  | none => ("", none)
def Spec.fA (S : Spec) (K : PySem.W.Frag) (k : Nat) : Addr := He.fAd K (S.pl k)
def Spec.cN (S : Spec) (c : Nat) : Str := S.cls.getD c ""
def Spec.eN (S : Spec) (c : Nat) : Str := S.exs.getD c ""
/-- a def's defaults as they stand -/
def itsOf (K : PySem.W.Frag) (p : Str × Option Str) : List Value := match K.lookup (He.fAd K p) with
  | some ⟨_, _, .func fd, _⟩ => (match fd.defaults with
    | .ref T => (match K.lookup T with
      | some ⟨_, _, .seq its _, _⟩ => its.toList
      | _ => [])
    | _ => [])
  | _ => []
def Spec.dvL (S : Spec) (K : PySem.W.Frag) (k : Nat) : List (V × Value) := match S.defs[k]? with
  | some d => (d.d.dvs K).zip (itsOf K d.d.at_)
  | none => []
def Spec.G (S : Spec) (K : PySem.W.Frag) (tabs : List (Addr × Str)) (lams : List (Nat × LamT)) : Top where
  P := S.P
  df := fun k => if k < S.defs.length then some (S.fA K k) else none
  cl := fun c => if c < S.cls.length then some (He.ga K (S.cN c)) else none
  ex := fun c => if c < S.exs.length then some (He.ga K (S.eN c)) else none
  lam := fun k => lams.lookup k
  T := tabs
  dv := S.dvL K
def gaIs (K : PySem.W.Frag) (x : Str) (a : Addr) : Bool := He.eqO (PySem.W.nsIn K mainGlobals x) (some (some (.ref a)))
def dvD : He.Dv → D → Bool
  | .non, .non => true
  | .bl b, .bl c => b == c
  | .int i, .int j => decide (i = j)
  | .str x, .str y => decide (x = y)
  | _, _ => false
def dvDs : List He.Dv → List D → Bool
  | [], [] => true
  | v :: vs, d :: ds => dvD v d && dvDs vs ds
  | _, _ => false
def cstB : D → Value → Bool
  | .non, .none => true
  | .bl b, .bool c => b == c
  | .int i, .int j _ => decide (i = j)
  | .str x, .str y _ => decide (x = y)
  | _, _ => false
theorem cstB_ok {d : D} {u : Value} (h : cstB d u = true) : ∃ v, RelV v u ∧ ∀ G φ H, ValR G φ H d v := by
  unfold cstB at h
  split at h
  · exact ⟨.non, rfl, fun _ _ _ => by simp only [ValR]⟩
  · rename_i b c
    obtain rfl : b = c := beq_iff_eq.mp h
    exact ⟨.bl b, rfl, fun _ _ _ => by simp only [ValR]⟩
  · rename_i i j t
    obtain rfl : i = j := of_decide_eq_true h
    exact ⟨.int i, ⟨t, rfl⟩, fun _ _ _ => by simp only [ValR]⟩
  · rename_i x y t
    obtain rfl : x = y := of_decide_eq_true h
    exact ⟨.str x, ⟨t, rfl⟩, fun _ _ _ => by simp only [ValR]⟩
  · cases h
theorem dvD_ok {K : PySem.W.Frag} {v : He.Dv} {d : D} (h : dvD v d = true) : ∀ G φ H, ValR G φ H d (v.v K) := by
  intro G φ H
  unfold dvD at h
  split at h
  · simp only [ValR]; rfl
  · rename_i b c
    obtain rfl : b = c := beq_iff_eq.mp h
    simp only [ValR]; rfl
  · rename_i i j
    obtain rfl : i = j := of_decide_eq_true h
    simp only [ValR]; rfl
  · rename_i x y
    obtain rfl : x = y := of_decide_eq_true h
    simp only [ValR]; rfl
  · cases h
theorem dvDs_ok {K : PySem.W.Frag} : ∀ {vs : List He.Dv} {ds : List D}, dvDs vs ds = true → ∀ G φ H, ValsR G φ H ds (vs.map (He.Dv.v K))
  | [], [], _, G, φ, H => .nil
  | v :: vs, d :: ds, h, G, φ, H => by
    unfold dvDs at h
    rw [Bool.and_eq_true] at h
    exact .cons (dvD_ok h.1 G φ H) (dvDs_ok h.2 G φ H)
  | [], _ :: _, h, _, _, _ => by cases h
  | _ :: _, [], h, _, _, _ => by cases h
/-- a name of the top -/
def gvB (S : Spec) (K : PySem.W.Frag) : Str × Gv → Bool
  | (x, .df k np dl) => decide (k < S.defs.length) && (gaIs K x (S.fA K k) && (match S.defs[k]? with
    | some d => dvDs d.d.dfl dl
    | none => false))
  | (x, .ct c np dl) => decide (c < S.cls.length) && (gaIs K x (He.ga K (S.cN c)) && ((S.P.clss[c]?).isSome && dl.isEmpty))
  | (x, .ex c b s) => decide (c < S.exs.length) && (gaIs K x (He.ga K (S.eN c)) && (!b || (match S.P.excs[c]? with
    | some e => e.fld.isSome && (s || e.text == 0)
    | none => false)))
  | (x, .cst d) => (match PySem.W.nsIn K mainGlobals x with
    | some (some u) => cstB d u
    | _ => false)
def nobN : List Str := bltTab.map (·.1) ++ itTab.map (·.1) ++ tyTab.map (·.1) ++ [("isinstance" : Str)]
def nobB (S : Spec) (K : PySem.W.Frag) : Bool := (nobN ++ [("Exception" : Str)]).all fun x => (S.gt.lookup x).isSome || He.eqO (PySem.W.nsIn K mainGlobals x) (some none)
section
variable {S : Spec} {K : PySem.W.Frag} {h : Heap} {mg : Str → Option Value} {tabs : List (Addr × Str)} {lams : List (Nat × LamT)}
theorem gaIs_ok (X : K.In h) (g : h.Ns mainGlobals mg) {x : Str} {a : Addr} (c : gaIs K x a = true) : mg x = some (.ref a) := PySem.W.mg_of X g (He.eqO_ok c)
theorem its_len {K : PySem.W.Frag} {x qual : Str} {params : Arguments} {body : List Stmt} {scope : Scope} {dvs : List V} {kws : List (Str × V)} {p : Str × Option Str} {fd : FuncData} (F : FunD K x qual params body scope dvs kws (He.fAd K p) fd) : Vals dvs (itsOf K p) := by
  obtain ⟨oc, od, dV, kV, doc, pm, an, cdv, ct, osl, rfl, lk, hcd, hD, _⟩ := F.ex
  unfold itsOf
  rw [lk]
  rcases hD with ⟨rfl, rfl⟩ | ⟨_, T, o, its, n, rfl, hT, ho, r⟩
  · exact .nil
  · obtain ⟨oc', od', dt, osl'⟩ := o
    simp only at ho
    subst ho
    simp only [hT]
    exact r
/-- the defs of the text stand there -/
def FnsOk (S : Spec) (K : PySem.W.Frag) : Prop := ∀ d ∈ S.defs, ∃ fd, FunD K d.d.name d.d.qual d.d.params d.d.body d.d.scope (d.d.dvs K) (d.d.kws K) (He.fAd K d.d.at_) fd
theorem pl_eq {k : Nat} {d : Dd} (h : S.defs[k]? = some d) : S.pl k = d.d.at_ := by
  unfold Spec.pl
  rw [h]
theorem gv_ok (X : K.In h) (g : h.Ns mainGlobals mg) (F : FnsOk S K) {x : Str} {v : Gv} (c : gvB S K (x, v) = true) : GvR (S.G K tabs lams) K mg x v := by
  cases v with
  | df k np dl =>
    unfold gvB at c
    rw [Bool.and_eq_true, Bool.and_eq_true, decide_eq_true_eq] at c
    obtain ⟨hk, c1, c2⟩ := c
    refine ⟨S.fA K k, if_pos hk, gaIs_ok X g c1, fun j hj => ⟨j, fun φ H => ?_⟩⟩
    split at c2
    · rename_i d hd
      obtain ⟨fd, f⟩ := F d (List.mem_of_getElem? hd)
      have hl := its_len f
      have e : (S.G K tabs lams).dv k = (d.d.dvs K).zip (itsOf K d.d.at_) := by
        show S.dvL K k = _
        unfold Spec.dvL
        rw [hd]
      rw [e, List.map_drop, List.map_fst_zip (Nat.le_of_eq hl.length)]
      exact (dvDs_ok c2 _ φ H).drop j
    · cases c2
  | ct k np dl =>
    unfold gvB at c
    rw [Bool.and_eq_true, Bool.and_eq_true, Bool.and_eq_true, decide_eq_true_eq] at c
    obtain ⟨hk, c1, c2, c3⟩ := c
    exact ⟨_, if_pos hk, gaIs_ok X g c1, c2, List.isEmpty_iff.mp c3⟩
  | ex k b s =>
    unfold gvB at c
    rw [Bool.and_eq_true, Bool.and_eq_true, decide_eq_true_eq] at c
    obtain ⟨hk, c1, c2⟩ := c
    refine ⟨_, if_pos hk, gaIs_ok X g c1, fun hb => ?_⟩
    subst hb
    have c2 : (match S.P.excs[k]? with
      | some e => e.fld.isSome && (s || e.text == 0)
      | none => false) = true := c2
    split at c2
    · rename_i e he
      rw [Bool.and_eq_true] at c2
      obtain ⟨fl, hf⟩ := Option.isSome_iff_exists.mp c2.1
      refine ⟨e, fl, he, hf, fun hs => ?_⟩
      have := c2.2
      rw [hs, Bool.false_or] at this
      exact beq_iff_eq.mp this
    · cases c2
  | cst d =>
    have c : (match PySem.W.nsIn K mainGlobals x with
      | some (some u) => cstB d u
      | _ => false) = true := c
    split at c
    · rename_i u hu
      obtain ⟨v, r, q⟩ := cstB_ok c
      exact ⟨v, u, PySem.W.mg_of X g hu, r, q _⟩
    · cases c
theorem topG_ok (X : K.In h) (g : h.Ns mainGlobals mg) (F : FnsOk S K) (c1 : S.gt.all (gvB S K) = true) (c2 : nobB S K = true) : TopG (S.G K tabs lams) S K mg where
  gv := fun x v e => gv_ok X g F (List.all_eq_true.mp c1 _ (look_in e))
  nob := fun x e hx => by
    have q := List.all_eq_true.mp c2 x (List.mem_append_left _ hx)
    rw [e] at q
    exact PySem.W.mg_none_of X g (He.eqO_ok q)
  nexc := fun e => by
    have q := List.all_eq_true.mp c2 ("Exception" : Str) (List.mem_append_right _ List.mem_cons_self)
    rw [e] at q
    exact PySem.W.mg_none_of X g (He.eqO_ok q)
end
end Ms

-- So48
set_option linter.all false
set_option Elab.async false
set_option maxRecDepth 10000
/-! What the top must hold of the classes. -/
namespace Ms
open PySem L2 PySem.Spec PyProof.Rows
abbrev fdB (K : PySem.W.Frag) (C : Addr) (x : Str) (o : Option Value) : Bool := He.eqO (PySem.W.findIn K (.ref C) x) (some o)
def tyS6 : List String := ["int", "bool", "str", "list", "tuple", "dict"]
def eqmB (S : Spec) (K : PySem.W.Frag) (x : Str) (C : Addr) : Option Nat → Bool
  | none => true
  | some e => decide (e < S.defs.length) && (S.pl e == (x, some ("__eq__" : Str)) && (fdB K C "__eq__" (some (.ref (He.ma K C "__eq__"))) && (PySem.W.isFn K (.ref (He.ma K C "__eq__")) &&
      (fdB K C "__ne__" (some (.builtin "object.__ne__")) && decide (PySem.W.subIn K (.ref C) (.type "object") = some true)))))
def insB (K : PySem.W.Frag) (C : Addr) : Bool := fdB K C "__class__" (some (.builtin "object.__class__")) && (He.eqO (PySem.W.specialIn K (.builtin "object.__class__") "__get__") (some (some (.builtin "getset_descriptor.__get__"))) &&
  (decide (PySem.W.takesIn K (.builtin "object.__class__") = some true) && decide (PySem.W.mroIn K C (.type "object") = some true)))
def clB (S : Spec) (K : PySem.W.Frag) (c : Nat) : Bool := match S.P.clss[c]? with
  | none => true
  | some kk => (He.Fa.cls (S.cN c)).ok K && ((He.Fa.mkr (S.cN c)).ok K && (decide (kk.init < S.defs.length) && (S.pl kk.init == (S.cN c, some ("__init__" : Str)) && (eqmB S K (S.cN c) (He.ga K (S.cN c)) kk.eq &&
      (kk.flds.all fun f => fdB K (He.ga K (S.cN c)) f none)))))
/-- tests of every class, told in the machine or not -/
def cl2B (S : Spec) (K : PySem.W.Frag) (c : Nat) : Bool := (He.Fa.cls (S.cN c)).ok K && (insB K (He.ga K (S.cN c)) && ((tyS6.all fun T => decide (PySem.W.kitOne K (.ref (He.ga K (S.cN c))) (.type T) = some false)) && ((("NoneType" :: tyS6).all fun T => decide (PySem.W.kitOne K (.type T) (.ref (He.ga K (S.cN c))) = some false)) &&
  ((List.range S.cls.length).all fun d => decide (PySem.W.kitOne K (.ref (He.ga K (S.cN c))) (.ref (He.ga K (S.cN d))) = some (c == d)) && (decide (He.ga K (S.cN c) = He.ga K (S.cN d)) || decide (PySem.W.subIn K (.ref (He.ga K (S.cN c))) (.ref (He.ga K (S.cN d))) = some false))))))
def clsB (S : Spec) (K : PySem.W.Frag) : Bool := (List.range S.cls.length).all fun c => clB S K c && cl2B S K c
theorem and2 {a b : Bool} (h : (a && b) = true) : a = true ∧ b = true := Bool.and_eq_true_iff.mp h
section
variable {S : Spec} {K : PySem.W.Frag} {h : Heap} {mg : Str → Option Value} {tabs : List (Addr × Str)} {lams : List (Nat × LamT)}
theorem cl_lt {c : Nat} {C : Addr} (e : (S.G K tabs lams).cl c = some C) : c < S.cls.length ∧ C = He.ga K (S.cN c) := by
  have e : (if c < S.cls.length then some (He.ga K (S.cN c)) else none) = some C := e
  split at e
  · exact ⟨by assumption, (Option.some.inj e).symm⟩
  · cases e
theorem ex_lt {c : Nat} {C : Addr} (e : (S.G K tabs lams).ex c = some C) : c < S.exs.length ∧ C = He.ga K (S.eN c) := by
  have e : (if c < S.exs.length then some (He.ga K (S.eN c)) else none) = some C := e
  split at e
  · exact ⟨by assumption, (Option.some.inj e).symm⟩
  · cases e
theorem df_lt {k : Nat} {a : Addr} (e : (S.G K tabs lams).df k = some a) : k < S.defs.length ∧ a = S.fA K k := by
  have e : (if k < S.defs.length then some (S.fA K k) else none) = some a := e
  split at e
  · exact ⟨by assumption, (Option.some.inj e).symm⟩
  · cases e
theorem df_some {k : Nat} (e : k < S.defs.length) : (S.G K tabs lams).df k = some (S.fA K k) := if_pos e
theorem cls_at (c : clsB S K = true) {i : Nat} (hi : i < S.cls.length) : clB S K i = true ∧ cl2B S K i = true := and2 (List.all_eq_true.mp c i (List.mem_range.mpr hi))
/-- what GO says of classes -/
structure GOc (G : Top) (K : PySem.W.Frag) : Prop where
  kpf : ∀ (k : Nat) (a : Addr), G.df k = some a → PySem.W.keepIn K (.ref a) = true
  mks : ∀ (c : Nat) (C : Addr) (kk : Ms.Cls), G.cl c = some C → G.P.clss[c]? = some kk → ∃ f, G.df kk.init = some f ∧ Mk K C f
  cls : ∀ (c : Nat) (C : Addr), G.cl c = some C → L2.Cls K C
  eqm : ∀ (c : Nat) (C : Addr) (kk : Ms.Cls) (e : Nat), G.cl c = some C → G.P.clss[c]? = some kk → kk.eq = some e → ∃ f, G.df e = some f ∧ PySem.W.findIn K (.ref C) "__eq__" = some (some (.ref f)) ∧ PySem.W.isFn K (.ref f) = true ∧
    PySem.W.findIn K (.ref C) "__ne__" = some (some (.builtin "object.__ne__")) ∧ PySem.W.subIn K (.ref C) (.type "object") = some true
  sub : ∀ (c : Nat) (C : Addr) (c' : Nat) (C' : Addr), G.cl c = some C → G.cl c' = some C' → PySem.W.kitOne K (.ref C) (.ref C') = some (c == c') ∧ (C = C' ∨ PySem.W.subIn K (.ref C) (.ref C') = some false)
  fld : ∀ (c : Nat) (C : Addr) (f : Str), G.cl c = some C → (G.P.clss[c]?).any (fun k => k.flds.contains f) = true → NoAttr K C f
  subT : ∀ (c : Nat) (C : Addr) (T : String), G.cl c = some C → T ∈ ["int", "bool", "str", "list", "tuple", "dict"] → PySem.W.kitOne K (.ref C) (.type T) = some false
  subC : ∀ (c : Nat) (C : Addr) (T : String), G.cl c = some C → T ∈ ["NoneType", "int", "bool", "str", "list", "tuple", "dict"] → PySem.W.kitOne K (.type T) (.ref C) = some false
  ins : ∀ (c : Nat) (C : Addr), G.cl c = some C → PySem.W.findIn K (.ref C) "__class__" = some (some (.builtin "object.__class__")) ∧ PySem.W.specialIn K (.builtin "object.__class__") "__get__" = some (some (.builtin "getset_descriptor.__get__")) ∧
    PySem.W.takesIn K (.builtin "object.__class__") = some true ∧ PySem.W.mroIn K C (.type "object") = some true
theorem goc_ok (F : FnsOk S K) (c : clsB S K = true) : GOc (S.G K tabs lams) K where
  kpf := fun k a e => by
    obtain ⟨hk, rfl⟩ := df_lt e
    obtain ⟨d, hd⟩ : ∃ d, S.defs[k]? = some d := ⟨S.defs[k], by simp [hk]⟩
    obtain ⟨fd, f⟩ := F d (List.mem_of_getElem? hd)
    have := f.kp
    unfold Spec.fA
    rw [pl_eq hd]
    exact this
  mks := fun i C kk e hk => by
    obtain ⟨hi, rfl⟩ := cl_lt e
    have q := (cls_at c hi).1
    unfold clB at q
    rw [show S.P.clss[i]? = some kk from hk] at q
    obtain ⟨_, q⟩ := and2 q
    obtain ⟨q1, q⟩ := and2 q
    obtain ⟨q2, q⟩ := and2 q
    obtain ⟨q3, _⟩ := and2 q
    refine ⟨_, df_some (of_decide_eq_true q2), ?_⟩
    have m := He.mkr_ok q1
    unfold Spec.fA
    rw [beq_iff_eq.mp q3]
    exact m
  cls := fun i C e => by
    obtain ⟨hi, rfl⟩ := cl_lt e
    exact He.cls_ok (and2 (cls_at c hi).2).1
  eqm := fun i C kk n e hk hn => by
    obtain ⟨hi, rfl⟩ := cl_lt e
    have q := (cls_at c hi).1
    unfold clB at q
    rw [show S.P.clss[i]? = some kk from hk] at q
    obtain ⟨_, q⟩ := and2 q
    obtain ⟨_, q⟩ := and2 q
    obtain ⟨_, q⟩ := and2 q
    obtain ⟨_, q⟩ := and2 q
    obtain ⟨q, _⟩ := and2 q
    rw [hn] at q
    unfold eqmB at q
    obtain ⟨q1, q⟩ := and2 q
    obtain ⟨q2, q⟩ := and2 q
    obtain ⟨q3, q⟩ := and2 q
    obtain ⟨q4, q⟩ := and2 q
    obtain ⟨q5, q6⟩ := and2 q
    have ef : S.fA K n = He.ma K (He.ga K (S.cN i)) "__eq__" := by
      unfold Spec.fA
      rw [beq_iff_eq.mp q2]
      rfl
    refine ⟨_, df_some (of_decide_eq_true q1), ?_, ?_, He.eqO_ok q5, of_decide_eq_true q6⟩
    · rw [ef]; exact He.eqO_ok q3
    · rw [ef]; exact q4
  sub := fun i C j C' e e' => by
    obtain ⟨hi, rfl⟩ := cl_lt e
    obtain ⟨hj, rfl⟩ := cl_lt e'
    obtain ⟨_, q⟩ := and2 (cls_at c hi).2
    obtain ⟨_, q⟩ := and2 q
    obtain ⟨_, q⟩ := and2 q
    obtain ⟨_, q⟩ := and2 q
    obtain ⟨q1, q2⟩ := and2 (List.all_eq_true.mp q j (List.mem_range.mpr hj))
    refine ⟨of_decide_eq_true q1, ?_⟩
    rw [Bool.or_eq_true] at q2
    rcases q2 with z | z
    · exact .inl (of_decide_eq_true z)
    · exact .inr (of_decide_eq_true z)
  fld := fun i C f e hf => by
    obtain ⟨hi, rfl⟩ := cl_lt e
    obtain ⟨kk, hk, hf⟩ : ∃ kk, S.P.clss[i]? = some kk ∧ kk.flds.contains f = true := by
      have hf : (S.P.clss[i]?).any (fun k => k.flds.contains f) = true := hf
      cases e : S.P.clss[i]? with
      | none => rw [e] at hf; cases hf
      | some kk => rw [e] at hf; exact ⟨kk, rfl, hf⟩
    have q := (cls_at c hi).1
    unfold clB at q
    rw [show S.P.clss[i]? = some kk from hk] at q
    obtain ⟨_, q⟩ := and2 q
    obtain ⟨_, q⟩ := and2 q
    obtain ⟨_, q⟩ := and2 q
    obtain ⟨_, q⟩ := and2 q
    obtain ⟨_, q⟩ := and2 q
    exact He.eqO_ok (List.all_eq_true.mp q f (List.contains_iff_mem.mp hf))
  subT := fun i C T e hT => by
    obtain ⟨hi, rfl⟩ := cl_lt e
    obtain ⟨_, q⟩ := and2 (cls_at c hi).2
    obtain ⟨_, q⟩ := and2 q
    obtain ⟨q, _⟩ := and2 q
    exact of_decide_eq_true (List.all_eq_true.mp q T hT)
  subC := fun i C T e hT => by
    obtain ⟨hi, rfl⟩ := cl_lt e
    obtain ⟨_, q⟩ := and2 (cls_at c hi).2
    obtain ⟨_, q⟩ := and2 q
    obtain ⟨_, q⟩ := and2 q
    obtain ⟨q, _⟩ := and2 q
    exact of_decide_eq_true (List.all_eq_true.mp q T hT)
  ins := fun i C e => by
    obtain ⟨hi, rfl⟩ := cl_lt e
    obtain ⟨_, q⟩ := and2 (cls_at c hi).2
    obtain ⟨q, _⟩ := and2 q
    obtain ⟨q1, q⟩ := and2 q
    obtain ⟨q2, q⟩ := and2 q
    obtain ⟨q3, q4⟩ := and2 q
    exact ⟨He.eqO_ok q1, He.eqO_ok q2, of_decide_eq_true q3, of_decide_eq_true q4⟩
end
end Ms

-- So49
set_option linter.all false
set_option Elab.async false
set_option maxRecDepth 10000
/-! What the top must hold of the exceptions. -/
namespace Ms
open PySem L2 PySem.Spec PyProof.Rows
/-- own classes, then Exception -/
def erfB : List Value → Bool
  | .ref _ :: r => erfB r
  | l => l == eTail
theorem erfB_ok : ∀ {l : List Value}, erfB l = true → ERefs l
  | [], h => by cases h
  | v :: r, h => by
    cases v with
    | ref a => exact .cons (erfB_ok h)
    | _ =>
      first
        | (have e := beq_iff_eq.mp h; rw [e]; exact .nil)
        | (cases h)
def excKB (K : PySem.W.Frag) (C : Addr) : Bool := match K.lookup C with
  | some ⟨.type "type", _, .cls cd, sl⟩ => (match cd.mro, sl.toList with
    | .ref C' :: bm, [_, _, _, _, some (.builtin n), _] => C' == C && (n == "Exception.__new__" && (cd.hasDict && (!cd.hasDel && (erfB bm && He.eqO (PySem.W.alongIn K "__init__" bm) (some (some (.builtin "Exception.__init__")))))))
    | _, _ => false)
  | _ => false
theorem excKB_ok {K : PySem.W.Frag} {C : Addr} (q : excKB K C = true) : ∃ nm q N bs bm sn sub ab col dd k0 k1 k2 k3 k5, K.lookup C = some (excClassObj nm q C N bs bm true sn sub ab col dd k0 k1 k2 k3 k5 "Exception.__new__") ∧ ERefs bm ∧ PySem.W.alongIn K "__init__" bm = some (some (.builtin "Exception.__init__")) := by
  unfold excKB at q
  split at q
  · rename_i dd cd sl ho
    split at q
    · rename_i C' bm k0 k1 k2 k3 n k5 hm hs
      simp only [Bool.and_eq_true, beq_iff_eq, Bool.not_eq_true'] at q
      obtain ⟨rfl, rfl, hdict, hdel, ht, hal⟩ := q
      obtain ⟨nm, bs, mro, ns, qn, hd, sn, sub, ab, col, del⟩ := cd
      dsimp only at hm hdel hdict
      subst hm hdel hdict
      have hsl : sl = #[k0, k1, k2, k3, some (.builtin "Exception.__new__"), k5] := by
        obtain ⟨l⟩ := sl
        simp only at hs
        rw [hs]
      subst hsl
      exact ⟨nm, qn, ns, bs, bm, sn, sub, ab, col, dd, k0, k1, k2, k3, k5, ho, erfB_ok ht, He.eqO_ok hal⟩
    · cases q
  · cases q
/-- the class's facts -/
def excB (K : PySem.W.Frag) (C : Addr) (fl : Str) : Bool := excKB K C && (He.eqO (PySem.W.nsIn K cStatics "thirdparty.any") (some none) && (decide (PySem.W.subIn K (.ref C) (.type "Exception") = some true) && (fdB K C "__setattr__" (some (.builtin "object.__setattr__")) &&
  (fdB K C fl none && (decide (PySem.W.mroIn K C (.ref C) = some true) && (He.eqO (PySem.W.nsIn K mainGlobals "super") (some none) && (fdB K C "__init__" (some (.ref (He.ma K C "__init__"))) && (decide (PySem.W.typeIn K (.ref (He.ma K C "__init__")) = some (.type "function")) &&
  (decide (PySem.W.subIn K (.ref C) (.type "BaseException") = some true) && (decide (PySem.W.typeIn K (.ref C) = some (.type "type")) && PySem.W.keepIn K (.ref C)))))))))))
theorem excB_ok {P : Program} {K : PySem.W.Frag} {C : Addr} {fl : Str} (q : excB K C fl = true) : EXC P K C (He.ma K C "__init__") fl := by
  unfold excB at q
  obtain ⟨q1, q⟩ := and2 q
  obtain ⟨q2, q⟩ := and2 q
  obtain ⟨q3, q⟩ := and2 q
  obtain ⟨q4, q⟩ := and2 q
  obtain ⟨q5, q⟩ := and2 q
  obtain ⟨q6, q⟩ := and2 q
  obtain ⟨q7, q⟩ := and2 q
  obtain ⟨q8, q⟩ := and2 q
  obtain ⟨q9, q⟩ := and2 q
  obtain ⟨q10, q⟩ := and2 q
  obtain ⟨q11, q12⟩ := and2 q
  exact ⟨excKB_ok q1, He.eqO_ok q2, of_decide_eq_true q3, He.eqO_ok q4, He.eqO_ok q5, of_decide_eq_true q6, He.eqO_ok q7, He.eqO_ok q8, of_decide_eq_true q9, of_decide_eq_true q10, of_decide_eq_true q11, q12⟩
/-- the row of __init__ -/
def iniScB (sc : Scope) (sn av : Str) : Bool := sc.kind == .function && (!sc.isCoroutine && (!sc.isGenerator && ((sc.names.all fun x => !(x.2 == .cell)) && (isK (sc.names.lookup ("super" : Str)) .globalImplicit && (isK (sc.names.lookup ("__class__" : Str)) .free && (isK (sc.names.lookup sn) .local && isK (sc.names.lookup av) .local))))))
def codeB (K : PySem.W.Frag) (P : Program) (cda : Addr) : Bool := match K.lookup cda with
  | some ⟨_, _, .fields vs, _⟩ => (match (vs[2]? : Option Value) with
    | some (.str file _) => (P.main.file : Str) == file
    | _ => false)
  | _ => false
def cellB (K : PySem.W.Frag) (C cc : Addr) : Bool := match K.lookup cc with
  | some ⟨_, _, .cell (some (.ref C')), _⟩ => C' == C
  | _ => false
def aeB (av : Str) : Expr → Option Bool
  | .Constant (.str _) _ _ => some false
  | .BinOp (.Constant (.str txt) _ _) .Add (.Call (.Name f _) [.Name a _] [] _) _ => if decide (txt.length ≤ 1000) && (f == ("str" : Str) && a == av) then some true else none
  | _ => none
theorem aeB_ok {av : Str} {e : Expr} {b : Bool} (h : aeB av e = some b) : AE av b e := by
  unfold aeB at h
  split at h
  · cases h
    exact .c _ _ _
  · rename_i txt kk p f pa a pb pc pd
    split at h
    · rename_i q
      cases h
      simp only [Bool.and_eq_true, beq_iff_eq, decide_eq_true_eq] at q
      obtain ⟨q1, rfl, rfl⟩ := q
      exact .s _ _ _ _ _ _ _ q1
    · cases h
  · cases h
def iniB (K : PySem.W.Frag) (P : Program) (C fI : Addr) (fl : Str) (b : Bool) : Bool := match K.lookup fI with
  | some ⟨_, _, .func ⟨name, qual, ⟨[], [a1, a2], none, [], [], none, dfl⟩, .stmts [.Expr (.Call (.Attribute (.Call (.Name nS p0) [] [] p1) nI p2) [ae] [] p4) p5, .Assign [.Attribute (.Name sn p6) fl' p7] (.Name av p8) p9], scope, g, [(nC, cc)], .none, kV, doc, pm, an, .ref cda, ct, bi⟩, _⟩ =>
    (aeB av ae == some b && ((!b || isK (scope.names.lookup ("str" : Str)) .globalImplicit) && (nS == ("super" : Str) && (nI == ("__init__" : Str) && (fl' == fl && (nC == ("__class__" : Str) && (g == mainGlobals && (bi == builtinsNs && (a1.arg == sn && (a2.arg == av && (PySem.W.codeIn K (.ref cda) qual && (codeB K P cda && (!(P.main.scope.names.lookup ("super" : Str)).isSome && (cellB K C cc && (iniScB scope sn av &&
      (p2.endLine == p4.line && (!(sn == av) && (!(sn == ("__debug__" : Str)) && !(av == ("__debug__" : Str))))))))))))))))))))
  | _ => false
theorem iniB_ok {P : Program} {K : PySem.W.Frag} {C fI : Addr} {fl : Str} {b : Bool} (q : iniB K P C fI fl b = true) : INI P K C fI fl b := by
  unfold iniB at q
  split at q
  · rename_i oc od name qual a1 a2 dfl nS p0 p1 nI p2 ae p4 p5 sn p6 fl' p7 av p8 p9 scope g nC cc kV doc pm an cda ct bi osl ho
    simp only [Bool.and_eq_true, beq_iff_eq, Bool.not_eq_true'] at q
    obtain ⟨hae, hstr, rfl, rfl, rfl, rfl, rfl, rfl, e1, e2, hcode, hcb, hsup, hcell, hsc, hline, hne, hd1, hd2⟩ := q
    unfold iniScB at hsc
    simp only [Bool.and_eq_true, beq_iff_eq, Bool.not_eq_true', List.all_eq_true] at hsc
    obtain ⟨s1, s2, s3, s4, s5, s6, s7, s8⟩ := hsc
    have hne' : sn ≠ av := fun z => by rw [z] at hne; simp at hne
    unfold codeB at hcb
    split at hcb
    · rename_i ccl cdd vs ccs hcl
      split at hcb
      · rename_i file tf hv
        unfold cellB at hcell
        split at hcell
        · rename_i cl cld C' csl hcc
          obtain rfl : C' = C := beq_iff_eq.mp hcell
          refine ⟨name, qual, _, _, scope, .none, kV, doc, pm, an, cda, ct, cc, oc, od, osl, sn, av, ae, p0, p1, p2, p4, p5, p6, p7, p8, p9, a1, vs, file, tf, ccl, cdd, ccs, cl, cld, csl, rfl, aeB_ok hae, fun z => (by rw [z] at hstr; exact isK_ok hstr), ho, hcode, rfl, e1, fun s a b => ?_, hcl, hv, hcb, hsup, hcc, s1, s2, s3, fun x hx z => ?_, isK_ok s5, isK_ok s6, isK_ok s7, isK_ok s8, by simpa using hline, hne', hd1, hd2⟩
          · refine BindsTo.of_eq ?_
            have := bind_plain (fd := PySem.W.ksFn name qual ⟨[], [a1, a2], none, [], [], none, dfl⟩ (initB sn av fl' ae p0 p1 p2 p4 p5 p6 p7 p8 p9) scope .none kV doc pm an (.ref cda) ct cc) (us := [a, b]) rfl rfl rfl (by
              simp only [List.map_cons, List.map_nil, List.nodup_cons, List.mem_cons, List.not_mem_nil, or_false, not_false_eq_true, List.nodup_nil, and_true, e1, e2]
              exact hne')
            rw [this]
            simp only [List.map_cons, List.map_nil, List.zip_cons_cons, List.zip_nil_right, e1, e2]
          · have := s4 x hx
            rw [z] at this
            cases this
        · cases hcell
      · cases hcb
    · cases hcb
  · cases q
def exB (S : Spec) (P : Program) (K : PySem.W.Frag) (c : Nat) : Bool := (match S.P.excs[c]? with
    | none => true
    | some e => (match e.fld with
      | none => true
      | some fl => excB K (He.ga K (S.eN c)) fl && (iniB K P (He.ga K (S.eN c)) (He.ma K (He.ga K (S.eN c)) "__init__") fl (e.text != 0) && xfB K (He.ga K (S.eN c))))) &&
  ((List.range S.exs.length).all (fun k => decide (PySem.W.exmOne K (.ref (He.ga K (S.eN c))) (.ref (He.ga K (S.eN k))) = some (tyOf S.P c (.exc k)))) && decide (PySem.W.exmOne K (.ref (He.ga K (S.eN c))) (.type "Exception") = some (tyOf S.P c (.ty "Exception"))))
def exsB (S : Spec) (P : Program) (K : PySem.W.Frag) : Bool := He.eqO (PySem.W.nsIn K mainGlobals "super") (some none) && (He.eqO (PySem.W.nsIn K mainGlobals "str") (some none) && (List.range S.exs.length).all fun c => exB S P K c)
section
variable {S : Spec} {K : PySem.W.Frag} {h : Heap} {mg : Str → Option Value} {tabs : List (Addr × Str)} {lams : List (Nat × LamT)} {P : Program}
theorem gx_ok (X : K.In h) (g : h.Ns mainGlobals mg) (c : exsB S P K = true) : GX (S.G K tabs lams) P K mg := by
  obtain ⟨c1, c2⟩ := and2 c
  obtain ⟨c3, c2⟩ := and2 c2
  have at_ : ∀ i, i < S.exs.length → exB S P K i = true := fun i hi => List.all_eq_true.mp c2 i (List.mem_range.mpr hi)
  refine ⟨PySem.W.mg_none_of X g (He.eqO_ok c1), PySem.W.mg_none_of X g (He.eqO_ok c3), fun i C e fl h1 h2 h3 => ?_, fun i C t tv h1 h2 => ?_⟩
  · obtain ⟨hi, rfl⟩ := ex_lt h1
    obtain ⟨q, _⟩ := and2 (at_ i hi)
    rw [show S.P.excs[i]? = some e from h2] at q
    simp only [h3] at q
    obtain ⟨q1, q⟩ := and2 q
    obtain ⟨q2, q3⟩ := and2 q
    exact ⟨⟨_, excB_ok q1, iniB_ok q2⟩, xfB_ok q3, (excB_ok (P := P) q1).no⟩
  · obtain ⟨hi, rfl⟩ := ex_lt h1
    obtain ⟨_, q⟩ := and2 (at_ i hi)
    obtain ⟨q1, q2⟩ := and2 q
    cases t with
    | exc k =>
      obtain ⟨D, hD, rfl⟩ := h2
      obtain ⟨hk, rfl⟩ := ex_lt hD
      exact of_decide_eq_true (List.all_eq_true.mp q1 k (List.mem_range.mpr hk))
    | ty n =>
      obtain ⟨rfl, rfl⟩ := h2
      exact of_decide_eq_true q2
    | cls _ => exact h2.elim
end
end Ms

-- So50
set_option linter.all false
set_option Elab.async false
set_option maxRecDepth 10000
/-! Lambdas of the text; the levels of calls. -/
namespace Ms
open PySem L2 PySem.Spec PyProof.Rows
def natNd : List Nat → Bool
  | [] => true
  | x :: l => !l.contains x && natNd l
theorem natNd_ok : ∀ {l : List Nat}, natNd l = true → l.Nodup
  | [], _ => List.nodup_nil
  | x :: l, h => by
    unfold natNd at h
    rw [Bool.and_eq_true, Bool.not_eq_true'] at h
    rw [List.nodup_cons]
    exact ⟨fun m => (by rw [List.contains_iff_mem.mpr m] at h; exact Bool.noConfusion h.1), natNd_ok h.2⟩
theorem natLook {α : Type} {x : Nat} {k : α} : ∀ {l : List (Nat × α)}, (l.map (·.1)).Nodup → (x, k) ∈ l → l.lookup x = some k
  | [], _, h => by cases h
  | (y, v) :: l, nd, h => by
    rw [List.map_cons, List.nodup_cons] at nd
    rw [List.lookup_cons]
    rcases List.mem_cons.mp h with z | z
    · cases z
      simp
    · have hne : (x == y) = false := by
        cases e : x == y with
        | false => rfl
        | true => exact absurd (List.mem_map_of_mem (f := (·.1)) z) (by rw [show x = y from beq_iff_eq.mp e]; exact nd.1)
      rw [hne]
      exact natLook nd.2 z
theorem natIn {α : Type} {x : Nat} {k : α} : ∀ {l : List (Nat × α)}, l.lookup x = some k → (x, k) ∈ l
  | [], h => by cases h
  | (y, v) :: l, h => by
    rw [List.lookup_cons] at h
    split at h
    · rename_i e
      cases h
      rw [show x = y from beq_iff_eq.mp e]
      exact List.mem_cons_self
    · exact List.mem_cons_of_mem _ (natIn h)
def trDfs (S : Spec) : Option (List (Df × List LI)) := S.defs.mapM (trDf S)
def lamT (d : Dd) (li : LI) : LamT := ⟨lamQ d.d.qual, li.2.1, li.2.2.1, li.2.2.2, d.N⟩
def lisOf (S : Spec) (r : List (Df × List LI)) : List (Dd × LI) := (S.defs.zip r).flatMap fun p => p.2.2.map fun li => (p.1, li)
def lamRows (S : Spec) (r : List (Df × List LI)) : List (Nat × LamT) := (lisOf S r).map fun p => (p.2.1, lamT p.1 p.2)
def liB (p : Dd × LI) : Bool := p.2.2.1.defaults.isEmpty && p.2.2.2.2.names.all fun y => !(y.2 == .free) || isK (p.1.d.scope.names.lookup y.1) .cell
def lamSc (L : LamT) (ps : List Str) : Bool := L.scope.kind == .function && (!L.scope.isCoroutine && (!L.scope.isGenerator && ((L.scope.names.all fun x => !(x.2 == .cell)) && (nodupB ps && ((ps.all fun x => isK (L.scope.names.lookup x) .local) && (L.scope.names.all fun y => !(y.2 == .local) || ps.contains y.1))))))
def trLam (S : Spec) (L : LamT) : Option Lam := match argsOf L.params with
  | some ps => if lamSc L ps then
      match ps.mapM (fun x => idxOf x L.N), trE ⟨L.N, S.gt, S.lamN, false⟩ S.fuel L.scope L.body with
      | some sl, some (b, _) => some ⟨ps.length, sl, b, (List.range L.N.length).filter fun i => match L.N[i]? with
        | some x => isK (L.scope.names.lookup x) .free
        | none => false⟩
      | _, _ => none
    else none
  | none => none
theorem mapM_len {α β : Type} {f : α → Option β} : ∀ {l : List α} {r : List β}, l.mapM f = some r → r.length = l.length
  | [], r, h => by simp at h; subst h; rfl
  | a :: l, r, h => by
    rw [List.mapM_cons] at h
    simp only [Option.bind_eq_bind, Option.bind_eq_some_iff, Option.pure_def, Option.some.injEq] at h
    obtain ⟨b, _, bs, hb, rfl⟩ := h
    rw [List.length_cons, List.length_cons, mapM_len hb]
theorem mapM_at {α β : Type} {f : α → Option β} : ∀ {l : List α} {r : List β} {j : Nat} {b : β}, l.mapM f = some r → r[j]? = some b → ∃ a, l[j]? = some a ∧ f a = some b
  | [], r, j, b, h, q => by simp at h; subst h; simp at q
  | a :: l, r, j, b, h, q => by
    rw [List.mapM_cons] at h
    simp only [Option.bind_eq_bind, Option.bind_eq_some_iff, Option.pure_def, Option.some.injEq] at h
    obtain ⟨c, hc, bs, hb, rfl⟩ := h
    cases j with
    | zero => cases q; exact ⟨a, rfl, hc⟩
    | succ j =>
      obtain ⟨a', h1, h2⟩ := mapM_at hb (show bs[j]? = some b by simpa using q)
      exact ⟨a', by simpa using h1, h2⟩
theorem mapM_to {α β : Type} {f : α → Option β} : ∀ {l : List α} {r : List β} {j : Nat} {a : α}, l.mapM f = some r → l[j]? = some a → ∃ b, r[j]? = some b ∧ f a = some b
  | [], r, j, b, h, q => by simp at q
  | a :: l, r, j, b, h, q => by
    rw [List.mapM_cons] at h
    simp only [Option.bind_eq_bind, Option.bind_eq_some_iff, Option.pure_def, Option.some.injEq] at h
    obtain ⟨c, hc, bs, hb, rfl⟩ := h
    cases j with
    | zero => cases q; exact ⟨c, rfl, hc⟩
    | succ j =>
      obtain ⟨b', h1, h2⟩ := mapM_to hb (show l[j]? = some b by simpa using q)
      exact ⟨b', by simpa using h1, h2⟩
theorem args_of {p : Arguments} {ps : List Str} (h : argsOf p = some ps) : ∃ args dfl, p = ⟨[], args, none, [], [], none, dfl⟩ ∧ ps = args.map (·.arg) := by
  unfold argsOf at h
  split at h
  · cases h
    exact ⟨_, _, rfl, rfl⟩
  · cases h
section
variable {S : Spec} {K : PySem.W.Frag} {mg : Str → Option Value} {G : Top} {P : Program} {w : World} {base : Heap}
theorem lamF_ok {L : LamT} {l : Lam} (h : trLam S L = some l) : LamF L l ∧ (∀ x, L.scope.names.lookup x ≠ some .cell) ∧ ∃ ls, trE ⟨L.N, S.gt, S.lamN, false⟩ S.fuel L.scope L.body = some (l.body, ls) := by
  unfold trLam at h
  split at h
  · rename_i ps hps
    split at h
    · rename_i hc
      unfold lamSc at hc
      simp only [Bool.and_eq_true, beq_iff_eq, Bool.not_eq_true', List.all_eq_true, Bool.or_eq_true] at hc
      obtain ⟨h1, h2, h3, h4, h5, h6, h7⟩ := hc
      split at h
      · rename_i sl b ls hsl hb
        cases h
        have nocell : ∀ y ∈ L.scope.names, y.2 ≠ .cell := fun y hy z => by
          have := h4 y hy
          rw [z] at this
          cases this
        refine ⟨⟨h1, h2, h3, nocell, ⟨ps, rfl, mapM_len hsl, nodupB_ok h5, fun clos pm c' ctv us hu => ?_, fun x hx => isK_ok (h6 x hx), fun x hx => ?_, fun j i hj => ?_⟩, fun i hi => ?_⟩, fun x hx => nocell _ (PySem.mem_of_lookup hx) rfl, ls, hb⟩
        · obtain ⟨args, dfl, hp, rfl⟩ := args_of hps
          exact bind_plain hp rfl (by simpa using hu) (nodupB_ok h5)
        · have := h7 _ (PySem.mem_of_lookup hx)
          rcases this with z | z
          · cases z
          · exact List.contains_iff_mem.mp z
        · obtain ⟨x, q1, q2⟩ := mapM_at hsl hj
          exact ⟨x, q1, idxOf_some q2⟩
        · obtain ⟨_, hi⟩ := List.mem_filter.mp hi
          split at hi
          · rename_i x hx
            exact ⟨x, hx, isK_ok hi⟩
          · cases hi
      · cases h
    · cases h
  · cases h
/-- the lambdas hold at every level -/
theorem lamsG (tp : TopG G S K mg) (hl : ∀ k L, G.lam k = some L → ∃ l, G.P.lams[k]? = some l ∧ trLam S L = some l) : ∀ n : Nat, LamsG G P w K mg base n := by
  intro n
  induction n using Nat.strongRecOn with
  | ind n ih =>
    intro X e1 e2 e3 e4 e5 k L hL
    obtain ⟨l, h1, h2⟩ := hl k L hL
    obtain ⟨lf, nc, ls, hb⟩ := lamF_ok h2
    refine ⟨l, h1, lf, fun Y W' fr j hj y1 y2 y3 y4 y5 y6 y7 go xo => ?_⟩
    have F : Fits G ⟨L.N, S.gt, S.lamN, false⟩ L.scope Y W' j := {
      top := ⟨y6, by rw [y3, y4, e3, e4]; exact tp.gv, by rw [y4, e4]; exact tp.nob⟩
      lk := ih j hj Y (y1.trans e1) (y2.trans e2) (y3.trans e3) (y4.trans e4) (y5.trans e5)
      scr := by rw [y7]; exact ScR.refl
      go := by rw [y1, y2, y3, y4, y5]; exact go
      xo := xo
      fn := fun x hx => absurd hx (nc x)
      ow := fun z => by cases z }
    exact ((snd S.fuel).e F hb (fun d => by cases d) fr).1
/-- all that the levels lean on -/
structure Base (G : Top) (S : Spec) (P : Program) (K : PySem.W.Frag) (mg : Str → Option Value) (base : Heap) (rows : List (Df × List LI)) : Prop where
  tp : TopG G S K mg
  gc : GOc G K
  gx : GX G P K mg
  fns : FnsOk S K
  P : G.P = S.P
  df : ∀ k a, G.df k = some a → k < S.defs.length ∧ a = S.fA K k
  dv : ∀ k, G.dv k = S.dvL K k
  trs : trDfs S = some rows
  pd : rows.map (·.1) = S.P.defs
  lam : ∀ k L, G.lam k = some L → ∃ l, G.P.lams[k]? = some l ∧ trLam S L = some l
  li : ∀ (k : Nat) (d : Dd) (r : Df × List LI), S.defs[k]? = some d → rows[k]? = some r → ∀ l ∈ r.2, LiOk G d l
  tab : ∀ (k : Nat) (d : Dd) (r : Df × List LI), S.defs[k]? = some d → rows[k]? = some r → r.2 ≠ [] → TabG G K mg base d (S.fA K k)
theorem spD0 {to : To} {vs : List V} {H : Hp} {Q : VK} {E : XK} (h : spD G 0 to vs H Q E) : False := by
  obtain ⟨φ, fr, m, ds, _, _, p⟩ := h
  exact p
theorem binds_all {ps : List Str} {d : Dd} {dvs : List V} {fd : FuncData} {p : Str × Option Str} (hps : argsOf d.d.params = some ps) (nd : ps.Nodup) (hm : dvs.length ≤ ps.length) (F : FunD K d.d.name d.d.qual d.d.params d.d.body d.d.scope dvs [] (He.fAd K p) fd) :
    ∀ j, j ≤ dvs.length → Binds K fd ps ((itsOf K p).drop j) := by
  intro j hj
  have hv := its_len F
  obtain ⟨args, dfl, hp, rfl⟩ := args_of hps
  have ex := F.ex
  obtain ⟨oc, od, dV, kV, doc, pm, an, cdv, ct, osl, rfl, lk, hcd, hD, _⟩ := ex
  rcases hD with ⟨rfl, rfl⟩ | ⟨hne, T, o, its, n, rfl, lT, oT, rT⟩
  · have e : itsOf K p = [] := List.eq_nil_of_length_eq_zero hv.length.symm
    rw [e, List.drop_nil]
    exact .all fun us hl => bind_plain hp rfl (by simpa using hl) nd
  · have e : itsOf K p = its := by
      unfold itsOf
      rw [lk]
      obtain ⟨oc', od', dt, osl'⟩ := o
      simp only at oT
      subst oT
      simp only [lT]
    rw [e]
    intro s us X hlen
    have l1 : its.length = dvs.length := rT.length.symm
    rw [List.length_append, List.length_drop, List.length_map] at hlen
    rw [List.length_map] at hm
    obtain ⟨k, e1, e2⟩ := bind_dfl (fd := PySem.W.fnOf d.d.name d.d.qual d.d.params d.d.body d.d.scope (.ref T) kV doc pm an cdv ct) (us := us) (its := its) (T := T) (j := j) hp rfl (by omega) (by omega) hlen nd
    refine BindsTo.of_looks fun M => ?_
    rw [e1]
    exact looks_items X lT oT (.of_pure e2)
/-- what holds of each def -/
theorem def_key {rows : List (Df × List LI)} (B : Base G S P K mg base rows) (k : Nat) (a : Addr) (hk : G.df k = some a) : ∃ d df lis ps fd, S.defs[k]? = some d ∧ G.P.defs[k]? = some df ∧ trDf S d = some (df, lis) ∧ argsOf d.d.params = some ps ∧ FunD K d.d.name d.d.qual d.d.params d.d.body d.d.scope (d.d.dvs K) [] a fd ∧ a = He.fAd K d.d.at_ ∧
    (∀ l ∈ lis, LiOk G d l) ∧ (lis ≠ [] → TabG G K mg base d a) ∧ Binds K fd ps [] ∧ (∀ i : Nat, Binds K fd ps (((G.dv k).drop i).map (·.2))) ∧ (∀ p ∈ G.dv k, RelV p.1 p.2) := by
  obtain ⟨hlt, rfl⟩ := B.df k a hk
  obtain ⟨d, hd⟩ : ∃ d, S.defs[k]? = some d := ⟨S.defs[k], by simp [hlt]⟩
  obtain ⟨⟨df, lis⟩, hr, ht⟩ := mapM_to B.trs hd
  obtain ⟨fd, F⟩ := B.fns d (List.mem_of_getElem? hd)
  have hp : ∃ ps, argsOf d.d.params = some ps ∧ ps.Nodup ∧ d.d.kwd = [] ∧ d.d.dfl.length ≤ ps.length := by
    have h := ht
    unfold trDf at h
    split at h
    · rename_i ps hps
      split at h
      · rename_i hc
        simp only [Bool.and_eq_true, List.isEmpty_iff, decide_eq_true_eq] at hc
        exact ⟨ps, hps, nodupB_ok hc.2.1, hc.2.2.1, hc.2.2.2⟩
      · cases h
    · cases h
  obtain ⟨ps, hps, nd, hkw, hdl⟩ := hp
  have ea : S.fA K k = He.fAd K d.d.at_ := by unfold Spec.fA; rw [pl_eq hd]
  have ek : d.d.kws K = [] := by unfold He.DefD.kws; rw [hkw]; rfl
  rw [ek] at F
  have hvl : (d.d.dvs K).length ≤ ps.length := by unfold He.DefD.dvs; rw [List.length_map]; exact hdl
  have hv := its_len F
  have bd := binds_all hps nd hvl F
  have edv : G.dv k = (d.d.dvs K).zip (itsOf K d.d.at_) := by
    rw [B.dv k]
    unfold Spec.dvL
    rw [hd]
  have em : ∀ i : Nat, ((G.dv k).drop i).map (·.2) = (itsOf K d.d.at_).drop i := fun i => by
    rw [edv, List.map_drop, List.map_snd_zip (Nat.le_of_eq hv.length.symm)]
  refine ⟨d, df, lis, ps, fd, hd, ?_, ht, hps, ea ▸ F, ea, B.li k d _ hd hr, fun hne => B.tab k d _ hd hr hne, ?_, fun i => ?_, fun p hp => ?_⟩
  · rw [B.P, ← B.pd, List.getElem?_map, hr]
    rfl
  · have := bd _ (Nat.le_refl _)
    rw [hv.length, List.drop_length] at this
    exact this
  · rw [em]
    by_cases hi : i ≤ (d.d.dvs K).length
    · exact bd i hi
    · rw [List.drop_eq_nil_of_le (by rw [← hv.length]; omega)]
      have := bd _ (Nat.le_refl _)
      rw [hv.length, List.drop_length] at this
      exact this
  · rw [edv] at hp
    obtain ⟨i, hi⟩ := List.mem_iff_getElem?.mp hp
    rw [List.getElem?_zip_eq_some] at hi
    obtain ⟨u, h1, h2⟩ := hv.get hi.1
    rw [hi.2] at h1
    cases h1
    exact h2
theorem go_lv {rows : List (Df × List LI)} (B : Base G S P K mg base rows) : ∀ n : Nat, GO G P w K mg base n := by
  intro n
  have stat : (∀ (j k : Nat) (a : Addr), j ≤ n → G.df k = some a → ∃ fd ps, FnOk P w K mg base (L2.CX P w) (j + 1) a fd ps (spD G j (.df k)) ∧ Binds K fd ps [] ∧ (∀ i : Nat, Binds K fd ps (((G.dv k).drop i).map (·.2))) ∧ ∀ p ∈ G.dv k, RelV p.1 p.2) → GO G P w K mg base n := fun h =>
    ⟨h, B.gc.kpf, B.gc.mks, B.gc.cls, B.gc.eqm, B.gc.sub, B.gc.fld, B.gc.subT, B.gc.subC, B.gc.ins⟩
  induction n with
  | zero =>
    refine stat fun j k a hj hk => ?_
    obtain rfl : j = 0 := by omega
    obtain ⟨d, df, lis, ps, fd, _, _, _, _, _, _, _, _, b1, b2, b3⟩ := def_key B k a hk
    exact ⟨fd, ps, ⟨fun vs H Q E q => (spD0 q).elim, fun A outer s H args us vs Q E _ _ _ _ q => (spD0 q).elim⟩, b1, b2, b3⟩
  | succ n ih =>
    refine stat fun j k a hj hk => ?_
    have ih := ih fun h => ⟨h, B.gc.kpf, B.gc.mks, B.gc.cls, B.gc.eqm, B.gc.sub, B.gc.fld, B.gc.subT, B.gc.subC, B.gc.ins⟩
    by_cases hj2 : j ≤ n
    · exact ih.fn j k a hj2 hk
    · obtain rfl : j = n + 1 := by omega
      obtain ⟨d, df, lis, ps, fd, hd, hP, ht, hps, F, ea, li, tb, b1, b2, b3⟩ := def_key B k a hk
      exact ⟨fd, ps, df_ok ht hps F hP B.tp ih B.gx (lamsG B.tp B.lam n) li tb, b1, b2, b3⟩
end
end Ms

-- So51
set_option linter.all false
set_option Elab.async false
set_option maxRecDepth 10000
/-! A claim: from the machine's run to the law's statement. -/
namespace Ms
open PySem L2 PySem.Spec PyProof.Rows
structure Sp2 extends Spec where
  tf : List Nat
  law : Nat
def listO (o : Obj) : Bool := match o.cls with
  | .type c => decide (c = "list")
  | _ => false
/-- what is looked at: all that the module's names reach, no lists, no empty tables -/
def frY (n : Nat) (g : Addr → Option Obj) : PySem.W.Frag := (He.frG g (cStatics :: He.asD g n)).filter fun q => !(He.emptyTab q.2 || listO q.2)
def Sp2.cp (S : Sp2) (K : PySem.W.Frag) (k : Nat) : Addr × Addr := He.cT K (S.pl k)
def Sp2.fn (S : Sp2) : List He.DefD := S.defs.map (·.d)
def Sp2.qn (S : Sp2) (k : Nat) : Str := match S.defs[k]? with
  | some d => lamQ d.d.qual
  | none => ""
def Sp2.tabs (S : Sp2) (K : PySem.W.Frag) : List (Addr × Str) := S.tf.map fun k => ((S.cp K k).2, S.qn k)
def topB (S : Sp2) (P : Program) (K : PySem.W.Frag) : Bool := S.gt.all (gvB S.toSpec K) && (nobB S.toSpec K && (clsB S.toSpec K && (exsB S.toSpec P K && natNd (S.tf.map fun k => (S.cp K k).2))))
def tabY (S : Sp2) (K : PySem.W.Frag) (g : Addr → Option Obj) : Bool := S.tf.all fun k => PySem.W.codeHdIn K (S.cp K k).1 (S.cp K k).2 && (match g (S.cp K k).2 with
  | some o => He.emptyTab o
  | none => false)
abbrev AlY : Type := He.AlD × Bool
def obsY (S : Sp2) (P : Program) (n : Nat) (g : Addr → Option Obj) : AlY := (He.obsD [] S.fn (frY n g), topB S P (frY n g) && tabY S (frY n g) g)
structure SaysY (S : Sp2) (P : Program) (h : Heap) (K : PySem.W.Frag) : Prop where
  d : He.SaysD [] S.fn K
  more : topB S P K = true
  hd : ∀ k ∈ S.tf, PySem.W.codeHdIn K (S.cp K k).1 (S.cp K k).2 = true
  out : ∀ k ∈ S.tf, K.lookup (S.cp K k).2 = none
  emp : ∀ k ∈ S.tf, h.get? (S.cp K k).2 = some { cls := .none, data := .fields #[] }
  nol : ∀ a o, K.lookup a = some o → o.cls ≠ .type "list"
theorem frY_mem {n : Nat} {g : Addr → Option Obj} {a : Addr} {o : Obj} (e : (frY n g).lookup a = some o) : g a = some o ∧ He.emptyTab o = false ∧ listO o = false := by
  obtain ⟨h1, h2⟩ := List.mem_filter.mp (He.lookup_mem e)
  simp only [Bool.not_eq_true', Bool.or_eq_false_iff] at h2
  exact ⟨He.frG_mem h1, h2.1, h2.2⟩
theorem saysY_of {S : Sp2} {P : Program} {n : Nat} {h : Heap} (e : obsY S P n h.get? = (He.valD S.fn, true)) : SaysY S P h (frY n h.get?) := by
  have e1 : He.obsD [] S.fn (frY n h.get?) = He.valD S.fn := congrArg (fun z : AlY => z.1) e
  have e2 : (topB S P (frY n h.get?) && tabY S (frY n h.get?) h.get?) = true := congrArg (fun z : AlY => z.2) e
  obtain ⟨h1, h2⟩ := and2 e2
  have key : ∀ k ∈ S.tf, PySem.W.codeHdIn (frY n h.get?) (S.cp (frY n h.get?) k).1 (S.cp (frY n h.get?) k).2 = true ∧ ∃ o, h.get? (S.cp (frY n h.get?) k).2 = some o ∧ He.emptyTab o = true := fun k hk => by
    obtain ⟨h3, h4⟩ := and2 (List.all_eq_true.mp h2 k hk)
    refine ⟨h3, ?_⟩
    split at h4
    · rename_i o ho
      exact ⟨o, ho, h4⟩
    · cases h4
  refine ⟨e1, h1, fun k hk => (key k hk).1, fun k hk => ?_, fun k hk => ?_, fun a o q z => ?_⟩
  · obtain ⟨_, o, q, z⟩ := key k hk
    cases e3 : (frY n h.get?).lookup (S.cp (frY n h.get?) k).2 with
    | none => rfl
    | some u =>
      obtain ⟨a1, a2, _⟩ := frY_mem e3
      rw [q] at a1
      cases a1
      rw [z] at a2
      cases a2
  · obtain ⟨_, o, q, z⟩ := key k hk
    rw [q, He.emptyTab_eq z]
  · obtain ⟨_, _, a3⟩ := frY_mem q
    unfold listO at a3
    rw [z] at a3
    simp at a3
def hookY (S : Sp2) (P : Program) (n : Nat) : PySem.W.Hook where
  α := AlY
  obs := fun s => obsY S P n s.heap.get?
  val := fun _ => (He.valD S.fn, true)
  says := fun _ h => ∃ K : PySem.W.Frag, K.In h ∧ SaysY S P h K
  of := fun _ _ e => ⟨_, fun _ _ q => (frY_mem q).1, saysY_of e⟩
  keeps := fun _ _ _ ⟨K, hK, c⟩ k => ⟨K, PySem.W.Frag.In.keeps hK k, ⟨c.d, c.more, c.hd, c.out, fun i hi => k _ _ (c.emp i hi), c.nol⟩⟩
theorem obsY_eq {S : Sp2} {P : Program} {n : Nat} {g : Addr → Option Obj} {s : Shared} (h : ∀ a, g a = s.heap.get? a) : obsY S P n g = (hookY S P n).obs s := by
  have e : g = s.heap.get? := funext h
  rw [e]
  rfl
/-- what is computed of the text alone -/
structure Txt (S : Sp2) (rows : List (Df × List LI)) : Prop where
  trs : trDfs S.toSpec = some rows
  pd : rows.map (·.1) = S.P.defs
  li : (lisOf S.toSpec rows).all liB = true
  nd : natNd ((lamRows S.toSpec rows).map (·.1)) = true
  lam : (lamRows S.toSpec rows).map (fun p => trLam S.toSpec p.2) = (lamRows S.toSpec rows).map fun p => S.P.lams[p.1]?
  lams : ((lamRows S.toSpec rows).all fun p => (S.P.lams[p.1]?).isSome) = true
  tf : ((List.range rows.length).all fun k => (match rows[k]? with
    | some r => r.2.isEmpty
    | none => true) || S.tf.contains k) = true
section
variable {S : Sp2} {rows : List (Df × List LI)} {P : Program} {w : World} {K : PySem.W.Frag} {mg : Str → Option Value} {base h : Heap}
theorem map_at {α β : Type} {f g : α → β} {l : List α} (e : l.map f = l.map g) : ∀ a ∈ l, f a = g a := fun a ha => by
  obtain ⟨i, hi⟩ := List.mem_iff_getElem?.mp ha
  have := congrArg (fun z => z[i]?) e
  simp only [List.getElem?_map, hi, Option.map_some] at this
  exact Option.some.inj this
theorem base_ok (T : Txt S rows) (Y : SaysY S P h K) (X : K.In h) (g : h.Ns mainGlobals mg) (tb : ∀ p ∈ S.tf.map (S.cp K), LamX.TabB base mg p.1 p.2) : Base (S.toSpec.G K (S.tabs K) (lamRows S.toSpec rows)) S.toSpec P K mg base rows := by
  have F : FnsOk S.toSpec K := fun d hd => Y.d.defs (List.mem_map_of_mem (f := fun d : Dd => d.d) hd)
  have m := Y.more
  obtain ⟨m1, m⟩ := and2 m
  obtain ⟨m2, m⟩ := and2 m
  obtain ⟨m3, m⟩ := and2 m
  obtain ⟨m4, m5⟩ := and2 m
  have mem : ∀ (k : Nat) (d : Dd) (r : Df × List LI), S.defs[k]? = some d → rows[k]? = some r → ∀ l ∈ r.2, (d, l) ∈ lisOf S.toSpec rows := fun k d r hd hr l hl => by
    refine List.mem_flatMap.mpr ⟨(d, r), ?_, List.mem_map.mpr ⟨l, hl, rfl⟩⟩
    exact List.mem_of_getElem? (i := k) (List.getElem?_zip_eq_some.mpr ⟨hd, hr⟩)
  refine ⟨topG_ok X g F m1 m2, goc_ok F m3, gx_ok X g m4, F, rfl, fun k a e => df_lt e, fun k => rfl, T.trs, T.pd, fun k L e => ?_, fun k d r hd hr l hl => ?_, fun k d r hd hr hne => ?_⟩
  · have hm := natIn (show (lamRows S.toSpec rows).lookup k = some L from e)
    have e1 := map_at T.lam _ hm
    have e2 := List.all_eq_true.mp T.lams _ hm
    obtain ⟨l, hl⟩ := Option.isSome_iff_exists.mp e2
    exact ⟨l, hl, e1.trans hl⟩
  · have hm := mem k d r hd hr l hl
    have q := List.all_eq_true.mp T.li _ hm
    unfold liB at q
    obtain ⟨q1, q2⟩ := and2 q
    have hr2 : (l.1, lamT d l) ∈ lamRows S.toSpec rows := List.mem_map.mpr ⟨_, hm, rfl⟩
    have e1 := map_at T.lam _ hr2
    have e2 := List.all_eq_true.mp T.lams _ hr2
    obtain ⟨l2, hl2⟩ := Option.isSome_iff_exists.mp e2
    have ht := e1.trans hl2
    unfold trLam at ht
    refine ⟨natLook (natNd_ok T.nd) hr2, ?_, fun y hy hf => ?_⟩
    · split at ht
      · rename_i ps hps
        obtain ⟨args, dfl, hp, _⟩ := args_of hps
        have hp : l.2.1 = ⟨[], args, none, [], [], none, dfl⟩ := hp
        exact ⟨List.isEmpty_iff.mp q1, by rw [hp], by rw [hp]⟩
      · cases ht
    · have := List.all_eq_true.mp q2 y hy
      rw [hf] at this
      exact isK_ok this
  · have hk : k ∈ S.tf := by
      have hlt : k < rows.length := (List.getElem?_eq_some_iff.mp hr).1
      have := List.all_eq_true.mp T.tf k (List.mem_range.mpr hlt)
      rw [hr] at this
      rw [Bool.or_eq_true] at this
      rcases this with z | z
      · exact absurd (List.isEmpty_iff.mp z) hne
      · exact List.contains_iff_mem.mp z
    intro oc od fd osl lk
    have ea : S.fA K k = He.fAd K d.d.at_ := by unfold Spec.fA; rw [pl_eq hd]
    obtain ⟨fd', FD⟩ := F d (List.mem_of_getElem? hd)
    obtain ⟨oc', od', dV, kV, doc, pm, an, cdv, ct, osl', rfl, lk', hcd, _, _⟩ := FD.ex
    rw [ea, lk'] at lk
    cases lk
    obtain ⟨c, hc⟩ := He.codeIn_ref hcd
    have e3 : He.codeOf K d.d.at_ = c := He.codeOf_eq lk' hc
    have e4 : S.cp K k = (c, He.tabOf K c) := by
      unfold Sp2.cp He.cT
      rw [pl_eq hd, e3]
    have hq : S.qn k = lamQ d.d.qual := by unfold Sp2.qn; rw [hd]
    have ht := tb _ (List.mem_map_of_mem (f := S.cp K) hk)
    rw [e4] at ht
    refine ⟨c, He.tabOf K c, hc, ht, ?_, fun p hp hp1 => ?_⟩
    · refine List.mem_map.mpr ⟨k, hk, ?_⟩
      rw [e4, hq]
    · obtain ⟨k2, hk2, rfl⟩ := List.mem_map.mp hp
      have hp1 : (S.cp K k2).2 = He.tabOf K c := hp1
      have e5 : (S.cp K k2).2 = (S.cp K k).2 := by rw [hp1, e4]
      obtain ⟨i, hi⟩ := List.mem_iff_getElem?.mp hk
      obtain ⟨i2, hi2⟩ := List.mem_iff_getElem?.mp hk2
      have nd := natNd_ok m5
      have hii : i2 = i := by
        refine (List.getElem?_inj (l := S.tf.map fun k => (S.cp K k).2) (by rw [List.length_map]; exact (List.getElem?_eq_some_iff.mp hi2).1) nd).mp ?_
        rw [List.getElem?_map, List.getElem?_map, hi, hi2]
        exact congrArg some e5
      subst hii
      rw [hi] at hi2
      cases hi2
      exact hq
end
theorem vals_intD {G : Top} {φ : List Gh} {H : Hp} : ∀ ns : List Int, ValsR G φ H (ns.map D.int) (ns.map V.int)
  | [] => .nil
  | n :: ns => .cons rint (vals_intD ns)
def scrO (b : Bool) (ns : List Int) : Ob := if b then .flst (ns.map D.int) else .lst (ns.map D.int)
/-- a script handed in -/
theorem sr_start {S : Sp2} {K : PySem.W.Frag} {H : Hp} {a : Addr} {ns : List Int} {lams : List (Nat × LamT)} (nol : ∀ a o, K.lookup a = some o → o.cls ≠ .type "list") (hT : ∀ p ∈ S.tf.map (S.cp K), H p.2 = some (.tbl #[])) (hS : SqL K H a (ns.map V.int)) :
    ∃ b : Bool, SR (S.toSpec.G K (S.tabs K) lams) [.adr a] {} H [scrO b ns] := by
  have mk : ∀ b : Bool, ObR (S.toSpec.G K (S.tabs K) lams) [.adr a] H false (scrO b ns) a → SR (S.toSpec.G K (S.tabs K) lams) [.adr a] {} H [scrO b ns] := fun b ho => by
    refine ⟨rfl, fun i j c h1 h2 => ?_, fun i o hi => ?_, fun id ρ h => absurd h (by simp), fun i j ρ ρ' h => absurd h (by simp), fun p hp => ?_, fun i h => absurd h (by simp)⟩
    · cases i with
      | zero =>
        cases j with
        | zero => rfl
        | succ j => simp at h2
      | succ i => simp at h1
    · cases i with
      | zero =>
        cases hi
        exact .inr ⟨a, rfl, ho⟩
      | succ i => simp at hi
    · obtain ⟨k, hk, rfl⟩ := List.mem_map.mp hp
      exact .nil (hT _ (List.mem_map_of_mem (f := S.cp K) hk))
  rcases hS with (h | ⟨o, h⟩) | ⟨o, its, n, h1, h2, _⟩
  · exact ⟨false, mk false ⟨_, h, vals_intD ns⟩⟩
  · exact ⟨true, mk true ⟨o, _, h, vals_intD ns⟩⟩
  · exact absurd h2 (nol a o h1)
theorem claim {l : PySem.W.OpenLaw} {S : Sp2} {rows : List (Df × List LI)} {q : Program} {loose : List Str} {XP : (Str → Option Value) → Heap → Prop} {d : DefRec} {nn N np : Nat} {dl : Dd} {x : Str} (hmost : l.most = some 63) (hdf : d.params.defaults = []) (T : Txt S rows)
    (hgt : S.gt.lookup d.name = some (.df S.law np [])) (hd : S.defs[S.law]? = some dl) (hps : argsOf dl.d.params = some [x]) (hdl : dl.d.dfl = []) (hr : Room (N + 2) callerA)
    (plain : ∀ ns : List Int, ns.length ≤ 63 → (∀ z ∈ ns, Builtin.Int.intBits z ≤ 1048576) → ∀ b : Bool, ∃ m, callN S.P (N + 1) {} (.df S.law) [.ref 0] [scrO b ns] = .ok (.bl true) m) :
    PySem.W.WalkO q loose XP (hookY S l.prog nn).says l.row.toRowW d [] (fun f vs => PySem.call f vs) := by
  refine LamX.walk_ofTsE (n := 63) (k := N + 2) (x := x) (CX := fun w => L2.CX l.prog w) hmost (by decide) hdf hr (fun w mg fa h Y g hmg => ?_) fun w H s e s' z => ?_
  · obtain ⟨K, X, Y⟩ := Y
    refine ⟨K, X, ?_⟩
    have F : FnsOk S.toSpec K := fun d hd => Y.d.defs (List.mem_map_of_mem (f := fun d : Dd => d.d) hd)
    obtain ⟨fd, FD⟩ := F dl (List.mem_of_getElem? hd)
    have ea : S.fA K S.law = He.fAd K dl.d.at_ := by unfold Spec.fA; rw [pl_eq hd]
    have efa : fa = S.fA K S.law := by
      have m1 := (and2 Y.more).1
      have q := gv_ok (tabs := []) (lams := []) X g F (List.all_eq_true.mp m1 _ (look_in hgt))
      obtain ⟨a, h1, h2, _⟩ := q
      rw [hmg] at h2
      cases h2
      exact (df_lt h1).2
    have edv : dl.d.dvs K = [] := by unfold He.DefD.dvs; rw [hdl]; rfl
    refine ⟨fd, S.tf.map (S.cp K), spD (S.toSpec.G K (S.tabs K) (lamRows S.toSpec rows)) (N + 1) (.df S.law), fun p hp => ?_, fun p hp => ?_, fun p hp => ?_, fun s u => ?_, fun H a ns hlen hbits hT hS => ?_, fun base hb gb tb => ?_⟩
    · obtain ⟨k, hk, rfl⟩ := List.mem_map.mp hp
      exact Y.emp k hk
    · obtain ⟨k, hk, rfl⟩ := List.mem_map.mp hp
      exact Y.out k hk
    · obtain ⟨k, hk, rfl⟩ := List.mem_map.mp hp
      exact PySem.W.codeHd_of_K X (Y.hd k hk)
    · rw [edv] at FD
      obtain ⟨args, dfl, hp, hx⟩ := args_of hps
      obtain ⟨oc, od, dV, kV, doc, pm, an, cdv, ct, osl, rfl, lk, hcd, hD, _⟩ := FD.ex
      rcases hD with ⟨_, rfl⟩ | ⟨z, _⟩
      · have hl : args.length = 1 := by rw [← List.length_map (f := fun a : Arg => a.arg), ← hx]; rfl
        have := bind_plain (fd := PySem.W.fnOf dl.d.name dl.d.qual dl.d.params dl.d.body dl.d.scope .none kV doc pm an cdv ct) (us := [u]) hp rfl (by rw [hl]; rfl) (by rw [← hx]; simp)
        rw [← hx] at this
        exact .of_eq this
      · exact absurd rfl z
    · obtain ⟨b, sr⟩ := sr_start (lams := lamRows S.toSpec rows) Y.nol hT hS
      obtain ⟨m, hm⟩ := plain ns hlen hbits b
      refine ⟨[.adr a], {}, [scrO b ns], [.ref 0], sr, .one ?_, ?_⟩
      · simp only [ValR]
        exact ⟨a, rfl, rfl⟩
      · show Post _ _ _ _ (callN S.P (N + 1) {} (.df S.law) [.ref 0] [scrO b ns]) _ _
        rw [hm]
        exact fun φ' H' _ _ v rv => by simp only [ValR] at rv; exact rv
    · have B := base_ok (base := base) T Y X g tb
      have GN := go_lv (w := w) B N
      have hlt : S.law < S.defs.length := (List.getElem?_eq_some_iff.mp hd).1
      obtain ⟨d2, df, lis, ps, fd2, h1, h2, h3, h4, h5, h6, li, tbl, _⟩ := def_key B S.law _ (df_some hlt)
      rw [hd] at h1
      cases h1
      rw [hps] at h4
      cases h4
      have hfd : fd2 = fd := by
        obtain ⟨_, _, _, _, _, _, _, _, _, _, rfl, lk, _⟩ := FD.ex
        obtain ⟨_, _, _, _, _, _, _, _, _, _, rfl, lk2, _⟩ := h5.ex
        rw [h6, lk] at lk2
        cases lk2
        rfl
      subst hfd
      rw [efa]
      exact df_ok h3 hps h5 h2 B.tp GN B.gx (lamsG B.tp B.lam N) li tbl
  · obtain ⟨_, _, _, _, _, _, _, _, _, _, _, _, f⟩ := z
    exact f
end Ms

-- So52
set_option linter.all false
set_option Elab.async false
set_option maxRecDepth 10000
/-! One look at the text. -/
namespace Ms
open PySem L2 PySem.Spec PyProof.Rows
structure Sp3 extends Sp2 where
  lo : List Nat
abbrev TxV : Type := Option (List Df × Bool × List (Nat × Option Lam))
def txtB (S : Sp3) (rows : List (Df × List LI)) : Bool := (lisOf S.toSpec rows).all liB && (natNd S.lo && ((S.lo.all fun i => decide (i < S.P.lams.length)) && ((List.range rows.length).all fun k => (match rows[k]? with
    | some r => r.2.isEmpty
    | none => true) || S.tf.contains k)))
def txtV (S : Sp3) : TxV := match trDfs S.toSpec with
  | some rows => some (rows.map (·.1), txtB S rows, (lamRows S.toSpec rows).map fun p => (p.1, trLam S.toSpec p.2))
  | none => none
def wantV (S : Sp3) : TxV := some (S.P.defs, true, S.lo.map fun i => (i, S.P.lams[i]?))
theorem txt_of {S : Sp3} (e : txtV S = wantV S) : ∃ rows, Txt S.toSp2 rows := by
  unfold txtV wantV at e
  split at e
  · rename_i rows hr
    have e := Option.some.inj e
    obtain ⟨e1, e⟩ := Prod.mk.inj e
    obtain ⟨e2, e3⟩ := Prod.mk.inj e
    unfold txtB at e2
    obtain ⟨b1, e2⟩ := and2 e2
    obtain ⟨b2, e2⟩ := and2 e2
    obtain ⟨b3, b4⟩ := and2 e2
    have k1 : (lamRows S.toSpec rows).map (·.1) = S.lo := by
      have := congrArg (List.map (·.1)) e3
      simp only [List.map_map] at this
      exact this.trans (by
        have : ∀ l : List Nat, l.map ((fun x : Nat × Option Lam => x.1) ∘ fun i => (i, S.P.lams[i]?)) = l := fun l => by
          induction l with
          | nil => rfl
          | cons a l ih => rw [List.map_cons, ih]; rfl
        exact this _)
    have k2 : (lamRows S.toSpec rows).map (fun p => trLam S.toSpec p.2) = (lamRows S.toSpec rows).map fun p => S.P.lams[p.1]? := by
      have h1 := congrArg (List.map (·.2)) e3
      simp only [List.map_map] at h1
      have h2 : (lamRows S.toSpec rows).map (fun p => S.P.lams[p.1]?) = S.lo.map fun i => S.P.lams[i]? := by
        rw [← k1, List.map_map]
        rfl
      exact h1.trans h2.symm
    refine ⟨rows, hr, e1, b1, by rw [k1]; exact b2, k2, ?_, b4⟩
    rw [List.all_eq_true]
    intro p hp
    have hp1 : p.1 ∈ S.lo := by rw [← k1]; exact List.mem_map_of_mem (f := (·.1)) hp
    have := of_decide_eq_true (List.all_eq_true.mp b3 _ hp1)
    simp [this]
  · cases e
/-- a def at the top, a method -/
def dF (n : Str) (st : Stmt) (dfl : List He.Dv := []) : He.DefD := ⟨(n, none), n, n, defArgs st, defBody st, defScope st, dfl, []⟩
def dM (c m : Str) (st : Stmt) (dfl : List He.Dv := []) : He.DefD := ⟨(c, some m), m, (c ++ "." : Str) ++ m, defArgs st, defBody st, defScope st, dfl, []⟩
end Ms

-- M1
set_option linter.all false
set_option Elab.async false
set_option maxRecDepth 10000
/-! The machine's steps as rewriting rules; what stays in the memory; walks. -/
namespace Ms
open PySem (Str PyData)
/-- a step that is told, not seen -/
theorem eqr {α : Sort _} {a b : α} (h : a = b) : a = b := h
section
variable {α β : Type} {P : Prog} {C : Cl} {fr : Fr} {ρ : Env} {m : Mem}
@[simp] theorem rb_ok (a : α) (f : α → Mem → R β) : (R.ok a m).bind f = f a m := eqr rfl
@[simp] theorem rb_exc (c : Nat) (v : List D) (f : α → Mem → R β) : (R.exc c v m : R α).bind f = .exc c v m := eqr rfl
@[simp] theorem rb_bad (f : α → Mem → R β) : (R.bad : R α).bind f = .bad := eqr rfl
@[simp] theorem nox_ok (a : α) : (R.ok a m).nox = .ok a m := eqr rfl
@[simp] theorem nox_exc (c : Nat) (v : List D) : (R.exc c v m : R α).nox = .bad := eqr rfl
@[simp] theorem noxIf_f (r : R α) : noxIf false r = r := eqr rfl
@[simp] theorem noxIf_ok (b : Bool) (a : α) : noxIf b (.ok a m) = .ok a m := by cases b <;> rfl
@[simp] theorem opt_some (a : α) : opt (some a) m = .ok a m := eqr rfl
@[simp] theorem opt_none : (opt none m : R α) = .bad := eqr rfl
@[simp] theorem to_ok (a : α) (f : α → Mem → X) : (R.ok a m).to ρ f = f a m := eqr rfl
@[simp] theorem to_exc (c : Nat) (v : List D) (f : α → Mem → X) : (R.exc c v m : R α).to ρ f = .exc c v ρ m := eqr rfl
@[simp] theorem seq_nx (f : Env → Mem → X) : (X.nx ρ m).seq f = f ρ m := eqr rfl
@[simp] theorem seq_rt (d : D) (f : Env → Mem → X) : (X.rt d m).seq f = .rt d m := eqr rfl
@[simp] theorem seq_ct (f : Env → Mem → X) : (X.ct ρ m).seq f = .ct ρ m := eqr rfl
@[simp] theorem seq_exc (c : Nat) (v : List D) (f : Env → Mem → X) : (X.exc c v ρ m).seq f = .exc c v ρ m := eqr rfl
@[simp] theorem xnoxIf_f (r : X) : X.noxIf false r = r := by cases r <;> rfl
@[simp] theorem xnoxIf_rt (b : Bool) (d : D) : X.noxIf b (.rt d m) = .rt d m := eqr rfl
@[simp] theorem xnoxIf_nx (b : Bool) : X.noxIf b (.nx ρ m) = .nx ρ m := eqr rfl
/-- what isinstance answers -/
def isI (m : Mem) (v : D) (l : List Ty) : Option Bool := (tyv m v).bind fun u => isAny u l
/-! ### expressions -/
@[simp] theorem e_var (i : Nat) : ev P C fr (.var i) ρ m = opt ((ρ[i]?).join) m := by rw [ev] <;> rfl
@[simp] theorem e_cst (d : D) : ev P C fr (.cst d) ρ m = .ok d m := by rw [ev] <;> rfl
@[simp] theorem e_bin (o : Bin) (a b : E) : ev P C fr (.bin o a b) ρ m = (ev P C fr a ρ m).bind fun x m => (ev P C fr b ρ m).bind fun y m => binop o x y m := by rw [ev] <;> rfl
@[simp] theorem e_neg (a : E) : ev P C fr (.neg a) ρ m = (ev P C fr a ρ m).bind fun x m => match x with
    | .int i => .ok (.int (-i)) m
    | _ => .bad := by rw [ev] <;> rfl
@[simp] theorem e_not (a : E) : ev P C fr (.not a) ρ m = (ev P C fr a ρ m).bind fun x m => (opt (truth m x) m).bind fun b m => .ok (.bl !b) m := by rw [ev] <;> rfl
@[simp] theorem e_and (a b : E) : ev P C fr (.and a b) ρ m = (ev P C fr a ρ m).bind fun x m => (opt (truth m x) m).bind fun c m => if c then ev P C fr b ρ m else .ok x m := by rw [ev] <;> rfl
@[simp] theorem e_or (a b : E) : ev P C fr (.or a b) ρ m = (ev P C fr a ρ m).bind fun x m => (opt (truth m x) m).bind fun c m => if c then .ok x m else ev P C fr b ρ m := by rw [ev] <;> rfl
@[simp] theorem e_cmp (o : Cmp) (a b : E) : ev P C fr (.cmp o a b) ρ m = (ev P C fr a ρ m).bind fun x m => (ev P C fr b ρ m).bind fun y m => cmpE P C fr o x y m := by rw [ev] <;> rfl
@[simp] theorem e_chn (o p : Cmp) (a b c : E) : ev P C fr (.chn o p a b c) ρ m = (ev P C fr a ρ m).bind fun x m => (ev P C fr b ρ m).bind fun y m => (cmpop o x y m).bind fun z m => match z with
    | .bl true => (ev P C fr c ρ m).bind fun u m => cmpop p y u m
    | .bl false => .ok (.bl false) m
    | _ => .bad := by rw [ev] <;> rfl
@[simp] theorem e_ite (c a b : E) : ev P C fr (.ite c a b) ρ m = (ev P C fr c ρ m).bind fun x m => (opt (truth m x) m).bind fun t m => if t then ev P C fr a ρ m else ev P C fr b ρ m := by rw [ev] <;> rfl
@[simp] theorem e_att (a : E) (f : Str) : ev P C fr (.att a f) ρ m = (ev P C fr a ρ m).bind fun x m => opt (field x f m) m := by rw [ev] <;> rfl
@[simp] theorem e_idx (a i : E) : ev P C fr (.idx a i) ρ m = (ev P C fr a ρ m).bind fun x m => (ev P C fr i ρ m).bind fun y m => index x y m := by rw [ev] <;> rfl
@[simp] theorem e_slc (a : E) (lo hi : Option E) : ev P C fr (.slc a lo hi) ρ m = (ev P C fr a ρ m).bind fun x m => (evo P C fr lo ρ m).bind fun l m => (evo P C fr hi ρ m).bind fun h m => slice x l h m := by rw [ev] <;> rfl
@[simp] theorem e_tupl (l : List E) : ev P C fr (.tup l) ρ m = (evs P C fr l ρ m).bind fun ds m => if ds.length ≤ lim then .ok (.tup ds) m else .bad := by rw [ev] <;> rfl
@[simp] theorem e_lst (l : List E) : ev P C fr (.lst l) ρ m = (evs P C fr l ρ m).bind fun ds m => newL ds m := by rw [ev] <;> rfl
@[simp] theorem e_dnew (t : Nat) : ev P C fr (.dnew t) ρ m = .ok (.ref m.length) (m ++ [.dct t []]) := by rw [ev] <;> rfl
@[simp] theorem e_call (f : Nat) (l : List E) : ev P C fr (.call f l) ρ m = (evs P C fr l ρ m).bind fun ds m => C fr (.df f) ds m := by rw [ev] <;> rfl
@[simp] theorem e_mk (c : Nat) (l : List E) : ev P C fr (.mk c l) ρ m = (evs P C fr l ρ m).bind fun ds m => C fr (.ct c) ds m := by rw [ev] <;> rfl
@[simp] theorem e_cv (a : E) (l : List E) : ev P C fr (.cv a l) ρ m = (ev P C fr a ρ m).bind fun x m => if isF x then (evs P C fr l ρ m).bind fun ds m => callV C fr x ds m else .bad := by rw [ev] <;> rfl
@[simp] theorem e_blt (f : Bl) (l : List E) : ev P C fr (.blt f l) ρ m = (evs P C fr l ρ m).bind fun ds m => bltin f ds m := by rw [ev] <;> rfl
@[simp] theorem e_mth (f : Mt) (a : E) (l : List E) : ev P C fr (.mth f a l) ρ m = (ev P C fr a ρ m).bind fun x m => if recv f m x then (evs P C fr l ρ m).bind fun ds m => meth f x ds m else .bad := by rw [ev] <;> rfl
@[simp] theorem e_omt (f : Str) (a : E) (l : List E) : ev P C fr (.omt f a l) ρ m = (ev P C fr a ρ m).bind fun x m => ometh f x l.length m := by rw [ev] <;> rfl
@[simp] theorem e_inv (a : E) : ev P C fr (.inv a) ρ m = (ev P C fr a ρ m).bind fun x m => match x with
    | .int i => .ok (.int (PySem.Builtin.bitNot i)) m
    | _ => .bad := by rw [ev] <;> rfl
@[simp] theorem e_isi (a : E) (l : List Ty) : ev P C fr (.isi a l) ρ m = (ev P C fr a ρ m).bind fun x m => opt ((isI m x l).map .bl) m := by rw [ev] <;> rfl
@[simp] theorem e_calL (f : Nat) (l : List E) : ev P C fr (.calL f l) ρ m = (evL P C fr m.length l ρ (m ++ [.mark])).bind fun ds m' => C { fr with fr := (m.length, ρ) :: fr.fr } (.df f) ds m' := by rw [ev] <;> rfl
@[simp] theorem es_nil : evs P C fr [] ρ m = .ok [] m := by rw [evs] <;> rfl
@[simp] theorem es_cons (e : E) (l : List E) : evs P C fr (e :: l) ρ m = (ev P C fr e ρ m).bind fun x m => (evs P C fr l ρ m).bind fun xs m => .ok (x :: xs) m := by rw [evs] <;> rfl
@[simp] theorem eo_none : evo P C fr none ρ m = .ok none m := by rw [evo] <;> rfl
@[simp] theorem eo_some (e : E) : evo P C fr (some e) ρ m = (ev P C fr e ρ m).bind fun x m => match x with
    | .int i => .ok (some i) m
    | _ => .bad := by rw [evo] <;> rfl
@[simp] theorem et_nil : evT P C fr [] ρ m = .ok true m := by rw [evT] <;> rfl
@[simp] theorem et_one (e : E) : evT P C fr [e] ρ m = (ev P C fr e ρ m).bind fun x m => opt (truth m x) m := by
  rw [evT]
  congr 1
  funext x m
  cases truth m x with
  | none => rfl
  | some b => cases b <;> simp
/-! ### statements -/
@[simp] theorem xs_nil : exes P C fr [] ρ m = .nx ρ m := by rw [exes] <;> rfl
@[simp] theorem xs_cons (s : S) (l : List S) : exes P C fr (s :: l) ρ m = (exe P C fr s ρ m).seq fun ρ m => exes P C fr l ρ m := by rw [exes] <;> rfl
@[simp] theorem x_set (g : Lg) (e : E) : exe P C fr (.set g e) ρ m = (ev P C fr e ρ m).to ρ fun d m => store P C fr d ρ m g := by rw [exe] <;> rfl
@[simp] theorem x_aug (i : Nat) (o : Bin) (e : E) : exe P C fr (.aug i o e) ρ m = match (ρ[i]?).join with
    | some x => (ev P C fr e ρ m).to ρ fun y m => (augop o x y m).to ρ fun z m => if i < ρ.length then .nx (ρ.set i (some z)) m else .bad
    | none => .bad := by rw [exe] <;> rfl
@[simp] theorem x_ife (c : E) (a b : List S) : exe P C fr (.ife c a b) ρ m = ((ev P C fr c ρ m).bind fun x m => opt (truth m x) m).to ρ fun t m => if t then exes P C fr a ρ m else exes P C fr b ρ m := by rw [exe] <;> rfl
@[simp] theorem x_ret (e : E) : exe P C fr (.ret e) ρ m = (ev P C fr e ρ m).to ρ fun d m => .rt d m := by rw [exe] <;> rfl
@[simp] theorem x_rse (c : Nat) (l : List E) : exe P C fr (.rse c l) ρ m = (evs P C fr l ρ m).to ρ fun ds m => .exc c ds ρ m := by rw [exe] <;> rfl
@[simp] theorem x_ex (e : E) : exe P C fr (.ex e) ρ m = (ev P C fr e ρ m).to ρ fun _ m => .nx ρ m := by rw [exe] <;> rfl
@[simp] theorem x_pas : exe P C fr .pas ρ m = .nx ρ m := by rw [exe] <;> rfl
@[simp] theorem x_cont : exe P C fr .cont ρ m = .ct ρ m := by rw [exe] <;> rfl
@[simp] theorem x_tri (a : List S) (h : List (Ty × Nat × E)) : exe P C fr (.tri a h) ρ m = match exes P C fr a ρ m with
    | .exc c v ρ m => handle P c v ρ m h
    | r => r := by rw [exe] <;> rfl
@[simp] theorem st_v (d : D) (i : Nat) : store P C fr d ρ m (.v i) = if i < ρ.length then .nx (ρ.set i (some d)) m else .bad := by rw [store] <;> rfl
@[simp] theorem st_t (ds : List D) (l : List Lg) : store P C fr (.tup ds) ρ m (.t l) = if ds.length = l.length then stores P C fr ds ρ m l else .bad := by rw [store] <;> rfl
theorem st_tl {p : Nat} {ds : List D} {l : List Lg} (h : m[p]? = some (.lst ds)) (hl : ds.length = l.length) : store P C fr (.ref p) ρ m (.t l) = stores P C fr ds ρ m l := by
  rw [store]
  simp only [h, hl, if_true]
@[simp] theorem sts_nil : stores P C fr [] ρ m [] = .nx ρ m := by rw [stores] <;> rfl
@[simp] theorem sts_cons (d : D) (ds : List D) (g : Lg) (l : List Lg) : stores P C fr (d :: ds) ρ m (g :: l) = (store P C fr d ρ m g).seq fun ρ m => stores P C fr ds ρ m l := by rw [stores] <;> rfl
theorem st_sub (d : D) (a i : E) : store P C fr d ρ m (.sub a i) = (ev P C fr a ρ m).to ρ fun x m => (ev P C fr i ρ m).to ρ fun j m => match x with
    | .ref p => match m[p]? with
      | some (.lst l) => match j with
        | .int j => match L2.ixN l.length j with
          | some j => .nx ρ (m.set p (.lst (l.set j d)))
          | none => .bad
        | _ => .bad
      | some (.dct 0 l) => if !fr.lk.contains p && isKey 0 j && decide (l.length < lim) then .nx ρ (m.set p (.dct 0 (dput 0 l j d))) else .bad
      | _ => .bad
    | _ => .bad := by rw [store] <;> rfl
theorem st_att (d : D) (a : E) (f : Str) : store P C fr d ρ m (.att a f) = (ev P C fr a ρ m).to ρ fun x m => match x with
    | .ref p => match m[p]? with
      | some (.ins c fs) => if fs.length < 900 ∧ (P.clss[c]?).any (fun k => k.flds.contains f) then .nx ρ (m.set p (.ins c (putFd f d fs))) else .bad
      | _ => .bad
    | _ => .bad := by rw [store] <;> rfl
theorem st_at {i p c : Nat} {fs : List (Str × D)} {k : Cls} {f : Str} {d : D} (hρ : ρ[i]? = some (some (.ref p))) (hp : m[p]? = some (.ins c fs)) (hl : fs.length < 900) (hc : P.clss[c]? = some k) (hf : k.flds.contains f = true) : store P C fr d ρ m (.att (.var i) f) = .nx ρ (m.set p (.ins c (putFd f d fs))) := by
  rw [st_att, e_var, hρ]
  simp only [Option.join_some, opt_some, to_ok, hp, hl, hc, Option.any_some, hf, and_self, if_true]
/-! ### operators on ints -/
@[simp] theorem b_add (i j : Int) : binop .add (.int i) (.int j) m = .ok (.int (i + j)) m := eqr rfl
@[simp] theorem b_addb (i : Int) (j : Bool) : binop .add (.int i) (.bl j) m = .ok (.int (i + if j then 1 else 0)) m := eqr rfl
@[simp] theorem b_sub (i j : Int) : binop .sub (.int i) (.int j) m = .ok (.int (i - j)) m := eqr rfl
@[simp] theorem b_mul (i j : Int) : binop .mul (.int i) (.int j) m = if i.natAbs < 2 ^ 64 ∨ j.natAbs < 2 ^ 64 then .ok (.int (i * j)) m else .bad := eqr rfl
@[simp] theorem b_mod (i j : Int) : binop .mod (.int i) (.int j) m = if 0 < j then .ok (.int (i % j)) m else .bad := eqr rfl
@[simp] theorem b_fdiv (i j : Int) : binop .fdiv (.int i) (.int j) m = if 0 < j ∧ j < 1073741824 then .ok (.int (i / j)) m else .bad := eqr rfl
@[simp] theorem b_addT (x y : List D) : binop .add (.tup x) (.tup y) m = if x.length + y.length ≤ lim then .ok (.tup (x ++ y)) m else .bad := eqr rfl
theorem b_addL {p q : Nat} {x y : List D} (h1 : m[p]? = some (.lst x)) (h2 : m[q]? = some (.lst y)) (h : x.length + y.length ≤ lim) : binop .add (.ref p) (.ref q) m = .ok (.ref m.length) (m ++ [.lst (x ++ y)]) := by
  simp only [binop, h1, h2, h, if_true]
@[simp] theorem ag_add (i j : Int) : augop .add (.int i) (.int j) m = .ok (.int (i + j)) m := eqr rfl
@[simp] theorem ag_sub (i j : Int) : augop .sub (.int i) (.int j) m = .ok (.int (i - j)) m := eqr rfl
@[simp] theorem c_lt (i j : Int) : cmpop .lt (.int i) (.int j) m = .ok (.bl (decide (i < j))) m := eqr rfl
@[simp] theorem c_le (i j : Int) : cmpop .le (.int i) (.int j) m = .ok (.bl (decide (i ≤ j))) m := eqr rfl
@[simp] theorem c_gt (i j : Int) : cmpop .gt (.int i) (.int j) m = .ok (.bl (decide (j < i))) m := eqr rfl
@[simp] theorem c_ge (i j : Int) : cmpop .ge (.int i) (.int j) m = .ok (.bl (decide (j ≤ i))) m := eqr rfl
theorem int_beq (i j : Int) : (i == j) = decide (i = j) := by
  cases h : i == j with
  | true => rw [decide_eq_true (beq_iff_eq.mp h)]
  | false => rw [decide_eq_false fun z => by rw [z] at h; simp at h]
@[simp] theorem eqD_int (i j : Int) : eqD m (.int i) (.int j) = some (decide (i = j)) := by
  show some (PyData.eqv (.int i) (.int j)) = _
  simp [PyData.eqv, int_beq]
@[simp] theorem eqD_bl (i j : Bool) : eqD m (.bl i) (.bl j) = some (decide (i = j)) := by
  show some (PyData.eqv (.bool i) (.bool j)) = _
  cases i <;> cases j <;> simp [PyData.eqv]
@[simp] theorem c_eq (a b : D) : cmpop .eq a b m = opt ((eqD m a b).map .bl) m := eqr rfl
@[simp] theorem c_ne (a b : D) : cmpop .ne a b m = opt ((eqD m a b).map fun c => .bl !c) m := eqr rfl
@[simp] theorem c_isN (a : D) : cmpop .is a .non m = .ok (.bl (isN a)) m := eqr rfl
@[simp] theorem c_isNN (a : D) : cmpop .isNot a .non m = .ok (.bl !(isN a)) m := eqr rfl
@[simp] theorem c_isB (a : D) (b : Bool) : cmpop .is a (.bl b) m = .ok (.bl (isB b a)) m := eqr rfl
@[simp] theorem c_isNB (a : D) (b : Bool) : cmpop .isNot a (.bl b) m = .ok (.bl !(isB b a)) m := eqr rfl
/-- nothing but an object has an own == -/
theorem cmpE_of {o : Cmp} {a b : D} (h : ownEq P m a = none) : cmpE P C fr o a b m = cmpop o a b m := by
  unfold cmpE
  rw [h]
@[simp] theorem cmpE_int (o : Cmp) (i : Int) (b : D) : cmpE P C fr o (.int i) b m = cmpop o (.int i) b m := cmpE_of rfl
@[simp] theorem cmpE_bool (o : Cmp) (i : Bool) (b : D) : cmpE P C fr o (.bl i) b m = cmpop o (.bl i) b m := cmpE_of rfl
@[simp] theorem cmpE_non (o : Cmp) (b : D) : cmpE P C fr o .non b m = cmpop o .non b m := cmpE_of rfl
@[simp] theorem cmpE_str (o : Cmp) (x : Str) (b : D) : cmpE P C fr o (.str x) b m = cmpop o (.str x) b m := cmpE_of rfl
@[simp] theorem cmpE_tup (o : Cmp) (x : List D) (b : D) : cmpE P C fr o (.tup x) b m = cmpop o (.tup x) b m := cmpE_of rfl
theorem ownEq_lst {p : Nat} {l : List D} (h : m[p]? = some (.lst l)) : ownEq P m (.ref p) = none := by
  unfold ownEq
  simp only [h]
@[simp] theorem tr_bl (b : Bool) : truth m (.bl b) = some b := eqr rfl
@[simp] theorem tr_int (i : Int) : truth m (.int i) = some (i != 0) := eqr rfl
@[simp] theorem tr_non : truth m .non = some false := eqr rfl
@[simp] theorem tr_tup (l : List D) : truth m (.tup l) = some (!l.isEmpty) := eqr rfl
@[simp] theorem isF_clo (k i : Nat) : isF (.clo k i) = true := eqr rfl
@[simp] theorem isF_fn (k : Nat) : isF (.fn k) = true := eqr rfl
end
@[simp] theorem lim0 : (0 ≤ lim) = True := eq_true (by unfold lim; omega)
@[simp] theorem lim1 : (1 ≤ lim) = True := eq_true (by unfold lim; omega)
@[simp] theorem lim2 : (2 ≤ lim) = True := eq_true (by unfold lim; omega)
@[simp] theorem lim3 : (3 ≤ lim) = True := eq_true (by unfold lim; omega)
@[simp] theorem lim4 : (4 ≤ lim) = True := eq_true (by unfold lim; omega)
@[simp] theorem lim5 : (5 ≤ lim) = True := eq_true (by unfold lim; omega)
@[simp] theorem lim6 : (6 ≤ lim) = True := eq_true (by unfold lim; omega)
@[simp] theorem lim7 : (7 ≤ lim) = True := eq_true (by unfold lim; omega)
@[simp] theorem lim8 : (8 ≤ lim) = True := eq_true (by unfold lim; omega)
@[simp] theorem lim9 : (9 ≤ lim) = True := eq_true (by unfold lim; omega)
@[simp] theorem lim10 : (10 ≤ lim) = True := eq_true (by unfold lim; omega)
@[simp] theorem lim11 : (11 ≤ lim) = True := eq_true (by unfold lim; omega)
@[simp] theorem lim12 : (12 ≤ lim) = True := eq_true (by unfold lim; omega)
@[simp] theorem lim13 : (13 ≤ lim) = True := eq_true (by unfold lim; omega)
@[simp] theorem lim14 : (14 ≤ lim) = True := eq_true (by unfold lim; omega)
@[simp] theorem lim15 : (15 ≤ lim) = True := eq_true (by unfold lim; omega)
@[simp] theorem lim16 : (16 ≤ lim) = True := eq_true (by unfold lim; omega)
/-! ### calls -/
def X.ret (x : X) : R D := match x with
  | .nx _ m => .ok .non m
  | .rt v m => .ok v m
  | .exc c v _ m => .exc c v m
  | _ => .bad
@[simp] theorem ret_nx {ρ : Env} {m : Mem} : (X.nx ρ m).ret = .ok .non m := eqr rfl
@[simp] theorem ret_rt {d : D} {m : Mem} : (X.rt d m).ret = .ok d m := eqr rfl
@[simp] theorem ret_exc {c : Nat} {v : List D} {ρ : Env} {m : Mem} : (X.exc c v ρ m).ret = .exc c v m := eqr rfl
theorem call_df {P : Prog} {n k : Nat} {fr : Fr} {ds : List D} {m : Mem} {d : Df} (h : P.defs[k]? = some d) (hl : ds.length = d.np) : callN P (n + 1) fr (.df k) ds m = (exes P (callN P n) fr d.body (startE d.ns ds) m).ret := by
  rw [callN]
  simp only [h, hl, if_true]
  generalize exes P (callN P n) fr d.body (startE d.ns ds) m = r
  cases r <;> rfl
theorem call_ct {P : Prog} {n c : Nat} {fr : Fr} {ds : List D} {m : Mem} {k : Cls} (h : P.clss[c]? = some k) : callN P (n + 1) fr (.ct c) ds m = (callN P n fr (.df k.init) (.ref m.length :: ds) (m ++ [.ins c []])).bind fun d m' => match d with
        | .non => .ok (.ref m.length) m'
        | _ => .bad := by
  rw [callN]
  simp only [h]
  all_goals
    generalize callN P n fr (.df k.init) (.ref m.length :: ds) (m ++ [.ins c []]) = r
    cases r with
    | ok a m => cases a <;> rfl
    | exc c v m => rfl
    | bad => rfl
/-! ### what stays -/
structure Kp (S : List Nat) (m m' : Mem) : Prop where
  len : m.length ≤ m'.length
  at_ : ∀ i : Nat, i < m.length → i ∉ S → m'[i]? = m[i]?
section
variable {S T : List Nat} {m m' m'' : Mem}
theorem Kp.refl : Kp S m m := ⟨Nat.le_refl _, fun _ _ _ => rfl⟩
theorem Kp.trans (a : Kp S m m') (b : Kp S m' m'') : Kp S m m'' := ⟨Nat.le_trans a.len b.len, fun i h n => (b.at_ i (Nat.lt_of_lt_of_le h a.len) n).trans (a.at_ i h n)⟩
theorem Kp.mono (a : Kp S m m') (h : ∀ i ∈ S, i ∈ T) : Kp T m m' := ⟨a.len, fun i hi n => a.at_ i hi fun z => n (h i z)⟩
theorem Kp.any (a : Kp [] m m') : Kp T m m' := a.mono fun _ h => by cases h
theorem Kp.app (t : Mem) : Kp S m (m ++ t) := ⟨by simp, fun i h _ => List.getElem?_append_left h⟩
theorem Kp.get (a : Kp S m m') {p : Nat} {o : Ob} (h : m[p]? = some o) (n : p ∉ S) : m'[p]? = some o := by
  rw [a.at_ p (List.getElem?_eq_some_iff.mp h).1 n]
  exact h
theorem Kp.get0 (a : Kp [] m m') {p : Nat} {o : Ob} (h : m[p]? = some o) : m'[p]? = some o := a.get h (by simp)
/-- what was made behind may be written -/
theorem Kp.set (a : Kp S m m') {p : Nat} {o : Ob} (h : m.length ≤ p ∨ p ∈ S) : Kp S m (m'.set p o) := ⟨by rw [List.length_set]; exact a.len, fun i hi n => by
  have hne : p ≠ i := fun z => by
    rcases h with h | h
    · omega
    · exact n (z ▸ h)
  rw [List.getElem?_set_ne hne]
  exact a.at_ i hi n⟩
theorem Kp.new {o : Ob} (a : Kp [m.length] (m ++ [o]) m') : Kp [] m m' := ⟨Nat.le_trans (by simp) a.len, fun i h _ => by
  rw [a.at_ i (by simp; omega) (by simp; omega), List.getElem?_append_left h]⟩
theorem at_new (o : Ob) : (m ++ [o])[m.length]? = some o := by simp
theorem lt_of {p : Nat} {o : Ob} (h : m[p]? = some o) : p < m.length := (List.getElem?_eq_some_iff.mp h).1
end
/-! ### walks -/
/-- the items, as long as what is walked stays -/
def Wk (s : Src) (n : Nat) (xs : List D) (m : Mem) : Prop := n = xs.length ∧ ∀ m', Kp [] m m' → s.ok m' n = true ∧ ∀ i, i < n → s.at m' n i = xs[i]?
section
variable {m m' : Mem} {fr : Fr}
theorem wk_fix (l : List D) : Wk (.fix l) l.length l m := ⟨rfl, fun m' _ => ⟨by simp [Src.ok], fun i _ => rfl⟩⟩
theorem wk_live {p : Nat} {l : List D} (h : m[p]? = some (.lst l)) : Wk (.live p) l.length l m := ⟨rfl, fun m' k => by
  have h' := k.get0 h
  have e : lstAt m' p = some l := by unfold lstAt; rw [h']
  refine ⟨by simp [Src.ok, lstN, e], fun i _ => by simp [Src.at, lstI, e]⟩⟩
theorem wk_enum {p : Nat} {l : List D} (h : m[p]? = some (.lst l)) : Wk (.enum p) l.length (l.zipIdx.map fun q => .tup [.int q.2, q.1]) m := ⟨by simp, fun m' k => by
  have h' := k.get0 h
  have e : lstAt m' p = some l := by unfold lstAt; rw [h']
  refine ⟨by simp [Src.ok, lstN, e], fun i hi => ?_⟩
  simp only [Src.at, lstI, e, Option.bind_some, List.getElem?_map, List.getElem?_zipIdx]
  cases l[i]? <;> simp⟩
theorem wk_zipT {x y : List D} (h : x.length = y.length) : Wk (.zipT x y) x.length ((x.zip y).map fun q => .tup [q.1, q.2]) m := ⟨by simp [h], fun m' k => by
  refine ⟨by simp [Src.ok, h], fun i hi => ?_⟩
  have h1 : i < y.length := by omega
  have hz : (x.zip y)[i]? = some (x[i], y[i]) := by rw [List.getElem?_zip_eq_some]; simp [hi, h1]
  simp [Src.at, hi, h1, hz]⟩
theorem wk_zipL {p q : Nat} {x y : List D} (h1 : m[p]? = some (.lst x)) (h2 : m[q]? = some (.lst y)) (h : x.length = y.length) : Wk (.zipL p q) x.length ((x.zip y).map fun q => .tup [q.1, q.2]) m := ⟨by simp [h], fun m' k => by
  have e1 : lstAt m' p = some x := by unfold lstAt; rw [k.get0 h1]
  have e2 : lstAt m' q = some y := by unfold lstAt; rw [k.get0 h2]
  refine ⟨by simp [Src.ok, lstN, e1, e2, h], fun i hi => ?_⟩
  have h3 : i < y.length := by omega
  have hz : (x.zip y)[i]? = some (x[i], y[i]) := by rw [List.getElem?_zip_eq_some]; simp [hi, h3]
  simp [Src.at, lstI, e1, e2, hi, h3, hz]⟩
theorem rngL_eq (lo : Int) (n : Nat) : rngL lo (lo + n) = (List.range n).map fun i : Nat => .int (lo + i) := by
  unfold rngL
  congr 2
  omega
end
end Ms

-- M2
set_option linter.all false
set_option Elab.async false
set_option maxRecDepth 10000
/-! Comprehensions and loops by invariants. -/
namespace Ms
open PySem (Str PyData)
section
variable {α β : Type} {P : Prog} {C : Cl} {fr fr1 : Fr} {ρ : Env} {m m1 : Mem} {s : Src} {n : Nat} {xs : List D}
theorem lcGo_aux {f : D → α → Mem → R α} {I : Nat → α → Mem → Prop} (hn : n = xs.length) (hS : ∀ i acc m', i ≤ n → I i acc m' → s.ok m' n = true ∧ ∀ j, j < n → s.at m' n j = xs[j]?)
    (step : ∀ i d acc m', xs[i]? = some d → I i acc m' → ∃ acc' m'', f d acc m' = .ok acc' m'' ∧ I (i + 1) acc' m'') : ∀ (k : Nat) (acc : α) (m' : Mem), k ≤ n → I (n - k) acc m' → ∃ acc' m'', lcGo s n f k acc m' = .ok acc' m'' ∧ I n acc' m''
  | 0, acc, m', _, h => by
    have := (hS _ _ _ (Nat.sub_le _ _) h).1
    refine ⟨acc, m', ?_, by simpa using h⟩
    rw [lcGo]
    simp only [this, if_true]
  | k + 1, acc, m', hk, h => by
    obtain ⟨h1, h2⟩ := hS _ _ _ (Nat.sub_le _ _) h
    have hlt : n - (k + 1) < xs.length := by omega
    have h3 := h2 (n - (k + 1)) (by omega)
    obtain ⟨acc', m2, e, h4⟩ := step _ _ _ _ (List.getElem?_eq_getElem hlt) h
    rw [show n - (k + 1) + 1 = n - k by omega] at h4
    obtain ⟨acc2, m3, e2, h5⟩ := lcGo_aux hn hS step k acc' m2 (by omega) h4
    refine ⟨acc2, m3, ?_, h5⟩
    rw [lcGo]
    simp only [h1, if_true, h3, List.getElem?_eq_getElem hlt, opt_some, rb_ok, e, e2]
theorem lcGo_run {f : D → α → Mem → R α} {I : Nat → α → Mem → Prop} {acc : α} (hn : n = xs.length) (hS : ∀ i acc m', i ≤ n → I i acc m' → s.ok m' n = true ∧ ∀ j, j < n → s.at m' n j = xs[j]?)
    (step : ∀ i d acc m', xs[i]? = some d → I i acc m' → ∃ acc' m'', f d acc m' = .ok acc' m'' ∧ I (i + 1) acc' m'') (h0 : I 0 acc m) : ∃ acc' m'', lcGo s n f n acc m = .ok acc' m'' ∧ I n acc' m'' :=
  lcGo_aux hn hS step n acc m (Nat.le_refl _) (by simpa using h0)
/-- one turn of a list comprehension, of a dict comprehension -/
def lcB (P : Prog) (C : Cl) (fr1 : Fr) (x : E) (g : Tg) (c : List E) (own : List Nat) (ρ : Env) : D → List D → Mem → R (List D) := fun d acc m' => match bindT d (wipeE ρ own) g with
        | some ρ' => (evT P C fr1 c ρ' m').nox.bind fun t m' => if t then (ev P C fr1 x ρ' m').nox.bind fun y m' => if acc.length < lim then .ok (acc ++ [y]) m' else .bad else .ok acc m'
        | none => .bad
def dcB (P : Prog) (C : Cl) (fr1 : Fr) (x y : E) (g : Tg) (c : List E) (own : List Nat) (ρ : Env) : D → List (D × D) → Mem → R (List (D × D)) := fun d acc m' => match bindT d (wipeE ρ own) g with
        | some ρ' => (evT P C fr1 c ρ' m').nox.bind fun b m' => if b then (ev P C fr1 x ρ' m').nox.bind fun u m' => (ev P C fr1 y ρ' m').nox.bind fun v m' =>
            if isKey 0 u ∧ acc.length < lim then .ok (dput 0 acc u v) m' else .bad else .ok acc m'
        | none => .bad
theorem e_lc (x : E) (g : Tg) (k : ItK) (l c : List E) (own : List Nat) : ev P C fr (.lc x g k l c own) ρ m = noxIf (lockV fr m k l ρ).isSome ((evs P C (fr.lock (lockV fr m k l ρ)) l ρ m).bind fun ds m1 => match src (fr.lock (lockV fr m k l ρ)) m1 k ds with
    | some (s, n) => (lcGo s n (lcB P C (fr.lock (lockV fr m k l ρ)) x g c own ρ) n [] m1).bind fun acc m => .ok (.ref m.length) (m ++ [.lst acc])
    | none => .bad) := by
  rw [ev]
  rfl
theorem e_dc (x y : E) (g : Tg) (k : ItK) (l c : List E) (own : List Nat) : ev P C fr (.dc 0 x y g k l c own) ρ m = noxIf (lockV fr m k l ρ).isSome ((evs P C (fr.lock (lockV fr m k l ρ)) l ρ m).bind fun ds m1 => match src (fr.lock (lockV fr m k l ρ)) m1 k ds with
    | some (s, n) => (lcGo s n (dcB P C (fr.lock (lockV fr m k l ρ)) x y g c own ρ) n [] m1).bind fun acc m => .ok (.ref m.length) (m ++ [.dct 0 acc])
    | none => .bad) := by
  rw [ev]
  rfl
/-- a list comprehension by an invariant -/
theorem lc_inv {x : E} {g : Tg} {k : ItK} {l c : List E} {own : List Nat} {ds : List D} {I : Nat → List D → Mem → Prop} (hq : fr.lock (lockV fr m k l ρ) = fr1) (he : evs P C fr1 l ρ m = .ok ds m1) (hs : src fr1 m1 k ds = some (s, n)) (hn : n = xs.length) (hlim : n ≤ lim)
    (hS : ∀ i acc m', i ≤ n → I i acc m' → s.ok m' n = true ∧ ∀ j, j < n → s.at m' n j = xs[j]?) (h0 : I 0 [] m1)
    (step : ∀ i d acc m', xs[i]? = some d → I i acc m' → ∃ ρ', bindT d (wipeE ρ own) g = some ρ' ∧ ∃ t m2, evT P C fr1 c ρ' m' = .ok t m2 ∧ (t = false → I (i + 1) acc m2) ∧ (t = true → ∃ z m3, ev P C fr1 x ρ' m2 = .ok z m3 ∧ I (i + 1) (acc ++ [z]) m3)) :
    ∃ acc m2, ev P C fr (.lc x g k l c own) ρ m = .ok (.ref m2.length) (m2 ++ [.lst acc]) ∧ I n acc m2 ∧ acc.length ≤ n := by
  obtain ⟨acc, m2, e, h1, h2⟩ := lcGo_run (I := fun i acc m' => acc.length ≤ i ∧ I i acc m') (acc := ([] : List D)) (m := m1) (f := lcB P C fr1 x g c own ρ) hn (fun i acc m' hi h => hS i acc m' hi h.2) (fun i d acc m' hd h => by
    obtain ⟨ρ', hb, t, m2, ht, hf, hT⟩ := step i d acc m' hd h.2
    have hi : i < n := by rw [hn]; exact (List.getElem?_eq_some_iff.mp hd).1
    simp only [lcB, hb, ht, nox_ok, rb_ok]
    cases t with
    | false => exact ⟨acc, m2, rfl, Nat.le_succ_of_le h.1, hf rfl⟩
    | true =>
      obtain ⟨z, m3, hz, hI⟩ := hT rfl
      have hl : acc.length < lim := by have := h.1; omega
      simp only [if_true, hz, nox_ok, rb_ok, hl]
      exact ⟨_, m3, rfl, by simp; exact h.1, hI⟩) ⟨Nat.le_refl _, h0⟩
  refine ⟨acc, m2, ?_, h2, h1⟩
  rw [e_lc]
  simp only [hq, he, rb_ok, hs, e, noxIf_ok]
/-- .. whose parts write nothing that is old -/
theorem lc_run {x : E} {g : Tg} {k : ItK} {l c : List E} {own : List Nat} {ds : List D} {ys : List β} {fy : β → D} {gf : β → List D} (hq : fr.lock (lockV fr m k l ρ) = fr1) (he : evs P C fr1 l ρ m = .ok ds m1) (k1 : Kp [] m m1) (hs : src fr1 m1 k ds = some (s, n)) (hw : Wk s n (ys.map fy) m1) (hlim : n ≤ lim)
    (step : ∀ y ∈ ys, ∀ m', Kp [] m1 m' → ∃ ρ', bindT (fy y) (wipeE ρ own) g = some ρ' ∧ ∃ t m2, evT P C fr1 c ρ' m' = .ok t m2 ∧ Kp [] m' m2 ∧ (t = false → gf y = []) ∧ (t = true → ∃ z m3, ev P C fr1 x ρ' m2 = .ok z m3 ∧ Kp [] m2 m3 ∧ gf y = [z])) :
    ∃ p m', ev P C fr (.lc x g k l c own) ρ m = .ok (.ref p) m' ∧ m'[p]? = some (.lst (ys.flatMap gf)) ∧ Kp [] m m' ∧ m.length ≤ p := by
  obtain ⟨acc, m2, e, ⟨hk, ha⟩, _⟩ := lc_inv (I := fun i acc m' => Kp [] m1 m' ∧ acc = (ys.take i).flatMap gf) hq he hs hw.1 hlim (fun i acc m' _ h => hw.2 m' h.1) ⟨.refl, rfl⟩ (fun i d acc m' hd ⟨hk, ha⟩ => by
    rw [List.getElem?_map] at hd
    obtain ⟨y, hy, rfl⟩ := Option.map_eq_some_iff.mp hd
    obtain ⟨ρ', hb, t, m2, ht, k2, hf, hT⟩ := step y (List.mem_of_getElem? hy) m' hk
    have tk : (ys.take (i + 1)).flatMap gf = (ys.take i).flatMap gf ++ gf y := by
      rw [List.take_succ, hy]
      simp
    refine ⟨ρ', hb, t, m2, ht, fun h => ⟨hk.trans k2, ?_⟩, fun h => ?_⟩
    · rw [tk, hf h, List.append_nil, ha]
    · obtain ⟨z, m3, hz, k3, hg⟩ := hT h
      exact ⟨z, m3, hz, (hk.trans k2).trans k3, by rw [tk, hg, ha]⟩)
  have hn : n = ys.length := by rw [hw.1, List.length_map]
  refine ⟨_, _, e, ?_, (k1.trans hk).trans (.app _), Nat.le_trans k1.len hk.len⟩
  rw [at_new, ha, hn, List.take_length]
/-- a dict comprehension by an invariant -/
theorem dc_inv {x y : E} {g : Tg} {k : ItK} {l c : List E} {own : List Nat} {ds : List D} {I : Nat → List (D × D) → Mem → Prop} (hq : fr.lock (lockV fr m k l ρ) = fr1) (he : evs P C fr1 l ρ m = .ok ds m1) (hs : src fr1 m1 k ds = some (s, n)) (hn : n = xs.length) (hlim : n ≤ lim)
    (hS : ∀ i acc m', i ≤ n → I i acc m' → acc.length ≤ i ∧ s.ok m' n = true ∧ ∀ j, j < n → s.at m' n j = xs[j]?) (h0 : I 0 [] m1)
    (step : ∀ i d acc m', xs[i]? = some d → I i acc m' → ∃ ρ', bindT d (wipeE ρ own) g = some ρ' ∧ ∃ t m2, evT P C fr1 c ρ' m' = .ok t m2 ∧ (t = false → I (i + 1) acc m2) ∧ (t = true → ∃ u v m3 m4, ev P C fr1 x ρ' m2 = .ok u m3 ∧ ev P C fr1 y ρ' m3 = .ok v m4 ∧ isKey 0 u = true ∧ I (i + 1) (dput 0 acc u v) m4)) :
    ∃ acc m2, ev P C fr (.dc 0 x y g k l c own) ρ m = .ok (.ref m2.length) (m2 ++ [.dct 0 acc]) ∧ I n acc m2 := by
  obtain ⟨acc, m2, e, h1⟩ := lcGo_run (I := I) (acc := ([] : List (D × D))) (m := m1) (f := dcB P C fr1 x y g c own ρ) hn (fun i acc m' hi h => (hS i acc m' hi h).2) (fun i d acc m' hd h => by
    obtain ⟨ρ', hb, t, m2, ht, hf, hT⟩ := step i d acc m' hd h
    have hi : i < n := by rw [hn]; exact (List.getElem?_eq_some_iff.mp hd).1
    simp only [dcB, hb, ht, nox_ok, rb_ok]
    cases t with
    | false => exact ⟨acc, m2, rfl, hf rfl⟩
    | true =>
      obtain ⟨u, v, m3, m4, h1, h2, h3, hI⟩ := hT rfl
      have hl : acc.length < lim := by have := (hS i acc m' (Nat.le_of_lt hi) h).1; omega
      simp only [if_true, h1, h2, nox_ok, rb_ok, hl, h3, and_self]
      exact ⟨_, m4, rfl, hI⟩) h0
  refine ⟨acc, m2, ?_, h1⟩
  rw [e_dc]
  simp only [hq, he, rb_ok, hs, e, noxIf_ok]
/-! ### loops -/
theorem forGo_aux {g : Tg} {f : Env → Mem → X} {I : Nat → Env → Mem → Prop} {Q : X → Prop} (hn : n = xs.length) (hS : ∀ i ρ m', i ≤ n → I i ρ m' → s.ok m' n = true ∧ ∀ j, j < n → s.at m' n j = xs[j]?)
    (step : ∀ i d ρ m', xs[i]? = some d → I i ρ m' → ∃ ρ1, bindT d ρ g = some ρ1 ∧ ((∃ ρ2 m2, (f ρ1 m' = .nx ρ2 m2 ∨ f ρ1 m' = .ct ρ2 m2) ∧ I (i + 1) ρ2 m2) ∨ (∃ v m2, f ρ1 m' = .rt v m2 ∧ Q (.rt v m2)) ∨ ∃ c v ρ2 m2, f ρ1 m' = .exc c v ρ2 m2 ∧ Q (.exc c v ρ2 m2)))
    (hend : ∀ ρ m', I n ρ m' → Q (.nx ρ m')) : ∀ (k : Nat) (ρ : Env) (m' : Mem), k ≤ n → I (n - k) ρ m' → Q (forGo s n g f k ρ m')
  | 0, ρ, m', _, h => by
    rw [forGo]
    simp only [(hS _ _ _ (Nat.sub_le _ _) h).1, if_true]
    exact hend _ _ (by simpa using h)
  | k + 1, ρ, m', hk, h => by
    obtain ⟨h1, h2⟩ := hS _ _ _ (Nat.sub_le _ _) h
    have hlt : n - (k + 1) < xs.length := by omega
    have h3 := h2 (n - (k + 1)) (by omega)
    obtain ⟨ρ1, hb, q⟩ := step _ _ _ _ (List.getElem?_eq_getElem hlt) h
    rw [forGo]
    simp only [h1, if_true, h3, List.getElem?_eq_getElem hlt, hb]
    rcases q with ⟨ρ2, m2, e, h4⟩ | ⟨v, m2, e, h4⟩ | ⟨c, v, ρ2, m2, e, h4⟩
    · rw [show n - (k + 1) + 1 = n - k by omega] at h4
      have := forGo_aux hn hS step hend k ρ2 m2 (by omega) h4
      rcases e with e | e
      · rw [e]; exact this
      · rw [e]; exact this
    · rw [e]; exact h4
    · rw [e]; exact h4
/-- for, by an invariant -/
theorem for_run {g : Tg} {k : ItK} {l : List E} {a : List S} {ds : List D} {I : Nat → Env → Mem → Prop} {Q : X → Prop} (hq : lockV fr m k l ρ = none) (he : evs P C fr l ρ m = .ok ds m1) (hs : src fr m1 k ds = some (s, n)) (hn : n = xs.length) (hS : ∀ i ρ m', i ≤ n → I i ρ m' → s.ok m' n = true ∧ ∀ j, j < n → s.at m' n j = xs[j]?)
    (h0 : I 0 ρ m1) (step : ∀ i d ρ m', xs[i]? = some d → I i ρ m' → ∃ ρ1, bindT d ρ g = some ρ1 ∧ ((∃ ρ2 m2, (exes P C fr a ρ1 m' = .nx ρ2 m2 ∨ exes P C fr a ρ1 m' = .ct ρ2 m2) ∧ I (i + 1) ρ2 m2) ∨ (∃ v m2, exes P C fr a ρ1 m' = .rt v m2 ∧ Q (.rt v m2)) ∨ ∃ c v ρ2 m2, exes P C fr a ρ1 m' = .exc c v ρ2 m2 ∧ Q (.exc c v ρ2 m2)))
    (hend : ∀ ρ m', I n ρ m' → Q (.nx ρ m')) : Q (exe P C fr (.for_ g k l a) ρ m) := by
  have := forGo_aux (f := fun ρ m => exes P C fr a ρ m) hn hS step hend n ρ m1 (Nat.le_refl _) (by simpa using h0)
  rw [exe]
  simp only [hq, Fr.lock, Option.isSome_none, xnoxIf_f, he, to_ok, hs]
  exact this
theorem whlGo_aux {t : Env → Mem → R Bool} {f : Env → Mem → X} {I : Nat → Env → Mem → Prop} {Q : X → Prop} (step : ∀ k ρ m', I k ρ m' → (∃ m2, t ρ m' = .ok false m2 ∧ Q (.nx ρ m2)) ∨ ∃ m2, t ρ m' = .ok true m2 ∧
      ((∃ ρ2 m3 k', (f ρ m2 = .nx ρ2 m3 ∨ f ρ m2 = .ct ρ2 m3) ∧ k' < k ∧ I k' ρ2 m3) ∨ ∃ v m3, f ρ m2 = .rt v m3 ∧ Q (.rt v m3))) : ∀ (w k : Nat) (ρ : Env) (m' : Mem), k < w → I k ρ m' → Q (whlGo t f w ρ m')
  | 0, k, ρ, m', h, _ => by omega
  | w + 1, k, ρ, m', hw, h => by
    rw [whlGo]
    rcases step k ρ m' h with ⟨m2, e, q⟩ | ⟨m2, e, ⟨ρ2, m3, k', e2, hk, h2⟩ | ⟨v, m3, e2, q⟩⟩
    · rw [e]; exact q
    · rw [e]
      have := whlGo_aux step w k' ρ2 m3 (by omega) h2
      rcases e2 with e2 | e2
      · simp only [to_ok, if_true, e2]; exact this
      · simp only [to_ok, if_true, e2]; exact this
    · rw [e]
      simp only [to_ok, if_true, e2]; exact q
/-- while, by an invariant that falls -/
theorem whl_run {c : E} {a : List S} {I : Nat → Env → Mem → Prop} {Q : X → Prop} {k : Nat} (hk : k < wfuel) (h0 : I k ρ m) (step : ∀ k ρ m', I k ρ m' → (∃ m2, ((ev P C fr c ρ m').bind fun x m => opt (truth m x) m) = .ok false m2 ∧ Q (.nx ρ m2)) ∨ ∃ m2, ((ev P C fr c ρ m').bind fun x m => opt (truth m x) m) = .ok true m2 ∧
      ((∃ ρ2 m3 k', (exes P C fr a ρ m2 = .nx ρ2 m3 ∨ exes P C fr a ρ m2 = .ct ρ2 m3) ∧ k' < k ∧ I k' ρ2 m3) ∨ ∃ v m3, exes P C fr a ρ m2 = .rt v m3 ∧ Q (.rt v m3))) : Q (exe P C fr (.whl c a) ρ m) := by
  rw [exe]
  exact whlGo_aux (t := fun ρ m => (ev P C fr c ρ m).bind fun x m => opt (truth m x) m) (f := fun ρ m => exes P C fr a ρ m) step wfuel k ρ m hk h0
end
end Ms

-- M3
set_option linter.all false
set_option Elab.async false
set_option maxRecDepth 10000
/-! Dicts of ints, lists of ints. -/
namespace Ms
open PySem (Str PyData)
/-- what a dict with True for each key holds -/
def prs (ks : List Int) : List (D × D) := ks.map fun i => (.int i, .bl true)
def insK (ks : List Int) (x : Int) : List Int := if x ∈ ks then ks else ks ++ [x]
def ded (l : List Int) : List Int := l.foldl insK []
theorem keq_int (i j : Int) : keq 0 (.int i) (.int j) = decide (i = j) := by
  simp [keq, keyV]
theorem prs_any (ks : List Int) (x : Int) : (prs ks).any (fun p => keq 0 p.1 (.int x)) = decide (x ∈ ks) := by
  unfold prs
  rw [List.any_map]
  induction ks with
  | nil => rfl
  | cons a ks ih =>
    rw [List.any_cons, ih]
    simp only [Function.comp, keq_int, List.mem_cons]
    by_cases h : a = x
    · simp [h]
    · have h2 : ¬ x = a := fun z => h z.symm
      simp [h, h2]
theorem dput_prs (ks : List Int) (x : Int) : dput 0 (prs ks) (.int x) (.bl true) = prs (insK ks x) := by
  unfold dput insK
  rw [prs_any]
  by_cases h : x ∈ ks
  · simp only [h, decide_true, if_true]
    unfold prs
    rw [List.map_map]
    refine List.map_congr_left fun a _ => ?_
    simp only [Function.comp, keq_int]
    split <;> rfl
  · simp only [h, decide_false, if_false]
    unfold prs
    simp
theorem dget_prs (ks : List Int) (x : Int) : (dget 0 (prs ks) (.int x)).isSome = decide (x ∈ ks) := by
  unfold dget
  rw [Option.isSome_map, ← prs_any ks x]
  cases h : (prs ks).any (fun p => keq 0 p.1 (.int x)) with
  | true =>
    rw [List.find?_isSome]
    rw [List.any_eq_true] at h
    exact h
  | false =>
    rw [← Bool.not_eq_true, List.find?_isSome]
    intro z
    rw [← List.any_eq_true, h] at z
    cases z
theorem prs_len (ks : List Int) : (prs ks).length = ks.length := by simp [prs]
theorem prs_keys (ks : List Int) : (prs ks).map (·.1) = ks.map D.int := by simp [prs]
theorem mem_insK {ks : List Int} {x y : Int} : y ∈ insK ks x ↔ y ∈ ks ∨ y = x := by
  unfold insK
  split
  · rename_i h
    exact ⟨.inl, fun q => q.elim id fun e => e ▸ h⟩
  · simp
theorem nd_insK {ks : List Int} {x : Int} (h : ks.Nodup) : (insK ks x).Nodup := by
  unfold insK
  split
  · exact h
  · rename_i hx
    rw [List.nodup_append]
    refine ⟨h, by simp, fun a ha b hb => ?_⟩
    simp at hb
    subst hb
    exact fun z => hx (z ▸ ha)
theorem foldl_insK {l : List Int} : ∀ {ks : List Int}, ks.Nodup → (l.foldl insK ks).Nodup ∧ ∀ y, y ∈ l.foldl insK ks ↔ y ∈ ks ∨ y ∈ l := by
  induction l with
  | nil => intro ks h; exact ⟨h, fun y => by simp⟩
  | cons a l ih =>
    intro ks h
    obtain ⟨h1, h2⟩ := ih (nd_insK (x := a) h)
    refine ⟨h1, fun y => ?_⟩
    rw [List.foldl_cons, h2, mem_insK, List.mem_cons]
    exact ⟨fun q => by rcases q with (q | q) | q <;> simp [q], fun q => by rcases q with q | q | q <;> simp [q]⟩
theorem nd_ded (l : List Int) : (ded l).Nodup := (foldl_insK List.nodup_nil).1
theorem mem_ded {l : List Int} {y : Int} : y ∈ ded l ↔ y ∈ l := by
  have := (foldl_insK (l := l) List.nodup_nil).2 y
  simpa [ded] using this
theorem foldl_len {l : List Int} : ∀ {ks : List Int}, (l.foldl insK ks).length ≤ ks.length + l.length := by
  induction l with
  | nil => intro ks; simp
  | cons a l ih =>
    intro ks
    rw [List.foldl_cons]
    have := ih (ks := insK ks a)
    have h : (insK ks a).length ≤ ks.length + 1 := by
      unfold insK
      split <;> simp
    rw [List.length_cons]
    omega
theorem ded_len (l : List Int) : (ded l).length ≤ l.length := by
  have := foldl_len (l := l) (ks := [])
  simpa [ded] using this
theorem foldl_nd {l : List Int} : ∀ {ks : List Int}, (ks ++ l).Nodup → l.foldl insK ks = ks ++ l := by
  induction l with
  | nil => intro ks _; simp
  | cons a l ih =>
    intro ks h
    have e : insK ks a = ks ++ [a] := by
      unfold insK
      rw [if_neg]
      intro z
      exact (List.nodup_append.mp h).2.2 a z a List.mem_cons_self rfl
    rw [List.foldl_cons, e, ih (by simpa using h)]
    simp
theorem ded_nd {l : List Int} (h : l.Nodup) : ded l = l := by
  have := foldl_nd (l := l) (ks := []) (by simpa using h)
  simpa [ded] using this
theorem foldl_dup {l : List Int} : ∀ {ks : List Int}, ks.Nodup → (l.foldl insK ks).length = ks.length + l.length → (ks ++ l).Nodup := by
  induction l with
  | nil => intro ks h _; simpa using h
  | cons a l ih =>
    intro ks h e
    rw [List.foldl_cons] at e
    by_cases ha : a ∈ ks
    · have e1 : insK ks a = ks := by unfold insK; rw [if_pos ha]
      rw [e1] at e
      have := foldl_len (l := l) (ks := ks)
      rw [List.length_cons] at e
      omega
    · have e1 : insK ks a = ks ++ [a] := by unfold insK; rw [if_neg ha]
      have hn := nd_insK (x := a) h
      rw [e1] at e hn
      have := ih hn (by rw [e]; simp; omega)
      simpa using this
theorem ded_len_iff (l : List Int) : (ded l).length = l.length ↔ l.Nodup := by
  constructor
  · intro h
    have := foldl_dup (l := l) (ks := []) List.nodup_nil (by simpa [ded] using h)
    simpa using this
  · intro h
    rw [ded_nd h]
section
variable {β : Type} {P : Prog} {C : Cl} {fr fr1 : Fr} {ρ : Env} {m m1 : Mem} {s : Src} {n : Nat}
/-- {key: True for .. in ..} -/
theorem dc_true {x : E} {g : Tg} {k : ItK} {l : List E} {own : List Nat} {ds : List D} {ys : List β} {fy : β → D} {hy : β → Int} (hq : fr.lock (lockV fr m k l ρ) = fr1) (he : evs P C fr1 l ρ m = .ok ds m1) (k1 : Kp [] m m1) (hs : src fr1 m1 k ds = some (s, n)) (hw : Wk s n (ys.map fy) m1) (hlim : n ≤ lim)
    (step : ∀ y ∈ ys, ∀ m', Kp [] m1 m' → ∃ ρ' m2, bindT (fy y) (wipeE ρ own) g = some ρ' ∧ ev P C fr1 x ρ' m' = .ok (.int (hy y)) m2 ∧ Kp [] m' m2) :
    ∃ p m', ev P C fr (.dc 0 x (.cst (.bl true)) g k l [] own) ρ m = .ok (.ref p) m' ∧ m'[p]? = some (.dct 0 (prs (ded (ys.map hy)))) ∧ Kp [] m m' ∧ m.length ≤ p := by
  obtain ⟨acc, m2, e, hk, ha⟩ := dc_inv (P := P) (C := C) (x := x) (y := .cst (.bl true)) (g := g) (c := []) (own := own) (I := fun i acc m' => Kp [] m1 m' ∧ i ≤ ys.length ∧ acc = prs (ded ((ys.map hy).take i))) hq he hs hw.1 hlim (fun i acc m' hi ⟨h1, h0, h2⟩ => by
    refine ⟨?_, hw.2 m' h1⟩
    rw [h2, prs_len]
    exact Nat.le_trans (ded_len _) (by rw [List.length_take]; exact Nat.min_le_left _ _)) ⟨.refl, Nat.zero_le _, rfl⟩ (fun i d acc m' hd ⟨hk, h0, ha⟩ => by
    rw [List.getElem?_map] at hd
    obtain ⟨y, hy', rfl⟩ := Option.map_eq_some_iff.mp hd
    obtain ⟨ρ', m2, hb, hx, k2⟩ := step y (List.mem_of_getElem? hy') m' hk
    refine ⟨ρ', hb, true, m', et_nil, fun z => (by cases z), fun _ => ⟨_, _, m2, m2, hx, e_cst _, rfl, hk.trans k2, (List.getElem?_eq_some_iff.mp hy').1, ?_⟩⟩
    rw [ha, dput_prs, List.take_succ, List.getElem?_map, hy']
    simp only [Option.map_some, Option.toList_some]
    unfold ded
    rw [List.foldl_append]
    rfl)
  have hn : n = ys.length := by rw [hw.1, List.length_map]
  refine ⟨_, _, e, ?_, (k1.trans hk).trans (.app _), Nat.le_trans k1.len hk.len⟩
  rw [at_new, ha.2, hn, List.take_of_length_le (by rw [List.length_map]; exact Nat.le_refl _)]
theorem flatMap_one {α : Type} (f : β → α) : ∀ l : List β, (l.flatMap fun y => [f y]) = l.map f
  | [] => rfl
  | a :: l => by rw [List.flatMap_cons, flatMap_one f l]; rfl
theorem flatMap_if {α : Type} (p : β → Bool) (f : β → α) : ∀ l : List β, (l.flatMap fun y => if p y then [f y] else []) = (l.filter p).map f
  | [] => rfl
  | a :: l => by
    rw [List.flatMap_cons, flatMap_if p f l, List.filter_cons]
    cases p a <;> rfl
/-- [h y for y in ..] -/
theorem lc_map {x : E} {g : Tg} {k : ItK} {l : List E} {own : List Nat} {ds : List D} {ys : List β} {fy : β → D} (h : β → D) (hq : fr.lock (lockV fr m k l ρ) = fr1) (he : evs P C fr1 l ρ m = .ok ds m1) (k1 : Kp [] m m1) (hs : src fr1 m1 k ds = some (s, n)) (hw : Wk s n (ys.map fy) m1) (hlim : n ≤ lim)
    (step : ∀ y ∈ ys, ∀ m', Kp [] m1 m' → ∃ ρ' m2, bindT (fy y) (wipeE ρ own) g = some ρ' ∧ ev P C fr1 x ρ' m' = .ok (h y) m2 ∧ Kp [] m' m2) :
    ∃ p m', ev P C fr (.lc x g k l [] own) ρ m = .ok (.ref p) m' ∧ m'[p]? = some (.lst (ys.map h)) ∧ Kp [] m m' ∧ m.length ≤ p := by
  have := lc_run (gf := fun y => [h y]) (c := []) hq he k1 hs hw hlim fun y hy m' k' => by
    obtain ⟨ρ', m2, h1, h2, h3⟩ := step y hy m' k'
    exact ⟨ρ', h1, true, m', et_nil, .refl, fun z => (by cases z), fun _ => ⟨_, m2, h2, h3, rfl⟩⟩
  rw [flatMap_one] at this
  exact this
/-- [h y for y in .. if p y] -/
theorem lc_filter {x : E} {g : Tg} {k : ItK} {l c : List E} {own : List Nat} {ds : List D} {ys : List β} {fy : β → D} (p : β → Bool) (h : β → D) (hq : fr.lock (lockV fr m k l ρ) = fr1) (he : evs P C fr1 l ρ m = .ok ds m1) (k1 : Kp [] m m1) (hs : src fr1 m1 k ds = some (s, n)) (hw : Wk s n (ys.map fy) m1) (hlim : n ≤ lim)
    (step : ∀ y ∈ ys, ∀ m', Kp [] m1 m' → ∃ ρ' m2, bindT (fy y) (wipeE ρ own) g = some ρ' ∧ evT P C fr1 c ρ' m' = .ok (p y) m2 ∧ Kp [] m' m2 ∧ (p y = true → ∃ m3, ev P C fr1 x ρ' m2 = .ok (h y) m3 ∧ Kp [] m2 m3)) :
    ∃ q m', ev P C fr (.lc x g k l c own) ρ m = .ok (.ref q) m' ∧ m'[q]? = some (.lst ((ys.filter p).map h)) ∧ Kp [] m m' ∧ m.length ≤ q := by
  have := lc_run (gf := fun y => if p y then [h y] else []) hq he k1 hs hw hlim fun y hy m' k' => by
    obtain ⟨ρ', m2, h1, h2, h3, h4⟩ := step y hy m' k'
    refine ⟨ρ', h1, p y, m2, h2, h3, fun z => (by rw [z]; rfl), fun z => ?_⟩
    obtain ⟨m3, h5, h6⟩ := h4 z
    exact ⟨_, m3, h5, h6, by rw [z]; rfl⟩
  rw [flatMap_if] at this
  exact this
end
/-! ### ints -/
theorem intsOf_map (l : List Int) : intsOf (l.map D.int) = some l := by
  unfold intsOf
  induction l with
  | nil => rfl
  | cons a l ih => rw [List.map_cons, List.mapM_cons, ih]; rfl
theorem bools_map (l : List Bool) : bools (l.map D.bl) = some l := by
  unfold bools
  induction l with
  | nil => rfl
  | cons a l ih => rw [List.map_cons, List.mapM_cons, ih]; rfl
def Asc : List Int → Prop := List.Pairwise (· < ·)
theorem asc_ext : ∀ {a b : List Int}, a.Pairwise (· < ·) → b.Pairwise (· < ·) → (∀ x, x ∈ a ↔ x ∈ b) → a = b
  | [], [], _, _, _ => rfl
  | [], b :: bs, _, _, h => absurd ((h b).mpr List.mem_cons_self) (by simp)
  | a :: as, [], _, _, h => absurd ((h a).mp List.mem_cons_self) (by simp)
  | a :: as, b :: bs, h1, h2, h => by
    rw [List.pairwise_cons] at h1 h2
    have e : a = b := by
      rcases List.mem_cons.mp ((h a).mp List.mem_cons_self) with z | z
      · exact z
      · rcases List.mem_cons.mp ((h b).mpr List.mem_cons_self) with q | q
        · exact q.symm
        · have := h1.1 b q
          have := h2.1 a z
          omega
    subst e
    congr 1
    refine asc_ext h1.2 h2.2 fun x => ?_
    constructor
    · intro hx
      rcases List.mem_cons.mp ((h x).mp (List.mem_cons_of_mem _ hx)) with z | z
      · have := h1.1 x hx; omega
      · exact z
    · intro hx
      rcases List.mem_cons.mp ((h x).mpr (List.mem_cons_of_mem _ hx)) with z | z
      · have := h2.1 x hx; omega
      · exact z
theorem mem_insI {x y : Int} : ∀ {l : List Int}, y ∈ insI x l ↔ y = x ∨ y ∈ l
  | [] => by simp [insI]
  | a :: l => by
    unfold insI
    split
    · simp
    · rw [List.mem_cons, mem_insI, List.mem_cons]
      constructor
      · rintro (h | h | h) <;> simp [h]
      · rintro (h | h | h) <;> simp [h]
theorem mem_sortI {y : Int} : ∀ {l : List Int}, y ∈ sortI l ↔ y ∈ l
  | [] => by simp [sortI]
  | a :: l => by
    show y ∈ insI a (sortI l) ↔ _
    rw [mem_insI, mem_sortI, List.mem_cons]
theorem asc_insI {x : Int} : ∀ {l : List Int}, l.Pairwise (· < ·) → x ∉ l → (insI x l).Pairwise (· < ·)
  | [], _, _ => by simp [insI]
  | a :: l, h, hx => by
    unfold insI
    rw [List.mem_cons, not_or] at hx
    have h' := List.pairwise_cons.mp h
    split
    · rw [List.pairwise_cons]
      refine ⟨fun y hy => ?_, h⟩
      rcases List.mem_cons.mp hy with z | z
      · omega
      · have := h'.1 y z; omega
    · rw [List.pairwise_cons]
      refine ⟨fun y hy => ?_, asc_insI h'.2 hx.2⟩
      rcases mem_insI.mp hy with z | z
      · omega
      · exact h'.1 y z
theorem asc_sortI : ∀ {l : List Int}, l.Nodup → (sortI l).Pairwise (· < ·)
  | [], _ => by simp [sortI]
  | a :: l, h => by
    rw [List.nodup_cons] at h
    exact asc_insI (asc_sortI h.2) fun z => h.1 (mem_sortI.mp z)
/-- the numbers below n for which b holds, in order -/
def upto (n : Nat) (b : Int → Bool) : List Int := ((List.range n).map fun i : Nat => (i : Int)).filter b
theorem mem_upto {n : Nat} {b : Int → Bool} {x : Int} : x ∈ upto n b ↔ 0 ≤ x ∧ x < n ∧ b x = true := by
  unfold upto
  rw [List.mem_filter, List.mem_map]
  constructor
  · rintro ⟨⟨i, hi, rfl⟩, h⟩
    rw [List.mem_range] at hi
    exact ⟨by omega, by omega, h⟩
  · rintro ⟨h1, h2, h3⟩
    exact ⟨⟨x.toNat, List.mem_range.mpr (by omega), by omega⟩, h3⟩
theorem asc_upto (n : Nat) (b : Int → Bool) : (upto n b).Pairwise (· < ·) := by
  unfold upto
  refine List.Pairwise.filter _ ?_
  rw [List.pairwise_map]
  exact (List.pairwise_lt_range).imp fun h => by omega
theorem upto_of {l : List Int} {n : Nat} {b : Int → Bool} (h : l.Pairwise (· < ·)) (hm : ∀ x, x ∈ l ↔ 0 ≤ x ∧ x < n ∧ b x = true) : l = upto n b := asc_ext h (asc_upto n b) fun x => (hm x).trans mem_upto.symm
theorem upto_congr {n : Nat} {b c : Int → Bool} (h : ∀ x : Int, 0 ≤ x → x < n → b x = c x) : upto n b = upto n c := by
  refine upto_of (asc_upto n b) fun x => ?_
  rw [mem_upto]
  constructor
  · rintro ⟨h1, h2, h3⟩; exact ⟨h1, h2, by rw [← h x h1 h2]; exact h3⟩
  · rintro ⟨h1, h2, h3⟩; exact ⟨h1, h2, by rw [h x h1 h2]; exact h3⟩
theorem upto_len (n : Nat) (b : Int → Bool) : (upto n b).length ≤ n := by
  unfold upto
  exact Nat.le_trans (List.length_filter_le _ _) (by simp)
section
variable {m : Mem} {fr : Fr} {ρ : Env}
theorem c_in_prs {p : Nat} {ks : List Int} (h : m[p]? = some (.dct 0 (prs ks))) (x : Int) : cmpop .isIn (.int x) (.ref p) m = .ok (.bl (decide (x ∈ ks))) m := by
  simp only [cmpop, cmpop.inop, h, dget_prs]
  rfl
theorem dct_src {p j t : Nat} {l : List (D × D)} (h : m[p]? = some (.dct t l)) (hj : ρ[j]? = some (some (.ref p))) : src (fr.lock (lockV fr m .one [.var j] ρ)) m .one [.ref p] = some (.fix (l.map (·.1)), l.length) := by
  cases hc : fr.lk.contains p with
  | true =>
    have e : lockV fr m .one [.var j] ρ = none := by
      simp only [lockV, hj, h, hc, if_true]
    rw [e]
    simp only [Fr.lock, src, h, hc, if_true]
  | false =>
    have e : lockV fr m .one [.var j] ρ = some p := by
      simp only [lockV, hj, h, hc, Bool.false_eq_true, if_false]
    rw [e]
    simp [Fr.lock, src, h]
theorem bl_sorted {p : Nat} {l : List Int} (h : m[p]? = some (.lst (l.map .int))) : bltin .sorted [.ref p] m = .ok (.ref m.length) (m ++ [.lst ((sortI l).map .int)]) := by
  simp only [bltin, intsIn, h, intsOf_map]
theorem bl_tuple {p : Nat} {l : List D} (h : m[p]? = some (.lst l)) : bltin .tuple [.ref p] m = .ok (.tup l) m := by
  simp only [bltin, items, h]
  rfl
theorem bl_all {p : Nat} {l : List Bool} (h : m[p]? = some (.lst (l.map .bl))) : bltin .all [.ref p] m = .ok (.bl (l.all id)) m := by
  simp only [bltin, boolsIn, h, bools_map]
theorem bl_lenL {p : Nat} {l : List D} (h : m[p]? = some (.lst l)) : bltin .len [.ref p] m = .ok (.int l.length) m := by
  simp only [bltin, h]
@[simp] theorem bl_lenT {l : List D} : bltin .len [.tup l] m = .ok (.int l.length) m := rfl
theorem src_rng2 {a b : Int} (h1 : small a = true) (h2 : small b = true) : src fr m .rng [.int a, .int b] = some (.fix (rngL a b), (b - a).toNat) := by
  simp only [src, h1, h2, Bool.and_self, if_true]
theorem src_rng1 {b : Int} (h2 : small b = true) : src fr m .rng [.int b] = some (.fix (rngL 0 b), b.toNat) := by
  simp only [src, h2, if_true]
theorem small_of {a : Int} (h1 : -1000000000000000000 ≤ a) (h2 : a ≤ 1000000000000000000) : small a = true := by
  unfold small
  exact decide_eq_true ⟨by omega, by omega⟩
theorem wk_rng (lo : Int) (k : Nat) : Wk (.fix (rngL lo (lo + k))) k ((List.range k).map fun i : Nat => .int (lo + i)) m := by
  have := wk_fix (m := m) (rngL lo (lo + k))
  rw [rngL_eq] at this ⊢
  rw [List.length_map, List.length_range] at this
  exact this
end
theorem find_congr {α : Type} {p q : α → Bool} : ∀ {l : List α}, (∀ x ∈ l, p x = q x) → l.find? p = l.find? q
  | [], _ => rfl
  | a :: l, h => by
    rw [List.find?_cons, List.find?_cons, h a List.mem_cons_self, find_congr fun x hx => h x (List.mem_cons_of_mem _ hx)]
/-! ### data -/
theorem data_ints {m : Mem} {k : Nat} : ∀ l : List Int, (l.map D.int).mapM (data m (k + 1)) = some (l.map PyData.int)
  | [] => rfl
  | a :: l => by rw [List.map_cons, List.mapM_cons, data_ints l]; rfl
theorem eqv_ints : ∀ a b : List Int, PyData.eqvAll (a.map PyData.int) (b.map PyData.int) = decide (a = b)
  | [], [] => by simp [PyData.eqvAll]
  | [], b :: bs => by simp [PyData.eqvAll]
  | a :: as, [] => by simp [PyData.eqvAll]
  | a :: as, b :: bs => by
    simp only [List.map_cons, PyData.eqvAll, PyData.eqv, eqv_ints as bs, int_beq]
    by_cases h : a = b
    · by_cases h2 : as = bs <;> simp [h, h2]
    · simp [h]
theorem eqD_ints {m : Mem} (a b : List Int) : eqD m (.tup (a.map .int)) (.tup (b.map .int)) = some (decide (a = b)) := by
  unfold eqD
  simp only [data, data_ints, Option.map_some, PyData.eqv, eqv_ints]
theorem eqD_lists {m : Mem} {p q : Nat} {a b : List Int} (h1 : m[p]? = some (.lst (a.map .int))) (h2 : m[q]? = some (.lst (b.map .int))) : eqD m (.ref p) (.ref q) = some (decide (a = b)) := by
  unfold eqD
  simp only [data, h1, h2, data_ints, Option.map_some, PyData.eqv, eqv_ints]
theorem atI_nat {α : Type} (l : List α) (t : Nat) (h : t < l.length) : L2.atI l (t : Int) = l[t]? := by
  unfold L2.atI L2.ixN
  rw [if_pos (by omega), if_pos (by omega)]
  simp
theorem atI_int {α : Type} (l : List α) (t : Int) (h0 : 0 ≤ t) (h : t < l.length) : L2.atI l t = l[t.toNat]? := by
  obtain ⟨k, rfl⟩ := Int.eq_ofNat_of_zero_le h0
  rw [atI_nat l k (by omega)]
  simp
theorem ix_lst {m : Mem} {p : Nat} {l : List D} {t : Int} {d : D} (h : m[p]? = some (.lst l)) (h0 : 0 ≤ t) (hd : l[t.toNat]? = some d) : index (.ref p) (.int t) m = .ok d m := by
  have hl := (List.getElem?_eq_some_iff.mp hd).1
  simp only [index, h, atI_int l t h0 (by omega), hd, opt_some]
theorem ix_tup {m : Mem} {l : List D} {t : Int} {d : D} (h0 : 0 ≤ t) (hd : l[t.toNat]? = some d) : index (.tup l) (.int t) m = .ok d m := by
  have hl := (List.getElem?_eq_some_iff.mp hd).1
  simp only [index, atI_int l t h0 (by omega), hd, opt_some]
theorem cut_tail {α : Type} (a : α) (l : List α) : cutL (a :: l) (some 1) none = l := by
  simp [cutL, HT.sIx]
theorem cut_to {α : Type} (l : List α) (t : Nat) : cutL l none (some (t : Int)) = l.take t := by
  have : ¬ ((t : Int) < 0) := by omega
  simp [cutL, HT.sIx, this, List.take_eq_take_iff]
theorem cut_from {α : Type} (l : List α) (t : Nat) : cutL l (some (t : Int)) none = l.drop t := by
  have : ¬ ((t : Int) < 0) := by omega
  unfold cutL
  simp only [HT.sIx, this, if_false, Int.toNat_natCast]
  by_cases h : t ≤ l.length
  · rw [Nat.min_eq_left h, List.take_of_length_le (by rw [List.length_drop]; exact Nat.le_refl _)]
  · rw [Nat.min_eq_right (by omega), List.drop_eq_nil_of_le (by omega : l.length ≤ t), List.drop_length]
    simp
theorem slc_lst {m : Mem} {p : Nat} {l : List D} {lo hi : Option Int} (h : m[p]? = some (.lst l)) : slice (.ref p) lo hi m = .ok (.ref m.length) (m ++ [.lst (cutL l lo hi)]) := by
  simp only [slice, h]
theorem newL_ok {m : Mem} {l : List D} (h : l.length ≤ lim) : newL l m = .ok (.ref m.length) (m ++ [.lst l]) := by
  simp only [newL, h, if_true]
theorem bl_list {m : Mem} {l : List D} : bltin .list [.tup l] m = .ok (.ref m.length) (m ++ [.lst l]) := rfl
theorem mt_append {m : Mem} {p : Nat} {x : List D} {d : D} (h : m[p]? = some (.lst x)) (hl : x.length < lim) : meth .append (.ref p) [d] m = .ok .non (m.set p (.lst (x ++ [d]))) := by
  simp only [meth, h, hl, if_true]
theorem recv_lst {m : Mem} {p : Nat} {x : List D} {f : Mt} (h : m[p]? = some (.lst x)) : recv f m (.ref p) = true := by
  simp only [recv, h]
theorem lock_no {fr : Fr} {m : Mem} {k : ItK} {l : List E} {ρ : Env} (h : lockV fr m k l ρ = none) : fr.lock (lockV fr m k l ρ) = fr := by
  rw [h]
  rfl
theorem zip_self {α : Type} (l : List α) : l.zip l = l.map fun d => (d, d) := by
  induction l with
  | nil => rfl
  | cons a l ih => rw [List.zip_cons_cons, ih]; rfl
theorem wk_self {m : Mem} (l : List D) : Wk (.zipT l l) l.length (l.map fun d => .tup [d, d]) m := by
  have := wk_zipT (m := m) (x := l) (y := l) rfl
  rw [zip_self, List.map_map] at this
  exact this
theorem src_zipT {fr : Fr} {m : Mem} {x y : List D} (h : x.length = y.length) : src fr m .zip [.tup x, .tup y] = some (.zipT x y, x.length) := by
  simp only [src, h, if_true]
end Ms

-- Q1
set_option linter.all false
set_option Elab.async false
set_option maxRecDepth 10000
/-! Lots that come round: their one form, in plain Lean. -/
namespace Ms
def farB (b : Int → Bool) (s r d : Nat) : Bool := r % d == 0 && (List.range r).all fun i => b (s + i) == b (s + i + d)
def far (b : Int → Bool) (s r : Nat) : Nat := (((List.range r).map (· + 1)).find? (farB b s r)).getD r
def beg (b : Int → Bool) (d : Nat) : Nat → Nat
  | 0 => 0
  | k + 1 => if b k == b (k + d) then beg b d k else k + 1
def Per (b : Int → Bool) (s r : Nat) : Prop := ∀ x : Int, (s : Int) ≤ x → b (x + r) = b x
structure Nrm where
  F : List Int
  s : Nat
  r : Nat
  R : List Int
  deriving DecidableEq
def nrm (b : Int → Bool) (s r : Nat) : Nrm := ⟨upto (beg b (far b s r) s) b, beg b (far b s r) s, far b s r, upto (far b s r) fun t => b (beg b (far b s r) s + t)⟩
section
variable {b c : Int → Bool} {s r d s' r' : Nat}
theorem per_mul (h : Per b s r) {x : Int} (hx : (s : Int) ≤ x) : ∀ k : Nat, b (x + (k : Int) * r) = b x
  | 0 => by simp
  | k + 1 => by
    have e : x + ((k + 1 : Nat) : Int) * r = (x + (k : Int) * r) + r := by push_cast; rw [Int.add_mul]; omega
    have hk : (0 : Int) ≤ (k : Int) * r := Int.mul_nonneg (by omega) (by omega)
    rw [e, h _ (by omega), per_mul h hx k]
theorem per_dvd (h : Per b s r) (hd : r % d = 0 → False) : True := trivial
theorem farB_iff (h : Per b s r) (hr : 1 ≤ r) (hd : 1 ≤ d) : farB b s r d = true ↔ r % d = 0 ∧ Per b s d := by
  unfold farB
  rw [Bool.and_eq_true, beq_iff_eq, List.all_eq_true]
  constructor
  · rintro ⟨h1, h2⟩
    refine ⟨h1, fun x hx => ?_⟩
    -- x = s + i + k r
    have h0 : 0 ≤ (x - s) % r := Int.emod_nonneg _ (by omega)
    have h3 : (x - s) % r < r := Int.emod_lt_of_pos _ (by omega)
    have hk : 0 ≤ (x - s) / r := Int.ediv_nonneg (by omega) (by omega)
    have e := Int.emod_add_mul_ediv (x - s) r
    obtain ⟨i, hi⟩ := Int.eq_ofNat_of_zero_le h0
    obtain ⟨k, hk'⟩ := Int.eq_ofNat_of_zero_le hk
    rw [hi, hk'] at e
    rw [hi] at h3
    have q := beq_iff_eq.mp (h2 i (List.mem_range.mpr (by omega)))
    have ex : x = (s + i : Int) + (k : Int) * r := by rw [Int.mul_comm]; omega
    rw [ex, show (s + i : Int) + (k : Int) * r + d = (s + i + d : Int) + (k : Int) * r by omega, per_mul h (by omega), per_mul h (by omega), q]
  · rintro ⟨h1, h2⟩
    exact ⟨h1, fun i _ => beq_iff_eq.mpr (h2 _ (by omega)).symm⟩
theorem far_spec (h : Per b s r) (hr : 1 ≤ r) : 1 ≤ far b s r ∧ far b s r ≤ r ∧ r % far b s r = 0 ∧ Per b s (far b s r) ∧ ∀ d, 1 ≤ d → r % d = 0 → Per b s d → far b s r ≤ d := by
  have hrr : farB b s r r = true := (farB_iff h hr hr).mpr ⟨Nat.mod_self r, h⟩
  unfold far
  cases e : ((List.range r).map (· + 1)).find? (farB b s r) with
  | none =>
    have := List.find?_eq_none.mp e r (List.mem_map.mpr ⟨r - 1, List.mem_range.mpr (by omega), by omega⟩)
    exact absurd hrr this
  | some d =>
    obtain ⟨h1, as, bs, h2, h3⟩ := List.find?_eq_some_iff_append.mp e
    have hm : d ∈ (List.range r).map (· + 1) := by rw [h2]; simp
    obtain ⟨i, hi, rfl⟩ := List.mem_map.mp hm
    rw [List.mem_range] at hi
    obtain ⟨h4, h5⟩ := (farB_iff h hr (by omega)).mp h1
    refine ⟨by simp, by simp; omega, h4, h5, fun d hd1 hd2 hd3 => ?_⟩
    simp only [Option.getD_some]
    by_cases hlt : i + 1 ≤ d
    · exact hlt
    · exfalso
      have hdm : d ∈ as := by
        have hin : d ∈ (List.range r).map (· + 1) := List.mem_map.mpr ⟨d - 1, List.mem_range.mpr (by omega), by omega⟩
        have asc : ((List.range r).map (· + 1)).Pairwise (· < ·) := by
          rw [List.pairwise_map]
          exact List.pairwise_lt_range.imp fun h => by omega
        rw [h2] at hin asc
        rcases List.mem_append.mp hin with z | z
        · exact z
        · exfalso
          have q := (List.pairwise_append.mp asc).2.1
          rw [List.pairwise_cons] at q
          rcases List.mem_cons.mp z with z | z
          · omega
          · have := q.1 d z
            omega
      have := h3 d hdm
      rw [(farB_iff h hr hd1).mpr ⟨hd2, hd3⟩] at this
      cases this
theorem beg_le : ∀ k : Nat, beg b d k ≤ k
  | 0 => Nat.le_refl _
  | k + 1 => by
    unfold beg
    split
    · exact Nat.le_succ_of_le (beg_le k)
    · exact Nat.le_refl _
theorem beg_spec : ∀ k : Nat, (∀ x : Int, (beg b d k : Int) ≤ x → x < k → b x = b (x + d)) ∧ (beg b d k = 0 ∨ b ((beg b d k : Int) - 1) ≠ b ((beg b d k : Int) - 1 + d))
  | 0 => ⟨fun x h1 h2 => by simp [beg] at h1; omega, .inl rfl⟩
  | k + 1 => by
    unfold beg
    split
    · rename_i h
      obtain ⟨h1, h2⟩ := beg_spec k
      refine ⟨fun x a1 a2 => ?_, h2⟩
      by_cases hx : x < k
      · exact h1 x a1 hx
      · obtain rfl : x = k := by omega
        exact beq_iff_eq.mp h
    · rename_i h
      refine ⟨fun x a1 a2 => by push_cast at a1 a2; omega, .inr fun z => h (beq_iff_eq.mpr ?_)⟩
      have e : ((k + 1 : Nat) : Int) - 1 = k := by omega
      rw [e] at z
      exact z
theorem per_from (h : Per b s d) (x : Int) (hx : (beg b d s : Int) ≤ x) : b (x + d) = b x := by
  by_cases hs : x < s
  · exact ((beg_spec s).1 x hx hs).symm
  · exact h x (by omega)
/-- the place where it begins is told by what it holds -/
theorem beg_uniq {g g' : Nat} (h1 : ∀ x : Int, (g : Int) ≤ x → b (x + d) = b x) (h2 : g = 0 ∨ b ((g : Int) - 1) ≠ b ((g : Int) - 1 + d)) (h3 : ∀ x : Int, (g' : Int) ≤ x → b (x + d) = b x) (h4 : g' = 0 ∨ b ((g' : Int) - 1) ≠ b ((g' : Int) - 1 + d)) : g = g' := by
  rcases Nat.lt_trichotomy g g' with h | h | h
  · rcases h4 with z | z
    · omega
    · exact absurd (h1 ((g' : Int) - 1) (by omega)).symm z
  · exact h
  · rcases h2 with z | z
    · omega
    · exact absurd (h3 ((g : Int) - 1) (by omega)).symm z
/-- two rounds make a round of their greatest part -/
theorem per_gcd (S : Nat) : ∀ (d e : Nat), Per b S d → Per b S e → Per b S (Nat.gcd d e) := by
  intro d
  induction d using Nat.strongRecOn with
  | ind d ih =>
    intro e hd he
    by_cases h0 : d = 0
    · subst h0
      rw [Nat.gcd_zero_left]
      exact he
    · rw [Nat.gcd_rec]
      refine ih (e % d) (Nat.mod_lt _ (by omega)) d (fun x hx => ?_) hd
      have e1 : ((e % d : Nat) : Int) + ((e / d : Nat) : Int) * d = e := by
        have := Nat.mod_add_div e d
        have h2 : ((e % d + d * (e / d) : Nat) : Int) = e := by rw [this]
        push_cast at h2
        push_cast
        rw [Int.mul_comm] at h2
        exact h2
      have hk : (0 : Int) ≤ ((e % d : Nat) : Int) := by omega
      have q := per_mul hd (x := x + ((e % d : Nat) : Int)) (by omega) (e / d)
      rw [← q, show x + ((e % d : Nat) : Int) + ((e / d : Nat) : Int) * d = x + e by omega]
      exact he x hx
theorem far_dvd (h : Per b s r) (hr : 1 ≤ r) {S e : Nat} (he1 : 1 ≤ e) (he : Per b S e) : e % far b s r = 0 := by
  obtain ⟨h1, h2, h3, h4, h5⟩ := far_spec h hr
  -- both from the greater start on
  have hS : s ≤ max s S := Nat.le_max_left _ _
  have hS2 : S ≤ max s S := Nat.le_max_right _ _
  have p1 : Per b (max s S) (far b s r) := fun x hx => h4 x (by omega)
  have p2 : Per b (max s S) e := fun x hx => he x (by omega)
  have p3 := per_gcd _ _ _ p1 p2
  have hg1 : 1 ≤ Nat.gcd (far b s r) e := Nat.pos_of_ne_zero fun z => by
    have := Nat.eq_zero_of_gcd_eq_zero_left z
    omega
  have hgr : Nat.gcd (far b s r) e ∣ r := Nat.dvd_trans (Nat.gcd_dvd_left _ _) (Nat.dvd_of_mod_eq_zero h3)
  have p4 : Per b s (Nat.gcd (far b s r) e) := fun x hx => by
    -- go up by rounds of r
    have a1 := per_mul h (x := x) hx (max s S)
    have a2 := per_mul h (x := x + (Nat.gcd (far b s r) e : Nat)) (by omega) (max s S)
    have hm : ((max s S : Nat) : Int) ≤ x + ((max s S : Nat) : Int) * r := by
      have h9 : ((max s S : Nat) : Int) * 1 ≤ ((max s S : Nat) : Int) * r := Int.mul_le_mul_of_nonneg_left (by omega) (by omega)
      omega
    have a3 := p3 (x + ((max s S : Nat) : Int) * r) hm
    rw [← a1, ← a3, ← a2]
    congr 1
    omega
  have := h5 _ hg1 (Nat.mod_eq_zero_of_dvd hgr) p4
  have hle := Nat.gcd_le_left e (show 0 < far b s r by omega)
  have heq : Nat.gcd (far b s r) e = far b s r := by omega
  have : far b s r ∣ e := by rw [← heq]; exact Nat.gcd_dvd_right _ _
  exact Nat.mod_eq_zero_of_dvd this
theorem nrm_eq (h : Per b s r) (hr : 1 ≤ r) (h' : Per c s' r') (hr' : 1 ≤ r') (hbc : ∀ x : Int, 0 ≤ x → b x = c x) : nrm b s r = nrm c s' r' := by
  obtain ⟨a1, a2, a3, a4, a5⟩ := far_spec h hr
  obtain ⟨b1, b2, b3, b4, b5⟩ := far_spec h' hr'
  have hd : far b s r = far c s' r' := by
    have k1 : far c s' r' % far b s r = 0 := far_dvd h hr (S := s') (e := far c s' r') b1 fun x hx => by rw [hbc _ (by omega), hbc _ (by omega)]; exact b4 x hx
    have k2 : far b s r % far c s' r' = 0 := far_dvd h' hr' (S := s) (e := far b s r) a1 fun x hx => by rw [← hbc _ (by omega), ← hbc _ (by omega)]; exact a4 x hx
    exact Nat.dvd_antisymm (Nat.dvd_of_mod_eq_zero k1) (Nat.dvd_of_mod_eq_zero k2)
  have hg : beg b (far b s r) s = beg c (far c s' r') s' := by
    refine beg_uniq (b := b) (d := far b s r) (fun x hx => per_from a4 x hx) (beg_spec s).2 (fun x hx => ?_) ?_
    · rw [hbc _ (by omega), hbc _ (by omega), hd]
      exact per_from b4 x hx
    · rcases (beg_spec (b := c) (d := far c s' r') s').2 with z | z
      · exact .inl z
      · by_cases h0 : beg c (far c s' r') s' = 0
        · exact .inl h0
        · refine .inr ?_
          rw [hbc _ (by omega), hbc _ (by omega), hd]
          exact z
  unfold nrm
  rw [hg, hd]
  congr 1
  · exact upto_congr fun x h1 _ => hbc x h1
  · exact upto_congr fun x h1 _ => hbc _ (by omega)
/-- whether a number is of a lot told so -/
def Nrm.has (q : Nrm) (x : Int) : Bool := if x < q.s then decide (x ∈ q.F) else decide ((x - q.s) % q.r ∈ q.R)
theorem nrm_has (h : Per b s r) (hr : 1 ≤ r) {x : Int} (hx : 0 ≤ x) : (nrm b s r).has x = b x := by
  obtain ⟨a1, a2, a3, a4, a5⟩ := far_spec h hr
  unfold Nrm.has nrm
  simp only
  split
  · rename_i hlt
    cases hb : b x with
    | true => exact decide_eq_true (mem_upto.mpr ⟨hx, hlt, hb⟩)
    | false => exact decide_eq_false fun z => by rw [(mem_upto.mp z).2.2] at hb; cases hb
  · rename_i hlt
    have h0 : 0 ≤ (x - beg b (far b s r) s) % far b s r := Int.emod_nonneg _ (by omega)
    have h3 : (x - beg b (far b s r) s) % far b s r < far b s r := Int.emod_lt_of_pos _ (by omega)
    have hk : 0 ≤ (x - beg b (far b s r) s) / far b s r := Int.ediv_nonneg (by omega) (by omega)
    have e := Int.emod_add_mul_ediv (x - beg b (far b s r) s) (far b s r)
    obtain ⟨k, hk'⟩ := Int.eq_ofNat_of_zero_le hk
    have pf : Per b (beg b (far b s r) s) (far b s r) := fun x hx => per_from a4 x hx
    have q := per_mul pf (x := beg b (far b s r) s + (x - beg b (far b s r) s) % far b s r) (by omega) k
    rw [hk', Int.mul_comm] at e
    rw [show (beg b (far b s r) s : Int) + (x - beg b (far b s r) s) % far b s r + (k : Int) * far b s r = x by omega] at q
    cases hb : b x with
    | true => exact decide_eq_true (mem_upto.mpr ⟨h0, h3, by rw [← q]; exact hb⟩)
    | false =>
      refine decide_eq_false fun z => ?_
      have := (mem_upto.mp z).2.2
      rw [← q, hb] at this
      cases this
end
end Ms

-- Q2
set_option linter.all false
set_option Elab.async false
set_option maxRecDepth 10000
/-! The package's way to the one form. -/
namespace Ms
def lrB (L : List Int) (r d : Nat) : Bool := r % d == 0 && L.all fun l => decide ((l + d) % r ∈ L)
section
variable {b : Int → Bool} {s r d : Nat} {L M F : List Int}
theorem per_of (hb : ∀ x : Int, (s : Int) ≤ x → b x = decide (x % r ∈ L)) : Per b s r := fun x hx => by
  rw [hb x hx, hb (x + r) (by omega), Int.add_emod_right]
theorem dvd_div {r d : Nat} (h : r % d = 0) : ((r / d : Nat) : Int) * d = r := by
  have := Nat.mod_add_div r d
  rw [h, Nat.zero_add, Nat.mul_comm] at this
  exact_mod_cast this
theorem lr_iff (hb : ∀ x : Int, (s : Int) ≤ x → b x = decide (x % r ∈ L)) (hL : ∀ l ∈ L, 0 ≤ l ∧ l < r) (hr : 1 ≤ r) (hd : 1 ≤ d) (h0 : r % d = 0) : (L.all fun l => decide ((l + d) % r ∈ L)) = true ↔ Per b s d := by
  rw [List.all_eq_true]
  constructor
  · intro h x hx
    have cl : ∀ (k : Nat) (l : Int), l % r ∈ L → (l + (k : Int) * d) % r ∈ L := by
      intro k
      induction k with
      | zero => intro l hl; simpa using hl
      | succ k ih =>
        intro l hl
        have := of_decide_eq_true (h _ (ih l hl))
        rw [Int.emod_add_emod] at this
        rw [show l + ((k + 1 : Nat) : Int) * d = l + (k : Int) * d + d by push_cast; rw [Int.add_mul]; omega]
        exact this
    rw [hb x hx, hb (x + d) (by omega)]
    congr 1
    refine propext ⟨fun z => ?_, fun z => ?_⟩
    · have e := dvd_div h0
      have hk : 1 ≤ r / d := Nat.div_pos (Nat.le_of_dvd (by omega) (Nat.dvd_of_mod_eq_zero h0)) (by omega)
      have := cl (r / d - 1) (x + d) z
      rw [show x + (d : Int) + ((r / d - 1 : Nat) : Int) * d = x + r by rw [← e, show ((r / d - 1 : Nat) : Int) = ((r / d : Nat) : Int) - 1 by omega, Int.sub_mul]; omega, Int.add_emod_right] at this
      exact this
    · have := cl 1 x z
      simpa using this
  · intro h l hl
    refine decide_eq_true ?_
    obtain ⟨h1, h2⟩ := hL l hl
    have hs : (s : Int) ≤ l + (s : Int) * r := by
      have h9 : (s : Int) * 1 ≤ (s : Int) * r := Int.mul_le_mul_of_nonneg_left (by omega) (by omega)
      omega
    have e1 : (l + (s : Int) * r) % r = l := by rw [Int.add_mul_emod_self_right]; exact Int.emod_eq_of_lt h1 h2
    have b1 := hb _ hs
    rw [e1, decide_eq_true hl] at b1
    have b2 := h _ hs
    rw [b1, hb _ (by omega)] at b2
    have b3 := of_decide_eq_true b2
    rw [show l + (s : Int) * r + d = l + d + (s : Int) * r by omega, Int.add_mul_emod_self_right] at b3
    exact b3
theorem lrB_eq (hb : ∀ x : Int, (s : Int) ≤ x → b x = decide (x % r ∈ L)) (hL : ∀ l ∈ L, 0 ≤ l ∧ l < r) (hr : 1 ≤ r) (hd : 1 ≤ d) : lrB L r d = farB b s r d := by
  have h1 := farB_iff (per_of hb) hr hd
  have h2 : lrB L r d = true ↔ r % d = 0 ∧ Per b s d := by
    unfold lrB
    rw [Bool.and_eq_true, beq_iff_eq]
    exact ⟨fun ⟨a, c⟩ => ⟨a, (lr_iff hb hL hr hd a).mp c⟩, fun ⟨a, c⟩ => ⟨a, (lr_iff hb hL hr hd a).mpr c⟩⟩
  rw [Bool.eq_iff_iff]
  exact h2.trans h1.symm
/-- by the found ring -/
theorem by_far (hb : ∀ x : Int, (s : Int) ≤ x → b x = decide (x % r ∈ L)) (hL : ∀ l ∈ L, 0 ≤ l ∧ l < r) (hr : 1 ≤ r) (hd : 1 ≤ d) (h0 : r % d = 0) (hp : Per b s d) : ∀ x : Int, (s : Int) ≤ x → b x = decide (x % d ∈ L.map (· % (d : Int))) := by
  intro x hx
  have hdr : (d : Int) ∣ r := Int.ofNat_dvd.mpr (Nat.dvd_of_mod_eq_zero h0)
  cases e : b x with
  | true =>
    rw [hb x hx] at e
    refine (decide_eq_true (List.mem_map.mpr ⟨_, of_decide_eq_true e, ?_⟩)).symm
    exact Int.emod_emod_of_dvd x hdr
  | false =>
    refine (decide_eq_false fun z => ?_).symm
    obtain ⟨l, hl, hx2⟩ := List.mem_map.mp z
    have hx2 : l % (d : Int) = x % d := hx2
    obtain ⟨h1, h2⟩ := hL l hl
    have hs : (s : Int) ≤ l + (s : Int) * r := by
      have h9 : (s : Int) * 1 ≤ (s : Int) * r := Int.mul_le_mul_of_nonneg_left (by omega) (by omega)
      omega
    have e1 : (l + (s : Int) * r) % r = l := by rw [Int.add_mul_emod_self_right]; exact Int.emod_eq_of_lt h1 h2
    have b1 := hb _ hs
    rw [e1, decide_eq_true hl] at b1
    have e2 : (l + (s : Int) * r) % d = x % d := by
      rw [← hx2]
      obtain ⟨c, hc⟩ := hdr
      rw [hc, show (s : Int) * ((d : Int) * c) = (s * c) * d by rw [Int.mul_comm (d : Int) c, Int.mul_assoc], Int.add_mul_emod_self_right]
    have hdd : (d : Int) ∣ (l + (s : Int) * r) - x := Int.dvd_of_emod_eq_zero (Int.emod_eq_emod_iff_emod_sub_eq_zero.mp e2)
    obtain ⟨c, hc⟩ := hdd
    have e3 : l + (s : Int) * r = x + c * d := by
      rw [Int.mul_comm (d : Int) c] at hc
      omega
    rcases Int.le_total 0 c with h | h
    · obtain ⟨k, rfl⟩ := Int.eq_ofNat_of_zero_le h
      have := per_mul hp hx k
      rw [← e3, b1, e] at this
      cases this
    · obtain ⟨k, hk⟩ := Int.eq_ofNat_of_zero_le (show 0 ≤ -c by omega)
      have e4 : x = (l + (s : Int) * r) + (k : Int) * d := by
        rw [← hk, e3, Int.neg_mul]
        omega
      have := per_mul hp hs k
      rw [← e4, e, b1] at this
      cases this
/-- the package's begin -/
def pbeg (F M : List Int) (d : Nat) : Nat → Nat
  | 0 => 0
  | k + 1 => if decide ((k : Int) ∈ F) == decide ((k : Int) % d ∈ M) then pbeg F M d k else k + 1
theorem pbeg_eq (hF : ∀ x : Int, 0 ≤ x → x < s → b x = decide (x ∈ F)) : ∀ k : Nat, k ≤ s → (∀ x : Int, (k : Int) ≤ x → b x = decide (x % d ∈ M)) → 1 ≤ d → pbeg F M d k = beg b d k ∧ ∀ x : Int, (beg b d k : Int) ≤ x → b x = decide (x % d ∈ M)
  | 0, _, h, _ => ⟨rfl, h⟩
  | k + 1, hk, h, hd => by
    have e1 : b k = decide ((k : Int) ∈ F) := hF k (by omega) (by omega)
    have e2 : b (k + d) = decide ((k : Int) % d ∈ M) := by rw [h _ (by omega), Int.add_emod_right]
    unfold pbeg beg
    rw [← e1, ← e2]
    split
    · rename_i hc
      refine pbeg_eq hF k (by omega) (fun x hx => ?_) hd
      by_cases hx2 : x = k
      · subst hx2
        rw [beq_iff_eq.mp hc, e2]
      · exact h x (by omega)
    · exact ⟨rfl, h⟩
theorem rests_eq {g : Nat} (hM : ∀ l ∈ M, 0 ≤ l ∧ l < d) (hd : 1 ≤ d) (h : ∀ x : Int, (g : Int) ≤ x → b x = decide (x % d ∈ M)) (hn : M.Nodup) : sortI (M.map fun l => (l - g) % d) = upto d fun t => b (g + t) := by
  have inj : ∀ x ∈ M, ∀ y ∈ M, (x - g) % (d : Int) = (y - g) % d → x = y := fun x hx y hy e => by
    obtain ⟨a1, a2⟩ := hM x hx
    obtain ⟨b1, b2⟩ := hM y hy
    have := Int.emod_eq_emod_iff_emod_sub_eq_zero.mp e
    rw [show x - (g : Int) - (y - g) = x - y by omega] at this
    obtain ⟨c, hc⟩ := Int.dvd_of_emod_eq_zero this
    have : c = 0 := by
      rcases Int.lt_trichotomy c 0 with z | z | z
      · have : (d : Int) * c ≤ d * (-1) := Int.mul_le_mul_of_nonneg_left (by omega) (by omega)
        omega
      · exact z
      · have : (d : Int) * 1 ≤ d * c := Int.mul_le_mul_of_nonneg_left (by omega) (by omega)
        omega
    subst this
    omega
  have nd : (M.map fun l => (l - g) % (d : Int)).Nodup := by
    have : ∀ l : List Int, l.Nodup → (∀ x ∈ l, x ∈ M) → (l.map fun l => (l - g) % (d : Int)).Nodup := by
      intro l
      induction l with
      | nil => intro _ _; simp
      | cons a l ih =>
        intro h1 h2
        rw [List.nodup_cons] at h1
        rw [List.map_cons, List.nodup_cons]
        refine ⟨fun z => ?_, ih h1.2 fun x hx => h2 x (List.mem_cons_of_mem _ hx)⟩
        obtain ⟨y, hy, e⟩ := List.mem_map.mp z
        exact h1.1 (inj y (h2 y (List.mem_cons_of_mem _ hy)) a (h2 a List.mem_cons_self) e ▸ hy)
    exact this M hn fun _ h => h
  refine upto_of (asc_sortI nd) fun t => ?_
  rw [mem_sortI, List.mem_map]
  constructor
  · rintro ⟨l, hl, rfl⟩
    have h0 : 0 ≤ (l - g) % (d : Int) := Int.emod_nonneg _ (by omega)
    have h1 : (l - g) % (d : Int) < d := Int.emod_lt_of_pos _ (by omega)
    refine ⟨h0, h1, ?_⟩
    rw [h _ (by omega)]
    refine decide_eq_true ?_
    obtain ⟨a1, a2⟩ := hM l hl
    rw [Int.add_emod_emod, show (g : Int) + (l - g) = l by omega, Int.emod_eq_of_lt a1 a2]
    exact hl
  · rintro ⟨h0, h1, h2⟩
    rw [h _ (by omega)] at h2
    refine ⟨_, of_decide_eq_true h2, ?_⟩
    rw [Int.sub_eq_add_neg, Int.emod_add_emod, show (g : Int) + t + -g = t by omega, Int.emod_eq_of_lt h0 h1]
theorem firsts_eq {g : Nat} (hF : ∀ x : Int, 0 ≤ x → x < s → b x = decide (x ∈ F)) (hFs : ∀ x ∈ F, 0 ≤ x ∧ x < s) (hn : F.Nodup) (hg : g ≤ s) : sortI (F.filter fun f => decide (f < g)) = upto g b := by
  refine upto_of (asc_sortI (hn.sublist List.filter_sublist)) fun x => ?_
  rw [mem_sortI, List.mem_filter]
  constructor
  · rintro ⟨h1, h2⟩
    obtain ⟨a1, a2⟩ := hFs x h1
    exact ⟨a1, of_decide_eq_true h2, by rw [hF x a1 a2]; exact decide_eq_true h1⟩
  · rintro ⟨h1, h2, h3⟩
    rw [hF x h1 (by omega)] at h3
    exact ⟨of_decide_eq_true h3, decide_eq_true h2⟩
end
/-- whether a number is of a lot told by four parts -/
def memB (F : List Int) (s r : Nat) (R : List Int) (x : Int) : Bool := if x < s then decide (x ∈ F) else decide ((x - s) % r ∈ R)
theorem memB_lo {F R : List Int} {s r : Nat} (x : Int) (h : x < s) : memB F s r R x = decide (x ∈ F) := if_pos h
theorem memB_hi {F R : List Int} {s r : Nat} (hr : 1 ≤ r) (hR : ∀ x ∈ R, 0 ≤ x ∧ x < (r : Int)) (x : Int) (h : (s : Int) ≤ x) : memB F s r R x = decide (x % r ∈ R.map fun t => ((s : Int) + t) % r) := by
  unfold memB
  rw [if_neg (by omega)]
  congr 1
  refine propext ⟨fun z => List.mem_map.mpr ⟨_, z, ?_⟩, fun z => ?_⟩
  · rw [Int.add_emod_emod, show (s : Int) + (x - s) = x by omega]
  · obtain ⟨t, ht, e⟩ := List.mem_map.mp z
    have e : ((s : Int) + t) % r = x % r := e
    obtain ⟨h1, h2⟩ := hR t ht
    have : (x - s) % r = t := by
      rw [Int.sub_emod, ← e, ← Int.sub_emod, show (s : Int) + t - s = t by omega, Int.emod_eq_of_lt h1 h2]
    rw [this]
    exact ht
theorem memB_per {F R : List Int} {s r : Nat} (hr : 1 ≤ r) (hR : ∀ x ∈ R, 0 ≤ x ∧ x < (r : Int)) : Per (memB F s r R) s r := per_of (memB_hi hr hR)
end Ms

-- Q3
set_option linter.all false
set_option Elab.async false
set_option maxRecDepth 10000
/-! Lots as bits; how many, and the so-manieth. -/
namespace Ms
open PySem (Str PyData)
section
variable {b c : Int → Bool} {n k s r t : Nat}
/-- the bits of the numbers below n -/
def bn : Nat → (Int → Bool) → Nat
  | 0, _ => 0
  | n + 1, b => (if b n then 2 ^ n else 0) + bn n b
theorem bn_s : bn (n + 1) b = (if b n then 2 ^ n else 0) + bn n b := rfl
theorem bn_lt : ∀ n : Nat, bn n b < 2 ^ n
  | 0 => by simp [bn]
  | n + 1 => by
    have := bn_lt n
    rw [bn_s]
    rw [Nat.pow_succ]
    split <;> omega
theorem bit_one (k : Nat) : Nat.testBit 1 k = decide (k = 0) := by
  cases k with
  | zero => rfl
  | succ k =>
    rw [Nat.testBit_succ]
    simp
theorem bn_bit (i : Nat) : ∀ n : Nat, (bn n b).testBit i = (decide (i < n) && b i)
  | 0 => by simp [bn]
  | n + 1 => by
    have ih := bn_bit i n
    have hl := bn_lt (b := b) n
    rw [bn_s]
    by_cases hb : b n
    · have e := Nat.testBit_two_pow_mul_add 1 hl i
      rw [Nat.mul_one] at e
      rw [if_pos hb, e]
      by_cases hi : i < n
      · rw [if_pos hi, ih]
        simp [hi, Nat.lt_succ_of_lt hi]
      · rw [if_neg hi, bit_one]
        by_cases he : i = n
        · subst he
          simp [hb]
        · have h1 : ¬ i - n = 0 := by omega
          have h2 : ¬ i < n + 1 := by omega
          simp [h1, h2]
    · rw [if_neg hb, Nat.zero_add, ih]
      by_cases he : i = n
      · subst he
        simp [hb]
      · have : (i < n + 1) = (i < n) := by
          apply propext
          omega
        simp only [this]
theorem upto_succ : upto (n + 1) b = upto n b ++ if b n then [(n : Int)] else [] := by
  unfold upto
  rw [List.range_succ, List.map_append, List.filter_append]
  congr 1
  simp only [List.map_cons, List.map_nil, List.filter_cons, List.filter_nil]
/-- the sum of their powers -/
theorem pw_upto : ∀ n : Nat, ((upto n b).map fun x => (1 : Int) * 2 ^ x.toNat).sum = (bn n b : Int)
  | 0 => rfl
  | n + 1 => by
    have ih := pw_upto n
    rw [upto_succ, List.map_append, List.sum_append, ih, bn_s]
    by_cases hb : b n
    · rw [if_pos hb, if_pos hb]
      simp
      omega
    · rw [if_neg hb, if_neg hb]
      simp
/-- a row of bits, again and again -/
def rp (c r : Nat) : Nat → Nat
  | 0 => 0
  | t + 1 => 2 ^ (t * r) * c + rp c r t
theorem rp_s {c : Nat} : rp c r (t + 1) = 2 ^ (t * r) * c + rp c r t := rfl
theorem rp_lt {c : Nat} (hc : c < 2 ^ r) : ∀ t : Nat, rp c r t < 2 ^ (t * r)
  | 0 => by simp [rp]
  | t + 1 => by
    have ih := rp_lt hc t
    rw [rp_s, Nat.succ_mul, Nat.pow_add]
    have : 2 ^ (t * r) * (c + 1) ≤ 2 ^ (t * r) * 2 ^ r := Nat.mul_le_mul_left _ hc
    rw [Nat.mul_add, Nat.mul_one] at this
    omega
theorem rp_bit {c : Nat} (hc : c < 2 ^ r) (hr : 1 ≤ r) (i : Nat) : ∀ t : Nat, (rp c r t).testBit i = (decide (i < t * r) && c.testBit (i % r))
  | 0 => by simp [rp]
  | t + 1 => by
    have ih := rp_bit hc hr i t
    have hl := rp_lt hc t
    rw [rp_s, Nat.testBit_two_pow_mul_add c hl i]
    have e0 : (t + 1) * r = t * r + r := Nat.succ_mul t r
    by_cases hi : i < t * r
    · rw [if_pos hi, ih]
      have : i < (t + 1) * r := by omega
      simp [hi, this]
    · rw [if_neg hi]
      by_cases h2 : i < (t + 1) * r
      · have e : i % r = i - t * r := by
          have : i = (i - t * r) + r * t := by rw [Nat.mul_comm r t]; omega
          rw [this, Nat.add_mul_mod_self_left, Nat.mod_eq_of_lt (by omega)]
          rw [Nat.mul_comm r t]
          omega
        rw [e]
        simp [h2]
      · have : c < 2 ^ (i - t * r) := Nat.lt_of_lt_of_le hc (Nat.pow_le_pow_right (by omega) (by omega))
        rw [Nat.testBit_lt_two_pow this]
        simp [h2]
theorem rp_sum (c r : Nat) : ∀ t : Nat, ((List.range t).map fun i : Nat => (c : Int) * 2 ^ (i * r)).sum = (rp c r t : Int)
  | 0 => rfl
  | t + 1 => by
    rw [List.range_succ, List.map_append, List.sum_append, rp_sum c r t, rp_s]
    simp
    rw [Int.mul_comm]
    omega
/-- the bits of a lot below k -/
theorem all_bit (hp : Per b s r) (hr : 1 ≤ r) (hk : k ≤ s ∨ k < s + t * r) (W : Nat) (hW : (W = bn s b ∧ (k ≤ s ∨ ∀ x : Nat, s ≤ x → b x = false)) ∨ W = bn s b ||| rp (bn r fun t => b (s + t)) r t * 2 ^ s) : W % 2 ^ k = bn k b := by
  apply Nat.eq_of_testBit_eq
  intro i
  rw [Nat.testBit_mod_two_pow, bn_bit]
  by_cases hi : i < k
  · simp only [hi, decide_true, Bool.true_and]
    rcases hW with ⟨rfl, h⟩ | rfl
    · rw [bn_bit]
      by_cases hs : i < s
      · simp [hs]
      · rcases h with h | h
        · omega
        · simp [hs, h i (by omega)]
    · rw [Nat.testBit_or, bn_bit, Nat.testBit_mul_two_pow]
      by_cases hs : i < s
      · have : ¬ s ≤ i := by omega
        simp [hs, this]
      · have h1 : s ≤ i := by omega
        rw [rp_bit (bn_lt r) hr, bn_bit]
        have h2 : i - s < t * r := by omega
        have h3 : (i - s) % r < r := Nat.mod_lt _ (by omega)
        have e : b i = b ((s : Int) + ((i - s) % r : Nat)) := by
          have := per_mul hp (x := (s : Int) + ((i - s) % r : Nat)) (by omega) ((i - s) / r)
          rw [← this]
          congr 1
          have e2 := Nat.div_add_mod (i - s) r
          have e3 : (((i - s) / r : Nat) : Int) * r = ((r * ((i - s) / r) : Nat) : Int) := by
            rw [Nat.mul_comm]
            push_cast
            rfl
          rw [e3]
          omega
        simp [hs, h1, h2, h3, e]
  · simp [hi]
theorem bit_of (B i : Nat) : (PySem.Builtin.bitAnd ((B : Int) / 2 ^ i) 1 != 0) = B.testBit i := by
  have h := PySem.W.kbt_mask ((B : Int) / 2 ^ i) 1
  have e : (B : Int) / 2 ^ i % 2 ^ 1 = ((B / 2 ^ i % 2 : Nat) : Int) := by
    push_cast
    rfl
  rw [e] at h
  have h2 : PySem.Builtin.bitAnd ((B : Int) / 2 ^ i) 1 = ((B / 2 ^ i % 2 : Nat) : Int) := h
  rw [h2, Nat.testBit_eq_decide_div_mod_eq]
  have := Nat.mod_two_eq_zero_or_one (B / 2 ^ i)
  rcases this with z | z <;> rw [z] <;> rfl
/-! ### how many -/
def cnt (b : Int → Bool) : Nat → Nat
  | 0 => 0
  | n + 1 => cnt b n + if b n then 1 else 0
theorem cnt_s : cnt b (n + 1) = cnt b n + if b n then 1 else 0 := rfl
theorem upto_cnt : ∀ n : Nat, (upto n b).length = cnt b n
  | 0 => rfl
  | n + 1 => by
    rw [upto_succ, List.length_append, upto_cnt n, cnt_s]
    by_cases hb : b n <;> simp [hb]
theorem cnt_add (n : Nat) : ∀ k : Nat, cnt b (n + k) = cnt b n + cnt (fun t => b (n + t)) k
  | 0 => rfl
  | k + 1 => by
    rw [← Nat.add_assoc, cnt_s, cnt_s, cnt_add n k]
    push_cast
    omega
theorem cnt_congr : ∀ n : Nat, (∀ x : Nat, x < n → b x = c x) → cnt b n = cnt c n
  | 0, _ => rfl
  | n + 1, h => by
    rw [cnt_s, cnt_s, cnt_congr n fun x hx => h x (by omega), h n (by omega)]
theorem cnt_per (h : ∀ x : Nat, b ((x : Int) + r) = b x) (u : Nat) : ∀ t : Nat, cnt b (t * r + u) = t * cnt b r + cnt b u
  | 0 => by simp
  | t + 1 => by
    have e : (t + 1) * r + u = r + (t * r + u) := by rw [Nat.succ_mul]; omega
    have e2 : cnt (fun x => b (r + x)) (t * r + u) = cnt b (t * r + u) := cnt_congr _ fun x _ => by
      show b (r + x) = b x
      rw [Int.add_comm]
      exact h x
    rw [e, cnt_add, e2, cnt_per h u t, Nat.succ_mul]
    omega
theorem len_insI (a : Int) : ∀ l : List Int, (insI a l).length = l.length + 1
  | [] => rfl
  | b :: l => by
    unfold insI
    split
    · rfl
    · simp [len_insI a l]
theorem len_sortI : ∀ l : List Int, (sortI l).length = l.length
  | [] => rfl
  | a :: l => by
    show (insI a (sortI l)).length = _
    rw [len_insI, len_sortI l]
    rfl
theorem len_cnt {F : List Int} (hn : F.Nodup) (h : ∀ x : Int, x ∈ F ↔ 0 ≤ x ∧ x < (k : Int) ∧ b x = true) : F.length = cnt b k := by
  rw [← upto_cnt, ← len_sortI F, upto_of (asc_sortI hn) fun x => mem_sortI.trans (h x)]
/-- how many below k, by the four parts -/
theorem cnt_raw {F R : List Int} (hF : ∀ x ∈ F, 0 ≤ x ∧ x < (s : Int)) (hFn : F.Nodup) (hR : ∀ x ∈ R, 0 ≤ x ∧ x < (r : Int)) (hRn : R.Nodup) (hr : 1 ≤ r) (k : Nat) :
    (F.filter fun x => decide (x < (k : Int))).length + (if s < k then (k - s) / r * R.length + (R.filter fun x => decide (x < (((k - s) % r : Nat) : Int))).length else 0) = cnt (memB F s r R) k := by
  have lo : ∀ j : Nat, j ≤ s → (F.filter fun x => decide (x < (j : Int))).length = cnt (memB F s r R) j := fun j hj => len_cnt (hFn.filter _) fun x => by
    rw [List.mem_filter, decide_eq_true_eq]
    constructor
    · rintro ⟨h1, h2⟩
      refine ⟨(hF x h1).1, h2, ?_⟩
      rw [memB_lo x (hF x h1).2]
      exact decide_eq_true h1
    · rintro ⟨h1, h2, h3⟩
      rw [memB_lo x (by omega)] at h3
      exact ⟨of_decide_eq_true h3, h2⟩
  by_cases hk : s < k
  · rw [if_pos hk]
    have e1 : (F.filter fun x => decide (x < (k : Int))) = F.filter fun x => decide (x < (s : Int)) := List.filter_congr fun x hx => by
      have := hF x hx
      rw [decide_eq_decide]
      omega
    have hi : ∀ j : Nat, j ≤ r → (R.filter fun x => decide (x < (j : Int))).length = cnt (fun x => memB F s r R (s + x)) j := fun j hj => len_cnt (hRn.filter _) fun x => by
      rw [List.mem_filter, decide_eq_true_eq]
      have key : 0 ≤ x → x < (j : Int) → memB F s r R (s + x) = decide (x ∈ R) := fun h1 h2 => by
        unfold memB
        rw [if_neg (by omega), show (s : Int) + x - s = x by omega, Int.emod_eq_of_lt h1 (by omega)]
      constructor
      · rintro ⟨h1, h2⟩
        refine ⟨(hR x h1).1, h2, ?_⟩
        show memB F s r R (s + x) = true
        rw [key (hR x h1).1 h2]
        exact decide_eq_true h1
      · rintro ⟨h1, h2, h3⟩
        have h3 : memB F s r R (s + x) = true := h3
        rw [key h1 h2] at h3
        exact ⟨of_decide_eq_true h3, h2⟩
    have e2 : R.length = cnt (fun x => memB F s r R (s + x)) r := by
      rw [← hi r (Nat.le_refl _)]
      congr 1
      exact (List.filter_eq_self.mpr fun x hx => decide_eq_true (hR x hx).2).symm
    have hper : ∀ x : Nat, memB F s r R (s + ((x : Int) + r)) = memB F s r R (s + x) := fun x => by
      have := memB_per (F := F) (s := s) hr hR ((s : Int) + x) (by omega)
      rw [← this]
      congr 1
      omega
    have hm := Nat.mod_lt (k - s) (show r > 0 by omega)
    have e3 : k = s + ((k - s) / r * r + (k - s) % r) := by
      have := Nat.div_add_mod (k - s) r
      rw [Nat.mul_comm] at this
      omega
    rw [e1, lo s (Nat.le_refl _), hi _ (by omega), e2]
    conv => rhs; rw [e3]
    rw [cnt_add, cnt_per (b := fun x => memB F s r R (s + x)) hper]
  · rw [if_neg hk, Nat.add_zero]
    exact lo k (by omega)
/-! ### the so-manieth -/
theorem cnt_mono (h : n ≤ k) : cnt b n ≤ cnt b k := by
  have : k = n + (k - n) := by omega
  rw [this, cnt_add]
  omega
theorem cnt_lt (h : n < k) (hb : b n = true) : cnt b n < cnt b k := by
  have h1 : cnt b (n + 1) = cnt b n + 1 := by
    rw [cnt_s, if_pos hb]
  have := cnt_mono (b := b) (show n + 1 ≤ k from h)
  omega
theorem cnt_inj (h1 : b n = true) (h2 : b k = true) (h : cnt b n = cnt b k) : n = k := by
  rcases Nat.lt_trichotomy n k with z | z | z
  · have := cnt_lt z h1; omega
  · exact z
  · have := cnt_lt z h2; omega
theorem upto_get : ∀ (n i : Nat) (x : Int), (upto n b)[i]? = some x → ∃ y : Nat, x = y ∧ y < n ∧ b y = true ∧ cnt b y = i
  | 0, i, x, h => by simp [upto] at h
  | n + 1, i, x, h => by
    rw [upto_succ] at h
    by_cases hi : i < (upto n b).length
    · rw [List.getElem?_append_left hi] at h
      obtain ⟨y, h1, h2, h3, h4⟩ := upto_get n i x h
      exact ⟨y, h1, by omega, h3, h4⟩
    · rw [List.getElem?_append_right (by omega)] at h
      by_cases hb : b n
      · rw [if_pos hb] at h
        obtain ⟨h1, h2⟩ := List.getElem?_eq_some_iff.mp h
        simp at h1 h2
        have := upto_cnt (b := b) n
        exact ⟨n, by omega, by omega, hb, by omega⟩
      · rw [if_neg hb] at h
        simp at h
/-- the so-manieth number, or none -/
def NthOf (b : Int → Bool) (i : Nat) (d : D) : Prop := (∃ y : Nat, d = .int y ∧ b y = true ∧ cnt b y = i) ∨ (d = .non ∧ ∀ y : Nat, b y = true → cnt b y < i)
theorem nth_uniq {i : Nat} {d e : D} (h : NthOf b i d) (h' : NthOf b i e) : d = e := by
  rcases h with ⟨y, rfl, h1, h2⟩ | ⟨rfl, h1⟩
  · rcases h' with ⟨z, rfl, h3, h4⟩ | ⟨rfl, h3⟩
    · rw [cnt_inj h1 h3 (h2.trans h4.symm)]
    · have := h3 y h1
      omega
  · rcases h' with ⟨z, rfl, h3, h4⟩ | ⟨rfl, h3⟩
    · have := h1 z h3
      omega
    · rfl
end
end Ms

-- Q4
set_option linter.all false
set_option Elab.async false
set_option maxRecDepth 10000
/-! Lots together, as bits; the first bit. -/
namespace Ms
open PySem (Str PyData)
section
variable {b c : Int → Bool} {n k s r t : Nat}
theorem low_form : ∀ B : Nat, B ≠ 0 → ∃ k a : Nat, B = 2 ^ k * (2 * a + 1) := by
  intro B
  induction B using Nat.strongRecOn with
  | _ B ih =>
    intro h
    rcases Nat.mod_two_eq_zero_or_one B with z | z
    · obtain ⟨k, a, e⟩ := ih (B / 2) (by omega) (by omega)
      refine ⟨k + 1, a, ?_⟩
      rw [Nat.pow_succ, Nat.mul_comm (2 ^ k) 2, Nat.mul_assoc, ← e]
      omega
    · exact ⟨0, B / 2, by rw [Nat.pow_zero, Nat.one_mul]; omega⟩
theorem bits_pow (k : Nat) : PySem.Builtin.Int.intBits ((2 : Int) ^ k) = k + 1 := by
  unfold PySem.Builtin.Int.intBits
  have h : (2 : Int) ^ k = ((2 ^ k : Nat) : Int) := (PySem.W.kbt_cast k).symm
  have hp : 0 < 2 ^ k := Nat.two_pow_pos k
  have : ¬ ((2 : Int) ^ k == 0) = true := by
    rw [h]
    simp
    omega
  rw [if_neg this, h, Int.natAbs_natCast, Nat.log2_two_pow]
/-- the lowest bit -/
theorem low_bit (B : Nat) (h : B ≠ 0) : ∃ k : Nat, (PySem.Builtin.Int.intBits (PySem.Builtin.bitAnd (B : Int) (-(B : Int))) : Int) - 1 = k ∧ B.testBit k = true ∧ ∀ i, i < k → B.testBit i = false := by
  obtain ⟨k, a, e⟩ := low_form B h
  have e2 : (B : Int) = 2 ^ k * (2 * (a : Int) + 1) := by
    rw [e]
    push_cast
    rfl
  refine ⟨k, ?_, ?_, fun i hi => ?_⟩
  · rw [e2, PySem.W.kbt_low, bits_pow]
    omega
  · rw [e, Nat.testBit_two_pow_mul]
    simp
  · rw [e, Nat.testBit_two_pow_mul]
    have : ¬ k ≤ i := by omega
    simp [this]
theorem cnt_zero (h : ∀ x : Nat, x < k → b x = false) : cnt b k = 0 := by
  induction k with
  | zero => rfl
  | succ k ih => rw [cnt_s, ih fun x hx => h x (by omega), h k (by omega)]; rfl
/-- the first of some numbers that come round -/
theorem low_nth {B : Nat} (hp : Per b s r) (hr : 1 ≤ r) (hB : B = bn (s + r) b) : (B = 0 → NthOf b 0 .non) ∧ (B ≠ 0 → ∃ k : Nat, (PySem.Builtin.Int.intBits (PySem.Builtin.bitAnd (B : Int) (-(B : Int))) : Int) - 1 = k ∧ NthOf b 0 (.int k)) := by
  constructor
  · intro h
    refine .inr ⟨rfl, fun y hy => ?_⟩
    exfalso
    have hz : ∀ x : Nat, x < s + r → b x = false := fun x hx => by
      have := bn_bit (b := b) x (s + r)
      rw [← hB, h] at this
      simp [hx] at this
      exact this
    by_cases hy2 : y < s + r
    · rw [hz y hy2] at hy
      cases hy
    · have e := per_mul hp (x := (s : Int) + ((y - s) % r : Nat)) (by omega) ((y - s) / r)
      have e3 : (s : Int) + ((y - s) % r : Nat) + ((y - s) / r : Nat) * r = y := by
        have e2 := Nat.div_add_mod (y - s) r
        have e4 : (((y - s) / r : Nat) : Int) * r = ((r * ((y - s) / r) : Nat) : Int) := by
          rw [Nat.mul_comm]
          push_cast
          rfl
        rw [e4]
        omega
      have hm := Nat.mod_lt (y - s) (show r > 0 by omega)
      rw [e3, hy] at e
      have := hz (s + (y - s) % r) (by omega)
      push_cast at this e
      rw [this] at e
      cases e
  · intro h
    obtain ⟨k, h1, h2, h3⟩ := low_bit B h
    have hbit : ∀ i : Nat, B.testBit i = (decide (i < s + r) && b i) := fun i => by rw [hB]; exact bn_bit i (s + r)
    rw [hbit] at h2
    simp at h2
    refine ⟨k, h1, .inl ⟨k, rfl, h2.2, cnt_zero fun x hx => ?_⟩⟩
    have := h3 x hx
    rw [hbit] at this
    have hx2 : x < s + r := by omega
    simpa [hx2] using this
/-! ### bits together -/
theorem and_cast (x y : Nat) : PySem.Builtin.bitAnd (x : Int) (y : Int) = ((x &&& y : Nat) : Int) := by
  unfold PySem.Builtin.bitAnd
  have h1 : decide ((0 : Int) ≤ (x : Int)) = true := decide_eq_true (by omega)
  have h2 : decide ((0 : Int) ≤ (y : Int)) = true := decide_eq_true (by omega)
  simp only [h1, h2, Int.toNat_natCast]
theorem andn_cast (x y : Nat) : PySem.Builtin.bitAnd (x : Int) (PySem.Builtin.bitNot (y : Int)) = ((x ^^^ (x &&& y) : Nat) : Int) := by
  unfold PySem.Builtin.bitAnd
  have h1 : decide ((0 : Int) ≤ (x : Int)) = true := decide_eq_true (by omega)
  have h2 : decide ((0 : Int) ≤ PySem.Builtin.bitNot (y : Int)) = false := decide_eq_false (by unfold PySem.Builtin.bitNot; omega)
  have h3 : PySem.Builtin.bitNot (PySem.Builtin.bitNot (y : Int)) = y := by unfold PySem.Builtin.bitNot; omega
  simp only [h1, h2, h3, Int.toNat_natCast]
  have e := Bits.nat_xor_add_and x (x &&& y)
  rw [← Nat.and_assoc, Nat.and_self] at e
  omega
theorem or_cast (x y : Nat) : PySem.Builtin.bitOr (x : Int) (y : Int) = ((x ||| y : Nat) : Int) := by
  rw [L2.bitOr_nn (Int.natCast_nonneg _) (Int.natCast_nonneg _), Int.toNat_natCast, Int.toNat_natCast]
theorem xor_cast (x y : Nat) : PySem.Builtin.bitXor (x : Int) (y : Int) = ((x ^^^ y : Nat) : Int) := by
  rw [Bits.bitXor_pp (Int.natCast_nonneg _) (Int.natCast_nonneg _), Int.toNat_natCast, Int.toNat_natCast]
theorem bn_and : bn n b &&& bn n c = bn n fun x => b x && c x := Nat.eq_of_testBit_eq fun i => by
  rw [Nat.testBit_and, bn_bit, bn_bit, bn_bit]
  cases decide (i < n) <;> cases b i <;> cases c i <;> rfl
theorem bn_or : bn n b ||| bn n c = bn n fun x => b x || c x := Nat.eq_of_testBit_eq fun i => by
  rw [Nat.testBit_or, bn_bit, bn_bit, bn_bit]
  cases decide (i < n) <;> cases b i <;> cases c i <;> rfl
theorem bn_xor : bn n b ^^^ bn n c = bn n fun x => b x != c x := Nat.eq_of_testBit_eq fun i => by
  rw [Nat.testBit_xor, bn_bit, bn_bit, bn_bit]
  cases decide (i < n) <;> cases b i <;> cases c i <;> rfl
theorem bn_less : bn n b ^^^ (bn n b &&& bn n c) = bn n fun x => b x && !(c x) := Nat.eq_of_testBit_eq fun i => by
  rw [Nat.testBit_xor, Nat.testBit_and, bn_bit, bn_bit, bn_bit]
  cases decide (i < n) <;> cases b i <;> cases c i <;> rfl
/-! ### what comes round with a multiple -/
theorem per_up (h : Per b s r) {S e : Nat} (hs : s ≤ S) (he : e % r = 0) : Per b S e := fun x hx => by
  have := per_mul h (x := x) (by omega) (e / r)
  rw [← this]
  congr 1
  have e2 := Nat.div_add_mod e r
  rw [he, Nat.add_zero] at e2
  have : (((e / r : Nat) : Int) * r) = ((r * (e / r) : Nat) : Int) := by
    rw [Nat.mul_comm]
    push_cast
    rfl
  rw [this, e2]
theorem per_two {f : Bool → Bool → Bool} (hb : Per b s r) (hc : Per c s r) : Per (fun x => f (b x) (c x)) s r := fun x hx => by
  show f (b (x + r)) (c (x + r)) = f (b x) (c x)
  rw [hb x hx, hc x hx]
end
end Ms

-- P03
set_option linter.all false
set_option maxRecDepth 10000
namespace K03
open Ms
def ix_is_integer : Nat := 0
def ix_is_number : Nat := 1
def ix_is_below : Nat := 2
def ix_is_between : Nat := 3
def ix_is_sequence : Nat := 4
def ix_are_unlike_below : Nat := 5
def ix_gcd_of : Nat := 6
def ix_lcm_of : Nat := 7
def ix_Numbers_init : Nat := 8
def ix_Numbers_eq : Nat := 9
def ix_key_of : Nat := 10
def ix_least_ring : Nat := 11
def ix_normal : Nat := 12
def ix_made_numbers : Nat := 13
def ix_need_numbers : Nat := 14
def ix_places_of : Nat := 15
def ix_from_bits : Nat := 16
def ix_holds : Nat := 17
def ix_bits_of : Nat := 18
def ix_first_bit : Nat := 19
def ix_has : Nat := 20
def ix_common_of : Nat := 21
def ix_need_both : Nat := 22
def ix_both_told : Nat := 23
def ix_less_told : Nat := 24
def ix_either_told : Nat := 25
def ix_both : Nat := 26
def ix_either : Nat := 27
def ix_less : Nat := 28
def ix_others : Nat := 29
def ix_first_beyond : Nat := 30
def ix_is_within : Nat := 31
def ix_first_unlike : Nat := 32
def ix__law_box : Nat := 33
def ix__law_take : Nat := 34
def ix__law_pick : Nat := 35
def ix__law_mixed : Nat := 36
def ix__law_is : Nat := 37
def ix__law_all : Nat := 38
def ix__law_due : Nat := 39
def ix__law_some : Nat := 40
def ix__law_raw : Nat := 41
def ix__law_in : Nat := 42
def ix__law_normal : Nat := 43
def ix__law_lot : Nat := 44
def ix__law_four : Nat := 45
def ix__law_error : Nat := 46
def ix__law_both_rings : Nat := 47
def ix__law_together : Nat := 48
def ix_law : Nat := 49
def cx_Numbers : Nat := 0
def xx_LearnError : Nat := 0
def xx_InvalidCount : Nat := 1
def xx_InvalidNumbers : Nat := 2
def xx_InvalidSize : Nat := 3
/-- 0: is_integer (0 value) -/
def d_is_integer : Df := ⟨1, 1, [
  .ret (.and (.isi (.var 0) [.ty "int"]) (.not (.isi (.var 0) [.ty "bool"])))]⟩
/-- 1: is_number (0 value) -/
def d_is_number : Df := ⟨1, 1, [
  .ret (.and (.call ix_is_integer [.var 0]) (.cmp .ge (.var 0) (.cst (.int 0))))]⟩
/-- 2: is_below (0 value, 1 limit) -/
def d_is_below : Df := ⟨2, 2, [
  .ret (.and (.call ix_is_integer [.var 0]) (.chn .le .lt (.cst (.int 0)) (.var 0) (.var 1)))]⟩
/-- 3: is_between (0 value, 1 least, 2 most) -/
def d_is_between : Df := ⟨3, 3, [
  .ret (.and (.call ix_is_integer [.var 0]) (.chn .le .le (.var 1) (.var 0) (.var 2)))]⟩
/-- 4: is_sequence (0 value) -/
def d_is_sequence : Df := ⟨1, 1, [
  .ret (.isi (.var 0) [.ty "list", .ty "tuple"])]⟩
/-- 5: are_unlike_below (0 value, 1 limit, 2 part) -/
def d_are_unlike_below : Df := ⟨2, 3, [
  .ife (.or (.not (.call ix_is_sequence [.var 0])) (.not (.blt .all [.lc (.call ix_is_below [.var 2, .var 1]) (.v 2) .one [.var 0] [] [2]]))) [
    .ret (.cst (.bl false))] [],
  .ret (.cmp .eq (.blt .len [.dc 0 (.var 2) (.cst (.bl true)) (.v 2) .one [.var 0] [] [2]]) (.blt .len [.var 0]))]⟩
/-- 6: gcd_of (0 one, 1 other) -/
def d_gcd_of : Df := ⟨2, 2, [
  .whl (.cmp .gt (.var 1) (.cst (.int 0))) [
    .set (.t [.v 0, .v 1]) (.tup [.var 1, .bin .mod (.var 0) (.var 1)])],
  .ret (.var 0)]⟩
/-- 7: lcm_of (0 one, 1 other) -/
def d_lcm_of : Df := ⟨2, 2, [
  .ret (.bin .mul (.bin .fdiv (.var 0) (.call ix_gcd_of [.var 0, .var 1])) (.var 1))]⟩
/-- 8: Numbers.__init__ (0 self, 1 firsts, 2 start, 3 ring, 4 rests, 5 told, 6 rest) -/
def d_Numbers_init : Df := ⟨5, 7, [
  .ife (.not (.call ix_is_between [.var 2, .cst (.int 0), .cst (.int 1000)])) [
    .rse xx_InvalidCount [.cst (.int 1)]] [],
  .ife (.not (.call ix_is_between [.var 3, .cst (.int 1), .cst (.int 60)])) [
    .rse xx_InvalidCount [.cst (.int 2)]] [],
  .ife (.not (.call ix_are_unlike_below [.var 1, .var 2])) [
    .rse xx_InvalidNumbers [.cst (.int 0)]] [],
  .ife (.not (.call ix_are_unlike_below [.var 4, .var 3])) [
    .rse xx_InvalidNumbers [.cst (.int 3)]] [],
  .set (.v 5) (.call ix_normal [.var 1, .var 2, .var 3, .lc (.bin .mod (.bin .add (.var 2) (.var 6)) (.var 3)) (.v 6) .one [.var 4] [] [6]]),
  .set (.t [.att (.var 0) (sOf "firsts"), .att (.var 0) (sOf "start"), .att (.var 0) (sOf "ring"), .att (.var 0) (sOf "rests")]) (.var 5)]⟩
/-- 9: Numbers.__eq__ (0 self, 1 other) -/
def d_Numbers_eq : Df := ⟨2, 2, [
  .ret (.and (.isi (.var 1) [.cls cx_Numbers]) (.cmp .eq (.call ix_key_of [.var 0]) (.call ix_key_of [.var 1])))]⟩
/-- 10: key_of (0 lot) -/
def d_key_of : Df := ⟨1, 1, [
  .ret (.tup [.att (.var 0) (sOf "firsts"), .att (.var 0) (sOf "start"), .att (.var 0) (sOf "ring"), .att (.var 0) (sOf "rests")])]⟩
/-- 11: least_ring (0 ring, 1 lefts, 2 some, 3 less, 4 left) -/
def d_least_ring : Df := ⟨2, 5, [
  .set (.v 2) (.dc 0 (.var 4) (.cst (.bl true)) (.v 4) .one [.var 1] [] [4]),
  .for_ (.v 3) .rng [.cst (.int 1), .bin .add (.var 0) (.cst (.int 1))] [
    .ife (.and (.cmp .eq (.bin .mod (.var 0) (.var 3)) (.cst (.int 0))) (.blt .all [.lc (.cmp .isIn (.bin .mod (.bin .add (.var 4) (.var 3)) (.var 0)) (.var 2)) (.v 4) .one [.var 1] [] [4]])) [
      .ret (.tup [.var 3, .dc 0 (.bin .mod (.var 4) (.var 3)) (.cst (.bl true)) (.v 4) .one [.var 1] [] [4]])] []],
  .ret (.tup [.var 0, .var 2])]⟩
/-- 12: normal (0 firsts, 1 start, 2 ring, 3 lefts, 4 less, 5 some, 6 there, 7 begin, 8 rests, 9 first, 10 left) -/
def d_normal : Df := ⟨4, 11, [
  .set (.t [.v 4, .v 5]) (.call ix_least_ring [.var 2, .var 3]),
  .set (.v 6) (.dc 0 (.var 9) (.cst (.bl true)) (.v 9) .one [.var 0] [] [9]),
  .set (.v 7) (.var 1),
  .whl (.and (.cmp .gt (.var 7) (.cst (.int 0))) (.cmp .eq (.cmp .isIn (.bin .sub (.var 7) (.cst (.int 1))) (.var 6)) (.cmp .isIn (.bin .mod (.bin .sub (.var 7) (.cst (.int 1))) (.var 4)) (.var 5)))) [
    .aug 7 .sub (.cst (.int 1))],
  .set (.v 8) (.blt .sorted [.lc (.bin .mod (.bin .sub (.var 10) (.var 7)) (.var 4)) (.v 10) .one [.var 5] [] [10]]),
  .ret (.tup [.blt .tuple [.blt .sorted [.lc (.var 9) (.v 9) .one [.var 6] [.cmp .lt (.var 9) (.var 7)] [9]]], .var 7, .var 4, .blt .tuple [.var 8]])]⟩
/-- 13: made_numbers (0 firsts, 1 start, 2 ring, 3 rests, 4 made, 5 told, 6 rest) -/
def d_made_numbers : Df := ⟨4, 7, [
  .set (.v 4) (.mk cx_Numbers [.lst [], .cst (.int 0), .cst (.int 1), .lst []]),
  .set (.v 5) (.call ix_normal [.var 0, .var 1, .var 2, .lc (.bin .mod (.bin .add (.var 1) (.var 6)) (.var 2)) (.v 6) .one [.var 3] [] [6]]),
  .set (.t [.att (.var 4) (sOf "firsts"), .att (.var 4) (sOf "start"), .att (.var 4) (sOf "ring"), .att (.var 4) (sOf "rests")]) (.var 5),
  .ret (.var 4)]⟩
/-- 14: need_numbers (0 value, 1 at) -/
def d_need_numbers : Df := ⟨2, 2, [
  .ife (.not (.isi (.var 0) [.cls cx_Numbers])) [
    .rse xx_InvalidNumbers [.var 1]] []]⟩
/-- 15: places_of (0 bits, 1 many, 2 at) -/
def d_places_of : Df := ⟨2, 3, [
  .ret (.lc (.var 2) (.v 2) .rng [.var 1] [.bin .band (.bin .shr (.var 0) (.var 2)) (.cst (.int 1))] [2])]⟩
/-- 16: from_bits (0 bits, 1 start, 2 ring, 3 places, 4 firsts, 5 place) -/
def d_from_bits : Df := ⟨3, 6, [
  .set (.v 3) (.call ix_places_of [.var 0, .bin .add (.var 1) (.var 2)]),
  .set (.v 4) (.lc (.var 5) (.v 5) .one [.var 3] [.cmp .lt (.var 5) (.var 1)] [5]),
  .ret (.call ix_made_numbers [.var 4, .var 1, .var 2, .lc (.bin .sub (.var 5) (.var 1)) (.v 5) .one [.var 3] [.cmp .ge (.var 5) (.var 1)] [5]])]⟩
/-- 17: holds (0 lot, 1 number) -/
def d_holds : Df := ⟨2, 2, [
  .ife (.cmp .lt (.var 1) (.att (.var 0) (sOf "start"))) [
    .ret (.cmp .isIn (.var 1) (.att (.var 0) (sOf "firsts")))] [],
  .ret (.cmp .isIn (.bin .mod (.bin .sub (.var 1) (.att (.var 0) (sOf "start"))) (.att (.var 0) (sOf "ring"))) (.att (.var 0) (sOf "rests")))]⟩
/-- 18: bits_of (0 lot, 1 many, 2 bits, 3 turns, 4 one, 5 whole, 6 first, 7 rest, 8 turn) -/
def d_bits_of : Df := ⟨2, 9, [
  .set (.v 2) (.blt .sum [.lc (.bin .shl (.cst (.int 1)) (.var 6)) (.v 6) .one [.att (.var 0) (sOf "firsts")] [] [6]]),
  .ife (.and (.cmp .gt (.var 1) (.att (.var 0) (sOf "start"))) (.att (.var 0) (sOf "rests"))) [
    .set (.v 3) (.bin .add (.bin .fdiv (.bin .sub (.var 1) (.att (.var 0) (sOf "start"))) (.att (.var 0) (sOf "ring"))) (.cst (.int 1))),
    .set (.v 4) (.blt .sum [.lc (.bin .shl (.cst (.int 1)) (.var 7)) (.v 7) .one [.att (.var 0) (sOf "rests")] [] [7]]),
    .set (.v 5) (.blt .sum [.lc (.bin .shl (.var 4) (.bin .mul (.var 8) (.att (.var 0) (sOf "ring")))) (.v 8) .rng [.var 3] [] [8]]),
    .set (.v 2) (.bin .bor (.var 2) (.bin .shl (.var 5) (.att (.var 0) (sOf "start"))))] [],
  .ret (.bin .band (.var 2) (.bin .sub (.bin .shl (.cst (.int 1)) (.var 1)) (.cst (.int 1))))]⟩
/-- 19: first_bit (0 bits) -/
def d_first_bit : Df := ⟨1, 1, [
  .ret (.ite (.var 0) (.bin .sub (.omt (sOf "bit_length") (.bin .band (.var 0) (.neg (.var 0))) []) (.cst (.int 1))) (.cst (.non)))]⟩
/-- 20: has (0 lot, 1 number) -/
def d_has : Df := ⟨2, 2, [
  .ex (.call ix_need_numbers [.var 0, .cst (.int (-1))]),
  .ife (.not (.call ix_is_number [.var 1])) [
    .rse xx_InvalidCount [.neg (.cst (.int 1))]] [],
  .ret (.call ix_holds [.var 0, .var 1])]⟩
/-- 21: common_of (0 one, 1 other) -/
def d_common_of : Df := ⟨2, 2, [
  .ret (.tup [.blt .max [.att (.var 0) (sOf "start"), .att (.var 1) (sOf "start")], .call ix_lcm_of [.att (.var 0) (sOf "ring"), .att (.var 1) (sOf "ring")]])]⟩
/-- 22: need_both (0 one, 1 other, 2 start, 3 ring) -/
def d_need_both : Df := ⟨2, 4, [
  .ex (.call ix_need_numbers [.var 0, .cst (.int 0)]),
  .ex (.call ix_need_numbers [.var 1, .cst (.int 1)]),
  .set (.t [.v 2, .v 3]) (.call ix_common_of [.var 0, .var 1]),
  .ife (.cmp .gt (.var 3) (.cst (.int 5000))) [
    .rse xx_InvalidSize [.cst (.str (sOf "ring"))]] [],
  .ret (.tup [.var 2, .var 3])]⟩
/-- 23: both_told (0 one, 1 other, 2 start, 3 ring) -/
def d_both_told : Df := ⟨2, 4, [
  .set (.t [.v 2, .v 3]) (.call ix_common_of [.var 0, .var 1]),
  .ret (.call ix_from_bits [.bin .band (.call ix_bits_of [.var 0, .bin .add (.var 2) (.var 3)]) (.call ix_bits_of [.var 1, .bin .add (.var 2) (.var 3)]), .var 2, .var 3])]⟩
/-- 24: less_told (0 one, 1 other, 2 start, 3 ring) -/
def d_less_told : Df := ⟨2, 4, [
  .set (.t [.v 2, .v 3]) (.call ix_common_of [.var 0, .var 1]),
  .ret (.call ix_from_bits [.bin .band (.call ix_bits_of [.var 0, .bin .add (.var 2) (.var 3)]) (.inv (.call ix_bits_of [.var 1, .bin .add (.var 2) (.var 3)])), .var 2, .var 3])]⟩
/-- 25: either_told (0 one, 1 other, 2 start, 3 ring) -/
def d_either_told : Df := ⟨2, 4, [
  .set (.t [.v 2, .v 3]) (.call ix_common_of [.var 0, .var 1]),
  .ret (.call ix_from_bits [.bin .bor (.call ix_bits_of [.var 0, .bin .add (.var 2) (.var 3)]) (.call ix_bits_of [.var 1, .bin .add (.var 2) (.var 3)]), .var 2, .var 3])]⟩
/-- 26: both (0 one, 1 other) -/
def d_both : Df := ⟨2, 2, [
  .ex (.call ix_need_both [.var 0, .var 1]),
  .ret (.call ix_both_told [.var 0, .var 1])]⟩
/-- 27: either (0 one, 1 other) -/
def d_either : Df := ⟨2, 2, [
  .ex (.call ix_need_both [.var 0, .var 1]),
  .ret (.call ix_either_told [.var 0, .var 1])]⟩
/-- 28: less (0 one, 1 other) -/
def d_less : Df := ⟨2, 2, [
  .ex (.call ix_need_both [.var 0, .var 1]),
  .ret (.call ix_less_told [.var 0, .var 1])]⟩
/-- 29: others (0 lot) -/
def d_others : Df := ⟨1, 1, [
  .ex (.call ix_need_numbers [.var 0, .cst (.int (-1))]),
  .ret (.call ix_less_told [.mk cx_Numbers [.lst [], .cst (.int 0), .cst (.int 1), .lst [.cst (.int 0)]], .var 0])]⟩
/-- 30: first_beyond (0 one, 1 other, 2 start, 3 ring) -/
def d_first_beyond : Df := ⟨2, 4, [
  .set (.t [.v 2, .v 3]) (.call ix_need_both [.var 0, .var 1]),
  .ret (.call ix_first_bit [.bin .band (.call ix_bits_of [.var 0, .bin .add (.var 2) (.var 3)]) (.inv (.call ix_bits_of [.var 1, .bin .add (.var 2) (.var 3)]))])]⟩
/-- 31: is_within (0 one, 1 other) -/
def d_is_within : Df := ⟨2, 2, [
  .ret (.cmp .is (.call ix_first_beyond [.var 0, .var 1]) (.cst (.non)))]⟩
/-- 32: first_unlike (0 one, 1 other, 2 start, 3 ring) -/
def d_first_unlike : Df := ⟨2, 4, [
  .set (.t [.v 2, .v 3]) (.call ix_need_both [.var 0, .var 1]),
  .ret (.call ix_first_bit [.bin .bxor (.call ix_bits_of [.var 0, .bin .add (.var 2) (.var 3)]) (.call ix_bits_of [.var 1, .bin .add (.var 2) (.var 3)])])]⟩
/-- 33: _law_box (0 script, 1 rest, 2 state, 3 k, 4 cell, 5 size) -/
def d__law_box : Df := ⟨1, 6, [
  .set (.t [.v 1, .v 2]) (.tup [.lst [], .cst (.int 40503)]),
  .for_ (.t [.v 3, .v 4]) .enum [.slc (.var 0) none (some (.cst (.int 63)))] [
    .set (.v 5) (.bin .add (.bin .mul (.blt .abs [.var 4]) (.cst (.int 2))) (.blt .int [.cmp .lt (.var 4) (.cst (.int 0))])),
    .ife (.cmp .ge (.blt .abs [.var 4]) (.bin .pow (.cst (.int 10)) (.cst (.int 18)))) [
      .ex (.mth .append (.var 1) [.blt .abs [.var 4]])] [],
    .set (.v 2) (.bin .add (.bin .mod (.blt .int [.bin .add (.bin .add (.bin .mul (.var 2) (.cst (.int 48271))) (.bin .mul (.bin .mod (.blt .int [.var 5]) (.cst (.int 2147483629))) (.bin .add (.bin .mul (.cst (.int 2)) (.var 3)) (.cst (.int 69621))))) (.cst (.int 11))]) (.cst (.int 2147483629))) (.cst (.int 1)))],
  .ret (.lst [.var 1, .var 2])]⟩
/-- 34: _law_take (0 box, 1 many, 2 cell) -/
def d__law_take : Df := ⟨2, 3, [
  .ife (.cmp .ne (.idx (.var 0) (.cst (.int 0))) (.lst [])) [
    .set (.v 2) (.idx (.idx (.var 0) (.cst (.int 0))) (.cst (.int 0))),
    .set (.sub (.var 0) (.cst (.int 0))) (.bin .add (.ite (.cmp .ge (.var 2) (.var 1)) (.lst [.bin .fdiv (.var 2) (.var 1)]) (.lst [])) (.slc (.idx (.var 0) (.cst (.int 0))) (some (.cst (.int 1))) none)),
    .ret (.bin .mod (.blt .int [.var 2]) (.var 1))] [],
  .set (.sub (.var 0) (.cst (.int 1))) (.bin .mod (.blt .int [.bin .mul (.idx (.var 0) (.cst (.int 1))) (.cst (.int 48271))]) (.cst (.int 2147483647))),
  .ret (.bin .mod (.blt .int [.bin .fdiv (.bin .add (.bin .mul (.idx (.var 0) (.cst (.int 1))) (.cst (.int 69621))) (.cst (.int 7))) (.cst (.int 1013))]) (.var 1))]⟩
/-- 35: _law_pick (0 box, 1 some) -/
def d__law_pick : Df := ⟨2, 2, [
  .ret (.idx (.var 1) (.call ix__law_take [.var 0, .blt .len [.var 1]]))]⟩
/-- 36: _law_mixed (0 box, 1 row, 2 left, 3 told, 4 turn, 5 at) -/
def d__law_mixed : Df := ⟨2, 6, [
  .set (.t [.v 2, .v 3]) (.tup [.blt .list [.var 1], .lst []]),
  .for_ (.v 4) .rng [.blt .len [.var 1]] [
    .set (.v 5) (.call ix__law_take [.var 0, .blt .len [.var 2]]),
    .ex (.mth .append (.var 3) [.idx (.var 2) (.var 5)]),
    .set (.v 2) (.bin .add (.slc (.var 2) none (some (.var 5))) (.slc (.var 2) (some (.bin .add (.var 5) (.cst (.int 1)))) none))],
  .ret (.var 3)]⟩
/-- 37: _law_is (0 told, 1 due, 2 one, 3 other) -/
def d__law_is : Df := ⟨2, 4, [
  .ife (.isi (.var 1) [.ty "tuple"]) [
    .ife (.or (.not (.isi (.var 0) [.ty "tuple"])) (.cmp .ne (.blt .len [.var 0]) (.blt .len [.var 1]))) [
      .ret (.cst (.bl false))] [],
    .ret (.cmp .eq (.lc (.cst (.int 1)) (.t [.v 2, .v 3]) .zip [.var 0, .var 1] [.not (.call ix__law_is [.var 2, .var 3])] [2, 3]) (.lst []))] [],
  .ife (.or (.cmp .is (.var 1) (.cst (.non))) (.or (.cmp .is (.var 1) (.cst (.bl true))) (.cmp .is (.var 1) (.cst (.bl false))))) [
    .ret (.ite (.cmp .is (.var 1) (.cst (.non))) (.cmp .is (.var 0) (.cst (.non))) (.ite (.cmp .is (.var 1) (.cst (.bl true))) (.cmp .is (.var 0) (.cst (.bl true))) (.cmp .is (.var 0) (.cst (.bl false)))))] [],
  .ife (.isi (.var 1) [.ty "int"]) [
    .ret (.and (.isi (.var 0) [.ty "int"]) (.and (.not (.isi (.var 0) [.ty "bool"])) (.cmp .eq (.var 0) (.var 1))))] [],
  .ret (.and (.isi (.var 1) [.ty "str"]) (.and (.isi (.var 0) [.ty "str"]) (.cmp .eq (.var 0) (.var 1))))]⟩
/-- 38: _law_all (0 ask, 1 some, 2 due, 3 one) -/
def d__law_all : Df := ⟨3, 4, [
  .for_ (.v 3) .one [.var 1] [
    .ife (.not (.call ix__law_is [.calL ix__law_error [.lam 0], .var 2])) [
      .ret (.cst (.bl false))] []],
  .ret (.cst (.bl true))]⟩
/-- 39: _law_due (0 calls, 1 due, 2 call) -/
def d__law_due : Df := ⟨2, 3, [
  .ret (.cmp .eq (.lc (.var 2) (.v 2) .one [.var 0] [.not (.call ix__law_is [.call ix__law_error [.var 2], .var 1])] [2]) (.lst []))]⟩
/-- 40: _law_some (0 box, 1 many, 2 share, 3 number) -/
def d__law_some : Df := ⟨3, 4, [
  .ret (.blt .tuple [.lc (.var 3) (.v 3) .rng [.var 1] [.cmp .lt (.call ix__law_take [.var 0, .cst (.int 10)]) (.var 2)] [3]])]⟩
/-- 41: _law_raw (0 box, 1 most, 2 rings, 3 start, 4 ring, 5 share) -/
def d__law_raw : Df := ⟨3, 6, [
  .set (.t [.v 3, .v 4]) (.tup [.call ix__law_take [.var 0, .bin .add (.var 1) (.cst (.int 1))], .call ix__law_pick [.var 0, .var 2]]),
  .set (.v 5) (.call ix__law_pick [.var 0, .lst [.cst (.int 0), .cst (.int 3), .cst (.int 5), .cst (.int 8), .cst (.int 10)]]),
  .ret (.tup [.call ix__law_some [.var 0, .var 3, .cst (.int 5)], .var 3, .var 4, .call ix__law_some [.var 0, .var 4, .var 5]])]⟩
/-- 42: _law_in (0 raw, 1 number) -/
def d__law_in : Df := ⟨2, 2, [
  .ife (.cmp .lt (.var 1) (.idx (.var 0) (.cst (.int 1)))) [
    .ret (.cmp .isIn (.var 1) (.idx (.var 0) (.cst (.int 0))))] [],
  .ret (.cmp .isIn (.bin .mod (.blt .int [.bin .sub (.var 1) (.idx (.var 0) (.cst (.int 1)))]) (.idx (.var 0) (.cst (.int 2)))) (.idx (.var 0) (.cst (.int 3))))]⟩
/-- 43: _law_normal (0 signs, 1 start, 2 ring, 3 far, 4 begin, 5 turn, 6 firsts, 7 step, 8 at) -/
def d__law_normal : Df := ⟨3, 9, [
  .set (.v 3) (.idx (.lc (.var 7) (.v 7) .rng [.cst (.int 1), .bin .add (.var 2) (.cst (.int 1))] [.and (.cmp .eq (.bin .mod (.var 2) (.var 7)) (.cst (.int 0))) (.cmp .eq (.lc (.var 8) (.v 8) .rng [.var 1, .bin .add (.var 1) (.var 2)] [.cmp .ne (.idx (.var 0) (.var 8)) (.idx (.var 0) (.bin .add (.var 8) (.var 7)))] [8]) (.lst []))] [7]) (.cst (.int 0))),
  .set (.v 4) (.var 1),
  .for_ (.v 5) .rng [.var 1] [
    .ife (.and (.cmp .gt (.var 4) (.cst (.int 0))) (.cmp .eq (.idx (.var 0) (.bin .sub (.var 4) (.cst (.int 1)))) (.idx (.var 0) (.bin .add (.bin .sub (.var 4) (.cst (.int 1))) (.var 3))))) [
      .set (.v 4) (.bin .sub (.var 4) (.cst (.int 1)))] []],
  .set (.v 6) (.blt .tuple [.lc (.var 8) (.v 8) .rng [.var 4] [.idx (.var 0) (.var 8)] [8]]),
  .ret (.tup [.var 6, .var 4, .var 3, .blt .tuple [.lc (.var 8) (.v 8) .rng [.var 3] [.idx (.var 0) (.bin .add (.var 4) (.var 8))] [8]]])]⟩
/-- 44: _law_lot (0 box, 1 raw) -/
def d__law_lot : Df := ⟨2, 2, [
  .ret (.mk cx_Numbers [.call ix__law_mixed [.var 0, .idx (.var 1) (.cst (.int 0))], .idx (.var 1) (.cst (.int 1)), .idx (.var 1) (.cst (.int 2)), .blt .tuple [.call ix__law_mixed [.var 0, .idx (.var 1) (.cst (.int 3))]]])]⟩
/-- 45: _law_four (0 lot) -/
def d__law_four : Df := ⟨1, 1, [
  .ife (.not (.isi (.var 0) [.cls cx_Numbers])) [
    .ret (.cst (.non))] [],
  .ret (.tup [.att (.var 0) (sOf "firsts"), .att (.var 0) (sOf "start"), .att (.var 0) (sOf "ring"), .att (.var 0) (sOf "rests")])]⟩
/-- 46: _law_error (0 call, 1 e) -/
def d__law_error : Df := ⟨1, 2, [
  .tri [
    .ex (.cv (.var 0) [])] [(.exc xx_InvalidNumbers, 1, .tup [.cst (.str (sOf "numbers")), .att (.var 1) (sOf "at")]), (.exc xx_InvalidSize, 1, .tup [.cst (.str (sOf "size")), .att (.var 1) (sOf "word")])],
  .ret (.tup [.cst (.str (sOf "told"))])]⟩
/-- 47: _law_both_rings (0 one, 1 other, 2 many) -/
def d__law_both_rings : Df := ⟨2, 3, [
  .set (.v 2) (.var 0),
  .whl (.cmp .ne (.bin .mod (.var 2) (.var 1)) (.cst (.int 0))) [
    .set (.v 2) (.bin .add (.var 2) (.var 0))],
  .ret (.var 2)]⟩
/-- 48: _law_together (0 one, 1 other, 2 way, 3 start, 4 ring, 5 signs, 6 number, 7 first, 8 second) -/
def d__law_together : Df := ⟨3, 9, [
  .set (.t [.v 3, .v 4]) (.tup [.blt .max [.idx (.var 0) (.cst (.int 1)), .idx (.var 1) (.cst (.int 1))], .call ix__law_both_rings [.idx (.var 0) (.cst (.int 2)), .idx (.var 1) (.cst (.int 2))]]),
  .set (.v 5) (.lst []),
  .for_ (.v 6) .rng [.bin .add (.var 3) (.bin .mul (.cst (.int 2)) (.var 4))] [
    .set (.t [.v 7, .v 8]) (.tup [.call ix__law_in [.var 0, .var 6], .call ix__law_in [.var 1, .var 6]]),
    .ex (.mth .append (.var 5) [.idx (.tup [.and (.var 7) (.var 8), .or (.var 7) (.var 8), .and (.var 7) (.not (.var 8))]) (.var 2)])],
  .ret (.call ix__law_normal [.var 5, .var 3, .var 4])]⟩
/-- 49: law (0 script, 1 box, 2 turn, 3 first, 4 second, 5 great, 6 ask, 7 raws, 8 one, 9 two, 10 three, 11 dues, 12 told, 13 due, 14 alone, 15 unlike, 16 spot, 17 raw, 18 way, 19 number, 20 bad) -/
def d_law : Df := ⟨1, 21, [
  .set (.v 1) (.call ix__law_box [.var 0]),
  .for_ (.v 2) .rng [.cst (.int 4)] [
    .set (.v 7) (.lc (.call ix__law_raw [.var 1, .cst (.int 7), .lst [.cst (.int 1), .cst (.int 2), .cst (.int 3), .cst (.int 4), .cst (.int 5), .cst (.int 6), .cst (.int 10)]]) (.v 6) .rng [.cst (.int 3)] [] [6]),
    .set (.t [.v 8, .v 9, .v 10]) (.lc (.call ix__law_lot [.var 1, .var 17]) (.v 17) .one [.var 7] [] [17]),
    .set (.v 11) (.lc (.call ix__law_together [.idx (.var 7) (.cst (.int 0)), .idx (.var 7) (.cst (.int 1)), .var 18]) (.v 18) .rng [.cst (.int 3)] [] [18]),
    .for_ (.t [.v 12, .v 13]) .zip [.lst [.call ix_both [.var 8, .var 9], .call ix_either [.var 8, .var 9], .call ix_less [.var 8, .var 9]], .var 11] [
      .ife (.not (.call ix__law_is [.call ix__law_four [.var 12], .var 13])) [
        .ret (.cst (.bl false))] []],
    .set (.v 14) (.lc (.var 19) (.v 19) .rng [.cst (.int 120)] [.and (.call ix__law_in [.idx (.var 7) (.cst (.int 0)), .var 19]) (.not (.call ix__law_in [.idx (.var 7) (.cst (.int 1)), .var 19]))] [19]),
    .set (.v 15) (.lc (.var 19) (.v 19) .rng [.cst (.int 120)] [.cmp .ne (.call ix__law_in [.idx (.var 7) (.cst (.int 0)), .var 19]) (.call ix__law_in [.idx (.var 7) (.cst (.int 1)), .var 19])] [19]),
    .ife (.or (.not (.call ix__law_is [.call ix_first_beyond [.var 8, .var 9], .ite (.cmp .ne (.var 14) (.lst [])) (.idx (.var 14) (.cst (.int 0))) (.cst (.non))])) (.not (.call ix__law_is [.call ix_is_within [.var 8, .var 9], .cmp .eq (.var 14) (.lst [])]))) [
      .ret (.cst (.bl false))] [],
    .ife (.or (.not (.call ix__law_is [.call ix_first_unlike [.var 8, .var 9], .ite (.cmp .ne (.var 15) (.lst [])) (.idx (.var 15) (.cst (.int 0))) (.cst (.non))])) (.not (.call ix__law_is [.cmp .eq (.var 8) (.var 9), .cmp .eq (.var 15) (.lst [])]))) [
      .ret (.cst (.bl false))] [],
    .ife (.or (.cmp .isNot (.cmp .eq (.call ix_less [.var 8, .call ix_less [.var 8, .var 9]]) (.call ix_both [.var 8, .var 9])) (.cst (.bl true))) (.cmp .isNot (.cmp .eq (.call ix_others [.call ix_others [.var 8]]) (.var 8)) (.cst (.bl true)))) [
      .ret (.cst (.bl false))] [],
    .ife (.or (.cmp .isNot (.cmp .eq (.call ix_others [.call ix_either [.var 8, .var 9]]) (.call ix_both [.call ix_others [.var 8], .call ix_others [.var 9]])) (.cst (.bl true))) (.cmp .isNot (.cmp .eq (.call ix_less [.var 8, .var 9]) (.call ix_both [.var 8, .call ix_others [.var 9]])) (.cst (.bl true)))) [
      .ret (.cst (.bl false))] [],
    .ife (.cmp .isNot (.cmp .eq (.call ix_both [.var 8, .call ix_either [.var 9, .var 10]]) (.call ix_either [.call ix_both [.var 8, .var 9], .call ix_both [.var 8, .var 10]])) (.cst (.bl true))) [
      .ret (.cst (.bl false))] [],
    .ife (.or (.not (.call ix_is_within [.call ix_both [.var 8, .var 9], .var 8])) (.or (.not (.call ix_is_within [.var 8, .call ix_either [.var 8, .var 9]])) (.cmp .ne (.call ix_is_within [.var 8, .var 9]) (.cmp .eq (.call ix_both [.var 8, .var 9]) (.var 8))))) [
      .ret (.cst (.bl false))] [],
    .set (.v 16) (.call ix__law_take [.var 1, .cst (.int 40)]),
    .ife (.not (.call ix__law_is [.call ix_has [.call ix_others [.var 8], .var 16], .not (.call ix__law_in [.idx (.var 7) (.cst (.int 0)), .var 16])])) [
      .ret (.cst (.bl false))] []],
  .set (.t [.v 3, .v 4]) (.tup [.call ix__law_pick [.var 1, .lst [.cst (.int 60), .cst (.int 58), .cst (.int 57), .cst (.int 55)]], .call ix__law_pick [.var 1, .lst [.cst (.int 59), .cst (.int 53), .cst (.int 49)]]]),
  .set (.v 5) (.call ix_either [.mk cx_Numbers [.lst [], .cst (.int 0), .var 3, .lst [.cst (.int 0)]], .mk cx_Numbers [.lst [], .cst (.int 0), .var 4, .lst [.cst (.int 0)]]]),
  .ife (.or (.not (.call ix__law_is [.att (.var 5) (sOf "ring"), .bin .mul (.var 3) (.var 4)])) (.or (.not (.call ix__law_is [.call ix_has [.var 5, .bin .mul (.var 3) (.var 4)], .cst (.bl true)])) (.not (.call ix__law_is [.att (.var 5) (sOf "start"), .cst (.int 0)])))) [
    .ret (.cst (.bl false))] [],
  .ife (.cmp .ne (.blt .len [.att (.var 5) (sOf "rests")]) (.bin .sub (.bin .add (.var 3) (.var 4)) (.cst (.int 1)))) [
    .ret (.cst (.bl false))] [],
  .for_ (.v 6) .one [.lst [.cst (.fn ix_both), .cst (.fn ix_either), .cst (.fn ix_less), .cst (.fn ix_is_within), .cst (.fn ix_first_beyond), .cst (.fn ix_first_unlike)]] [
    .ife (.not (.calL ix__law_due [.lst [.lam 4], .tup [.cst (.str (sOf "size")), .cst (.str (sOf "ring"))]])) [
      .ret (.cst (.bl false))] [],
    .ife (.not (.calL ix__law_all [.lam 2, .lst [.cst (.non), .cst (.int 3), .idx (.var 7) (.cst (.int 0))], .tup [.cst (.str (sOf "numbers")), .cst (.int 0)]])) [
      .ret (.cst (.bl false))] [],
    .ife (.not (.calL ix__law_all [.lam 3, .lst [.cst (.non), .cst (.int 3), .idx (.var 7) (.cst (.int 0))], .tup [.cst (.str (sOf "numbers")), .cst (.int 1)]])) [
      .ret (.cst (.bl false))] []],
  .ife (.or (.cmp .isNot (.cmp .eq (.call ix_both [.var 5, .var 5]) (.var 5)) (.cst (.bl true))) (.not (.call ix__law_is [.call ix_first_beyond [.var 5, .mk cx_Numbers [.lst [], .cst (.int 0), .var 3, .lst [.cst (.int 0)]]], .var 4]))) [
    .ret (.cst (.bl false))] [],
  .ret (.calL ix__law_due [.lst [.lam 1], .tup [.cst (.str (sOf "numbers")), .neg (.cst (.int 1))]])]⟩
def lams : List Lam := [⟨0, [], .cv (.var 0) [.var 3], [0, 3]⟩,
  ⟨0, [], .call ix_others [.cst (.non)], []⟩,
  ⟨1, [20], .cv (.var 6) [.var 20, .cst (.non)], [6]⟩,
  ⟨1, [20], .cv (.var 6) [.var 8, .var 20], [6, 8]⟩,
  ⟨0, [], .cv (.var 6) [.var 5, .mk cx_Numbers [.lst [], .cst (.int 0), .ite (.cmp .ne (.var 3) (.cst (.int 55))) (.cst (.int 11)) (.cst (.int 13)), .lst [.cst (.int 0)]]], [3, 5, 6]⟩]
-- order [0, 4, 2, 3, 1]; defs with lambdas [38, 49]; true

def clss : List Ms.Cls := ([⟨ix_Numbers_init, [sOf "firsts", sOf "start", sOf "ring", sOf "rests"], some ix_Numbers_eq, []⟩] : List Ms.Cls)
def excs : List Exc := ([⟨[.ty "Exception", .ty "BaseException", .ty "object"], none, 0⟩, ⟨[.exc xx_LearnError, .ty "Exception", .ty "BaseException", .ty "object"], (some (sOf "at")), 0⟩, ⟨[.exc xx_LearnError, .ty "Exception", .ty "BaseException", .ty "object"], (some (sOf "at")), 0⟩, ⟨[.exc xx_LearnError, .ty "Exception", .ty "BaseException", .ty "object"], (some (sOf "word")), 1⟩] : List Exc)
def dfs : List Df := ([d_is_integer, d_is_number, d_is_below, d_is_between, d_is_sequence, d_are_unlike_below, d_gcd_of, d_lcm_of] : List Df) ++
  ([d_Numbers_init, d_Numbers_eq, d_key_of, d_least_ring, d_normal, d_made_numbers, d_need_numbers, d_places_of] : List Df) ++
  ([d_from_bits, d_holds, d_bits_of, d_first_bit, d_has, d_common_of, d_need_both, d_both_told] : List Df) ++
  ([d_less_told, d_either_told, d_both, d_either, d_less, d_others, d_first_beyond, d_is_within] : List Df) ++
  ([d_first_unlike, d__law_box, d__law_take, d__law_pick, d__law_mixed, d__law_is, d__law_all, d__law_due] : List Df) ++
  ([d__law_some, d__law_raw, d__law_in, d__law_normal, d__law_lot, d__law_four, d__law_error, d__law_both_rings] : List Df) ++
  ([d__law_together, d_law] : List Df)
def prog : Prog := ⟨dfs, clss, excs, lams⟩
@[simp] theorem at_is_integer : prog.defs[ix_is_integer]? = some d_is_integer := rfl
@[simp] theorem at_is_number : prog.defs[ix_is_number]? = some d_is_number := rfl
@[simp] theorem at_is_below : prog.defs[ix_is_below]? = some d_is_below := rfl
@[simp] theorem at_is_between : prog.defs[ix_is_between]? = some d_is_between := rfl
@[simp] theorem at_is_sequence : prog.defs[ix_is_sequence]? = some d_is_sequence := rfl
@[simp] theorem at_are_unlike_below : prog.defs[ix_are_unlike_below]? = some d_are_unlike_below := rfl
@[simp] theorem at_gcd_of : prog.defs[ix_gcd_of]? = some d_gcd_of := rfl
@[simp] theorem at_lcm_of : prog.defs[ix_lcm_of]? = some d_lcm_of := rfl
@[simp] theorem at_Numbers_init : prog.defs[ix_Numbers_init]? = some d_Numbers_init := rfl
@[simp] theorem at_Numbers_eq : prog.defs[ix_Numbers_eq]? = some d_Numbers_eq := rfl
@[simp] theorem at_key_of : prog.defs[ix_key_of]? = some d_key_of := rfl
@[simp] theorem at_least_ring : prog.defs[ix_least_ring]? = some d_least_ring := rfl
@[simp] theorem at_normal : prog.defs[ix_normal]? = some d_normal := rfl
@[simp] theorem at_made_numbers : prog.defs[ix_made_numbers]? = some d_made_numbers := rfl
@[simp] theorem at_need_numbers : prog.defs[ix_need_numbers]? = some d_need_numbers := rfl
@[simp] theorem at_places_of : prog.defs[ix_places_of]? = some d_places_of := rfl
@[simp] theorem at_from_bits : prog.defs[ix_from_bits]? = some d_from_bits := rfl
@[simp] theorem at_holds : prog.defs[ix_holds]? = some d_holds := rfl
@[simp] theorem at_bits_of : prog.defs[ix_bits_of]? = some d_bits_of := rfl
@[simp] theorem at_first_bit : prog.defs[ix_first_bit]? = some d_first_bit := rfl
@[simp] theorem at_has : prog.defs[ix_has]? = some d_has := rfl
@[simp] theorem at_common_of : prog.defs[ix_common_of]? = some d_common_of := rfl
@[simp] theorem at_need_both : prog.defs[ix_need_both]? = some d_need_both := rfl
@[simp] theorem at_both_told : prog.defs[ix_both_told]? = some d_both_told := rfl
@[simp] theorem at_less_told : prog.defs[ix_less_told]? = some d_less_told := rfl
@[simp] theorem at_either_told : prog.defs[ix_either_told]? = some d_either_told := rfl
@[simp] theorem at_both : prog.defs[ix_both]? = some d_both := rfl
@[simp] theorem at_either : prog.defs[ix_either]? = some d_either := rfl
@[simp] theorem at_less : prog.defs[ix_less]? = some d_less := rfl
@[simp] theorem at_others : prog.defs[ix_others]? = some d_others := rfl
@[simp] theorem at_first_beyond : prog.defs[ix_first_beyond]? = some d_first_beyond := rfl
@[simp] theorem at_is_within : prog.defs[ix_is_within]? = some d_is_within := rfl
@[simp] theorem at_first_unlike : prog.defs[ix_first_unlike]? = some d_first_unlike := rfl
@[simp] theorem at__law_box : prog.defs[ix__law_box]? = some d__law_box := rfl
@[simp] theorem at__law_take : prog.defs[ix__law_take]? = some d__law_take := rfl
@[simp] theorem at__law_pick : prog.defs[ix__law_pick]? = some d__law_pick := rfl
@[simp] theorem at__law_mixed : prog.defs[ix__law_mixed]? = some d__law_mixed := rfl
@[simp] theorem at__law_is : prog.defs[ix__law_is]? = some d__law_is := rfl
@[simp] theorem at__law_all : prog.defs[ix__law_all]? = some d__law_all := rfl
@[simp] theorem at__law_due : prog.defs[ix__law_due]? = some d__law_due := rfl
@[simp] theorem at__law_some : prog.defs[ix__law_some]? = some d__law_some := rfl
@[simp] theorem at__law_raw : prog.defs[ix__law_raw]? = some d__law_raw := rfl
@[simp] theorem at__law_in : prog.defs[ix__law_in]? = some d__law_in := rfl
@[simp] theorem at__law_normal : prog.defs[ix__law_normal]? = some d__law_normal := rfl
@[simp] theorem at__law_lot : prog.defs[ix__law_lot]? = some d__law_lot := rfl
@[simp] theorem at__law_four : prog.defs[ix__law_four]? = some d__law_four := rfl
@[simp] theorem at__law_error : prog.defs[ix__law_error]? = some d__law_error := rfl
@[simp] theorem at__law_both_rings : prog.defs[ix__law_both_rings]? = some d__law_both_rings := rfl
@[simp] theorem at__law_together : prog.defs[ix__law_together]? = some d__law_together := rfl
@[simp] theorem at_law : prog.defs[ix_law]? = some d_law := rfl
@[simp] theorem cl_Numbers : prog.clss[cx_Numbers]? = some ⟨ix_Numbers_init, [sOf "firsts", sOf "start", sOf "ring", sOf "rests"], some ix_Numbers_eq, []⟩ := rfl
@[simp] theorem ex_LearnError : prog.excs[xx_LearnError]? = some ⟨[.ty "Exception", .ty "BaseException", .ty "object"], none, 0⟩ := rfl
@[simp] theorem ex_InvalidCount : prog.excs[xx_InvalidCount]? = some ⟨[.exc xx_LearnError, .ty "Exception", .ty "BaseException", .ty "object"], (some (sOf "at")), 0⟩ := rfl
@[simp] theorem ex_InvalidNumbers : prog.excs[xx_InvalidNumbers]? = some ⟨[.exc xx_LearnError, .ty "Exception", .ty "BaseException", .ty "object"], (some (sOf "at")), 0⟩ := rfl
@[simp] theorem ex_InvalidSize : prog.excs[xx_InvalidSize]? = some ⟨[.exc xx_LearnError, .ty "Exception", .ty "BaseException", .ty "object"], (some (sOf "word")), 1⟩ := rfl
end K03

-- N03
set_option linter.all false
set_option Elab.async false
set_option maxRecDepth 10000
namespace K03
open Ms
open PySem (Str PyData)
def isInt : D → Bool
  | .int _ => true
  | _ => false
def isSeq (m : Mem) : D → Bool
  | .tup _ => true
  | .ref p => match m[p]? with
    | some (.lst _) => true
    | some (.flst _) => true
    | _ => false
  | _ => false
section
variable {n : Nat} {fr : Fr} {m : Mem}
theorem is_integer_ok {v : D} (h : (tyv m v).isSome = true) : callN prog (n + 1) fr (.df ix_is_integer) [v] m = .ok (.bl (isInt v)) m := by
  rw [call_df at_is_integer rfl]
  simp only [d_is_integer, startE]
  cases v with
  | ref p =>
    cases hm : m[p]? with
    | none => simp [tyv, hm] at h
    | some o =>
      cases o with
      | dct t l =>
        cases t with
        | zero => simp [tyv, hm, isI, isAny, isTy, isInt]
        | succ t => simp [tyv, hm] at h
      | mark => simp [tyv, hm] at h
      | _ => simp [tyv, hm, isI, isAny, isTy, isInt]
  | _ => simp_all [tyv, isI, isAny, isTy, isInt]
theorem tyv_int (i : Int) : (tyv m (.int i)).isSome = true := rfl
theorem is_number_int {i : Int} : callN prog (n + 2) fr (.df ix_is_number) [.int i] m = .ok (.bl (decide (0 ≤ i))) m := by
  rw [call_df at_is_number rfl]
  simp [d_is_number, startE, is_integer_ok (tyv_int i), isInt]
theorem is_number_no {v : D} (h : (tyv m v).isSome = true) (hi : isInt v = false) : callN prog (n + 2) fr (.df ix_is_number) [v] m = .ok (.bl false) m := by
  rw [call_df at_is_number rfl]
  simp [d_is_number, startE, is_integer_ok h, hi]
def belowD (k : Int) : D → Bool
  | .int i => decide (0 ≤ i ∧ i < k)
  | _ => false
def betwD (a b : Int) : D → Bool
  | .int i => decide (a ≤ i ∧ i ≤ b)
  | _ => false
theorem is_below_ok {v : D} {k : Int} (h : (tyv m v).isSome = true) : callN prog (n + 2) fr (.df ix_is_below) [v, .int k] m = .ok (.bl (belowD k v)) m := by
  rw [call_df at_is_below rfl]
  cases v with
  | int i =>
    simp [d_is_below, startE, is_integer_ok h, isInt, belowD]
    by_cases h1 : 0 ≤ i <;> simp [h1]
  | _ => simp [d_is_below, startE, is_integer_ok h, isInt, belowD]
theorem is_between_ok {v : D} {a b : Int} (h : (tyv m v).isSome = true) : callN prog (n + 2) fr (.df ix_is_between) [v, .int a, .int b] m = .ok (.bl (betwD a b v)) m := by
  rw [call_df at_is_between rfl]
  cases v with
  | int i =>
    simp [d_is_between, startE, is_integer_ok h, isInt, betwD]
    by_cases h1 : a ≤ i <;> simp [h1]
  | _ => simp [d_is_between, startE, is_integer_ok h, isInt, betwD]
theorem is_sequence_ok {v : D} (h : (tyv m v).isSome = true) : callN prog (n + 1) fr (.df ix_is_sequence) [v] m = .ok (.bl (isSeq m v)) m := by
  rw [call_df at_is_sequence rfl]
  simp only [d_is_sequence, startE]
  cases v with
  | ref p =>
    cases hm : m[p]? with
    | none => simp [tyv, hm] at h
    | some o =>
      cases o with
      | dct t l =>
        cases t with
        | zero => simp [tyv, hm, isI, isAny, isTy, isSeq]
        | succ t => simp [tyv, hm] at h
      | mark => simp [tyv, hm] at h
      | _ => simp [tyv, hm, isI, isAny, isTy, isSeq]
  | _ => simp_all [tyv, isI, isAny, isTy, isSeq]
/-- a sequence that may be walked -/
def SeqM (m : Mem) (v : D) (ds : List D) : Prop := v = .tup ds ∨ ∃ p, v = .ref p ∧ m[p]? = some (.lst ds)
theorem SeqM.kp {m' : Mem} {v : D} {ds : List D} (h : SeqM m v ds) (k : Kp [] m m') : SeqM m' v ds := by
  rcases h with h | ⟨p, h1, h2⟩
  · exact .inl h
  · exact .inr ⟨p, h1, k.get0 h2⟩
theorem SeqM.ty {v : D} {ds : List D} (h : SeqM m v ds) : (tyv m v).isSome = true ∧ isSeq m v = true := by
  rcases h with rfl | ⟨p, rfl, h2⟩
  · exact ⟨rfl, rfl⟩
  · simp [tyv, isSeq, h2]
theorem SeqM.src {v : D} {ds : List D} (h : SeqM m v ds) : ∃ s, Ms.src fr m .one [v] = some (s, ds.length) ∧ Wk s ds.length ds m := by
  rcases h with rfl | ⟨p, rfl, h2⟩
  · exact ⟨_, rfl, wk_fix ds⟩
  · exact ⟨.live p, by simp [Ms.src, h2], wk_live h2⟩
theorem SeqM.lock {v : D} {ds : List D} {j : Nat} {ρ : Env} (h : SeqM m v ds) (hj : ρ[j]? = some (some v)) : fr.lock (lockV fr m .one [.var j] ρ) = fr := by
  have : lockV fr m .one [.var j] ρ = none := by
    rcases h with rfl | ⟨p, rfl, h2⟩
    · simp [lockV, hj]
    · simp [lockV, hj, h2]
  rw [this]
  rfl
theorem SeqM.len {v : D} {ds : List D} (h : SeqM m v ds) : bltin .len [v] m = .ok (.int ds.length) m := by
  rcases h with rfl | ⟨p, rfl, h2⟩
  · rfl
  · simp [bltin, h2]
def intsD (ds : List D) : List Int := ds.filterMap fun | .int i => some i | _ => none
/-- no sequence -/
theorem unlike_no {v : D} {k : Int} (h : (tyv m v).isSome = true) (hs : isSeq m v = false) : callN prog (n + 2) fr (.df ix_are_unlike_below) [v, .int k] m = .ok (.bl false) m := by
  rw [call_df at_are_unlike_below rfl]
  simp [d_are_unlike_below, startE, is_sequence_ok h, hs]
theorem unlike_ok {v : D} {k : Int} {ds : List D} (h : SeqM m v ds) (hl : ds.length ≤ lim) (ht : ∀ d ∈ ds, ∀ m', Kp [] m m' → (tyv m' d).isSome = true) :
    ∃ m', callN prog (n + 3) fr (.df ix_are_unlike_below) [v, .int k] m = .ok (.bl (ds.all (belowD k) && decide (intsD ds).Nodup)) m' ∧ Kp [] m m' := by
  rw [call_df at_are_unlike_below rfl]
  obtain ⟨s, hs, hw⟩ := h.src (fr := fr)
  obtain ⟨p, m1, e1, h1, k1, _⟩ := lc_map (fr := fr) (P := prog) (C := callN prog (n + 2)) (x := .call ix_is_below [.var 2, .var 1]) (g := .v 2) (k := .one) (l := [.var 0]) (own := [2]) (ρ := [some v, some (.int k), none]) (ys := ds) (fy := id) (fun d => .bl (belowD k d))
    (h.lock rfl) (by simp) .refl hs (by simpa using hw) hl (fun d hd m' k1 => ⟨[some v, some (.int k), some d], m', by simp [wipeE, bindT], by simp [is_below_ok (ht d hd m' k1)], .refl⟩)
  rw [show ds.map (fun d => D.bl (belowD k d)) = (ds.map (belowD k)).map D.bl from by rw [List.map_map]; rfl] at h1
  have e3 : bltin .all [.ref p] m1 = .ok (.bl (ds.all (belowD k))) m1 := by
    simp only [bltin, boolsIn, h1, bools_map]
    simp [List.all_map, -List.all_eq_true]
  simp only [d_are_unlike_below, startE]
  generalize hb : ds.all (belowD k) = b at e3 ⊢
  simp [is_sequence_ok h.ty.1, h.ty.2, e1, e3]
  cases b with
  | false => exact ⟨m1, by simp, k1⟩
  | true =>
    have hall := List.all_eq_true.mp hb
    have hi : ∀ d ∈ ds, ∃ i, d = .int i := fun d hd => by
      have := hall d hd
      cases d <;> simp [belowD] at this
      exact ⟨_, rfl⟩
    have e4 : ds = (intsD ds).map D.int := by
      clear hb hall e3 e1 h1 hw hs h hl ht
      induction ds with
      | nil => rfl
      | cons a l ih =>
        obtain ⟨i, rfl⟩ := hi _ List.mem_cons_self
        have := ih fun d hd => hi d (List.mem_cons_of_mem _ hd)
        simp only [intsD, List.filterMap_cons, List.map_cons] at this ⊢
        rw [← this]
    have h' := h.kp k1
    obtain ⟨s2, hs2, hw2⟩ := h'.src (fr := fr)
    obtain ⟨q, m2, e5, h5, k5, _⟩ := dc_true (fr := fr) (P := prog) (C := callN prog (n + 2)) (x := .var 2) (g := .v 2) (k := .one) (l := [.var 0]) (own := [2]) (ρ := [some v, some (.int k), none]) (m := m1) (ys := intsD ds) (fy := D.int) (hy := id)
      (h'.lock rfl) (by simp) .refl hs2 (by rw [← e4]; exact hw2) hl (fun i hi m' k1 => ⟨[some v, some (.int k), some (.int i)], m', by simp [wipeE, bindT], by simp, .refl⟩)
    have h'' := h'.kp k5
    rw [List.map_id] at h5
    have e6 : bltin .len [.ref q] m2 = .ok (.int (ded (intsD ds)).length) m2 := by
      simp only [bltin, h5, prs_len]
    have e7 : ds.length = (intsD ds).length := by
      conv => lhs; rw [e4]
      rw [List.length_map]
    refine ⟨m2, ?_, k1.trans k5⟩
    have e8 : ((ded (intsD ds)).length = (intsD ds).length) ↔ (intsD ds).Nodup := ded_len_iff _
    simp [e5, e6, h''.len]
    rw [e7]
    by_cases hn : (intsD ds).Nodup
    · simp [hn, e8.mpr hn]
    · have : ¬ (ded (intsD ds)).length = (intsD ds).length := fun z => hn (e8.mp z)
      simp [hn]
      omega
theorem least_ring_ok {v : D} {L : List Int} {r : Nat} (h : SeqM m v (L.map .int)) (hl : L.length ≤ lim) (hr : 1 ≤ r) (hr2 : r ≤ 1000000) (hL : ∀ l ∈ L, 0 ≤ l ∧ l < (r : Int)) {d : Nat} (hd : ((List.range r).map (· + 1)).find? (lrB L r) = some d) :
    ∃ p m', callN prog (n + 1) fr (.df ix_least_ring) [.int r, v] m = .ok (.tup [.int d, .ref p]) m' ∧ m'[p]? = some (.dct 0 (prs (ded (L.map (· % (d : Int)))))) ∧ Kp [] m m' := by
  rw [call_df at_least_ring rfl]
  simp only [d_least_ring, startE, List.map_cons, List.map_nil, List.length_cons, List.length_nil, List.cons_append, List.nil_append]
  simp only [List.replicate]
  obtain ⟨s, hs, hw⟩ := h.src (fr := fr)
  rw [List.length_map] at hs hw
  obtain ⟨p0, m1, e1, h1, k1, _⟩ := dc_true (fr := fr) (P := prog) (C := callN prog n) (x := .var 4) (g := .v 4) (k := .one) (l := [.var 1]) (own := [4]) (ρ := [some (.int r), some v, none, none, none]) (ys := L) (fy := D.int) (hy := id)
    (h.lock rfl) (by simp) .refl hs hw hl (fun i hi m' k1 => ⟨[some (.int r), some v, none, none, some (.int i)], m', by simp [wipeE, bindT], by simp, .refl⟩)
  rw [List.map_id] at h1
  simp only [xs_cons, x_set, e1, to_ok, st_v]
  simp only [List.length_cons, List.length_nil, Nat.reduceAdd, Nat.reduceLT, if_true, seq_nx, List.set]
  have h' := h.kp k1
  suffices q : ∃ p m', exe prog (callN prog n) fr (.for_ (.v 3) .rng [.cst (.int 1), .bin .add (.var 0) (.cst (.int 1))] [
    .ife (.and (.cmp .eq (.bin .mod (.var 0) (.var 3)) (.cst (.int 0))) (.blt .all [.lc (.cmp .isIn (.bin .mod (.bin .add (.var 4) (.var 3)) (.var 0)) (.var 2)) (.v 4) .one [.var 1] [] [4]])) [
      .ret (.tup [.var 3, .dc 0 (.bin .mod (.var 4) (.var 3)) (.cst (.bl true)) (.v 4) .one [.var 1] [] [4]])] []]) [some (.int r), some v, some (.ref p0), none, none] m1 = .rt (.tup [.int d, .ref p]) m' ∧ m'[p]? = some (.dct 0 (prs (ded (L.map (· % (d : Int)))))) ∧ Kp [] m1 m' by
    obtain ⟨p, m', e, h2, k2⟩ := q
    exact ⟨p, m', by simp [e], h2, k1.trans k2⟩
  obtain ⟨hd1, as, bs, hd2, hd3⟩ := List.find?_eq_some_iff_append.mp hd
  have hdm : d ∈ (List.range r).map (· + 1) := by rw [hd2]; simp
  obtain ⟨d0, hd0, rfl⟩ := List.mem_map.mp hdm
  rw [List.mem_range] at hd0
  have hb : ∀ j, j < d0 → lrB L r (j + 1) = false := fun j hj => by
    have hin : j + 1 ∈ (List.range r).map (· + 1) := List.mem_map.mpr ⟨j, List.mem_range.mpr (by omega), rfl⟩
    have asc : ((List.range r).map (· + 1)).Pairwise (· < ·) := by
      rw [List.pairwise_map]
      exact List.pairwise_lt_range.imp fun h => by omega
    rw [hd2] at hin asc
    rcases List.mem_append.mp hin with z | z
    · simpa using hd3 _ z
    · exfalso
      have q := (List.pairwise_append.mp asc).2.1
      rw [List.pairwise_cons] at q
      rcases List.mem_cons.mp z with z | z
      · omega
      · have := q.1 _ z
        omega
  refine for_run (I := fun i ρ m' => Kp [] m1 m' ∧ i ≤ d0 ∧ ∃ x, ρ = [some (.int r), some v, some (.ref p0), x, none]) (xs := (List.range r).map fun i : Nat => .int (1 + i)) (n := r) (s := .fix (rngL 1 (1 + r)))
    (Q := fun x => ∃ p m', x = .rt (.tup [.int (d0 + 1 : Nat), .ref p]) m' ∧ m'[p]? = some (.dct 0 (prs (ded (L.map (· % ((d0 + 1 : Nat) : Int)))))) ∧ Kp [] m1 m') rfl (by simp; rfl) ?_ (by simp) (fun i ρ m' _ hI => (wk_rng 1 r).2 m' .refl) ⟨.refl, Nat.zero_le _, none, rfl⟩ ?_ ?_
  · rw [src_rng2 (small_of (by omega) (by omega)) (small_of (by omega) (by omega))]
    rw [show ((r : Int) + 1 - 1).toNat = r by omega, Int.add_comm]
  · rintro i dd ρ m' hi ⟨k2, hid, x, rfl⟩
    rw [List.getElem?_map] at hi
    have hir : i < r := by
      cases e : (List.range r)[i]? with
      | none => rw [e] at hi; cases hi
      | some j =>
        have := (List.getElem?_eq_some_iff.mp e).1
        simpa using this
    rw [List.getElem?_range hir] at hi
    cases hi
    refine ⟨[some (.int r), some v, some (.ref p0), some (.int (1 + i)), none], by simp [bindT], ?_⟩
    have h2 := h'.kp k2
    have hp0 := k2.get0 h1
    by_cases hm : r % (i + 1) = 0
    · -- the ring fits
      have hm' : (r : Int) % (1 + i) = 0 := by
        have : ((r % (i + 1) : Nat) : Int) = 0 := by rw [hm]; rfl
        rw [Int.natCast_emod] at this
        push_cast at this
        rw [Int.add_comm] at this
        exact this
      obtain ⟨s2, hs2, hw2⟩ := h2.src (fr := fr)
      rw [List.length_map] at hs2 hw2
      obtain ⟨q, m2, e2, h3, k3, _⟩ := lc_map (fr := fr) (P := prog) (C := callN prog n) (x := .cmp .isIn (.bin .mod (.bin .add (.var 4) (.var 3)) (.var 0)) (.var 2)) (g := .v 4) (k := .one) (l := [.var 1]) (own := [4]) (ρ := [some (.int r), some v, some (.ref p0), some (.int (1 + i)), none]) (m := m') (ys := L) (fy := D.int) (fun l => .bl (decide ((l + (1 + i)) % (r : Int) ∈ ded L)))
        (h2.lock rfl) (by simp) .refl hs2 hw2 hl (fun l hl' m3 k4 => ⟨[some (.int r), some v, some (.ref p0), some (.int (1 + i)), some (.int l)], m3, by simp [wipeE, bindT], by
          have : 0 < r := by omega
          simp [this, c_in_prs (k4.get0 hp0)], .refl⟩)
      rw [show L.map (fun l => D.bl (decide ((l + (1 + i)) % (r : Int) ∈ ded L))) = (L.map fun l => decide ((l + (1 + i)) % (r : Int) ∈ ded L)).map D.bl from by rw [List.map_map]; rfl] at h3
      have e3 := bl_all h3
      have e4 : (L.map fun l => decide ((l + (1 + (i : Int))) % (r : Int) ∈ ded L)).all id = lrB L r (i + 1) := by
        unfold lrB
        rw [hm, List.all_map]
        simp only [beq_self_eq_true, Bool.true_and]
        congr 1
        funext l
        simp only [Function.comp, id, mem_ded]
        congr 3
        push_cast
        omega
      rw [e4] at e3
      have hpos : (0 : Int) < 1 + i := by omega
      by_cases hlr : lrB L r (i + 1) = true
      · -- this one
        have hi0 : i = d0 := by
          rcases Nat.lt_or_ge i d0 with z | z
          · rw [hb i z] at hlr; cases hlr
          · omega
        subst hi0
        have h5 := h2.kp k3
        obtain ⟨s3, hs3, hw3⟩ := h5.src (fr := fr)
        rw [List.length_map] at hs3 hw3
        obtain ⟨q2, m3, e5, h6, k5, _⟩ := dc_true (fr := fr) (P := prog) (C := callN prog n) (x := .bin .mod (.var 4) (.var 3)) (g := .v 4) (k := .one) (l := [.var 1]) (own := [4]) (ρ := [some (.int r), some v, some (.ref p0), some (.int (1 + i)), none]) (m := m2) (ys := L) (fy := D.int) (hy := fun l => l % (1 + (i : Int)))
          (h5.lock rfl) (by simp) .refl hs3 hw3 hl (fun l hl' m3 k4 => ⟨[some (.int r), some v, some (.ref p0), some (.int (1 + i)), some (.int l)], m3, by simp [wipeE, bindT], by simp [hpos], .refl⟩)
        refine .inr (.inl ⟨.tup [.int (1 + i), .ref q2], m3, ?_, q2, m3, ?_, ?_, (k2.trans k3).trans k5⟩)
        · simp [hpos, hm', e2, e3, hlr, e5]
        · rw [show ((i + 1 : Nat) : Int) = 1 + i by omega]
        · rw [h6, show ((i + 1 : Nat) : Int) = 1 + i by omega]
      · have hlr : lrB L r (i + 1) = false := by simpa using hlr
        refine .inl ⟨[some (.int r), some v, some (.ref p0), some (.int (1 + i)), none], m2, .inl ?_, k2.trans k3, ?_, _, rfl⟩
        · simp [hpos, hm', e2, e3, hlr]
        · by_cases z : i = d0
          · subst z
            rw [hd1] at hlr
            cases hlr
          · omega
    · have hm' : ¬ (r : Int) % (1 + i) = 0 := fun z => hm (by
        have : ((r % (i + 1) : Nat) : Int) = 0 := by
          rw [Int.natCast_emod]
          push_cast
          rw [Int.add_comm (i : Int) 1]
          exact z
        omega)
      have hpos : (0 : Int) < 1 + i := by omega
      refine .inl ⟨[some (.int r), some v, some (.ref p0), some (.int (1 + i)), none], m', .inl ?_, k2, ?_, _, rfl⟩
      · simp [hpos, hm']
      · by_cases z : i = d0
        · subst z
          unfold lrB at hd1
          rw [Bool.and_eq_true, beq_iff_eq] at hd1
          exact absurd hd1.1 hm
        · omega
  · rintro ρ m' ⟨_, hle, _⟩
    omega
/-- the four parts of a normal form -/
def nrmL (q : Nrm) : List D := [.tup (q.F.map .int), .int q.s, .int q.r, .tup (q.R.map .int)]
theorem normal_ok {vF vL : D} {F L : List Int} {s r : Nat} {b : Int → Bool} (hF : SeqM m vF (F.map .int)) (hLs : SeqM m vL (L.map .int)) (hFl : F.length ≤ lim) (hLl : L.length ≤ lim) (hs : s ≤ 100000) (hr : 1 ≤ r) (hr2 : r ≤ 1000000)
    (hFs : ∀ x ∈ F, 0 ≤ x ∧ x < (s : Int)) (hFn : F.Nodup) (hL : ∀ l ∈ L, 0 ≤ l ∧ l < (r : Int)) (b1 : ∀ x : Int, 0 ≤ x → x < s → b x = decide (x ∈ F)) (b2 : ∀ x : Int, (s : Int) ≤ x → b x = decide (x % r ∈ L)) :
    ∃ m', callN prog (n + 2) fr (.df ix_normal) [vF, .int s, .int r, vL] m = .ok (.tup (nrmL (nrm b s r))) m' ∧ Kp [] m m' := by
  rw [call_df at_normal rfl]
  simp only [d_normal, startE, List.map_cons, List.map_nil, List.length_cons, List.length_nil, List.cons_append, List.nil_append]
  simp only [List.replicate]
  -- the ring
  have per := per_of b2
  obtain ⟨f1, f2, f3, f4, f5⟩ := far_spec per hr
  have hfind : ((List.range r).map (· + 1)).find? (lrB L r) = some (far b s r) := by
    have e : ((List.range r).map (· + 1)).find? (lrB L r) = ((List.range r).map (· + 1)).find? (farB b s r) := by
      refine find_congr fun d hd => ?_
      obtain ⟨i, _, rfl⟩ := List.mem_map.mp hd
      exact lrB_eq b2 hL hr (by omega)
    rw [e]
    unfold far
    cases e2 : ((List.range r).map (· + 1)).find? (farB b s r) with
    | some d => rfl
    | none =>
      have := List.find?_eq_none.mp e2 r (List.mem_map.mpr ⟨r - 1, List.mem_range.mpr (by omega), by omega⟩)
      exact absurd ((farB_iff per hr hr).mpr ⟨Nat.mod_self r, per⟩) this
  have bM := by_far b2 hL hr f1 f3 f4
  generalize hd : far b s r = d at f1 f2 f3 f4 f5 hfind bM
  generalize hM : L.map (· % (d : Int)) = M at bM
  have hMd : ∀ l ∈ ded M, 0 ≤ l ∧ l < (d : Int) := fun l hl => by
    rw [mem_ded, ← hM] at hl
    obtain ⟨l0, _, rfl⟩ := List.mem_map.mp hl
    exact ⟨Int.emod_nonneg _ (by omega), Int.emod_lt_of_pos _ (by omega)⟩
  obtain ⟨p0, m1, e1, h1, k1⟩ := least_ring_ok (n := n) (fr := fr) hLs hLl hr hr2 hL hfind
  rw [hM] at h1
  have hF1 := hF.kp k1
  obtain ⟨s2, hs2, hw2⟩ := hF1.src (fr := fr)
  rw [List.length_map] at hs2 hw2
  obtain ⟨p1, m2, e2, h2, k2, _⟩ := dc_true (fr := fr) (P := prog) (C := callN prog (n + 1)) (x := .var 9) (g := .v 9) (k := .one) (l := [.var 0]) (own := [9]) (ρ := [some vF, some (.int s), some (.int r), some vL, some (.int d), some (.ref p0), none, none, none, none, none]) (ys := F) (fy := D.int) (hy := id)
    (hF1.lock rfl) (by simp) .refl hs2 hw2 hFl (fun i hi m' k1 => ⟨[some vF, some (.int s), some (.int r), some vL, some (.int d), some (.ref p0), none, none, none, some (.int i), none], m', by simp [wipeE, bindT], by simp, .refl⟩)
  rw [List.map_id, ded_nd hFn] at h2
  have h1' := k2.get0 h1
  -- the begin
  obtain ⟨g1, g2⟩ := pbeg_eq (b := b) (F := F) (M := M) (d := d) (s := s) b1 s (Nat.le_refl _) bM f1
  have gle : beg b d s ≤ s := beg_le s
  generalize hg : beg b d s = g at g1 g2 gle
  have q : ∃ m3, exe prog (callN prog (n + 1)) fr (.whl (.and (.cmp .gt (.var 7) (.cst (.int 0))) (.cmp .eq (.cmp .isIn (.bin .sub (.var 7) (.cst (.int 1))) (.var 6)) (.cmp .isIn (.bin .mod (.bin .sub (.var 7) (.cst (.int 1))) (.var 4)) (.var 5)))) [
    .aug 7 .sub (.cst (.int 1))]) [some vF, some (.int s), some (.int r), some vL, some (.int d), some (.ref p0), some (.ref p1), some (.int s), none, none, none] m2 = .nx [some vF, some (.int s), some (.int r), some vL, some (.int d), some (.ref p0), some (.ref p1), some (.int g), none, none, none] m3 ∧ m3 = m2 := by
    refine whl_run (I := fun k ρ m' => m' = m2 ∧ k ≤ s ∧ pbeg F M d k = g ∧ ρ = [some vF, some (.int s), some (.int r), some vL, some (.int d), some (.ref p0), some (.ref p1), some (.int k), none, none, none]) (k := s) (Q := fun x => ∃ m3, x = .nx _ m3 ∧ m3 = m2) (by unfold wfuel; omega) ⟨rfl, Nat.le_refl _, g1, rfl⟩ ?_
    rintro k ρ m' ⟨rfl, hk, hp, rfl⟩
    cases k with
    | zero =>
      have : g = 0 := hp.symm
      subst this
      exact .inl ⟨m', by simp, m', by simp, rfl⟩
    | succ k =>
      have hd0 : 0 < d := by omega
      have ek : ((k + 1 : Nat) : Int) - 1 = k := by omega
      unfold pbeg at hp
      by_cases hc : (decide ((k : Int) ∈ F) == decide ((k : Int) % d ∈ M)) = true
      · rw [if_pos hc] at hp
        refine .inr ⟨m', ?_, .inl ⟨_, m', k, .inl ?_, Nat.lt_succ_self k, rfl, by omega, hp, rfl⟩⟩
        · have hc := beq_iff_eq.mp hc
          have hz : (0 : Int) < ((k + 1 : Nat) : Int) := by omega
          simp only [e_and, e_cmp, e_var, e_cst, e_bin, List.getElem?_cons_succ, List.getElem?_cons_zero, Option.join_some, opt_some, rb_ok, cmpE_int, c_gt, tr_bl, hz, decide_true, if_true, b_sub, b_mod, Int.natCast_pos.mpr hd0, ek, c_in_prs h2, c_in_prs h1', mem_ded, cmpE_bool, c_eq, eqD_bl, Option.map_some, hc]
        · simp
      · rw [if_neg hc] at hp
        refine .inl ⟨m', ?_, m', by rw [← hp], rfl⟩
        have hc : ¬ (decide ((k : Int) ∈ F) = decide ((k : Int) % d ∈ M)) := fun z => hc (beq_iff_eq.mpr z)
        have hz : (0 : Int) < ((k + 1 : Nat) : Int) := by omega
        simp only [e_and, e_cmp, e_var, e_cst, e_bin, List.getElem?_cons_succ, List.getElem?_cons_zero, Option.join_some, opt_some, rb_ok, cmpE_int, c_gt, tr_bl, hz, decide_true, if_true, b_sub, b_mod, Int.natCast_pos.mpr hd0, ek, c_in_prs h2, c_in_prs h1', mem_ded, cmpE_bool, c_eq, eqD_bl, Option.map_some, hc, decide_false]
  obtain ⟨m3, e3, rfl⟩ := q
  -- the rests
  have hd0 : (0 : Int) < d := by omega
  obtain ⟨p2, m4, e4, h4, k4, _⟩ := lc_map (fr := fr) (P := prog) (C := callN prog (n + 1)) (x := .bin .mod (.bin .sub (.var 10) (.var 7)) (.var 4)) (g := .v 10) (k := .one) (l := [.var 5]) (own := [10]) (ρ := [some vF, some (.int s), some (.int r), some vL, some (.int d), some (.ref p0), some (.ref p1), some (.int g), none, none, none]) (ys := ded M) (fy := D.int) (fun l => .int ((l - g) % (d : Int)))
    rfl (by simp) .refl (dct_src h1' rfl) (by rw [prs_keys]; have := wk_fix (m := m3) ((ded M).map D.int); rw [List.length_map] at this; rw [prs_len]; exact this) (by rw [prs_len]; exact Nat.le_trans (ded_len M) (by rw [← hM, List.length_map]; exact hLl))
    (fun l hl m' k' => ⟨[some vF, some (.int s), some (.int r), some vL, some (.int d), some (.ref p0), some (.ref p1), some (.int g), none, none, some (.int l)], m', by simp [wipeE, bindT], by simp [Int.natCast_pos.mp hd0], .refl⟩)
  rw [show (ded M).map (fun l => D.int ((l - g) % (d : Int))) = ((ded M).map fun l => (l - g) % (d : Int)).map D.int from by rw [List.map_map]; rfl] at h4
  have e5 := bl_sorted h4
  rw [rests_eq (b := b) hMd f1 (fun x hx => by rw [g2 x hx]; congr 1; exact propext mem_ded.symm) (nd_ded M)] at e5
  -- the firsts
  have k5 : Kp [] m4 (m4 ++ [.lst ((upto d fun t => b (g + t)).map D.int)]) := .app _
  have h2' := (k4.trans k5).get0 h2
  obtain ⟨p3, m6, e6, h6, k6, _⟩ := lc_filter (fr := fr) (P := prog) (C := callN prog (n + 1)) (x := .var 9) (g := .v 9) (k := .one) (l := [.var 6]) (c := [.cmp .lt (.var 9) (.var 7)]) (own := [9]) (ρ := [some vF, some (.int s), some (.int r), some vL, some (.int d), some (.ref p0), some (.ref p1), some (.int g), some (.ref m4.length), none, none]) (ys := F) (fy := D.int) (fun f => decide (f < g)) D.int
    rfl (by simp) .refl (dct_src h2' rfl) (by rw [prs_keys]; have := wk_fix (m := m4 ++ [.lst ((upto d fun t => b (g + t)).map D.int)]) (F.map D.int); rw [List.length_map] at this; rw [prs_len]; exact this) (by rw [prs_len]; exact hFl)
    (fun l hl m' k' => ⟨[some vF, some (.int s), some (.int r), some vL, some (.int d), some (.ref p0), some (.ref p1), some (.int g), some (.ref m4.length), some (.int l), none], m', by simp [wipeE, bindT], by simp, .refl, fun _ => ⟨m', by simp, .refl⟩⟩)
  have e7 := bl_sorted h6
  rw [firsts_eq b1 hFs hFn gle] at e7
  have k7 : Kp [] m6 (m6 ++ [.lst ((upto g b).map D.int)]) := .app _
  have e8 := bl_tuple (at_new (m := m6) (.lst ((upto g b).map D.int)))
  have e9 := bl_tuple ((k6.trans k7).get0 (at_new (m := m4) (.lst ((upto d fun t => b (g + t)).map D.int))))
  refine ⟨m6 ++ [.lst ((upto g b).map D.int)], ?_, ((((k1.trans k2).trans k4).trans k5).trans k6).trans k7⟩
  simp [e1, e2, e3, e4, e5, e6, e7, e8, e9, nrmL, nrm, hd, hg]
/-! ### Numbers -/
theorem intsD_map : ∀ F : List Int, intsD (F.map D.int) = F
  | [] => rfl
  | a :: F => by
    have := intsD_map F
    simp only [intsD, List.map_cons, List.filterMap_cons] at this ⊢
    rw [this]
theorem all_below {F : List Int} {k : Int} (h : ∀ x ∈ F, 0 ≤ x ∧ x < k) : (F.map D.int).all (belowD k) = true := by
  rw [List.all_eq_true]
  intro d hd
  obtain ⟨x, hx, rfl⟩ := List.mem_map.mp hd
  exact decide_eq_true (h x hx)
theorem tyv_ints {F : List Int} : ∀ d ∈ F.map D.int, ∀ m' : Mem, Kp [] m m' → (tyv m' d).isSome = true := fun d hd m' _ => by
  obtain ⟨x, _, rfl⟩ := List.mem_map.mp hd
  rfl
theorem unlike_true {v : D} {F : List Int} {k : Int} (h : SeqM m v (F.map .int)) (hl : F.length ≤ lim) (hF : ∀ x ∈ F, 0 ≤ x ∧ x < k) (nd : F.Nodup) : ∃ m', callN prog (n + 3) fr (.df ix_are_unlike_below) [v, .int k] m = .ok (.bl true) m' ∧ Kp [] m m' := by
  obtain ⟨m', e, k'⟩ := unlike_ok (n := n) (fr := fr) (k := k) h (by rw [List.length_map]; exact hl) tyv_ints
  rw [all_below hF, intsD_map, decide_eq_true nd] at e
  exact ⟨m', e, k'⟩
abbrev lotF (q : Nrm) : List (Str × D) := [(sOf "firsts", .tup (q.F.map .int)), (sOf "start", .int q.s), (sOf "ring", .int q.r), (sOf "rests", .tup (q.R.map .int))]
abbrev lotO (q : Nrm) : Ob := .ins cx_Numbers (lotF q)
@[simp] theorem sn1 : (sOf "firsts" = sOf "start") = False := eq_false (by decide +kernel)
@[simp] theorem sn2 : (sOf "firsts" = sOf "ring") = False := eq_false (by decide +kernel)
@[simp] theorem sn3 : (sOf "firsts" = sOf "rests") = False := eq_false (by decide +kernel)
@[simp] theorem sn4 : (sOf "start" = sOf "ring") = False := eq_false (by decide +kernel)
@[simp] theorem sn5 : (sOf "start" = sOf "rests") = False := eq_false (by decide +kernel)
@[simp] theorem sn6 : (sOf "ring" = sOf "rests") = False := eq_false (by decide +kernel)
theorem put4 {C : Cl} {ρ : Env} {p : Nat} {a b c d : D} (hp : m[p]? = some (.ins cx_Numbers [])) (hρ : ρ[0]? = some (some (.ref p))) : store prog C fr (.tup [a, b, c, d]) ρ m (.t [.att (.var 0) (sOf "firsts"), .att (.var 0) (sOf "start"), .att (.var 0) (sOf "ring"), .att (.var 0) (sOf "rests")]) =
    .nx ρ (m.set p (.ins cx_Numbers [(sOf "firsts", a), (sOf "start", b), (sOf "ring", c), (sOf "rests", d)])) := by
  have at_ : ∀ (fs : List (Str × D)), (m.set p (.ins cx_Numbers fs))[p]? = some (.ins cx_Numbers fs) := fun fs => List.getElem?_set_self (lt_of hp)
  have c1 : ([sOf "firsts", sOf "start", sOf "ring", sOf "rests"] : List Str).contains (sOf "firsts") = true := by decide +kernel
  have c2 : ([sOf "firsts", sOf "start", sOf "ring", sOf "rests"] : List Str).contains (sOf "start") = true := by decide +kernel
  have c3 : ([sOf "firsts", sOf "start", sOf "ring", sOf "rests"] : List Str).contains (sOf "ring") = true := by decide +kernel
  have c4 : ([sOf "firsts", sOf "start", sOf "ring", sOf "rests"] : List Str).contains (sOf "rests") = true := by decide +kernel
  rw [st_t]
  refine (if_pos rfl).trans ?_
  rw [sts_cons, st_at hρ hp (by simp) cl_Numbers c1, seq_nx, sts_cons, st_at hρ (at_ _) (by simp [putFd]) cl_Numbers c2, seq_nx, List.set_set, sts_cons, st_at hρ (at_ _) (by simp [putFd]) cl_Numbers c3, seq_nx, List.set_set, sts_cons, st_at hρ (at_ _) (by simp [putFd]) cl_Numbers c4, seq_nx, List.set_set, sts_nil]
  simp [putFd]
theorem init_ok {vF vR : D} {F R : List Int} {s r p : Nat} (hp : m[p]? = some (.ins cx_Numbers [])) (hF : SeqM m vF (F.map .int)) (hR : SeqM m vR (R.map .int)) (hFl : F.length ≤ lim) (hRl : R.length ≤ lim) (hs : s ≤ 1000) (hr : 1 ≤ r) (hr2 : r ≤ 60)
    (hFs : ∀ x ∈ F, 0 ≤ x ∧ x < (s : Int)) (hFn : F.Nodup) (hRs : ∀ x ∈ R, 0 ≤ x ∧ x < (r : Int)) (hRn : R.Nodup) :
    ∃ m', callN prog (n + 4) fr (.df ix_Numbers_init) [.ref p, vF, .int s, .int r, vR] m = .ok .non m' ∧ m'[p]? = some (lotO (nrm (memB F s r R) s r)) ∧ Kp [p] m m' := by
  rw [call_df at_Numbers_init rfl]
  simp only [d_Numbers_init, startE, List.map_cons, List.map_nil, List.length_cons, List.length_nil, List.cons_append, List.nil_append]
  simp only [List.replicate]
  have e1 : callN prog (n + 3) fr (.df ix_is_between) [.int s, .int 0, .int 1000] m = .ok (.bl true) m := by
    rw [is_between_ok rfl]
    simp [betwD]
    omega
  have e2 : callN prog (n + 3) fr (.df ix_is_between) [.int r, .int 1, .int 60] m = .ok (.bl true) m := by
    rw [is_between_ok rfl]
    simp [betwD]
    omega
  obtain ⟨m1, e3, k1⟩ := unlike_true (n := n) (fr := fr) hF hFl hFs hFn
  obtain ⟨m2, e4, k2⟩ := unlike_true (n := n) (fr := fr) (hR.kp k1) hRl hRs hRn
  have hR2 := hR.kp (k1.trans k2)
  obtain ⟨s2, hs2, hw2⟩ := hR2.src (fr := fr)
  rw [List.length_map] at hs2 hw2
  have hr0 : 0 < r := hr
  obtain ⟨p1, m3, e5, h5, k3, _⟩ := lc_map (fr := fr) (P := prog) (C := callN prog (n + 3)) (x := .bin .mod (.bin .add (.var 2) (.var 6)) (.var 3)) (g := .v 6) (k := .one) (l := [.var 4]) (own := [6]) (ρ := [some (.ref p), some vF, some (.int s), some (.int r), some vR, none, none]) (ys := R) (fy := D.int) (fun t => .int (((s : Int) + t) % r))
    (hR2.lock rfl) (by simp) .refl hs2 hw2 hRl (fun t ht m' k' => ⟨[some (.ref p), some vF, some (.int s), some (.int r), some vR, none, some (.int t)], m', by simp [wipeE, bindT], by simp [hr0], .refl⟩)
  rw [show R.map (fun t => D.int (((s : Int) + t) % r)) = (R.map fun t => ((s : Int) + t) % r).map D.int from by rw [List.map_map]; rfl] at h5
  obtain ⟨m4, e6, k4⟩ := normal_ok (n := n + 1) (fr := fr) (m := m3) (vF := vF) (vL := .ref p1) (F := F) (L := R.map fun t => ((s : Int) + t) % r) (s := s) (r := r) (b := memB F s r R) (hF.kp ((k1.trans k2).trans k3)) (.inr ⟨p1, rfl, h5⟩) hFl (by rw [List.length_map]; exact hRl) (by omega) hr (by omega) hFs hFn
    (fun l hl => by
      obtain ⟨t, _, rfl⟩ := List.mem_map.mp hl
      exact ⟨Int.emod_nonneg _ (by omega), Int.emod_lt_of_pos _ (by omega)⟩) (fun x _ h => memB_lo x h) (memB_hi hr hRs)
  have kk := ((k1.trans k2).trans k3).trans k4
  have e7 := put4 (fr := fr) (C := callN prog (n + 3)) (ρ := [some (.ref p), some vF, some (.int s), some (.int r), some vR, some (.tup (nrmL (nrm (memB F s r R) s r))), none]) (a := .tup ((nrm (memB F s r R) s r).F.map .int)) (b := .int (nrm (memB F s r R) s r).s) (c := .int (nrm (memB F s r R) s r).r) (d := .tup ((nrm (memB F s r R) s r).R.map .int)) (kk.get0 hp) rfl
  refine ⟨m4.set p (lotO (nrm (memB F s r R) s r)), ?_, List.getElem?_set_self (lt_of (kk.get0 hp)), (kk.any (T := [p])).set (.inr List.mem_cons_self)⟩
  have e8 : (opt (some (D.tup (nrmL (nrm (memB F s r R) s r)))) m4) = .ok (.tup (nrmL (nrm (memB F s r R) s r))) m4 := rfl
  unfold nrmL at e6 e7
  simp [-st_t, e1, e2, e3, e4, e5, e6, e7]
theorem mk_ok {vF vR : D} {F R : List Int} {s r : Nat} (hF : SeqM m vF (F.map .int)) (hR : SeqM m vR (R.map .int)) (hFl : F.length ≤ lim) (hRl : R.length ≤ lim) (hs : s ≤ 1000) (hr : 1 ≤ r) (hr2 : r ≤ 60)
    (hFs : ∀ x ∈ F, 0 ≤ x ∧ x < (s : Int)) (hFn : F.Nodup) (hRs : ∀ x ∈ R, 0 ≤ x ∧ x < (r : Int)) (hRn : R.Nodup) :
    ∃ p m', callN prog (n + 5) fr (.ct cx_Numbers) [vF, .int s, .int r, vR] m = .ok (.ref p) m' ∧ m'[p]? = some (lotO (nrm (memB F s r R) s r)) ∧ Kp [] m m' ∧ m.length ≤ p := by
  rw [call_ct cl_Numbers]
  have k0 : Kp [] m (m ++ [.ins cx_Numbers []]) := .app _
  obtain ⟨m', e, h, k⟩ := init_ok (n := n) (fr := fr) (m := m ++ [.ins cx_Numbers []]) (p := m.length) (vF := vF) (vR := vR) (F := F) (R := R) (s := s) (r := r) (by simp) (hF.kp k0) (hR.kp k0) hFl hRl hs hr hr2 hFs hFn hRs hRn
  exact ⟨m.length, m', by simp only [e, rb_ok], h, k.new, Nat.le_refl _⟩
/-! ### what is refused -/
def Flat : D → Bool
  | .non => true
  | .bl _ => true
  | .int _ => true
  | .str _ => true
  | .tup _ => true
  | _ => false
theorem flat_ty {v : D} (h : Flat v = true) (m : Mem) : (tyv m v).isSome = true := by
  cases v <;> first | rfl | cases h
def unlF (k : Int) : D → Bool
  | .tup ds => ds.all (belowD k) && decide (intsD ds).Nodup
  | _ => false
def flatAll : D → Bool
  | .tup ds => ds.all Flat && decide (ds.length ≤ 100)
  | v => Flat v
theorem unlike_flat {v : D} {k : Int} (h : flatAll v = true) : ∃ m', callN prog (n + 3) fr (.df ix_are_unlike_below) [v, .int k] m = .ok (.bl (unlF k v)) m' ∧ Kp [] m m' := by
  cases v with
  | tup ds =>
    unfold flatAll at h
    rw [Bool.and_eq_true, decide_eq_true_eq] at h
    exact unlike_ok (.inl rfl) (by unfold lim; omega) fun d hd m' _ => flat_ty (List.all_eq_true.mp h.1 d hd) m'
  | non => exact ⟨m, unlike_no rfl rfl, .refl⟩
  | bl _ => exact ⟨m, unlike_no rfl rfl, .refl⟩
  | int _ => exact ⟨m, unlike_no rfl rfl, .refl⟩
  | str _ => exact ⟨m, unlike_no rfl rfl, .refl⟩
  | _ => cases h
theorem mk_bad1 {a v c d : D} (h : Flat v = true) (hb : betwD 0 1000 v = false) : ∃ m', callN prog (n + 5) fr (.ct cx_Numbers) [a, v, c, d] m = .exc xx_InvalidCount [.int 1] m' ∧ Kp [] m m' := by
  rw [call_ct cl_Numbers, call_df at_Numbers_init rfl]
  have e1 : callN prog (n + 3) fr (.df ix_is_between) [v, .int 0, .int 1000] (m ++ [.ins cx_Numbers []]) = .ok (.bl false) (m ++ [.ins cx_Numbers []]) := by
    rw [is_between_ok (flat_ty h _), hb]
  exact ⟨m ++ [.ins cx_Numbers []], by simp [d_Numbers_init, startE, e1], .app _⟩
theorem mk_bad2 {a v d : D} {s : Nat} (hs : s ≤ 1000) (h : Flat v = true) (hb : betwD 1 60 v = false) : ∃ m', callN prog (n + 5) fr (.ct cx_Numbers) [a, .int s, v, d] m = .exc xx_InvalidCount [.int 2] m' ∧ Kp [] m m' := by
  rw [call_ct cl_Numbers, call_df at_Numbers_init rfl]
  have e1 : callN prog (n + 3) fr (.df ix_is_between) [.int s, .int 0, .int 1000] (m ++ [.ins cx_Numbers []]) = .ok (.bl true) (m ++ [.ins cx_Numbers []]) := by
    rw [is_between_ok rfl]
    simp [betwD]
    omega
  have e2 : callN prog (n + 3) fr (.df ix_is_between) [v, .int 1, .int 60] (m ++ [.ins cx_Numbers []]) = .ok (.bl false) (m ++ [.ins cx_Numbers []]) := by
    rw [is_between_ok (flat_ty h _), hb]
  exact ⟨m ++ [.ins cx_Numbers []], by simp [d_Numbers_init, startE, e1, e2], .app _⟩
theorem mk_bad3 {v d : D} {s r : Nat} (hs : s ≤ 1000) (hr : 1 ≤ r) (hr2 : r ≤ 60) (h : flatAll v = true) (hb : unlF s v = false) : ∃ m', callN prog (n + 5) fr (.ct cx_Numbers) [v, .int s, .int r, d] m = .exc xx_InvalidNumbers [.int 0] m' ∧ Kp [] m m' := by
  rw [call_ct cl_Numbers, call_df at_Numbers_init rfl]
  have e1 : callN prog (n + 3) fr (.df ix_is_between) [.int s, .int 0, .int 1000] (m ++ [.ins cx_Numbers []]) = .ok (.bl true) (m ++ [.ins cx_Numbers []]) := by
    rw [is_between_ok rfl]
    simp [betwD]
    omega
  have e2 : callN prog (n + 3) fr (.df ix_is_between) [.int r, .int 1, .int 60] (m ++ [.ins cx_Numbers []]) = .ok (.bl true) (m ++ [.ins cx_Numbers []]) := by
    rw [is_between_ok rfl]
    simp [betwD]
    omega
  obtain ⟨m1, e3, k1⟩ := unlike_flat (n := n) (fr := fr) (m := m ++ [.ins cx_Numbers []]) (k := s) h
  rw [hb] at e3
  exact ⟨m1, by simp [d_Numbers_init, startE, e1, e2, e3], (Kp.app _).trans k1⟩
theorem mk_bad4 {vF v : D} {F : List Int} {s r : Nat} (hF : SeqM m vF (F.map .int)) (hFl : F.length ≤ lim) (hs : s ≤ 1000) (hr : 1 ≤ r) (hr2 : r ≤ 60) (hFs : ∀ x ∈ F, 0 ≤ x ∧ x < (s : Int)) (hFn : F.Nodup) (h : flatAll v = true) (hb : unlF r v = false) :
    ∃ m', callN prog (n + 5) fr (.ct cx_Numbers) [vF, .int s, .int r, v] m = .exc xx_InvalidNumbers [.int 3] m' ∧ Kp [] m m' := by
  rw [call_ct cl_Numbers, call_df at_Numbers_init rfl]
  have k0 : Kp [] m (m ++ [.ins cx_Numbers []]) := .app _
  have e1 : callN prog (n + 3) fr (.df ix_is_between) [.int s, .int 0, .int 1000] (m ++ [.ins cx_Numbers []]) = .ok (.bl true) (m ++ [.ins cx_Numbers []]) := by
    rw [is_between_ok rfl]
    simp [betwD]
    omega
  have e2 : callN prog (n + 3) fr (.df ix_is_between) [.int r, .int 1, .int 60] (m ++ [.ins cx_Numbers []]) = .ok (.bl true) (m ++ [.ins cx_Numbers []]) := by
    rw [is_between_ok rfl]
    simp [betwD]
    omega
  obtain ⟨m1, e3, k1⟩ := unlike_true (n := n) (fr := fr) (hF.kp k0) hFl hFs hFn
  obtain ⟨m2, e4, k2⟩ := unlike_flat (n := n) (fr := fr) (m := m1) (k := r) h
  rw [hb] at e4
  exact ⟨m2, by simp [d_Numbers_init, startE, e1, e2, e3, e4], (k0.trans k1).trans k2⟩
/-! ### what a lot answers -/
section
variable {p : Nat} {q : Nrm}
theorem f_firsts (h : m[p]? = some (lotO q)) : field (.ref p) (sOf "firsts") m = some (.tup (q.F.map .int)) := by
  simp [field, h, List.lookup]
theorem ne_beq {x y : Str} (h : (x = y) = False) : (y == x) = false := by
  cases e : y == x with
  | false => rfl
  | true => exact (h ▸ (beq_iff_eq.mp e).symm).elim
theorem f_start (h : m[p]? = some (lotO q)) : field (.ref p) (sOf "start") m = some (.int q.s) := by
  simp only [field, h, lotF, List.lookup, ne_beq sn1, beq_self_eq_true]
theorem f_ring (h : m[p]? = some (lotO q)) : field (.ref p) (sOf "ring") m = some (.int q.r) := by
  simp only [field, h, lotF, List.lookup, ne_beq sn2, ne_beq sn4, beq_self_eq_true]
theorem f_rests (h : m[p]? = some (lotO q)) : field (.ref p) (sOf "rests") m = some (.tup (q.R.map .int)) := by
  simp only [field, h, lotF, List.lookup, ne_beq sn3, ne_beq sn5, ne_beq sn6, beq_self_eq_true]
theorem ty_lot (h : m[p]? = some (lotO q)) : tyv m (.ref p) = some (.cls cx_Numbers) := by
  simp only [tyv, h]
theorem key_of_ok (h : m[p]? = some (lotO q)) : callN prog (n + 1) fr (.df ix_key_of) [.ref p] m = .ok (.tup (nrmL q)) m := by
  rw [call_df at_key_of rfl]
  simp [d_key_of, startE, f_firsts h, f_start h, f_ring h, f_rests h, nrmL]
theorem is_lot (h : m[p]? = some (lotO q)) : isI m (.ref p) [.cls cx_Numbers] = some true := by
  unfold isI
  rw [ty_lot h]
  simp [isAny, isTy]
/-- things that are no objects -/
theorem not_lot {v : D} (h : Flat v = true) : isI m v [.cls cx_Numbers] = some false := by
  cases v <;> first | rfl | cases h
theorem need_ok (h : m[p]? = some (lotO q)) (a : D) : callN prog (n + 1) fr (.df ix_need_numbers) [.ref p, a] m = .ok .non m := by
  rw [call_df at_need_numbers rfl]
  simp [d_need_numbers, startE, is_lot h]
theorem need_bad {v a : D} (h : Flat v = true) : callN prog (n + 1) fr (.df ix_need_numbers) [v, a] m = .exc xx_InvalidNumbers [a] m := by
  rw [call_df at_need_numbers rfl]
  simp [d_need_numbers, startE, not_lot h]
theorem inL_ints (x : Int) (l : List Int) : inL m (.int x) (l.map .int) = some (decide (x ∈ l)) := by
  unfold inL
  rw [data_ints]
  show some _ = _
  congr 1
  induction l with
  | nil => rfl
  | cons a l ih =>
    rw [List.map_cons, List.any_cons, ih]
    simp only [PyData.eqv, int_beq, List.mem_cons]
    by_cases e : a = x
    · simp [e]
    · have : ¬ x = a := fun z => e z.symm
      simp [e, this]
theorem c_inT (x : Int) (l : List Int) : cmpop .isIn (.int x) (.tup (l.map .int)) m = .ok (.bl (decide (x ∈ l))) m := by
  simp only [cmpop, cmpop.inop, inL_ints]
  rfl
theorem holds_ok (h : m[p]? = some (lotO q)) (hr : 1 ≤ q.r) (x : Int) : callN prog (n + 1) fr (.df ix_holds) [.ref p, .int x] m = .ok (.bl (q.has x)) m := by
  rw [call_df at_holds rfl]
  have h0 : 0 < q.r := hr
  unfold Nrm.has
  by_cases hx : x < q.s
  · simp [d_holds, startE, f_firsts h, f_start h, f_ring h, f_rests h, hx, c_inT]
  · simp [d_holds, startE, f_firsts h, f_start h, f_ring h, f_rests h, hx, c_inT, h0]
theorem has_ok (h : m[p]? = some (lotO q)) (hr : 1 ≤ q.r) {x : Int} (hx : 0 ≤ x) : callN prog (n + 3) fr (.df ix_has) [.ref p, .int x] m = .ok (.bl (q.has x)) m := by
  rw [call_df at_has rfl]
  simp [d_has, startE, need_ok h, is_number_int, hx, holds_ok h hr]
theorem has_bad1 {v a : D} (h : Flat v = true) : callN prog (n + 3) fr (.df ix_has) [v, a] m = .exc xx_InvalidNumbers [.int (-1)] m := by
  rw [call_df at_has rfl]
  simp [d_has, startE, need_bad h]
theorem has_bad2 {v : D} (h : m[p]? = some (lotO q)) (hv : Flat v = true) (hn : isInt v = false) : callN prog (n + 3) fr (.df ix_has) [.ref p, v] m = .exc xx_InvalidCount [.int (-1)] m := by
  rw [call_df at_has rfl]
  simp [d_has, startE, need_ok h, is_number_no (flat_ty hv m) hn]
theorem has_bad3 {x : Int} (h : m[p]? = some (lotO q)) (hx : x < 0) : callN prog (n + 3) fr (.df ix_has) [.ref p, .int x] m = .exc xx_InvalidCount [.int (-1)] m := by
  rw [call_df at_has rfl]
  have : ¬ 0 ≤ x := by omega
  simp [d_has, startE, need_ok h, is_number_int, this]
end
theorem eqD_nrm (q q' : Nrm) : eqD m (.tup (nrmL q)) (.tup (nrmL q')) = some (decide (q = q')) := by
  have e : ∀ q : Nrm, data m 20 (.tup (nrmL q)) = some (.tuple [.tuple (q.F.map PyData.int), .int q.s, .int q.r, .tuple (q.R.map PyData.int)]) := fun q => by
    simp only [data, nrmL, List.mapM_cons, List.mapM_nil, data_ints, Option.map_some, Option.bind_eq_bind, Option.bind_some, Option.pure_def]
  unfold eqD
  rw [e, e]
  simp only [PyData.eqv, PyData.eqvAll, eqv_ints, int_beq, Bool.and_true]
  congr 1
  obtain ⟨a, b, c, d⟩ := q
  obtain ⟨a', b', c', d'⟩ := q'
  rw [Bool.eq_iff_iff]
  simp only [Bool.and_eq_true, decide_eq_true_eq, Nrm.mk.injEq]
  exact ⟨fun ⟨h1, h2, h3, h4⟩ => ⟨h1, by omega, by omega, h4⟩, fun ⟨h1, h2, h3, h4⟩ => ⟨h1, by omega, by omega, h4⟩⟩
theorem own_lot {p : Nat} {q : Nrm} (h : m[p]? = some (lotO q)) : ownEq prog m (.ref p) = some ix_Numbers_eq := by
  simp only [ownEq, h, cl_Numbers, Option.bind_some]
theorem eq_lots {p p' : Nat} {q q' : Nrm} (h : m[p]? = some (lotO q)) (h' : m[p']? = some (lotO q')) : callN prog (n + 2) fr (.df ix_Numbers_eq) [.ref p, .ref p'] m = .ok (.bl (decide (q = q'))) m := by
  rw [call_df at_Numbers_eq rfl]
  simp [d_Numbers_eq, startE, is_lot h', key_of_ok h, key_of_ok h', eqD_nrm]
theorem eq_flat {p : Nat} {v : D} (hv : Flat v = true) : callN prog (n + 2) fr (.df ix_Numbers_eq) [.ref p, v] m = .ok (.bl false) m := by
  rw [call_df at_Numbers_eq rfl]
  simp [d_Numbers_eq, startE, not_lot hv]
/-- == and != of lots -/
theorem cmp_eq_lots {p p' : Nat} {q q' : Nrm} (h : m[p]? = some (lotO q)) (h' : m[p']? = some (lotO q')) : cmpE prog (callN prog (n + 2)) fr .eq (.ref p) (.ref p') m = .ok (.bl (decide (q = q'))) m := by
  unfold cmpE
  rw [own_lot h]
  simp [ty_lot h', eq_lots h h', onlyB]
theorem cmp_ne_lots {p p' : Nat} {q q' : Nrm} (h : m[p]? = some (lotO q)) (h' : m[p']? = some (lotO q')) : cmpE prog (callN prog (n + 3)) fr .ne (.ref p) (.ref p') m = .ok (.bl !(decide (q = q'))) m := by
  unfold cmpE
  rw [own_lot h]
  have e : callN prog (n + 3) fr (.ne ix_Numbers_eq) [.ref p, .ref p'] m = .ok (.bl !(decide (q = q'))) m := by
    rw [callN]
    simp [eq_lots h h']
  simp [ty_lot h', e, onlyB]
theorem cmp_eq_flat {p : Nat} {q : Nrm} {v : D} (h : m[p]? = some (lotO q)) (hv : Flat v = true) : cmpE prog (callN prog (n + 2)) fr .eq (.ref p) v m = .ok (.bl false) m := by
  unfold cmpE
  rw [own_lot h]
  simp [flat_ty hv m, eq_flat hv, onlyB]
end
end K03

-- L03a
set_option linter.all false
set_option Elab.async false
set_option maxRecDepth 10000
namespace K03
open Ms
open PySem (Str PyData)
/-! ### the source of draws -/
def Box (m : Mem) (b r : Nat) : Prop := ∃ (s : Int) (cells : List Int), m[b]? = some (.lst [.ref r, .int s]) ∧ m[r]? = some (.lst (cells.map .int)) ∧ r ≠ b ∧ 0 ≤ s ∧ s < 2147483648 ∧ cells.length ≤ 64
def BoxAt (m : Mem) (b : Nat) : Prop := ∃ r : Nat, Box m b r
section
variable {n : Nat} {fr : Fr} {m : Mem} {b : Nat}
theorem Box.kp {m' : Mem} {r : Nat} (h : Box m b r) (k : Kp [] m m') : Box m' b r := by
  obtain ⟨s, c, h1, h2, h3⟩ := h
  exact ⟨s, c, k.get0 h1, k.get0 h2, h3⟩
theorem BoxAt.kp {m' : Mem} (h : BoxAt m b) (k : Kp [] m m') : BoxAt m' b := h.imp fun r h => h.kp k
theorem Box.lt {r : Nat} (h : Box m b r) : b < m.length ∧ r < m.length := by
  obtain ⟨s, c, h1, h2, _⟩ := h
  exact ⟨lt_of h1, lt_of h2⟩
theorem BoxAt.lt (h : BoxAt m b) : b < m.length := h.elim fun r h => h.lt.1
/-- what is neither the box nor its list may be written -/
theorem Box.set {r p : Nat} {o : Ob} (h : Box m b r) (h1 : p ≠ b) (h2 : p ≠ r) : Box (m.set p o) b r := by
  obtain ⟨s, c, q1, q2, q3⟩ := h
  exact ⟨s, c, by rw [List.getElem?_set_ne h1]; exact q1, by rw [List.getElem?_set_ne h2]; exact q2, q3⟩
theorem take_box {r : Nat} (hb : Box m b r) {k : Int} (hk : 1 ≤ k) (hk2 : k < 1000000) : ∃ (t : Int) (m' : Mem) (r' : Nat), callN prog (n + 1) fr (.df ix__law_take) [.ref b, .int k] m = .ok (.int t) m' ∧ 0 ≤ t ∧ t < k ∧ Box m' b r' ∧ Kp [b] m m' ∧ (r' = r ∨ m.length ≤ r') := by
  obtain ⟨s, cells, h1, h2, hne, hs0, hs1, hc⟩ := hb
  rw [call_df at__law_take rfl]
  simp only [d__law_take, startE, List.map_cons, List.map_nil, List.length_cons, List.length_nil, List.cons_append, List.nil_append]
  simp only [List.replicate]
  have hbl := lt_of h1
  have hk0 : (0 : Int) < k := by omega
  have k1 : Kp [] m (m ++ [Ob.lst ([] : List D)]) := .app _
  have a1 := k1.get0 h1
  have a2 := k1.get0 h2
  have i0 : ∀ {m' : Mem}, m'[b]? = some (.lst [.ref r, .int s]) → index (.ref b) (.int 0) m' = .ok (.ref r) m' := fun h => ix_lst h (by omega) rfl
  have i1 : ∀ {m' : Mem} {z : Int}, m'[b]? = some (.lst [.ref r, .int z]) → index (.ref b) (.int 1) m' = .ok (.int z) m' := fun h => ix_lst h (by omega) rfl
  have en : eqD (m ++ [Ob.lst ([] : List D)]) (.ref r) (.ref m.length) = some (decide (cells = [])) := eqD_lists (b := []) a2 (at_new _)
  have oe : ownEq prog (m ++ [Ob.lst ([] : List D)]) (.ref r) = none := ownEq_lst a2
  cases cells with
  | nil =>
    have hz0 : 0 ≤ s * 48271 % 2147483647 := Int.emod_nonneg _ (by omega)
    have hz1 : s * 48271 % 2147483647 < 2147483647 := Int.emod_lt_of_pos _ (by omega)
    have hm1 : s.natAbs < 18446744073709551616 ∨ (48271 : Int).natAbs < 18446744073709551616 := .inl (by omega)
    generalize hz : s * 48271 % 2147483647 = z at hz0 hz1
    have hm2 : z.natAbs < 18446744073709551616 ∨ (69621 : Int).natAbs < 18446744073709551616 := .inl (by omega)
    have hbl1 : b < (m ++ [Ob.lst ([] : List D)]).length := by simp; omega
    have k2 : Kp [b] m ((m ++ [Ob.lst ([] : List D)]).set b (.lst [.ref r, .int z])) := (k1.any (T := [b])).set (.inr List.mem_cons_self)
    have b1 : ((m ++ [Ob.lst ([] : List D)]).set b (.lst [.ref r, .int z]))[b]? = some (.lst [.ref r, .int z]) := List.getElem?_set_self hbl1
    have b2 : ((m ++ [Ob.lst ([] : List D)]).set b (.lst [.ref r, .int z]))[r]? = some (.lst (([] : List Int).map .int)) := by
      rw [List.getElem?_set_ne (Ne.symm hne)]
      exact a2
    refine ⟨(z * 69621 + 7) / 1013 % k, _, r, ?_, Int.emod_nonneg _ (by omega), Int.emod_lt_of_pos _ hk0, ⟨z, [], b1, b2, hne, hz0, by omega, by simp⟩, k2, .inl rfl⟩
    have e1 : (exe prog (callN prog n) fr (.ife (.cmp .ne (.idx (.var 0) (.cst (.int 0))) (.lst [])) [
    .set (.v 2) (.idx (.idx (.var 0) (.cst (.int 0))) (.cst (.int 0))),
    .set (.sub (.var 0) (.cst (.int 0))) (.bin .add (.ite (.cmp .ge (.var 2) (.var 1)) (.lst [.bin .fdiv (.var 2) (.var 1)]) (.lst [])) (.slc (.idx (.var 0) (.cst (.int 0))) (some (.cst (.int 1))) none)),
    .ret (.bin .mod (.blt .int [.var 2]) (.var 1))] []) [some (.ref b), some (.int k), none] m) = .nx [some (.ref b), some (.int k), none] (m ++ [Ob.lst ([] : List D)]) := by
      rw [x_ife]
      simp [i0 h1, newL, cmpE_of oe, en]
    rw [xs_cons, e1]
    have e2 : (exe prog (callN prog n) fr (.set (.sub (.var 0) (.cst (.int 1))) (.bin .mod (.blt .int [.bin .mul (.idx (.var 0) (.cst (.int 1))) (.cst (.int 48271))]) (.cst (.int 2147483647)))) [some (.ref b), some (.int k), none] (m ++ [Ob.lst ([] : List D)])) = .nx [some (.ref b), some (.int k), none] ((m ++ [Ob.lst ([] : List D)]).set b (.lst [.ref r, .int z])) := by
      simp [i1 a1, hm1, bltin, hz, st_sub, a1, L2.ixN]
    rw [seq_nx, xs_cons, e2]
    simp [i1 b1, hm2, bltin, hk0]
  | cons c cs =>
    have i2 : ∀ {m' : Mem}, m'[r]? = some (.lst ((c :: cs).map .int)) → index (.ref r) (.int 0) m' = .ok (.int c) m' := fun h => ix_lst h (by omega) rfl
    -- the list in front
    obtain ⟨p, fs, m2, e2, c2, k2, hfs⟩ : ∃ (p : Nat) (fs : List Int) (m2 : Mem), ev prog (callN prog n) fr (.ite (.cmp .ge (.var 2) (.var 1)) (.lst [.bin .fdiv (.var 2) (.var 1)]) (.lst [])) [some (.ref b), some (.int k), some (.int c)] (m ++ [Ob.lst ([] : List D)]) = .ok (.ref p) m2 ∧ m2[p]? = some (.lst (fs.map .int)) ∧ Kp [] (m ++ [Ob.lst ([] : List D)]) m2 ∧ fs.length ≤ 1 := by
      by_cases hg : k ≤ c
      · refine ⟨(m ++ [Ob.lst ([] : List D)]).length, [c / k], (m ++ [Ob.lst ([] : List D)]) ++ [Ob.lst [.int (c / k)]], ?_, at_new _, .app _, by simp⟩
        have : k < 1073741824 := by omega
        simp [hg, hk0, this, newL]
      · refine ⟨(m ++ [Ob.lst ([] : List D)]).length, [], (m ++ [Ob.lst ([] : List D)]) ++ [Ob.lst []], ?_, at_new _, .app _, by simp⟩
        simp [hg, newL]
    have d1 := k2.get0 a1
    have d2 := k2.get0 a2
    have k3 : Kp [] m2 (m2 ++ [Ob.lst (cs.map .int)]) := .app _
    have f1 := k3.get0 d1
    have k4 : Kp [] (m2 ++ [Ob.lst (cs.map .int)]) ((m2 ++ [Ob.lst (cs.map .int)]) ++ [Ob.lst (fs.map .int ++ cs.map .int)]) := .app _
    generalize hm5 : (m2 ++ [Ob.lst (cs.map D.int)]) ++ [Ob.lst (fs.map .int ++ cs.map .int)] = m5 at k4
    have hq5 : m5[(m2 ++ [Ob.lst (cs.map D.int)]).length]? = some (.lst (fs.map .int ++ cs.map .int)) := by rw [← hm5]; exact at_new _
    have g1 := k4.get0 f1
    have hbl5 : b < m5.length := lt_of g1
    have kk : Kp [] m m5 := ((k1.trans k2).trans k3).trans k4
    have hq5b : (m2 ++ [Ob.lst (cs.map D.int)]).length ≠ b := by
      have := k1.len
      have := k2.len
      simp at this ⊢
      omega
    refine ⟨c % k, m5.set b (.lst [.ref (m2 ++ [Ob.lst (cs.map D.int)]).length, .int s]), (m2 ++ [Ob.lst (cs.map D.int)]).length, ?_, Int.emod_nonneg _ (by omega), Int.emod_lt_of_pos _ hk0, ⟨s, fs ++ cs, List.getElem?_set_self hbl5, by rw [List.getElem?_set_ne (Ne.symm hq5b), hq5, List.map_append], hq5b, hs0, hs1, by simp at hc ⊢; omega⟩, (kk.any (T := [b])).set (.inr List.mem_cons_self), .inr ((k1.trans k2).trans k3).len⟩
    have e0 : ev prog (callN prog n) fr (.cmp .ne (.idx (.var 0) (.cst (.int 0))) (.lst [])) [some (.ref b), some (.int k), none] m = .ok (.bl true) (m ++ [Ob.lst ([] : List D)]) := by
      simp [i0 h1, newL, cmpE_of oe, en]
    have e1 : ev prog (callN prog n) fr (.idx (.idx (.var 0) (.cst (.int 0))) (.cst (.int 0))) [some (.ref b), some (.int k), none] (m ++ [Ob.lst ([] : List D)]) = .ok (.int c) (m ++ [Ob.lst ([] : List D)]) := by
      simp only [e_idx, e_var, e_cst, List.getElem?_cons_zero, Option.join_some, opt_some, rb_ok, i0 a1, i2 a2]
    have e3 : ev prog (callN prog n) fr (.slc (.idx (.var 0) (.cst (.int 0))) (some (.cst (.int 1))) none) [some (.ref b), some (.int k), some (.int c)] m2 = .ok (.ref m2.length) (m2 ++ [Ob.lst (cs.map .int)]) := by
      simp only [e_slc, e_idx, e_var, e_cst, List.getElem?_cons_zero, Option.join_some, opt_some, rb_ok, i0 d1, eo_some, eo_none, slc_lst d2, List.map_cons, cut_tail]
    have e4 : binop .add (.ref p) (.ref m2.length) (m2 ++ [Ob.lst (cs.map .int)]) = .ok (.ref (m2 ++ [Ob.lst (cs.map D.int)]).length) m5 := by
      rw [b_addL (k3.get0 c2) (at_new _) (by simp at hc ⊢; unfold lim; omega), hm5]
    simp only [xs_cons, x_ife, e0, rb_ok, tr_bl, opt_some, to_ok, if_true, x_set, e1, st_v, List.length_cons, List.length_nil, Nat.reduceAdd, Nat.reduceLT, seq_nx, List.set]
    simp only [e_bin, e2, e3, e4, rb_ok, to_ok, st_sub, e_var, e_cst, List.getElem?_cons_zero, Option.join_some, opt_some, g1]
    simp [L2.ixN, bltin, hk0]
theorem take_ok (hb : BoxAt m b) {k : Int} (hk : 1 ≤ k) (hk2 : k < 1000000) : ∃ (t : Int) (m' : Mem), callN prog (n + 1) fr (.df ix__law_take) [.ref b, .int k] m = .ok (.int t) m' ∧ 0 ≤ t ∧ t < k ∧ BoxAt m' b ∧ Kp [b] m m' := by
  obtain ⟨r, hb⟩ := hb
  obtain ⟨t, m', r', h1, h2, h3, h4, h5, _⟩ := take_box (n := n) (fr := fr) hb hk hk2
  exact ⟨t, m', h1, h2, h3, ⟨r', h4⟩, h5⟩
theorem pick_ok (hb : BoxAt m b) {p : Nat} {ds : List D} (hp : m[p]? = some (.lst ds)) (hne : p ≠ b) (h1 : 1 ≤ ds.length) (h2 : ds.length < 1000) : ∃ (d : D) (m' : Mem), callN prog (n + 2) fr (.df ix__law_pick) [.ref b, .ref p] m = .ok d m' ∧ d ∈ ds ∧ BoxAt m' b ∧ Kp [b] m m' := by
  rw [call_df at__law_pick rfl]
  obtain ⟨t, m', e, t0, t1, hb', k⟩ := take_ok (n := n) (fr := fr) hb (k := (ds.length : Int)) (by omega) (by omega)
  have hp' := k.get hp (by simpa using hne)
  have hlt : t.toNat < ds.length := by omega
  refine ⟨ds[t.toNat], m', ?_, List.getElem_mem _, hb', k⟩
  have e2 := ix_lst hp' t0 (List.getElem?_eq_getElem hlt)
  simp [d__law_pick, startE, bl_lenL hp, e, e2]
/-- a row mixed -/
theorem mixed_ok (hb : BoxAt m b) {xs : List Int} (hx : xs.length < 1000) : ∃ (p : Nat) (ys : List Int) (m' : Mem), callN prog (n + 2) fr (.df ix__law_mixed) [.ref b, .tup (xs.map .int)] m = .ok (.ref p) m' ∧ m'[p]? = some (.lst (ys.map .int)) ∧ ys.Perm xs ∧ BoxAt m' b ∧ Kp [b] m m' ∧ m.length ≤ p := by
  rw [call_df at__law_mixed rfl]
  simp only [d__law_mixed, startE, List.map_cons, List.map_nil, List.length_cons, List.length_nil, List.cons_append, List.nil_append]
  simp only [List.replicate]
  obtain ⟨r0, hb⟩ := hb
  have k1 : Kp [] m (m ++ [Ob.lst (xs.map .int)]) := .app _
  have k2 : Kp [] (m ++ [Ob.lst (xs.map .int)]) ((m ++ [Ob.lst (xs.map .int)]) ++ [Ob.lst []]) := .app _
  generalize hm2 : (m ++ [Ob.lst (xs.map D.int)]) ++ [Ob.lst []] = m2 at k2
  have hl0 : m2[m.length]? = some (.lst (xs.map .int)) := k2.get0 (at_new _)
  have ht0 : m2[m.length + 1]? = some (.lst []) := by
    rw [← hm2]
    have := at_new (m := m ++ [Ob.lst (xs.map D.int)]) (Ob.lst [])
    rwa [show (m ++ [Ob.lst (xs.map D.int)]).length = m.length + 1 by simp] at this
  have hb2 := (hb.kp k1).kp k2
  have hbl := hb.lt
  have e1 : exe prog (callN prog (n + 1)) fr (.set (.t [.v 2, .v 3]) (.tup [.blt .list [.var 1], .lst []])) [some (.ref b), some (.tup (xs.map .int)), none, none, none, none] m = .nx [some (.ref b), some (.tup (xs.map .int)), some (.ref m.length), some (.ref (m.length + 1)), none, none] m2 := by
    simp [bl_list, newL, ← hm2]
  suffices q : ∃ (ys : List Int) (m' : Mem) (x y z : Option D), exe prog (callN prog (n + 1)) fr (.for_ (.v 4) .rng [.blt .len [.var 1]] [
    .set (.v 5) (.call ix__law_take [.var 0, .blt .len [.var 2]]),
    .ex (.mth .append (.var 3) [.idx (.var 2) (.var 5)]),
    .set (.v 2) (.bin .add (.slc (.var 2) none (some (.var 5))) (.slc (.var 2) (some (.bin .add (.var 5) (.cst (.int 1)))) none))]) [some (.ref b), some (.tup (xs.map .int)), some (.ref m.length), some (.ref (m.length + 1)), none, none] m2 = .nx [some (.ref b), some (.tup (xs.map .int)), x, some (.ref (m.length + 1)), y, z] m' ∧ m'[m.length + 1]? = some (.lst (ys.map .int)) ∧ ys.Perm xs ∧ BoxAt m' b ∧ Kp [b] m m' by
    obtain ⟨ys, m', x, y, z, e, h1, h2, h3, h4⟩ := q
    refine ⟨m.length + 1, ys, m', ?_, h1, h2, h3, h4, Nat.le_succ _⟩
    rw [xs_cons, e1, seq_nx, xs_cons, e]
    simp
  refine for_run (m1 := m2) (I := fun i ρ m' => Kp [b] m m' ∧ m.length + 2 ≤ m'.length ∧ ∃ (r pl : Nat) (ys zs : List Int) (y z : Option D), Box m' b r ∧ r ≠ m.length + 1 ∧ ρ = [some (.ref b), some (.tup (xs.map .int)), some (.ref pl), some (.ref (m.length + 1)), y, z] ∧ m'[pl]? = some (.lst (zs.map .int)) ∧ m'[m.length + 1]? = some (.lst (ys.map .int)) ∧ (ys ++ zs).Perm xs ∧ ys.length = i ∧ pl ≠ m.length + 1 ∧ m.length ≤ pl)
    (xs := (List.range xs.length).map fun i : Nat => .int (0 + i)) (n := xs.length) (s := .fix (rngL 0 (0 + xs.length))) (ds := [.int xs.length]) (Q := fun x => ∃ (ys : List Int) (m' : Mem) (u v w : Option D), x = .nx [some (.ref b), some (.tup (xs.map .int)), u, some (.ref (m.length + 1)), v, w] m' ∧ m'[m.length + 1]? = some (.lst (ys.map .int)) ∧ ys.Perm xs ∧ BoxAt m' b ∧ Kp [b] m m') rfl (by simp) ?_ (by simp) (fun i ρ m' _ _ => (wk_rng 0 xs.length).2 m' .refl) ?_ ?_ ?_
  · rw [src_rng1 (small_of (by omega) (by omega)), Int.zero_add]
    rfl
  · refine ⟨(k1.trans k2).any, by rw [← hm2]; simp, r0, m.length, [], xs, none, none, hb2, by omega, rfl, hl0, ht0, by simp, rfl, by omega, Nat.le_refl _⟩
  · rintro i dd ρ m' hi ⟨hk, hml, r, pl, ys, zs, y, z, hbx, hrne, rfl, hl, ht, hperm, hlen, hne, hge⟩
    have hix : i < xs.length := by
      have := (List.getElem?_eq_some_iff.mp hi).1
      simpa using this
    have hzl : ys.length + zs.length = xs.length := by rw [← List.length_append]; exact hperm.length_eq
    refine ⟨[some (.ref b), some (.tup (xs.map .int)), some (.ref pl), some (.ref (m.length + 1)), some dd, z], by simp [bindT], .inl ?_⟩
    obtain ⟨t, m3, r', e2, t0, t1, hb3, k3, hr3⟩ := take_box (n := n) (fr := fr) hbx (k := (zs.length : Int)) (by omega) (by omega)
    have hplb : pl ≠ b := by omega
    have htb : m.length + 1 ≠ b := by omega
    have hl3 := k3.get hl (by simpa using hplb)
    have ht3 := k3.get ht (by simpa using htb)
    obtain ⟨t, rfl⟩ := Int.eq_ofNat_of_zero_le t0
    have htl : t < zs.length := by omega
    have e3 : index (.ref pl) (.int t) m3 = .ok (.int zs[t]) m3 := ix_lst hl3 t0 (by simp [htl])
    have k3l := k3.len
    -- append
    generalize hm4 : m3.set (m.length + 1) (.lst ((ys ++ [zs[t]]).map D.int)) = m4
    have e4 : meth .append (.ref (m.length + 1)) [.int zs[t]] m3 = .ok .non m4 := by
      rw [mt_append ht3 (by rw [List.length_map]; unfold lim; omega), ← hm4, List.map_append]
      rfl
    have k4 : Kp [b] m m4 := by rw [← hm4]; exact (hk.trans k3).set (.inl (by omega))
    have hl4 : m4[pl]? = some (.lst (zs.map .int)) := by rw [← hm4, List.getElem?_set_ne (Ne.symm hne)]; exact hl3
    have ht4 : m4[m.length + 1]? = some (.lst ((ys ++ [zs[t]]).map .int)) := by rw [← hm4]; exact List.getElem?_set_self (lt_of ht3)
    have hr3' : r' ≠ m.length + 1 := by
      rcases hr3 with z | z <;> omega
    have hb4 : Box m4 b r' := by rw [← hm4]; exact hb3.set htb (Ne.symm hr3')
    have l4 : m4.length = m3.length := by rw [← hm4, List.length_set]
    -- the rest of the row
    have k5 : Kp [] m4 (m4 ++ [Ob.lst ((zs.take t).map .int)]) := .app _
    have k6 : Kp [] (m4 ++ [Ob.lst ((zs.take t).map .int)]) ((m4 ++ [Ob.lst ((zs.take t).map .int)]) ++ [Ob.lst ((zs.drop (t + 1)).map .int)]) := .app _
    generalize hm6 : (m4 ++ [Ob.lst ((zs.take t).map D.int)]) ++ [Ob.lst ((zs.drop (t + 1)).map .int)] = m6 at k6
    have e5 : slice (.ref pl) none (some (t : Int)) m4 = .ok (.ref m4.length) (m4 ++ [Ob.lst ((zs.take t).map .int)]) := by
      rw [slc_lst hl4, cut_to, List.map_take]
    have e6 : slice (.ref pl) (some ((t : Int) + 1)) none (m4 ++ [Ob.lst ((zs.take t).map .int)]) = .ok (.ref (m4.length + 1)) m6 := by
      rw [slc_lst (k5.get0 hl4), show (t : Int) + 1 = ((t + 1 : Nat) : Int) by omega, cut_from, ← hm6, List.map_drop]
      simp
    have q1 : m6[m4.length]? = some (.lst ((zs.take t).map .int)) := k6.get0 (at_new _)
    have q2 : m6[m4.length + 1]? = some (.lst ((zs.drop (t + 1)).map .int)) := by
      rw [← hm6]
      have := at_new (m := m4 ++ [Ob.lst ((zs.take t).map D.int)]) (Ob.lst ((zs.drop (t + 1)).map .int))
      rwa [show (m4 ++ [Ob.lst ((zs.take t).map D.int)]).length = m4.length + 1 by simp] at this
    have e7 := b_addL q1 q2 (by simp; unfold lim; omega)
    have k7 : Kp [] m6 (m6 ++ [Ob.lst ((zs.take t).map .int ++ (zs.drop (t + 1)).map .int)]) := .app _
    have l6 : m6.length = m4.length + 2 := by rw [← hm6]; simp
    refine ⟨[some (.ref b), some (.tup (xs.map .int)), some (.ref m6.length), some (.ref (m.length + 1)), some dd, some (.int t)], m6 ++ [Ob.lst ((zs.take t).map .int ++ (zs.drop (t + 1)).map .int)], .inl ?_, k4.trans ((k5.trans k6).trans k7).any, by simp; omega, r', m6.length, ys ++ [zs[t]], zs.take t ++ zs.drop (t + 1), some dd, some (.int t), hb4.kp ((k5.trans k6).trans k7), hr3', rfl, by rw [at_new, List.map_append], ((k5.trans k6).trans k7).get0 ht4, ?_, by simp [hlen], by omega, by omega⟩
    · simp [-List.map_take, -List.map_drop, bl_lenL hl, e2, recv_lst ht3, e3, e4, e5, e6, e7]
    · refine List.Perm.trans ?_ hperm
      have e8 : zs = zs.take t ++ zs[t] :: zs.drop (t + 1) := by
        rw [List.getElem_cons_drop, List.take_append_drop]
      conv => rhs; rw [e8]
      rw [List.append_assoc]
      refine List.Perm.append_left ys ?_
      show (zs[t] :: (zs.take t ++ zs.drop (t + 1))).Perm _
      exact List.perm_middle.symm
  · rintro ρ m' ⟨hk, _, r, pl, ys, zs, y, z, hbx, _, rfl, hl, ht, hperm, hlen, _⟩
    have hzl : ys.length + zs.length = xs.length := by rw [← List.length_append]; exact hperm.length_eq
    have hz : zs = [] := List.eq_nil_of_length_eq_zero (by omega)
    subst hz
    exact ⟨ys, m', _, y, z, rfl, ht, by simpa using hperm, ⟨r, hbx⟩, hk⟩
/-! ### what is due -/
def PureD : Nat → D → Bool
  | _, .non => true
  | _, .bl _ => true
  | _, .int _ => true
  | _, .str x => PySem.PyData.strOk x
  | k + 1, .tup l => l.all (PureD k) && decide (l.length ≤ 1000)
  | _, _ => false
theorem is_refl : ∀ (k : Nat) (d : D), PureD k d = true → ∀ (n : Nat) (fr : Fr) (m : Mem), ∃ m', callN prog (n + k + 1) fr (.df ix__law_is) [d, d] m = .ok (.bl true) m' ∧ Kp [] m m'
  | k, .non, _, n, fr, m => by
    rw [call_df at__law_is rfl]
    exact ⟨m, by simp [d__law_is, startE, isI, tyv, isAny, isTy, isN], .refl⟩
  | k, .bl b, _, n, fr, m => by
    rw [call_df at__law_is rfl]
    exact ⟨m, by cases b <;> simp [d__law_is, startE, isI, tyv, isAny, isTy, isN, isB], .refl⟩
  | k, .int i, _, n, fr, m => by
    rw [call_df at__law_is rfl]
    exact ⟨m, by simp [d__law_is, startE, isI, tyv, isAny, isTy, isN, isB], .refl⟩
  | k, .str x, h, n, fr, m => by
    rw [call_df at__law_is rfl]
    have h : PySem.PyData.strOk x = true := by cases k <;> exact h
    have e : eqD m (.str x) (.str x) = some true := by
      simp [eqD, data, h, PyData.eqv]
    exact ⟨m, by simp [d__law_is, startE, isI, tyv, isAny, isTy, isN, isB, e], .refl⟩
  | k + 1, .tup l, h, n, fr, m => by
    rw [call_df at__law_is rfl]
    unfold PureD at h
    rw [Bool.and_eq_true, decide_eq_true_eq] at h
    have hin := List.all_eq_true.mp h.1
    obtain ⟨q, m1, e, h1, k1, _⟩ := lc_filter (fr := fr) (P := prog) (C := callN prog (n + (k + 1))) (x := .cst (.int 1)) (g := .t [.v 2, .v 3]) (k := .zip) (l := [.var 0, .var 1]) (c := [.not (.call ix__law_is [.var 2, .var 3])]) (own := [2, 3]) (ρ := [some (.tup l), some (.tup l), none, none]) (m := m) (ys := l) (fy := fun d => .tup [d, d]) (fun _ => false) (fun _ => .int 1)
      (lock_no rfl) (by simp) .refl (src_zipT rfl) (wk_self l) (by unfold lim; omega) (fun d hd m' k' => by
        obtain ⟨m2, e2, k2⟩ := is_refl k d (hin d hd) n fr m'
        have e2 : callN prog (n + (k + 1)) fr (.df ix__law_is) [d, d] m' = .ok (.bl true) m2 := e2
        exact ⟨[some (.tup l), some (.tup l), some d, some d], m2, by simp [wipeE, bindT, bindTs], by simp [e2], k2, fun z => (by cases z)⟩)
    have e0 : l.filter (fun _ => false) = [] := by simp
    rw [e0] at h1
    have en : eqD (m1 ++ [Ob.lst ([] : List D)]) (.ref q) (.ref m1.length) = some true := by
      have := eqD_lists (a := []) (b := []) ((Kp.app (S := []) [Ob.lst ([] : List D)]).get0 h1) (at_new _)
      simpa using this
    have oe : ownEq prog (m1 ++ [Ob.lst ([] : List D)]) (.ref q) = none := ownEq_lst ((Kp.app (S := []) [Ob.lst ([] : List D)]).get0 h1)
    refine ⟨m1 ++ [Ob.lst ([] : List D)], ?_, k1.trans (.app _)⟩
    simp [d__law_is, startE, isI, tyv, isAny, isTy, e, newL, cmpE_of oe, en]
  | 0, .tup l, h, _, _, _ => by cases h
  | k, .ref _, h, _, _, _ => by cases k <;> cases h
  | k, .rng _ _, h, _, _, _ => by cases k <;> cases h
  | k, .fn _, h, _, _, _ => by cases k <;> cases h
  | k, .cls _, h, _, _, _ => by cases k <;> cases h
  | k, .ty _, h, _, _, _ => by cases k <;> cases h
  | k, .clo _ _, h, _, _, _ => by cases k <;> cases h
  | k, .exn _ _, h, _, _, _ => by cases k <;> cases h
theorem pure_ints (k : Nat) {F : List Int} (h : F.length ≤ 1000) : PureD (k + 1) (.tup (F.map .int)) = true := by
  unfold PureD
  rw [Bool.and_eq_true, decide_eq_true_eq, List.length_map]
  refine ⟨List.all_eq_true.mpr fun d hd => ?_, h⟩
  obtain ⟨x, _, rfl⟩ := List.mem_map.mp hd
  cases k <;> rfl
theorem pure_nrm {q : Nrm} (h1 : q.F.length ≤ 1000) (h2 : q.R.length ≤ 1000) : PureD 2 (.tup (nrmL q)) = true := by
  have a := pure_ints 0 h1
  have b := pure_ints 0 h2
  show ([D.tup (q.F.map .int), .int q.s, .int q.r, .tup (q.R.map .int)].all (PureD 1) && _) = true
  simp only [List.all_cons, List.all_nil, a, b, Bool.and_true, Bool.true_and]
  rfl
/-! ### drawn lots -/
/-- some of the numbers below -/
theorem some_ok (hb : BoxAt m b) {k : Nat} (hk : k ≤ 100000) (sh : Int) : ∃ (F : List Int) (m' : Mem), callN prog (n + 2) fr (.df ix__law_some) [.ref b, .int k, .int sh] m = .ok (.tup (F.map .int)) m' ∧ F.Pairwise (· < ·) ∧ (∀ x ∈ F, 0 ≤ x ∧ x < (k : Int)) ∧ BoxAt m' b ∧ Kp [b] m m' := by
  rw [call_df at__law_some rfl]
  obtain ⟨acc, m2, e, ⟨hb2, k2, F, rfl, hF, hFs⟩, hl⟩ := lc_inv (fr := fr) (P := prog) (C := callN prog (n + 1)) (x := .var 3) (g := .v 3) (k := .rng) (l := [.var 1]) (c := [.cmp .lt (.call ix__law_take [.var 0, .cst (.int 10)]) (.var 2)]) (own := [3]) (ρ := [some (.ref b), some (.int k), some (.int sh), none]) (m := m)
    (I := fun i acc m' => BoxAt m' b ∧ Kp [b] m m' ∧ ∃ F : List Int, acc = F.map D.int ∧ F.Pairwise (· < ·) ∧ ∀ x ∈ F, 0 ≤ x ∧ x < (i : Int)) (xs := (List.range k).map fun i : Nat => .int (0 + i)) (n := k) (s := .fix (rngL 0 (0 + k))) (ds := [.int k])
    (lock_no rfl) (by simp) (by rw [Int.zero_add]; exact src_rng1 (small_of (by omega) (by omega))) (by simp) (by unfold lim; omega) (fun i acc m' _ _ => (wk_rng 0 k).2 m' .refl) ⟨hb, .refl, [], rfl, by simp, by simp⟩
    (fun i d acc m' hi ⟨hb1, k1, F, hacc, hF, hFs⟩ => by
      have hik : i < k := by
        have := (List.getElem?_eq_some_iff.mp hi).1
        simpa using this
      rw [List.getElem?_map, List.getElem?_range hik] at hi
      cases hi
      obtain ⟨t, m3, e3, t0, t1, hb3, k3⟩ := take_ok (n := n) (fr := fr) hb1 (k := 10) (by omega) (by omega)
      refine ⟨[some (.ref b), some (.int k), some (.int sh), some (.int (0 + i))], by simp [wipeE, bindT], decide (t < sh), m3, by simp [e3], fun _ => ⟨hb3, k1.trans k3, F, hacc, hF, fun x hx => ?_⟩, fun _ => ⟨.int (0 + i), m3, by simp, hb3, k1.trans k3, F ++ [(i : Int)], by rw [hacc, List.map_append]; simp, ?_, fun x hx => ?_⟩⟩
      · have := hFs x hx; omega
      · rw [List.pairwise_append]
        exact ⟨hF, by simp, fun x hx y hy => by
          simp at hy
          subst hy
          exact (hFs x hx).2⟩
      · rcases List.mem_append.mp hx with z | z
        · have := hFs x z; omega
        · simp at z
          omega)
  refine ⟨F, m2 ++ [Ob.lst (F.map .int)], ?_, hF, hFs, hb2.kp (.app _), k2.trans (.app _)⟩
  simp [d__law_some, startE, e, bl_tuple (at_new (m := m2) (.lst (F.map .int)))]
/-- a lot told by four parts -/
def rawD (F : List Int) (s r : Nat) (R : List Int) : D := .tup [.tup (F.map .int), .int s, .int r, .tup (R.map .int)]
structure RawOk (F : List Int) (s r : Nat) (R : List Int) : Prop where
  hf : ∀ x ∈ F, 0 ≤ x ∧ x < (s : Int)
  fn : F.Nodup
  hr : ∀ x ∈ R, 0 ≤ x ∧ x < (r : Int)
  rn : R.Nodup
  r1 : 1 ≤ r
  s2 : s ≤ 1000
  r2 : r ≤ 60
theorem asc_nd {F : List Int} (h : F.Pairwise (· < ·)) : F.Nodup := h.imp fun h => by omega
theorem asc_len {F : List Int} {k : Nat} (h : F.Nodup) (hs : ∀ x ∈ F, 0 ≤ x ∧ x < (k : Int)) : F.length ≤ k := by
  have h1 := asc_sortI h
  have e : sortI F = upto k fun x => decide (x ∈ F) := upto_of h1 fun x => by
    rw [mem_sortI]
    exact ⟨fun z => ⟨(hs x z).1, (hs x z).2, decide_eq_true z⟩, fun z => of_decide_eq_true z.2.2⟩
  have e2 : (sortI F).length = F.length := by
    clear e h1 h hs
    induction F with
    | nil => rfl
    | cons a F ih =>
      show (insI a (sortI F)).length = _
      have : ∀ l : List Int, (insI a l).length = l.length + 1 := by
        intro l
        induction l with
        | nil => rfl
        | cons b l ih =>
          unfold insI
          split <;> simp [ih]
      rw [this, ih]
      rfl
  rw [← e2, e]
  exact upto_len k _
theorem RawOk.fl {F R : List Int} {s r : Nat} (h : RawOk F s r R) : F.length ≤ 1000 := Nat.le_trans (asc_len h.fn h.hf) h.s2
theorem RawOk.rl {F R : List Int} {s r : Nat} (h : RawOk F s r R) : R.length ≤ 60 := Nat.le_trans (asc_len h.rn h.hr) h.r2
theorem raw_ok (hb : BoxAt m b) {p : Nat} {qs : List Int} {mo : Nat} (hp : m[p]? = some (.lst (qs.map .int))) (hpb : p ≠ b) (hmo : mo ≤ 900) (hq1 : 1 ≤ qs.length) (hq2 : qs.length < 1000) (hqs : ∀ x ∈ qs, 1 ≤ x ∧ x ≤ 60) :
    ∃ (F : List Int) (s r : Nat) (R : List Int) (m' : Mem), callN prog (n + 3) fr (.df ix__law_raw) [.ref b, .int mo, .ref p] m = .ok (rawD F s r R) m' ∧ RawOk F s r R ∧ s ≤ mo ∧ (r : Int) ∈ qs ∧ BoxAt m' b ∧ Kp [b] m m' := by
  rw [call_df at__law_raw rfl]
  obtain ⟨t, m1, e1, t0, t1, hb1, k1⟩ := take_ok (n := n + 1) (fr := fr) hb (k := (mo : Int) + 1) (by omega) (by omega)
  obtain ⟨s, rfl⟩ := Int.eq_ofNat_of_zero_le t0
  obtain ⟨d, m2, e2, hd, hb2, k2⟩ := pick_ok (n := n) (fr := fr) hb1 (k1.get hp (by simpa using hpb)) hpb (by simpa using hq1) (by simpa using hq2)
  obtain ⟨ri, hri, rfl⟩ := List.mem_map.mp hd
  obtain ⟨q1, q2⟩ := hqs ri hri
  obtain ⟨r, rfl⟩ := Int.eq_ofNat_of_zero_le (show 0 ≤ ri by omega)
  have kl : Kp [] m2 (m2 ++ [Ob.lst [.int 0, .int 3, .int 5, .int 8, .int 10]]) := .app _
  have hml : m2.length ≠ b := by have := hb2.lt; omega
  obtain ⟨d2, m3, e3, hd2, hb3, k3⟩ := pick_ok (n := n) (fr := fr) (hb2.kp kl) (at_new (m := m2) (.lst [.int 0, .int 3, .int 5, .int 8, .int 10])) hml (by simp) (by simp)
  obtain ⟨sh, rfl⟩ : ∃ sh, d2 = .int sh := by simp at hd2; rcases hd2 with z | z | z | z | z <;> exact ⟨_, z⟩
  obtain ⟨F, m4, e4, hF, hFs, hb4, k4⟩ := some_ok (n := n) (fr := fr) hb3 (k := s) (by omega) 5
  obtain ⟨R, m5, e5, hR, hRs, hb5, k5⟩ := some_ok (n := n) (fr := fr) hb4 (k := r) (by omega) sh
  refine ⟨F, s, r, R, m5, ?_, ⟨hFs, asc_nd hF, hRs, asc_nd hR, by omega, by omega, by omega⟩, by omega, hri, hb5, ((((k1.trans k2).trans kl.any).trans k3).trans k4).trans k5⟩
  simp [d__law_raw, startE, e1, e2, newL, e3, e4, e5, rawD]
theorem in_ok {F R : List Int} {s r : Nat} (hr : 1 ≤ r) (x : Int) : callN prog (n + 1) fr (.df ix__law_in) [rawD F s r R, .int x] m = .ok (.bl (memB F s r R x)) m := by
  rw [call_df at__law_in rfl]
  have h0 : 0 < r := hr
  have i0 : index (rawD F s r R) (.int 0) m = .ok (.tup (F.map .int)) m := ix_tup (by omega) rfl
  have i1 : index (rawD F s r R) (.int 1) m = .ok (.int s) m := ix_tup (by omega) rfl
  have i2 : index (rawD F s r R) (.int 2) m = .ok (.int r) m := ix_tup (by omega) rfl
  have i3 : index (rawD F s r R) (.int 3) m = .ok (.tup (R.map .int)) m := ix_tup (by omega) rfl
  unfold memB
  by_cases hx : x < s
  · simp [d__law_in, startE, i0, i1, i2, i3, hx, c_inT]
  · simp [d__law_in, startE, i0, i1, i2, i3, hx, c_inT, bltin, h0]
/-! ### the law's own normal form -/
theorem beg_sat {b : Int → Bool} {d s : Nat} : ∀ i : Nat, i ≤ s → max (beg b d s) (s - (i + 1)) = if 0 < max (beg b d s) (s - i) ∧ b (((max (beg b d s) (s - i) : Nat) : Int) - 1) = b (((max (beg b d s) (s - i) : Nat) : Int) - 1 + d) then max (beg b d s) (s - i) - 1 else max (beg b d s) (s - i) := by
  intro i hi
  have hle := beg_le (b := b) (d := d) s
  obtain ⟨h1, h2⟩ := beg_spec (b := b) (d := d) s
  generalize beg b d s = g at hle h1 h2
  by_cases hg : g < s - i
  · have e : max g (s - i) = s - i := by omega
    rw [e, if_pos ⟨by omega, h1 _ (by omega) (by omega)⟩]
    omega
  · have e : max g (s - i) = g := by omega
    rw [e, if_neg]
    · omega
    · rintro ⟨h3, h4⟩
      rcases h2 with z | z
      · omega
      · exact z h4
theorem lnormal_ok {p s r : Nat} {b : Int → Bool} (hp : m[p]? = some (.lst ((List.range (s + 2 * r)).map fun i : Nat => .bl (b i)))) (hper : Per b s r) (hr : 1 ≤ r) (hr2 : r ≤ 1000) (hs : s ≤ 10000) :
    ∃ m', callN prog (n + 1) fr (.df ix__law_normal) [.ref p, .int s, .int r] m = .ok (.tup (nrmL (nrm b s r))) m' ∧ Kp [] m m' := by
  rw [call_df at__law_normal rfl]
  simp only [d__law_normal, startE, List.map_cons, List.map_nil, List.length_cons, List.length_nil, List.cons_append, List.nil_append]
  simp only [List.replicate]
  have sg : ∀ {m' : Mem}, Kp [] m m' → ∀ x : Int, 0 ≤ x → x < s + 2 * r → index (.ref p) (.int x) m' = .ok (.bl (b x)) m' := fun k x h0 h1 => by
    obtain ⟨i, rfl⟩ := Int.eq_ofNat_of_zero_le h0
    refine ix_lst (k.get0 hp) h0 ?_
    rw [List.getElem?_map, Int.toNat_natCast, List.getElem?_range (by omega)]
    rfl
  obtain ⟨f1, f2, f3, f4, f5⟩ := far_spec hper hr
  -- the far ring
  obtain ⟨q, m1, e1, h1, k1, _⟩ := lc_filter (fr := fr) (P := prog) (C := callN prog n) (x := .var 7) (g := .v 7) (k := .rng) (l := [.cst (.int 1), .bin .add (.var 2) (.cst (.int 1))]) (c := [.and (.cmp .eq (.bin .mod (.var 2) (.var 7)) (.cst (.int 0))) (.cmp .eq (.lc (.var 8) (.v 8) .rng [.var 1, .bin .add (.var 1) (.var 2)] [.cmp .ne (.idx (.var 0) (.var 8)) (.idx (.var 0) (.bin .add (.var 8) (.var 7)))] [8]) (.lst []))]) (own := [7])
    (ρ := [some (.ref p), some (.int s), some (.int r), none, none, none, none, none, none]) (m := m) (ys := List.range r) (fy := fun i : Nat => .int (1 + i)) (n := r) (s := .fix (rngL 1 (1 + r))) (ds := [.int 1, .int (1 + r)]) (fun i => farB b s r (i + 1)) (fun i : Nat => .int (1 + i))
    (lock_no rfl) (by simp [Int.add_comm]) .refl (by rw [src_rng2 (small_of (by omega) (by omega)) (small_of (by omega) (by omega))]; rw [show (1 + (r : Int) - 1).toNat = r by omega]) (wk_rng 1 r) (by unfold lim; omega) (fun i hi m' k' => by
      rw [List.mem_range] at hi
      have hpos : (0 : Int) < 1 + i := by omega
      by_cases hm : r % (i + 1) = 0
      · have hm' : (r : Int) % (1 + i) = 0 := by
          have : ((r % (i + 1) : Nat) : Int) = 0 := by rw [hm]; rfl
          rw [Int.natCast_emod] at this
          push_cast at this
          rw [Int.add_comm] at this
          exact this
        have hle : i + 1 ≤ r := by omega
        obtain ⟨q2, m2, e2, h2, k2, _⟩ := lc_filter (fr := fr) (P := prog) (C := callN prog n) (x := .var 8) (g := .v 8) (k := .rng) (l := [.var 1, .bin .add (.var 1) (.var 2)]) (c := [.cmp .ne (.idx (.var 0) (.var 8)) (.idx (.var 0) (.bin .add (.var 8) (.var 7)))]) (own := [8])
          (ρ := [some (.ref p), some (.int s), some (.int r), none, none, none, none, some (.int (1 + i)), none]) (m := m') (ys := List.range r) (fy := fun j : Nat => .int (s + j)) (n := r) (s := .fix (rngL s (s + r))) (ds := [.int s, .int (s + r)]) (fun j => !(b (s + j) == b (s + j + (i + 1 : Nat)))) (fun j : Nat => .int (s + j))
          (lock_no rfl) (by simp) .refl (by rw [src_rng2 (small_of (by omega) (by omega)) (small_of (by omega) (by omega))]; rw [show ((s : Int) + r - s).toNat = r by omega]) (wk_rng s r) (by unfold lim; omega) (fun j hj m3 k3 => by
            rw [List.mem_range] at hj
            have g1 := sg (k'.trans k3) (s + j) (by omega) (by omega)
            have g2 := sg (k'.trans k3) (s + j + (1 + i)) (by omega) (by omega)
            refine ⟨[some (.ref p), some (.int s), some (.int r), none, none, none, none, some (.int (1 + i)), some (.int (s + j))], m3, by simp [wipeE, bindT], ?_, .refl, fun _ => ⟨m3, by simp, .refl⟩⟩
            have e9 : ((i + 1 : Nat) : Int) = 1 + i := by omega
            rw [e9]
            simp [g1, g2]
            cases b (s + j) <;> cases b (s + j + (1 + i)) <;> rfl)
        have en : eqD (m2 ++ [Ob.lst ([] : List D)]) (.ref q2) (.ref m2.length) = some (decide (((List.range r).filter fun j : Nat => !(b (s + j) == b (s + j + (i + 1 : Nat)))).map (fun j : Nat => ((s : Int) + j)) = [])) := by
          refine eqD_lists ?_ (b := []) (at_new _)
          rw [(Kp.app (S := []) [Ob.lst ([] : List D)]).get0 h2, List.map_map]
          rfl
        have oe : ownEq prog (m2 ++ [Ob.lst ([] : List D)]) (.ref q2) = none := ownEq_lst ((Kp.app (S := []) [Ob.lst ([] : List D)]).get0 h2)
        have ef : decide (((List.range r).filter fun j : Nat => !(b (s + j) == b (s + j + (i + 1 : Nat)))).map (fun j : Nat => ((s : Int) + j)) = []) = farB b s r (i + 1) := by
          unfold farB
          rw [hm, Bool.eq_iff_iff, decide_eq_true_eq, List.map_eq_nil_iff, List.filter_eq_nil_iff]
          simp only [beq_self_eq_true, Bool.true_and, List.all_eq_true, Bool.not_eq_true', Bool.not_eq_false]
        rw [ef] at en
        refine ⟨[some (.ref p), some (.int s), some (.int r), none, none, none, none, some (.int (1 + i)), none], m2 ++ [Ob.lst ([] : List D)], by simp [wipeE, bindT], ?_, k2.trans (.app _), fun _ => ⟨_, by simp, .refl⟩⟩
        simp [hpos, hm', e2, newL, cmpE_of oe, en]
      · have hm' : ¬ (r : Int) % (1 + i) = 0 := fun z => hm (by
          have : ((r % (i + 1) : Nat) : Int) = 0 := by
            rw [Int.natCast_emod]
            push_cast
            rw [Int.add_comm (i : Int) 1]
            exact z
          omega)
        have ef : farB b s r (i + 1) = false := by
          unfold farB
          rw [beq_eq_false_iff_ne.mpr hm]
          rfl
        refine ⟨[some (.ref p), some (.int s), some (.int r), none, none, none, none, some (.int (1 + i)), none], m', by simp [wipeE, bindT], ?_, .refl, fun z => by rw [ef] at z; cases z⟩
        rw [ef]
        simp [hpos, hm'])
  have e2 : index (.ref q) (.int 0) m1 = .ok (.int (far b s r)) m1 := by
    refine ix_lst h1 (by omega) ?_
    have e3 : ((List.range r).filter fun i => farB b s r (i + 1)).map (fun i : Nat => (1 + i)) = ((List.range r).map (· + 1)).filter (farB b s r) := by
      rw [List.filter_map]
      refine List.map_congr_left fun x _ => Nat.add_comm 1 x
    have e4 : (((List.range r).map (· + 1)).filter (farB b s r)).head? = some (far b s r) := by
      rw [List.head?_filter]
      unfold far
      cases e5 : ((List.range r).map (· + 1)).find? (farB b s r) with
      | some d => rfl
      | none =>
        have := List.find?_eq_none.mp e5 r (List.mem_map.mpr ⟨r - 1, List.mem_range.mpr (by omega), by omega⟩)
        exact absurd ((farB_iff hper hr hr).mpr ⟨Nat.mod_self r, hper⟩) this
    rw [← e3] at e4
    rw [Int.toNat_zero, ← List.head?_eq_getElem?]
    rw [List.head?_map] at e4 ⊢
    obtain ⟨x, hx, hx2⟩ := Option.map_eq_some_iff.mp e4
    rw [hx]
    simp only [Option.map_some, Option.some.injEq, D.int.injEq]
    omega
  generalize hd : far b s r = d at f1 f2 f3 f4 f5 e2
  -- the begin
  have hq : exe prog (callN prog n) fr (.for_ (.v 5) .rng [.var 1] [
    .ife (.and (.cmp .gt (.var 4) (.cst (.int 0))) (.cmp .eq (.idx (.var 0) (.bin .sub (.var 4) (.cst (.int 1)))) (.idx (.var 0) (.bin .add (.bin .sub (.var 4) (.cst (.int 1))) (.var 3))))) [
      .set (.v 4) (.bin .sub (.var 4) (.cst (.int 1)))] []]) [some (.ref p), some (.int s), some (.int r), some (.int d), some (.int s), none, none, none, none] m1 = .nx [some (.ref p), some (.int s), some (.int r), some (.int d), some (.int s), none, none, none, none] m1 ∧ s = 0 ∨
    ∃ x, exe prog (callN prog n) fr (.for_ (.v 5) .rng [.var 1] [
    .ife (.and (.cmp .gt (.var 4) (.cst (.int 0))) (.cmp .eq (.idx (.var 0) (.bin .sub (.var 4) (.cst (.int 1)))) (.idx (.var 0) (.bin .add (.bin .sub (.var 4) (.cst (.int 1))) (.var 3))))) [
      .set (.v 4) (.bin .sub (.var 4) (.cst (.int 1)))] []]) [some (.ref p), some (.int s), some (.int r), some (.int d), some (.int s), none, none, none, none] m1 = .nx [some (.ref p), some (.int s), some (.int r), some (.int d), some (.int (beg b d s)), x, none, none, none] m1 := by
    refine .inr ?_
    refine for_run (m1 := m1) (I := fun i ρ m' => m' = m1 ∧ i ≤ s ∧ ∃ x, ρ = [some (.ref p), some (.int s), some (.int r), some (.int d), some (.int (max (beg b d s) (s - i) : Nat)), x, none, none, none]) (xs := (List.range s).map fun i : Nat => .int (0 + i)) (n := s) (s := .fix (rngL 0 (0 + s))) (ds := [.int s])
      (Q := fun z => ∃ x, z = .nx [some (.ref p), some (.int s), some (.int r), some (.int d), some (.int (beg b d s)), x, none, none, none] m1) rfl (by simp) (by rw [Int.zero_add]; exact src_rng1 (small_of (by omega) (by omega))) (by simp) (fun i ρ m' _ _ => (wk_rng 0 s).2 m' .refl) ⟨rfl, Nat.zero_le _, none, ?_⟩ ?_ ?_
    · have := beg_le (b := b) (d := d) s
      rw [show max (beg b d s) (s - 0) = s by omega]
    · rintro i dd ρ m' hi ⟨rfl, his, x, rfl⟩
      have hik : i < s := by
        have := (List.getElem?_eq_some_iff.mp hi).1
        simpa using this
      have hst := beg_sat (b := b) (d := d) (s := s) i (by omega)
      have hle := beg_le (b := b) (d := d) s
      generalize hG : max (beg b d s) (s - i) = G at hst
      have hGs : G ≤ s := by omega
      refine ⟨[some (.ref p), some (.int s), some (.int r), some (.int d), some (.int G), some dd, none, none, none], by simp [bindT], .inl ?_⟩
      by_cases h0 : 0 < G
      · have g1 := sg k1 ((G : Int) - 1) (by omega) (by omega)
        have g2 := sg k1 ((G : Int) - 1 + d) (by omega) (by omega)
        by_cases hb : b ((G : Int) - 1) = b ((G : Int) - 1 + d)
        · rw [if_pos ⟨h0, hb⟩] at hst
          refine ⟨[some (.ref p), some (.int s), some (.int r), some (.int d), some (.int ((G : Int) - 1)), some dd, none, none, none], m', .inl ?_, rfl, by omega, some dd, ?_⟩
          · simp [h0, g1, g2, hb]
          · rw [hst, show ((G - 1 : Nat) : Int) = (G : Int) - 1 by omega]
        · rw [if_neg (fun z => hb z.2)] at hst
          refine ⟨[some (.ref p), some (.int s), some (.int r), some (.int d), some (.int G), some dd, none, none, none], m', .inl ?_, rfl, by omega, some dd, ?_⟩
          · simp [h0, g1, g2, hb]
          · rw [hst]
      · rw [if_neg (fun z => h0 z.1)] at hst
        refine ⟨[some (.ref p), some (.int s), some (.int r), some (.int d), some (.int G), some dd, none, none, none], m', .inl ?_, rfl, by omega, some dd, ?_⟩
        · simp [h0]
        · rw [hst]
    · rintro ρ m' ⟨rfl, _, x, rfl⟩
      refine ⟨x, ?_⟩
      rw [show max (beg b d s) (s - s) = beg b d s by omega]
  have hq : ∃ x, exe prog (callN prog n) fr (.for_ (.v 5) .rng [.var 1] [
    .ife (.and (.cmp .gt (.var 4) (.cst (.int 0))) (.cmp .eq (.idx (.var 0) (.bin .sub (.var 4) (.cst (.int 1)))) (.idx (.var 0) (.bin .add (.bin .sub (.var 4) (.cst (.int 1))) (.var 3))))) [
      .set (.v 4) (.bin .sub (.var 4) (.cst (.int 1)))] []]) [some (.ref p), some (.int s), some (.int r), some (.int d), some (.int s), none, none, none, none] m1 = .nx [some (.ref p), some (.int s), some (.int r), some (.int d), some (.int (beg b d s)), x, none, none, none] m1 := by
    rcases hq with ⟨h, h0⟩ | h
    · refine ⟨none, ?_⟩
      rw [h]
      subst h0
      rfl
    · exact h
  obtain ⟨x5, e3⟩ := hq
  have hle := beg_le (b := b) (d := d) s
  generalize hg : beg b d s = g at e3 hle
  -- firsts
  obtain ⟨q3, m3, e4, h4, k4, _⟩ := lc_filter (fr := fr) (P := prog) (C := callN prog n) (x := .var 8) (g := .v 8) (k := .rng) (l := [.var 4]) (c := [.idx (.var 0) (.var 8)]) (own := [8]) (ρ := [some (.ref p), some (.int s), some (.int r), some (.int d), some (.int g), x5, none, none, none]) (m := m1) (ys := List.range g) (fy := fun i : Nat => .int (0 + i)) (n := g) (s := .fix (rngL 0 (0 + g))) (ds := [.int g]) (fun i => b i) (fun i : Nat => .int i)
    (lock_no rfl) (by simp) .refl (by rw [Int.zero_add]; exact src_rng1 (small_of (by omega) (by omega))) (wk_rng 0 g) (by unfold lim; omega) (fun i hi m' k' => by
      rw [List.mem_range] at hi
      have g1 := sg (k1.trans k') i (by omega) (by omega)
      exact ⟨[some (.ref p), some (.int s), some (.int r), some (.int d), some (.int g), x5, none, none, some (.int (0 + i))], m', by simp [wipeE, bindT], by simp [g1], .refl, fun _ => ⟨m', by simp, .refl⟩⟩)
  have ups : ∀ (k : Nat) (c : Int → Bool), ((List.range k).filter fun i : Nat => c i).map (fun i : Nat => D.int i) = (upto k c).map D.int := fun k c => by
    unfold upto
    rw [List.filter_map, List.map_map]
    rfl
  rw [ups g b] at h4
  -- rests
  obtain ⟨q5, m5, e5, h5, k5, _⟩ := lc_filter (fr := fr) (P := prog) (C := callN prog n) (x := .var 8) (g := .v 8) (k := .rng) (l := [.var 3]) (c := [.idx (.var 0) (.bin .add (.var 4) (.var 8))]) (own := [8]) (ρ := [some (.ref p), some (.int s), some (.int r), some (.int d), some (.int g), x5, some (.tup ((upto g b).map .int)), none, none]) (m := m3) (ys := List.range d) (fy := fun i : Nat => .int (0 + i)) (n := d) (s := .fix (rngL 0 (0 + d))) (ds := [.int d]) (fun i => b (g + i)) (fun i : Nat => .int i)
    (lock_no rfl) (by simp) .refl (by rw [Int.zero_add]; exact src_rng1 (small_of (by omega) (by omega))) (wk_rng 0 d) (by unfold lim; omega) (fun i hi m' k' => by
      rw [List.mem_range] at hi
      have g1 := sg ((k1.trans k4).trans k') (g + i) (by omega) (by omega)
      exact ⟨[some (.ref p), some (.int s), some (.int r), some (.int d), some (.int g), x5, some (.tup ((upto g b).map .int)), none, some (.int (0 + i))], m', by simp [wipeE, bindT], by simp [g1], .refl, fun _ => ⟨m', by simp, .refl⟩⟩)
  rw [ups d fun t => b (g + t)] at h5
  refine ⟨m5, ?_, (k1.trans k4).trans k5⟩
  rw [xs_cons, x_set, e_idx, e1]
  simp only [rb_ok, e_cst, e2, to_ok, st_v, List.length_cons, List.length_nil, Nat.reduceAdd, Nat.reduceLT, if_true, seq_nx, List.set]
  simp [e3, e4, bl_tuple h4, e5, bl_tuple h5, nrmL, nrm, hd, hg]
end
end K03

-- L03b
set_option linter.all false
set_option Elab.async false
set_option maxRecDepth 10000
namespace K03
open Ms
open PySem (Str PyData)
section
variable {n : Nat} {fr : Fr} {m : Mem} {b : Nat}
theorem raw0 {F R : List Int} {s r : Nat} : index (rawD F s r R) (.int 0) m = .ok (.tup (F.map .int)) m := ix_tup (by omega) rfl
theorem raw1 {F R : List Int} {s r : Nat} : index (rawD F s r R) (.int 1) m = .ok (.int s) m := ix_tup (by omega) rfl
theorem raw2 {F R : List Int} {s r : Nat} : index (rawD F s r R) (.int 2) m = .ok (.int r) m := ix_tup (by omega) rfl
theorem raw3 {F R : List Int} {s r : Nat} : index (rawD F s r R) (.int 3) m = .ok (.tup (R.map .int)) m := ix_tup (by omega) rfl
theorem memB_perm {F R F' R' : List Int} {s r : Nat} (h1 : F'.Perm F) (h2 : R'.Perm R) : memB F' s r R' = memB F s r R := by
  funext x
  unfold memB
  simp only [h1.mem_iff, h2.mem_iff]
theorem lot_ok {F R : List Int} {s r : Nat} (hb : BoxAt m b) (h : RawOk F s r R) (hs : s ≤ 900) : ∃ p m', callN prog (n + 6) fr (.df ix__law_lot) [.ref b, rawD F s r R] m = .ok (.ref p) m' ∧ m'[p]? = some (lotO (nrm (memB F s r R) s r)) ∧ BoxAt m' b ∧ Kp [b] m m' ∧ m.length ≤ p := by
  have fl : F.length ≤ 900 := Nat.le_trans (asc_len h.fn h.hf) hs
  have rl := h.rl
  rw [call_df at__law_lot rfl]
  obtain ⟨p1, F', m1, e1, h1, q1, hb1, k1, l1⟩ := mixed_ok (n := n + 3) (fr := fr) hb (xs := F) (by omega)
  obtain ⟨p2, R', m2, e2, h2, q2, hb2, k2, l2⟩ := mixed_ok (n := n + 3) (fr := fr) hb1 (xs := R) (by omega)
  have hp1 : p1 ≠ b := by have := hb.lt; omega
  obtain ⟨p, m3, e3, h3, k3, l3⟩ := mk_ok (n := n) (fr := fr) (m := m2) (vF := .ref p1) (vR := .tup (R'.map .int)) (F := F') (R := R') (s := s) (r := r) (.inr ⟨p1, rfl, k2.get h1 (by simpa using hp1)⟩) (.inl rfl)
    (Nat.le_trans (Nat.le_of_eq q1.length_eq) (by unfold lim; omega)) (Nat.le_trans (Nat.le_of_eq q2.length_eq) (by unfold lim; omega)) h.s2 h.r1 h.r2 (fun x hx => h.hf x (q1.mem_iff.mp hx)) (q1.nodup_iff.mpr h.fn) (fun x hx => h.hr x (q2.mem_iff.mp hx)) (q2.nodup_iff.mpr h.rn)
  rw [memB_perm q1 q2] at h3
  have := k1.len
  have := k2.len
  refine ⟨p, m3, ?_, h3, hb2.kp k3, (k1.trans k2).trans k3.any, by omega⟩
  simp [d__law_lot, startE, raw0, raw1, raw2, raw3, e1, e2, bl_tuple h2, e3]
theorem four_ok {p : Nat} {q : Nrm} (h : m[p]? = some (lotO q)) : callN prog (n + 1) fr (.df ix__law_four) [.ref p] m = .ok (.tup (nrmL q)) m := by
  rw [call_df at__law_four rfl]
  simp [d__law_four, startE, is_lot h, f_firsts h, f_start h, f_ring h, f_rests h, nrmL]
/-! ### what is refused -/
/-! ### the same told otherwise, and nearly the same -/
theorem ups (k : Nat) (c : Int → Bool) : ((List.range k).filter fun i : Nat => c i).map (fun i : Nat => D.int i) = (upto k c).map D.int := by
  unfold upto
  rw [List.filter_map, List.map_map]
  rfl
/-! ### the box -/
theorem box_ok {ns : List Int} (hn : ns.length ≤ 63) (p0 : Nat) (h0 : m[p0]? = some (.lst (ns.map .int)) ∨ m[p0]? = some (.flst (ns.map .int))) : ∃ (c : Nat) (m' : Mem), callN prog (n + 1) fr (.df ix__law_box) [.ref p0] m = .ok (.ref c) m' ∧ BoxAt m' c := by
  rw [call_df at__law_box rfl]
  simp only [d__law_box, startE, List.map_cons, List.map_nil, List.length_cons, List.length_nil, List.cons_append, List.nil_append]
  simp only [List.replicate]
  have e1 : slice (.ref p0) none (some 63) (m ++ [Ob.lst []]) = .ok (.ref (m.length + 1)) (m ++ [Ob.lst []] ++ [Ob.lst (ns.map .int)]) := by
    have c : cutL (ns.map D.int) none (some (63 : Int)) = ns.map D.int := by
      have := cut_to (ns.map D.int) 63
      rw [List.take_of_length_le (by simpa using hn)] at this
      exact this
    rcases h0 with h | h
    · have h := (Kp.app (S := []) [Ob.lst ([] : List D)]).get0 h
      simp only [slice, h, c]
      simp
    · have h := (Kp.app (S := []) [Ob.lst ([] : List D)]).get0 h
      simp only [slice, h, c]
      simp
  have hloop : ∃ (x3 x4 x5 : Option D) (st : Int) (cells : List Int) (m' : Mem), exe prog (callN prog n) fr (.for_ (.t [.v 3, .v 4]) .enum [.slc (.var 0) none (some (.cst (.int 63)))] [
    .set (.v 5) (.bin .add (.bin .mul (.blt .abs [.var 4]) (.cst (.int 2))) (.blt .int [.cmp .lt (.var 4) (.cst (.int 0))])),
    .ife (.cmp .ge (.blt .abs [.var 4]) (.bin .pow (.cst (.int 10)) (.cst (.int 18)))) [
      .ex (.mth .append (.var 1) [.blt .abs [.var 4]])] [],
    .set (.v 2) (.bin .add (.bin .mod (.blt .int [.bin .add (.bin .add (.bin .mul (.var 2) (.cst (.int 48271))) (.bin .mul (.bin .mod (.blt .int [.var 5]) (.cst (.int 2147483629))) (.bin .add (.bin .mul (.cst (.int 2)) (.var 3)) (.cst (.int 69621))))) (.cst (.int 11))]) (.cst (.int 2147483629))) (.cst (.int 1)))])
      [some (.ref p0), some (.ref m.length), some (.int 40503), none, none, none] (m ++ [Ob.lst []]) = .nx [some (.ref p0), some (.ref m.length), some (.int st), x3, x4, x5] m' ∧ 0 ≤ st ∧ st < 2147483648 ∧ m'[m.length]? = some (.lst (cells.map .int)) ∧ cells.length ≤ 63 := by
    refine for_run (m1 := m ++ [Ob.lst []] ++ [Ob.lst (ns.map .int)]) (I := fun i ρ m' => ∃ (x3 x4 x5 : Option D) (st : Int) (cells : List Int), ρ = [some (.ref p0), some (.ref m.length), some (.int st), x3, x4, x5] ∧ 0 ≤ st ∧ st < 2147483648 ∧ m'[m.length]? = some (.lst (cells.map .int)) ∧ cells.length ≤ i ∧ m'[m.length + 1]? = some (.lst (ns.map .int)))
      (xs := (ns.map D.int).zipIdx.map fun q => .tup [.int q.2, q.1]) (n := (ns.map D.int).length) (s := .enum (m.length + 1)) (ds := [.ref (m.length + 1)])
      (Q := fun z => ∃ (x3 x4 x5 : Option D) (st : Int) (cells : List Int) (m' : Mem), z = .nx [some (.ref p0), some (.ref m.length), some (.int st), x3, x4, x5] m' ∧ 0 ≤ st ∧ st < 2147483648 ∧ m'[m.length]? = some (.lst (cells.map .int)) ∧ cells.length ≤ 63) rfl (by simp [e1]) ?_ (by simp) (fun i ρ m' _ ⟨_, _, _, _, _, _, _, _, _, _, h⟩ => (wk_enum h).2 m' .refl) ?_ ?_ ?_
    · have : (m ++ [Ob.lst []] ++ [Ob.lst (ns.map .int)])[m.length + 1]? = some (.lst (ns.map .int)) := by simp
      simp only [src, lstAt, this, Option.map_some]
    · exact ⟨none, none, none, 40503, [], rfl, by omega, by omega, by simp, by simp, by simp⟩
    · rintro i d ρ m' hi ⟨x3, x4, x5, st, cells, rfl, s0, s1, hc, hcl, hp⟩
      obtain ⟨z, rfl⟩ : ∃ z : Int, d = .tup [.int i, .int z] := by
        rw [List.getElem?_map, List.getElem?_zipIdx, List.getElem?_map] at hi
        cases hz : ns[i]? with
        | none => rw [hz] at hi; cases hi
        | some z =>
          rw [hz] at hi
          simp at hi
          exact ⟨z, hi.symm⟩
      have hin : i < ns.length := by
        have := (List.getElem?_eq_some_iff.mp hi).1
        simpa using this
      refine ⟨[some (.ref p0), some (.ref m.length), some (.int st), some (.int i), some (.int z), x5], by simp [bindT, bindTs], .inl ?_⟩
      generalize hsz : ((z.natAbs : Int) * 2 + if z < 0 then 1 else 0) = sz
      generalize hst : (st * 48271 + sz % 2147483629 * (2 * (i : Int) + 69621) + 11) % 2147483629 + 1 = st'
      have z1 := Int.emod_nonneg (st * 48271 + sz % 2147483629 * (2 * (i : Int) + 69621) + 11) (show (2147483629 : Int) ≠ 0 by omega)
      have z2 := Int.emod_lt_of_pos (st * 48271 + sz % 2147483629 * (2 * (i : Int) + 69621) + 11) (show (0 : Int) < 2147483629 by omega)
      have z3 : (sz % 2147483629).natAbs < 18446744073709551616 := by omega
      have hl : cells.length < lim := by unfold lim; omega
      by_cases hz : (1000000000000000000 : Int) ≤ z.natAbs
      · refine ⟨[some (.ref p0), some (.ref m.length), some (.int st'), some (.int i), some (.int z), some (.int sz)], m'.set m.length (.lst (cells.map .int ++ [.int z.natAbs])), .inl ?_, some (.int i), some (.int z), some (.int sz), st', cells ++ [(z.natAbs : Int)], rfl, by omega, by omega, ?_, by simp; omega, ?_⟩
        · have ea : meth .append (.ref m.length) [.int z.natAbs] m' = .ok .non (m'.set m.length (.lst (cells.map .int ++ [.int z.natAbs]))) := mt_append hc (by simpa using hl)
          have er : recv .append m' (.ref m.length) = true := recv_lst hc
          simp [bltin, binop, hsz, hz, ea, er, z3, hst]
        · rw [List.map_append]
          exact List.getElem?_set_self (lt_of hc)
        · rw [List.getElem?_set_ne (by omega)]
          exact hp
      · refine ⟨[some (.ref p0), some (.ref m.length), some (.int st'), some (.int i), some (.int z), some (.int sz)], m', .inl ?_, some (.int i), some (.int z), some (.int sz), st', cells, rfl, by omega, by omega, hc, by omega, hp⟩
        simp [bltin, binop, hsz, hz, z3, hst]
    · rintro ρ m' ⟨x3, x4, x5, st, cells, rfl, s0, s1, hc, hcl, hp⟩
      rw [List.length_map] at hcl
      exact ⟨x3, x4, x5, st, cells, m', rfl, s0, s1, hc, by omega⟩
  obtain ⟨x3, x4, x5, st, cells, m', e2, s0, s1, hc, hcl⟩ := hloop
  refine ⟨m'.length, m' ++ [Ob.lst [.ref m.length, .int st]], ?_, m.length, st, cells, by simp, (Kp.app (S := []) _).get0 hc, by have := lt_of hc; omega, s0, s1, by omega⟩
  simp [newL, e2]
end
end K03

-- B03
set_option linter.all false
set_option Elab.async false
set_option maxRecDepth 10000
namespace K03
open Ms
open PySem (Str PyData)
/-! ### what is in a lot -/
/-- a lot in normal form, of these numbers -/
structure Lot (b : Int → Bool) (q : Nrm) : Prop where
  r1 : 1 ≤ q.r
  r2 : q.r ≤ 5000
  s2 : q.s ≤ 1000
  per : Per b q.s q.r
  F : q.F = upto q.s b
  R : q.R = upto q.r fun t => b (q.s + t)
theorem lot_of {F R : List Int} {s r : Nat} (h : RawOk F s r R) : Lot (memB F s r R) (nrm (memB F s r R) s r) := by
  have r2 := h.r2
  have s2 := h.s2
  have f := far_spec (memB_per (F := F) (s := s) h.r1 h.hr) h.r1
  have g := beg_le (b := memB F s r R) (d := far (memB F s r R) s r) s
  refine ⟨f.1, by show far _ _ _ ≤ 5000; omega, by show beg _ _ _ ≤ 1000; omega, fun x hx => per_from f.2.2.2.1 x hx, rfl, rfl⟩
section
variable {b : Int → Bool} {q : Nrm}
theorem Lot.mem (L : Lot b q) {x : Int} (hx : 0 ≤ x) : memB q.F q.s q.r q.R x = b x := by
  have r1 := L.r1
  unfold memB
  by_cases h : x < q.s
  · rw [if_pos h, L.F]
    have : (x ∈ upto q.s b) ↔ b x = true := mem_upto.trans ⟨fun z => z.2.2, fun z => ⟨hx, h, z⟩⟩
    cases hb : b x with
    | true => exact decide_eq_true (this.mpr hb)
    | false => exact decide_eq_false fun z => by rw [this.mp z] at hb; cases hb
  · rw [if_neg h, L.R]
    have m0 := Int.emod_nonneg (x - q.s) (show (q.r : Int) ≠ 0 by omega)
    have m1 := Int.emod_lt_of_pos (x - q.s) (show (0 : Int) < q.r by omega)
    have e : b x = b (q.s + (x - q.s) % q.r) := by
      obtain ⟨t, ht⟩ := Int.eq_ofNat_of_zero_le (Int.ediv_nonneg (show 0 ≤ x - q.s by omega) (show (0 : Int) ≤ q.r by omega))
      have := per_mul L.per (x := q.s + (x - q.s) % q.r) (by omega) t
      rw [← this]
      congr 1
      have e2 := Int.mul_ediv_add_emod (x - q.s) q.r
      rw [ht, Int.mul_comm] at e2
      omega
    have : ((x - q.s) % q.r ∈ upto q.r fun t => b (q.s + t)) ↔ b x = true := mem_upto.trans ⟨fun z => by rw [e]; exact z.2.2, fun z => ⟨m0, m1, by rw [← e]; exact z⟩⟩
    cases hb : b x with
    | true => exact decide_eq_true (this.mpr hb)
    | false => exact decide_eq_false fun z => by rw [this.mp z] at hb; cases hb
theorem Lot.has (L : Lot b q) {x : Int} (hx : 0 ≤ x) : q.has x = b x := L.mem hx
theorem Lot.fl (L : Lot b q) : q.F.length ≤ 1000 := by
  rw [L.F]
  exact Nat.le_trans (upto_len _ _) L.s2
theorem Lot.rl (L : Lot b q) : q.R.length ≤ 5000 := by
  rw [L.R]
  exact Nat.le_trans (upto_len _ _) L.r2
end
theorem big_of {x k : Nat} (h : x < 2 ^ k) (hk : k ≤ 100000) : x < big := Nat.lt_of_lt_of_le h (Nat.pow_le_pow_right (by omega) hk)
section
variable {m : Mem}
theorem b_shl {i j : Int} (h0 : 0 ≤ j) (h1 : j ≤ 100000) (hi : i.natAbs < big) : binop .shl (.int i) (.int j) m = .ok (.int (i * 2 ^ j.toNat)) m := if_pos ⟨h0, h1, hi⟩
theorem b_shr {i j : Int} (h0 : 0 ≤ j) : binop .shr (.int i) (.int j) m = .ok (.int (i / 2 ^ j.toNat)) m := if_pos h0
theorem b_and {i j : Int} : binop .band (.int i) (.int j) m = .ok (.int (PySem.Builtin.bitAnd i j)) m := eqr rfl
theorem b_or {i j : Int} : binop .bor (.int i) (.int j) m = .ok (.int (PySem.Builtin.bitOr i j)) m := eqr rfl
theorem bl_sum {p : Nat} {l : List Int} (h : m[p]? = some (.lst (l.map .int))) : bltin .sum [.ref p] m = .ok (.int l.sum) m := by simp only [bltin, intsIn, h, intsOf_map]
theorem bl_dm {i j : Int} (h0 : 0 < j) (h1 : j < 1073741824) : bltin .divmod [.int i, .int j] m = .ok (.tup [.int (i / j), .int (i % j)]) m := if_pos ⟨h0, h1⟩
theorem one_big : (1 : Int).natAbs < big := big_of (k := 1) (by omega) (by omega)
end
section
variable {n : Nat} {fr : Fr} {m : Mem} {b : Int → Bool} {q : Nrm} {p : Nat}
theorem places_ok {B k : Nat} (hk : k ≤ 20000) : ∃ p m', callN prog (n + 1) fr (.df ix_places_of) [.int B, .int k] m = .ok (.ref p) m' ∧ m'[p]? = some (.lst ((upto k fun x => B.testBit x.toNat).map .int)) ∧ Kp [] m m' := by
  rw [call_df at_places_of rfl]
  obtain ⟨p, m1, e, h, k1, _⟩ := lc_filter (fr := fr) (P := prog) (C := callN prog n) (x := .var 2) (g := .v 2) (k := .rng) (l := [.var 1]) (c := [.bin .band (.bin .shr (.var 0) (.var 2)) (.cst (.int 1))]) (own := [2])
    (ρ := [some (.int B), some (.int k), none]) (m := m) (ys := List.range k) (fy := fun i : Nat => .int (0 + i)) (n := k) (s := .fix (rngL 0 (0 + k))) (ds := [.int k]) (fun i : Nat => B.testBit (i : Int).toNat) (fun i : Nat => .int i)
    (lock_no rfl) (by simp) .refl (by rw [Int.zero_add]; exact src_rng1 (small_of (by omega) (by omega))) (wk_rng 0 k) (by unfold lim; omega) (fun i hi m' k' => by
      refine ⟨[some (.int B), some (.int k), some (.int (0 + i))], m', by simp [wipeE, bindT], ?_, .refl, fun _ => ⟨m', by simp, .refl⟩⟩
      rw [Int.zero_add, et_one]
      simp only [e_bin, e_var, e_cst, List.getElem?_cons_zero, List.getElem?_cons_succ, Option.join_some, opt_some, rb_ok, b_shr (Int.natCast_nonneg i), b_and, tr_int, Int.toNat_natCast, bit_of])
  rw [ups k fun x => B.testBit x.toNat] at h
  exact ⟨p, m1, by simp [d_places_of, startE, e], h, k1⟩
theorem bits_ok (h : m[p]? = some (lotO q)) (L : Lot b q) {k : Nat} (hk : k ≤ 20000) : ∃ m', callN prog (n + 1) fr (.df ix_bits_of) [.ref p, .int k] m = .ok (.int (bn k b : Nat)) m' ∧ Kp [] m m' := by
  have r1 := L.r1
  have r2 := L.r2
  have s2 := L.s2
  have fl := L.fl
  have rl := L.rl
  rw [call_df at_bits_of rfl]
  simp only [d_bits_of, startE, List.map_cons, List.map_nil, List.length_cons, List.length_nil, List.cons_append, List.nil_append]
  simp only [List.replicate]
  -- the bits of some
  have pws : ∀ (G : List Int) (a : Nat) (c : Int → Bool) (x9 : Nat) (e : E) (ρ : Env) (m0 : Mem), G = upto a c → a ≤ 5000 → (∀ m', Kp [] m0 m' → ev prog (callN prog n) fr e ρ m' = .ok (.tup (G.map .int)) m') → x9 < ρ.length → lockV fr m0 .one [e] ρ = none →
      ∃ m', ev prog (callN prog n) fr (.blt .sum [.lc (.bin .shl (.cst (.int 1)) (.var x9)) (.v x9) .one [e] [] [x9]]) ρ m0 = .ok (.int (bn a c : Nat)) m' ∧ Kp [] m0 m' := by
    intro G a c x9 e ρ m0 hG ha he hx hlk
    have hl : G.length ≤ 5000 := by
      rw [hG]
      exact Nat.le_trans (upto_len _ _) ha
    obtain ⟨q1, m1, e1, h1, k1, _⟩ := lc_map (fr := fr) (P := prog) (C := callN prog n) (x := .bin .shl (.cst (.int 1)) (.var x9)) (g := .v x9) (k := .one) (l := [e]) (own := [x9]) (ρ := ρ) (m := m0) (ys := G) (fy := D.int) (n := G.length) (s := .fix (G.map .int)) (ds := [.tup (G.map .int)]) (fun x => .int (1 * 2 ^ x.toNat))
      (lock_no hlk) (by rw [es_cons, he m0 .refl]; simp) .refl (by simp [src]) (by simpa using wk_fix (G.map D.int)) (by unfold lim; omega) (fun y hy m' k' => by
        rw [hG] at hy
        have hb := mem_upto.mp hy
        have a1 : ((ρ.set x9 none).set x9 (some (.int y)))[x9]? = some (some (.int y)) := by simp [hx]
        refine ⟨(ρ.set x9 none).set x9 (some (.int y)), m', by simp [wipeE, bindT, hx], ?_, .refl⟩
        rw [e_bin, e_cst, rb_ok, e_var, a1]
        simp only [Option.join_some, opt_some, rb_ok]
        exact b_shl hb.1 (by omega) one_big)
    have h1 : m1[q1]? = some (.lst ((G.map fun x : Int => (1 : Int) * 2 ^ x.toNat).map .int)) := by
      rw [List.map_map]
      exact h1
    refine ⟨m1, ?_, k1⟩
    rw [e_blt, es_cons, e1]
    simp only [es_nil, rb_ok]
    rw [bl_sum h1, hG, pw_upto]
  obtain ⟨m1, e1, k1⟩ := pws q.F q.s b 6 (.att (.var 0) (sOf "firsts")) [some (.ref p), some (.int k), none, none, none, none, none, none, none] m L.F (by omega) (fun m' k' => by simp [f_firsts (k'.get0 h)]) (by simp) rfl
  have fin : ∀ W : Nat, W % 2 ^ k = bn k b → ∀ (m' : Mem) (x3 x4 x5 : Option D), ev prog (callN prog n) fr (.bin .band (.var 2) (.bin .sub (.bin .shl (.cst (.int 1)) (.var 1)) (.cst (.int 1)))) [some (.ref p), some (.int k), some (.int W), x3, x4, x5, none, none, none] m' = .ok (.int (bn k b : Nat)) m' := fun W hW m' x3 x4 x5 => by
    have e := PySem.W.kbt_mask (W : Int) k
    simp only [e_bin, e_var, e_cst, List.getElem?_cons_zero, List.getElem?_cons_succ, Option.join_some, opt_some, rb_ok, b_shl (Int.natCast_nonneg k) (show (k : Int) ≤ 100000 by omega) one_big, b_sub, b_and, Int.one_mul, Int.toNat_natCast, e]
    rw [← hW]
    push_cast
    rfl
  by_cases hc : q.s < k ∧ q.R ≠ []
  · obtain ⟨hsk, hne⟩ := hc
    have tr : (!(q.R.map D.int).isEmpty) = true := by
      cases hR : q.R with
      | nil => exact absurd hR hne
      | cons a l => rfl
    obtain ⟨t, ht⟩ : ∃ t : Nat, t = (k - q.s) / q.r + 1 := ⟨_, rfl⟩
    have htI : ((k : Int) - q.s) / q.r + 1 = (t : Int) := by
      rw [ht, show (k : Int) - q.s = ((k - q.s : Nat) : Int) by omega]
      push_cast
      rfl
    have hd := Nat.div_add_mod (k - q.s) q.r
    have hdl := Nat.mod_lt (k - q.s) (show q.r > 0 by omega)
    have hdle : (k - q.s) / q.r ≤ k - q.s := Nat.div_le_self _ _
    have htr : k < q.s + t * q.r := by
      rw [ht, Nat.add_mul, Nat.mul_comm]
      omega
    have htr2 : t * q.r ≤ 25000 := by
      rw [ht, Nat.add_mul, Nat.mul_comm]
      omega
    obtain ⟨m2, e2, k2⟩ := pws q.R q.r (fun t => b (q.s + t)) 7 (.att (.var 0) (sOf "rests")) [some (.ref p), some (.int k), some (.int (bn q.s b : Nat)), some (.int t), none, none, none, none, none] m1 L.R (by omega) (fun m' k' => by simp [f_rests ((k1.trans k').get0 h)]) (by simp) rfl
    generalize hc : bn q.r (fun t => b (q.s + t)) = c at e2
    have hcl : c < 2 ^ q.r := by rw [← hc]; exact bn_lt _
    obtain ⟨q3, m3, e3, h3, k3, _⟩ := lc_map (fr := fr) (P := prog) (C := callN prog n) (x := .bin .shl (.var 4) (.bin .mul (.var 8) (.att (.var 0) (sOf "ring")))) (g := .v 8) (k := .rng) (l := [.var 3]) (own := [8])
      (ρ := [some (.ref p), some (.int k), some (.int (bn q.s b : Nat)), some (.int t), some (.int c), none, none, none, none]) (m := m2) (ys := List.range t) (fy := fun i : Nat => .int (0 + i)) (n := t) (s := .fix (rngL 0 (0 + t))) (ds := [.int t]) (fun i : Nat => .int ((c : Int) * 2 ^ (i * q.r)))
      (lock_no rfl) (by simp) .refl (by rw [Int.zero_add]; exact src_rng1 (small_of (by omega) (by omega))) (wk_rng 0 t) (by unfold lim; omega) (fun i hi m' k' => by
        rw [List.mem_range] at hi
        refine ⟨[some (.ref p), some (.int k), some (.int (bn q.s b : Nat)), some (.int t), some (.int c), none, none, none, some (.int (0 + i))], m', by simp [wipeE, bindT], ?_, .refl⟩
        have hir : i * q.r ≤ t * q.r := Nat.mul_le_mul_right _ (by omega)
        have em : binop .mul (.int i) (.int q.r) m' = .ok (.int (((i * q.r : Nat) : Int))) m' := by
          rw [b_mul, if_pos (.inr (by omega))]
          push_cast
          rfl
        rw [Int.zero_add]
        simp only [e_bin, e_var, e_att, List.getElem?_cons_zero, List.getElem?_cons_succ, Option.join_some, opt_some, rb_ok, f_ring (((k1.trans k2).trans k').get0 h), em]
        rw [b_shl (Int.natCast_nonneg _) (by omega) (big_of (k := q.r) (by omega) (by omega)), Int.toNat_natCast])
    have h3 : m3[q3]? = some (.lst (((List.range t).map fun i : Nat => (c : Int) * 2 ^ (i * q.r)).map .int)) := by
      rw [List.map_map]
      exact h3
    have e4 : bltin .sum [.ref q3] m3 = .ok (.int (rp c q.r t : Nat)) m3 := by
      rw [bl_sum h3, rp_sum]
    have hrl := rp_lt hcl t
    have e5 : binop .shl (.int (rp c q.r t : Nat)) (.int q.s) m3 = .ok (.int ((rp c q.r t * 2 ^ q.s : Nat) : Int)) m3 := by
      rw [b_shl (Int.natCast_nonneg _) (by omega) (big_of (k := t * q.r) (by omega) (by omega)), Int.toNat_natCast]
      push_cast
      rfl
    have e6 : binop .bor (.int (bn q.s b : Nat)) (.int ((rp c q.r t * 2 ^ q.s : Nat) : Int)) m3 = .ok (.int ((bn q.s b ||| rp c q.r t * 2 ^ q.s : Nat) : Int)) m3 := by
      rw [b_or, L2.bitOr_nn (Int.natCast_nonneg _) (Int.natCast_nonneg _), Int.toNat_natCast, Int.toNat_natCast]
    have e7 := fin (bn q.s b ||| rp c q.r t * 2 ^ q.s) (all_bit (t := t) L.per r1 (.inr htr) _ (.inr (by rw [hc]))) m3 (some (.int t)) (some (.int c)) (some (.int (rp c q.r t : Nat)))
    have s3 := f_start ((k1.trans (k2.trans k3)).get0 h)
    have s1 := f_start (k1.get0 h)
    have g1 := f_ring (k1.get0 h)
    have t1 := f_rests (k1.get0 h)
    refine ⟨m3, ?_, k1.trans (k2.trans k3)⟩
    have r0 : 0 < q.r := r1
    have r9 : q.r < 1073741824 := by omega
    have hd2 : binop .fdiv (.int ((k : Int) - q.s)) (.int q.r) m1 = .ok (.int (((k : Int) - q.s) / q.r)) m1 := if_pos ⟨by omega, by omega⟩
    rw [xs_cons, x_set, e1]
    simp only [to_ok, st_v, List.length_cons, List.length_nil, Nat.reduceAdd, Nat.reduceLT, if_true, seq_nx, List.set]
    rw [xs_cons, x_ife]
    have ec : ((ev prog (callN prog n) fr (.and (.cmp .gt (.var 1) (.att (.var 0) (sOf "start"))) (.att (.var 0) (sOf "rests"))) [some (.ref p), some (.int k), some (.int (bn q.s b : Nat)), none, none, none, none, none, none] m1).bind fun x m => opt (truth m x) m) = .ok true m1 := by
      simp [s1, t1, hsk, tr]
      exact hne
    rw [ec]
    simp only [to_ok, if_true]
    rw [xs_cons, x_set]
    have ed : ev prog (callN prog n) fr (.bin .add (.bin .fdiv (.bin .sub (.var 1) (.att (.var 0) (sOf "start"))) (.att (.var 0) (sOf "ring"))) (.cst (.int 1))) [some (.ref p), some (.int k), some (.int (bn q.s b : Nat)), none, none, none, none, none, none] m1 = .ok (.int t) m1 := by
      simp [s1, g1, -b_fdiv, hd2, htI]
    rw [ed]
    simp only [to_ok, st_v, List.length_cons, List.length_nil, Nat.reduceAdd, Nat.reduceLT, if_true, seq_nx, List.set]
    rw [xs_cons, x_set, e2]
    simp only [to_ok, st_v, List.length_cons, List.length_nil, Nat.reduceAdd, Nat.reduceLT, if_true, seq_nx, List.set]
    rw [xs_cons, x_set, e_blt, es_cons, e3]
    simp only [es_nil, rb_ok, e4, to_ok, st_v, List.length_cons, List.length_nil, Nat.reduceAdd, Nat.reduceLT, if_true, seq_nx, List.set]
    rw [xs_cons, x_set]
    have ee : ev prog (callN prog n) fr (.bin .bor (.var 2) (.bin .shl (.var 5) (.att (.var 0) (sOf "start")))) [some (.ref p), some (.int k), some (.int (bn q.s b : Nat)), some (.int t), some (.int c), some (.int (rp c q.r t : Nat)), none, none, none] m3 = .ok (.int ((bn q.s b ||| rp c q.r t * 2 ^ q.s : Nat) : Int)) m3 := by
      simp only [e_bin, e_var, e_att, List.getElem?_cons_zero, List.getElem?_cons_succ, Option.join_some, opt_some, rb_ok, s3, e5, e6]
    rw [ee]
    simp only [to_ok, st_v, List.length_cons, List.length_nil, Nat.reduceAdd, Nat.reduceLT, if_true, seq_nx, List.set, xs_nil]
    rw [xs_cons, x_ret, e7]
    simp only [to_ok, seq_rt, ret_rt]
  · have e7 := fin (bn q.s b) (all_bit (t := k + 1) L.per r1 (.inr (by
      have : (k + 1) * 1 ≤ (k + 1) * q.r := Nat.mul_le_mul_left _ r1
      omega)) _ (.inl ⟨rfl, by
        by_cases h1 : q.s < k
        · refine .inr fun x hx => ?_
          have hR : q.R = [] := Classical.byContradiction fun z => hc ⟨h1, z⟩
          have := L.mem (x := (x : Int)) (by omega)
          rw [← this]
          unfold memB
          rw [if_neg (by omega), hR]
          rfl
        · exact .inl (by omega)⟩)) m1 none none none
    refine ⟨m1, ?_, k1⟩
    rw [xs_cons, x_set, e1]
    simp only [to_ok, st_v, List.length_cons, List.length_nil, Nat.reduceAdd, Nat.reduceLT, if_true, seq_nx, List.set]
    rw [xs_cons, x_ife]
    have ec : ((ev prog (callN prog n) fr (.and (.cmp .gt (.var 1) (.att (.var 0) (sOf "start"))) (.att (.var 0) (sOf "rests"))) [some (.ref p), some (.int k), some (.int (bn q.s b : Nat)), none, none, none, none, none, none] m1).bind fun x m => opt (truth m x) m) = .ok false m1 := by
      by_cases h1 : q.s < k
      · have hR : q.R = [] := Classical.byContradiction fun z => hc ⟨h1, z⟩
        simp [f_start (k1.get0 h), f_rests (k1.get0 h), h1, hR]
      · simp [f_start (k1.get0 h), f_rests (k1.get0 h), h1]
    rw [ec]
    simp only [to_ok, Bool.false_eq_true, if_false, xs_nil, seq_nx]
    rw [xs_cons, x_ret, e7]
    simp only [to_ok, seq_rt, ret_rt]
end
end K03

-- C03
set_option linter.all false
set_option Elab.async false
set_option maxRecDepth 10000
namespace K03
open Ms
open PySem (Str PyData)
/-! ### lots in normal form -/
def NL (b : Int → Bool) (q : Nrm) : Prop := ∃ s r : Nat, Per b s r ∧ 1 ≤ r ∧ s ≤ 1000 ∧ r ≤ 5000 ∧ q = nrm b s r
theorem NL.lot {b : Int → Bool} {q : Nrm} (h : NL b q) : Lot b q := by
  obtain ⟨s, r, hp, r1, s2, r2, rfl⟩ := h
  have f := far_spec hp r1
  have g := beg_le (b := b) (d := far b s r) s
  exact ⟨f.1, by show far _ _ _ ≤ 5000; omega, by show beg _ _ _ ≤ 1000; omega, fun x hx => per_from f.2.2.2.1 x hx, rfl, rfl⟩
theorem NL.uniq {b c : Int → Bool} {q q' : Nrm} (h : NL b q) (h' : NL c q') (hx : ∀ x : Int, 0 ≤ x → b x = c x) : q = q' := by
  obtain ⟨s, r, hp, r1, _, _, rfl⟩ := h
  obtain ⟨s', r', hp', r1', _, _, rfl⟩ := h'
  exact nrm_eq hp r1 hp' r1' hx
theorem NL.same {b c : Int → Bool} {q : Nrm} (h : NL b q) (h' : NL c q) {x : Int} (hx : 0 ≤ x) : b x = c x := by
  rw [← h.lot.has hx, h'.lot.has hx]
theorem nl_raw {F R : List Int} {s r : Nat} (h : RawOk F s r R) : NL (memB F s r R) (nrm (memB F s r R) s r) := ⟨s, r, memB_per h.r1 h.hr, h.r1, h.s2, by have := h.r2; omega, rfl⟩
section
variable {n : Nat} {fr : Fr} {m : Mem} {b c : Int → Bool} {q q' : Nrm} {p p' : Nat}
theorem gcd_ok (x y : Nat) (hx : x ≤ 100000) (hy : y ≤ 100000) : callN prog (n + 1) fr (.df ix_gcd_of) [.int x, .int y] m = .ok (.int (Nat.gcd x y : Nat)) m := by
  rw [call_df at_gcd_of rfl]
  have hw : exe prog (callN prog n) fr (.whl (.cmp .gt (.var 1) (.cst (.int 0))) [
    .set (.t [.v 0, .v 1]) (.tup [.var 1, .bin .mod (.var 0) (.var 1)])]) [some (.int x), some (.int y)] m = .nx [some (.int (Nat.gcd x y : Nat)), some (.int (0 : Nat))] m := by
    refine whl_run (k := y) (I := fun k ρ m' => m' = m ∧ ∃ u v : Nat, v = k ∧ ρ = [some (.int u), some (.int v)] ∧ Nat.gcd u v = Nat.gcd x y) (Q := fun z => z = .nx [some (.int (Nat.gcd x y : Nat)), some (.int (0 : Nat))] m) (by unfold wfuel; omega) ⟨rfl, x, y, rfl, rfl, rfl⟩ ?_
    rintro k ρ m' ⟨rfl, u, v, rfl, rfl, hg⟩
    by_cases hv : 0 < v
    · refine .inr ⟨m', by simp [hv], .inl ⟨[some (.int v), some (.int ((u % v : Nat) : Int))], m', u % v, .inl ?_, Nat.mod_lt _ hv, rfl, v, u % v, rfl, rfl, ?_⟩⟩
      · simp [hv]
      · rw [← hg, Nat.gcd_comm u v, Nat.gcd_rec v u, Nat.gcd_comm]
    · have hv0 : v = 0 := by omega
      subst hv0
      rw [Nat.gcd_zero_right] at hg
      refine .inl ⟨m', by simp, ?_⟩
      rw [hg]
  simp only [d_gcd_of, startE]
  rw [xs_cons]
  show (X.seq (exe prog (callN prog n) fr _ [some (.int x), some (.int y)] m) _).ret = _
  rw [hw]
  simp
theorem lcm_ok (x y : Nat) (hx : x ≤ 100000) (hy : y ≤ 100000) (hx1 : 1 ≤ x) : callN prog (n + 2) fr (.df ix_lcm_of) [.int x, .int y] m = .ok (.int (Nat.lcm x y : Nat)) m := by
  rw [call_df at_lcm_of rfl]
  have hg0 : 0 < Nat.gcd x y := Nat.gcd_pos_of_pos_left _ hx1
  have hgle : Nat.gcd x y ≤ x := Nat.gcd_le_left _ hx1
  have hd : binop .fdiv (.int x) (.int (Nat.gcd x y : Nat)) m = .ok (.int ((x / Nat.gcd x y : Nat) : Int)) m := by
    rw [b_fdiv, if_pos ⟨by omega, by omega⟩]
    push_cast
    rfl
  have hq : x / Nat.gcd x y ≤ x := Nat.div_le_self _ _
  have hl : ((x / Nat.gcd x y : Nat) : Int) * (y : Int) = ((Nat.lcm x y : Nat) : Int) := by
    unfold Nat.lcm
    rw [Nat.mul_comm x y, Nat.mul_div_assoc _ (Nat.gcd_dvd_left x y), Nat.mul_comm]
    push_cast
    rfl
  have hm : binop .mul (.int ((x / Nat.gcd x y : Nat) : Int)) (.int y) m = .ok (.int (Nat.lcm x y : Nat)) m := by
    rw [b_mul, if_pos (.inl (by rw [Int.natAbs_natCast]; omega)), hl]
  simp only [d_lcm_of, startE]
  generalize Nat.lcm x y = l at hm
  have eg := gcd_ok (n := n) (fr := fr) (m := m) x y hx hy
  generalize Nat.gcd x y = g at hd hm eg
  generalize x / g = w at hd hm
  simp [eg, -b_fdiv, -b_mul, hd, hm]
theorem put4b {C : Cl} {ρ : Env} {p j : Nat} {q q' : Nrm} (hp : m[p]? = some (lotO q)) (hρ : ρ[j]? = some (some (.ref p))) : store prog C fr (.tup (nrmL q')) ρ m (.t [.att (.var j) (sOf "firsts"), .att (.var j) (sOf "start"), .att (.var j) (sOf "ring"), .att (.var j) (sOf "rests")]) =
    .nx ρ (m.set p (lotO q')) := by
  have at_ : ∀ (fs : List (Str × D)), (m.set p (.ins cx_Numbers fs))[p]? = some (.ins cx_Numbers fs) := fun fs => List.getElem?_set_self (lt_of hp)
  have c1 : ([sOf "firsts", sOf "start", sOf "ring", sOf "rests"] : List Str).contains (sOf "firsts") = true := by decide +kernel
  have c2 : ([sOf "firsts", sOf "start", sOf "ring", sOf "rests"] : List Str).contains (sOf "start") = true := by decide +kernel
  have c3 : ([sOf "firsts", sOf "start", sOf "ring", sOf "rests"] : List Str).contains (sOf "ring") = true := by decide +kernel
  have c4 : ([sOf "firsts", sOf "start", sOf "ring", sOf "rests"] : List Str).contains (sOf "rests") = true := by decide +kernel
  unfold nrmL
  rw [st_t]
  refine (if_pos rfl).trans ?_
  rw [sts_cons, st_at hρ hp (by simp) cl_Numbers c1, seq_nx, sts_cons, st_at hρ (at_ _) (by simp [putFd]) cl_Numbers c2, seq_nx, List.set_set, sts_cons, st_at hρ (at_ _) (by simp [putFd]) cl_Numbers c3, seq_nx, List.set_set, sts_cons, st_at hρ (at_ _) (by simp [putFd]) cl_Numbers c4, seq_nx, List.set_set, sts_nil]
  simp [putFd]
theorem made_ok {pf pr : Nat} {F R : List Int} {s r : Nat} (hF : m[pf]? = some (.lst (F.map .int))) (hR : m[pr]? = some (.lst (R.map .int))) (hFl : F.length ≤ lim) (hRl : R.length ≤ lim) (hs : s ≤ 100000) (hr : 1 ≤ r) (hr2 : r ≤ 1000000)
    (hFs : ∀ x ∈ F, 0 ≤ x ∧ x < (s : Int)) (hFn : F.Nodup) (hRs : ∀ x ∈ R, 0 ≤ x ∧ x < (r : Int)) :
    ∃ p m', callN prog (n + 6) fr (.df ix_made_numbers) [.ref pf, .int s, .int r, .ref pr] m = .ok (.ref p) m' ∧ m'[p]? = some (lotO (nrm (memB F s r R) s r)) ∧ Kp [] m m' ∧ m.length ≤ p := by
  rw [call_df at_made_numbers rfl]
  simp only [d_made_numbers, startE, List.map_cons, List.map_nil, List.length_cons, List.length_nil, List.cons_append, List.nil_append]
  simp only [List.replicate]
  have k0 : Kp [] m (m ++ [Ob.lst []] ++ [Ob.lst []]) := (Kp.app _).trans (.app _)
  obtain ⟨p, m1, e1, h1, k1, l1⟩ := mk_ok (n := n) (fr := fr) (m := m ++ [Ob.lst []] ++ [Ob.lst []]) (vF := .ref m.length) (vR := .ref (m.length + 1)) (F := []) (R := []) (s := 0) (r := 1) (.inr ⟨_, rfl, by simp⟩) (.inr ⟨_, rfl, by simp⟩) (by simp) (by simp) (by omega) (by omega) (by omega) (fun x hx => (by cases hx)) (by simp) (fun x hx => (by cases hx)) (by simp)
  simp at e1
  have k01 := k0.trans k1
  have hr0 : 0 < r := hr
  obtain ⟨p5, m3, e5, h5, k3, _⟩ := lc_map (fr := fr) (P := prog) (C := callN prog (n + 5)) (x := .bin .mod (.bin .add (.var 1) (.var 6)) (.var 2)) (g := .v 6) (k := .one) (l := [.var 3]) (own := [6]) (ρ := [some (.ref pf), some (.int s), some (.int r), some (.ref pr), some (.ref p), none, none]) (m := m1) (ys := R) (fy := D.int) (n := (R.map D.int).length) (s := .live pr) (ds := [.ref pr]) (fun t => .int (((s : Int) + t) % r))
    (lock_no (by simp [lockV, k01.get0 hR])) (by simp) .refl (by simp [src, k01.get0 hR]) (wk_live (k01.get0 hR)) (by simpa using hRl) (fun t ht m' k' => ⟨[some (.ref pf), some (.int s), some (.int r), some (.ref pr), some (.ref p), none, some (.int t)], m', by simp [wipeE, bindT], by simp [hr0], .refl⟩)
  rw [show R.map (fun t => D.int (((s : Int) + t) % r)) = (R.map fun t => ((s : Int) + t) % r).map D.int from by rw [List.map_map]; rfl] at h5
  obtain ⟨m4, e6, k4⟩ := normal_ok (n := n + 3) (fr := fr) (m := m3) (vF := .ref pf) (vL := .ref p5) (F := F) (L := R.map fun t => ((s : Int) + t) % r) (s := s) (r := r) (b := memB F s r R) (.inr ⟨pf, rfl, (k01.trans k3).get0 hF⟩) (.inr ⟨p5, rfl, h5⟩) hFl (by rw [List.length_map]; exact hRl) hs hr hr2 hFs hFn
    (fun l hl => by
      obtain ⟨t, _, rfl⟩ := List.mem_map.mp hl
      exact ⟨Int.emod_nonneg _ (by omega), Int.emod_lt_of_pos _ (by omega)⟩) (fun x _ h => memB_lo x h) (memB_hi hr hRs)
  have e6 : callN prog (n + 5) fr (.df ix_normal) [.ref pf, .int s, .int r, .ref p5] m3 = .ok (.tup (nrmL (nrm (memB F s r R) s r))) m4 := e6
  have hp4 := (k3.trans k4).get0 h1
  have e7 := put4b (fr := fr) (C := callN prog (n + 5)) (ρ := [some (.ref pf), some (.int s), some (.int r), some (.ref pr), some (.ref p), some (.tup (nrmL (nrm (memB F s r R) s r))), none]) (j := 4) (q' := nrm (memB F s r R) s r) hp4 rfl
  have lp : m.length ≤ p := by simp at l1; omega
  refine ⟨p, m4.set p (lotO (nrm (memB F s r R) s r)), ?_, List.getElem?_set_self (lt_of hp4), ((k01.trans k3).trans k4).set (.inl lp), lp⟩
  simp [-st_t, newL, e1, e5, e6, e7]
theorem from_ok {B s r : Nat} (hper : Per c s r) (hB : B = bn (s + r) c) (hr : 1 ≤ r) (hs : s ≤ 1000) (hr2 : r ≤ 5000) : ∃ p m', callN prog (n + 7) fr (.df ix_from_bits) [.int B, .int s, .int r] m = .ok (.ref p) m' ∧ m'[p]? = some (lotO (nrm c s r)) ∧ Kp [] m m' ∧ m.length ≤ p := by
  rw [call_df at_from_bits rfl]
  simp only [d_from_bits, startE, List.map_cons, List.map_nil, List.length_cons, List.length_nil, List.cons_append, List.nil_append]
  simp only [List.replicate]
  obtain ⟨q1, m1, e1, h1, k1⟩ := places_ok (n := n + 5) (fr := fr) (m := m) (B := B) (k := s + r) (by omega)
  have e1 : callN prog (n + 6) fr (.df ix_places_of) [.int B, .int ((s + r : Nat) : Int)] m = .ok (.ref q1) m1 := e1
  have hu : (upto (s + r) fun x => B.testBit x.toNat) = upto (s + r) c := upto_congr fun x h0 hx => by
    obtain ⟨y, rfl⟩ := Int.eq_ofNat_of_zero_le h0
    rw [Int.toNat_natCast, hB, bn_bit]
    have : y < s + r := by omega
    simp [this]
  rw [hu] at h1
  have hul := upto_len (s + r) c
  generalize hU : upto (s + r) c = U at h1 hul
  have mU : ∀ x : Int, x ∈ U ↔ 0 ≤ x ∧ x < ((s + r : Nat) : Int) ∧ c x = true := fun x => by rw [← hU]; exact mem_upto
  have aU : U.Pairwise (· < ·) := by rw [← hU]; exact asc_upto _ _
  obtain ⟨q2, m2, e2, h2, k2, _⟩ := lc_filter (fr := fr) (P := prog) (C := callN prog (n + 6)) (x := .var 5) (g := .v 5) (k := .one) (l := [.var 3]) (c := [.cmp .lt (.var 5) (.var 1)]) (own := [5]) (ρ := [some (.int B), some (.int s), some (.int r), some (.ref q1), none, none]) (m := m1) (ys := U) (fy := D.int) (n := (U.map D.int).length) (s := .live q1) (ds := [.ref q1]) (fun x => decide (x < (s : Int))) (fun x => .int x)
    (lock_no (by simp [lockV, h1])) (by simp) .refl (by simp [src, h1]) (wk_live h1) (by rw [List.length_map]; unfold lim; omega) (fun x hx m' k' => ⟨[some (.int B), some (.int s), some (.int r), some (.ref q1), none, some (.int x)], m', by simp [wipeE, bindT], by simp, .refl, fun _ => ⟨m', by simp, .refl⟩⟩)
  obtain ⟨q3, m3, e3, h3, k3, _⟩ := lc_filter (fr := fr) (P := prog) (C := callN prog (n + 6)) (x := .bin .sub (.var 5) (.var 1)) (g := .v 5) (k := .one) (l := [.var 3]) (c := [.cmp .ge (.var 5) (.var 1)]) (own := [5]) (ρ := [some (.int B), some (.int s), some (.int r), some (.ref q1), some (.ref q2), none]) (m := m2) (ys := U) (fy := D.int) (n := (U.map D.int).length) (s := .live q1) (ds := [.ref q1]) (fun x => decide ((s : Int) ≤ x)) (fun x => .int (x - s))
    (lock_no (by simp [lockV, k2.get0 h1])) (by simp) .refl (by simp [src, k2.get0 h1]) (wk_live (k2.get0 h1)) (by rw [List.length_map]; unfold lim; omega) (fun x hx m' k' => ⟨[some (.int B), some (.int s), some (.int r), some (.ref q1), some (.ref q2), some (.int x)], m', by simp [wipeE, bindT], by simp, .refl, fun _ => ⟨m', by simp, .refl⟩⟩)
  rw [show (U.filter fun x => decide ((s : Int) ≤ x)).map (fun x => D.int (x - s)) = ((U.filter fun x => decide ((s : Int) ≤ x)).map fun x => x - (s : Int)).map D.int from by rw [List.map_map]; rfl] at h3
  have mF : ∀ x : Int, x ∈ U.filter (fun x => decide (x < (s : Int))) ↔ 0 ≤ x ∧ x < (s : Int) ∧ c x = true := fun x => by
    rw [List.mem_filter, decide_eq_true_eq, mU]
    exact ⟨fun ⟨⟨a, _, d⟩, e⟩ => ⟨a, e, d⟩, fun ⟨a, d, e⟩ => ⟨⟨a, by omega, e⟩, d⟩⟩
  have mR : ∀ x : Int, x ∈ (U.filter fun x => decide ((s : Int) ≤ x)).map (fun x => x - (s : Int)) ↔ 0 ≤ x ∧ x < (r : Int) ∧ c (s + x) = true := fun x => by
    rw [List.mem_map]
    constructor
    · rintro ⟨y, hy, rfl⟩
      rw [List.mem_filter, decide_eq_true_eq, mU] at hy
      obtain ⟨⟨a, d, e⟩, g⟩ := hy
      refine ⟨by omega, by omega, ?_⟩
      rw [show (s : Int) + (y - s) = y by omega]
      exact e
    · rintro ⟨a, d, e⟩
      refine ⟨s + x, ?_, by omega⟩
      rw [List.mem_filter, decide_eq_true_eq, mU]
      exact ⟨⟨by omega, by omega, e⟩, by omega⟩
  have lF : (U.filter fun x => decide (x < (s : Int))).length ≤ lim := Nat.le_trans (List.length_filter_le _ _) (by unfold lim; omega)
  have lR : ((U.filter fun x => decide ((s : Int) ≤ x)).map fun x => x - (s : Int)).length ≤ lim := by
    rw [List.length_map]
    exact Nat.le_trans (List.length_filter_le _ _) (by unfold lim; omega)
  obtain ⟨p, m4, e4, h4, k4, l4⟩ := made_ok (n := n) (fr := fr) (m := m3) (F := U.filter fun x => decide (x < (s : Int))) (R := (U.filter fun x => decide ((s : Int) ≤ x)).map fun x => x - (s : Int)) (s := s) (r := r) (k3.get0 h2) h3 lF lR (by omega) hr (by omega)
    (fun x hx => by have := (mF x).mp hx; exact ⟨this.1, this.2.1⟩) (asc_nd (aU.filter _)) (fun x hx => by have := (mR x).mp hx; exact ⟨this.1, this.2.1⟩)
  have hR9 : ∀ x ∈ (U.filter fun x => decide ((s : Int) ≤ x)).map (fun x => x - (s : Int)), 0 ≤ x ∧ x < (r : Int) := fun x hx => by have := (mR x).mp hx; exact ⟨this.1, this.2.1⟩
  have en : nrm (memB (U.filter fun x => decide (x < (s : Int))) s r ((U.filter fun x => decide ((s : Int) ≤ x)).map fun x => x - (s : Int))) s r = nrm c s r := nrm_eq (memB_per hr hR9) hr hper hr fun x h0 => by
    unfold memB
    by_cases hx : x < s
    · rw [if_pos hx]
      cases hc : c x with
      | true => exact decide_eq_true ((mF x).mpr ⟨h0, hx, hc⟩)
      | false => exact decide_eq_false fun z => by rw [((mF x).mp z).2.2] at hc; cases hc
    · rw [if_neg hx]
      have m0 := Int.emod_nonneg (x - s) (show (r : Int) ≠ 0 by omega)
      have m1 := Int.emod_lt_of_pos (x - s) (show (0 : Int) < r by omega)
      have e : c x = c (s + (x - s) % r) := by
        obtain ⟨t, ht⟩ := Int.eq_ofNat_of_zero_le (Int.ediv_nonneg (show 0 ≤ x - s by omega) (show (0 : Int) ≤ r by omega))
        have := per_mul hper (x := s + (x - s) % r) (by omega) t
        rw [← this]
        refine congrArg c ?_
        have e2 := Int.mul_ediv_add_emod (x - s) r
        rw [ht, Int.mul_comm] at e2
        omega
      cases hc : c x with
      | true => exact decide_eq_true ((mR _).mpr ⟨m0, m1, by rw [← e]; exact hc⟩)
      | false => exact decide_eq_false fun z => by rw [e, ((mR _).mp z).2.2] at hc; cases hc
  rw [en] at h4
  have := k1.len
  have := k2.len
  have := k3.len
  refine ⟨p, m4, ?_, h4, ((k1.trans k2).trans k3).trans k4, by omega⟩
  push_cast at e1
  simp [e1, e2, e3, e4]
end
end K03

-- D03
set_option linter.all false
set_option Elab.async false
set_option maxRecDepth 10000
namespace K03
open Ms
open PySem (Str PyData)
theorem NL.congr {b c : Int → Bool} {q : Nrm} (h : NL b q) (hx : ∀ x : Int, 0 ≤ x → b x = c x) : NL c q := by
  obtain ⟨s, r, hp, r1, s2, r2, rfl⟩ := h
  have hc : Per c s r := fun x hs => by rw [← hx _ (by omega), ← hx _ (by omega)]; exact hp x hs
  exact ⟨s, r, hc, r1, s2, r2, nrm_eq hp r1 hc r1 hx⟩
theorem memAll (x : Int) (hx : 0 ≤ x) : memB [] 0 1 [0] x = true := by
  unfold memB
  rw [if_neg (by omega)]
  refine decide_eq_true ?_
  have : (x - (0 : Nat)) % (1 : Nat) = 0 := by omega
  rw [this]
  simp
theorem rawAll : RawOk [] 0 1 [0] := ⟨fun x hx => (by cases hx), by simp, fun x hx => by simp at hx; omega, by simp, by omega, by omega, by omega⟩
section
variable {n : Nat} {fr : Fr} {m : Mem} {b c : Int → Bool} {q q' : Nrm} {p p' : Nat}
theorem common_ok (h : m[p]? = some (lotO q)) (h' : m[p']? = some (lotO q')) (L : Lot b q) (L' : Lot c q') : callN prog (n + 3) fr (.df ix_common_of) [.ref p, .ref p'] m = .ok (.tup [.int (max q.s q'.s : Nat), .int (Nat.lcm q.r q'.r : Nat)]) m := by
  have r2 := L.r2
  have r2' := L'.r2
  have e := lcm_ok (n := n) (fr := fr) (m := m) q.r q'.r (by omega) (by omega) L.r1
  have hmax : max (q.s : Int) q'.s = ((max q.s q'.s : Nat) : Int) := by omega
  rw [call_df at_common_of rfl]
  generalize max q.s q'.s = M at hmax
  generalize Nat.lcm q.r q'.r = E at e
  simp [d_common_of, startE, f_start h, f_start h', f_ring h, f_ring h', bltin, hmax, e]
theorem need2_ok (h : m[p]? = some (lotO q)) (h' : m[p']? = some (lotO q')) (L : Lot b q) (L' : Lot c q') (hl : Nat.lcm q.r q'.r ≤ 5000) : callN prog (n + 4) fr (.df ix_need_both) [.ref p, .ref p'] m = .ok (.tup [.int (max q.s q'.s : Nat), .int (Nat.lcm q.r q'.r : Nat)]) m := by
  have e := common_ok (n := n) (fr := fr) h h' L L'
  rw [call_df at_need_both rfl]
  generalize max q.s q'.s = M at e ⊢
  generalize Nat.lcm q.r q'.r = E at e hl ⊢
  have hE : ¬ 5000 < (E : Int) := by omega
  have hE2 : ¬ 5000 < E := by omega
  simp [d_need_both, startE, need_ok (n := n + 2) h, need_ok (n := n + 2) h', e, hE, hE2]
theorem need2_big (h : m[p]? = some (lotO q)) (h' : m[p']? = some (lotO q')) (L : Lot b q) (L' : Lot c q') (hl : 5000 < Nat.lcm q.r q'.r) : callN prog (n + 4) fr (.df ix_need_both) [.ref p, .ref p'] m = .exc xx_InvalidSize [.str (sOf "ring")] m := by
  have e := common_ok (n := n) (fr := fr) h h' L L'
  rw [call_df at_need_both rfl]
  generalize max q.s q'.s = M at e ⊢
  generalize Nat.lcm q.r q'.r = E at e hl ⊢
  have hE : 5000 < (E : Int) := by omega
  simp [d_need_both, startE, need_ok (n := n + 2) h, need_ok (n := n + 2) h', e, hl, hE]
theorem need2_bad1 {v w : D} (hv : Flat v = true) : callN prog (n + 4) fr (.df ix_need_both) [v, w] m = .exc xx_InvalidNumbers [.int 0] m := by
  rw [call_df at_need_both rfl]
  simp [d_need_both, startE, need_bad hv]
theorem need2_bad2 {w : D} (h : m[p]? = some (lotO q)) (hv : Flat w = true) : callN prog (n + 4) fr (.df ix_need_both) [.ref p, w] m = .exc xx_InvalidNumbers [.int 1] m := by
  rw [call_df at_need_both rfl]
  simp [d_need_both, startE, need_ok (n := n + 2) h, need_bad hv]
/-- the two lots' bits, as far as both come round -/
theorem two_bits (h : m[p]? = some (lotO q)) (h' : m[p']? = some (lotO q')) (L : Lot b q) (L' : Lot c q') (hl : Nat.lcm q.r q'.r ≤ 5000) : ∃ (S E : Nat) (m1 m2 : Mem), S = max q.s q'.s ∧ E = Nat.lcm q.r q'.r ∧ S ≤ 1000 ∧ 1 ≤ E ∧ E ≤ 5000 ∧ Per b S E ∧ Per c S E ∧ callN prog (n + 1) fr (.df ix_bits_of) [.ref p, .int (S + E : Nat)] m = .ok (.int (bn (S + E) b : Nat)) m1 ∧ callN prog (n + 1) fr (.df ix_bits_of) [.ref p', .int (S + E : Nat)] m1 = .ok (.int (bn (S + E) c : Nat)) m2 ∧ Kp [] m m1 ∧ Kp [] m1 m2 := by
  have s2 := L.s2
  have s2' := L'.s2
  have hS : max q.s q'.s ≤ 1000 := by omega
  obtain ⟨m1, e1, k1⟩ := bits_ok (n := n) (fr := fr) h L (k := max q.s q'.s + Nat.lcm q.r q'.r) (by omega)
  obtain ⟨m2, e2, k2⟩ := bits_ok (n := n) (fr := fr) (k1.get0 h') L' (k := max q.s q'.s + Nat.lcm q.r q'.r) (by omega)
  exact ⟨_, _, m1, m2, rfl, rfl, hS, Nat.lcm_pos L.r1 L'.r1, hl, per_up L.per (by omega) (Nat.mod_eq_zero_of_dvd (Nat.dvd_lcm_left _ _)), per_up L'.per (by omega) (Nat.mod_eq_zero_of_dvd (Nat.dvd_lcm_right _ _)), e1, e2, k1, k2⟩
/-- what comes of it -/
def Got (n : Nat) (fr : Fr) (m : Mem) (k : Nat) (ds : List D) (e : Nat) (c : Int → Bool) : Prop := ∃ p m' q, callN prog n fr (.df k) ds m = .ok (.ref p) m' ∧ m'[p]? = some (lotO q) ∧ NL c q ∧ Kp [] m m' ∧ m.length ≤ p ∧ q.r ∣ e
theorem both_told_ok (h : m[p]? = some (lotO q)) (h' : m[p']? = some (lotO q')) (L : Lot b q) (L' : Lot c q') (hl : Nat.lcm q.r q'.r ≤ 5000) : Got (n + 8) fr m ix_both_told [.ref p, .ref p'] (Nat.lcm q.r q'.r) fun x => b x && c x := by
  obtain ⟨S, E, m1, m2, hS, hE, s2, r1, r2, pb, pc, e1, e2, k1, k2⟩ := two_bits (n := n + 6) (fr := fr) h h' L L' hl
  have ec := common_ok (n := n + 4) (fr := fr) h h' L L'
  rw [← hS, ← hE] at ec
  obtain ⟨u, m3, e3, h3, k3, l3⟩ := from_ok (n := n) (fr := fr) (m := m2) (c := fun x => b x && c x) (s := S) (r := E) (per_two (f := fun u v => u && v) pb pc) rfl r1 s2 r2
  rw [← bn_and] at e3
  have e4 : binop .band (.int (bn (S + E) b : Nat)) (.int (bn (S + E) c : Nat)) m2 = .ok (.int ((bn (S + E) b &&& bn (S + E) c : Nat) : Int)) m2 := by
    rw [b_and, and_cast]
  push_cast at e1 e2
  have := k1.len
  have := k2.len
  refine ⟨u, m3, _, ?_, h3, ⟨S, E, per_two (f := fun u v => u && v) pb pc, r1, s2, r2, rfl⟩, (k1.trans k2).trans k3, by omega, by rw [← hE]; exact Nat.dvd_of_mod_eq_zero (far_spec (per_two (f := fun u v => u && v) pb pc) r1).2.2.1⟩
  rw [call_df at_both_told rfl]
  generalize bn (S + E) b = x at e1 e4 e3
  generalize bn (S + E) c = y at e2 e4 e3
  generalize x &&& y = z at e3 e4
  simp [d_both_told, startE, ec, e1, e2, e4, e3]
theorem either_told_ok (h : m[p]? = some (lotO q)) (h' : m[p']? = some (lotO q')) (L : Lot b q) (L' : Lot c q') (hl : Nat.lcm q.r q'.r ≤ 5000) : Got (n + 8) fr m ix_either_told [.ref p, .ref p'] (Nat.lcm q.r q'.r) fun x => b x || c x := by
  obtain ⟨S, E, m1, m2, hS, hE, s2, r1, r2, pb, pc, e1, e2, k1, k2⟩ := two_bits (n := n + 6) (fr := fr) h h' L L' hl
  have ec := common_ok (n := n + 4) (fr := fr) h h' L L'
  rw [← hS, ← hE] at ec
  obtain ⟨u, m3, e3, h3, k3, l3⟩ := from_ok (n := n) (fr := fr) (m := m2) (c := fun x => b x || c x) (s := S) (r := E) (per_two (f := fun u v => u || v) pb pc) rfl r1 s2 r2
  rw [← bn_or] at e3
  have e4 : binop .bor (.int (bn (S + E) b : Nat)) (.int (bn (S + E) c : Nat)) m2 = .ok (.int ((bn (S + E) b ||| bn (S + E) c : Nat) : Int)) m2 := by
    rw [b_or, or_cast]
  push_cast at e1 e2
  have := k1.len
  have := k2.len
  refine ⟨u, m3, _, ?_, h3, ⟨S, E, per_two (f := fun u v => u || v) pb pc, r1, s2, r2, rfl⟩, (k1.trans k2).trans k3, by omega, by rw [← hE]; exact Nat.dvd_of_mod_eq_zero (far_spec (per_two (f := fun u v => u || v) pb pc) r1).2.2.1⟩
  rw [call_df at_either_told rfl]
  generalize bn (S + E) b = x at e1 e4 e3
  generalize bn (S + E) c = y at e2 e4 e3
  generalize x ||| y = z at e3 e4
  simp [d_either_told, startE, ec, e1, e2, e4, e3]
theorem less_told_ok (h : m[p]? = some (lotO q)) (h' : m[p']? = some (lotO q')) (L : Lot b q) (L' : Lot c q') (hl : Nat.lcm q.r q'.r ≤ 5000) : Got (n + 8) fr m ix_less_told [.ref p, .ref p'] (Nat.lcm q.r q'.r) fun x => b x && !(c x) := by
  obtain ⟨S, E, m1, m2, hS, hE, s2, r1, r2, pb, pc, e1, e2, k1, k2⟩ := two_bits (n := n + 6) (fr := fr) h h' L L' hl
  have ec := common_ok (n := n + 4) (fr := fr) h h' L L'
  rw [← hS, ← hE] at ec
  obtain ⟨u, m3, e3, h3, k3, l3⟩ := from_ok (n := n) (fr := fr) (m := m2) (c := fun x => b x && !(c x)) (s := S) (r := E) (per_two (f := fun u v => u && !v) pb pc) rfl r1 s2 r2
  rw [← bn_less] at e3
  have e4 : binop .band (.int (bn (S + E) b : Nat)) (.int (PySem.Builtin.bitNot (bn (S + E) c : Nat))) m2 = .ok (.int ((bn (S + E) b ^^^ (bn (S + E) b &&& bn (S + E) c) : Nat) : Int)) m2 := by
    rw [b_and, andn_cast]
  push_cast at e1 e2
  have := k1.len
  have := k2.len
  refine ⟨u, m3, _, ?_, h3, ⟨S, E, per_two (f := fun u v => u && !v) pb pc, r1, s2, r2, rfl⟩, (k1.trans k2).trans k3, by omega, by rw [← hE]; exact Nat.dvd_of_mod_eq_zero (far_spec (per_two (f := fun u v => u && !v) pb pc) r1).2.2.1⟩
  rw [call_df at_less_told rfl]
  generalize hx : bn (S + E) b = x at e1 e4 e3
  generalize bn (S + E) c = y at e2 e4 e3
  generalize x ^^^ (x &&& y) = z at e3 e4
  simp [d_less_told, startE, ec, e1, e2, e4, e3]
theorem both_ok (h : m[p]? = some (lotO q)) (h' : m[p']? = some (lotO q')) (L : NL b q) (L' : NL c q') (hl : Nat.lcm q.r q'.r ≤ 5000) : Got (n + 9) fr m ix_both [.ref p, .ref p'] (Nat.lcm q.r q'.r) fun x => b x && c x := by
  obtain ⟨u, m1, w, e, h1, h2, h3, h4, h5⟩ := both_told_ok (n := n) (fr := fr) h h' L.lot L'.lot hl
  refine ⟨u, m1, w, ?_, h1, h2, h3, h4, h5⟩
  rw [call_df at_both rfl]
  simp [d_both, startE, need2_ok (n := n + 4) h h' L.lot L'.lot hl, e]
theorem either_ok (h : m[p]? = some (lotO q)) (h' : m[p']? = some (lotO q')) (L : NL b q) (L' : NL c q') (hl : Nat.lcm q.r q'.r ≤ 5000) : Got (n + 9) fr m ix_either [.ref p, .ref p'] (Nat.lcm q.r q'.r) fun x => b x || c x := by
  obtain ⟨u, m1, w, e, h1, h2, h3, h4, h5⟩ := either_told_ok (n := n) (fr := fr) h h' L.lot L'.lot hl
  refine ⟨u, m1, w, ?_, h1, h2, h3, h4, h5⟩
  rw [call_df at_either rfl]
  simp [d_either, startE, need2_ok (n := n + 4) h h' L.lot L'.lot hl, e]
theorem less_ok (h : m[p]? = some (lotO q)) (h' : m[p']? = some (lotO q')) (L : NL b q) (L' : NL c q') (hl : Nat.lcm q.r q'.r ≤ 5000) : Got (n + 9) fr m ix_less [.ref p, .ref p'] (Nat.lcm q.r q'.r) fun x => b x && !(c x) := by
  obtain ⟨u, m1, w, e, h1, h2, h3, h4, h5⟩ := less_told_ok (n := n) (fr := fr) h h' L.lot L'.lot hl
  refine ⟨u, m1, w, ?_, h1, h2, h3, h4, h5⟩
  rw [call_df at_less rfl]
  simp [d_less, startE, need2_ok (n := n + 4) h h' L.lot L'.lot hl, e]
theorem others_ok (h : m[p]? = some (lotO q)) (L : NL b q) : Got (n + 9) fr m ix_others [.ref p] q.r fun x => !(b x) := by
  have k0 : Kp [] m (m ++ [Ob.lst []] ++ [Ob.lst [.int 0]]) := (Kp.app _).trans (.app _)
  obtain ⟨a, m1, e1, h1, k1, l1⟩ := mk_ok (n := n + 3) (fr := fr) (m := m ++ [Ob.lst []] ++ [Ob.lst [.int 0]]) (vF := .ref m.length) (vR := .ref (m.length + 1)) (F := []) (R := [0]) (s := 0) (r := 1) (.inr ⟨_, rfl, by simp⟩) (.inr ⟨_, rfl, by simp⟩) (by simp) (by simp) (by omega) (by omega) (by omega) rawAll.hf rawAll.fn rawAll.hr rawAll.rn
  have e1 : callN prog (n + 8) fr (.ct cx_Numbers) [.ref m.length, .int 0, .int 1, .ref (m.length + 1)] (m ++ [Ob.lst []] ++ [Ob.lst [.int 0]]) = .ok (.ref a) m1 := e1
  have nA := nl_raw rawAll
  have ra : (nrm (memB [] 0 1 [0]) 0 1).r = 1 := by
    have f := far_spec (memB_per (F := []) (s := 0) rawAll.r1 rawAll.hr) rawAll.r1
    have e : (nrm (memB [] 0 1 [0]) 0 1).r = far (memB [] 0 1 [0]) 0 1 := rfl
    omega
  have r2 := L.lot.r2
  obtain ⟨u, m2, w, e2, h2, h3, k2, l2, h5⟩ := less_told_ok (n := n) (fr := fr) h1 ((k0.trans k1).get0 h) nA.lot L.lot (by rw [ra, Nat.lcm_one_left]; exact r2)
  simp at e1
  have := (k0.trans k1).len
  refine ⟨u, m2, w, ?_, h2, h3.congr fun x hx => by rw [memAll x hx]; simp, (k0.trans k1).trans k2, by omega, by rw [ra, Nat.lcm_one_left] at h5; exact h5⟩
  rw [call_df at_others rfl]
  simp [d_others, startE, need_ok (n := n + 7) h, newL, e1, e2]
/-! ### the first -/
theorem fbit_ok {B s r : Nat} (hp : Per b s r) (hr : 1 ≤ r) (hB : B = bn (s + r) b) : ∃ d, callN prog (n + 1) fr (.df ix_first_bit) [.int B] m = .ok d m ∧ NthOf b 0 d := by
  have hl := low_nth hp hr hB
  rw [call_df at_first_bit rfl]
  by_cases h : B = 0
  · refine ⟨.non, ?_, hl.1 h⟩
    subst h
    simp [d_first_bit, startE]
  · obtain ⟨k, h1, h2⟩ := hl.2 h
    refine ⟨.int k, ?_, h2⟩
    have hB0 : ((B : Int) != 0) = true := by simp; omega
    simp [d_first_bit, startE, hB0, h, b_and, ometh, h1]
theorem beyond_ok (h : m[p]? = some (lotO q)) (h' : m[p']? = some (lotO q')) (L : NL b q) (L' : NL c q') (hl : Nat.lcm q.r q'.r ≤ 5000) : ∃ d m', callN prog (n + 5) fr (.df ix_first_beyond) [.ref p, .ref p'] m = .ok d m' ∧ NthOf (fun x => b x && !(c x)) 0 d ∧ Kp [] m m' := by
  obtain ⟨S, E, m1, m2, hS, hE, s2, r1, r2, pb, pc, e1, e2, k1, k2⟩ := two_bits (n := n + 3) (fr := fr) h h' L.lot L'.lot hl
  have ec := need2_ok (n := n) (fr := fr) h h' L.lot L'.lot hl
  rw [← hS, ← hE] at ec
  obtain ⟨d, e3, n3⟩ := fbit_ok (n := n + 3) (fr := fr) (m := m2) (b := fun x => b x && !(c x)) (s := S) (r := E) (per_two (f := fun u v => u && !v) pb pc) r1 rfl
  rw [← bn_less] at e3
  have e4 : binop .band (.int (bn (S + E) b : Nat)) (.int (PySem.Builtin.bitNot (bn (S + E) c : Nat))) m2 = .ok (.int ((bn (S + E) b ^^^ (bn (S + E) b &&& bn (S + E) c) : Nat) : Int)) m2 := by
    rw [b_and, andn_cast]
  push_cast at e1 e2
  refine ⟨d, m2, ?_, n3, k1.trans k2⟩
  rw [call_df at_first_beyond rfl]
  generalize bn (S + E) b = x at e1 e4 e3
  generalize bn (S + E) c = y at e2 e4 e3
  generalize x ^^^ (x &&& y) = z at e3 e4
  simp [d_first_beyond, startE, ec, e1, e2, e4, e3]
theorem unlike_first_ok (h : m[p]? = some (lotO q)) (h' : m[p']? = some (lotO q')) (L : NL b q) (L' : NL c q') (hl : Nat.lcm q.r q'.r ≤ 5000) : ∃ d m', callN prog (n + 5) fr (.df ix_first_unlike) [.ref p, .ref p'] m = .ok d m' ∧ NthOf (fun x => b x != c x) 0 d ∧ Kp [] m m' := by
  obtain ⟨S, E, m1, m2, hS, hE, s2, r1, r2, pb, pc, e1, e2, k1, k2⟩ := two_bits (n := n + 3) (fr := fr) h h' L.lot L'.lot hl
  have ec := need2_ok (n := n) (fr := fr) h h' L.lot L'.lot hl
  rw [← hS, ← hE] at ec
  obtain ⟨d, e3, n3⟩ := fbit_ok (n := n + 3) (fr := fr) (m := m2) (b := fun x => b x != c x) (s := S) (r := E) (per_two (f := fun u v => u != v) pb pc) r1 rfl
  rw [← bn_xor] at e3
  have e4 : binop .bxor (.int (bn (S + E) b : Nat)) (.int (bn (S + E) c : Nat)) m2 = .ok (.int ((bn (S + E) b ^^^ bn (S + E) c : Nat) : Int)) m2 := by
    show Ms.R.ok _ _ = _
    rw [xor_cast]
  push_cast at e1 e2
  refine ⟨d, m2, ?_, n3, k1.trans k2⟩
  rw [call_df at_first_unlike rfl]
  generalize bn (S + E) b = x at e1 e4 e3
  generalize bn (S + E) c = y at e2 e4 e3
  generalize x ^^^ y = z at e3 e4
  simp [d_first_unlike, startE, ec, e1, e2, e4, e3]
theorem within_ok (h : m[p]? = some (lotO q)) (h' : m[p']? = some (lotO q')) (L : NL b q) (L' : NL c q') (hl : Nat.lcm q.r q'.r ≤ 5000) : ∃ z m', callN prog (n + 6) fr (.df ix_is_within) [.ref p, .ref p'] m = .ok (.bl z) m' ∧ (z = true ↔ ∀ x : Int, 0 ≤ x → b x = true → c x = true) ∧ Kp [] m m' := by
  obtain ⟨d, m1, e, hd, k1⟩ := beyond_ok (n := n) (fr := fr) h h' L L' hl
  have ei : ∀ z, cmpE prog (callN prog (n + 5)) fr .is d .non m1 = .ok (.bl z) m1 → callN prog (n + 6) fr (.df ix_is_within) [.ref p, .ref p'] m = .ok (.bl z) m1 := fun z hz => by
    rw [call_df at_is_within rfl]
    simp [d_is_within, startE, e, hz]
  rcases hd with ⟨y, rfl, h1, _⟩ | ⟨rfl, h1⟩
  · simp at h1
    refine ⟨false, m1, ei _ (by simp [isN]), ⟨fun z => (by cases z), fun z => ?_⟩, k1⟩
    have := z y (by omega) h1.1
    rw [h1.2] at this
    cases this
  · refine ⟨true, m1, ei _ (by simp [isN]), ⟨fun _ x hx hb => ?_, fun _ => rfl⟩, k1⟩
    obtain ⟨y, rfl⟩ := Int.eq_ofNat_of_zero_le hx
    cases hc : c y with
    | true => rfl
    | false =>
      have := h1 y (by simp [hb, hc])
      omega
end
end K03

-- E03
set_option linter.all false
set_option Elab.async false
set_option maxRecDepth 10000
namespace K03
open Ms
open PySem (Str PyData)
section
variable {n : Nat} {fr : Fr} {m : Mem} {b : Nat}
theorem nn1 : (xx_InvalidNumbers = xx_InvalidSize) = False := eq_false (by decide)
theorem nn2 : (xx_InvalidNumbers = xx_LearnError) = False := eq_false (by decide)
theorem err_numbers {f : D} {l : Int} {m' : Mem} {k i : Nat} (hf : f = .clo k i) (h : callN prog n fr (.cl k i) [] m = .exc xx_InvalidNumbers [.int l] m') : callN prog (n + 1) fr (.df ix__law_error) [f] m = .ok (.tup [.str (sOf "numbers"), .int l]) m' := by
  subst hf
  rw [call_df at__law_error rfl]
  simp [d__law_error, startE, callV, h, handle, tyOf, evH, evH.evHs]
theorem err_size {f : D} {l : Str} {m' : Mem} {k i : Nat} (hf : f = .clo k i) (h : callN prog n fr (.cl k i) [] m = .exc xx_InvalidSize [.str l] m') : callN prog (n + 1) fr (.df ix__law_error) [f] m = .ok (.tup [.str (sOf "size"), .str l]) m' := by
  subst hf
  rw [call_df at__law_error rfl]
  simp [d__law_error, startE, callV, h, handle, tyOf, evH, evH.evHs, nn1, nn2]
/-- a ring of both -/
theorem rings_ok {x y : Nat} (hx : 1 ≤ x) (hy : 1 ≤ y) (hm : x * y ≤ 100000) : ∃ k : Nat, callN prog (n + 1) fr (.df ix__law_both_rings) [.int x, .int y] m = .ok (.int k) m ∧ 1 ≤ k ∧ k ≤ x * y ∧ k % x = 0 ∧ k % y = 0 := by
  have hw : ∃ k : Nat, exe prog (callN prog n) fr (.whl (.cmp .ne (.bin .mod (.var 2) (.var 1)) (.cst (.int 0))) [
    .set (.v 2) (.bin .add (.var 2) (.var 0))]) [some (.int x), some (.int y), some (.int x)] m = .nx [some (.int x), some (.int y), some (.int k)] m ∧ 1 ≤ k ∧ k ≤ x * y ∧ k % x = 0 ∧ k % y = 0 := by
    refine whl_run (k := y - 1) (I := fun k ρ m' => m' = m ∧ ∃ j : Nat, 1 ≤ j ∧ j + k = y ∧ ρ = [some (.int x), some (.int y), some (.int (x * j : Nat))]) (Q := fun z => ∃ k : Nat, z = .nx [some (.int x), some (.int y), some (.int k)] m ∧ 1 ≤ k ∧ k ≤ x * y ∧ k % x = 0 ∧ k % y = 0) (by
      have : 1 * y ≤ x * y := Nat.mul_le_mul_right _ hx
      unfold wfuel
      omega) ⟨rfl, 1, Nat.le_refl _, by omega, by rw [Nat.mul_one]⟩ ?_
    rintro k ρ m' ⟨rfl, j, h1, h2, rfl⟩
    have hy0 : 0 < y := hy
    have hmod : ((x * j : Nat) : Int) % (y : Int) = ((x * j % y : Nat) : Int) := by
      push_cast
      rfl
    have hbm : binop .mod (.int (x * j : Nat)) (.int y) m' = .ok (.int (x * j % y : Nat)) m' := by
      rw [b_mod, if_pos (by omega), hmod]
    by_cases hv : x * j % y = 0
    · refine .inl ⟨m', ?_, x * j, rfl, Nat.mul_pos hx h1, ?_, Nat.mul_mod_right _ _, hv⟩
      · rw [hv] at hbm
        generalize x * j = z at hbm
        simp [-b_mod, hbm]
      · have : j ≤ y := by omega
        exact Nat.mul_le_mul_left _ this
    · have hjy : j < y := by
        rcases Nat.lt_or_ge j y with z | z
        · exact z
        · have hj : j = y := by omega
          rw [hj, Nat.mul_mod_left] at hv
          exact absurd rfl hv
      refine .inr ⟨m', ?_, .inl ⟨[some (.int x), some (.int y), some (.int (x * (j + 1) : Nat))], m', k - 1, .inl ?_, by omega, rfl, j + 1, by omega, by omega, rfl⟩⟩
      · generalize x * j = z at hbm hv
        generalize z % y = w at hbm hv
        simp [-b_mod, hbm]
        omega
      · have e : ((x * j : Nat) : Int) + x = ((x * (j + 1) : Nat) : Int) := by
          rw [Nat.mul_succ]
          push_cast
          rfl
        generalize x * (j + 1) = w at e ⊢
        generalize x * j = z at e ⊢
        simp [e]
  obtain ⟨k, e, h⟩ := hw
  refine ⟨k, ?_, h⟩
  rw [call_df at__law_both_rings rfl]
  simp only [d__law_both_rings, startE]
  rw [xs_cons, x_set]
  show (X.seq ((ev prog (callN prog n) fr (.var 0) [some (.int x), some (.int y), none] m).to _ _) _).ret = _
  simp [e]
def op (w : Nat) (u v : Bool) : Bool := match w with
  | 0 => u && v
  | 1 => u || v
  | _ => u && !v
theorem together_ok {F R F' R' : List Int} {s r s' r' : Nat} (h : RawOk F s r R) (h' : RawOk F' s' r' R') (hrr : r * r' ≤ 1000) {w : Nat} (hw : w < 3) : ∃ q m', callN prog (n + 3) fr (.df ix__law_together) [rawD F s r R, rawD F' s' r' R', .int w] m = .ok (.tup (nrmL q)) m' ∧ NL (fun x => op w (memB F s r R x) (memB F' s' r' R' x)) q ∧ Kp [] m m' ∧ PureD 2 (.tup (nrmL q)) = true := by
  have s2 := h.s2
  have s2' := h'.s2
  obtain ⟨k, e1, k1, k2, k3, k4⟩ := rings_ok (n := n + 1) (fr := fr) (m := m) h.r1 h'.r1 (by omega)
  have hmax : max (s : Int) s' = ((max s s' : Nat) : Int) := by omega
  obtain ⟨S, hS⟩ : ∃ S, S = max s s' := ⟨_, rfl⟩
  rw [← hS] at hmax
  have pb : Per (memB F s r R) S k := per_up (memB_per h.r1 h.hr) (by omega) k3
  have pc : Per (memB F' s' r' R') S k := per_up (memB_per h'.r1 h'.hr) (by omega) k4
  generalize hb : memB F s r R = b at pb
  generalize hc : memB F' s' r' R' = c at pc
  have ib : ∀ (m : Mem) (x : Int), callN prog (n + 2) fr (.df ix__law_in) [rawD F s r R, .int x] m = .ok (.bl (b x)) m := fun m x => by rw [← hb]; exact in_ok h.r1 x
  have ic : ∀ (m : Mem) (x : Int), callN prog (n + 2) fr (.df ix__law_in) [rawD F' s' r' R', .int x] m = .ok (.bl (c x)) m := fun m x => by rw [← hc]; exact in_ok h'.r1 x
  have per : Per (fun x => op w (b x) (c x)) S k := per_two (f := op w) pb pc
  rw [call_df at__law_together rfl]
  simp only [d__law_together, startE, List.map_cons, List.map_nil, List.length_cons, List.length_nil, List.cons_append, List.nil_append]
  simp only [List.replicate]
  have hloop : ∃ (x6 x7 x8 : Option D) (m' : Mem), exe prog (callN prog (n + 2)) fr (.for_ (.v 6) .rng [.bin .add (.var 3) (.bin .mul (.cst (.int 2)) (.var 4))] [
    .set (.t [.v 7, .v 8]) (.tup [.call ix__law_in [.var 0, .var 6], .call ix__law_in [.var 1, .var 6]]),
    .ex (.mth .append (.var 5) [.idx (.tup [.and (.var 7) (.var 8), .or (.var 7) (.var 8), .and (.var 7) (.not (.var 8))]) (.var 2)])])
      [some (rawD F s r R), some (rawD F' s' r' R'), some (.int w), some (.int S), some (.int k), some (.ref m.length), none, none, none] (m ++ [Ob.lst []]) = .nx [some (rawD F s r R), some (rawD F' s' r' R'), some (.int w), some (.int S), some (.int k), some (.ref m.length), x6, x7, x8] m' ∧ m'[m.length]? = some (.lst ((List.range (S + 2 * k)).map fun i : Nat => .bl (op w (b i) (c i)))) ∧ Kp [] m m' := by
    refine for_run (m1 := m ++ [Ob.lst []]) (I := fun i ρ m' => ∃ x6 x7 x8 : Option D, ρ = [some (rawD F s r R), some (rawD F' s' r' R'), some (.int w), some (.int S), some (.int k), some (.ref m.length), x6, x7, x8] ∧ m'[m.length]? = some (.lst ((List.range i).map fun i : Nat => .bl (op w (b i) (c i)))) ∧ Kp [] m m') (xs := (List.range (S + 2 * k)).map fun i : Nat => .int (0 + i)) (n := S + 2 * k) (s := .fix (rngL 0 (0 + (S + 2 * k : Nat)))) (ds := [.int (S + 2 * k : Nat)])
      (Q := fun z => ∃ (x6 x7 x8 : Option D) (m' : Mem), z = .nx [some (rawD F s r R), some (rawD F' s' r' R'), some (.int w), some (.int S), some (.int k), some (.ref m.length), x6, x7, x8] m' ∧ m'[m.length]? = some (.lst ((List.range (S + 2 * k)).map fun i : Nat => .bl (op w (b i) (c i)))) ∧ Kp [] m m') rfl (by simp) (by rw [Int.zero_add]; exact src_rng1 (small_of (by omega) (by omega))) (by simp) (fun i ρ m' _ _ => (wk_rng 0 _).2 m' .refl) ⟨none, none, none, rfl, by simp, .app _⟩ ?_ ?_
    · rintro i d ρ m1 hi ⟨x6, x7, x8, rfl, hl, kk⟩
      have hik : i < S + 2 * k := by
        have := (List.getElem?_eq_some_iff.mp hi).1
        simpa using this
      rw [List.getElem?_map, List.getElem?_range hik, Option.map_some, Int.zero_add] at hi
      cases hi
      have ea : ∀ d, meth .append (.ref m.length) [d] m1 = .ok .non (m1.set m.length (.lst (((List.range i).map fun i : Nat => .bl (op w (b i) (c i))) ++ [d]))) := fun d => mt_append hl (by rw [List.length_map, List.length_range]; unfold lim; omega)
      have er : recv .append m1 (.ref m.length) = true := recv_lst hl
      have ex : ∀ u v : Bool, index (.tup [.bl (u && v), .bl (u || v), .bl (u && !v)]) (.int w) m1 = .ok (.bl (op w u v)) m1 := fun u v => by
        match w, hw with
        | 0, _ => exact ix_tup (by omega) rfl
        | 1, _ => exact ix_tup (by omega) rfl
        | 2, _ => exact ix_tup (by omega) rfl
      refine ⟨[some (rawD F s r R), some (rawD F' s' r' R'), some (.int w), some (.int S), some (.int k), some (.ref m.length), some (.int i), x7, x8], by simp [bindT], .inl ⟨[some (rawD F s r R), some (rawD F' s' r' R'), some (.int w), some (.int S), some (.int k), some (.ref m.length), some (.int i), some (.bl (b i)), some (.bl (c i))], _, .inl ?_, some (.int i), some (.bl (b i)), some (.bl (c i)), rfl, ?_, kk.set (o := .lst (((List.range i).map fun i : Nat => .bl (op w (b i) (c i))) ++ [.bl (op w (b i) (c i))])) (.inl (Nat.le_refl _))⟩⟩
      · have e7 : exe prog (callN prog (n + 2)) fr (.set (.t [.v 7, .v 8]) (.tup [.call ix__law_in [.var 0, .var 6], .call ix__law_in [.var 1, .var 6]])) [some (rawD F s r R), some (rawD F' s' r' R'), some (.int w), some (.int S), some (.int k), some (.ref m.length), some (.int i), x7, x8] m1 = .nx [some (rawD F s r R), some (rawD F' s' r' R'), some (.int w), some (.int S), some (.int k), some (.ref m.length), some (.int i), some (.bl (b i)), some (.bl (c i))] m1 := by
          simp [ib, ic]
        have e := ex (b i) (c i)
        have ea := ea (.bl (op w (b i) (c i)))
        generalize op w (b i) (c i) = z at e ea ⊢
        generalize b i = u at e e7 ⊢
        generalize c i = v at e e7 ⊢
        have eT : ev prog (callN prog (n + 2)) fr (.tup [.and (.var 7) (.var 8), .or (.var 7) (.var 8), .and (.var 7) (.not (.var 8))]) [some (rawD F s r R), some (rawD F' s' r' R'), some (.int w), some (.int S), some (.int k), some (.ref m.length), some (.int i), some (.bl u), some (.bl v)] m1 = .ok (.tup [.bl (u && v), .bl (u || v), .bl (u && !v)]) m1 := by
          cases u <;> cases v <;> simp
        rw [xs_cons, e7, seq_nx, xs_cons, x_ex, e_mth, e_var]
        simp only [List.getElem?_cons_zero, List.getElem?_cons_succ, Option.join_some, opt_some, rb_ok, er, if_true, es_cons, e_idx, eT, e_var, e, es_nil, ea, to_ok, seq_nx, xs_nil]
      · rw [List.getElem?_set_self (lt_of hl), List.range_succ, List.map_append]
        rfl
    · rintro ρ m1 ⟨x6, x7, x8, rfl, hl, kk⟩
      exact ⟨x6, x7, x8, m1, rfl, hl, kk⟩
  obtain ⟨x6, x7, x8, m1, e2, h2, kk⟩ := hloop
  obtain ⟨m2, e3, kk2⟩ := lnormal_ok (n := n + 1) (fr := fr) (m := m1) (b := fun x => op w (b x) (c x)) h2 per k1 (by omega) (by omega)
  refine ⟨_, m2, ?_, ⟨S, k, per, k1, by omega, by omega, rfl⟩, kk.trans kk2, ?_⟩
  · simp [raw1, raw2, bltin, hmax, e1, newL, e2, e3]
  · have f := far_spec per k1
    have g := beg_le (b := fun x => op w (b x) (c x)) (d := far (fun x => op w (b x) (c x)) S k) S
    refine pure_nrm ?_ ?_
    · exact Nat.le_trans (upto_len (beg (fun x => op w (b x) (c x)) (far (fun x => op w (b x) (c x)) S k) S) _) (by omega)
    · exact Nat.le_trans (upto_len (far (fun x => op w (b x) (c x)) S k) _) (by omega)
end
end K03

-- F03
set_option linter.all false
set_option Elab.async false
set_option maxRecDepth 10000
namespace K03
open Ms
open PySem (Str PyData)
/-! ### the law's statements -/
def u0 : S := .set (.v 1) (.call ix__law_box [.var 0])
def t0 : S := .set (.v 7) (.lc (.call ix__law_raw [.var 1, .cst (.int 7), .lst [.cst (.int 1), .cst (.int 2), .cst (.int 3), .cst (.int 4), .cst (.int 5), .cst (.int 6), .cst (.int 10)]]) (.v 6) .rng [.cst (.int 3)] [] [6])
def t1 : S := .set (.t [.v 8, .v 9, .v 10]) (.lc (.call ix__law_lot [.var 1, .var 17]) (.v 17) .one [.var 7] [] [17])
def t2 : S := .set (.v 11) (.lc (.call ix__law_together [.idx (.var 7) (.cst (.int 0)), .idx (.var 7) (.cst (.int 1)), .var 18]) (.v 18) .rng [.cst (.int 3)] [] [18])
def t3b : List S := [ .ife (.not (.call ix__law_is [.call ix__law_four [.var 12], .var 13])) [ .ret (.cst (.bl false))] []]
def t3 : S := .for_ (.t [.v 12, .v 13]) .zip [.lst [.call ix_both [.var 8, .var 9], .call ix_either [.var 8, .var 9], .call ix_less [.var 8, .var 9]], .var 11] t3b
def t4 : S := .set (.v 14) (.lc (.var 19) (.v 19) .rng [.cst (.int 120)] [.and (.call ix__law_in [.idx (.var 7) (.cst (.int 0)), .var 19]) (.not (.call ix__law_in [.idx (.var 7) (.cst (.int 1)), .var 19]))] [19])
def t5 : S := .set (.v 15) (.lc (.var 19) (.v 19) .rng [.cst (.int 120)] [.cmp .ne (.call ix__law_in [.idx (.var 7) (.cst (.int 0)), .var 19]) (.call ix__law_in [.idx (.var 7) (.cst (.int 1)), .var 19])] [19])
def t6 : S := .ife (.or (.not (.call ix__law_is [.call ix_first_beyond [.var 8, .var 9], .ite (.cmp .ne (.var 14) (.lst [])) (.idx (.var 14) (.cst (.int 0))) (.cst (.non))])) (.not (.call ix__law_is [.call ix_is_within [.var 8, .var 9], .cmp .eq (.var 14) (.lst [])]))) [ .ret (.cst (.bl false))] []
def t7 : S := .ife (.or (.not (.call ix__law_is [.call ix_first_unlike [.var 8, .var 9], .ite (.cmp .ne (.var 15) (.lst [])) (.idx (.var 15) (.cst (.int 0))) (.cst (.non))])) (.not (.call ix__law_is [.cmp .eq (.var 8) (.var 9), .cmp .eq (.var 15) (.lst [])]))) [ .ret (.cst (.bl false))] []
def t8 : S := .ife (.or (.cmp .isNot (.cmp .eq (.call ix_less [.var 8, .call ix_less [.var 8, .var 9]]) (.call ix_both [.var 8, .var 9])) (.cst (.bl true))) (.cmp .isNot (.cmp .eq (.call ix_others [.call ix_others [.var 8]]) (.var 8)) (.cst (.bl true)))) [ .ret (.cst (.bl false))] []
def t9 : S := .ife (.or (.cmp .isNot (.cmp .eq (.call ix_others [.call ix_either [.var 8, .var 9]]) (.call ix_both [.call ix_others [.var 8], .call ix_others [.var 9]])) (.cst (.bl true))) (.cmp .isNot (.cmp .eq (.call ix_less [.var 8, .var 9]) (.call ix_both [.var 8, .call ix_others [.var 9]])) (.cst (.bl true)))) [ .ret (.cst (.bl false))] []
def t10 : S := .ife (.cmp .isNot (.cmp .eq (.call ix_both [.var 8, .call ix_either [.var 9, .var 10]]) (.call ix_either [.call ix_both [.var 8, .var 9], .call ix_both [.var 8, .var 10]])) (.cst (.bl true))) [ .ret (.cst (.bl false))] []
def t11 : S := .ife (.or (.not (.call ix_is_within [.call ix_both [.var 8, .var 9], .var 8])) (.or (.not (.call ix_is_within [.var 8, .call ix_either [.var 8, .var 9]])) (.cmp .ne (.call ix_is_within [.var 8, .var 9]) (.cmp .eq (.call ix_both [.var 8, .var 9]) (.var 8))))) [ .ret (.cst (.bl false))] []
def t12 : S := .set (.v 16) (.call ix__law_take [.var 1, .cst (.int 40)])
def t13 : S := .ife (.not (.call ix__law_is [.call ix_has [.call ix_others [.var 8], .var 16], .not (.call ix__law_in [.idx (.var 7) (.cst (.int 0)), .var 16])])) [ .ret (.cst (.bl false))] []
def u1 : S := .for_ (.v 2) .rng [.cst (.int 4)] [t0, t1, t2, t3, t4, t5, t6, t7, t8, t9, t10, t11, t12, t13]
def u2 : S := .set (.t [.v 3, .v 4]) (.tup [.call ix__law_pick [.var 1, .lst [.cst (.int 60), .cst (.int 58), .cst (.int 57), .cst (.int 55)]], .call ix__law_pick [.var 1, .lst [.cst (.int 59), .cst (.int 53), .cst (.int 49)]]])
def u3 : S := .set (.v 5) (.call ix_either [.mk cx_Numbers [.lst [], .cst (.int 0), .var 3, .lst [.cst (.int 0)]], .mk cx_Numbers [.lst [], .cst (.int 0), .var 4, .lst [.cst (.int 0)]]])
def u4 : S := .ife (.or (.not (.call ix__law_is [.att (.var 5) (sOf "ring"), .bin .mul (.var 3) (.var 4)])) (.or (.not (.call ix__law_is [.call ix_has [.var 5, .bin .mul (.var 3) (.var 4)], .cst (.bl true)])) (.not (.call ix__law_is [.att (.var 5) (sOf "start"), .cst (.int 0)])))) [ .ret (.cst (.bl false))] []
def u5 : S := .ife (.cmp .ne (.blt .len [.att (.var 5) (sOf "rests")]) (.bin .sub (.bin .add (.var 3) (.var 4)) (.cst (.int 1)))) [ .ret (.cst (.bl false))] []
def u6b : List S := [ .ife (.not (.calL ix__law_due [.lst [.lam 4], .tup [.cst (.str (sOf "size")), .cst (.str (sOf "ring"))]])) [ .ret (.cst (.bl false))] [], .ife (.not (.calL ix__law_all [.lam 2, .lst [.cst (.non), .cst (.int 3), .idx (.var 7) (.cst (.int 0))], .tup [.cst (.str (sOf "numbers")), .cst (.int 0)]])) [ .ret (.cst (.bl false))] [], .ife (.not (.calL ix__law_all [.lam 3, .lst [.cst (.non), .cst (.int 3), .idx (.var 7) (.cst (.int 0))], .tup [.cst (.str (sOf "numbers")), .cst (.int 1)]])) [ .ret (.cst (.bl false))] []]
def u6 : S := .for_ (.v 6) .one [.lst [.cst (.fn ix_both), .cst (.fn ix_either), .cst (.fn ix_less), .cst (.fn ix_is_within), .cst (.fn ix_first_beyond), .cst (.fn ix_first_unlike)]] u6b
def u7 : S := .ife (.or (.cmp .isNot (.cmp .eq (.call ix_both [.var 5, .var 5]) (.var 5)) (.cst (.bl true))) (.not (.call ix__law_is [.call ix_first_beyond [.var 5, .mk cx_Numbers [.lst [], .cst (.int 0), .var 3, .lst [.cst (.int 0)]]], .var 4]))) [ .ret (.cst (.bl false))] []
def u8 : S := .ret (.calL ix__law_due [.lst [.lam 1], .tup [.cst (.str (sOf "numbers")), .neg (.cst (.int 1))]])
theorem law_parts : d_law.body = [u0, u1, u2, u3, u4, u5, u6, u7, u8] := rfl
/-- a drawn lot of numbers -/
structure Rw where
  F : List Int
  s : Nat
  r : Nat
  R : List Int
def Rw.d (a : Rw) : D := rawD a.F a.s a.r a.R
def Rw.f (a : Rw) : Int → Bool := memB a.F a.s a.r a.R
def Rw.q (a : Rw) : Nrm := nrm a.f a.s a.r
structure Rw.Ok (a : Rw) : Prop where
  o : RawOk a.F a.s a.r a.R
  s7 : a.s ≤ 7
  r10 : a.r ≤ 10
  r60 : a.r ∣ 60
theorem Rw.Ok.nl {a : Rw} (h : a.Ok) : NL a.f a.q := nl_raw h.o
theorem Rw.Ok.ring {a : Rw} (h : a.Ok) : a.q.r ∣ 60 := by
  have f := far_spec (memB_per (F := a.F) (s := a.s) h.o.r1 h.o.hr) h.o.r1
  exact Nat.dvd_trans (Nat.dvd_of_mod_eq_zero f.2.2.1) h.r60
theorem lcm60 {x y : Nat} (hx : x ∣ 60) (hy : y ∣ 60) : Nat.lcm x y ∣ 60 ∧ Nat.lcm x y ≤ 5000 := by
  have h := Nat.lcm_dvd hx hy
  have := Nat.le_of_dvd (by omega) h
  exact ⟨h, by omega⟩
/-- the slots that stay -/
structure Sl (ρ : Env) (b w p1 p2 p3 : Nat) : Prop where
  len : ρ.length = 21
  v1 : ρ[1]? = some (some (.ref b))
  v7 : ρ[7]? = some (some (.ref w))
  v8 : ρ[8]? = some (some (.ref p1))
  v9 : ρ[9]? = some (some (.ref p2))
  v10 : ρ[10]? = some (some (.ref p3))
theorem Sl.set {ρ : Env} {b w p1 p2 p3 : Nat} (h : Sl ρ b w p1 p2 p3) (i : Nat) (hi : 10 < i) (d : Option D) : Sl (ρ.set i d) b w p1 p2 p3 :=
  ⟨by rw [List.length_set]; exact h.len, by rw [List.getElem?_set_ne (by omega)]; exact h.v1, by rw [List.getElem?_set_ne (by omega)]; exact h.v7, by rw [List.getElem?_set_ne (by omega)]; exact h.v8, by rw [List.getElem?_set_ne (by omega)]; exact h.v9, by rw [List.getElem?_set_ne (by omega)]; exact h.v10⟩
section
variable {n : Nat} {fr : Fr} {m : Mem} {b : Nat} {ρ : Env}
theorem t0_ok (hl : ρ.length = 21) (h1 : ρ[1]? = some (some (.ref b))) (hb : BoxAt m b) : ∃ (A B C : Rw) (w : Nat) (m' : Mem), exe prog (callN prog (n + 12)) fr t0 ρ m = .nx (ρ.set 7 (some (.ref w))) m' ∧ A.Ok ∧ B.Ok ∧ C.Ok ∧ m'[w]? = some (.lst [A.d, B.d, C.d]) ∧ w ≠ b ∧ BoxAt m' b := by
  obtain ⟨acc, m1, e1, ⟨hb1, hlen, hall⟩, _⟩ := lc_inv (fr := fr) (P := prog) (C := callN prog (n + 12)) (x := .call ix__law_raw [.var 1, .cst (.int 7), .lst [.cst (.int 1), .cst (.int 2), .cst (.int 3), .cst (.int 4), .cst (.int 5), .cst (.int 6), .cst (.int 10)]]) (g := .v 6) (k := .rng) (l := [.cst (.int 3)]) (c := []) (own := [6]) (ρ := ρ) (m := m)
    (I := fun i acc m' => BoxAt m' b ∧ acc.length = i ∧ ∀ d ∈ acc, ∃ a : Rw, d = a.d ∧ a.Ok) (xs := (List.range 3).map fun i : Nat => .int (0 + i)) (n := 3) (s := .fix (rngL 0 (0 + (3 : Nat)))) (ds := [.int 3])
    (lock_no rfl) (by simp) (by rw [Int.zero_add]; exact src_rng1 (small_of (by omega) (by omega))) (by simp) (by simp) (fun i acc m' _ _ => (wk_rng 0 3).2 m' .refl) ⟨hb, rfl, by simp⟩
    (fun i d acc m' hi ⟨hb1, hlen, hall⟩ => by
      have kl : Kp [] m' (m' ++ [Ob.lst [.int 1, .int 2, .int 3, .int 4, .int 5, .int 6, .int 10]]) := .app _
      obtain ⟨F, s, r, R, m3, e3, o, s7, hr, hb3, k3⟩ := raw_ok (n := n + 9) (fr := fr) (hb1.kp kl) (p := m'.length) (qs := [1, 2, 3, 4, 5, 6, 10]) (mo := 7) (by simp) (by have := hb1.lt; omega) (by omega) (by simp) (by simp) (by simp)
      have e3 : callN prog (n + 12) fr (.df ix__law_raw) [.ref b, .int 7, .ref m'.length] (m' ++ [Ob.lst [.int 1, .int 2, .int 3, .int 4, .int 5, .int 6, .int 10]]) = .ok (rawD F s r R) m3 := e3
      have v1 : ((ρ.set 6 none).set 6 (some d))[1]? = some (some (.ref b)) := by simp [h1]
      have r10 : r ≤ 10 := by simp at hr; omega
      have r60 : r ∣ 60 := by
        refine Nat.dvd_of_mod_eq_zero ?_
        simp at hr
        have : r = 1 ∨ r = 2 ∨ r = 3 ∨ r = 4 ∨ r = 5 ∨ r = 6 ∨ r = 10 := by omega
        rcases this with rfl | rfl | rfl | rfl | rfl | rfl | rfl <;> rfl
      refine ⟨(ρ.set 6 none).set 6 (some d), by simp [wipeE, bindT, hl], true, m', by simp, fun z => (by cases z), fun _ => ⟨rawD F s r R, m3, ?_, hb3, by simp [hlen], fun x hx => ?_⟩⟩
      · generalize (ρ.set 6 none).set 6 (some d) = ρ1 at v1
        simp [v1, newL, e3]
      · rcases List.mem_append.mp hx with z | z
        · exact hall x z
        · simp at z
          exact ⟨⟨F, s, r, R⟩, z, o, by omega, r10, r60⟩)
  obtain ⟨A, B, C, hA, hB, hC, rfl⟩ : ∃ A B C : Rw, A.Ok ∧ B.Ok ∧ C.Ok ∧ acc = [A.d, B.d, C.d] := by
    match acc, hlen, hall with
    | [x, y, z], _, hall =>
      obtain ⟨A, rfl, hA⟩ := hall x (by simp)
      obtain ⟨B, rfl, hB⟩ := hall y (by simp)
      obtain ⟨C, rfl, hC⟩ := hall z (by simp)
      exact ⟨A, B, C, hA, hB, hC, rfl⟩
  refine ⟨A, B, C, m1.length, m1 ++ [Ob.lst [A.d, B.d, C.d]], ?_, hA, hB, hC, at_new _, by have := hb1.lt; omega, hb1.kp (.app _)⟩
  simp [t0, -getElem?_pos, e1, hl]
theorem t1_ok {A B C : Rw} {w : Nat} (hl : ρ.length = 21) (h1 : ρ[1]? = some (some (.ref b))) (h7 : ρ[7]? = some (some (.ref w))) (hb : BoxAt m b) (hA : A.Ok) (hB : B.Ok) (hC : C.Ok) (hw : m[w]? = some (.lst [A.d, B.d, C.d])) (hwb : w ≠ b) : ∃ (p1 p2 p3 : Nat) (ρ' : Env) (m' : Mem), exe prog (callN prog (n + 12)) fr t1 ρ m = .nx ρ' m' ∧ Sl ρ' b w p1 p2 p3 ∧ m'[p1]? = some (lotO A.q) ∧ m'[p2]? = some (lotO B.q) ∧ m'[p3]? = some (lotO C.q) ∧ m'[w]? = some (.lst [A.d, B.d, C.d]) ∧ p1 ≠ b ∧ p2 ≠ b ∧ p3 ≠ b ∧ BoxAt m' b := by
  have hd : ∀ j : Nat, j < 3 → ∃ a : Rw, a.Ok ∧ ([A, B, C] : List Rw)[j]? = some a ∧ ([A.d, B.d, C.d] : List D)[j]? = some a.d := fun j hj => by
    match j, hj with
    | 0, _ => exact ⟨A, hA, rfl, rfl⟩
    | 1, _ => exact ⟨B, hB, rfl, rfl⟩
    | 2, _ => exact ⟨C, hC, rfl, rfl⟩
  obtain ⟨acc, m1, e1, ⟨hb1, k1, hlen, hall⟩, _⟩ := lc_inv (fr := fr) (P := prog) (C := callN prog (n + 12)) (x := .call ix__law_lot [.var 1, .var 17]) (g := .v 17) (k := .one) (l := [.var 7]) (c := []) (own := [17]) (ρ := ρ) (m := m)
    (I := fun i acc m' => BoxAt m' b ∧ Kp [b] m m' ∧ acc.length = i ∧ ∀ j, j < i → ∃ (a : Rw) (p : Nat), ([A, B, C] : List Rw)[j]? = some a ∧ acc[j]? = some (.ref p) ∧ p ≠ b ∧ m'[p]? = some (lotO a.q)) (xs := [A.d, B.d, C.d]) (n := 3) (s := .live w) (ds := [.ref w])
    (lock_no (by simp [lockV, h7, hw])) (by simp [h7]) (by simp [src, hw]) rfl (by simp) (fun i acc m' _ ⟨_, kk, _⟩ => (wk_live (kk.get hw (by simpa using hwb))).2 m' .refl) ⟨hb, .refl, rfl, fun j hj => absurd hj (by omega)⟩
    (fun i d acc m' hi ⟨hb1, k1, hlen, hall⟩ => by
      have hi3 : i < 3 := by
        have := (List.getElem?_eq_some_iff.mp hi).1
        simpa using this
      obtain ⟨a, ha, ha1, ha2⟩ := hd i hi3
      rw [ha2] at hi
      cases hi
      obtain ⟨p, m3, e3, h3, hb3, k3, l3⟩ := lot_ok (n := n + 6) (fr := fr) hb1 ha.o (by have := ha.s7; omega)
      have e3 : callN prog (n + 12) fr (.df ix__law_lot) [.ref b, a.d] m' = .ok (.ref p) m3 := e3
      have v1 : ((ρ.set 17 none).set 17 (some a.d))[1]? = some (some (.ref b)) := by simp [h1]
      have v17 : ((ρ.set 17 none).set 17 (some a.d))[17]? = some (some a.d) := by simp [hl]
      refine ⟨(ρ.set 17 none).set 17 (some a.d), by simp [wipeE, bindT, hl], true, m', by simp, fun z => (by cases z), fun _ => ⟨.ref p, m3, ?_, hb3, k1.trans k3, by simp [hlen], fun j hj => ?_⟩⟩
      · generalize (ρ.set 17 none).set 17 (some a.d) = ρ1 at v1 v17
        simp [v1, v17, e3]
      · by_cases hji : j < i
        · obtain ⟨a', p', x1, x2, x3, x4⟩ := hall j hji
          exact ⟨a', p', x1, by rw [List.getElem?_append_left (by omega)]; exact x2, x3, k3.get x4 (by simpa using x3)⟩
        · have hj2 : j = i := by omega
          subst hj2
          refine ⟨a, p, ha1, ?_, by have := hb1.lt; omega, h3⟩
          rw [List.getElem?_append_right (by omega), hlen]
          simp)
  obtain ⟨a1, p1, x1, x2, x3, x4⟩ := hall 0 (by omega)
  obtain ⟨a2, p2, y1, y2, y3, y4⟩ := hall 1 (by omega)
  obtain ⟨a3, p3, z1, z2, z3, z4⟩ := hall 2 (by omega)
  cases x1
  cases y1
  cases z1
  have hacc : acc = [.ref p1, .ref p2, .ref p3] := by
    match acc, hlen with
    | [x, y, z], _ =>
      simp at x2 y2 z2
      rw [x2, y2, z2]
  subst hacc
  have kl : Kp [] m1 (m1 ++ [Ob.lst [.ref p1, .ref p2, .ref p3]]) := .app _
  refine ⟨p1, p2, p3, ((ρ.set 8 (some (.ref p1))).set 9 (some (.ref p2))).set 10 (some (.ref p3)), m1 ++ [Ob.lst [.ref p1, .ref p2, .ref p3]], ?_, ⟨by simp [hl], by simp [h1], by simp [h7], by simp [hl], by simp [hl], by simp [hl]⟩, kl.get0 x4, kl.get0 y4, kl.get0 z4, kl.get0 (k1.get hw (by simpa using hwb)), x3, y3, z3, hb1.kp kl⟩
  have es := st_tl (P := prog) (C := callN prog (n + 12)) (fr := fr) (ρ := ρ) (m := m1 ++ [Ob.lst [.ref p1, .ref p2, .ref p3]]) (l := [.v 8, .v 9, .v 10]) (at_new (m := m1) (.lst [.ref p1, .ref p2, .ref p3])) rfl
  unfold t1
  rw [x_set, e1]
  simp only [to_ok, es]
  simp [hl]
end
end K03

-- G03
set_option linter.all false
set_option Elab.async false
set_option maxRecDepth 10000
namespace K03
open Ms
open PySem (Str PyData)
section
variable {n : Nat} {fr : Fr} {m : Mem} {b w p1 p2 p3 : Nat} {ρ : Env} {A B C : Rw}
theorem t2_ok (hS : Sl ρ b w p1 p2 p3) (hA : A.Ok) (hB : B.Ok) (hw : m[w]? = some (.lst [A.d, B.d, C.d])) : ∃ (v : Nat) (q0 q1 q2 : Nrm) (m' : Mem), exe prog (callN prog (n + 12)) fr t2 ρ m = .nx (ρ.set 11 (some (.ref v))) m' ∧ m'[v]? = some (.lst [.tup (nrmL q0), .tup (nrmL q1), .tup (nrmL q2)]) ∧ (NL (fun x => A.f x && B.f x) q0 ∧ PureD 2 (.tup (nrmL q0)) = true) ∧ (NL (fun x => A.f x || B.f x) q1 ∧ PureD 2 (.tup (nrmL q1)) = true) ∧ (NL (fun x => A.f x && !(B.f x)) q2 ∧ PureD 2 (.tup (nrmL q2)) = true) ∧ Kp [] m m' := by
  have hrr : A.r * B.r ≤ 1000 := Nat.le_trans (Nat.mul_le_mul hA.r10 hB.r10) (by omega)
  obtain ⟨acc, m1, e1, ⟨k1, hlen, hall⟩, _⟩ := lc_inv (fr := fr) (P := prog) (C := callN prog (n + 12)) (x := .call ix__law_together [.idx (.var 7) (.cst (.int 0)), .idx (.var 7) (.cst (.int 1)), .var 18]) (g := .v 18) (k := .rng) (l := [.cst (.int 3)]) (c := []) (own := [18]) (ρ := ρ) (m := m)
    (I := fun i acc m' => Kp [] m m' ∧ acc.length = i ∧ ∀ j, j < i → ∃ q : Nrm, acc[j]? = some (.tup (nrmL q)) ∧ NL (fun x => op j (A.f x) (B.f x)) q ∧ PureD 2 (.tup (nrmL q)) = true) (xs := (List.range 3).map fun i : Nat => .int (0 + i)) (n := 3) (s := .fix (rngL 0 (0 + (3 : Nat)))) (ds := [.int 3])
    (lock_no rfl) (by simp) (by rw [Int.zero_add]; exact src_rng1 (small_of (by omega) (by omega))) (by simp) (by simp) (fun i acc m' _ _ => (wk_rng 0 3).2 m' .refl) ⟨.refl, rfl, fun j hj => absurd hj (by omega)⟩
    (fun i d acc m' hi ⟨k1, hlen, hall⟩ => by
      have hi3 : i < 3 := by
        have := (List.getElem?_eq_some_iff.mp hi).1
        simpa using this
      rw [List.getElem?_map, List.getElem?_range hi3, Option.map_some, Int.zero_add] at hi
      cases hi
      obtain ⟨q, m3, e3, nq, k3, pq⟩ := together_ok (n := n + 9) (fr := fr) (m := m') hA.o hB.o hrr hi3
      have e3 : callN prog (n + 12) fr (.df ix__law_together) [A.d, B.d, .int i] m' = .ok (.tup (nrmL q)) m3 := e3
      have v7 : ((ρ.set 18 none).set 18 (some (.int i)))[7]? = some (some (.ref w)) := by simp [hS.v7]
      have v18 : ((ρ.set 18 none).set 18 (some (.int i)))[18]? = some (some (.int i)) := by simp [hS.len]
      have i0 : index (.ref w) (.int 0) m' = .ok A.d m' := ix_lst (k1.get0 hw) (by omega) rfl
      have i1 : index (.ref w) (.int 1) m' = .ok B.d m' := ix_lst (k1.get0 hw) (by omega) rfl
      refine ⟨(ρ.set 18 none).set 18 (some (.int i)), by simp [wipeE, bindT, hS.len], true, m', by simp, fun z => (by cases z), fun _ => ⟨.tup (nrmL q), m3, ?_, k1.trans k3, by simp [hlen], fun j hj => ?_⟩⟩
      · generalize (ρ.set 18 none).set 18 (some (.int i)) = ρ1 at v7 v18
        simp [v7, v18, i0, i1, e3]
      · by_cases hji : j < i
        · obtain ⟨q', x1, x2⟩ := hall j hji
          exact ⟨q', by rw [List.getElem?_append_left (by omega)]; exact x1, x2⟩
        · have hj2 : j = i := by omega
          subst hj2
          refine ⟨q, ?_, nq, pq⟩
          rw [List.getElem?_append_right (by omega), hlen]
          simp)
  obtain ⟨q0, x0, y0⟩ := hall 0 (by omega)
  obtain ⟨q1, x1, y1⟩ := hall 1 (by omega)
  obtain ⟨q2, x2, y2⟩ := hall 2 (by omega)
  have hacc : acc = [.tup (nrmL q0), .tup (nrmL q1), .tup (nrmL q2)] := by
    match acc, hlen with
    | [x, y, z], _ =>
      simp at x0 x1 x2
      rw [x0, x1, x2]
  subst hacc
  refine ⟨m1.length, q0, q1, q2, m1 ++ [Ob.lst [.tup (nrmL q0), .tup (nrmL q1), .tup (nrmL q2)]], ?_, at_new _, y0, y1, y2, k1.trans (.app _)⟩
  simp [t2, -getElem?_pos, e1, hS.len]
theorem t3_ok {v : Nat} {q0 q1 q2 : Nrm} (hS : Sl ρ b w p1 p2 p3) (h11 : ρ[11]? = some (some (.ref v))) (hA : A.Ok) (hB : B.Ok) (h1 : m[p1]? = some (lotO A.q)) (h2 : m[p2]? = some (lotO B.q)) (hv : m[v]? = some (.lst [.tup (nrmL q0), .tup (nrmL q1), .tup (nrmL q2)]))
    (y0 : NL (fun x => A.f x && B.f x) q0 ∧ PureD 2 (.tup (nrmL q0)) = true) (y1 : NL (fun x => A.f x || B.f x) q1 ∧ PureD 2 (.tup (nrmL q1)) = true) (y2 : NL (fun x => A.f x && !(B.f x)) q2 ∧ PureD 2 (.tup (nrmL q2)) = true) :
    ∃ ρ' m', exe prog (callN prog (n + 12)) fr t3 ρ m = .nx ρ' m' ∧ Sl ρ' b w p1 p2 p3 ∧ Kp [] m m' := by
  have hl := (lcm60 hA.ring hB.ring).2
  obtain ⟨u0, m1, w0, e0, g0, z0, k0, _, _⟩ := both_ok (n := n + 3) (fr := fr) h1 h2 hA.nl hB.nl hl
  obtain ⟨u1, m2, w1, e1, g1, z1, k1, _, _⟩ := either_ok (n := n + 3) (fr := fr) (k0.get0 h1) (k0.get0 h2) hA.nl hB.nl hl
  have k01 := k0.trans k1
  obtain ⟨u2, m3, w2, e2, g2, z2, k2, _, _⟩ := less_ok (n := n + 3) (fr := fr) (k01.get0 h1) (k01.get0 h2) hA.nl hB.nl hl
  obtain rfl := z0.uniq y0.1 fun _ _ => rfl
  obtain rfl := z1.uniq y1.1 fun _ _ => rfl
  obtain rfl := z2.uniq y2.1 fun _ _ => rfl
  have kl : Kp [] m3 (m3 ++ [Ob.lst [.ref u0, .ref u1, .ref u2]]) := .app _
  have kk := (k01.trans k2).trans kl
  have hU := at_new (m := m3) (.lst [.ref u0, .ref u1, .ref u2])
  refine for_run (m1 := m3 ++ [Ob.lst [.ref u0, .ref u1, .ref u2]]) (I := fun _ ρ m' => Sl ρ b w p1 p2 p3 ∧ Kp [] (m3 ++ [Ob.lst [.ref u0, .ref u1, .ref u2]]) m') (xs := (([.ref u0, .ref u1, .ref u2] : List D).zip [.tup (nrmL w0), .tup (nrmL w1), .tup (nrmL w2)]).map fun q => .tup [q.1, q.2]) (n := 3) (s := .zipL m3.length v) (ds := [.ref m3.length, .ref v])
    (Q := fun z => ∃ ρ' m', z = .nx ρ' m' ∧ Sl ρ' b w p1 p2 p3 ∧ Kp [] m m') rfl ?_ ?_ rfl (fun i ρ m' _ ⟨_, k⟩ => (wk_zipL (k.get0 hU) (k.get0 (kk.get0 hv)) rfl).2 m' .refl) ⟨hS, .refl⟩ ?_ ?_
  · simp [hS.v8, hS.v9, h11, e0, e1, e2, newL]
  · simp [src, lstAt, hU, kk.get0 hv]
  · rintro i d ρ m4 hi ⟨hS, k4⟩
    obtain ⟨u, wq, rfl, gu, pu⟩ : ∃ (u : Nat) (wq : Nrm), d = .tup [.ref u, .tup (nrmL wq)] ∧ m4[u]? = some (lotO wq) ∧ PureD 2 (.tup (nrmL wq)) = true := by
      have hm := List.mem_of_getElem? hi
      simp at hm
      rcases hm with rfl | rfl | rfl
      · exact ⟨u0, w0, rfl, k4.get0 (kl.get0 ((k1.trans k2).get0 g0)), y0.2⟩
      · exact ⟨u1, w1, rfl, k4.get0 (kl.get0 (k2.get0 g1)), y1.2⟩
      · exact ⟨u2, w2, rfl, k4.get0 (kl.get0 g2), y2.2⟩
    have hS2 := (hS.set 12 (by omega) (some (.ref u))).set 13 (by omega) (some (.tup (nrmL wq)))
    have v12 : ((ρ.set 12 (some (.ref u))).set 13 (some (.tup (nrmL wq))))[12]? = some (some (.ref u)) := by simp [hS.len]
    have v13 : ((ρ.set 12 (some (.ref u))).set 13 (some (.tup (nrmL wq))))[13]? = some (some (.tup (nrmL wq))) := by simp [hS.len]
    refine ⟨(ρ.set 12 (some (.ref u))).set 13 (some (.tup (nrmL wq))), by simp [bindT, bindTs, hS.len], ?_⟩
    generalize (ρ.set 12 (some (.ref u))).set 13 (some (.tup (nrmL wq))) = ρ1 at hS2 v12 v13
    have e5 := four_ok (n := n + 11) (fr := fr) gu
    obtain ⟨m5, e6, k6⟩ := is_refl 2 _ pu (n + 9) fr m4
    have e6 : callN prog (n + 12) fr (.df ix__law_is) [.tup (nrmL wq), .tup (nrmL wq)] m4 = .ok (.bl true) m5 := e6
    exact .inl ⟨ρ1, m5, .inl (by simp [t3b, v12, v13, e5, e6]), hS2, k4.trans k6⟩
  · rintro ρ m4 ⟨hS, k4⟩
    exact ⟨ρ, m4, rfl, hS, kk.trans k4⟩
end
end K03

-- L03c
set_option linter.all false
set_option Elab.async false
set_option maxRecDepth 10000
namespace K03
open Ms
open PySem (Str PyData)
/-! ### the law's statements -/
/-- alike as far as both come round: alike -/
theorem same_far {b c : Int → Bool} {s s' r r' : Nat} (h : Per b s r) (h' : Per c s' r') (hr : 1 ≤ r) (hr' : 1 ≤ r') (hx : ∀ x : Int, 0 ≤ x → x < (max s s' + r * r' : Nat) → b x = c x) : ∀ x : Int, 0 ≤ x → b x = c x := by
  have hp : 1 ≤ r * r' := Nat.mul_pos hr hr'
  have key : ∀ k : Nat, ∀ x : Nat, x ≤ k → b x = c x := by
    intro k
    induction k with
    | zero => intro x hx0; exact hx x (by omega) (by omega)
    | succ k ih =>
      intro x hxk
      by_cases hlt : x < max s s' + r * r'
      · exact hx x (by omega) (by omega)
      · have e1 := per_mul h (x := ((x - r * r' : Nat) : Int)) (by omega) r'
        have e2 := per_mul h' (x := ((x - r * r' : Nat) : Int)) (by omega) r
        have a1 : ((x - r * r' : Nat) : Int) + (r' : Int) * r = x := by
          have : ((r' * r : Nat) : Int) = (r' : Int) * r := by push_cast; rfl
          rw [← this, Nat.mul_comm r' r]
          omega
        have a2 : ((x - r * r' : Nat) : Int) + (r : Int) * r' = x := by
          have : ((r * r' : Nat) : Int) = (r : Int) * r' := by push_cast; rfl
          rw [← this]
          omega
        rw [a1] at e1
        rw [a2] at e2
        rw [e1, e2]
        exact ih _ (by omega)
  intro x h0
  obtain ⟨y, rfl⟩ := Int.eq_ofNat_of_zero_le h0
  exact key y y (Nat.le_refl _)
section
variable {n : Nat} {fr : Fr} {m : Mem} {b p : Nat} {sc : D} {x2 x3 x4 x5 x6 x7 x8 x9 x10 x11 x12 x13 x14 x15 : Option D} {F R : List Int} {s r : Nat}
theorem is_b (c : Bool) : callN prog (n + 1) fr (.df ix__law_is) [.bl c, .bl c] m = .ok (.bl true) m := by
  rw [call_df at__law_is rfl]
  cases c <;> simp [d__law_is, startE, isI, tyv, isAny, isTy, isN, isB]
theorem is_i (c : Int) : callN prog (n + 1) fr (.df ix__law_is) [.int c, .int c] m = .ok (.bl true) m := by
  rw [call_df at__law_is rfl]
  simp [d__law_is, startE, isI, tyv, isAny, isTy, isN, isB]
theorem far_pos (h : RawOk F s r R) : 1 ≤ (nrm (memB F s r R) s r).r := (far_spec (memB_per h.r1 h.hr) h.r1).1
theorem has_mem (h : RawOk F s r R) {x : Int} (hx : 0 ≤ x) : (nrm (memB F s r R) s r).has x = memB F s r R x := nrm_has (memB_per h.r1 h.hr) h.r1 hx
end
end K03

-- I03
set_option linter.all false
set_option Elab.async false
set_option maxRecDepth 10000
namespace K03
open Ms
open PySem (Str PyData)
theorem none_all {c : Int → Bool} {S E : Nat} (hp : Per c S E) (hE : 1 ≤ E) (h : S + E ≤ 120) (hU : upto 120 c = []) : ∀ x : Int, 0 ≤ x → c x = false := by
  have hno : ∀ x : Int, 0 ≤ x → x < 120 → c x = false := fun x h0 h1 => by
    cases hb : c x with
    | false => rfl
    | true =>
      have : x ∈ upto 120 c := mem_upto.mpr ⟨h0, h1, hb⟩
      rw [hU] at this
      cases this
  exact same_far (b := c) (c := fun _ => false) (s := S) (s' := 0) (r := E) (r' := 1) hp (fun _ _ => rfl) hE (Nat.le_refl 1) (fun x h0 h1 => hno x h0 (by omega))
theorem pure0 {c : Int → Bool} {i : Nat} {d : D} (h : NthOf c i d) : PureD 0 d = true := by
  rcases h with ⟨y, rfl, _⟩ | ⟨rfl, _⟩ <;> rfl
section
variable {n : Nat} {fr : Fr} {m : Mem} {b w p1 p2 p3 : Nat} {ρ : Env} {A B C : Rw}
/-- the first of a list, or none -/
theorem first_ok {c : Int → Bool} {S E z j : Nat} {d : D} (hp : Per c S E) (hE : 1 ≤ E) (h : S + E ≤ 120) (hj : ρ[j]? = some (some (.ref z))) (hz : m[z]? = some (.lst ((upto 120 c).map .int))) (hd : NthOf c 0 d) :
    ev prog (callN prog n) fr (.ite (.cmp .ne (.var j) (.lst [])) (.idx (.var j) (.cst (.int 0))) (.cst (.non))) ρ m = .ok d (m ++ [Ob.lst []]) ∧ ev prog (callN prog n) fr (.cmp .eq (.var j) (.lst [])) ρ m = .ok (.bl (decide (upto 120 c = []))) (m ++ [Ob.lst []]) := by
  have kl : Kp [] m (m ++ [Ob.lst ([] : List D)]) := .app _
  have en : eqD (m ++ [Ob.lst ([] : List D)]) (.ref z) (.ref m.length) = some (decide (upto 120 c = [])) := eqD_lists (b := []) (kl.get0 hz) (at_new _)
  have oe : ownEq prog (m ++ [Ob.lst ([] : List D)]) (.ref z) = none := ownEq_lst (kl.get0 hz)
  refine ⟨?_, by
    generalize decide (upto 120 c = []) = t at en ⊢
    simp [hj, newL, cmpE_of oe, en]⟩
  cases hU : upto 120 c with
  | nil =>
    rw [hU] at en
    have hf : d = .non := by
      rcases hd with ⟨y, rfl, y1, _⟩ | ⟨rfl, _⟩
      · rw [none_all hp hE h hU y (by omega)] at y1
        cases y1
      · rfl
    simp [hj, newL, cmpE_of oe, en, hf]
  | cons a l =>
    rw [hU] at en
    have h0 : (upto 120 c)[0]? = some a := by rw [hU]; rfl
    obtain ⟨y, rfl, _, y2, y3⟩ := upto_get _ _ _ h0
    have hf : d = .int y := nth_uniq hd (.inl ⟨y, rfl, y2, y3⟩)
    have ei : index (.ref z) (.int 0) (m ++ [Ob.lst ([] : List D)]) = .ok (.int y) (m ++ [Ob.lst ([] : List D)]) := ix_lst (kl.get0 hz) (by omega) (by rw [hU]; rfl)
    simp [hj, newL, cmpE_of oe, en, ei, hf]
/-- a list by the law's own signs -/
theorem signs_ok {x : E} {c : Int → Bool} (hS : Sl ρ b w p1 p2 p3) (hx : ∀ (i : Nat) (m' : Mem), Kp [] m m' → ∀ ρ', Sl ρ' b w p1 p2 p3 → ρ'[19]? = some (some (.int i)) → ((ev prog (callN prog (n + 12)) fr x ρ' m').bind fun x m => opt (truth m x) m) = .ok (c i) m') :
    ∃ z m', ev prog (callN prog (n + 12)) fr (.lc (.var 19) (.v 19) .rng [.cst (.int 120)] [x] [19]) ρ m = .ok (.ref z) m' ∧ m'[z]? = some (.lst ((upto 120 c).map .int)) ∧ Kp [] m m' := by
  obtain ⟨z, m1, e1, h1, k1, _⟩ := lc_filter (fr := fr) (P := prog) (C := callN prog (n + 12)) (x := .var 19) (g := .v 19) (k := .rng) (l := [.cst (.int 120)]) (c := [x]) (own := [19])
    (ρ := ρ) (m := m) (ys := List.range 120) (fy := fun i : Nat => .int (0 + i)) (n := 120) (s := .fix (rngL 0 (0 + (120 : Nat)))) (ds := [.int 120]) (fun i : Nat => c i) (fun i : Nat => .int i)
    (lock_no rfl) (by simp) .refl (by rw [Int.zero_add]; exact src_rng1 (small_of (by omega) (by omega))) (wk_rng 0 120) (by unfold lim; omega) (fun i hi m' k' => by
      have hS' := (hS.set 19 (by omega) none).set 19 (by omega) (some (.int (0 + i)))
      have a1 : ((ρ.set 19 none).set 19 (some (.int (0 + i))))[19]? = some (some (.int (0 + i))) := by simp [hS.len]
      refine ⟨(ρ.set 19 none).set 19 (some (.int (0 + i))), m', by simp [wipeE, bindT, hS.len], ?_, .refl, fun _ => ⟨m', ?_, .refl⟩⟩
      · rw [et_one]
        rw [Int.zero_add] at hS' a1 ⊢
        exact hx i m' k' _ hS' a1
      · rw [e_var, a1]
        simp)
  rw [ups 120 c] at h1
  exact ⟨z, m1, e1, h1, k1⟩
theorem g5_ok (hS : Sl ρ b w p1 p2 p3) (hA : A.Ok) (hB : B.Ok) (h1 : m[p1]? = some (lotO A.q)) (h2 : m[p2]? = some (lotO B.q)) (hw : m[w]? = some (.lst [A.d, B.d, C.d])) : ∃ ρ' m', exes prog (callN prog (n + 12)) fr [t4, t5, t6, t7] ρ m = .nx ρ' m' ∧ Sl ρ' b w p1 p2 p3 ∧ Kp [] m m' := by
  have hl := (lcm60 hA.ring hB.ring).2
  have hrr : A.r * B.r ≤ 100 := Nat.le_trans (Nat.mul_le_mul hA.r10 hB.r10) (by omega)
  have hr1 : 1 ≤ A.r * B.r := Nat.mul_pos hA.o.r1 hB.o.r1
  have sA := hA.s7
  have sB := hB.s7
  have pA : Per A.f (max A.s B.s) (A.r * B.r) := per_up (memB_per hA.o.r1 hA.o.hr) (by omega) (Nat.mul_mod_right _ _)
  have pB : Per B.f (max A.s B.s) (A.r * B.r) := per_up (memB_per hB.o.r1 hB.o.hr) (by omega) (Nat.mul_mod_left _ _)
  have ins : ∀ (i : Nat) (m' : Mem), Kp [] m m' → ∀ ρ', Sl ρ' b w p1 p2 p3 → ρ'[19]? = some (some (.int i)) → ev prog (callN prog (n + 12)) fr (.call ix__law_in [.idx (.var 7) (.cst (.int 0)), .var 19]) ρ' m' = .ok (.bl (A.f i)) m' ∧ ev prog (callN prog (n + 12)) fr (.call ix__law_in [.idx (.var 7) (.cst (.int 1)), .var 19]) ρ' m' = .ok (.bl (B.f i)) m' := fun i m' k' ρ' hS' v19 => by
    have i0 : index (.ref w) (.int 0) m' = .ok A.d m' := ix_lst (k'.get0 hw) (by omega) rfl
    have i1 : index (.ref w) (.int 1) m' = .ok B.d m' := ix_lst (k'.get0 hw) (by omega) rfl
    have a1 : callN prog (n + 12) fr (.df ix__law_in) [A.d, .int i] m' = .ok (.bl (A.f i)) m' := in_ok hA.o.r1 i
    have a2 : callN prog (n + 12) fr (.df ix__law_in) [B.d, .int i] m' = .ok (.bl (B.f i)) m' := in_ok hB.o.r1 i
    exact ⟨by simp [hS'.v7, v19, i0, a1], by simp [hS'.v7, v19, i1, a2]⟩
  obtain ⟨z1, m1, e1, g1, k1⟩ := signs_ok (n := n) (fr := fr) (m := m) (x := .and (.call ix__law_in [.idx (.var 7) (.cst (.int 0)), .var 19]) (.not (.call ix__law_in [.idx (.var 7) (.cst (.int 1)), .var 19]))) (c := fun x => A.f x && !(B.f x)) hS (fun i m' k' ρ' hS' v19 => by
    obtain ⟨a1, a2⟩ := ins i m' k' ρ' hS' v19
    rw [e_and, a1]
    simp only [rb_ok, tr_bl, opt_some, e_not, a2]
    cases A.f i <;> cases B.f i <;> rfl)
  have x4 : exe prog (callN prog (n + 12)) fr t4 ρ m = .nx (ρ.set 14 (some (.ref z1))) m1 := by
    unfold t4
    rw [x_set, e1]
    simp [hS.len]
  have hS1 := hS.set 14 (by omega) (some (.ref z1))
  have v14 : (ρ.set 14 (some (.ref z1)))[14]? = some (some (.ref z1)) := by simp [hS.len]
  generalize ρ.set 14 (some (.ref z1)) = ρ1 at hS1 v14 x4
  obtain ⟨z2, m2, e2, g2, k2⟩ := signs_ok (n := n) (fr := fr) (m := m1) (x := .cmp .ne (.call ix__law_in [.idx (.var 7) (.cst (.int 0)), .var 19]) (.call ix__law_in [.idx (.var 7) (.cst (.int 1)), .var 19])) (c := fun x => A.f x != B.f x) hS1 (fun i m' k' ρ' hS' v19 => by
    obtain ⟨a1, a2⟩ := ins i m' (k1.trans k') ρ' hS' v19
    rw [e_cmp, a1]
    simp only [rb_ok, a2, cmpE_bool, c_ne, eqD_bl, Option.map_some, opt_some, tr_bl]
    cases A.f i <;> cases B.f i <;> rfl)
  have x5 : exe prog (callN prog (n + 12)) fr t5 ρ1 m1 = .nx (ρ1.set 15 (some (.ref z2))) m2 := by
    unfold t5
    rw [x_set, e2]
    simp [hS1.len]
  have hS2 := hS1.set 15 (by omega) (some (.ref z2))
  have v15 : (ρ1.set 15 (some (.ref z2)))[15]? = some (some (.ref z2)) := by simp [hS1.len]
  have v14 : (ρ1.set 15 (some (.ref z2)))[14]? = some (some (.ref z1)) := by simp [v14]
  generalize ρ1.set 15 (some (.ref z2)) = ρ2 at hS2 v14 v15 x5
  have k12 := k1.trans k2
  have nilL : Kp [] m2 m2 := .refl
  -- beyond
  obtain ⟨d, m3, e3, n3, k3⟩ := beyond_ok (n := n + 7) (fr := fr) (k12.get0 h1) (k12.get0 h2) hA.nl hB.nl hl
  have e3 : callN prog (n + 12) fr (.df ix_first_beyond) [.ref p1, .ref p2] m2 = .ok d m3 := e3
  have f3 := first_ok (n := n + 12) (fr := fr) (ρ := ρ2) (m := m3) (per_two (f := fun u v => u && !v) pA pB) hr1 (by omega) v14 ((k2.trans k3).get0 g1) n3
  have kn3 : Kp [] m3 (m3 ++ [Ob.lst ([] : List D)]) := .app _
  obtain ⟨m4, e4, k4⟩ := is_refl 0 d (pure0 n3) (n + 11) fr (m3 ++ [Ob.lst ([] : List D)])
  have e4 : callN prog (n + 12) fr (.df ix__law_is) [d, d] (m3 ++ [Ob.lst ([] : List D)]) = .ok (.bl true) m4 := e4
  have k34 := (k3.trans kn3).trans k4
  obtain ⟨t, m5, e5, n5, k5⟩ := within_ok (n := n + 6) (fr := fr) ((k12.trans k34).get0 h1) ((k12.trans k34).get0 h2) hA.nl hB.nl hl
  have e5 : callN prog (n + 12) fr (.df ix_is_within) [.ref p1, .ref p2] m4 = .ok (.bl t) m5 := e5
  have f5 := (first_ok (n := n + 12) (fr := fr) (ρ := ρ2) (m := m5) (per_two (f := fun u v => u && !v) pA pB) hr1 (by omega) v14 (((k2.trans k34).trans k5).get0 g1) n3).2
  have ht : decide (upto 120 (fun x => A.f x && !(B.f x)) = []) = t := by
    rw [Bool.eq_iff_iff, decide_eq_true_eq, n5]
    constructor
    · intro hU x h0 ha
      have := none_all (per_two (f := fun u v => u && !v) pA pB) hr1 (by omega) hU x h0
      simp only [ha, Bool.true_and] at this
      cases hb : B.f x with
      | true => rfl
      | false => rw [hb] at this; cases this
    · intro hx
      refine List.eq_nil_iff_forall_not_mem.mpr fun x hm => ?_
      obtain ⟨h0, _, hc⟩ := mem_upto.mp hm
      simp at hc
      rw [hx x h0 hc.1] at hc
      exact absurd hc.2 (by simp)
  rw [ht] at f5
  have x6 : exe prog (callN prog (n + 12)) fr t6 ρ2 m2 = .nx ρ2 (m5 ++ [Ob.lst []]) := by
    simp [t6, -e_ite, -e_cmp, hS2.v8, hS2.v9, e3, f3.1, e4, e5, f5, is_b]
  have kn5 : Kp [] m5 (m5 ++ [Ob.lst ([] : List D)]) := .app _
  have k25 := (k34.trans k5).trans kn5
  -- unlike
  obtain ⟨d', m6, e6, n6, k6⟩ := unlike_first_ok (n := n + 7) (fr := fr) ((k12.trans k25).get0 h1) ((k12.trans k25).get0 h2) hA.nl hB.nl hl
  have e6 : callN prog (n + 12) fr (.df ix_first_unlike) [.ref p1, .ref p2] (m5 ++ [Ob.lst []]) = .ok d' m6 := e6
  have f6 := first_ok (n := n + 12) (fr := fr) (ρ := ρ2) (m := m6) (per_two (f := fun u v => u != v) pA pB) hr1 (by omega) v15 ((k25.trans k6).get0 g2) n6
  have kn6 : Kp [] m6 (m6 ++ [Ob.lst ([] : List D)]) := .app _
  obtain ⟨m7, e7, k7⟩ := is_refl 0 d' (pure0 n6) (n + 11) fr (m6 ++ [Ob.lst ([] : List D)])
  have e7 : callN prog (n + 12) fr (.df ix__law_is) [d', d'] (m6 ++ [Ob.lst ([] : List D)]) = .ok (.bl true) m7 := e7
  have k67 := (k6.trans kn6).trans k7
  have kk := (k12.trans k25).trans k67
  have e8 := cmp_eq_lots (n := n + 10) (fr := fr) (kk.get0 h1) (kk.get0 h2)
  have f8 := (first_ok (n := n + 12) (fr := fr) (ρ := ρ2) (m := m7) (per_two (f := fun u v => u != v) pA pB) hr1 (by omega) v15 ((k25.trans k67).get0 g2) n6).2
  have hq : decide (upto 120 (fun x => A.f x != B.f x) = []) = decide (A.q = B.q) := by
    rw [decide_eq_decide]
    constructor
    · intro hU
      refine hA.nl.uniq hB.nl fun x h0 => ?_
      have := none_all (per_two (f := fun u v => u != v) pA pB) hr1 (by omega) hU x h0
      simpa using this
    · intro hqq
      refine List.eq_nil_iff_forall_not_mem.mpr fun x hm => ?_
      obtain ⟨h0, _, hc⟩ := mem_upto.mp hm
      have := hA.nl.same (hqq ▸ hB.nl) h0
      rw [this] at hc
      simp at hc
  rw [hq] at f8
  have v8 := hS2.v8
  have v9 := hS2.v9
  have e9 : ev prog (callN prog (n + 12)) fr (.cmp .eq (.var 8) (.var 9)) ρ2 m7 = .ok (.bl (decide (A.q = B.q))) m7 := by
    generalize decide (A.q = B.q) = t at e8 ⊢
    simp [v8, v9, e8]
  generalize decide (A.q = B.q) = t' at f8 e9
  have x7 : exe prog (callN prog (n + 12)) fr t7 ρ2 (m5 ++ [Ob.lst []]) = .nx ρ2 (m7 ++ [Ob.lst []]) := by
    simp [t7, -e_ite, -e_cmp, v8, v9, e6, f6.1, e7, e9, f8, is_b]
  refine ⟨ρ2, m7 ++ [Ob.lst []], ?_, hS2, kk.trans (.app _)⟩
  rw [xs_cons, x4, seq_nx, xs_cons, x5, seq_nx, xs_cons, x6, seq_nx, xs_cons, x7, seq_nx, xs_nil]
end
end K03

-- J03
set_option linter.all false
set_option Elab.async false
set_option maxRecDepth 10000
namespace K03
open Ms
open PySem (Str PyData)
/-- a lot of these numbers stands here -/
def At (m : Mem) (p : Nat) (c : Int → Bool) : Prop := ∃ q, m[p]? = some (lotO q) ∧ NL c q ∧ q.r ∣ 60
theorem At.kp {m m' : Mem} {p : Nat} {c : Int → Bool} (h : At m p c) (k : Kp [] m m') : At m' p c := by
  obtain ⟨q, h1, h2⟩ := h
  exact ⟨q, k.get0 h1, h2⟩
section
variable {n : Nat} {fr : Fr} {m : Mem} {b c : Int → Bool} {p p' : Nat}
theorem both_at (h : At m p b) (h' : At m p' c) : ∃ u m', callN prog (n + 12) fr (.df ix_both) [.ref p, .ref p'] m = .ok (.ref u) m' ∧ At m' u (fun x => b x && c x) ∧ Kp [] m m' := by
  obtain ⟨q, h1, h2, h3⟩ := h
  obtain ⟨q', h1', h2', h3'⟩ := h'
  obtain ⟨u, m1, w, e, g1, g2, k, _, g3⟩ := both_ok (n := n + 3) (fr := fr) h1 h1' h2 h2' (lcm60 h3 h3').2
  exact ⟨u, m1, e, ⟨w, g1, g2, Nat.dvd_trans g3 (lcm60 h3 h3').1⟩, k⟩
theorem either_at (h : At m p b) (h' : At m p' c) : ∃ u m', callN prog (n + 12) fr (.df ix_either) [.ref p, .ref p'] m = .ok (.ref u) m' ∧ At m' u (fun x => b x || c x) ∧ Kp [] m m' := by
  obtain ⟨q, h1, h2, h3⟩ := h
  obtain ⟨q', h1', h2', h3'⟩ := h'
  obtain ⟨u, m1, w, e, g1, g2, k, _, g3⟩ := either_ok (n := n + 3) (fr := fr) h1 h1' h2 h2' (lcm60 h3 h3').2
  exact ⟨u, m1, e, ⟨w, g1, g2, Nat.dvd_trans g3 (lcm60 h3 h3').1⟩, k⟩
theorem less_at (h : At m p b) (h' : At m p' c) : ∃ u m', callN prog (n + 12) fr (.df ix_less) [.ref p, .ref p'] m = .ok (.ref u) m' ∧ At m' u (fun x => b x && !(c x)) ∧ Kp [] m m' := by
  obtain ⟨q, h1, h2, h3⟩ := h
  obtain ⟨q', h1', h2', h3'⟩ := h'
  obtain ⟨u, m1, w, e, g1, g2, k, _, g3⟩ := less_ok (n := n + 3) (fr := fr) h1 h1' h2 h2' (lcm60 h3 h3').2
  exact ⟨u, m1, e, ⟨w, g1, g2, Nat.dvd_trans g3 (lcm60 h3 h3').1⟩, k⟩
theorem others_at (h : At m p b) : ∃ u m', callN prog (n + 12) fr (.df ix_others) [.ref p] m = .ok (.ref u) m' ∧ At m' u (fun x => !(b x)) ∧ Kp [] m m' := by
  obtain ⟨q, h1, h2, h3⟩ := h
  obtain ⟨u, m1, w, e, g1, g2, k, _, g3⟩ := others_ok (n := n + 3) (fr := fr) h1 h2
  exact ⟨u, m1, e, ⟨w, g1, g2, Nat.dvd_trans g3 h3⟩, k⟩
theorem eq_at (h : At m p b) (h' : At m p' c) : ∃ t, cmpE prog (callN prog (n + 12)) fr .eq (.ref p) (.ref p') m = .ok (.bl t) m ∧ (t = true ↔ ∀ x : Int, 0 ≤ x → b x = c x) := by
  obtain ⟨q, h1, h2, h3⟩ := h
  obtain ⟨q', h1', h2', h3'⟩ := h'
  refine ⟨_, cmp_eq_lots (n := n + 10) (fr := fr) h1 h1', ?_⟩
  rw [decide_eq_true_eq]
  exact ⟨fun e x hx => h2.same (e ▸ h2') hx, fun hx => h2.uniq h2' hx⟩
theorem eq_true_at (h : At m p b) (h' : At m p' c) (hx : ∀ x : Int, 0 ≤ x → b x = c x) : cmpE prog (callN prog (n + 12)) fr .eq (.ref p) (.ref p') m = .ok (.bl true) m := by
  obtain ⟨t, e, ht⟩ := eq_at (n := n) (fr := fr) h h'
  rw [ht.mpr hx] at e
  exact e
theorem within_at (h : At m p b) (h' : At m p' c) : ∃ t m', callN prog (n + 12) fr (.df ix_is_within) [.ref p, .ref p'] m = .ok (.bl t) m' ∧ (t = true ↔ ∀ x : Int, 0 ≤ x → b x = true → c x = true) ∧ Kp [] m m' := by
  obtain ⟨q, h1, h2, h3⟩ := h
  obtain ⟨q', h1', h2', h3'⟩ := h'
  exact within_ok (n := n + 6) (fr := fr) h1 h1' h2 h2' (lcm60 h3 h3').2
end
section
variable {n : Nat} {fr : Fr} {m : Mem} {b w p1 p2 p3 : Nat} {ρ : Env} {A B C : Int → Bool}
theorem t8_ok (hS : Sl ρ b w p1 p2 p3) (h1 : At m p1 A) (h2 : At m p2 B) : ∃ m', exe prog (callN prog (n + 12)) fr t8 ρ m = .nx ρ m' ∧ Kp [] m m' := by
  obtain ⟨u1, m1, e1, g1, k1⟩ := less_at (n := n) (fr := fr) h1 h2
  obtain ⟨u2, m2, e2, g2, k2⟩ := less_at (n := n) (fr := fr) (h1.kp k1) g1
  have k12 := k1.trans k2
  obtain ⟨u3, m3, e3, g3, k3⟩ := both_at (n := n) (fr := fr) (h1.kp k12) (h2.kp k12)
  have e4 := eq_true_at (n := n) (fr := fr) (g2.kp k3) g3 fun x _ => by cases A x <;> cases B x <;> rfl
  have k13 := k12.trans k3
  obtain ⟨u5, m5, e5, g5, k5⟩ := others_at (n := n) (fr := fr) (h1.kp k13)
  obtain ⟨u6, m6, e6, g6, k6⟩ := others_at (n := n) (fr := fr) g5
  have e7 := eq_true_at (n := n) (fr := fr) g6 (h1.kp ((k13.trans k5).trans k6)) fun x _ => by cases A x <;> rfl
  refine ⟨m6, ?_, (k13.trans k5).trans k6⟩
  simp [t8, hS.v8, hS.v9, e1, e2, e3, e4, e5, e6, e7, isB]
theorem t9_ok (hS : Sl ρ b w p1 p2 p3) (h1 : At m p1 A) (h2 : At m p2 B) : ∃ m', exe prog (callN prog (n + 12)) fr t9 ρ m = .nx ρ m' ∧ Kp [] m m' := by
  obtain ⟨u1, m1, e1, g1, k1⟩ := either_at (n := n) (fr := fr) h1 h2
  obtain ⟨u2, m2, e2, g2, k2⟩ := others_at (n := n) (fr := fr) g1
  have k12 := k1.trans k2
  obtain ⟨u3, m3, e3, g3, k3⟩ := others_at (n := n) (fr := fr) (h1.kp k12)
  obtain ⟨u4, m4, e4, g4, k4⟩ := others_at (n := n) (fr := fr) (h2.kp (k12.trans k3))
  obtain ⟨u5, m5, e5, g5, k5⟩ := both_at (n := n) (fr := fr) (g3.kp k4) g4
  have e6 := eq_true_at (n := n) (fr := fr) (g2.kp ((k3.trans k4).trans k5)) g5 fun x _ => by cases A x <;> cases B x <;> rfl
  have k15 := ((k12.trans k3).trans k4).trans k5
  obtain ⟨u7, m7, e7, g7, k7⟩ := less_at (n := n) (fr := fr) (h1.kp k15) (h2.kp k15)
  have k17 := k15.trans k7
  obtain ⟨u8, m8, e8, g8, k8⟩ := others_at (n := n) (fr := fr) (h2.kp k17)
  obtain ⟨u9, m9, e9, g9, k9⟩ := both_at (n := n) (fr := fr) (h1.kp (k17.trans k8)) g8
  have e10 := eq_true_at (n := n) (fr := fr) (g7.kp (k8.trans k9)) g9 fun x _ => by cases A x <;> cases B x <;> rfl
  refine ⟨m9, ?_, (k17.trans k8).trans k9⟩
  simp [t9, hS.v8, hS.v9, e1, e2, e3, e4, e5, e6, e7, e8, e9, e10, isB]
theorem t10_ok (hS : Sl ρ b w p1 p2 p3) (h1 : At m p1 A) (h2 : At m p2 B) (h3 : At m p3 C) : ∃ m', exe prog (callN prog (n + 12)) fr t10 ρ m = .nx ρ m' ∧ Kp [] m m' := by
  obtain ⟨u1, m1, e1, g1, k1⟩ := either_at (n := n) (fr := fr) h2 h3
  obtain ⟨u2, m2, e2, g2, k2⟩ := both_at (n := n) (fr := fr) (h1.kp k1) g1
  have k12 := k1.trans k2
  obtain ⟨u3, m3, e3, g3, k3⟩ := both_at (n := n) (fr := fr) (h1.kp k12) (h2.kp k12)
  have k13 := k12.trans k3
  obtain ⟨u4, m4, e4, g4, k4⟩ := both_at (n := n) (fr := fr) (h1.kp k13) (h3.kp k13)
  obtain ⟨u5, m5, e5, g5, k5⟩ := either_at (n := n) (fr := fr) (g3.kp k4) g4
  have e6 := eq_true_at (n := n) (fr := fr) (g2.kp ((k3.trans k4).trans k5)) g5 fun x _ => by cases A x <;> cases B x <;> cases C x <;> rfl
  refine ⟨m5, ?_, (k13.trans k4).trans k5⟩
  simp [t10, hS.v8, hS.v9, hS.v10, e1, e2, e3, e4, e5, e6, isB]
theorem t11_ok (hS : Sl ρ b w p1 p2 p3) (h1 : At m p1 A) (h2 : At m p2 B) : ∃ m', exe prog (callN prog (n + 12)) fr t11 ρ m = .nx ρ m' ∧ Kp [] m m' := by
  obtain ⟨u1, m1, e1, g1, k1⟩ := both_at (n := n) (fr := fr) h1 h2
  obtain ⟨t2, m2, e2, n2, k2⟩ := within_at (n := n) (fr := fr) g1 (h1.kp k1)
  rw [n2.mpr fun x _ h => by simp at h; exact h.1] at e2
  have k12 := k1.trans k2
  obtain ⟨u3, m3, e3, g3, k3⟩ := either_at (n := n) (fr := fr) (h1.kp k12) (h2.kp k12)
  have k13 := k12.trans k3
  obtain ⟨t4, m4, e4, n4, k4⟩ := within_at (n := n) (fr := fr) (h1.kp k13) g3
  rw [n4.mpr fun x _ h => by simp [h]] at e4
  have k14 := k13.trans k4
  obtain ⟨t5, m5, e5, n5, k5⟩ := within_at (n := n) (fr := fr) (h1.kp k14) (h2.kp k14)
  have k15 := k14.trans k5
  obtain ⟨u6, m6, e6, g6, k6⟩ := both_at (n := n) (fr := fr) (h1.kp k15) (h2.kp k15)
  obtain ⟨t7, e7, n7⟩ := eq_at (n := n) (fr := fr) g6 (h1.kp (k15.trans k6))
  have ht : t5 = t7 := by
    rw [Bool.eq_iff_iff, n5, n7]
    constructor
    · intro h x hx
      cases ha : A x with
      | false => rfl
      | true => rw [h x hx ha]; rfl
    · intro h x hx ha
      have := h x hx
      rw [ha] at this
      simpa using this
  subst ht
  refine ⟨m6, ?_, k15.trans k6⟩
  simp [t11, hS.v8, hS.v9, e1, e2, e3, e4, e5, e6, e7]
end
end K03

-- R03
set_option linter.all false
set_option Elab.async false
set_option maxRecDepth 10000
namespace K03
open Ms
open PySem (Str PyData)
theorem Rw.Ok.at_ {a : Rw} {m : Mem} {p : Nat} (h : a.Ok) (hp : m[p]? = some (lotO a.q)) : At m p a.f := ⟨a.q, hp, h.nl, h.ring⟩
/-- statements one behind the other -/
theorem app_nx {C : Cl} {fr : Fr} : ∀ (a c : List S) (ρ ρ' : Env) (m m' : Mem), exes prog C fr a ρ m = .nx ρ' m' → exes prog C fr (a ++ c) ρ m = exes prog C fr c ρ' m' := by
  intro a
  induction a with
  | nil =>
    intro c ρ ρ' m m' h
    rw [xs_nil] at h
    cases h
    rfl
  | cons x a ih =>
    intro c ρ ρ' m m' h
    rw [xs_cons] at h
    rw [List.cons_append, xs_cons]
    cases hx : exe prog C fr x ρ m with
    | nx ρ1 m1 =>
      rw [hx] at h
      simp only [seq_nx] at h ⊢
      exact ih c _ _ _ _ h
    | rt d m1 => rw [hx] at h; cases h
    | ct ρ1 m1 => rw [hx] at h; cases h
    | exc c v ρ1 m1 => rw [hx] at h; cases h
    | bad => rw [hx] at h; cases h
section
variable {n : Nat} {fr : Fr} {m : Mem} {b w p1 p2 p3 : Nat} {ρ : Env} {A B C : Rw}
theorem g6_ok (hS : Sl ρ b w p1 p2 p3) (hA : A.Ok) (hb : BoxAt m b) (h1 : m[p1]? = some (lotO A.q)) (hw : m[w]? = some (.lst [A.d, B.d, C.d])) (hwb : w ≠ b) (hpb : p1 ≠ b) : ∃ ρ' m', exes prog (callN prog (n + 12)) fr [t12, t13] ρ m = .nx ρ' m' ∧ Sl ρ' b w p1 p2 p3 ∧ BoxAt m' b ∧ m'[w]? = some (.lst [A.d, B.d, C.d]) ∧ m'[p1]? = some (lotO A.q) := by
  obtain ⟨x, m1, e1, x0, x1, hb1, k1⟩ := take_ok (n := n + 11) (fr := fr) hb (k := 40) (by omega) (by omega)
  have hx : exe prog (callN prog (n + 12)) fr t12 ρ m = .nx (ρ.set 16 (some (.int x))) m1 := by
    simp [t12, -getElem?_pos, hS.v1, e1, hS.len]
  have hS1 := hS.set 16 (by omega) (some (.int x))
  have v16 : (ρ.set 16 (some (.int x)))[16]? = some (some (.int x)) := by simp [hS.len]
  generalize ρ.set 16 (some (.int x)) = ρ1 at hS1 v16 hx
  have h1' := k1.get h1 (by simpa using hpb)
  have hw' := k1.get hw (by simpa using hwb)
  obtain ⟨u, m2, e2, ⟨q, g1, g2, _⟩, k2⟩ := others_at (n := n) (fr := fr) (hA.at_ h1')
  have e3 := has_ok (n := n + 9) (fr := fr) g1 g2.lot.r1 x0
  rw [g2.lot.has x0] at e3
  have i0 : index (.ref w) (.int 0) m2 = .ok A.d m2 := ix_lst (k2.get0 hw') (by omega) rfl
  have e4 : callN prog (n + 12) fr (.df ix__law_in) [A.d, .int x] m2 = .ok (.bl (A.f x)) m2 := in_ok hA.o.r1 x
  have hy : exe prog (callN prog (n + 12)) fr t13 ρ1 m1 = .nx ρ1 m2 := by
    generalize A.f x = t at e3 e4
    simp [t13, hS1.v8, hS1.v7, v16, e2, e3, i0, e4, is_b]
  refine ⟨ρ1, m2, ?_, hS1, hb1.kp k2, k2.get0 hw', k2.get0 h1'⟩
  rw [xs_cons, hx, seq_nx, xs_cons, hy, seq_nx, xs_nil]
/-- one turn -/
theorem round_ok (hl : ρ.length = 21) (h1 : ρ[1]? = some (some (.ref b))) (hb : BoxAt m b) : ∃ (ρ' : Env) (m' : Mem) (w p1 p2 p3 : Nat) (A B C : Rw), exes prog (callN prog (n + 12)) fr [t0, t1, t2, t3, t4, t5, t6, t7, t8, t9, t10, t11, t12, t13] ρ m = .nx ρ' m' ∧ Sl ρ' b w p1 p2 p3 ∧ BoxAt m' b ∧ m'[w]? = some (.lst [A.d, B.d, C.d]) ∧ w ≠ b ∧ p1 ≠ b ∧ ∃ q, m'[p1]? = some (lotO q) ∧ NL A.f q := by
  obtain ⟨A, B, C, w, m1, e1, hA, hB, hC, hw, hwb, hb1⟩ := t0_ok (n := n) (fr := fr) hl h1 hb
  obtain ⟨p1, p2, p3, ρ2, m2, e2, hS, g1, g2, g3, hw2, n1, n2, n3, hb2⟩ := t1_ok (n := n) (fr := fr) (ρ := ρ.set 7 (some (.ref w))) (by simp [hl]) (by simp [h1]) (by simp [hl]) hb1 hA hB hC hw hwb
  obtain ⟨v, q0, q1, q2, m3, e3, hv, y0, y1, y2, k3⟩ := t2_ok (n := n) (fr := fr) hS hA hB hw2
  have hS3 := hS.set 11 (by omega) (some (.ref v))
  have v11 : (ρ2.set 11 (some (.ref v)))[11]? = some (some (.ref v)) := by simp [hS.len]
  obtain ⟨ρ4, m4, e4, hS4, k4⟩ := t3_ok (n := n) (fr := fr) hS3 v11 hA hB (k3.get0 g1) (k3.get0 g2) hv y0 y1 y2
  have k34 := k3.trans k4
  obtain ⟨ρ5, m5, e5, hS5, k5⟩ := g5_ok (n := n) (fr := fr) hS4 hA hB (k34.get0 g1) (k34.get0 g2) (k34.get0 hw2)
  have k35 := k34.trans k5
  obtain ⟨m6, e6, k6⟩ := t8_ok (n := n) (fr := fr) hS5 (hA.at_ (k35.get0 g1)) (hB.at_ (k35.get0 g2))
  have k36 := k35.trans k6
  obtain ⟨m7, e7, k7⟩ := t9_ok (n := n) (fr := fr) hS5 (hA.at_ (k36.get0 g1)) (hB.at_ (k36.get0 g2))
  have k37 := k36.trans k7
  obtain ⟨m8, e8, k8⟩ := t10_ok (n := n) (fr := fr) hS5 (hA.at_ (k37.get0 g1)) (hB.at_ (k37.get0 g2)) (hC.at_ (k37.get0 g3))
  have k38 := k37.trans k8
  obtain ⟨m9, e9, k9⟩ := t11_ok (n := n) (fr := fr) hS5 (hA.at_ (k38.get0 g1)) (hB.at_ (k38.get0 g2))
  have k39 := k38.trans k9
  obtain ⟨ρ10, m10, e10, hS10, hb10, hw10, g10⟩ := g6_ok (n := n) (fr := fr) hS5 hA (hb2.kp k39) (k39.get0 g1) (k39.get0 hw2) hwb n1
  refine ⟨ρ10, m10, w, p1, p2, p3, A, B, C, ?_, hS10, hb10, hw10, hwb, n1, A.q, g10, hA.nl⟩
  rw [xs_cons, e1, seq_nx, xs_cons, e2, seq_nx, xs_cons, e3, seq_nx, xs_cons, e4, seq_nx, show [t4, t5, t6, t7, t8, t9, t10, t11, t12, t13] = [t4, t5, t6, t7] ++ [t8, t9, t10, t11, t12, t13] from rfl, app_nx _ _ _ _ _ _ e5, xs_cons, e6, seq_nx, xs_cons, e7, seq_nx, xs_cons, e8, seq_nx, xs_cons, e9, seq_nx, e10]
end
end K03

-- Q5
set_option linter.all false
set_option Elab.async false
set_option maxRecDepth 10000
/-! Multiples of two numbers. -/
namespace Ms
open PySem (Str PyData)
section
variable {a c : Nat}
def mulB (a c : Nat) (x : Int) : Bool := decide (x % a = 0) || decide (x % c = 0)
theorem mul_iff {x : Nat} : mulB a c x = true ↔ a ∣ x ∨ c ∣ x := by
  unfold mulB
  rw [Bool.or_eq_true, decide_eq_true_eq, decide_eq_true_eq]
  have h : ∀ y : Nat, ((x : Int) % (y : Int) = 0) ↔ y ∣ x := fun y => by
    rw [Nat.dvd_iff_mod_eq_zero]
    have e : (x : Int) % (y : Int) = ((x % y : Nat) : Int) := by
      push_cast
      rfl
    rw [e]
    omega
  rw [h, h]
theorem mul_per : Per (mulB a c) 0 (a * c) := fun x _ => by
  unfold mulB
  have e1 : (x + ((a * c : Nat) : Int)) % (a : Int) = x % a := by
    push_cast
    exact Int.add_mul_emod_self_left _ _ _
  have e2 : (x + ((a * c : Nat) : Int)) % (c : Int) = x % c := by
    push_cast
    rw [Int.mul_comm]
    exact Int.add_mul_emod_self_left _ _ _
  rw [e1, e2]
theorem mul_far (ha : 1 ≤ a) (hc : 1 ≤ c) (h1 : ¬ a ∣ c) (h2 : ¬ c ∣ a) (hg : Nat.Coprime a c) : far (mulB a c) 0 (a * c) = a * c := by
  obtain ⟨f1, f2, f3, f4, _⟩ := far_spec (mul_per (a := a) (c := c)) (Nat.mul_pos ha hc)
  generalize far (mulB a c) 0 (a * c) = d at f1 f2 f3 f4
  have step : ∀ x : Nat, mulB a c x = true → a ∣ x + d ∨ c ∣ x + d := fun x hx => by
    have := f4 x (by omega)
    rw [hx] at this
    exact mul_iff.mp (by push_cast; exact this)
  have h0 := step 0 (mul_iff.mpr (.inl (Nat.dvd_zero a)))
  rw [Nat.zero_add] at h0
  have hac : a ∣ d ∧ c ∣ d := by
    rcases h0 with z | z
    · refine ⟨z, ?_⟩
      rcases step c (mul_iff.mpr (.inr (Nat.dvd_refl c))) with y | y
      · exact absurd ((Nat.dvd_add_left z).mp y) h1
      · exact (Nat.dvd_add_right (Nat.dvd_refl c)).mp y
    · refine ⟨?_, z⟩
      rcases step a (mul_iff.mpr (.inl (Nat.dvd_refl a))) with y | y
      · exact (Nat.dvd_add_right (Nat.dvd_refl a)).mp y
      · exact absurd ((Nat.dvd_add_left z).mp y) h2
  have := Nat.le_of_dvd f1 (hg.mul_dvd_of_dvd_of_dvd hac.1 hac.2)
  omega
theorem cnt_or (f g : Int → Bool) : ∀ n : Nat, cnt (fun x => f x || g x) n + cnt (fun x => f x && g x) n = cnt f n + cnt g n
  | 0 => rfl
  | n + 1 => by
    have ih := cnt_or f g n
    rw [cnt_s, cnt_s, cnt_s, cnt_s]
    cases f n <;> cases g n <;> simp <;> omega
theorem cnt_mult (ha : 1 ≤ a) (t : Nat) : cnt (fun x => decide (x % (a : Int) = 0)) (t * a) = t := by
  have h1 : cnt (fun x => decide (x % (a : Int) = 0)) a = 1 := by
    obtain ⟨b, rfl⟩ : ∃ b, a = 1 + b := ⟨a - 1, by omega⟩
    rw [cnt_add]
    have z : cnt (fun t : Int => decide (((1 : Nat) + t) % ((1 + b : Nat) : Int) = 0)) b = 0 := cnt_zero fun x hx => by
      refine decide_eq_false fun h => ?_
      rw [Int.emod_eq_of_lt (by omega) (by omega)] at h
      omega
    rw [z]
    rfl
  have := cnt_per (b := fun x => decide (x % (a : Int) = 0)) (r := a) (fun x => by
    show decide (((x : Int) + a) % a = 0) = decide ((x : Int) % a = 0)
    rw [Int.add_emod_right]) 0 t
  rw [Nat.add_zero, h1] at this
  rw [this]
  show t * 1 + 0 = t
  omega
theorem mul_cnt (ha : 1 ≤ a) (hc : 1 ≤ c) (hg : Nat.Coprime a c) : cnt (mulB a c) (a * c) + 1 = a + c := by
  have h := cnt_or (fun x => decide (x % (a : Int) = 0)) (fun x => decide (x % (c : Int) = 0)) (a * c)
  have e1 : cnt (fun x => decide (x % (a : Int) = 0)) (a * c) = c := by rw [Nat.mul_comm]; exact cnt_mult ha c
  have e2 : cnt (fun x => decide (x % (c : Int) = 0)) (a * c) = a := cnt_mult hc a
  have e3 : cnt (fun x => decide (x % (a : Int) = 0) && decide (x % (c : Int) = 0)) (a * c) = 1 := by
    have e4 := cnt_mult (Nat.mul_pos ha hc) 1
    rw [Nat.one_mul] at e4
    rw [← e4]
    refine cnt_congr _ fun x _ => ?_
    rw [Bool.eq_iff_iff, Bool.and_eq_true, decide_eq_true_eq, decide_eq_true_eq, decide_eq_true_eq]
    have hm : ∀ y : Nat, ((x : Int) % (y : Int) = 0) ↔ y ∣ x := fun y => by
      rw [Nat.dvd_iff_mod_eq_zero]
      have e : (x : Int) % (y : Int) = ((x % y : Nat) : Int) := by
        push_cast
        rfl
      rw [e]
      omega
    rw [hm, hm, hm]
    exact ⟨fun z => hg.mul_dvd_of_dvd_of_dvd z.1 z.2, fun z => ⟨Nat.dvd_trans (Nat.dvd_mul_right a c) z, Nat.dvd_trans (Nat.dvd_mul_left c a) z⟩⟩
  rw [e1, e2, e3] at h
  have : cnt (mulB a c) (a * c) = cnt (fun x => decide (x % (a : Int) = 0) || decide (x % (c : Int) = 0)) (a * c) := rfl
  omega
/-- the normal form -/
theorem mul_nrm (ha : 1 ≤ a) (hc : 1 ≤ c) (h1 : ¬ a ∣ c) (h2 : ¬ c ∣ a) (hg : Nat.Coprime a c) : (nrm (mulB a c) 0 (a * c)).r = a * c ∧ (nrm (mulB a c) 0 (a * c)).s = 0 ∧ (nrm (mulB a c) 0 (a * c)).R.length + 1 = a + c := by
  have f := mul_far ha hc h1 h2 hg
  have hs : beg (mulB a c) (far (mulB a c) 0 (a * c)) 0 = 0 := rfl
  refine ⟨f, hs, ?_⟩
  show (upto (far (mulB a c) 0 (a * c)) fun t => mulB a c (beg (mulB a c) (far (mulB a c) 0 (a * c)) 0 + t)).length + 1 = a + c
  rw [hs, upto_cnt, f, ← mul_cnt ha hc hg]
  congr 1
  refine cnt_congr _ fun x _ => ?_
  rw [show ((0 : Nat) : Int) + (x : Int) = x by omega]
end
end Ms

-- L04c
set_option linter.all false
set_option Elab.async false
set_option maxRecDepth 10000
namespace K03
open Ms
open PySem (Str PyData)
/-! ### closures -/
section
variable {P : Prog} {C : Cl} {fr : Fr} {ρ : Env} {m : Mem} {id n : Nat}
theorem el_nil : evL P C fr id [] ρ m = .ok [] m := by rw [evL] <;> rfl
theorem el_lam (k : Nat) (l : List E) : evL P C fr id (.lam k :: l) ρ m = (evL P C fr id l ρ m).bind fun xs m => .ok (.clo k id :: xs) m := by rw [evL] <;> rfl
theorem el_lst2 (a b : E) (x l : List E) : evL P C fr id (.lst (a :: b :: x) :: l) ρ m = (ev P C fr (.lst (a :: b :: x)) ρ m).bind fun y m => (evL P C fr id l ρ m).bind fun ys m => .ok (y :: ys) m := by rw [evL] <;> simp
theorem el_tup (x l : List E) : evL P C fr id (.tup x :: l) ρ m = (ev P C fr (.tup x) ρ m).bind fun y m => (evL P C fr id l ρ m).bind fun ys m => .ok (y :: ys) m := by rw [evL] <;> simp
theorem call_cl {k : Nat} {ds : List D} {l : Lam} (h : P.lams[k]? = some l) (hl : fr.fr.lookup id = some ρ) (hd : ds.length = l.np) : callN P (n + 1) fr (.cl k id) ds m = ev P (callN P n) { fr with fr := fr.fr.filter fun p => p.1 != id } l.body (setMany (Ms.pick ρ l.fs) l.sl ds) m := by
  rw [callN]
  simp only [h, hl, hd, if_true]
end
theorem lk_self {i : Nat} {ρ : Env} {l : List (Nat × Env)} : List.lookup i ((i, ρ) :: l) = some ρ := by simp
section
variable {n : Nat} {fr : Fr} {m : Mem} {b p : Nat} {sc : D} {x1 x2 x3 x4 x5 x6 x7 x8 x9 x10 x11 x12 x13 x14 x15 : Option D} {F R : List Int} {s r : Nat}
end
theorem pick_get {ρ : Env} {fs : List Nat} {i : Nat} (hi : i < ρ.length) : (Ms.pick ρ fs)[i]? = some (if fs.contains i then (ρ[i]?).join else none) := by
  unfold Ms.pick
  rw [List.getElem?_map, List.getElem?_range hi]
  rfl
theorem pick_len {ρ : Env} {fs : List Nat} : (Ms.pick ρ fs).length = ρ.length := by
  unfold Ms.pick
  rw [List.length_map, List.length_range]
theorem set1 {ρ : Env} {i : Nat} {d : D} : setMany ρ [i] [d] = ρ.set i (some d) := rfl
theorem set0 {ρ : Env} : setMany ρ [] [] = ρ := rfl
theorem el_clo {P : Prog} {C : Cl} {fr : Fr} {ρ : Env} {m : Mem} {id : Nat} (k : Nat) (l : List E) : evL P C fr id (.lst [.lam k] :: l) ρ m = (evL P C fr id l ρ (m ++ [.lst [.clo k id]])).bind fun xs m' => .ok (.ref m.length :: xs) m' := by rw [evL] <;> rfl
def Due (cc : Nat) (vs : List D) (due : D) : Prop := (∃ l : Int, cc = xx_InvalidNumbers ∧ vs = [.int l] ∧ due = .tup [.str (sOf "numbers"), .int l]) ∨ (cc = xx_InvalidSize ∧ vs = [.str (sOf "ring")] ∧ due = .tup [.str (sOf "size"), .str (sOf "ring")])
theorem err_due {n k i : Nat} {fr : Fr} {m m' : Mem} {cc : Nat} {vs : List D} {due : D} (hw : Due cc vs due) (h : callN prog n fr (.cl k i) [] m = .exc cc vs m') : callN prog (n + 1) fr (.df ix__law_error) [.clo k i] m = .ok due m' := by
  rcases hw with ⟨l, rfl, rfl, rfl⟩ | ⟨rfl, rfl, rfl⟩
  · exact err_numbers rfl h
  · exact err_size rfl h
theorem ok_numbers : PySem.PyData.strOk (sOf "numbers") = true := by decide +kernel
theorem ok_size : PySem.PyData.strOk (sOf "size") = true := by decide +kernel
theorem ok_ring : PySem.PyData.strOk (sOf "ring") = true := by decide +kernel
theorem pure_due {cc : Nat} {vs : List D} {due : D} (hw : Due cc vs due) : PureD 1 due = true := by
  rcases hw with ⟨l, rfl, rfl, rfl⟩ | ⟨rfl, rfl, rfl⟩
  · simp [PureD, ok_numbers]
  · simp [PureD, ok_size, ok_ring]
section
variable {n : Nat} {fr : Fr} {m : Mem}
theorem all_ok {k i q : Nat} {ρ0 : Env} {lk : List Nat} {ds : List D} {cc : Nat} {vs : List D} {due : D} (hi : i < m.length) (hq : m[q]? = some (.lst ds)) (H : ∀ d ∈ ds, ∀ m' : Mem, Kp [] m m' → ∃ m2, callN prog (n + 6) ⟨[(i, ρ0)], lk⟩ (.cl k i) [d] m' = .exc cc vs m2 ∧ Kp [] m' m2) (hw : Due cc vs due) :
    ∃ m', callN prog (n + 9) ⟨[(i, ρ0)], lk⟩ (.df ix__law_all) [.clo k i, .ref q, due] m = .ok (.bl true) m' ∧ Kp [] m m' := by
  rw [call_df at__law_all rfl]
  simp only [d__law_all, startE, List.map_cons, List.map_nil, List.length_cons, List.length_nil, List.cons_append, List.nil_append]
  simp only [List.replicate]
  have hloop : ∃ y3 m', exe prog (callN prog (n + 8)) ⟨[(i, ρ0)], lk⟩ (.for_ (.v 3) .one [.var 1] [
    .ife (.not (.call ix__law_is [.calL ix__law_error [.lam 0], .var 2])) [
      .ret (.cst (.bl false))] []]) [some (.clo k i), some (.ref q), some due, none] m = .nx [some (.clo k i), some (.ref q), some due, y3] m' ∧ Kp [] m m' := by
    refine for_run (m1 := m) (I := fun _ ρ m' => ∃ y3, ρ = [some (.clo k i), some (.ref q), some due, y3] ∧ Kp [] m m') (xs := ds) (n := ds.length) (s := .live q) (ds := [.ref q])
      (Q := fun z => ∃ y3 m', z = .nx [some (.clo k i), some (.ref q), some due, y3] m' ∧ Kp [] m m') (by simp [lockV, hq]) (by simp) (by simp [src, hq]) rfl (fun _ _ m' _ ⟨_, _, kk⟩ => (wk_live (kk.get0 hq)).2 m' .refl) ⟨none, rfl, .refl⟩ ?_ ?_
    · rintro j d ρ m1 hj ⟨y3, rfl, k1⟩
      have k2 : Kp [] m1 (m1 ++ [Ob.mark]) := .app _
      obtain ⟨m2, e2, k3⟩ := H d (List.mem_of_getElem? hj) (m1 ++ [Ob.mark]) (k1.trans k2)
      have hne : (i != m1.length) = true := by
        have := k1.len
        simp
        omega
      have e3 : callN prog (n + 7) ⟨(m1.length, [some (.clo k i), some (.ref q), some due, some d]) :: [(i, ρ0)], lk⟩ (.cl 0 m1.length) [] (m1 ++ [Ob.mark]) = .exc cc vs m2 := by
        rw [call_cl (l := ⟨0, [], .cv (.var 0) [.var 3], [0, 3]⟩) rfl lk_self rfl]
        have ep : setMany (Ms.pick [some (.clo k i), some (.ref q), some due, some d] [0, 3]) [] [] = [some (.clo k i), none, none, some d] := rfl
        have ef : List.filter (fun p : Nat × Env => p.1 != m1.length) ((m1.length, [some (.clo k i), some (.ref q), some due, some d]) :: [(i, ρ0)]) = [(i, ρ0)] := by
          rw [List.filter_cons, List.filter_cons, List.filter_nil]
          simp only [hne, bne_self_eq_false, if_true]
          rfl
        rw [ep]
        show ev prog (callN prog (n + 6)) ⟨List.filter (fun p : Nat × Env => p.1 != m1.length) ((m1.length, [some (.clo k i), some (.ref q), some due, some d]) :: [(i, ρ0)]), lk⟩ _ _ _ = _
        rw [ef]
        simp [callV, e2]
      have e4 : callN prog (n + 8) ⟨(m1.length, [some (.clo k i), some (.ref q), some due, some d]) :: [(i, ρ0)], lk⟩ (.df ix__law_error) [.clo 0 m1.length] (m1 ++ [Ob.mark]) = .ok due m2 := by
        exact err_due hw e3
      have pw : PureD 1 due = true := pure_due hw
      obtain ⟨m3, e5, k4⟩ := is_refl 1 _ pw (n + 6) ⟨[(i, ρ0)], lk⟩ m2
      have e5 : callN prog (n + 8) ⟨[(i, ρ0)], lk⟩ (.df ix__law_is) [due, due] m2 = .ok (.bl true) m3 := e5
      refine ⟨[some (.clo k i), some (.ref q), some due, some d], by simp [bindT], .inl ⟨[some (.clo k i), some (.ref q), some due, some d], m3, .inl ?_, some d, rfl, ((k1.trans k2).trans k3).trans k4⟩⟩
      simp [el_lam, el_nil, e4, e5]
    · rintro ρ m1 ⟨y3, rfl, k1⟩
      exact ⟨y3, m1, rfl, k1⟩
  obtain ⟨y3, m', e, k1⟩ := hloop
  exact ⟨m', by simp [e], k1⟩
theorem due_ok {k i z : Nat} {ρ0 : Env} {lk : List Nat} {cc : Nat} {vs : List D} {due : D} (hq : m[z]? = some (.lst [.clo k i])) (H : ∀ m' : Mem, Kp [] m m' → ∃ m2, callN prog (n + 7) ⟨[(i, ρ0)], lk⟩ (.cl k i) [] m' = .exc cc vs m2 ∧ Kp [] m' m2) (hw : Due cc vs due) :
    ∃ m', callN prog (n + 9) ⟨[(i, ρ0)], lk⟩ (.df ix__law_due) [.ref z, due] m = .ok (.bl true) m' ∧ Kp [] m m' := by
  rw [call_df at__law_due rfl]
  obtain ⟨q1, m1, e1, h1, k1, _⟩ := lc_filter (fr := ⟨[(i, ρ0)], lk⟩) (P := prog) (C := callN prog (n + 8)) (x := .var 2) (g := .v 2) (k := .one) (l := [.var 0]) (c := [.not (.call ix__law_is [.call ix__law_error [.var 2], .var 1])]) (own := [2]) (ρ := [some (.ref z), some due, none]) (m := m) (ys := [D.clo k i]) (fy := fun d => d) (n := 1) (s := .live z) (ds := [.ref z]) (fun _ => false) (fun d => d)
    (lock_no (by simp [lockV, hq])) (by simp) .refl (by simp [src, hq]) (by simpa using wk_live hq) (by simp) (fun d hd m' k' => by
      obtain rfl : d = .clo k i := by simpa using hd
      obtain ⟨m2, e2, k2⟩ := H m' k'
      have e4 : callN prog (n + 8) ⟨[(i, ρ0)], lk⟩ (.df ix__law_error) [.clo k i] m' = .ok due m2 := by
        exact err_due hw e2
      have pw : PureD 1 due = true := pure_due hw
      obtain ⟨m3, e5, k5⟩ := is_refl 1 _ pw (n + 6) ⟨[(i, ρ0)], lk⟩ m2
      have e5 : callN prog (n + 8) ⟨[(i, ρ0)], lk⟩ (.df ix__law_is) [due, due] m2 = .ok (.bl true) m3 := e5
      exact ⟨[some (.ref z), some due, some (.clo k i)], m3, by simp [wipeE, bindT], by simp [e4, e5], k2.trans k5, fun z => (by cases z)⟩)
  have e0 : [D.clo k i].filter (fun _ => false) = [] := by simp
  rw [e0] at h1
  have kl : Kp [] m1 (m1 ++ [Ob.lst ([] : List D)]) := .app _
  have en : eqD (m1 ++ [Ob.lst ([] : List D)]) (.ref q1) (.ref m1.length) = some true := by
    have := eqD_lists (a := []) (b := []) (kl.get0 h1) (at_new _)
    simpa using this
  have oe : ownEq prog (m1 ++ [Ob.lst ([] : List D)]) (.ref q1) = none := ownEq_lst (kl.get0 h1)
  refine ⟨m1 ++ [Ob.lst ([] : List D)], ?_, k1.trans kl⟩
  simp [d__law_due, startE, e1, newL, cmpE_of oe, en]
end
end K03

-- S03
set_option linter.all false
set_option Elab.async false
set_option maxRecDepth 10000
namespace K03
open Ms
open PySem (Str PyData)
section
variable {n : Nat} {fr : Fr} {m : Mem} {b : Nat} {ρ : Env}
theorem ask_bad {kf cc : Nat} {x y : D} {vs : List D} (hk : kf ∈ [ix_both, ix_either, ix_less, ix_is_within, ix_first_beyond, ix_first_unlike]) (h : ∀ (k : Nat) (fr : Fr), callN prog (k + 4) fr (.df ix_need_both) [x, y] m = .exc cc vs m) : callN prog (n + 6) fr (.df kf) [x, y] m = .exc cc vs m := by
  simp at hk
  rcases hk with rfl | rfl | rfl | rfl | rfl | rfl
  · rw [call_df at_both rfl]
    simp [d_both, startE, h (n + 1)]
  · rw [call_df at_either rfl]
    simp [d_either, startE, h (n + 1)]
  · rw [call_df at_less rfl]
    simp [d_less, startE, h (n + 1)]
  · have e : callN prog (n + 5) fr (.df ix_first_beyond) [x, y] m = .exc cc vs m := by
      rw [call_df at_first_beyond rfl]
      simp [d_first_beyond, startE, h n]
    rw [call_df at_is_within rfl]
    simp [d_is_within, startE, e]
  · rw [call_df at_first_beyond rfl]
    simp [d_first_beyond, startE, h (n + 1)]
  · rw [call_df at_first_unlike rfl]
    simp [d_first_unlike, startE, h (n + 1)]
/-! ### multiples -/
theorem memM {a : Nat} {x : Int} (hx : 0 ≤ x) : memB [] 0 a [0] x = decide (x % a = 0) := by
  unfold memB
  rw [if_neg (by omega), show x - ((0 : Nat) : Int) = x by omega]
  simp
theorem rawM {a : Nat} (h1 : 1 ≤ a) (h2 : a ≤ 60) : RawOk [] 0 a [0] := ⟨fun x hx => (by cases hx), by simp, fun x hx => by simp at hx; omega, by simp, h1, by omega, h2⟩
def multF (a : Nat) (x : Int) : Bool := decide (x % a = 0)
theorem mk_mult {e : E} {a : Nat} (he : ∀ m, ev prog (callN prog (n + 9)) fr e ρ m = .ok (.int a) m) (h1 : 1 ≤ a) (h2 : a ≤ 60) : ∃ p m' q, ev prog (callN prog (n + 9)) fr (.mk cx_Numbers [.lst [], .cst (.int 0), e, .lst [.cst (.int 0)]]) ρ m = .ok (.ref p) m' ∧ m'[p]? = some (lotO q) ∧ NL (multF a) q ∧ q.r ∣ a ∧ Kp [] m m' ∧ m.length ≤ p := by
  have o := rawM h1 h2
  obtain ⟨p, m1, e1, g1, k1, l1⟩ := mk_ok (n := n + 4) (fr := fr) (m := m ++ [Ob.lst []] ++ [Ob.lst [.int 0]]) (vF := .ref m.length) (vR := .ref (m.length + 1)) (F := []) (R := [0]) (s := 0) (r := a) (.inr ⟨_, rfl, by simp⟩) (.inr ⟨_, rfl, by simp⟩) (by simp) (by simp) (by omega) h1 h2 o.hf o.fn o.hr o.rn
  have e1 : callN prog (n + 9) fr (.ct cx_Numbers) [.ref m.length, .int 0, .int a, .ref (m.length + 1)] (m ++ [Ob.lst []] ++ [Ob.lst [.int 0]]) = .ok (.ref p) m1 := e1
  have f := far_spec (memB_per (F := []) (s := 0) o.r1 o.hr) o.r1
  refine ⟨p, m1, _, ?_, g1, (nl_raw o).congr fun x hx => memM hx, Nat.dvd_of_mod_eq_zero f.2.2.1, ((Kp.app _).trans (.app _)).trans k1, by simp at l1; omega⟩
  simp at e1
  simp [newL, he, e1]
/-- the pairs of rings -/
structure Pr (a c : Nat) : Prop where
  a1 : 1 ≤ a
  a2 : a ≤ 60
  c1 : 1 ≤ c
  c2 : c ≤ 60
  n1 : ¬ a ∣ c
  n2 : ¬ c ∣ a
  g : Nat.Coprime a c
  le : a * c ≤ 5000
  big : 5000 < Nat.lcm (a * c) (if a = 55 then 13 else 11)
theorem pr_of {a c : Nat} (ha : a = 60 ∨ a = 58 ∨ a = 57 ∨ a = 55) (hc : c = 59 ∨ c = 53 ∨ c = 49) : Pr a c := by
  rcases ha with rfl | rfl | rfl | rfl <;> rcases hc with rfl | rfl | rfl <;> exact ⟨by omega, by omega, by omega, by omega, by decide +kernel, by decide +kernel, by decide +kernel, by omega, by decide +kernel⟩
end
end K03

-- T03
set_option linter.all false
set_option Elab.async false
set_option maxRecDepth 10000
namespace K03
open Ms
open PySem (Str PyData)
structure Te (ρ : Env) (w p1 p5 a c : Nat) : Prop where
  len : ρ.length = 21
  v3 : ρ[3]? = some (some (.int a))
  v4 : ρ[4]? = some (some (.int c))
  v5 : ρ[5]? = some (some (.ref p5))
  v7 : ρ[7]? = some (some (.ref w))
  v8 : ρ[8]? = some (some (.ref p1))
theorem Te.set {ρ : Env} {w p1 p5 a c : Nat} (h : Te ρ w p1 p5 a c) (d : Option D) : Te (ρ.set 6 d) w p1 p5 a c :=
  ⟨by rw [List.length_set]; exact h.len, by rw [List.getElem?_set_ne (by omega)]; exact h.v3, by rw [List.getElem?_set_ne (by omega)]; exact h.v4, by rw [List.getElem?_set_ne (by omega)]; exact h.v5, by rw [List.getElem?_set_ne (by omega)]; exact h.v7, by rw [List.getElem?_set_ne (by omega)]; exact h.v8⟩
section
variable {n : Nat} {m : Mem} {b w p1 p5 a c : Nat} {ρ : Env} {f1 : Int → Bool} {q1 q5 : Nrm} {A B C : Rw}
theorem u8_ok : ∃ m', exe prog (callN prog (n + 12)) {} u8 ρ m = .rt (.bl true) m' := by
  obtain ⟨m2, e2, _⟩ := due_ok (n := n + 3) (m := m ++ [Ob.mark] ++ [Ob.lst [.clo 1 m.length]]) (k := 1) (i := m.length) (z := m.length + 1) (ρ0 := ρ) (lk := []) (cc := xx_InvalidNumbers) (vs := [.int (-1)]) (due := .tup [.str (sOf "numbers"), .int (-1)]) (by simp) (fun m' k' => by
    rw [call_cl (l := ⟨0, [], .call ix_others [.cst (.non)], []⟩) rfl lk_self rfl]
    refine ⟨m', ?_, .refl⟩
    have e9 : ∀ fr, callN prog (n + 9) fr (.df ix_others) [.non] m' = .exc xx_InvalidNumbers [.int (-1)] m' := fun fr => by
      rw [call_df at_others rfl]
      simp [d_others, startE, need_bad (n := n + 7) (v := .non) rfl]
    simp [e9]) (.inl ⟨-1, rfl, rfl, rfl⟩)
  refine ⟨m2, ?_⟩
  simp at e2
  simp [u8, el_clo, el_tup, el_nil, e2]
theorem u6_ok (hT : Te ρ w p1 p5 a c) (P : Pr a c) (h5 : m[p5]? = some (lotO q5)) (n5 : NL (mulB a c) q5) (r5 : q5.r = a * c) (h1 : m[p1]? = some (lotO q1)) (hw : m[w]? = some (.lst [A.d, B.d, C.d])) : ∃ ρ' m', exe prog (callN prog (n + 12)) {} u6 ρ m = .nx ρ' m' ∧ Te ρ' w p1 p5 a c ∧ Kp [] m m' := by
  have kl : Kp [] m (m ++ [Ob.lst [.fn ix_both, .fn ix_either, .fn ix_less, .fn ix_is_within, .fn ix_first_beyond, .fn ix_first_unlike]]) := .app _
  refine for_run (m1 := m ++ [Ob.lst [.fn ix_both, .fn ix_either, .fn ix_less, .fn ix_is_within, .fn ix_first_beyond, .fn ix_first_unlike]]) (I := fun _ ρ m' => Te ρ w p1 p5 a c ∧ Kp [] (m ++ [Ob.lst [.fn ix_both, .fn ix_either, .fn ix_less, .fn ix_is_within, .fn ix_first_beyond, .fn ix_first_unlike]]) m') (xs := [.fn ix_both, .fn ix_either, .fn ix_less, .fn ix_is_within, .fn ix_first_beyond, .fn ix_first_unlike]) (n := 6) (s := .live m.length) (ds := [.ref m.length])
    (Q := fun x => ∃ ρ' m', x = .nx ρ' m' ∧ Te ρ' w p1 p5 a c ∧ Kp [] m m') rfl (by simp [newL]) (by simp [src]) rfl (fun _ _ m' _ ⟨_, kk⟩ => (wk_live (kk.get0 (at_new (m := m) _))).2 m' .refl) ⟨hT, .refl⟩ ?_ ?_
  · rintro j f ρ m1 hj ⟨hS, kj⟩
    obtain ⟨kf, rfl, hk⟩ : ∃ kf, f = .fn kf ∧ kf ∈ [ix_both, ix_either, ix_less, ix_is_within, ix_first_beyond, ix_first_unlike] := by
      have := List.mem_of_getElem? hj
      simp at this
      rcases this with rfl | rfl | rfl | rfl | rfl | rfl <;> exact ⟨_, rfl, by simp⟩
    have hS1 := hS.set (some (.fn kf))
    have v6 : (ρ.set 6 (some (.fn kf)))[6]? = some (some (.fn kf)) := by simp [hS.len]
    have hbt : bindT (.fn kf) ρ (.v 6) = some (ρ.set 6 (some (.fn kf))) := by simp [bindT, hS.len]
    refine ⟨_, hbt, ?_⟩
    generalize ρ.set 6 (some (.fn kf)) = ρ1 at hS1 v6
    have km := kl.trans kj
    -- too great a ring
    have kd : Kp [] m1 (m1 ++ [Ob.mark] ++ [Ob.lst [.clo 4 m1.length]]) := (Kp.app _).trans (.app _)
    obtain ⟨m2, e2, k2⟩ := due_ok (n := n + 3) (m := m1 ++ [Ob.mark] ++ [Ob.lst [.clo 4 m1.length]]) (k := 4) (i := m1.length) (z := m1.length + 1) (ρ0 := ρ1) (lk := []) (cc := xx_InvalidSize) (vs := [.str (sOf "ring")]) (due := .tup [.str (sOf "size"), .str (sOf "ring")]) (by simp) (fun m' k' => by
      rw [call_cl (l := ⟨0, [], .cv (.var 6) [.var 5, .mk cx_Numbers [.lst [], .cst (.int 0), .ite (.cmp .ne (.var 3) (.cst (.int 55))) (.cst (.int 11)) (.cst (.int 13)), .lst [.cst (.int 0)]]], [3, 5, 6]⟩) rfl lk_self rfl]
      rw [set0]
      have a6 : (Ms.pick ρ1 [3, 5, 6])[6]? = some (some (.fn kf)) := by
        rw [pick_get (by rw [hS1.len]; omega), v6]
        rfl
      have a5 : (Ms.pick ρ1 [3, 5, 6])[5]? = some (some (.ref p5)) := by
        rw [pick_get (by rw [hS1.len]; omega), hS1.v5]
        rfl
      have a3 : (Ms.pick ρ1 [3, 5, 6])[3]? = some (some (.int a)) := by
        rw [pick_get (by rw [hS1.len]; omega), hS1.v3]
        rfl
      obtain ⟨D, hD, hD1, hD2⟩ : ∃ D : Nat, D = (if a = 55 then 13 else 11) ∧ 1 ≤ D ∧ D ≤ 60 := ⟨_, rfl, by split <;> omega, by split <;> omega⟩
      have he : ∀ fr (m : Mem), ev prog (callN prog (n + 9)) fr (.ite (.cmp .ne (.var 3) (.cst (.int 55))) (.cst (.int 11)) (.cst (.int 13))) (Ms.pick ρ1 [3, 5, 6]) m = .ok (.int D) m := fun fr m => by
        by_cases h : a = 55
        · subst h
          rw [hD]
          simp [a3]
        · have h' : ¬ (a : Int) = 55 := by omega
          rw [hD]
          simp [a3, h, h']
      have hp5 := (km.trans (kd.trans k')).get0 h5
      refine ?_
      obtain ⟨u, m3, q, e3, g3, nq, hq, k3, _⟩ := mk_mult (n := n) (fr := { fr := List.filter (fun p => p.1 != m1.length) [(m1.length, ρ1)], lk := [] }) (m := m') (he _) hD1 hD2
      have hqD : q.r = D := by
        have L := nq.lot
        have h1 := L.r1
        have hp := L.per (x := (D * q.s : Nat)) (by
          have : 1 * q.s ≤ D * q.s := Nat.mul_le_mul_right _ hD1
          omega)
        unfold multF at hp
        rw [decide_eq_decide] at hp
        have e0 : ((D * q.s : Nat) : Int) % (D : Int) = 0 := by push_cast; exact Int.mul_emod_right _ _
        have e1 := hp.mpr e0
        have e2 : (((D * q.s + q.r) % D : Nat) : Int) = 0 := by push_cast; push_cast at e1; exact e1
        have e3 : (D * q.s + q.r) % D = 0 := by omega
        rw [Nat.mul_add_mod] at e3
        exact Nat.dvd_antisymm hq (Nat.dvd_of_mod_eq_zero e3)
      have eb := ask_bad (n := n + 3) (fr := { fr := List.filter (fun p => p.1 != m1.length) [(m1.length, ρ1)], lk := [] }) hk (fun k fr => need2_big (n := k) (fr := fr) (k3.get0 hp5) g3 n5.lot nq.lot (by rw [r5, hqD, hD]; exact P.big))
      refine ⟨m3, ?_, k3⟩
      rw [e_cv, e_var, a6]
      simp only [Option.join_some, opt_some, rb_ok, isF_fn, if_true, es_cons, e_var, a5, e3, es_nil, callV]
      exact eb) (.inr ⟨rfl, rfl, rfl⟩)
    simp at e2
    have x1 : exe prog (callN prog (n + 12)) {} (.ife (.not (.calL ix__law_due [.lst [.lam 4], .tup [.cst (.str (sOf "size")), .cst (.str (sOf "ring"))]])) [.ret (.cst (.bl false))] []) ρ1 m1 = .nx ρ1 m2 := by
      simp [el_clo, el_tup, el_nil, e2]
    have fA : Flat A.d = true := rfl
    have kd2 := kd.trans k2
    have hw2 := (km.trans kd2).get0 hw
    have i0 : index (.ref w) (.int 0) (m2 ++ [Ob.mark]) = .ok A.d (m2 ++ [Ob.mark]) := ix_lst ((Kp.app _).get0 hw2) (by omega) rfl
    have ke : Kp [] m2 (m2 ++ [Ob.mark] ++ [Ob.lst [.non, .int 3, A.d]]) := (Kp.app _).trans (.app _)
    obtain ⟨m3, e3, k3⟩ := all_ok (n := n + 3) (m := m2 ++ [Ob.mark] ++ [Ob.lst [.non, .int 3, A.d]]) (k := 2) (i := m2.length) (q := m2.length + 1) (ρ0 := ρ1) (lk := []) (ds := [.non, .int 3, A.d]) (cc := xx_InvalidNumbers) (vs := [.int 0]) (due := .tup [.str (sOf "numbers"), .int 0]) (by simp) (by simp) (fun d hd m' k' => by
      rw [call_cl (l := ⟨1, [20], .cv (.var 6) [.var 20, .cst (.non)], [6]⟩) rfl lk_self rfl]
      rw [set1]
      have a6 : ((Ms.pick ρ1 [6]).set 20 (some d))[6]? = some (some (.fn kf)) := by
        rw [List.getElem?_set_ne (by omega), pick_get (by rw [hS1.len]; omega), v6]
        rfl
      have a20 : ((Ms.pick ρ1 [6]).set 20 (some d))[20]? = some (some d) := by
        rw [List.getElem?_set_self (by rw [pick_len, hS1.len]; omega)]
      have fd : Flat d = true := by
        simp at hd
        rcases hd with rfl | rfl | rfl
        · rfl
        · rfl
        · exact fA
      have eb := ask_bad (n := n + 2) (fr := { fr := List.filter (fun p => p.1 != m2.length) [(m2.length, ρ1)], lk := [] }) (m := m') hk (fun k fr => need2_bad1 (n := k) (fr := fr) (m := m') (v := d) (w := .non) fd)
      refine ⟨m', ?_, .refl⟩
      rw [e_cv, e_var, a6]
      simp only [Option.join_some, opt_some, rb_ok, isF_fn, if_true, es_cons, e_var, a20, es_nil, e_cst, callV]
      exact eb) (.inl ⟨0, rfl, rfl, rfl⟩)
    simp at e3
    have x2 : exe prog (callN prog (n + 12)) {} (.ife (.not (.calL ix__law_all [.lam 2, .lst [.cst (.non), .cst (.int 3), .idx (.var 7) (.cst (.int 0))], .tup [.cst (.str (sOf "numbers")), .cst (.int 0)]])) [.ret (.cst (.bl false))] []) ρ1 m2 = .nx ρ1 m3 := by
      simp [el_lam, el_lst2, el_tup, el_nil, newL, hS1.v7, i0, e3]
    have ke3 := ke.trans k3
    have hw3 := ke3.get0 hw2
    have j0 : index (.ref w) (.int 0) (m3 ++ [Ob.mark]) = .ok A.d (m3 ++ [Ob.mark]) := ix_lst ((Kp.app _).get0 hw3) (by omega) rfl
    have kf3 : Kp [] m3 (m3 ++ [Ob.mark] ++ [Ob.lst [.non, .int 3, A.d]]) := (Kp.app _).trans (.app _)
    have h13 := ((km.trans kd2).trans ke3).get0 h1
    obtain ⟨m4, e4, k4⟩ := all_ok (n := n + 3) (m := m3 ++ [Ob.mark] ++ [Ob.lst [.non, .int 3, A.d]]) (k := 3) (i := m3.length) (q := m3.length + 1) (ρ0 := ρ1) (lk := []) (ds := [.non, .int 3, A.d]) (cc := xx_InvalidNumbers) (vs := [.int 1]) (due := .tup [.str (sOf "numbers"), .int 1]) (by simp) (by simp) (fun d hd m' k' => by
      rw [call_cl (l := ⟨1, [20], .cv (.var 6) [.var 8, .var 20], [6, 8]⟩) rfl lk_self rfl]
      rw [set1]
      have a6 : ((Ms.pick ρ1 [6, 8]).set 20 (some d))[6]? = some (some (.fn kf)) := by
        rw [List.getElem?_set_ne (by omega), pick_get (by rw [hS1.len]; omega), v6]
        rfl
      have a8 : ((Ms.pick ρ1 [6, 8]).set 20 (some d))[8]? = some (some (.ref p1)) := by
        rw [List.getElem?_set_ne (by omega), pick_get (by rw [hS1.len]; omega), hS1.v8]
        rfl
      have a20 : ((Ms.pick ρ1 [6, 8]).set 20 (some d))[20]? = some (some d) := by
        rw [List.getElem?_set_self (by rw [pick_len, hS1.len]; omega)]
      have fd : Flat d = true := by
        simp at hd
        rcases hd with rfl | rfl | rfl
        · rfl
        · rfl
        · exact fA
      have hp' := (kf3.trans k').get0 h13
      have eb := ask_bad (n := n + 2) (fr := { fr := List.filter (fun p => p.1 != m3.length) [(m3.length, ρ1)], lk := [] }) (m := m') hk (fun k fr => need2_bad2 (n := k) (fr := fr) hp' fd)
      refine ⟨m', ?_, .refl⟩
      rw [e_cv, e_var, a6]
      simp only [Option.join_some, opt_some, rb_ok, isF_fn, if_true, es_cons, e_var, a8, a20, es_nil, callV]
      exact eb) (.inl ⟨1, rfl, rfl, rfl⟩)
    simp at e4
    have x3 : exe prog (callN prog (n + 12)) {} (.ife (.not (.calL ix__law_all [.lam 3, .lst [.cst (.non), .cst (.int 3), .idx (.var 7) (.cst (.int 0))], .tup [.cst (.str (sOf "numbers")), .cst (.int 1)]])) [.ret (.cst (.bl false))] []) ρ1 m3 = .nx ρ1 m4 := by
      simp [el_lam, el_lst2, el_tup, el_nil, newL, hS1.v7, j0, e4]
    exact .inl ⟨ρ1, m4, .inl (by rw [u6b, xs_cons, x1, seq_nx, xs_cons, x2, seq_nx, xs_cons, x3, seq_nx, xs_nil]), hS1, ((kj.trans kd2).trans ke3).trans (kf3.trans k4)⟩
  · rintro ρ m1 ⟨hS, kj⟩
    exact ⟨ρ, m1, rfl, hS, kl.trans kj⟩
end
end K03

-- V03
set_option linter.all false
set_option Elab.async false
set_option maxRecDepth 10000
namespace K03
open Ms
open PySem (Str PyData)
section
variable {n : Nat} {m : Mem} {b w p1 p2 p3 p : Nat} {ρ : Env} {f1 : Int → Bool} {q1 : Nrm} {A B C : Rw}
theorem draw_ok (hb : BoxAt m b) {qs : List Int} (h1 : 1 ≤ qs.length) (h2 : qs.length < 1000) : ∃ (x : Int) (m' : Mem), callN prog (n + 12) {} (.df ix__law_pick) [.ref b, .ref m.length] (m ++ [Ob.lst (qs.map .int)]) = .ok (.int x) m' ∧ x ∈ qs ∧ BoxAt m' b ∧ Kp [b] m m' := by
  have kl : Kp [] m (m ++ [Ob.lst (qs.map .int)]) := .app _
  obtain ⟨d, m', e, hd, hb', k⟩ := pick_ok (n := n + 10) (fr := {}) (hb.kp kl) (at_new (m := m) (.lst (qs.map .int))) (by have := hb.lt; omega) (by simpa using h1) (by simpa using h2)
  obtain ⟨x, hx, rfl⟩ := List.mem_map.mp hd
  exact ⟨x, m', e, hx, hb', kl.any.trans k⟩
theorem end_ok (hS : Sl ρ b w p1 p2 p3) (hb : BoxAt m b) (hw : m[w]? = some (.lst [A.d, B.d, C.d])) (hwb : w ≠ b) (hpb : p1 ≠ b) (h1 : m[p1]? = some (lotO q1)) : ∃ m', exes prog (callN prog (n + 12)) {} [u2, u3, u4, u5, u6, u7, u8] ρ m = .rt (.bl true) m' := by
  obtain ⟨x, m1, e1, hx, hb1, k1⟩ := draw_ok (n := n) hb (qs := [60, 58, 57, 55]) (by simp) (by simp)
  obtain ⟨y, m2, e2, hy, hb2, k2⟩ := draw_ok (n := n) hb1 (qs := [59, 53, 49]) (by simp) (by simp)
  obtain ⟨a, c, rfl, rfl, P⟩ : ∃ a c : Nat, x = a ∧ y = c ∧ Pr a c := by
    simp at hx hy
    refine ⟨x.toNat, y.toNat, by omega, by omega, pr_of (by omega) (by omega)⟩
  have k12 := k1.trans k2
  have x2 : exe prog (callN prog (n + 12)) {} u2 ρ m = .nx ((ρ.set 3 (some (.int a))).set 4 (some (.int c))) m2 := by
    simp at e1 e2
    simp [u2, -getElem?_pos, hS.v1, hS.len, newL, e1, e2]
  have l1 : ((ρ.set 3 (some (.int a))).set 4 (some (.int c))).length = 21 := by simp [hS.len]
  have v3 : ((ρ.set 3 (some (.int a))).set 4 (some (.int c)))[3]? = some (some (.int a)) := by simp [hS.len]
  have v4 : ((ρ.set 3 (some (.int a))).set 4 (some (.int c)))[4]? = some (some (.int c)) := by simp [hS.len]
  have v7 : ((ρ.set 3 (some (.int a))).set 4 (some (.int c)))[7]? = some (some (.ref w)) := by simp [hS.v7]
  have v8 : ((ρ.set 3 (some (.int a))).set 4 (some (.int c)))[8]? = some (some (.ref p1)) := by simp [hS.v8]
  generalize (ρ.set 3 (some (.int a))).set 4 (some (.int c)) = ρ1 at l1 v3 v4 v7 v8 x2
  -- the union
  obtain ⟨pa, m3, qa, e3, g3, na, da, k3, _⟩ := mk_mult (n := n + 3) (fr := {}) (m := m2) (ρ := ρ1) (e := .var 3) (a := a) (fun m => by simp [v3]) P.a1 P.a2
  obtain ⟨pc, m4, qc, e4, g4, nc, dc, k4, _⟩ := mk_mult (n := n + 3) (fr := {}) (m := m3) (ρ := ρ1) (e := .var 4) (a := c) (fun m => by simp [v4]) P.c1 P.c2
  have hlcm : Nat.lcm qa.r qc.r ≤ 5000 := by
    have h := Nat.lcm_dvd (Nat.dvd_trans da (Nat.dvd_mul_right a c)) (Nat.dvd_trans dc (Nat.dvd_mul_left c a))
    have := Nat.le_of_dvd (Nat.mul_pos P.a1 P.c1) h
    have := P.le
    omega
  obtain ⟨p5, m5, q5, e5, g5, n5, k5, _, _⟩ := either_ok (n := n + 3) (fr := {}) (k4.get0 g3) g4 na nc hlcm
  have n5 : NL (mulB a c) q5 := n5.congr fun x _ => rfl
  have hq5 : q5 = nrm (mulB a c) 0 (a * c) := n5.uniq ⟨0, a * c, mul_per, Nat.mul_pos P.a1 P.c1, by omega, P.le, rfl⟩ fun _ _ => rfl
  obtain ⟨r5, s5, l5⟩ := mul_nrm P.a1 P.c1 P.n1 P.n2 P.g
  rw [← hq5] at r5 s5 l5
  have e5 : callN prog (n + 12) {} (.df ix_either) [.ref pa, .ref pc] m4 = .ok (.ref p5) m5 := e5
  have x3 : exe prog (callN prog (n + 12)) {} u3 ρ1 m2 = .nx (ρ1.set 5 (some (.ref p5))) m5 := by
    unfold u3
    rw [x_set, e_call, es_cons, e3, rb_ok, es_cons, e4]
    simp [e5, l1]
  have hT : Te (ρ1.set 5 (some (.ref p5))) w p1 p5 a c := ⟨by simp [l1], by simp [v3], by simp [v4], by simp [l1], by simp [v7], by simp [v8]⟩
  generalize ρ1.set 5 (some (.ref p5)) = ρ2 at hT x3
  have hm : binop .mul (.int a) (.int c) m5 = .ok (.int ((a * c : Nat) : Int)) m5 := by
    have := P.a2
    rw [b_mul, if_pos (.inl (by rw [Int.natAbs_natCast]; omega))]
    push_cast
    rfl
  have fr5 : field (.ref p5) (sOf "ring") m5 = some (.int ((a * c : Nat) : Int)) := by rw [f_ring g5, r5]
  have fs5 : field (.ref p5) (sOf "start") m5 = some (.int 0) := by
    rw [f_start g5, s5]
    rfl
  have hh := has_ok (n := n + 9) (fr := {}) g5 n5.lot.r1 (x := ((a * c : Nat) : Int)) (by omega)
  rw [n5.lot.has (by omega), mul_iff.mpr (.inl (Nat.dvd_mul_right a c))] at hh
  have x4 : exe prog (callN prog (n + 12)) {} u4 ρ2 m5 = .nx ρ2 m5 := by
    generalize ((a * c : Nat) : Int) = z at hm fr5 hh
    simp [u4, -b_mul, hT.v3, hT.v4, hT.v5, fr5, hm, is_i, hh, is_b, fs5]
  have hlen : (q5.R.length : Int) = (a : Int) + c - 1 := by omega
  have x5 : exe prog (callN prog (n + 12)) {} u5 ρ2 m5 = .nx ρ2 m5 := by
    simp [u5, hT.v3, hT.v4, hT.v5, f_rests g5, hlen]
  have kk := (k3.trans k4).trans k5
  obtain ⟨ρ3, m6, x6, hT3, k6⟩ := u6_ok (n := n) hT P g5 n5 r5 (kk.get0 (k12.get h1 (by simpa using hpb))) (kk.get0 (k12.get hw (by simpa using hwb)))
  have g6 := k6.get0 g5
  obtain ⟨pb, m7, q7, e7, g7, n7, k7, _, _⟩ := both_ok (n := n + 3) (fr := {}) g6 g6 n5 n5 (by rw [Nat.lcm_self, r5]; exact P.le)
  have e7 : callN prog (n + 12) {} (.df ix_both) [.ref p5, .ref p5] m6 = .ok (.ref pb) m7 := e7
  have e8 := cmp_eq_lots (n := n + 10) (fr := {}) g7 (k7.get0 g6)
  rw [decide_eq_true (n7.uniq n5 fun x _ => by cases mulB a c x <;> rfl)] at e8
  obtain ⟨pd, m8, qd, e9, g9, nd, dd, k9, _⟩ := mk_mult (n := n + 3) (fr := {}) (m := m7) (ρ := ρ3) (e := .var 3) (a := a) (fun m => by simp [hT3.v3]) P.a1 P.a2
  obtain ⟨d, m9, e10, n10, k10⟩ := beyond_ok (n := n + 7) (fr := {}) ((k7.trans k9).get0 g6) g9 n5 nd (by
    have h := Nat.lcm_dvd (Nat.dvd_refl q5.r) (Nat.dvd_trans dd (show a ∣ q5.r by rw [r5]; exact Nat.dvd_mul_right a c))
    have := Nat.le_of_dvd (by have := n5.lot.r1; omega) h
    have := P.le
    omega)
  have e10 : callN prog (n + 12) {} (.df ix_first_beyond) [.ref p5, .ref pd] m8 = .ok d m9 := e10
  have hma : ∀ x : Nat, multF a x = true ↔ a ∣ x := fun x => by
    unfold multF
    rw [decide_eq_true_eq, Nat.dvd_iff_mod_eq_zero]
    have e : (x : Int) % (a : Int) = ((x % a : Nat) : Int) := by
      push_cast
      rfl
    rw [e]
    omega
  have hd : d = .int c := nth_uniq n10 (.inl ⟨c, rfl, by
    have z1 : mulB a c c = true := mul_iff.mpr (.inr (Nat.dvd_refl c))
    have z2 : multF a c = false := by
      cases hz : multF a c with
      | false => rfl
      | true => exact absurd ((hma c).mp hz) P.n1
    simp [z1, z2], cnt_zero fun x hx => by
      cases hz : mulB a c x with
      | false => rfl
      | true =>
        rcases mul_iff.mp hz with y | y
        · simp [(hma x).mpr y]
        · have hx0 : x = 0 := Nat.eq_zero_of_dvd_of_lt y hx
          subst hx0
          rw [(hma 0).mpr (Nat.dvd_zero a)]
          simp⟩)
  subst hd
  have x7 : exe prog (callN prog (n + 12)) {} u7 ρ3 m6 = .nx ρ3 m9 := by
    have ex : ev prog (callN prog (n + 12)) {} (.call ix_first_beyond [.var 5, .mk cx_Numbers [.lst [], .cst (.int 0), .var 3, .lst [.cst (.int 0)]]]) ρ3 m7 = .ok (.int c) m9 := by
      rw [e_call, es_cons, e_var, hT3.v5]
      simp only [Option.join_some, opt_some, rb_ok]
      rw [es_cons, e9]
      simp only [rb_ok, es_nil, e10]
    have exE : ev prog (callN prog (n + 12)) {} (.cmp .eq (.call ix_both [.var 5, .var 5]) (.var 5)) ρ3 m6 = .ok (.bl true) m7 := by
      simp [e7, e8, hT3.v5]
    have exI : ev prog (callN prog (n + 12)) {} (.call ix__law_is [.call ix_first_beyond [.var 5, .mk cx_Numbers [.lst [], .cst (.int 0), .var 3, .lst [.cst (.int 0)]]], .var 4]) ρ3 m7 = .ok (.bl true) m9 := by
      rw [e_call, es_cons, ex]
      simp [hT3.v4, is_i]
    unfold u7
    rw [x_ife, e_or, e_cmp, exE]
    simp only [rb_ok, e_cst, cmpE_bool, c_isNB, isB, tr_bl, opt_some]
    rw [e_not, exI]
    simp
  obtain ⟨m10, x8⟩ := u8_ok (n := n) (m := m9) (ρ := ρ3)
  refine ⟨m10, ?_⟩
  rw [xs_cons, x2, seq_nx, xs_cons, x3, seq_nx, xs_cons, x4, seq_nx, xs_cons, x5, seq_nx, xs_cons, x6, seq_nx, xs_cons, x7, seq_nx, xs_cons, x8, seq_rt]
end
end K03

-- W03
set_option linter.all false
set_option Elab.async false
set_option maxRecDepth 10000
namespace K03
open Ms
open PySem (Str PyData)
theorem law_ok {n : Nat} {m : Mem} {p : Nat} {ns : List Int} (hn : ns.length ≤ 63) (h0 : m[p]? = some (.lst (ns.map .int)) ∨ m[p]? = some (.flst (ns.map .int))) : ∃ m', callN prog (n + 13) {} (.df ix_law) [.ref p] m = .ok (.bl true) m' := by
  rw [call_df at_law rfl, law_parts]
  obtain ⟨b, m1, e1, hb1⟩ := box_ok (n := n + 11) (fr := {}) hn p h0
  have es : exe prog (callN prog (n + 12)) {} u0 (startE d_law.ns [.ref p]) m = .nx [some (.ref p), some (.ref b), none, none, none, none, none, none, none, none, none, none, none, none, none, none, none, none, none, none, none] m1 := by
    show exe prog (callN prog (n + 12)) {} u0 [some (.ref p), none, none, none, none, none, none, none, none, none, none, none, none, none, none, none, none, none, none, none, none] m = _
    simp [u0, e1]
  have hloop : ∃ ρ' m', exe prog (callN prog (n + 12)) {} u1 [some (.ref p), some (.ref b), none, none, none, none, none, none, none, none, none, none, none, none, none, none, none, none, none, none, none] m1 = .nx ρ' m' ∧ ∃ (w p1 p2 p3 : Nat) (A B C : Rw), Sl ρ' b w p1 p2 p3 ∧ BoxAt m' b ∧ m'[w]? = some (.lst [A.d, B.d, C.d]) ∧ w ≠ b ∧ p1 ≠ b ∧ ∃ q, m'[p1]? = some (lotO q) ∧ NL A.f q := by
    refine for_run (m1 := m1) (I := fun i ρ m' => ρ.length = 21 ∧ ρ[1]? = some (some (.ref b)) ∧ BoxAt m' b ∧ (0 < i → ∃ (w p1 p2 p3 : Nat) (A B C : Rw), Sl ρ b w p1 p2 p3 ∧ BoxAt m' b ∧ m'[w]? = some (.lst [A.d, B.d, C.d]) ∧ w ≠ b ∧ p1 ≠ b ∧ ∃ q, m'[p1]? = some (lotO q) ∧ NL A.f q)) (xs := (List.range 4).map fun i : Nat => .int (0 + i)) (n := 4) (s := .fix (rngL 0 (0 + (4 : Nat)))) (ds := [.int 4])
      (Q := fun z => ∃ ρ' m', z = .nx ρ' m' ∧ ∃ (w p1 p2 p3 : Nat) (A B C : Rw), Sl ρ' b w p1 p2 p3 ∧ BoxAt m' b ∧ m'[w]? = some (.lst [A.d, B.d, C.d]) ∧ w ≠ b ∧ p1 ≠ b ∧ ∃ q, m'[p1]? = some (lotO q) ∧ NL A.f q) rfl (by simp) (by rw [Int.zero_add]; exact src_rng1 (small_of (by omega) (by omega))) (by simp) (fun i ρ m' _ _ => (wk_rng 0 4).2 m' .refl)
      ⟨rfl, rfl, hb1, fun z => absurd z (by omega)⟩ ?_ ?_
    · rintro i d ρ m2 hi ⟨hl, h1, hb2, _⟩
      obtain ⟨ρ', m3, w, p1, p2, p3, A, B, C, e3, hS, hb3, rest⟩ := round_ok (n := n) (fr := {}) (ρ := ρ.set 2 (some d)) (m := m2) (by simp [hl]) (by rw [List.getElem?_set_ne (by omega)]; exact h1) hb2
      exact ⟨_, by simp [bindT, hl], .inl ⟨ρ', m3, .inl e3, hS.len, hS.v1, hb3, fun _ => ⟨w, p1, p2, p3, A, B, C, hS, hb3, rest⟩⟩⟩
    · rintro ρ m2 ⟨hl, h1, hb2, h⟩
      exact ⟨ρ, m2, rfl, h (by omega)⟩
  obtain ⟨ρ1, m2, e2, w, p1, p2, p3, A, B, C, hS, hb2, hw, hwb, hpb, q, hq, _⟩ := hloop
  obtain ⟨m3, e3⟩ := end_ok (n := n) hS hb2 hw hwb hpb hq
  refine ⟨m3, ?_⟩
  rw [xs_cons, es, seq_nx, xs_cons, e2, seq_nx, e3, ret_rt]
end K03

-- H
set_option linter.all false
set_option Elab.async false
set_option maxRecDepth 100000
set_option maxHeartbeats 0
namespace K03
open Ms
def lvl : Nat := 60
theorem plain : ∀ ns : List Int, ns.length ≤ 63 → (∀ z ∈ ns, PySem.Builtin.Int.intBits z ≤ 1048576) → ∀ b : Bool, ∃ m, callN prog (lvl + 1) {} (.df 49) [.ref 0] [scrO b ns] = .ok (.bl true) m := fun ns hn _ b => by
  have h : [scrO b ns][0]? = some (.lst (ns.map .int)) ∨ [scrO b ns][0]? = some (.flst (ns.map .int)) := by
    cases b
    · exact .inl rfl
    · exact .inr rfl
  exact law_ok (n := 48) (p := 0) hn h
end K03
namespace K03
open PySem L2 Ms
def top (i : Nat) : Stmt := PySem.Challenge.pw_namedatlast_k03_whole_lots_together.main.body.getD i (.Pass ⟨0, 0, 0, 0⟩)
def dds : List Dd := ([⟨dF "is_integer" (top 6), ["value"]⟩, ⟨dF "is_number" (top 7), ["value"]⟩, ⟨dF "is_below" (top 8), ["value", "limit"]⟩, ⟨dF "is_between" (top 9), ["value", "least", "most"]⟩, ⟨dF "is_sequence" (top 10), ["value"]⟩, ⟨dF "are_unlike_below" (top 11), ["value", "limit", "part"]⟩] : List Dd) ++
  ([⟨dF "gcd_of" (top 12), ["one", "other"]⟩, ⟨dF "lcm_of" (top 13), ["one", "other"]⟩, ⟨dM "Numbers" "__init__" (inClass (top 18) 0), ["self", "firsts", "start", "ring", "rests", "told", "rest"]⟩, ⟨dM "Numbers" "__eq__" (inClass (top 18) 1), ["self", "other"]⟩, ⟨dF "key_of" (top 19), ["lot"]⟩, ⟨dF "least_ring" (top 20), ["ring", "lefts", "some", "less", "left"]⟩] : List Dd) ++
  ([⟨dF "normal" (top 21), ["firsts", "start", "ring", "lefts", "less", "some", "there", "begin", "rests", "first", "left"]⟩, ⟨dF "made_numbers" (top 22), ["firsts", "start", "ring", "rests", "made", "told", "rest"]⟩, ⟨dF "need_numbers" (top 23) [.int (-1)], ["value", "at"]⟩, ⟨dF "places_of" (top 24), ["bits", "many", "at"]⟩, ⟨dF "from_bits" (top 25), ["bits", "start", "ring", "places", "firsts", "place"]⟩, ⟨dF "holds" (top 26), ["lot", "number"]⟩] : List Dd) ++
  ([⟨dF "bits_of" (top 27), ["lot", "many", "bits", "turns", "one", "whole", "first", "rest", "turn"]⟩, ⟨dF "first_bit" (top 28), ["bits"]⟩, ⟨dF "has" (top 29), ["lot", "number"]⟩, ⟨dF "common_of" (top 30), ["one", "other"]⟩, ⟨dF "need_both" (top 31), ["one", "other", "start", "ring"]⟩, ⟨dF "both_told" (top 32), ["one", "other", "start", "ring"]⟩] : List Dd) ++
  ([⟨dF "less_told" (top 33), ["one", "other", "start", "ring"]⟩, ⟨dF "either_told" (top 34), ["one", "other", "start", "ring"]⟩, ⟨dF "both" (top 35), ["one", "other"]⟩, ⟨dF "either" (top 36), ["one", "other"]⟩, ⟨dF "less" (top 37), ["one", "other"]⟩, ⟨dF "others" (top 38), ["lot"]⟩] : List Dd) ++
  ([⟨dF "first_beyond" (top 39), ["one", "other", "start", "ring"]⟩, ⟨dF "is_within" (top 40), ["one", "other"]⟩, ⟨dF "first_unlike" (top 41), ["one", "other", "start", "ring"]⟩, ⟨dF "_law_box" (top 43), ["script", "rest", "state", "k", "cell", "size"]⟩, ⟨dF "_law_take" (top 44), ["box", "many", "cell"]⟩, ⟨dF "_law_pick" (top 45), ["box", "some"]⟩] : List Dd) ++
  ([⟨dF "_law_mixed" (top 46), ["box", "row", "left", "told", "turn", "at"]⟩, ⟨dF "_law_is" (top 47), ["told", "due", "one", "other"]⟩, ⟨dF "_law_all" (top 48), ["ask", "some", "due", "one"]⟩, ⟨dF "_law_due" (top 49), ["calls", "due", "call"]⟩, ⟨dF "_law_some" (top 50), ["box", "many", "share", "number"]⟩, ⟨dF "_law_raw" (top 51), ["box", "most", "rings", "start", "ring", "share"]⟩] : List Dd) ++
  ([⟨dF "_law_in" (top 52), ["raw", "number"]⟩, ⟨dF "_law_normal" (top 53), ["signs", "start", "ring", "far", "begin", "turn", "firsts", "step", "at"]⟩, ⟨dF "_law_lot" (top 54), ["box", "raw"]⟩, ⟨dF "_law_four" (top 55), ["lot"]⟩, ⟨dF "_law_error" (top 56), ["call", "e"]⟩, ⟨dF "_law_both_rings" (top 57), ["one", "other", "many"]⟩] : List Dd) ++
  ([⟨dF "_law_together" (top 58), ["one", "other", "way", "start", "ring", "signs", "number", "first", "second"]⟩, ⟨dF "law" (top 59), ["script", "box", "turn", "first", "second", "great", "ask", "raws", "one", "two", "three", "dues", "told", "due", "alone", "unlike", "spot", "raw", "way", "number", "bad"]⟩] : List Dd)
def gts : List (Str × Gv) := ([("is_integer", .df 0 1 []), ("is_number", .df 1 1 []), ("is_below", .df 2 2 []), ("is_between", .df 3 3 []), ("is_sequence", .df 4 1 []), ("are_unlike_below", .df 5 2 []), ("gcd_of", .df 6 2 []), ("lcm_of", .df 7 2 [])] : List (Str × Gv)) ++
  ([("key_of", .df 10 1 []), ("least_ring", .df 11 2 []), ("normal", .df 12 4 []), ("made_numbers", .df 13 4 []), ("need_numbers", .df 14 2 [.int (-1)]), ("places_of", .df 15 2 []), ("from_bits", .df 16 3 []), ("holds", .df 17 2 [])] : List (Str × Gv)) ++
  ([("bits_of", .df 18 2 []), ("first_bit", .df 19 1 []), ("has", .df 20 2 []), ("common_of", .df 21 2 []), ("need_both", .df 22 2 []), ("both_told", .df 23 2 []), ("less_told", .df 24 2 []), ("either_told", .df 25 2 [])] : List (Str × Gv)) ++
  ([("both", .df 26 2 []), ("either", .df 27 2 []), ("less", .df 28 2 []), ("others", .df 29 1 []), ("first_beyond", .df 30 2 []), ("is_within", .df 31 2 []), ("first_unlike", .df 32 2 []), ("_law_box", .df 33 1 [])] : List (Str × Gv)) ++
  ([("_law_take", .df 34 2 []), ("_law_pick", .df 35 2 []), ("_law_mixed", .df 36 2 []), ("_law_is", .df 37 2 []), ("_law_all", .df 38 3 []), ("_law_due", .df 39 2 []), ("_law_some", .df 40 3 []), ("_law_raw", .df 41 3 [])] : List (Str × Gv)) ++
  ([("_law_in", .df 42 2 []), ("_law_normal", .df 43 3 []), ("_law_lot", .df 44 2 []), ("_law_four", .df 45 1 []), ("_law_error", .df 46 1 []), ("_law_both_rings", .df 47 2 []), ("_law_together", .df 48 3 []), ("law", .df 49 1 [])] : List (Str × Gv)) ++
  ([("Numbers", .ct 0 4 []), ("LearnError", .ex 0 false false), ("InvalidCount", .ex 1 true false), ("InvalidNumbers", .ex 2 true false), ("InvalidSize", .ex 3 true true), ("MOST_START", .cst (.int 1000)), ("MOST_RING", .cst (.int 60)), ("MOST_RING_MADE", .cst (.int 5000))] : List (Str × Gv))
def lamN : List ((Nat × Nat) × Nat) := ([((184, 34), 0), ((274, 21), 1), ((268, 24), 2), ((270, 24), 3), ((266, 25), 4)] : List ((Nat × Nat) × Nat))
def clN : List Str := (["Numbers"] : List Str)
def exN : List Str := (["LearnError", "InvalidCount", "InvalidNumbers", "InvalidSize"] : List Str)
def loose : List Str := (["__name__", "LearnError", "InvalidCount", "InvalidNumbers", "InvalidSize", "is_integer", "is_number", "is_below", "is_between", "is_sequence"] : List Str) ++
  (["are_unlike_below", "gcd_of", "lcm_of", "MOST_START", "MOST_RING", "MOST_RING_MADE", "Numbers", "key_of", "least_ring", "normal"] : List Str) ++
  (["made_numbers", "need_numbers", "places_of", "from_bits", "holds", "bits_of", "first_bit", "has", "common_of", "need_both"] : List Str) ++
  (["both_told", "less_told", "either_told", "both", "either", "less", "others", "first_beyond", "is_within", "first_unlike"] : List Str) ++
  (["_law_box", "_law_take", "_law_pick", "_law_mixed", "_law_is", "_law_all", "_law_due", "_law_some", "_law_raw", "_law_in"] : List Str) ++
  (["_law_normal", "_law_lot", "_law_four", "_law_error", "_law_both_rings", "_law_together"] : List Str)
def SP : Sp3 := { defs := dds, cls := clN, exs := exN, gt := gts, lamN := lamN, P := prog, fuel := 300, tf := [38, 49], law := 49, lo := [0, 4, 2, 3, 1] }
def dlaw : Dd := ⟨dF "law" (top 59), ["script", "box", "turn", "first", "second", "great", "ask", "raws", "one", "two", "three", "dues", "told", "due", "alone", "unlike", "spot", "raw", "way", "number", "bad"]⟩
theorem txt_ok : txtV SP = wantV SP := by kernel_rfl
abbrev R : PySem.W.OpenRow := PySem.W.OpenLaw.row PySem.Challenge.rw_namedatlast_k03_whole_lots_together
def ob (s : PySem.W.SharedT) : AlY := obsY SP.toSp2 R.prog 6 (HandSHeadRun.getT s)
theorem run (w : World) : HandSHeadRun.RunEq R (PySem.W.view R.prog [59]) (hookY SP.toSp2 R.prog 6) ob 20000 loose w := by
  intro os
  kernel_rfl
end K03
open PySem PySem.W PySem.Calls PyProof.Rows
set_option maxRecDepth 100000 in
set_option maxHeartbeats 0 in
theorem PySem.Challenge.cw_namedatlast_k03_whole_lots_together_holds : PySem.Challenge.rw_namedatlast_k03_whole_lots_together.Holds := by
  w_on; o_law
  refine HandSHeadRun.head_any (r := OpenLaw.row PySem.Challenge.rw_namedatlast_k03_whole_lots_together) (q := view (OpenLaw.row PySem.Challenge.rw_namedatlast_k03_whole_lots_together).prog [59]) (H := Ms.hookY K03.SP.toSp2 (OpenLaw.row PySem.Challenge.rw_namedatlast_k03_whole_lots_together).prog 6) (ob := K03.ob) (M := 20000) (loose := K03.loose) (d := HandSHeadRun.topDef (OpenLaw.row PySem.Challenge.rw_namedatlast_k03_whole_lots_together).prog 59) (kwd := [])
    (fun s => Ms.obsY_eq (HandSHeadRun.getT_eq s)) (by kernel_rfl) (fun s => by kernel_rfl) K03.run (by kernel_rfl) (by kernel_rfl) (by kernel_rfl) (by rfl) (by first | assumption | decide +kernel) (by decide +kernel) ⟨rfl, rfl, rfl, rfl, rfl, by decide +kernel⟩ ?hw ?hc
  case hw => w_witness2
  case hc =>
    obtain ⟨rows, T⟩ := Ms.txt_of K03.txt_ok
    exact Ms.claim (l := PySem.Challenge.rw_namedatlast_k03_whole_lots_together) (S := K03.SP.toSp2) (nn := 6) (N := K03.lvl) (np := 1) (x := "script") (dl := K03.dlaw) rfl (by kernel_rfl) T (by kernel_rfl) (by kernel_rfl) (by kernel_rfl) (by kernel_rfl) ⟨rfl, by decide, by decide⟩ K03.plain
