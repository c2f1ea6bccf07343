import PyProof.Rows.All
import HandS.CallLocal
import HandS.CallSlots
import HandS.Conv
import HandS.Deep
import HandS.Defaults
import HandS.ForExc
import HandS.ForMost
import HandS.Head0
import HandS.Head1
import HandS.Head2
import HandS.HeadEnd
import HandS.HeadHook1
import HandS.HeadHook2
import HandS.HeadHook4
import HandS.IsInst
import HandS.SetFor
import HandS.Small
import HandS.SortInts
import HandS.SortRule
import HandS.Style
import HandS.TupAny
import HandS.TupMul
import HandS.Walk
import HandS.Zip
import KE.GoesMore
import KE.KDictList
import KE.KStateDown
import PySem.Challenge.RW_goodprices_k02_whole_assignments
import PySem.Str
set_option Elab.async false
set_option linter.all false
set_option maxRecDepth 100000
/-! text E0 -/
/-! G9.E0: a small language of expressions and statements, and what it computes: values without a heap, lists that change in cells of a store. -/
namespace G9
open PySem (Str)

/-- data without identity -/
inductive P where
  | non | bl (b : Bool) | int (i : Int) | str (x : Str) | tup (xs : List P) | lst (xs : List P)
/-- a value: data; a cell of the store; a def; the script; a tuple of which some item is no data -/
inductive D where
  | p (x : P) | ref (k : Nat) | fn (f : Nat) | scr (ns : List Int) | tp (xs : List D)
inductive Fl where
  | val (x : P) | own (xs : List P)
/-- a cell: nothing; a list; an object whose fields are data or lists of its own -/
inductive Cell where
  | nil
  | lst (xs : List P)
  | mat (rows : List (List P))
  | dct (ks : List (Int × Int))
  | obj (c : Nat) (fs : List (Str × Fl))
abbrev Store := List Cell
abbrev Env := List (Option D)
/-- how an evaluation ends -/
inductive R (α : Type) where
  | ok (a : α) (S : Store) | exc (c : Nat) (S : Store) | bad
def R.bind {α β : Type} (r : R α) (f : α → Store → R β) : R β := match r with
  | .ok a S => f a S
  | .exc c S => .exc c S
  | .bad => .bad
@[simp] theorem R.bind_ok {α β : Type} (a : α) (S : Store) (f : α → Store → R β) : (R.ok a S).bind f = f a S := rfl
@[simp] theorem R.bind_exc {α β : Type} (c : Nat) (S : Store) (f : α → Store → R β) : (R.exc c S : R α).bind f = .exc c S := rfl
@[simp] theorem R.bind_bad {α β : Type} (f : α → Store → R β) : (R.bad : R α).bind f = .bad := rfl

/-- the greatest length -/
def LIM : Nat := 16777216

/-! ### == -/
mutual
def eqP : P → P → Bool
  | .non, .non => true
  | .bl a, .bl b => a == b
  | .bl a, .int j => (if a then 1 else 0) == j
  | .int i, .bl b => i == (if b then 1 else 0)
  | .int i, .int j => i == j
  | .str x, .str y => x == y
  | .lst xs, .lst ys => eqPs xs ys
  | .tup xs, .tup ys => eqPs xs ys
  | _, _ => false
def eqPs : List P → List P → Bool
  | [], [] => true
  | x :: xs, y :: ys => eqP x y && eqPs xs ys
  | _, _ => false
end
/-- a text of plain signs -/
def okS (x : Str) : Bool := x.cps.toList.all fun c => decide (c < 128)
/-- nested at most n deep, plain texts -/
def shp : Nat → P → Bool
  | _, .non => true
  | _, .bl _ => true
  | _, .int _ => true
  | _, .str x => okS x
  | n + 1, .tup xs => xs.all (shp n)
  | n + 1, .lst xs => xs.all (shp n)
  | 0, .tup _ => false
  | 0, .lst _ => false

/-- as data -/
def view (S : Store) : D → Option P
  | .p x => some x
  | .ref k => match S[k]? with
    | some (.lst xs) => some (.lst xs)
    | _ => none
  | .scr ns => some (.lst (ns.map .int))
  | _ => none
/-- .. but the script -/
def view0 (S : Store) : D → Option P
  | .scr _ => none
  | d => view S d
/-- the items of a list or tuple -/
def items (S : Store) : D → Option (List D)
  | .p (.tup xs) => some (xs.map .p)
  | .p (.lst xs) => some (xs.map .p)
  | .ref k => match S[k]? with
    | some (.lst xs) => some (xs.map .p)
    | _ => none
  | .scr ns => some (ns.map fun n => .p (.int n))
  | .tp xs => some xs
  | _ => none
def allP : List D → Option (List P)
  | [] => some []
  | .p x :: r => (allP r).map (x :: ·)
  | _ :: _ => none
/-- a tuple of values -/
def mkTup (ds : List D) : D := match allP ds with
  | some xs => .p (.tup xs)
  | none => .tp ds
def allInt : List P → Option (List Int)
  | [] => some []
  | .int i :: r => (allInt r).map (i :: ·)
  | _ :: _ => none
def allBl : List P → Option (List Bool)
  | [] => some []
  | .bl i :: r => (allBl r).map (i :: ·)
  | _ :: _ => none
def lstOf : P → Option (List P)
  | .lst xs => some xs
  | _ => none
def seqOf : P → Option (List P)
  | .lst xs => some xs
  | .tup xs => some xs
  | _ => none

/-! ### operators -/
inductive Op where
  | add | sub | mul | fdiv | mod | pow
  deriving DecidableEq
def okMul (i j : Int) : Bool := (decide (-18446744073709551616 < i) && decide (i < 18446744073709551616)) || (decide (-18446744073709551616 < j) && decide (j < 18446744073709551616))
def binI (op : Op) (i j : Int) : Option Int := match op with
  | .add => some (i + j)
  | .sub => some (i - j)
  | .mul => if okMul i j then some (i * j) else none
  | .fdiv => if 0 < j ∧ j < 1073741824 then some (i / j) else none
  | .mod => if 0 < j then some (i % j) else none
  | .pow => if 0 ≤ j ∧ j ≤ 1000000 ∧ i.natAbs < 18446744073709551616 then some (i ^ j.toNat) else none
/-- repeated -/
def rep {α : Type} (xs : List α) : Nat → List α
  | 0 => []
  | n + 1 => xs ++ rep xs n
/-- a text repeated -/
def repS (x : Str) (n : Nat) : Str := ⟨(List.replicate n x.cps).foldl (· ++ ·) #[]⟩
def bin (S : Store) (op : Op) (a b : D) : R D := match view0 S a, view0 S b with
  | some (.int i), some (.int j) => match binI op i j with
    | some k => .ok (.p (.int k)) S
    | none => .bad
  | some (.tup xs), some (.tup ys) => if op = .add ∧ xs.length + ys.length ≤ LIM then .ok (.p (.tup (xs ++ ys))) S else .bad
  | some (.lst xs), some (.lst ys) => if op = .add ∧ xs.length + ys.length ≤ LIM then .ok (.p (.lst (xs ++ ys))) S else .bad
  | some (.str x), some (.str y) => if op = .add ∧ x.length + y.length ≤ LIM then .ok (.p (.str (x ++ y))) S else .bad
  | some (.tup xs), some (.int k) => if op = .mul ∧ 1 ≤ k ∧ k ≤ 1000 ∧ xs.length ≤ 1000 ∧ xs ≠ [] then .ok (.p (.tup (rep xs k.toNat))) S else .bad
  | some (.lst xs), some (.int k) => if op = .mul ∧ 0 ≤ k ∧ k ≤ 1000 ∧ xs.length ≤ 1000 then .ok (.p (.lst (rep xs k.toNat))) S else .bad
  | some (.str x), some (.int k) => if op = .mul ∧ 1 ≤ k ∧ k ≤ 1000 ∧ x.length ≤ 1000 then .ok (.p (.str (repS x k.toNat))) S else .bad
  | _, _ => .bad

inductive Cm where
  | lt | le | gt | ge | eq | ne | is | isnot | in_ | notin
  deriving DecidableEq
def cmI (c : Cm) (i j : Int) : Option Bool := match c with
  | .lt => some (decide (i < j))
  | .le => some (decide (i ≤ j))
  | .gt => some (decide (j < i))
  | .ge => some (decide (j ≤ i))
  | _ => none
def isP : P → P → Option Bool
  | .non, .non => some true
  | .bl _, .non => some false
  | .int _, .non => some false
  | .str _, .non => some false
  | .tup _, .non => some false
  | .lst _, .non => some false
  | .bl a, .bl b => some (decide (a = b))
  | _, _ => none
def inP (x : P) (xs : List P) : Bool := xs.any fun z => eqP z x
def cmp (S : Store) (c : Cm) (a b : D) : Option Bool := match view S a, view S b with
  | some x, some y => match c with
    | .eq => if shp 9 x && shp 9 y then some (eqP x y) else none
    | .ne => if shp 9 x && shp 9 y then some (!eqP x y) else none
    | .is => isP x y
    | .isnot => (isP x y).map (!·)
    | .in_ => match seqOf y with
      | some ys => if shp 9 x && shp 9 y then some (inP x ys) else none
      | none => none
    | .notin => match seqOf y with
      | some ys => if shp 9 x && shp 9 y then some (!inP x ys) else none
      | none => none
    | c => match x, y with
      | .int i, .int j => cmI c i j
      | _, _ => none
  | _, _ => none

/-! ### places and slices -/
def ix (n : Nat) (i : Int) : Option Nat := if 0 ≤ i then (if i < n then some i.toNat else none) else if -(n : Int) ≤ i then some (i + n).toNat else none
def getAt {α : Type} (xs : List α) (i : Int) : Option α := (ix xs.length i).bind fun j => xs[j]?
/-- a slice's end as a place -/
def sIx (n : Nat) (d : Nat) : Option Int → Nat
  | none => d
  | some i => if i < 0 then (i + n).toNat else min i.toNat n
def cut {α : Type} (xs : List α) (lo hi : Option Int) : List α := (xs.drop (sIx xs.length 0 lo)).take (sIx xs.length xs.length hi - sIx xs.length 0 lo)

/-! ### built-in functions of one argument -/
inductive Bi where
  | len | sum | max | min | all | any | sorted | tuple | list | int | lenset | rev
  deriving DecidableEq
def maxI : List Int → Option Int
  | [] => none
  | x :: r => some (r.foldl max x)
def minI : List Int → Option Int
  | [] => none
  | x :: r => some (r.foldl min x)
mutual
/-- in order: ints by size, tuples from the left -/
def ltP : P → P → Bool
  | .int i, .int j => decide (i < j)
  | .tup xs, .tup ys => ltPs xs ys
  | _, _ => false
def ltPs : List P → List P → Bool
  | [], [] => false
  | [], _ :: _ => true
  | _ :: _, [] => false
  | x :: xs, y :: ys => if eqP x y then ltPs xs ys else ltP x y
end
def ins (x : P) : List P → List P
  | [] => [x]
  | y :: r => if ltP y x then y :: ins x r else x :: y :: r
def sortP : List P → List P
  | [] => []
  | x :: r => ins x (sortP r)
/-- what may be sorted here: ints alone; pairs of ints; pairs of an int and a tuple of ints -/
def kindI : P → Bool
  | .int _ => true
  | _ => false
def kindT : P → Bool
  | .tup [.int _, .int _] => true
  | _ => false
def kindN : P → Bool
  | .tup [.int _, .tup xs] => xs.all kindI
  | _ => false
def dedup : List Int → List Int
  | [] => []
  | x :: r => if x ∈ r then dedup r else x :: dedup r
def bi (S : Store) (b : Bi) (a : D) : R D := match view S a with
  | none => .bad
  | some x => match b with
    | .len => match x with
      | .tup xs => .ok (.p (.int xs.length)) S
      | .lst xs => .ok (.p (.int xs.length)) S
      | .str z => if z.length ≤ LIM then .ok (.p (.int z.length)) S else .bad
      | _ => .bad
    | .sum => match (seqOf x).bind allInt with
      | some ns => .ok (.p (.int ns.sum)) S
      | none => .bad
    | .max => match ((seqOf x).bind allInt).bind maxI with
      | some m => .ok (.p (.int m)) S
      | none => .bad
    | .min => match ((seqOf x).bind allInt).bind minI with
      | some m => .ok (.p (.int m)) S
      | none => .bad
    | .all => match (lstOf x).bind allBl with
      | some bs => .ok (.p (.bl (bs.all id))) S
      | none => .bad
    | .any => match (lstOf x).bind allBl with
      | some bs => .ok (.p (.bl (bs.any id))) S
      | none => .bad
    | .tuple => match seqOf x with
      | some xs => .ok (.p (.tup xs)) S
      | none => .bad
    | .list => match seqOf x with
      | some xs => .ok (.p (.lst xs)) S
      | none => .bad
    | .int => match x with
      | .int i => .ok (.p (.int i)) S
      | .bl c => .ok (.p (.int (if c then 1 else 0))) S
      | _ => .bad
    | .lenset => match (seqOf x).bind allInt with
      | some ns => if ns.length ≤ 60 then .ok (.p (.int (dedup ns).length)) S else .bad
      | none => .bad
    | .rev => match x with
      | .lst xs => .ok (.p (.lst xs.reverse)) S
      | _ => .bad
    | .sorted => match x with
      | .lst xs => if xs.length < 64 ∧ (xs.all kindI || xs.all kindT || xs.all kindN) = true then .ok (.p (.lst (sortP xs))) S else .bad
      | _ => .bad

/-- isinstance(x, T) -/
inductive Ty where
  | int | bool | tuple | str | list | dict
  deriving DecidableEq
def isTy : P → Ty → Bool
  | .non, _ => false
  | .bl _, t => t == .bool || t == .int
  | .int _, t => t == .int
  | .str _, t => t == .str
  | .tup _, t => t == .tuple
  | .lst _, t => t == .list

/-! ### the language -/
mutual
inductive E where
  | v (i : Nat) (x : Str)
  | int (i : Int) | bl (b : Bool) | non | str (x : Str)
  | g (x : Str) (i : Int)
  | gf (x : Str) (f : Nat)
  | bin (op : Op) (a b : E)
  | cmp (c : Cm) (a b : E)
  | chain (c c' : Cm) (a b d : E)
  | and (a b : E) | or (a b : E) | not (a : E) | neg (a : E)
  | ite (t a b : E)
  | call (x : Str) (f : Nat) (as : List E)
  | callv (i : Nat) (x : Str) (as : List E)
  | bi (b : Bi) (a : E)
  | max2 (a b : E) | min2 (a b : E)
  | isin (a : E) (t : Ty)
  | idx (a i : E)
  | sl (a : E) (lo hi : Option E)
  | tup (es : List E) | lst (es : List E)
  | lc (own : List (Str × Nat)) (tg : Tg) (it : It) (cond : Option E) (elt : E)
  | pop (a : E)
  | index (a b : E)
  | lrng (tup : Bool) (a : Option E) (b : E)
  /-- a[i][j] of a list of lists that changes -/
  | idx2 (a i j : E)
  /-- sorted(d), d a dict of pairs -/
  | keys (a : E)
inductive Tg where
  | nm (i : Nat) (x : Str)
  | tp (xs : List (Nat × Str))
inductive It where
  | seq (e : E)
  | rng (a : Option E) (b : E)
  | zip (a b : E)
  | enum (e : E)
end
inductive Sm where
  | asg (tg : Tg) (e : E)
  /-- a new list, to be changed in the frame's cell j -/
  | new (i : Nat) (x : Str) (j : Nat) (e : E)
  /-- a list that was changed, from now on still -/
  | fz (i : Nat) (x : Str) (e : E)
  /-- a, b = .., .. -/
  | par (xs : List (Nat × Str)) (es : List E)
  /-- a, b = .., a new list -/
  | parN (i : Nat) (x : Str) (i' : Nat) (x' : Str) (j : Nat) (a b : E)
  | setix (o i e : E)
  | setix2 (o i j e : E)
  /-- a new list of new lists -/
  | newm (i : Nat) (x : Str) (j : Nat) (e : E)
  /-- {} -/
  | newd (i : Nat) (x : Str) (j : Nat)
  /-- o[e] = True -/
  | setk (o e : E)
  | app (o e : E)
  | ext (o e : E)
  | expr (e : E)
  | aug (i : Nat) (x : Str) (op : Op) (e : E)
  | ret (e : E)
  | iff (t : E) (a b : List Sm)
  | for_ (tg : Tg) (it : It) (body : List Sm)
  | whil (n : Nat) (t : E) (body : List Sm)
  | raise (c : Nat) (x : Str) (m : Str)
abbrev FS := Nat → List D → Store → R D

/-- a target takes a value -/
def setAll : List (Nat × Str) → List D → Env → Option Env
  | [], [], ρ => some ρ
  | (i, _) :: r, d :: ds, ρ => setAll r ds (ρ.set i (some d))
  | _, _, _ => none
def bindT (tg : Tg) (d : D) (ρ : Env) : Option Env := match tg with
  | .nm i _ => some (ρ.set i (some d))
  | .tp xs => match d with
    | .p (.tup ys) => setAll xs (ys.map .p) ρ
    | .tp ys => setAll xs ys ρ
    | _ => none
def wipeE (ρ : Env) : List (Str × Nat) → Env
  | [] => ρ
  | v :: vs => (wipeE ρ vs).set v.2 none
def enumFrom (n : Nat) : List D → List D
  | [] => []
  | d :: r => mkTup [.p (.int n), d] :: enumFrom (n + 1) r
def zipD : List D → List D → List D
  | x :: xs, y :: ys => mkTup [x, y] :: zipD xs ys
  | _, _ => []
def rangeL (lo : Int) : Nat → List D
  | 0 => []
  | n + 1 => .p (.int lo) :: rangeL (lo + 1) n
mutual
/-- the very same data -/
def beqP : P → P → Bool
  | .non, .non => true
  | .bl a, .bl b => a == b
  | .int i, .int j => i == j
  | .str x, .str y => x == y
  | .lst xs, .lst ys => beqPs xs ys
  | .tup xs, .tup ys => beqPs xs ys
  | _, _ => false
def beqPs : List P → List P → Bool
  | [], [] => true
  | x :: xs, y :: ys => beqP x y && beqPs xs ys
  | _, _ => false
end
/-- the walked cell stands as it stood -/
def still (lk : Option Nat) (S S' : Store) : Bool := match lk with
  | none => true
  | some k => match S[k]?, S'[k]? with
    | some (.lst xs), some (.lst ys) => beqPs xs ys
    | _, _ => false
/-- nothing is raised -/
def R.calm {α : Type} : R α → R α
  | .ok a S => .ok a S
  | _ => .bad
/-- the turns of a comprehension: f tells what a turn gives -/
def comp (lk : Option Nat) (f : D → Store → R (Option P)) : List D → Store → R (List P)
  | [], S => .ok [] S
  | d :: r, S => (f d S).calm.bind fun o S1 => if still lk S S1 then (comp lk f r S1).bind fun ps S2 => .ok (match o with
    | some x => x :: ps
    | none => ps) S2 else .bad
def pairP (q : Int × Int) : P := .tup [.int q.1, .int q.2]
def allLst : List P → Option (List (List P))
  | [] => some []
  | .lst x :: r => (allLst r).map (x :: ·)
  | _ :: _ => none
/-- into a dict that keeps its order -/
def putD (ks : List (Int × Int)) (q : Int × Int) : List (Int × Int) := if ks.any (fun k => decide (k = q)) then ks else ks ++ [q]
def okRng (i : Int) : Bool := decide (-1000000 ≤ i) && decide (i ≤ 1000000)
/-- range(x, y), range(y) -/
def rngOf (x : Option Int) (y : D) : Option (List D) := match y with
  | .p (.int j) => if okRng (x.getD 0) && okRng j then some (rangeL (x.getD 0) (j - x.getD 0).toNat) else none
  | _ => none

/-- a list of lists, and a place in it -/
def isM (S : Store) (x y : D) : Bool := match x, y with
  | .ref k, .p (.int p) => (match S[k]? with
    | some (.mat rows) => (ix rows.length p).isSome
    | _ => false)
  | _, _ => false
def getM (S : Store) (x y z : D) : Option P := match x, y, z with
  | .ref k, .p (.int p), .p (.int q) => (match S[k]? with
    | some (.mat rows) => (getAt rows p).bind fun r => getAt r q
    | _ => none)
  | _, _, _ => none
def setM (S : Store) (x y z : D) (v : P) : Option Store := match x, y, z with
  | .ref k, .p (.int p), .p (.int q) => (match S[k]? with
    | some (.mat rows) => match ix rows.length p with
      | some i => (match rows[i]? with
        | some r => (match ix r.length q with
          | some j => some (S.set k (.mat (rows.set i (r.set j v))))
          | none => none)
        | none => none)
      | none => none
    | _ => none)
  | _, _, _ => none
mutual
def evE (F : FS) : E → Env → Store → R D
  | .v i _, ρ, S => match ρ[i]? with
    | some (some d) => .ok d S
    | _ => .bad
  | .int i, _, S => .ok (.p (.int i)) S
  | .bl b, _, S => .ok (.p (.bl b)) S
  | .non, _, S => .ok (.p .non) S
  | .str x, _, S => .ok (.p (.str x)) S
  | .g _ i, _, S => .ok (.p (.int i)) S
  | .gf _ f, _, S => .ok (.fn f) S
  | .bin op a b, ρ, S => (evE F a ρ S).bind fun x S1 => (evE F b ρ S1).bind fun y S2 => bin S2 op x y
  | .cmp c a b, ρ, S => (evE F a ρ S).bind fun x S1 => (evE F b ρ S1).bind fun y S2 => match cmp S2 c x y with
    | some r => .ok (.p (.bl r)) S2
    | none => .bad
  | .chain c c' a b d, ρ, S => (evE F a ρ S).bind fun x S1 => (evE F b ρ S1).bind fun y S2 => match cmp S2 c x y with
    | some true => (evE F d ρ S2).bind fun z S3 => match cmp S3 c' y z with
      | some r => .ok (.p (.bl r)) S3
      | none => .bad
    | some false => .ok (.p (.bl false)) S2
    | none => .bad
  | .and a b, ρ, S => (evE F a ρ S).bind fun x S1 => match x with
    | .p (.bl true) => evE F b ρ S1
    | .p (.bl false) => .ok (.p (.bl false)) S1
    | _ => .bad
  | .or a b, ρ, S => (evE F a ρ S).bind fun x S1 => match x with
    | .p (.bl true) => .ok (.p (.bl true)) S1
    | .p (.bl false) => evE F b ρ S1
    | _ => .bad
  | .not a, ρ, S => (evE F a ρ S).bind fun x S1 => match x with
    | .p (.bl b) => .ok (.p (.bl (!b))) S1
    | _ => .bad
  | .neg a, ρ, S => (evE F a ρ S).bind fun x S1 => match x with
    | .p (.int i) => .ok (.p (.int (-i))) S1
    | _ => .bad
  | .ite t a b, ρ, S => (evE F t ρ S).bind fun x S1 => match x with
    | .p (.bl true) => evE F a ρ S1
    | .p (.bl false) => evE F b ρ S1
    | _ => .bad
  | .call _ f as, ρ, S => (evEs F as ρ S).bind fun ds S1 => F f ds S1
  | .callv i _ as, ρ, S => match ρ[i]? with
    | some (some (.fn f)) => (evEs F as ρ S).bind fun ds S1 => F f ds S1
    | _ => .bad
  | .bi b a, ρ, S => (evE F a ρ S).bind fun x S1 => bi S1 b x
  | .max2 a b, ρ, S => (evE F a ρ S).bind fun x S1 => (evE F b ρ S1).bind fun y S2 => match x, y with
    | .p (.int i), .p (.int j) => .ok (.p (.int (if j > i then j else i))) S2
    | _, _ => .bad
  | .min2 a b, ρ, S => (evE F a ρ S).bind fun x S1 => (evE F b ρ S1).bind fun y S2 => match x, y with
    | .p (.int i), .p (.int j) => .ok (.p (.int (if j < i then j else i))) S2
    | _, _ => .bad
  | .isin a t, ρ, S => (evE F a ρ S).bind fun x S1 => match view S1 x with
    | some y => .ok (.p (.bl (isTy y t))) S1
    | none => .bad
  | .idx a i, ρ, S => (evE F a ρ S).bind fun x S1 => (evE F i ρ S1).bind fun y S2 => match items S2 x, y with
    | some xs, .p (.int k) => match getAt xs k with
      | some d => .ok d S2
      | none => .bad
    | _, _ => .bad
  | .sl a lo hi, ρ, S => (evE F a ρ S).bind fun x S1 => (evO F lo ρ S1).bind fun l S2 => (evO F hi ρ S2).bind fun h S3 => match view S3 x with
    | some (.tup xs) => .ok (.p (.tup (cut xs l h))) S3
    | some (.lst xs) => .ok (.p (.lst (cut xs l h))) S3
    | _ => .bad
  | .tup es, ρ, S => (evEs F es ρ S).bind fun ds S1 => if ds.length ≤ LIM then .ok (mkTup ds) S1 else .bad
  | .lst es, ρ, S => (evEs F es ρ S).bind fun ds S1 => match allP ds with
    | some xs => if xs.length ≤ LIM then .ok (.p (.lst xs)) S1 else .bad
    | none => .bad
  | .lc own tg it cond elt, ρ, S => (evI F it ρ S).bind fun w S1 => (comp w.1 (fun d S => match bindT tg d (wipeE ρ own) with
      | none => .bad
      | some ρ1 => match cond with
        | none => (evE F elt ρ1 S).bind fun y S2 => match y with
          | .p x => .ok (some x) S2
          | _ => .bad
        | some c => (evE F c ρ1 S).bind fun b S2 => match b with
          | .p (.bl true) => (evE F elt ρ1 S2).bind fun y S3 => match y with
            | .p x => .ok (some x) S3
            | _ => .bad
          | .p (.bl false) => .ok none S2
          | _ => .bad) w.2 S1).bind fun ps S2 => if ps.length ≤ LIM then .ok (.p (.lst ps)) S2 else .bad
  | .pop a, ρ, S => (evE F a ρ S).bind fun x S1 => match x with
    | .ref k => match S1[k]? with
      | some (.lst xs) => match xs.getLast? with
        | some y => .ok (.p y) (S1.set k (.lst xs.dropLast))
        | none => .bad
      | _ => .bad
    | _ => .bad
  | .index a b, ρ, S => (evE F a ρ S).bind fun x S1 => (evE F b ρ S1).bind fun y S2 => match (view S2 x).bind seqOf, view S2 y with
    | some xs, some z => if xs.all (shp 9) && shp 9 z then (match xs.findIdx? (fun w => eqP w z) with
      | some j => .ok (.p (.int j)) S2
      | none => .bad) else .bad
    | _, _ => .bad
  | .lrng tup a b, ρ, S => (evO F a ρ S).bind fun x S1 => (evE F b ρ S1).bind fun y S2 => match rngOf x y with
    | some ds => match allP ds with
      | some xs => .ok (.p (if tup then .tup xs else .lst xs)) S2
      | none => .bad
    | none => .bad
  | .idx2 a i j, ρ, S => (evE F a ρ S).bind fun x S1 => (evE F i ρ S1).bind fun y S2 => if isM S2 x y then (evE F j ρ S2).bind fun z S3 => match getM S3 x y z with
    | some v => .ok (.p v) S3
    | none => .bad else .bad
  | .keys a, ρ, S => (evE F a ρ S).bind fun x S1 => match x with
    | .ref k => match S1[k]? with
      | some (.dct ks) => if ks.length < 64 then .ok (.p (.lst (sortP (ks.map pairP)))) S1 else .bad
      | _ => .bad
    | _ => .bad
def evO (F : FS) : Option E → Env → Store → R (Option Int)
  | none, _, S => .ok none S
  | some e, ρ, S => (evE F e ρ S).bind fun x S1 => match x with
    | .p (.int i) => .ok (some i) S1
    | _ => .bad
def evEs (F : FS) : List E → Env → Store → R (List D)
  | [], _, S => .ok [] S
  | e :: es, ρ, S => (evE F e ρ S).bind fun x S1 => (evEs F es ρ S1).bind fun xs S2 => .ok (x :: xs) S2
def evI (F : FS) : It → Env → Store → R (Option Nat × List D)
  | .seq e, ρ, S => (evE F e ρ S).bind fun x S1 => match items S1 x with
    | some xs => .ok (match x with
      | .ref k => (some k, xs)
      | _ => (none, xs)) S1
    | none => .bad
  | .rng a b, ρ, S => (evO F a ρ S).bind fun x S1 => (evE F b ρ S1).bind fun y S2 => match rngOf x y with
    | some ds => .ok (none, ds) S2
    | none => .bad
  | .zip a b, ρ, S => (evE F a ρ S).bind fun x S1 => (evE F b ρ S1).bind fun y S2 => match x, y with
    | .p (.tup xs), .p (.tup ys) => .ok (none, zipD (xs.map .p) (ys.map .p)) S2
    | _, _ => .bad
  | .enum e, ρ, S => (evE F e ρ S).bind fun x S1 => match x with
    | .p (.tup xs) => .ok (none, enumFrom 0 (xs.map .p)) S1
    | .p (.lst xs) => .ok (none, enumFrom 0 (xs.map .p)) S1
    | .tp xs => .ok (none, enumFrom 0 xs) S1
    | _ => .bad
end

/-! ### statements -/
inductive SR where
  | nx (ρ : Env) (S : Store) | rt (d : D) (S : Store) | ex (c : Nat) (S : Store) | bad
def SR.bind (r : SR) (f : Env → Store → SR) : SR := match r with
  | .nx ρ S => f ρ S
  | r => r
@[simp] theorem SR.bind_nx (ρ : Env) (S : Store) (f : Env → Store → SR) : (SR.nx ρ S).bind f = f ρ S := rfl
@[simp] theorem SR.bind_rt (d : D) (S : Store) (f : Env → Store → SR) : (SR.rt d S).bind f = .rt d S := rfl
@[simp] theorem SR.bind_ex (c : Nat) (S : Store) (f : Env → Store → SR) : (SR.ex c S).bind f = .ex c S := rfl
@[simp] theorem SR.bind_bad (f : Env → Store → SR) : SR.bad.bind f = .bad := rfl
def R.then {α : Type} (r : R α) (f : α → Store → SR) : SR := match r with
  | .ok a S => f a S
  | .exc c S => .ex c S
  | .bad => .bad
@[simp] theorem R.then_ok {α : Type} (a : α) (S : Store) (f : α → Store → SR) : (R.ok a S).then f = f a S := rfl
@[simp] theorem R.then_exc {α : Type} (c : Nat) (S : Store) (f : α → Store → SR) : (R.exc c S : R α).then f = .ex c S := rfl
@[simp] theorem R.then_bad {α : Type} (f : α → Store → SR) : (R.bad : R α).then f = .bad := rfl
/-- the names that hold the cell k hold nothing any more -/
def killR (k : Nat) (ρ : Env) : Env := ρ.map fun
  | some (.ref j) => if j = k then none else some (.ref j)
  | some (.tp _) => none
  | o => o
/-- a cell with a list -/
def isL (S : Store) : D → Bool
  | .ref k => match S[k]? with
    | some (.lst _) => true
    | _ => false
  | _ => false
def isPD : D → Bool
  | .p _ => true
  | _ => false
/-- the turns of a for -/
def loop (tg : Tg) (f : Env → Store → SR) : List P → Env → Store → SR
  | [], ρ, S => .nx ρ S
  | d :: r, ρ, S => match bindT tg (.p d) ρ with
    | none => .bad
    | some ρ1 => (f ρ1 S).bind fun ρ2 S2 => loop tg f r ρ2 S2
/-- .. of a while, n at most -/
def wloop (t : Env → Store → R D) (f : Env → Store → SR) : Nat → Env → Store → SR
  | 0, _, _ => .bad
  | n + 1, ρ, S => (t ρ S).then fun x S1 => match x with
    | .p (.bl true) => (f ρ S1).bind fun ρ2 S2 => wloop t f n ρ2 S2
    | .p (.bl false) => .nx ρ S1
    | _ => .bad
mutual
def evS (F : FS) (n : Nat) : Sm → Env → Store → SR
  | .asg tg e, ρ, S => (evE F e ρ S).then fun d S1 => match bindT tg d ρ with
    | some ρ1 => .nx ρ1 S1
    | none => .bad
  | .new i _ j e, ρ, S => (evE F e ρ S).then fun d S1 => match d with
    | .p (.lst xs) => if n + j < S1.length then .nx ((killR (n + j) ρ).set i (some (.ref (n + j)))) (S1.set (n + j) (.lst xs)) else .bad
    | _ => .bad
  | .fz i _ e, ρ, S => (evE F e ρ S).then fun d S1 => match d with
    | .ref k => if n ≤ k then (match S1[k]? with
      | some (.lst xs) => .nx ((killR k ρ).set i (some (.p (.lst xs)))) (S1.set k .nil)
      | _ => .bad) else .bad
    | _ => .bad
  | .par xs es, ρ, S => (evEs F es ρ S).then fun ds S1 => match setAll xs ds ρ with
    | some ρ1 => .nx ρ1 S1
    | none => .bad
  | .parN i x i' x' j a b, ρ, S => (evE F a ρ S).then fun d S1 => (evE F b ρ S1).then fun d' S2 => match d' with
    | .p (.lst xs) => if n + j < S2.length ∧ isPD d then .nx (((killR (n + j) ρ).set i (some d)).set i' (some (.ref (n + j)))) (S2.set (n + j) (.lst xs)) else .bad
    | _ => .bad
  | .setix o i e, ρ, S => (evE F e ρ S).then fun x S1 => (evE F o ρ S1).then fun d S2 => (evE F i ρ S2).then fun y S3 => match d, y, x with
    | .ref k, .p (.int q), .p z => match S3[k]? with
      | some (.lst xs) => match ix xs.length q with
        | some j => .nx ρ (S3.set k (.lst (xs.set j z)))
        | none => .bad
      | _ => .bad
    | _, _, _ => .bad
  | .setix2 o i j e, ρ, S => (evE F e ρ S).then fun v S0 => (evE F o ρ S0).then fun x S1 => (evE F i ρ S1).then fun y S2 => if isM S2 x y then (evE F j ρ S2).then fun z S3 => match v with
    | .p v => (match setM S3 x y z v with
      | some S' => .nx ρ S'
      | none => .bad)
    | _ => .bad else .bad
  | .newm i _ j e, ρ, S => (evE F e ρ S).then fun d S1 => match d with
    | .p (.lst xs) => (match allLst xs with
      | some rows => if n + j < S1.length then .nx ((killR (n + j) ρ).set i (some (.ref (n + j)))) (S1.set (n + j) (.mat rows)) else .bad
      | none => .bad)
    | _ => .bad
  | .newd i _ j, ρ, S => if n + j < S.length then .nx ((killR (n + j) ρ).set i (some (.ref (n + j)))) (S.set (n + j) (.dct [])) else .bad
  | .setk o e, ρ, S => (evE F o ρ S).then fun d S1 => (evE F e ρ S1).then fun x S2 => match d, x with
    | .ref k, .p (.tup [.int a, .int b]) => (match S2[k]? with
      | some (.dct ks) => if ks.length < LIM then .nx ρ (S2.set k (.dct (putD ks (a, b)))) else .bad
      | _ => .bad)
    | _, _ => .bad
  | .app o e, ρ, S => (evE F o ρ S).then fun d S1 => if isL S1 d then (evE F e ρ S1).then fun x S2 => match d, x with
    | .ref k, .p z => match S2[k]? with
      | some (.lst xs) => if xs.length < LIM then .nx ρ (S2.set k (.lst (xs ++ [z]))) else .bad
      | _ => .bad
    | _, _ => .bad else .bad
  | .ext o e, ρ, S => (evE F o ρ S).then fun d S1 => if isL S1 d then (evE F e ρ S1).then fun x S2 => match d, x with
    | .ref k, .p (.lst zs) => match S2[k]? with
      | some (.lst xs) => if xs.length + zs.length ≤ LIM then .nx ρ (S2.set k (.lst (xs ++ zs))) else .bad
      | _ => .bad
    | _, _ => .bad else .bad
  | .expr e, ρ, S => (evE F e ρ S).then fun _ S1 => .nx ρ S1
  | .aug i _ op e, ρ, S => match ρ[i]? with
    | some (some (.p (.int a))) => (evE F e ρ S).then fun x S1 => match x with
      | .p (.int b) => match op with
        | .add => .nx (ρ.set i (some (.p (.int (a + b))))) S1
        | .sub => .nx (ρ.set i (some (.p (.int (a - b))))) S1
        | _ => .bad
      | _ => .bad
    | _ => .bad
  | .ret e, ρ, S => (evE F e ρ S).then fun d S1 => .rt d S1
  | .iff t a b, ρ, S => (evE F t ρ S).then fun x S1 => match x with
    | .p (.bl true) => evSs F n a ρ S1
    | .p (.bl false) => evSs F n b ρ S1
    | _ => .bad
  | .for_ tg it body, ρ, S => (evI F it ρ S).then fun w S1 => match w.1, allP w.2 with
    | none, some xs => loop tg (evSs F n body) xs ρ S1
    | _, _ => .bad
  | .whil m t body, ρ, S => wloop (evE F t) (evSs F n body) m ρ S
  | .raise c _ _, _, S => .ex c S
def evSs (F : FS) (n : Nat) : List Sm → Env → Store → SR
  | [], ρ, S => .nx ρ S
  | s :: r, ρ, S => (evS F n s ρ S).bind fun ρ1 S1 => evSs F n r ρ1 S1
end

/-! ### defs -/
/-- a def: its name, its parameters, all its names, its cells, its body; whether it hands back a list of its own making -/
structure Fd where
  name : Str
  np : Nat
  names : List Str
  cells : Nat
  body : List Sm
  fresh : Bool := false
/-- as data, a list of lists too -/
def viewF (S : Store) (k : Nat) : Option P := match S[k]? with
  | some (.lst xs) => some (.lst xs)
  | some (.mat rows) => some (.lst (rows.map .lst))
  | _ => none
def frzs (n : Nat) (S : Store) : List D → Option (List D)
  | [] => some []
  | .p x :: r => (frzs n S r).map (D.p x :: ·)
  | .ref k :: r => if k < n then (frzs n S r).map (D.ref k :: ·) else match viewF S k with
    | some x => (frzs n S r).map (D.p x :: ·)
    | none => none
  | _ :: _ => none
def frz (n : Nat) (S : Store) : D → Option D
  | .p x => some (.p x)
  | .fn f => some (.fn f)
  | .ref k => if k < n then some (.ref k) else (viewF S k).map .p
  | .tp xs => (frzs n S xs).map mkTup
  | .scr _ => none
def runFd (F : FS) (d : Fd) (args : List D) (S : Store) : R D :=
  if args.length = d.np then
    match evSs F S.length d.body (args.map some ++ List.replicate (d.names.length - d.np) none) (S ++ List.replicate d.cells .nil) with
    | .nx _ S' => .ok (.p .non) (S'.take S.length)
    | .rt r S' => match frz S.length S' r with
      | some r' => .ok r' (S'.take S.length)
      | none => .bad
    | .ex c S' => .exc c (S'.take S.length)
    | .bad => .bad
  else .bad
/-- a def of the text, or one that is told by what it does -/
inductive Df where
  | ast (d : Fd)
  /-- return of a new list, alone -/
  | new (name : Str) (np : Nat) (names : List Str) (c : E)
  | nat (name : Str) (np : Nat) (f : FS → List D → Store → R D)
def runNew (F : FS) (np : Nat) (names : List Str) (c : E) (args : List D) (S : Store) : R D :=
  if args.length = np then evE F c (args.map some ++ List.replicate (names.length - np) none) S else .bad
/-- what the defs do, to a depth of calls -/
def sem (T : List Df) : Nat → FS
  | 0 => fun _ _ _ => .bad
  | k + 1 => fun f args S => match T[f]? with
    | some (.ast d) => runFd (sem T k) d args S
    | some (.new _ np names c) => runNew (sem T k) np names c args S
    | some (.nat _ np g) => if args.length = np then g (sem T k) args S else .bad
    | none => .bad
end G9

/-! text E1 -/
/-! G9.E1: how the values of the small language stand in the abstract heap. -/
namespace G9
open PySem PySem.Spec PyProof.Rows L2

mutual
/-- data at a value; av: the addresses of what changes -/
inductive RpP (av : List Addr) (H : Hp) : V → P → Prop
  | non : RpP av H .non .non
  | bl (b : Bool) : RpP av H (.bl b) (.bl b)
  | int (i : Int) : RpP av H (.int i) (.int i)
  | str (x : Str) : RpP av H (.str x) (.str x)
  | tup {a : Addr} {vs : List V} {xs : List P} : H a = some (.tup vs) → a ∉ av → vs.length ≤ sizeLine → RpPs av H vs xs → RpP av H (.ref a) (.tup xs)
  | lst {a : Addr} {vs : List V} {xs : List P} : H a = some (.lst vs) → a ∉ av → vs.length ≤ sizeLine → RpPs av H vs xs → RpP av H (.ref a) (.lst xs)
inductive RpPs (av : List Addr) (H : Hp) : List V → List P → Prop
  | nil : RpPs av H [] []
  | cons {v : V} {vs : List V} {x : P} {xs : List P} : RpP av H v x → RpPs av H vs xs → RpPs av H (v :: vs) (x :: xs)
end
/-- where the text's things stand: the written part, the defs, the exception classes -/
structure Tb where
  K : PySem.W.Frag
  fa : Nat → Addr
  ca : Nat → Addr
  prog : Program
  w : World
  mg : Str → Option Value
  base : Heap
/-- a list that is read alone -/
def SqS (K : PySem.W.Frag) (av : List Addr) (H : Hp) (a : Addr) (vs : List V) : Prop :=
  (Rd H a (.lst vs) ∧ a ∉ av) ∨ ∃ (o : Obj) (its : Array Value) (n : Nat), K.lookup a = some o ∧ o.cls = .type "list" ∧ o.dict = none ∧ o.data = .seq its n ∧ its.size ≤ sizeLine ∧ Vals vs its.toList
theorem SqS.sq {K : PySem.W.Frag} {av : List Addr} {H : Hp} {a : Addr} {vs : List V} (h : SqS K av H a vs) : SqL K H a vs := h.elim (fun h => .inl h.1) .inr
/-- the addresses of what changes: the cells' and others' -/
structure Foot where
  c : List (List Addr)
  x : List Addr
def Foot.all (ι : Foot) : List Addr := ι.c.flatten ++ ι.x
mutual
inductive Rp (T : Tb) (ι : Foot) (H : Hp) : V → D → Prop
  | p {v : V} {x : P} : RpP ι.all H v x → Rp T ι H v (.p x)
  | ref {v : V} {k : Nat} : k < ι.c.length → (∀ a fp, ι.c[k]? = some (a :: fp) → v = .ref a) → Rp T ι H v (.ref k)
  | fn (f : Nat) : Rp T ι H (.ref (T.fa f)) (.fn f)
  | scr {a : Addr} {ns : List Int} : SqS T.K ι.all H a (ns.map V.int) → ns.length ≤ sizeLine → Rp T ι H (.ref a) (.scr ns)
  | tp {a : Addr} {vs : List V} {ds : List D} : H a = some (.tup vs) → a ∉ ι.all → vs.length ≤ sizeLine → Rps T ι H vs ds → Rp T ι H (.ref a) (.tp ds)
inductive Rps (T : Tb) (ι : Foot) (H : Hp) : List V → List D → Prop
  | nil : Rps T ι H [] []
  | cons {v : V} {vs : List V} {d : D} {ds : List D} : Rp T ι H v d → Rps T ι H vs ds → Rps T ι H (v :: vs) (d :: ds)
end

section
variable {av av' : List Addr} {H H' : Hp}
theorem RpPs.length : ∀ {vs : List V} {xs : List P}, RpPs av H vs xs → vs.length = xs.length
  | _, _, .nil => rfl
  | _, _, .cons _ t => by rw [List.length_cons, List.length_cons, RpPs.length t]
theorem RpPs.get : ∀ {vs : List V} {xs : List P} {i : Nat} {x : P}, RpPs av H vs xs → xs[i]? = some x → ∃ v, vs[i]? = some v ∧ RpP av H v x
  | _, _, _, _, .nil, e => by simp at e
  | _, _, 0, _, .cons r _, e => by simp at e; subst e; exact ⟨_, rfl, r⟩
  | _, _, i + 1, x, .cons _ t, e => by
    obtain ⟨u, h1, h2⟩ := RpPs.get (i := i) (x := x) t (by simpa using e)
    exact ⟨u, by simpa using h1, h2⟩
theorem RpPs.get' : ∀ {vs : List V} {xs : List P} {i : Nat} {v : V}, RpPs av H vs xs → vs[i]? = some v → ∃ x, xs[i]? = some x ∧ RpP av H v x
  | _, _, _, _, .nil, e => by simp at e
  | _, _, 0, _, .cons r _, e => by simp at e; subst e; exact ⟨_, rfl, r⟩
  | _, _, i + 1, x, .cons _ t, e => by
    obtain ⟨u, h1, h2⟩ := RpPs.get' (i := i) (v := x) t (by simpa using e)
    exact ⟨u, by simpa using h1, h2⟩
theorem RpPs.append : ∀ {vs us : List V} {xs ys : List P}, RpPs av H vs xs → RpPs av H us ys → RpPs av H (vs ++ us) (xs ++ ys)
  | _, _, _, _, .nil, s => s
  | _, _, _, _, .cons r t, s => .cons r (RpPs.append t s)
theorem RpPs.take : ∀ {vs : List V} {xs : List P} (n : Nat), RpPs av H vs xs → RpPs av H (vs.take n) (xs.take n)
  | _, _, 0, _ => .nil
  | _, _, _ + 1, .nil => .nil
  | _, _, n + 1, .cons r t => .cons r (RpPs.take n t)
theorem RpPs.drop : ∀ {vs : List V} {xs : List P} (n : Nat), RpPs av H vs xs → RpPs av H (vs.drop n) (xs.drop n)
  | _, _, 0, r => r
  | _, _, _ + 1, .nil => .nil
  | _, _, n + 1, .cons _ t => RpPs.drop n t
theorem RpPs.set {v : V} {x : P} (r : RpP av H v x) : ∀ {vs : List V} {xs : List P} (i : Nat), RpPs av H vs xs → RpPs av H (vs.set i v) (xs.set i x)
  | _, _, _, .nil => .nil
  | _, _, 0, .cons _ t => .cons r t
  | _, _, i + 1, .cons q t => .cons q (RpPs.set r i t)
theorem RpPs.dropLast : ∀ {vs : List V} {xs : List P}, RpPs av H vs xs → RpPs av H vs.dropLast xs.dropLast := fun {vs xs} r => by
  rw [List.dropLast_eq_take, List.dropLast_eq_take, r.length]
  exact r.take _
theorem RpPs.reverse : ∀ {vs : List V} {xs : List P}, RpPs av H vs xs → RpPs av H vs.reverse xs.reverse
  | _, _, .nil => .nil
  | _, _, .cons r t => by
    rw [List.reverse_cons, List.reverse_cons]
    exact (RpPs.reverse t).append (.cons r .nil)
theorem RpPs.rep : ∀ {vs : List V} {xs : List P} (n : Nat), RpPs av H vs xs → RpPs av H (List.replicate n vs).flatten (rep xs n)
  | _, _, 0, _ => .nil
  | vs, xs, n + 1, r => by
    rw [List.replicate_succ, List.flatten_cons]
    exact r.append (RpPs.rep n r)
theorem RpPs.ints : ∀ {vs : List V} {xs : List P} {ns : List Int}, RpPs av H vs xs → allInt xs = some ns → vs = ns.map V.int
  | _, _, _, .nil, e => by cases e; rfl
  | _, x :: xs, ns, .cons r t, e => by
    cases r <;> try (simp [allInt] at e; done)
    rename_i i
    cases q : allInt xs with
    | none => rw [allInt, q] at e; cases e
    | some ms =>
      rw [allInt, q] at e
      cases e
      rw [RpPs.ints t q]; rfl
theorem RpPs.bls : ∀ {vs : List V} {xs : List P} {ns : List Bool}, RpPs av H vs xs → allBl xs = some ns → vs = ns.map V.bl
  | _, _, _, .nil, e => by cases e; rfl
  | _, x :: xs, ns, .cons r t, e => by
    cases r <;> try (simp [allBl] at e; done)
    rename_i i
    cases q : allBl xs with
    | none => rw [allBl, q] at e; cases e
    | some ms =>
      rw [allBl, q] at e
      cases e
      rw [RpPs.bls t q]; rfl
theorem RpPs.ofInts : ∀ (ns : List Int), RpPs av H (ns.map V.int) (ns.map P.int)
  | [] => .nil
  | n :: r => .cons (.int n) (RpPs.ofInts r)
mutual
theorem RpP.mono (k : ∀ a o, H a = some o → a ∉ av → H' a = some o) (n : ∀ a, a ∈ av' → a ∈ av ∨ H a = none) : ∀ {v : V} {x : P}, RpP av H v x → RpP av' H' v x
  | _, _, .non => .non
  | _, _, .bl b => .bl b
  | _, _, .int b => .int b
  | _, _, .str b => .str b
  | _, _, .tup h1 h2 h3 h4 => .tup (k _ _ h1 h2) (fun z => (n _ z).elim h2 fun q => by rw [h1] at q; cases q) h3 (RpPs.mono k n h4)
  | _, _, .lst h1 h2 h3 h4 => .lst (k _ _ h1 h2) (fun z => (n _ z).elim h2 fun q => by rw [h1] at q; cases q) h3 (RpPs.mono k n h4)
theorem RpPs.mono (k : ∀ a o, H a = some o → a ∉ av → H' a = some o) (n : ∀ a, a ∈ av' → a ∈ av ∨ H a = none) : ∀ {v : List V} {x : List P}, RpPs av H v x → RpPs av' H' v x
  | _, _, .nil => .nil
  | _, _, .cons r t => .cons (RpP.mono k n r) (RpPs.mono k n t)
end
end
section
variable {T : Tb} {ι ι' : Foot} {H H' : Hp}
theorem Rps.length : ∀ {vs : List V} {xs : List D}, Rps T ι H vs xs → vs.length = xs.length
  | _, _, .nil => rfl
  | _, _, .cons _ t => by rw [List.length_cons, List.length_cons, Rps.length t]
theorem Rps.get : ∀ {vs : List V} {xs : List D} {i : Nat} {x : D}, Rps T ι H vs xs → xs[i]? = some x → ∃ v, vs[i]? = some v ∧ Rp T ι H v x
  | _, _, _, _, .nil, e => by simp at e
  | _, _, 0, _, .cons r _, e => by simp at e; subst e; exact ⟨_, rfl, r⟩
  | _, _, i + 1, x, .cons _ t, e => by
    obtain ⟨u, h1, h2⟩ := Rps.get (i := i) (x := x) t (by simpa using e)
    exact ⟨u, by simpa using h1, h2⟩
theorem Rps.get' : ∀ {vs : List V} {xs : List D} {i : Nat} {v : V}, Rps T ι H vs xs → vs[i]? = some v → ∃ x, xs[i]? = some x ∧ Rp T ι H v x
  | _, _, _, _, .nil, e => by simp at e
  | _, _, 0, _, .cons r _, e => by simp at e; subst e; exact ⟨_, rfl, r⟩
  | _, _, i + 1, x, .cons _ t, e => by
    obtain ⟨u, h1, h2⟩ := Rps.get' (i := i) (v := x) t (by simpa using e)
    exact ⟨u, by simpa using h1, h2⟩
theorem Rps.ofP : ∀ {vs : List V} {xs : List P}, RpPs ι.all H vs xs → Rps T ι H vs (xs.map .p)
  | _, _, .nil => .nil
  | _, _, .cons r t => .cons (.p r) (Rps.ofP t)
theorem Rps.toP : ∀ {vs : List V} {ds : List D} {xs : List P}, Rps T ι H vs ds → allP ds = some xs → RpPs ι.all H vs xs
  | _, _, _, .nil, e => by cases e; exact .nil
  | _, d :: ds, xs, .cons r t, e => by
    cases d with
    | p x =>
      cases q : allP ds with
      | none => rw [allP, q] at e; cases e
      | some ys =>
        rw [allP, q] at e
        cases e
        cases r with
        | p r => exact .cons r (Rps.toP t q)
    | _ => simp [allP] at e
theorem Rps.ofInts : ∀ (ns : List Int), Rps T ι H (ns.map V.int) (ns.map fun n => .p (.int n))
  | [] => .nil
  | n :: r => .cons (.p (.int n)) (Rps.ofInts r)
/-- what stands through a step: all but what changes is kept, what changes is old or new -/
structure Keeps (ι : Foot) (H : Hp) (ι' : Foot) (H' : Hp) : Prop where
  keep : ∀ a o, H a = some o → a ∉ ι.all → H' a = some o
  new : ∀ a, a ∈ ι'.all → a ∈ ι.all ∨ H a = none
mutual
theorem Rp.mono (k : Keeps ι H ι' H') (l : ι.c.length ≤ ι'.c.length) (n : ∀ (j : Nat) a fp, j < ι.c.length → ι'.c[j]? = some (a :: fp) → ∃ fp', ι.c[j]? = some (a :: fp')) : ∀ {v : V} {d : D}, Rp T ι H v d → Rp T ι' H' v d
  | _, _, .p r => .p (r.mono k.keep k.new)
  | _, _, .ref hk h => .ref (Nat.lt_of_lt_of_le hk l) fun a fp e => let ⟨fp', e'⟩ := n _ a fp hk e; h a fp' e'
  | _, _, .fn f => .fn f
  | _, _, .scr h z => .scr (by
    rcases h with ⟨h, q⟩ | h
    · refine .inl ⟨?_, fun z => (k.new _ z).elim q fun e => ?_⟩
      · rcases h with h | ⟨o, h⟩
        · exact .inl (k.keep _ _ h q)
        · exact .inr ⟨o, k.keep _ _ h q⟩
      · rcases h with h | ⟨o, h⟩ <;> rw [h] at e <;> cases e
    · exact .inr h) z
  | _, _, .tp h1 h2 h3 h4 => .tp (k.keep _ _ h1 h2) (fun z => (k.new _ z).elim h2 fun q => by rw [h1] at q; cases q) h3 (Rps.mono k l n h4)
theorem Rps.mono (k : Keeps ι H ι' H') (l : ι.c.length ≤ ι'.c.length) (n : ∀ (j : Nat) a fp, j < ι.c.length → ι'.c[j]? = some (a :: fp) → ∃ fp', ι.c[j]? = some (a :: fp')) : ∀ {v : List V} {d : List D}, Rps T ι H v d → Rps T ι' H' v d
  | _, _, .nil => .nil
  | _, _, .cons r t => .cons (Rp.mono k l n r) (Rps.mono k l n t)
end
end

/-! ### the store -/
/-- a cell and its addresses -/
inductive RowsOk (av : List Addr) (H : Hp) : List Addr → List (List P) → Prop
  | nil : RowsOk av H [] []
  | cons {a : Addr} {as : List Addr} {vs : List V} {xs : List P} {rows : List (List P)} : H a = some (.lst vs) → vs.length ≤ sizeLine → RpPs av H vs xs → RowsOk av H as rows → RowsOk av H (a :: as) (xs :: rows)
def keyP (q : Int × Int) : List L2.Key := [.inl q.1, .inl q.2]
inductive CellOk (av : List Addr) (H : Hp) : List Addr → Cell → Prop
  | nil : CellOk av H [] .nil
  | lst {a : Addr} {vs : List V} {xs : List P} : H a = some (.lst vs) → vs.length ≤ sizeLine → RpPs av H vs xs → CellOk av H [a] (.lst xs)
  | mat {a : Addr} {as : List Addr} {rows : List (List P)} : H a = some (.lst (as.map V.ref)) → as.length ≤ sizeLine → RowsOk av H as rows → CellOk av H (a :: as) (.mat rows)
  | dct {a : Addr} {kvs : List (List L2.Key × V)} {ks : List (Int × Int)} : H a = some (.dT kvs) → kvs.map (·.1) = ks.map keyP → CellOk av H [a] (.dct ks)
theorem RowsOk.mono {av av' : List Addr} {H H' : Hp} : ∀ {as : List Addr} {rows : List (List P)}, RowsOk av H as rows → (∀ a o, H a = some o → a ∈ as ∨ a ∉ av → H' a = some o) → (∀ a, a ∈ av' → a ∈ av ∨ H a = none) → RowsOk av' H' as rows
  | _, _, .nil, _, _ => .nil
  | _, _, .cons h1 h2 h3 h4, k, n => .cons (k _ _ h1 (.inl List.mem_cons_self)) h2 (h3.mono (fun a o e q => k a o e (.inr q)) n) (h4.mono (fun a o e q => k a o e (q.imp (List.mem_cons_of_mem _) id)) n)
theorem CellOk.mono {av av' : List Addr} {H H' : Hp} {fp : List Addr} {c : Cell} (h : CellOk av H fp c) (k : ∀ a o, H a = some o → a ∈ fp ∨ a ∉ av → H' a = some o) (n : ∀ a, a ∈ av' → a ∈ av ∨ H a = none) : CellOk av' H' fp c := by
  cases h with
  | nil => exact .nil
  | lst h1 h2 h3 => exact .lst (k _ _ h1 (.inl List.mem_cons_self)) h2 (h3.mono (fun a o e q => k a o e (.inr q)) n)
  | mat h1 h2 h3 => exact .mat (k _ _ h1 (.inl List.mem_cons_self)) h2 (h3.mono (fun a o e q => k a o e (q.imp (List.mem_cons_of_mem _) id)) n)
  | dct h1 h2 => exact .dct (k _ _ h1 (.inl List.mem_cons_self)) h2
theorem RowsOk.there {av : List Addr} {H : Hp} : ∀ {as : List Addr} {rows : List (List P)}, RowsOk av H as rows → ∀ {a : Addr}, a ∈ as → ∃ vs, H a = some (.lst vs)
  | _, _, .cons h1 _ _ h4, a, ha => by
    rcases List.mem_cons.mp ha with rfl | ha
    · exact ⟨_, h1⟩
    · exact h4.there ha
structure StOk (ι : Foot) (S : Store) (H : Hp) : Prop where
  len : ι.c.length = S.length
  nd : ι.all.Nodup
  cell : ∀ (k : Nat) fp c, ι.c[k]? = some fp → S[k]? = some c → CellOk ι.all H fp c
  ex : ∀ a ∈ ι.x, ∃ vs, H a = some (.lst vs)
theorem CellOk.there {av : List Addr} {H : Hp} {fp : List Addr} {c : Cell} (h : CellOk av H fp c) {a : Addr} (ha : a ∈ fp) : ∃ o, H a = some o := by
  cases h with
  | nil => simp at ha
  | lst h _ _ =>
    simp at ha; subst ha
    exact ⟨_, h⟩
  | mat h1 h2 h3 =>
    rcases List.mem_cons.mp ha with rfl | ha
    · exact ⟨_, h1⟩
    · obtain ⟨vs, e⟩ := h3.there ha
      exact ⟨_, e⟩
  | dct h1 _ =>
    simp at ha; subst ha
    exact ⟨_, h1⟩
theorem CellOk.noTup {av : List Addr} {H : Hp} {fp : List Addr} {c : Cell} (h : CellOk av H fp c) {a : Addr} (ha : a ∈ fp) (us : List V) : H a ≠ some (.tup us) := by
  cases h with
  | nil => simp at ha
  | lst h _ _ =>
    simp at ha; subst ha
    rw [h]; exact fun z => by cases z
  | mat h1 h2 h3 =>
    rcases List.mem_cons.mp ha with rfl | ha
    · rw [h1]; exact fun z => by cases z
    · obtain ⟨vs, e⟩ := h3.there ha
      rw [e]; exact fun z => by cases z
  | dct h1 _ =>
    simp at ha; subst ha
    rw [h1]; exact fun z => by cases z
theorem StOk.thereC {ι : Foot} {S : Store} {H : Hp} (h : StOk ι S H) {a : Addr} (ha : a ∈ ι.c.flatten) : ∃ o, H a = some o := by
  obtain ⟨fp, h1, h2⟩ := List.mem_flatten.mp ha
  obtain ⟨k, hk⟩ := List.mem_iff_getElem?.mp h1
  have hl : k < S.length := by
    rw [← h.len]
    exact (List.getElem?_eq_some_iff.mp hk).1
  exact (h.cell k fp _ hk (List.getElem?_eq_getElem hl)).there h2
theorem StOk.there {ι : Foot} {S : Store} {H : Hp} (h : StOk ι S H) {a : Addr} (ha : a ∈ ι.all) : ∃ o, H a = some o :=
  (List.mem_append.mp ha).elim h.thereC fun q => let ⟨_, e⟩ := h.ex a q; ⟨_, e⟩
theorem StOk.fresh {ι : Foot} {S : Store} {H : Hp} (h : StOk ι S H) {a : Addr} (ha : H a = none) : a ∉ ι.all := fun z => by
  obtain ⟨o, e⟩ := h.there z
  rw [ha] at e; cases e
theorem Foot.sub {ι : Foot} {a : Addr} (h : a ∉ ι.all) : a ∉ ι.c.flatten := fun z => h (List.mem_append_left _ z)

theorem StOk.noTup {ι : Foot} {S : Store} {H : Hp} (h : StOk ι S H) {a : Addr} {us : List V} (e : H a = some (.tup us)) : a ∉ ι.all := fun z => by
  rcases List.mem_append.mp z with z | z
  · obtain ⟨fp, h1, h2⟩ := List.mem_flatten.mp z
    obtain ⟨k, hk⟩ := List.mem_iff_getElem?.mp h1
    have hl : k < S.length := by
      rw [← h.len]
      exact (List.getElem?_eq_some_iff.mp hk).1
    exact (h.cell k fp _ hk (List.getElem?_eq_getElem hl)).noTup h2 us e
  · obtain ⟨vs, e'⟩ := h.ex a z
    rw [e] at e'; cases e'
/-- behind an expression: all but the cells is kept, the store is held -/
structure Post (ι : Foot) (H H' : Hp) (S' : Store) : Prop where
  keep : ∀ a o, H a = some o → a ∉ ι.c.flatten → H' a = some o
  ok : StOk ι S' H'
theorem Post.keeps {ι : Foot} {H H' : Hp} {S' : Store} (p : Post ι H H' S') : Keeps ι H ι H' := ⟨fun a o e n => p.keep a o e (Foot.sub n), fun _ h => .inl h⟩
theorem Post.refl {ι : Foot} {H : Hp} {S : Store} (h : StOk ι S H) : Post ι H H S := ⟨fun _ _ e _ => e, h⟩
theorem Post.trans {ι : Foot} {H H1 H2 : Hp} {S1 S2 : Store} (p : Post ι H H1 S1) (q : Post ι H1 H2 S2) : Post ι H H2 S2 := ⟨fun a o e n => q.keep a o (p.keep a o e n) n, q.ok⟩
theorem Rp.post {T : Tb} {ι : Foot} {H H' : Hp} {S' : Store} {v : V} {d : D} (r : Rp T ι H v d) (p : Post ι H H' S') : Rp T ι H' v d := r.mono p.keeps (Nat.le_refl _) fun _ a fp _ e => ⟨fp, e⟩
theorem Rps.post {T : Tb} {ι : Foot} {H H' : Hp} {S' : Store} {v : List V} {d : List D} (r : Rps T ι H v d) (p : Post ι H H' S') : Rps T ι H' v d := r.mono p.keeps (Nat.le_refl _) fun _ a fp _ e => ⟨fp, e⟩
theorem RpP.post {ι : Foot} {H H' : Hp} {S' : Store} {v : V} {d : P} (r : RpP ι.all H v d) (p : Post ι H H' S') : RpP ι.all H' v d := r.mono p.keeps.keep fun _ h => .inl h
theorem RpPs.post {ι : Foot} {H H' : Hp} {S' : Store} {v : List V} {d : List P} (r : RpPs ι.all H v d) (p : Post ι H H' S') : RpPs ι.all H' v d := r.mono p.keeps.keep fun _ h => .inl h
/-- something new is laid -/
theorem StOk.upd {ι : Foot} {S : Store} {H : Hp} (h : StOk ι S H) {p : Addr} (hp : H p = none) (o : HO) : StOk ι S (upd H p o) := by
  have kk : ∀ a u, H a = some u → L2.upd H p o a = some u := fun a u e => by rw [upd_ne (ne_of_none e hp)]; exact e
  refine ⟨h.len, h.nd, fun k fp c e1 e2 => ?_, fun a ha => let ⟨o, e⟩ := h.ex a ha; ⟨o, kk a _ e⟩⟩
  exact (h.cell k fp c e1 e2).mono (fun a u e _ => kk a u e) fun _ z => .inl z
theorem Post.laid {ι : Foot} {S : Store} {H : Hp} (h : StOk ι S H) {p : Addr} (hp : H p = none) (o : HO) : Post ι H (upd H p o) S :=
  ⟨fun a u e _ => by rw [upd_ne (ne_of_none e hp)]; exact e, h.upd hp o⟩

structure EnvOk (T : Tb) (ι : Foot) (ρ : Env) (σ : L2.St) (H : Hp) : Prop where
  len : ρ.length = σ.length
  get : ∀ (i : Nat) d, ρ[i]? = some (some d) → ∃ v, σ[i]? = some (some v) ∧ Rp T ι H v d
theorem EnvOk.post {T : Tb} {ι : Foot} {ρ : Env} {σ : L2.St} {H H' : Hp} {S' : Store} (e : EnvOk T ι ρ σ H) (p : Post ι H H' S') : EnvOk T ι ρ σ H' :=
  ⟨e.len, fun i d h => let ⟨v, h1, h2⟩ := e.get i d h; ⟨v, h1, h2.post p⟩⟩

/-! ### readings -/
/-- what an evaluation's end asks -/
def Out (T : Tb) (E : XK) (ι : Foot) (H : Hp) (r : R D) (Q : VK) : Prop := match r with
  | .ok d S' => ∀ v H', Post ι H H' S' → Rp T ι H' v d → Q v H'
  | .exc c S' => ∀ H', Post ι H H' S' → E (.ref (T.ca c)) none H'
  | .bad => False
/-- .. of anything else than a value -/
def OutX {α : Type} (T : Tb) (E : XK) (ι : Foot) (H : Hp) (r : R α) (Q : α → Store → Hp → Prop) : Prop := match r with
  | .ok d S' => ∀ H', Post ι H H' S' → Q d S' H'
  | .exc c S' => ∀ H', Post ι H H' S' → E (.ref (T.ca c)) none H'
  | .bad => False
def tE (T : Tb) (F : FS) (c : E) (X : XK) : TE := fun σ H Q => ∃ ρ S ι, EnvOk T ι ρ σ H ∧ StOk ι S H ∧ Out T X ι H (evE F c ρ S) Q
section
variable {T : Tb} {F : FS} {X : XK} {ι : Foot} {H H1 : Hp} {S S1 : Store} {ρ : Env} {σ : L2.St} {Q Q' : VK} {r : R D}
theorem Out.shift (p : Post ι H H1 S1) (h : Out T X ι H r Q) : Out T X ι H1 r Q := by
  cases r with
  | ok d S' => exact fun v H' q rr => h v H' (p.trans q) rr
  | exc c S' => exact fun H' q => h H' (p.trans q)
  | bad => exact h
/-- a part, and what is left -/
theorem tE_bind {c : E} {f : D → Store → R D} (he : EnvOk T ι ρ σ H) (hs : StOk ι S H) (h : Out T X ι H ((evE F c ρ S).bind f) Q')
    (k : ∀ d S1 v H1, Post ι H H1 S1 → Rp T ι H1 v d → EnvOk T ι ρ σ H1 → Out T X ι H1 (f d S1) Q' → Q v H1) : tE T F c X σ H Q := by
  refine ⟨ρ, S, ι, he, hs, ?_⟩
  cases e : evE F c ρ S with
  | ok d S1 =>
    rw [e] at h
    exact fun v H1 p r => k d S1 v H1 p r (he.post p) (Out.shift p h)
  | exc c S1 =>
    rw [e] at h
    exact h
  | bad =>
    rw [e] at h
    exact h
/-- a value at hand -/
theorem Out.here {d : D} (h : Out T X ι H (.ok d S) Q) (hs : StOk ι S H) {v : V} (r : Rp T ι H v d) : Q v H := h v H (.refl hs) r
end
end G9

/-! text E2 -/
/-! G9.E2: the operators by values. -/
namespace G9
open PySem PySem.Spec PyProof.Rows L2

theorem lim_eq : LIM = sizeLine := by rw [sizeLine_eq]; rfl
section
variable {T : Tb} {E : XK} {ι : Foot} {H : Hp} {S : Store} {Q : VK} {X : Cx}
/-- a new tuple, a new list of data -/
theorem Out.newT {xs : List P} {vs : List V} (h : Out T E ι H (.ok (.p (.tup xs)) S) Q) (hs : StOk ι S H) (r : RpPs ι.all H vs xs) (hz : vs.length ≤ sizeLine) {p : Addr} (hp : H p = none) : Q (.ref p) (upd H p (.tup vs)) :=
  h _ _ (Post.laid hs hp _) (.p (.tup upd_same (hs.fresh hp) hz (r.post (Post.laid hs hp _))))
theorem Out.newL {xs : List P} {vs : List V} (h : Out T E ι H (.ok (.p (.lst xs)) S) Q) (hs : StOk ι S H) (r : RpPs ι.all H vs xs) (hz : vs.length ≤ sizeLine) {p : Addr} (hp : H p = none) : Q (.ref p) (upd H p (.lst vs)) :=
  h _ _ (Post.laid hs hp _) (.p (.lst upd_same (hs.fresh hp) hz (r.post (Post.laid hs hp _))))
theorem Out.newTp {ds : List D} {vs : List V} (h : Out T E ι H (.ok (.tp ds) S) Q) (hs : StOk ι S H) (r : Rps T ι H vs ds) (hz : vs.length ≤ sizeLine) {p : Addr} (hp : H p = none) : Q (.ref p) (upd H p (.tup vs)) :=
  h _ _ (Post.laid hs hp _) (.tp upd_same (hs.fresh hp) hz (r.post (Post.laid hs hp _)))
theorem Out.newTup {ds : List D} {vs : List V} (h : Out T E ι H (.ok (mkTup ds) S) Q) (hs : StOk ι S H) (r : Rps T ι H vs ds) (hz : vs.length ≤ sizeLine) {p : Addr} (hp : H p = none) : Q (.ref p) (upd H p (.tup vs)) := by
  unfold mkTup at h
  cases e : allP ds with
  | some xs => rw [e] at h; exact h.newT hs (r.toP e) hz hp
  | none => rw [e] at h; exact h.newTp hs r hz hp
theorem Rp.int {v : V} {i : Int} (r : Rp T ι H v (.p (.int i))) : v = .int i := by
  cases r with
  | p r => cases r; rfl
theorem Rp.bl {v : V} {i : Bool} (r : Rp T ι H v (.p (.bl i))) : v = .bl i := by
  cases r with
  | p r => cases r; rfl
theorem Rp.str {v : V} {i : Str} (r : Rp T ι H v (.p (.str i))) : v = .str i := by
  cases r with
  | p r => cases r; rfl
/-- a tuple that is read -/
theorem Rp.tup {v : V} {xs : List P} (r : Rp T ι H v (.p (.tup xs))) : ∃ a vs, v = .ref a ∧ H a = some (.tup vs) ∧ a ∉ ι.all ∧ vs.length ≤ sizeLine ∧ RpPs ι.all H vs xs := by
  cases r with
  | p r =>
    cases r with
    | tup h1 h2 h3 h4 => exact ⟨_, _, rfl, h1, h2, h3, h4⟩
theorem Rp.lst {v : V} {xs : List P} (r : Rp T ι H v (.p (.lst xs))) : ∃ a vs, v = .ref a ∧ H a = some (.lst vs) ∧ a ∉ ι.all ∧ vs.length ≤ sizeLine ∧ RpPs ι.all H vs xs := by
  cases r with
  | p r =>
    cases r with
    | lst h1 h2 h3 h4 => exact ⟨_, _, rfl, h1, h2, h3, h4⟩
/-- a cell that is read -/
theorem Rp.cell {v : V} {k : Nat} {xs : List P} (r : Rp T ι H v (.ref k)) (hs : StOk ι S H) (e : S[k]? = some (.lst xs)) : ∃ a vs, v = .ref a ∧ ι.c[k]? = some [a] ∧ H a = some (.lst vs) ∧ vs.length ≤ sizeLine ∧ RpPs ι.all H vs xs := by
  have hk : k < ι.c.length := by rw [hs.len]; exact (List.getElem?_eq_some_iff.mp e).1
  have hi : ι.c[k]? = some ι.c[k] := List.getElem?_eq_getElem hk
  have c := hs.cell k _ _ hi e
  generalize hfp : ι.c[k] = fp at c hi
  cases c with
  | lst h1 h2 h3 =>
    cases r with
    | ref _ h => exact ⟨_, _, h _ _ hi, hi, h1, h2, h3⟩
/-- a list that is read: data, a cell, the script -/
theorem Rp.sqL {v : V} {d : D} {xs : List P} (r : Rp T ι H v d) (hs : StOk ι S H) (e : view S d = some (.lst xs)) : ∃ a vs, v = .ref a ∧ SqL T.K H a vs ∧ vs.length ≤ sizeLine ∧ RpPs ι.all H vs xs := by
  cases d with
  | p x =>
    cases e
    obtain ⟨a, vs, h1, h2, _, h4, h5⟩ := r.lst
    exact ⟨a, vs, h1, .of h2, h4, h5⟩
  | ref k =>
    unfold view at e
    cases q : S[k]? with
    | none => simp [q] at e
    | some c =>
      cases c with
      | lst ys =>
        simp [q] at e
        subst e
        obtain ⟨a, vs, h1, _, h2, h4, h5⟩ := r.cell hs q
        exact ⟨a, vs, h1, .of h2, h4, h5⟩
      | _ => simp [q] at e
  | scr ns =>
    cases e
    cases r with
    | scr h hz => exact ⟨_, _, rfl, h.sq, by rw [List.length_map]; exact hz, .ofInts ns⟩
  | _ => cases e
theorem Rp.lst0 {v : V} {d : D} {xs : List P} (r : Rp T ι H v d) (hs : StOk ι S H) (e : view0 S d = some (.lst xs)) : ∃ a vs, v = .ref a ∧ H a = some (.lst vs) ∧ vs.length ≤ sizeLine ∧ RpPs ι.all H vs xs := by
  cases d with
  | p x =>
    cases e
    obtain ⟨a, vs, h1, h2, _, h4, h5⟩ := r.lst
    exact ⟨a, vs, h1, h2, h4, h5⟩
  | ref k =>
    unfold view0 view at e
    cases q : S[k]? with
    | none => simp [q] at e
    | some c =>
      cases c with
      | lst ys =>
        simp [q] at e
        subst e
        obtain ⟨a, vs, h1, _, h2, h4, h5⟩ := r.cell hs q
        exact ⟨a, vs, h1, h2, h4, h5⟩
      | _ => simp [q] at e
  | _ => cases e
theorem view_p {d : D} {x : P} (e : view S d = some x) (h : ∀ xs, x ≠ .lst xs) : d = .p x := by
  cases d with
  | p y => cases e; rfl
  | ref k =>
    unfold view at e
    cases q : S[k]? with
    | none => simp [q] at e
    | some c =>
      cases c with
      | lst ys =>
        simp [q] at e
        exact absurd e.symm (h _)
      | _ => simp [q] at e
  | scr ns => cases e; exact absurd rfl (h _)
  | _ => cases e
theorem view0_p {d : D} {x : P} (e : view0 S d = some x) (h : ∀ xs, x ≠ .lst xs) : d = .p x := by
  cases d with
  | scr ns => cases e
  | _ => exact view_p (S := S) (by exact e) h

/-! ### two-place operators -/
def opOf : Op → Operator
  | .add => .Add | .sub => .Sub | .mul => .Mult | .fdiv => .FloorDiv | .mod => .Mod | .pow => .Pow
/-- t * 1 is t -/
def rRep1 : R2 := fun x y H Q => ∃ l vs, x = .ref l ∧ y = .int 1 ∧ H l = some (.tup vs) ∧ vs ≠ [] ∧ vs.length ≤ 1000 ∧ Q (.ref l) H
theorem tuple_mul1 (l : Addr) (items : Array Value) (n : Nat) (dd : Option Addr) (sl : Array (Option Value)) (u : Tok) :
    Meets (Builtin.«tuple.__mul__» ⟨[.ref l, .int 1 u], []⟩) (fun _ R s => s.heap.get? l = some { cls := .type "tuple", dict := dd, data := .seq items n, slots := sl } ∧ R (.ok (.ret (Value.ref l))) s) :=
  .of_wp fun prog w A R s h => by
    obtain ⟨hp, g, d, tk, os⟩ := s
    obtain ⟨hl, h⟩ := h
    have f1 := AutoSeq1.idx_int
    wp_walk using wpAny_loadPart' hl
    exact ⟨_, rfl, h⟩
theorem op_rep1 : OpR X (binaryOp .Mult) rRep1 := by
  intro pins s σ H x y v u Q I rx ry h
  obtain ⟨l, xs, rfl, rfl, hT, hne, hz, q⟩ := h
  cases rx
  obtain ⟨t, rfl⟩ := ry
  obtain ⟨its, r, ⟨⟨cls, dd, data, sl⟩, ho, hc, n, hd⟩, hs⟩ := I.tuple (SqT.of hT)
  simp only at hc hd
  subst hc hd
  exact wpAny_binaryOp_repeat_ref (T := "tuple") (U := "int") (by decide) ⟨_, ho, rfl⟩ (fun s' => typeIs_int s' 1 t) noFill_tuple_mul F.fills_int_mul F.slot_int_rmul repeat_tuple F.slot_int_index.lookup
    (call_meets F.slot_int_rmul (typeIs_int s 1 t) F.entry_int_rmul (F.args_int_rmul_2 _ _) (int_rmul_tuple 1 t l its.toArray n dd sl)
      ⟨ho, rfl, ⟨_, ho, rfl⟩, call_meets F.slot_tuple_mul ⟨_, ho, rfl⟩ F.entry_tuple_mul (F.args_tuple_mul_2 _ _) (tuple_mul1 l its.toArray n dd sl t) ⟨ho, .ref l, H, I, rfl, q⟩⟩)
/-- text * int -/
def rRepS : R2 := fun x y H Q => ∃ (i : Str) (k : Int), x = .str i ∧ y = .int k ∧ 1 ≤ k ∧ k ≤ 1000 ∧ i.length ≤ 1000 ∧ Q (.str (repS i k.toNat)) H
theorem repS_1 (x : Str) : repS x 1 = x := by
  obtain ⟨a⟩ := x
  simp [repS]
theorem repS_0 (x : Str) (h : x.length = 0) : ∀ n, repS x n = x := by
  intro n
  obtain ⟨a⟩ := x
  have e : a = #[] := by
    have : a.size = 0 := h
    exact Array.eq_empty_of_size_eq_zero this
  subst e
  unfold repS
  congr 1
  induction n with
  | zero => rfl
  | succ n ih => rw [List.replicate_succ, List.foldl_cons]; exact ih
theorem repS_len (x : Str) (n : Nat) : (repS x n).length = n * x.length := by
  have key : ∀ (n : Nat) (b : Array Nat), ((List.replicate n x.cps).foldl (· ++ ·) b).size = b.size + n * x.cps.size := by
    intro n
    induction n with
    | zero => intro b; simp
    | succ n ih => intro b; rw [List.replicate_succ, List.foldl_cons, ih, Array.size_append, Nat.succ_mul]; omega
  show ((List.replicate n x.cps).foldl (· ++ ·) #[]).size = n * x.cps.size
  rw [key]
  simp
theorem op_repS : OpR X (binaryOp .Mult) rRepS := by
  intro pins s σ H x y v u Q I rx ry h
  obtain ⟨i, k, rfl, rfl, h1, h2, h3, q⟩ := h
  obtain ⟨t, rfl⟩ := rx
  obtain ⟨t', rfl⟩ := ry
  refine PySem.P.mul_str ?_ ?_ ?_ ?_
  · simp only [Bool.or_eq_false_iff, decide_eq_false_iff_not]
    omega
  · intro _ _ h
    have : (1000 : Int) ≤ (2 ^ 63 - 1) / k := by
      rw [Int.le_ediv_iff_mul_le (by omega)]
      omega
    omega
  · intro _ _
    have : i.length * k.toNat ≤ sizeLine := by
      rw [← lim_eq]
      have : i.length * k.toNat ≤ 1000 * 1000 := Nat.mul_le_mul h3 (by omega)
      unfold LIM
      omega
    unfold PySem.Builtin.Str.tooLong
    simp only [decide_eq_false_iff_not]
    omega
  · rw [if_neg (by omega)]
    split
    · rename_i c
      have e : repS i k.toNat = i := by
        rcases Bool.or_eq_true _ _ |>.mp c with c | c
        · have : k = 1 := by simpa using c
          subst this
          exact repS_1 i
        · exact repS_0 i (by simpa using c) _
      rw [e] at q
      exact ⟨.str i, H, I, ⟨_, rfl⟩, q⟩
    · refine ⟨?_, .str (repS i k.toNat), H, I.tok _, ⟨_, rfl⟩, q⟩
      show (repS i k.toNat).length ≤ sizeLine
      rw [repS_len, ← lim_eq]
      have : k.toNat * i.length ≤ 1000 * 1000 := Nat.mul_le_mul (by omega) h3
      unfold LIM
      omega
def rBin (K : PySem.W.Frag) : Op → R2
  | .add => fun x y H Q => rI0 (fun i j => .int (i + j)) x y H Q ∨ rCatA K x y H Q ∨ rCat x y H Q ∨ (∃ i j, x = .str i ∧ y = .str j ∧ i.length + j.length ≤ sizeLine ∧ Q (.str (i ++ j)) H)
  | .sub => rI0 fun i j => .int (i - j)
  | .mul => fun x y H Q => rI CMul (fun i j => .int (i * j)) x y H Q ∨ rRepT K x y H Q ∨ rRep1 x y H Q ∨ rRep x y H Q ∨ rRepS x y H Q
  | .fdiv => rI CDiv fun i j => .int (i / j)
  | .mod => rI (fun _ j => 0 < j) fun i j => .int (i % j)
  | .pow => rI CPow fun i j => .int (i ^ j.toNat)
theorem op_bin (op : Op) : OpR X (binaryOp (opOf op)) (rBin X.K op) := by
  cases op with
  | add => exact op_add.or (op_catA.or (op_cat.or op_add_str))
  | sub => exact op_sub
  | mul => exact op_mul.or (op_repT.or (op_rep1.or (op_rep.or op_repS)))
  | fdiv => exact op_fdiv
  | mod => exact op_mod
  | pow => exact op_pow
theorem rep_length {α : Type} (xs : List α) : ∀ n, (rep xs n).length = n * xs.length
  | 0 => by simp [rep]
  | n + 1 => by rw [rep, List.length_append, rep_length xs n, Nat.succ_mul]; omega
theorem rep_one {α : Type} (xs : List α) : rep xs 1 = xs := by simp [rep]
theorem RpPs.ne {av : List Addr} {H : Hp} {vs : List V} {xs : List P} (r : RpPs av H vs xs) : vs = [] ↔ xs = [] := by
  cases r <;> simp
/-- the operators by values -/
theorem bin_r {op : Op} {a b : D} {x y : V} (hs : StOk ι S H) (ra : Rp T ι H x a) (rb : Rp T ι H y b) (h : Out T E ι H (bin S op a b) Q) : rBin T.K op x y H Q := by
  unfold bin at h
  cases ea : view0 S a with
  | none => simp [ea] at h; exact h.elim
  | some p =>
    cases eb : view0 S b with
    | none => cases p <;> simp [ea, eb] at h <;> exact h.elim
    | some q =>
      simp only [ea, eb] at h
      cases p with
      | int i =>
        cases view0_p ea (fun _ => by simp)
        cases ra.int
        cases q with
        | int j =>
          cases view0_p eb (fun _ => by simp)
          cases rb.int
          simp only at h
          cases op with
          | add => exact .inl ⟨i, j, rfl, rfl, h.here hs (.p (.int _))⟩
          | sub => exact ⟨i, j, rfl, rfl, h.here hs (.p (.int _))⟩
          | mul =>
            simp only [binI] at h
            by_cases c : okMul i j = true
            · rw [if_pos c] at h
              refine .inl ⟨i, j, rfl, rfl, ?_, h.here hs (.p (.int _))⟩
              simp only [okMul, Bool.or_eq_true, Bool.and_eq_true, decide_eq_true_eq] at c
              exact c
            · rw [if_neg c] at h; exact h.elim
          | fdiv =>
            simp only [binI] at h
            by_cases c : 0 < j ∧ j < 1073741824
            · rw [if_pos c] at h
              exact ⟨i, j, rfl, rfl, c, h.here hs (.p (.int _))⟩
            · rw [if_neg c] at h; exact h.elim
          | mod =>
            simp only [binI] at h
            by_cases c : 0 < j
            · rw [if_pos c] at h
              exact ⟨i, j, rfl, rfl, c, h.here hs (.p (.int _))⟩
            · rw [if_neg c] at h; exact h.elim
          | pow =>
            simp only [binI] at h
            by_cases c : 0 ≤ j ∧ j ≤ 1000000 ∧ i.natAbs < 18446744073709551616
            · rw [if_pos c] at h
              exact ⟨i, j, rfl, rfl, c, h.here hs (.p (.int _))⟩
            · rw [if_neg c] at h; exact h.elim
        | _ => simp at h; exact h.elim
      | tup xs =>
        cases view0_p ea (fun _ => by simp)
        obtain ⟨pa, vs, rfl, h1, h2, h3, h4⟩ := ra.tup
        cases q with
        | tup ys =>
          cases view0_p eb (fun _ => by simp)
          obtain ⟨pb, us, rfl, k1, k2, k3, k4⟩ := rb.tup
          simp only at h
          split at h
          · rename_i c
            obtain ⟨rfl, c⟩ := c
            rw [lim_eq] at c
            have hz : vs.length + us.length ≤ sizeLine := by rw [h4.length, k4.length]; exact c
            refine .inr (.inl ⟨pa, pb, vs, us, rfl, rfl, .of h1, .of k1, hz, fun e => ?_, fun _ e => ?_, fun _ _ p hp => h.newT hs (h4.append k4) (by rw [List.length_append]; exact hz) hp⟩)
            · have ex := h4.ne.mp e
              subst ex
              exact h.here hs (.p (.tup k1 k2 k3 k4))
            · have ex := k4.ne.mp e
              subst ex
              exact h.here hs (.p (.tup h1 h2 h3 (by rw [List.append_nil]; exact h4)))
          · exact h.elim
        | int k =>
          cases view0_p eb (fun _ => by simp)
          cases rb.int
          simp only at h
          split at h
          · rename_i c
            obtain ⟨rfl, c1, c2, c3, c4⟩ := c
            have hz : vs.length ≤ 1000 := by rw [h4.length]; exact c3
            have hne : vs ≠ [] := fun z => c4 (h4.ne.mp z)
            by_cases k1 : k = 1
            · subst k1
              refine .inr (.inr (.inl ⟨pa, vs, rfl, rfl, h1, hne, hz, h.here hs (.p (.tup h1 h2 h3 ?_))⟩))
              rw [show (1 : Int).toNat = 1 from rfl, rep_one]
              exact h4
            · refine .inr (.inl ⟨pa, k, vs, rfl, rfl, .of h1, hne, by omega, c2, hz, fun p hp => h.newT hs (h4.rep _) ?_ hp⟩)
              rw [PyProof.Rows.lm_len_rep_flat, sizeLine_eq]
              have a1 : k.toNat * vs.length ≤ 1000 * 1000 := Nat.mul_le_mul (by omega) hz
              omega
          · exact h.elim
        | _ => simp at h; exact h.elim
      | lst xs =>
        obtain ⟨pa, vs, rfl, h1, h3, h4⟩ := ra.lst0 hs ea
        cases q with
        | lst ys =>
          obtain ⟨pb, us, rfl, k1, k3, k4⟩ := rb.lst0 hs eb
          simp only at h
          split at h
          · rename_i c
            obtain ⟨rfl, c⟩ := c
            rw [lim_eq] at c
            have hz : vs.length + us.length ≤ sizeLine := by rw [h4.length, k4.length]; exact c
            exact .inr (.inr (.inl ⟨pa, pb, vs, us, rfl, rfl, h1, k1, hz, fun p hp => h.newL hs (h4.append k4) (by rw [List.length_append]; exact hz) hp⟩))
          · exact h.elim
        | int k =>
          cases view0_p eb (fun _ => by simp)
          cases rb.int
          simp only at h
          split at h
          · rename_i c
            obtain ⟨rfl, c1, c2, c3⟩ := c
            have hz : vs.length ≤ 1000 := by rw [h4.length]; exact c3
            have hm : k.toNat * vs.length ≤ sizeLine := by
              rw [sizeLine_eq]
              have a1 : k.toNat * vs.length ≤ 1000 * 1000 := Nat.mul_le_mul (by omega) hz
              omega
            refine .inr (.inr (.inr (.inl ⟨pa, k, vs, rfl, rfl, h1, by omega, by omega, by rw [Nat.mul_comm]; exact hm, fun p hp => h.newL hs (h4.rep _) ?_ hp⟩)))
            rw [PyProof.Rows.lm_len_rep_flat]
            exact hm
          · exact h.elim
        | _ => simp at h; exact h.elim
      | str z =>
        cases view0_p ea (fun _ => by simp)
        cases ra.str
        cases q with
        | str z' =>
          cases view0_p eb (fun _ => by simp)
          cases rb.str
          simp only at h
          split at h
          · rename_i c
            obtain ⟨rfl, c⟩ := c
            rw [lim_eq] at c
            exact .inr (.inr (.inr ⟨z, z', rfl, rfl, c, h.here hs (.p (.str _))⟩))
          · exact h.elim
        | int k =>
          cases view0_p eb (fun _ => by simp)
          cases rb.int
          simp only at h
          split at h
          · rename_i c
            obtain ⟨rfl, c1, c2, c3⟩ := c
            exact .inr (.inr (.inr (.inr ⟨z, k, rfl, rfl, c1, c2, c3, h.here hs (.p (.str _))⟩)))
          · exact h.elim
        | _ => simp at h; exact h.elim
      | _ => simp at h; exact h.elim
end
end G9

/-! text E3 -/
/-! G9.E3: data compared. -/
namespace G9
open PySem PySem.Spec PyProof.Rows L2

mutual
def toPy : P → PyData
  | .non => .none
  | .bl b => .bool b
  | .int i => .int i
  | .str x => .str x
  | .tup xs => .tuple (toPys xs)
  | .lst xs => .list (toPys xs)
def toPys : List P → List PyData
  | [] => []
  | x :: xs => toPy x :: toPys xs
end
mutual
theorem eqP_py : ∀ x y : P, eqP x y = PyData.eqv (toPy x) (toPy y)
  | .non, y => by cases y <;> simp [eqP, toPy, PyData.eqv]
  | .bl b, y => by cases y <;> simp [eqP, toPy, PyData.eqv]
  | .int b, y => by cases y <;> simp [eqP, toPy, PyData.eqv]
  | .str b, y => by cases y <;> simp [eqP, toPy, PyData.eqv]
  | .tup xs, y => by cases y <;> simp [eqP, toPy, PyData.eqv, eqPs_py xs]
  | .lst xs, y => by cases y <;> simp [eqP, toPy, PyData.eqv, eqPs_py xs]
theorem eqPs_py : ∀ xs ys : List P, eqPs xs ys = PyData.eqvAll (toPys xs) (toPys ys)
  | [], ys => by cases ys <;> simp [eqPs, toPys, PyData.eqvAll]
  | x :: xs, ys => by cases ys <;> simp [eqPs, toPys, PyData.eqvAll, eqP_py x, eqPs_py xs]
end
theorem okS_ok {x : Str} (h : okS x = true) : PyData.strOk x = true := by
  unfold okS at h
  unfold PyData.strOk
  rw [← Array.all_toList]
  refine List.all_eq_true.mpr fun c hc => ?_
  have := of_decide_eq_true (List.all_eq_true.mp h c hc)
  exact decide_eq_true (by omega)
theorem toPys_eq : ∀ xs : List P, toPys xs = xs.map toPy
  | [] => rfl
  | x :: xs => by rw [toPys, toPys_eq xs]; rfl
theorem shp_ok : ∀ (n : Nat) (x : P), shp n x = true → (toPy x).canLay0 = true ∧ (toPy x).depth ≤ n
  | _, .non, _ => ⟨rfl, Nat.zero_le _⟩
  | _, .bl _, _ => ⟨rfl, Nat.zero_le _⟩
  | _, .int _, _ => ⟨rfl, Nat.zero_le _⟩
  | _, .str x, h => ⟨by
    have h : okS x = true := by unfold shp at h; exact h
    exact okS_ok h, Nat.zero_le _⟩
  | 0, .tup _, h => by simp [shp] at h
  | 0, .lst _, h => by simp [shp] at h
  | n + 1, .tup xs, h => by
    have h : xs.all (shp n) = true := by unfold shp at h; exact h
    have all : ∀ ys : List P, ys.all (shp n) = true → PyData.canLayAll0 (toPys ys) = true ∧ PyData.depthAll (toPys ys) ≤ n := by
      intro ys
      induction ys with
      | nil => intro _; exact ⟨rfl, Nat.zero_le _⟩
      | cons y ys ih =>
        intro hy
        rw [List.all_cons, Bool.and_eq_true] at hy
        obtain ⟨h1, h2⟩ := shp_ok n y hy.1
        obtain ⟨h3, h4⟩ := ih hy.2
        exact ⟨by simp [toPys, PyData.canLayAll0, h1, h3], Nat.max_le.mpr ⟨h2, h4⟩⟩
    obtain ⟨h1, h2⟩ := all xs h
    exact ⟨h1, Nat.succ_le_succ h2⟩
  | n + 1, .lst xs, h => by
    have h : xs.all (shp n) = true := by unfold shp at h; exact h
    have all : ∀ ys : List P, ys.all (shp n) = true → PyData.canLayAll0 (toPys ys) = true ∧ PyData.depthAll (toPys ys) ≤ n := by
      intro ys
      induction ys with
      | nil => intro _; exact ⟨rfl, Nat.zero_le _⟩
      | cons y ys ih =>
        intro hy
        rw [List.all_cons, Bool.and_eq_true] at hy
        obtain ⟨h1, h2⟩ := shp_ok n y hy.1
        obtain ⟨h3, h4⟩ := ih hy.2
        exact ⟨by simp [toPys, PyData.canLayAll0, h1, h3], Nat.max_le.mpr ⟨h2, h4⟩⟩
    obtain ⟨h1, h2⟩ := all xs h
    exact ⟨h1, Nat.succ_le_succ h2⟩
theorem shp_shaped {x : P} (h : shp 9 x = true) : SeqAt.shaped (toPy x) = true := by
  obtain ⟨h1, h2⟩ := shp_ok 9 x h
  unfold SeqAt.shaped
  rw [h1, decide_eq_true (by omega : (toPy x).depth ≤ 64)]
  rfl
section
variable {K : PySem.W.Frag} {av : List Addr} {H : Hp}
mutual
theorem RpP.dp : ∀ {v : V} {x : P}, RpP av H v x → Dp K H v (toPy x)
  | _, _, .non => .non
  | _, _, .bl b => .bl b
  | _, _, .int i => .int i
  | _, _, .str x => .str x
  | _, _, .tup h1 _ _ h4 => by rw [toPy]; exact .tup (.of h1) (RpPs.dp h4)
  | _, _, .lst h1 _ _ h4 => by rw [toPy]; exact .lst (.of h1) (RpPs.dp h4)
theorem RpPs.dp : ∀ {vs : List V} {xs : List P}, RpPs av H vs xs → DpAll K H vs (toPys xs)
  | _, _, .nil => .nil
  | _, _, .cons r t => .cons (RpP.dp r) (RpPs.dp t)
end
end
section
variable {T : Tb} {E : XK} {ι : Foot} {H : Hp} {S : Store} {Q : VK} {X : Cx}
theorem Rp.dp {v : V} {d : D} {x : P} (r : Rp T ι H v d) (hs : StOk ι S H) (e : view S d = some x) : Dp T.K H v (toPy x) := by
  cases d with
  | p y =>
    cases e
    cases r with
    | p r => exact r.dp
  | ref k =>
    unfold view at e
    cases q : S[k]? with
    | none => simp [q] at e
    | some c =>
      cases c with
      | lst ys =>
        simp [q] at e
        subst e
        obtain ⟨a, vs, rfl, _, h2, _, h5⟩ := r.cell hs q
        rw [toPy]
        exact .lst (.of h2) h5.dp
      | _ => simp [q] at e
  | scr ns =>
    cases e
    cases r with
    | scr h hz =>
      rw [toPy]
      exact .lst h.sq (RpPs.dp (av := ι.all) (.ofInts ns))
  | _ => cases e

def cmOf : Cm → CmpOp
  | .lt => .Lt | .le => .LtE | .gt => .Gt | .ge => .GtE | .eq => .Eq | .ne => .NotEq | .is => .Is | .isnot => .IsNot | .in_ => .In | .notin => .NotIn
def rInT (K : PySem.W.Frag) : R2 := fun x y H Q => ∃ d ds, Dp K H x d ∧ Dp K H y (.tuple ds) ∧ SeqAt.shaped d = true ∧ SeqAt.shaped (.tuple ds) = true ∧ Q (.bl (ds.any fun z => PyData.eqv z d)) H
def rNotInT (K : PySem.W.Frag) : R2 := fun x y H Q => ∃ d ds, Dp K H x d ∧ Dp K H y (.tuple ds) ∧ SeqAt.shaped d = true ∧ SeqAt.shaped (.tuple ds) = true ∧ Q (.bl (!ds.any fun z => PyData.eqv z d)) H
theorem op_inT (hu : X.A.units + 65 < cLine) : OpR X (compareOp .In) (rInT X.K) := by
  intro pins s σ H x y v u Q I rx ry h
  obtain ⟨d, ds, hd, he, sd, se, q⟩ := h
  obtain ⟨as, r1⟩ := Dp.reads I d x v hd rx
  obtain ⟨bs, r2⟩ := Dp.reads I (.tuple ds) y u he ry
  exact SeqAt.in_tuple_reads r2 r1 (SeqAt.canLay_of_shaped se) (SeqAt.canLay_of_shaped sd) (room_in_shaped sd hu) ⟨.bl _, H, I, rfl, q⟩
theorem op_notInT (hu : X.A.units + 65 < cLine) : OpR X (compareOp .NotIn) (rNotInT X.K) := by
  intro pins s σ H x y v u Q I rx ry h
  obtain ⟨d, ds, hd, he, sd, se, q⟩ := h
  obtain ⟨as, r1⟩ := Dp.reads I d x v hd rx
  obtain ⟨bs, r2⟩ := Dp.reads I (.tuple ds) y u he ry
  exact SeqAt.notIn_tuple_reads r2 r1 (SeqAt.canLay_of_shaped se) (SeqAt.canLay_of_shaped sd) (room_in_shaped sd hu) ⟨.bl _, H, I, rfl, q⟩
def rCmp (K : PySem.W.Frag) : Cm → R2
  | .lt => rI0 fun i j => .bl (decide (i < j))
  | .le => rI0 fun i j => .bl (decide (i ≤ j))
  | .gt => rI0 fun i j => .bl (decide (j < i))
  | .ge => rI0 fun i j => .bl (decide (j ≤ i))
  | .eq => rEqD K
  | .ne => rNeD K
  | .is => fun x y H Q => (y = .non ∧ Q (.bl (decide (x = .non))) H) ∨ rIsB x y H Q
  | .isnot => fun x y H Q => (y = .non ∧ Q (.bl (!decide (x = .non))) H) ∨ rNotB x y H Q
  | .in_ => fun x y H Q => rInD K x y H Q ∨ rInT K x y H Q
  | .notin => fun x y H Q => rNotInD K x y H Q ∨ rNotInT K x y H Q
theorem Room.u65 {k : Nat} {A : Around} (r : Room k A) : A.units + 65 < cLine := by have := r.un; omega
theorem op_cmp {k : Nat} (hr : Room k X.A) (c : Cm) : OpR X (compareOp (cmOf c)) (rCmp X.K c) := by
  cases c with
  | lt => exact op_lt
  | le => exact op_le
  | gt => exact op_gt
  | ge => exact op_ge
  | eq => exact op_eqD hr.units
  | ne => exact op_neD hr.units
  | is => exact op_isN.or op_isBl
  | isnot => exact op_notN.or op_notBl
  | in_ => exact (op_inD (Room.u65 hr)).or (op_inT (Room.u65 hr))
  | notin => exact (op_notInD (Room.u65 hr)).or (op_notInT (Room.u65 hr))
theorem any_py (x : P) : ∀ xs : List P, inP x xs = (toPys xs).any fun z => PyData.eqv z (toPy x)
  | [] => rfl
  | y :: ys => by
    have ih := any_py x ys
    unfold inP at ih ⊢
    rw [toPys, List.any_cons, List.any_cons, ih, eqP_py]
theorem isP_r {x y : P} {v u : V} {b : Bool} (r : RpP ι.all H v x) (s : RpP ι.all H u y) (e : isP x y = some b) : (u = .non ∧ decide (v = .non) = b) ∨ ∃ a c : Bool, v = .bl a ∧ u = .bl c ∧ decide (a = c) = b := by
  cases y with
  | non =>
    cases s
    cases r <;> (simp [isP] at e; subst e; exact .inl ⟨rfl, by simp⟩)
  | bl c =>
    cases s
    cases r <;> simp [isP] at e
    exact .inr ⟨_, _, rfl, rfl, by simpa using e⟩
  | _ => cases x <;> simp [isP] at e
theorem isP_view {a b : D} {x y : P} {v u : V} {c : Bool} (hs : StOk ι S H) (r : Rp T ι H v a) (s : Rp T ι H u b) (ea : view S a = some x) (eb : view S b = some y) (e : isP x y = some c) :
    (u = .non ∧ decide (v = .non) = c) ∨ ∃ a c' : Bool, v = .bl a ∧ u = .bl c' ∧ decide (a = c') = c := by
  have hy : ∀ zs, y ≠ .lst zs := fun zs h => by subst h; cases x <;> simp [isP] at e
  cases view_p eb hy
  by_cases hx : ∃ zs, x = .lst zs
  · obtain ⟨zs, rfl⟩ := hx
    obtain ⟨ad, vs, rfl, _⟩ := r.sqL hs ea
    cases y <;> simp [isP] at e
    subst e
    cases s with
    | p s => cases s; exact .inl ⟨rfl, by simp⟩
  · cases view_p ea (fun zs h => hx ⟨zs, h⟩)
    cases r with
    | p r => cases s with
      | p s => exact isP_r r s e
/-- comparisons by values -/
theorem cmp_r {c : Cm} {a b : D} {x y : V} {r : Bool} (hs : StOk ι S H) (ra : Rp T ι H x a) (rb : Rp T ι H y b) (e : cmp S c a b = some r) (h : Q (.bl r) H) : rCmp T.K c x y H Q := by
  unfold cmp at e
  cases ea : view S a with
  | none => simp [ea] at e
  | some p =>
    cases eb : view S b with
    | none => simp [ea, eb] at e
    | some q =>
      simp only [ea, eb] at e
      have I : (c = .lt ∨ c = .le ∨ c = .gt ∨ c = .ge) → ∃ i j, p = .int i ∧ q = .int j ∧ cmI c i j = some r := fun hc => by
        rcases hc with rfl | rfl | rfl | rfl <;>
        · simp only at e
          split at e
          · exact ⟨_, _, rfl, rfl, e⟩
          · cases e
      have I2 : (c = .lt ∨ c = .le ∨ c = .gt ∨ c = .ge) → ∃ i j, x = .int i ∧ y = .int j ∧ cmI c i j = some r := fun hc => by
        obtain ⟨i, j, hp, hq, e'⟩ := I hc
        rw [hp] at ea
        rw [hq] at eb
        cases view_p ea (fun _ => by simp)
        cases view_p eb (fun _ => by simp)
        exact ⟨i, j, ra.int, rb.int, e'⟩
      cases c with
      | lt => obtain ⟨i, j, rfl, rfl, e'⟩ := I2 (by simp); cases e'; exact ⟨i, j, rfl, rfl, h⟩
      | le => obtain ⟨i, j, rfl, rfl, e'⟩ := I2 (by simp); cases e'; exact ⟨i, j, rfl, rfl, h⟩
      | gt => obtain ⟨i, j, rfl, rfl, e'⟩ := I2 (by simp); cases e'; exact ⟨i, j, rfl, rfl, h⟩
      | ge => obtain ⟨i, j, rfl, rfl, e'⟩ := I2 (by simp); cases e'; exact ⟨i, j, rfl, rfl, h⟩
      | eq =>
        simp only at e
        split at e
        · rename_i c
          rw [Bool.and_eq_true] at c
          cases e
          exact ⟨toPy p, toPy q, ra.dp hs ea, rb.dp hs eb, shp_shaped c.1, shp_shaped c.2, by rw [← eqP_py]; exact h⟩
        · cases e
      | ne =>
        simp only at e
        split at e
        · rename_i c
          rw [Bool.and_eq_true] at c
          cases e
          exact ⟨toPy p, toPy q, ra.dp hs ea, rb.dp hs eb, shp_shaped c.1, shp_shaped c.2, by rw [← eqP_py]; exact h⟩
        · cases e
      | is =>
        simp only at e
        rcases isP_view hs ra rb ea eb e with ⟨h1, h2⟩ | ⟨a', c', h1, h2, h3⟩
        · exact .inl ⟨h1, by rw [h2]; exact h⟩
        · exact .inr ⟨a', c', h1, h2, by rw [h3]; exact h⟩
      | isnot =>
        simp only [Option.map_eq_some_iff] at e
        obtain ⟨r', e, rfl⟩ := e
        rcases isP_view hs ra rb ea eb e with ⟨h1, h2⟩ | ⟨a', c', h1, h2, h3⟩
        · exact .inl ⟨h1, by rw [h2]; exact h⟩
        · exact .inr ⟨a', c', h1, h2, by rw [h3]; exact h⟩
      | in_ =>
        simp only at e
        cases q with
        | lst ys =>
          simp only [seqOf] at e
          split at e
          · rename_i c
            rw [Bool.and_eq_true] at c
            cases e
            exact .inl ⟨toPy p, toPys ys, ra.dp hs ea, rb.dp hs eb, shp_shaped c.1, shp_shaped c.2, by rw [← any_py]; exact h⟩
          · cases e
        | tup ys =>
          simp only [seqOf] at e
          split at e
          · rename_i c
            rw [Bool.and_eq_true] at c
            cases e
            exact .inr ⟨toPy p, toPys ys, ra.dp hs ea, rb.dp hs eb, shp_shaped c.1, shp_shaped c.2, by rw [← any_py]; exact h⟩
          · cases e
        | _ => simp [seqOf] at e
      | notin =>
        simp only at e
        cases q with
        | lst ys =>
          simp only [seqOf] at e
          split at e
          · rename_i c
            rw [Bool.and_eq_true] at c
            cases e
            exact .inl ⟨toPy p, toPys ys, ra.dp hs ea, rb.dp hs eb, shp_shaped c.1, shp_shaped c.2, by rw [← any_py]; exact h⟩
          · cases e
        | tup ys =>
          simp only [seqOf] at e
          split at e
          · rename_i c
            rw [Bool.and_eq_true] at c
            cases e
            exact .inr ⟨toPy p, toPys ys, ra.dp hs ea, rb.dp hs eb, shp_shaped c.1, shp_shaped c.2, by rw [← any_py]; exact h⟩
          · cases e
        | _ => simp [seqOf] at e
end
end G9

/-! text E4 -/
/-! G9.E4: sum, max, min of a tuple; enumerate of a tuple. -/
namespace G9
open PySem PySem.Spec PyProof.Rows L2
section
variable {prog : Program} {w : World} {A : Around} {E : Value → Shared → Prop} {s : Shared} {l : Addr} {xs : Array (Int × Tok)} {its : List Value} {ns : List Int} {Q : Value → Shared → Prop}
theorem iter_intTup (hl : s.heap.IsTuple l (intItems xs))
    (h : ∀ s₂ : Shared, s₂ = { s with heap := s.heap.push { cls := .type "tuple_iterator", data := .fields #[.ref l, .int 0 0] } } →
      (s₂.heap.IsTupleIter s.heap.objs.size l 0 ∧ s₂.heap.IsTuple l (intItems xs)) → (∀ b ∈ [s.heap.objs.size, l], b < s₂.heap.objs.size) → l ≠ s.heap.objs.size → Q (.ref s.heap.objs.size) s₂) :
    wpAny (model prog w) A (pyIter (.ref l)) Q E s := by
  have hlt : l < s.heap.objs.size := by obtain ⟨_, e, _⟩ := hl; exact Heap.lt_size e
  refine wpAny_pyIter_tuple hl (h _ rfl ⟨⟨_, Heap.get?_push_size _ rfl, rfl, rfl⟩, hl.at fun o e => Heap.get?_push_of_some _ e⟩ (fun b hb => ?_) (Nat.ne_of_lt hlt))
  show b < (s.heap.push _).objs.size
  rw [Heap.size_push]
  rcases List.mem_cons.mp hb with rfl | hb
  · exact Nat.lt_succ_self _
  · rcases List.mem_cons.mp hb with rfl | hb
    · exact Nat.lt_succ_of_lt hlt
    · cases hb
theorem old_keptT {h' : Heap} (hk : ∀ b o, b ∉ [s.heap.objs.size] → (s.heap.push { cls := .type "tuple_iterator", data := .fields #[.ref l, .int 0 0] }).get? b = some o → h'.get? b = some o) :
    ∀ b o, s.heap.get? b = some o → h'.get? b = some o := fun b o e => by
  refine hk b o (fun hm => ?_) (Heap.get?_push_of_some _ e)
  rcases List.mem_cons.mp hm with e1 | hm
  · exact absurd (e1 ▸ Heap.lt_size e) (Nat.lt_irrefl _)
  · cases hm
theorem sum_rawT (hh : A.handled = none) (hl : s.heap.IsTuple l its.toArray) (hi : IntsAre its ns)
    (h : ∀ h' tk t', (∀ b o, s.heap.get? b = some o → h'.get? b = some o) → Q (.int ns.sum t') { s with heap := h', toks := tk }) : wpAny (model prog w) A (call (.builtin "sum") [.ref l]) Q E s := by
  obtain ⟨xs, e⟩ := hi.allInts.items
  have hn : numsOf (intItems xs).toList = ns := by rw [← e]; exact hi.numsOf
  rw [nums_intItems] at hn
  rw [e] at hl
  refine call_sum_walkG (iter_intTup hl fun s₂ e st hfp hlI => ?_)
  subst e
  refine ⟨_, _, _, _, _, _, numAt xs, rfl, Walks.tuple (A := A.in1) hh _ l hlI (intItems xs), st, hfp, (fun _ _ => intItems_at), fun h' tk t' hk => ?_⟩
  have := h h' tk t' (old_keptT hk)
  have e2 : preSum (numAt xs) (intItems xs).size = ns.sum := by rw [preSum_eq, List.take_of_length_le (by simp [intItems]), hn]
  rw [e2]
  exact this
theorem max_rawT (hh : A.handled = none) (hl : s.heap.IsTuple l its.toArray) (hi : IntsAre its ns) (hne : 0 < ns.length)
    (h : ∀ h' tk M t', (∀ b o, s.heap.get? b = some o → h'.get? b = some o) → M ∈ ns → (∀ a, a ∈ ns → a ≤ M) → Q (.int M t') { s with heap := h', toks := tk }) : wpAny (model prog w) A (call (.builtin "max") [.ref l]) Q E s := by
  obtain ⟨xs, e⟩ := hi.allInts.items
  have hn : numsOf (intItems xs).toList = ns := by rw [← e]; exact hi.numsOf
  rw [nums_intItems] at hn
  subst hn
  rw [e] at hl
  have hsz : 0 < xs.size := by simpa using hne
  refine call_max_walk (iter_intTup hl fun s₂ e st hfp hlI => ?_)
  subst e
  refine ⟨_, _, _, _, _, _, _, rfl, Walks.tuple (A := A.in1) hh _ l hlI (intItems xs), st, hfp, by simpa [intItems] using hsz, CmpOf.ints_gt (numAt xs) (fun _ _ => intItems_at), fun v h' tk hP hk => ?_⟩
  have hv : (intItems xs)[argBest (fun i j => decide (numAt xs i > numAt xs j)) (xs.size - 1)]? = some v := by simpa [intItems] using hP
  obtain ⟨t, rfl⟩ := intItems_at hv
  obtain ⟨h1, h2⟩ := argBest_gt (numAt xs) (xs.size - 1)
  refine h h' tk _ t (old_keptT hk) ?_ fun a ha => ?_
  · rw [numAt_eq]; exact PySem.getD_mem (by rw [List.length_map, Array.length_toList]; omega)
  · obtain ⟨j, hj, rfl⟩ := mem_getD ha
    rw [List.length_map, Array.length_toList] at hj
    rw [← numAt_eq]; exact h2 j (by omega)
theorem min_rawT (hh : A.handled = none) (hl : s.heap.IsTuple l its.toArray) (hi : IntsAre its ns) (hne : 0 < ns.length)
    (h : ∀ h' tk M t', (∀ b o, s.heap.get? b = some o → h'.get? b = some o) → M ∈ ns → (∀ a, a ∈ ns → M ≤ a) → Q (.int M t') { s with heap := h', toks := tk }) : wpAny (model prog w) A (call (.builtin "min") [.ref l]) Q E s := by
  obtain ⟨xs, e⟩ := hi.allInts.items
  have hn : numsOf (intItems xs).toList = ns := by rw [← e]; exact hi.numsOf
  rw [nums_intItems] at hn
  subst hn
  rw [e] at hl
  have hsz : 0 < xs.size := by simpa using hne
  refine call_min_walk (iter_intTup hl fun s₂ e st hfp hlI => ?_)
  subst e
  refine ⟨_, _, _, _, _, _, _, rfl, Walks.tuple (A := A.in1) hh _ l hlI (intItems xs), st, hfp, by simpa [intItems] using hsz, CmpOf.ints_lt (numAt xs) (fun _ _ => intItems_at), fun v h' tk hP hk => ?_⟩
  have hv : (intItems xs)[argBest (fun i j => decide (numAt xs i < numAt xs j)) (xs.size - 1)]? = some v := by simpa [intItems] using hP
  obtain ⟨t, rfl⟩ := intItems_at hv
  obtain ⟨h1, h2⟩ := argBest_lt (numAt xs) (xs.size - 1)
  refine h h' tk _ t (old_keptT hk) ?_ fun a ha => ?_
  · rw [numAt_eq]; exact PySem.getD_mem (by rw [List.length_map, Array.length_toList]; omega)
  · obtain ⟨j, hj, rfl⟩ := mem_getD ha
    rw [List.length_map, Array.length_toList] at hj
    rw [← numAt_eq]; exact h2 j (by omega)
end
section
variable {X : Cx}
def rSumT (K : PySem.W.Frag) : List V → Hp → VK → Prop := fun vs H Q => ∃ (a : Addr) (ns : List Int), vs = [V.ref a] ∧ SqT K H a (ns.map V.int) ∧ Q (.int ns.sum) H
def rMaxT (K : PySem.W.Frag) : List V → Hp → VK → Prop := fun vs H Q => ∃ (a : Addr) (ns : List Int), vs = [V.ref a] ∧ SqT K H a (ns.map V.int) ∧ 0 < ns.length ∧ ∀ m, m ∈ ns → (∀ y, y ∈ ns → y ≤ m) → Q (.int m) H
def rMinT (K : PySem.W.Frag) : List V → Hp → VK → Prop := fun vs H Q => ∃ (a : Addr) (ns : List Int), vs = [V.ref a] ∧ SqT K H a (ns.map V.int) ∧ 0 < ns.length ∧ ∀ m, m ∈ ns → (∀ y, y ∈ ns → m ≤ y) → Q (.int m) H
theorem cr_sumT (hc : X.calm = true) : CallR X (.builtin "sum") (rSumT X.K) := by
  intro pins s σ H vs us Q I r h
  obtain ⟨a, ns, rfl, hs, q⟩ := h
  obtain ⟨its, rv, hl, _⟩ := I.tuple hs
  rw [Vals.ref1 r]
  exact sum_rawT (I.ok.hd hc) hl rv.ints fun h' tk t' hk => ⟨.int _, H, I.kept hk, ⟨_, rfl⟩, q⟩
theorem cr_maxT (hc : X.calm = true) : CallR X (.builtin "max") (rMaxT X.K) := by
  intro pins s σ H vs us Q I r h
  obtain ⟨a, ns, rfl, hs, hne, q⟩ := h
  obtain ⟨its, rv, hl, _⟩ := I.tuple hs
  rw [Vals.ref1 r]
  exact max_rawT (I.ok.hd hc) hl rv.ints hne fun h' tk m t' hk h1 h2 => ⟨.int _, H, I.kept hk, ⟨_, rfl⟩, q m h1 h2⟩
theorem cr_minT (hc : X.calm = true) : CallR X (.builtin "min") (rMinT X.K) := by
  intro pins s σ H vs us Q I r h
  obtain ⟨a, ns, rfl, hs, hne, q⟩ := h
  obtain ⟨its, rv, hl, _⟩ := I.tuple hs
  rw [Vals.ref1 r]
  exact min_rawT (I.ok.hd hc) hl rv.ints hne fun h' tk m t' hk h1 h2 => ⟨.int _, H, I.kept hk, ⟨_, rfl⟩, q m h1 h2⟩
end

/-! ### enumerate(a tuple) -/
theorem meets_enumerate_newT (l : Addr) (items : Array Value) (n : Nat) (dct : Option Addr) (sl : Array (Option Value)) :
    Meets (Builtin.«enumerate.__new__» ⟨[.type "enumerate", .ref l], []⟩) (fun _ R s => s.heap.get? l = some { cls := .type "tuple", dict := dct, data := .seq items n, slots := sl } ∧
      R (.ok (.ret (.ref (s.heap.push { cls := .type "tuple_iterator", data := .fields #[.ref l, .int 0 0] }).objs.size)))
        { s with heap := (s.heap.push { cls := .type "tuple_iterator", data := .fields #[.ref l, .int 0 0] }).push { cls := .type "enumerate", data := .fields #[.none, .bool false, .ref s.heap.objs.size, rawInt 0, .none, .none] } }) :=
  .of_wp fun prog w A R s h => by
    obtain ⟨hp, g, d, tk, os⟩ := s; obtain ⟨hl, h⟩ := h
    have hsub := sub_enumerate
    have hL : Heap.IsTuple (Shared.heap ⟨hp, g, d, tk, os⟩) l items := ⟨_, hl, rfl, n, rfl⟩
    wp_walk using AutoSeq1.wpAny_loadPart' hl
    refine wpAny_stack_any fun st => wpAny_pure ?_
    split
    · rename_i c _ _ _ _ _
      cases (c == Value.type "enumerate")
      · wp_walk using AutoSeq1.wpAny_loadPart' hl, wpAny_pyIter_tuple hL
        exact ⟨_, rfl, h⟩
      · wp_walk using AutoSeq1.wpAny_loadPart' hl, wpAny_pyIter_tuple hL
        exact ⟨_, rfl, h⟩
    · wp_walk using AutoSeq1.wpAny_loadPart' hl, wpAny_pyIter_tuple hL
      exact ⟨_, rfl, h⟩
theorem call_enumerate_tuple {prog : Program} {w : World} {A : Around} {E : Value → Shared → Prop} {s : Shared} {l : Addr} {items : Array Value} {Q : Value → Shared → Prop} (hL : s.heap.IsTuple l items)
    (h : ∀ h', IsEnum h' (s.heap.objs.size + 1) s.heap.objs.size 0 .none → h'.IsTupleIter s.heap.objs.size l 0 → h'.objs.size = s.heap.objs.size + 2 →
      (∀ b o, s.heap.get? b = some o → h'.get? b = some o) → Q (.ref (s.heap.objs.size + 1)) { s with heap := h' }) :
    wpAny (model prog w) A (call (.type "enumerate") [.ref l]) Q E s := by
  obtain ⟨⟨c, dct, dt, sl⟩, hl, hc, n, hd⟩ := hL
  replace hc : c = .type "tuple" := hc
  replace hd : dt = .seq items n := hd
  subst hc hd
  refine callType_new F.called_enumerate (by decide) (F.typeCall_enumerate_1 _) (F.newCall_enumerate_1 _) (fun obj => F.args_object_init_2 obj _) F.entry_enumerate_new
    (meets_enumerate_newT l items n dct sl) ⟨hl, ?_⟩
  have hz : (s.heap.push { cls := .type "tuple_iterator", data := .fields #[.ref l, .int 0 0] }).objs.size = s.heap.objs.size + 1 := Heap.size_push ..
  show _ ∧ _
  rw [hz]
  have he : IsEnum ((s.heap.push { cls := .type "tuple_iterator", data := .fields #[.ref l, .int 0 0] }).push
      { cls := .type "enumerate", data := .fields #[.none, .bool false, .ref s.heap.objs.size, rawInt 0, .none, .none] }) (s.heap.objs.size + 1) s.heap.objs.size 0 .none := by
    have := Heap.get?_push_size (s.heap.push { cls := .type "tuple_iterator", data := .fields #[.ref l, .int 0 0] })
      (o := { cls := .type "enumerate", data := .fields #[.none, .bool false, .ref s.heap.objs.size, rawInt 0, .none, .none] }) rfl
    rw [hz] at this; exact this
  refine ⟨⟨_, he, rfl⟩, h _ he ⟨_, Heap.get?_push_of_some _ (Heap.get?_push_size _ rfl), rfl, rfl⟩ (by rw [Heap.size_push, hz]) fun b o x => Heap.get?_push_of_some _ (Heap.get?_push_of_some _ x)⟩
/-- the tuple at a, its items in new pairs -/
def IteT (K : PySem.W.Frag) (a : Addr) : L2.It :=
  ⟨fun i H => ∃ (xs : List V) (x : V), SqT K H a xs ∧ xs[i]? = some x, fun i H v H' => ∃ T x, v = .ref T ∧ H T = none ∧ H' = upd H T (.tup [.int (i : Nat), x]) ∧ ∀ xs, SqT K H a xs → xs[i]? = some x, fun i H => ∃ xs : List V, SqT K H a xs ∧ xs.length ≤ i⟩
theorem turn_enumT {P : Program} {w : World} {K : PySem.W.Frag} {elts : List Expr} {kk : Nat} {tpos : Pos} (a e it : Addr) :
    Turn P w K (.Tuple elts kk tpos) (IteT K a) [e, it] e (fun i h => (∃ old, IsEnum h e it ((i : Nat) : Int) old) ∧ h.IsTupleIter it a i ∧ e ≠ it) where
  mem := by simp
  obj := fun i h st b hb => by
    obtain ⟨⟨old, he⟩, ⟨o, ho, hc, hd⟩, _⟩ := st
    have e' : b = e ∨ b = it := by simpa using hb
    rcases e' with z | z
    · rw [z]; exact ⟨_, he, fun v q => nomatch q⟩
    · rw [z]; exact ⟨o, ho, fun v q => by rw [hd] at q; cases q⟩
  keep := fun i h h' st k => let ⟨⟨old, he⟩, hi, hne⟩ := st; ⟨⟨old, k e (by simp) _ he⟩, hi.at fun o q => k it (by simp) o q, hne⟩
  item := by
    intro X hP hw hK hc i pins s σ H E I hf st hg
    subst hP hw hK
    obtain ⟨⟨old, he⟩, hit, hne⟩ := st
    obtain ⟨xs, x, hq, hx⟩ := hg
    obtain ⟨its, rv, p, hz⟩ := I.tuple hq
    obtain ⟨u, hu, ru⟩ := rv.get hx
    have hel : e < s.heap.objs.size := Heap.lt_size he
    have hil : it < s.heap.objs.size := by obtain ⟨_, q, _⟩ := hit; exact Heap.lt_size q
    have hai : a ≠ it := fun z => by
      obtain ⟨o1, q1, c1, _⟩ := hit
      obtain ⟨o2, q2, c2, _⟩ := p
      rw [z, q1] at q2; cases q2
      rw [c1] at c2; exact absurd c2 (by decide)
    have hae : e ≠ a := fun z => by
      have q1 : s.heap.get? e = some _ := he
      obtain ⟨o2, q2, c2, _⟩ := p
      rw [← z, q1] at q2; cases q2
      exact absurd (show Value.type "enumerate" = Value.type "tuple" from c2) (by decide)
    refine wpAny_pyNext_enum_itemD (Draws.tuple (A := X.A.in1) (I.ok.hd hc) it a hai its.toArray) he ⟨hit, p⟩ (by rw [List.size_toArray]; exact (List.getElem?_eq_some_iff.mp hu).1) hne (by simp [hne, hae]) fun x' h' tk hP ho hst hT hsz hk => ?_
    have ex : x' = u := by
      have z : its.toArray[i]? = some x' := hP
      rw [List.getElem?_toArray, hu] at z
      exact (Option.some.inj z).symm
    subst ex
    refine ⟨_, rfl, wpAny_letOwnedTupleGo_enum (s := { s with heap := h', toks := tk + 1 }) ho fun h'' he' sb => ?_⟩
    have hT2 : h''.get? s.heap.objs.size = some { cls := .type "tuple", data := .seq #[.int i tk, x'] } := (sb.2 _ (Nat.ne_of_gt hel)).trans hT
    have new : ObjOk X.prog X.w (upd H s.heap.objs.size (.tup [.int (i : Nat), x])) h'' s.heap.objs.size (.tup [.int (i : Nat), x]) :=
      ⟨by show 2 ≤ sizeLine; decide, [.int i tk, x'], .cons ⟨_, rfl⟩ (.cons ru .nil), ⟨_, hT2, rfl, _, rfl⟩⟩
    have I1 : Inv X pins σ (upd H s.heap.objs.size (.tup [.int (i : Nat), x])) { s with heap := h'', toks := tk + 1 } :=
      I.turnedNew (ch := [e, it]) (fun b ob hb q => (sb.2 b (fun z => hb (by simp [z]))).trans (hk b ob (fun z => hb (by simp [z])) (fun z => hb (by simp [z])) q)) hf (Nat.le_refl _) new
    refine ⟨.ref s.heap.objs.size, _, I1, rfl, ⟨_, x, rfl, I.hok.fresh (Nat.le_refl _), rfl, fun ys hy => by rw [I.tuple_inj hy hq]; exact hx⟩, ⟨⟨x', ?_⟩, hst.1.at fun o q => (sb.2 it (Ne.symm hne)).trans q, hne⟩, fun b hb => ?_⟩
    · have e1 : ((i + 1 : Nat) : Int) = (i : Int) + 1 := by omega
      rw [e1]; exact he'
    · have hb' : b < s.heap.objs.size := by
        have e' : b = e ∨ b = it := by simpa using hb
        rcases e' with z | z
        · rw [z]; exact hel
        · rw [z]; exact hil
      rw [upd_ne (Nat.ne_of_lt hb')]
      exact (hf b hb).1
  done := by
    intro X hP hw hK hc i pins s σ H E I hf st hg
    subst hP hw hK
    obtain ⟨⟨old, he⟩, hit, hne⟩ := st
    obtain ⟨xs, hq, hx⟩ := hg
    obtain ⟨its, rv, p, hz⟩ := I.tuple hq
    obtain ⟨f0, f1, f2, f3, f4, f5⟩ := hf it (by simp)
    have hl := rv.length
    have hT : s.TypeIs (.ref e) "enumerate" := ⟨_, he, rfl⟩
    unfold pyNext
    refine wpAny_bind (wpAny_attempt (wpAny_callSpecial?_slot (name := Str.ofString "__next__") hT F.slot_enumerate_next
      (wpAny_call_entry F.slot_enumerate_next hT F.entry_enumerate_next ?_ (F.args_enumerate_next_1 _))))
    show wpAny _ _ (field (.ref e) 2 >>= _) _ _ _
    refine wpAny_bind (wpAny_field he rfl (x := .ref it) rfl ?_)
    refine wpAny_bind (wpAny_nextOf_tuple_end (I.ok.hd hc) hit p (by simp; omega) fun h' x he' hx' => ?_)
    obtain ⟨o, ho, hcc⟩ := hx'
    refine wpAny_bind (wpAny_isInstance (T := "StopIteration") (b := true) ⟨o, ho, hcc⟩ isSubtype_stop ?_)
    exact wpAny_pure ⟨rfl, I.turned (t' := s.toks) (fun b o hb q => he' b o hb q) f0 f1 f3 f4 f5⟩
  self := fun A i s Q E st h => let ⟨⟨_, he⟩, _⟩ := st; wpAny_pyIter_enum he h
theorem enum_it {X : Cx} {tpos : Pos} {elts : List Expr} {kk : Nat} {pins : List (Addr × Obj)} {σ : L2.St} {H : Hp} {s : Shared} {R : L2.It → Hp → Prop} {E : Value → Shared → Prop} {a : Addr} {xs : List V} (I : Inv X pins σ H s) (hq : SqT X.K H a xs) (q : R (IteT X.K a) H) :
    wpAny (model X.prog X.w) X.A (call (.type "enumerate") [.ref a]) (fun v s1 => wpAny (model X.prog X.w) X.A (pyIter v) (PIE X pins σ (.Tuple elts kk tpos) R) E s1) E s := by
  obtain ⟨its, rv, p', hz⟩ := I.tuple hq
  refine call_enumerate_tuple p' fun h' he hit hsz hk => wpAny_pyIter_enum he ?_
  have I2 : Inv X pins σ H { s with heap := h' } := I.kept (t' := s.toks) hk
  refine ⟨s.heap.objs.size + 1, [s.heap.objs.size + 1, s.heap.objs.size], _, _, H, rfl, I2, turn_enumT a (s.heap.objs.size + 1) s.heap.objs.size, ⟨⟨.none, he⟩, hit, Nat.succ_ne_self _⟩, fun b hb => ?_, q⟩
  have e' : b = s.heap.objs.size + 1 ∨ b = s.heap.objs.size := by simpa using hb
  have hle : s.heap.objs.size ≤ b := by
    rcases e' with z | z
    · rw [z]; exact Nat.le_add_right _ _
    · rw [z]; exact Nat.le_refl _
  exact I.fpOk hle (I.hok.fresh hle)
def iEnumA (K : PySem.W.Frag) (ta : TA) : TI := fun σ H R => ta σ H fun vs H1 => ∃ a xs, vs = [.ref a] ∧ ((SqL K H1 a xs ∧ R (Ite K a) H1) ∨ (SqT K H1 a xs ∧ R (IteT K a) H1))
theorem pi_enumA {X : Cx} {e : Expr} {ta : TA} {p pos tpos : Pos} {elts : List Expr} {kk : Nat} (hg : Gl X "enumerate") (hm : X.mg "enumerate" = none) (ha : PA X [e] ta) (hs : starEach [e] X.env = [(false, eval e X.env)]) :
    PI X (.Tuple elts kk tpos) (.Call (.Name "enumerate" p) [e] [] pos) (iEnumA X.K ta) := by
  refine ⟨fun pins s σ H R I h => ?_⟩
  refine Call_ (ld_blt I hg hm boot_enumerate (PyProof.Rows.callWith_type1 (thn (ha.run pos pins s σ H _ I h) fun us s1 ⟨vs, H1, I1, r1, q1⟩ => ?_) hs rfl))
  obtain ⟨a, xs, ex, hq⟩ := q1
  subst ex
  cases r1 with
  | cons r rr =>
    cases rr
    cases r
    rcases hq with ⟨hq, q⟩ | ⟨hq, q⟩
    · obtain ⟨its, rv, p', hz⟩ := I1.list hq
      refine call_enumerate_list p'.isList fun h' he hit hsz hk => wpAny_pyIter_enum he ?_
      have I2 : Inv X pins σ H1 { s1 with heap := h' } := I1.kept (t' := s1.toks) hk
      refine ⟨s1.heap.objs.size + 1, [s1.heap.objs.size + 1, s1.heap.objs.size], _, _, H1, rfl, I2, turn_enum a (s1.heap.objs.size + 1) s1.heap.objs.size, ⟨⟨.none, he⟩, hit, Nat.succ_ne_self _⟩, fun b hb => ?_, q⟩
      have e' : b = s1.heap.objs.size + 1 ∨ b = s1.heap.objs.size := by simpa using hb
      have hle : s1.heap.objs.size ≤ b := by
        rcases e' with z | z
        · rw [z]; exact Nat.le_add_right _ _
        · rw [z]; exact Nat.le_refl _
      exact I1.fpOk hle (I1.hok.fresh hle)
    · exact enum_it I1 hq q
end G9

/-! text E5 -/
/-! G9.E5: len(set(..)) of ints; sorted. -/
namespace G9
open PySem PySem.Spec PyProof.Rows L2

theorem dedup_mem {x : Int} : ∀ {ns : List Int}, x ∈ dedup ns ↔ x ∈ ns
  | [] => by simp [dedup]
  | n :: r => by
    unfold dedup
    split
    · rename_i h
      rw [dedup_mem (ns := r), List.mem_cons]
      exact ⟨.inr, fun q => q.elim (fun e => by rw [e]; exact h) id⟩
    · rw [List.mem_cons, List.mem_cons, dedup_mem (ns := r)]
theorem dedup_nodup : ∀ ns : List Int, (dedup ns).Nodup
  | [] => List.nodup_nil
  | n :: r => by
    unfold dedup
    split
    · exact dedup_nodup r
    · rename_i h
      exact List.nodup_cons.mpr ⟨fun q => h (dedup_mem.mp q), dedup_nodup r⟩
theorem dedup_len {ns ms : List Int} (hn : ms.Nodup) (h : ∀ x, x ∈ ms ↔ x ∈ ns) : ms.length = (dedup ns).length :=
  ((List.perm_ext_iff_of_nodup hn (dedup_nodup ns)).mpr fun x => (h x).trans dedup_mem.symm).length_eq
theorem firstMet_spec (val : Nat → Int) : ∀ i, (PyProof.Rows.firstMet val i).Nodup ∧ ∀ x, x ∈ PyProof.Rows.firstMet val i ↔ ∃ j, j < i ∧ val j = x
  | 0 => ⟨by rw [PyProof.Rows.firstMet_zero]; exact List.nodup_nil, fun x => by rw [PyProof.Rows.firstMet_zero]; simp⟩
  | i + 1 => by
    obtain ⟨h1, h2⟩ := firstMet_spec val i
    rw [PyProof.Rows.firstMet_succ]
    unfold step_dedup
    have key : ∀ x, (∃ j, j < i + 1 ∧ val j = x) ↔ (∃ j, j < i ∧ val j = x) ∨ val i = x := fun x => by
      constructor
      · rintro ⟨j, hj, e⟩
        by_cases q : j = i
        · exact .inr (by rw [← q]; exact e)
        · exact .inl ⟨j, by omega, e⟩
      · rintro (⟨j, hj, e⟩ | e)
        · exact ⟨j, by omega, e⟩
        · exact ⟨i, by omega, e⟩
    split
    · rename_i h
      obtain ⟨y, hy, ey⟩ := List.any_eq_true.mp h
      have ey : y = val i := eq_of_beq ey
      refine ⟨h1, fun x => ?_⟩
      rw [key, ← h2]
      exact ⟨.inl, fun q => q.elim id fun e => by rw [← e, ← ey]; exact hy⟩
    · rename_i h
      have no : val i ∉ PyProof.Rows.firstMet val i := fun q => h (List.any_eq_true.mpr ⟨_, q, beq_self_eq_true _⟩)
      refine ⟨?_, fun x => ?_⟩
      · rw [List.nodup_append]
        refine ⟨h1, List.nodup_cons.mpr ⟨by simp, List.nodup_nil⟩, fun a ha b hb => ?_⟩
        have : b = val i := by simpa using hb
        rw [this]
        intro e
        rw [e] at ha
        exact no ha
      · rw [key, List.mem_append, h2]
        simp [eq_comm]
theorem firstMet_len (ns : List Int) : (PyProof.Rows.firstMet (fun i => ns.getD i 0) ns.length).length = (dedup ns).length := by
  obtain ⟨h1, h2⟩ := firstMet_spec (fun i => ns.getD i 0) ns.length
  refine dedup_len h1 fun x => ?_
  rw [h2]
  constructor
  · rintro ⟨j, hj, e⟩
    rw [← e]
    simp only [List.getD_eq_getElem?_getD, List.getElem?_eq_getElem hj, Option.getD_some]
    exact List.getElem_mem hj
  · intro hx
    obtain ⟨j, hj, e⟩ := List.mem_iff_getElem.mp hx
    exact ⟨j, hj, by simp [List.getElem?_eq_getElem hj, e]⟩
def tLenSet2 (K : PySem.W.Frag) (ta : TE) : TE := fun σ H Q => ta σ H fun x H1 => ∃ (l : Addr) (ns : List Int), x = .ref l ∧ (SqL K H1 l (ns.map V.int) ∨ SqT K H1 l (ns.map V.int)) ∧ ns.length ≤ 60 ∧ Q (.int ((dedup ns).length : Nat)) H1
theorem dedup_le (ns : List Int) : (dedup ns).length ≤ ns.length := by
  induction ns with
  | nil => exact Nat.le_refl _
  | cons n r ih =>
    unfold dedup
    split
    · exact Nat.le_succ_of_le ih
    · exact Nat.succ_le_succ ih
theorem pe_lenSet2 {X : Cx} {a : Expr} {ta : TE} {p p2 q pos : Pos} (hg : Gl X "len") (hm : X.mg "len" = none) (hg2 : Gl X "set") (hm2 : X.mg "set" = none) (ha : PE X a ta) (hc : X.calm = true)
    (na : starEach [a] X.env = (false, eval a X.env) :: starEach [] X.env) : PE X (.Call (.Name "len" p) [.Call (.Name "set" p2) [a] [] q] [] pos) (tLenSet2 X.K ta) := by
  refine ⟨fun pins s σ H Q I h => ?_⟩
  refine Call_ (ld_blt I hg hm boot_len ?_)
  refine PyProof.Rows.callWith_builtin1 (PyProof.Rows.args_cons ?_ rfl) rfl rfl
  refine Call_ (ld_blt I hg2 hm2 boot_set ?_)
  refine PyProof.Rows.callWith_type1 (PyProof.Rows.args_cons (thn (ha.run pins s σ H _ I h) fun v s1 ⟨x, H1, I1, r1, q1⟩ => PyProof.Rows.args_nil ?_) na) na rfl
  obtain ⟨l, ns, rfl, hq, hl, q1⟩ := q1
  cases r1
  rcases hq with hq | hq
  · obtain ⟨its, r, pl, hz⟩ := I1.list hq
    have hlen : its.toArray.size = ns.length := by rw [List.size_toArray, ← r.length, List.length_map]
    refine call_set_list (I1.ok.hd hc) pl.isList (by simpa using RZ.intsAre_vals r) (by rw [hlen]; unfold scanBound; omega) fun h' tk hS hk => ?_
    refine PyProof.Rows.args_nil ?_
    rw [hlen, firstMet_len] at hS
    obtain ⟨o, es, ep, t, ho, hex, hd, _, _, _, hf, hn⟩ := hS
    have I2 : Inv X pins σ H1 { s1 with heap := h', toks := tk } := I1.kept fun b o e => hk b o (Heap.lt_size e) e
    have hle := dedup_le ns
    exact call_len_set ho hex hd hf (by rw [hn] <;> omega) ⟨.int ((dedup ns).length : Nat), H1, I2.tok _, ⟨_, by rw [hn]⟩, q1⟩
  · obtain ⟨its, rv, pt, hz⟩ := I1.tuple hq
    have hi : IntsAre its.toArray.toList ns := ints_of_vals rv
    refine call_set_tupI ns (I1.ok.hd hc) (show s1.heap.IsTuple l its.toArray from pt) hi (by unfold scanBound; omega) fun h' tk c R1 hcn k => ?_
    refine PyProof.Rows.args_nil ?_
    have I2 : Inv X pins σ H1 { s1 with heap := h', toks := tk } := I1.kept k
    obtain ⟨o, es, ep, t, ho, hex, hdt, g, nd, hm2, hb, hf, hn, hr, hl2⟩ := R1
    have hle := dedup_le ns
    have hl3 : es.size = (dedup ns).length := by
      rw [← dedup_len nd fun k => by rw [← hm2 k, decide_eq_true_eq], List.length_map, Array.length_toList]
    exact call_len_set ho hex hdt hf (by omega) ⟨.int ((dedup ns).length : Nat), H1, I2.tok _, ⟨_, by rw [hl3]⟩, q1⟩

/-! ### pairs of an int and a tuple of ints, sorted -/
def PN (h : Heap) (v : Value) (i : Int) (ms : List Int) : Prop := ∃ a o t b n its, v = .ref a ∧ h.get? a = some o ∧ o.cls = .type "tuple" ∧ o.data = .seq #[.int i t, .ref b] n ∧ IsTup h b its ∧ IntsAre its.toList ms
theorem PN.keeps {h h' : Heap} {v : Value} {x : Int} {y : List Int} (p : PN h v x y) (k : ∀ b o, h.get? b = some o → o.cls = .type "tuple" → h'.get? b = some o) : PN h' v x y := by
  obtain ⟨a, o, t, b, n, its, e, ho, hc, hd, ⟨o2, h2, c2, d2⟩, hi⟩ := p
  exact ⟨a, o, t, b, n, its, e, k _ _ ho hc, hc, hd, ⟨o2, k _ _ h2 c2, c2, d2⟩, hi⟩
def lexN (p q : Int × List Int) : Bool := if p.1 = q.1 then HT.lexLt p.2 q.2 else decide (p.1 < q.1)
theorem lexLt_asym : ∀ a b : List Int, HT.lexLt a b = true → HT.lexLt b a = false
  | [], [], _ => rfl
  | [], _ :: _, _ => rfl
  | _ :: _, [], h => by cases h
  | x :: a, y :: b, h => by
    rw [HT.lexLt_cons] at h ⊢
    by_cases e : x = y
    · rw [if_pos e] at h; rw [if_pos e.symm]; exact lexLt_asym a b h
    · rw [if_neg e, decide_eq_true_eq] at h; rw [if_neg (Ne.symm e), decide_eq_false_iff_not]; omega
theorem lexLt_tr : ∀ a b c : List Int, HT.lexLt b a = false → HT.lexLt c b = false → HT.lexLt c a = false
  | [], [], c, _, h => h
  | [], _ :: _, [], _, h => by cases h
  | [], _ :: _, _ :: _, _, _ => rfl
  | _ :: _, [], _, h, _ => by cases h
  | _ :: _, _ :: _, [], _, h => by cases h
  | x :: a, y :: b, z :: c, h1, h2 => by
    rw [HT.lexLt_cons] at h1 h2 ⊢
    by_cases e1 : y = x
    · rw [if_pos e1] at h1
      by_cases e2 : z = y
      · rw [if_pos e2] at h2; rw [if_pos (e2.trans e1)]; exact lexLt_tr a b c h1 h2
      · rw [if_neg e2, decide_eq_false_iff_not] at h2; rw [if_neg (fun q => e2 (q.trans e1.symm)), decide_eq_false_iff_not]; omega
    · rw [if_neg e1, decide_eq_false_iff_not] at h1
      by_cases e2 : z = y
      · rw [if_neg (fun q => e1 (e2.symm.trans q)), decide_eq_false_iff_not]; omega
      · rw [if_neg e2, decide_eq_false_iff_not] at h2
        have e3 : z ≠ x := fun q => by omega
        rw [if_neg e3, decide_eq_false_iff_not]; omega
theorem swo_lexN {α : Type} (k : α → Int × List Int) : SrtO.Swo fun v u => lexN (k v) (k u) := by
  refine ⟨fun x y h => ?_, fun x y z h1 h2 => ?_⟩
  · simp only [lexN] at h ⊢
    by_cases e : (k x).1 = (k y).1
    · rw [if_pos e] at h; rw [if_pos e.symm]; exact lexLt_asym _ _ h
    · rw [if_neg e, decide_eq_true_eq] at h; rw [if_neg (Ne.symm e), decide_eq_false_iff_not]; omega
  · simp only [lexN] at h1 h2 ⊢
    by_cases e1 : (k y).1 = (k x).1
    · rw [if_pos e1] at h1
      by_cases e2 : (k z).1 = (k y).1
      · rw [if_pos e2] at h2; rw [if_pos (e2.trans e1)]; exact lexLt_tr _ _ _ h1 h2
      · rw [if_neg e2, decide_eq_false_iff_not] at h2; rw [if_neg (fun q => e2 (q.trans e1.symm)), decide_eq_false_iff_not]; omega
    · rw [if_neg e1, decide_eq_false_iff_not] at h1
      by_cases e2 : (k z).1 = (k y).1
      · rw [if_neg (fun q => e1 (e2.symm.trans q)), decide_eq_false_iff_not]; omega
      · rw [if_neg e2, decide_eq_false_iff_not] at h2
        rw [if_neg (fun q => by omega), decide_eq_false_iff_not]; omega
theorem reads_ints {h : Heap} : ∀ {its : List Value} {ms : List Int}, IntsAre its ms → ∃ as, ReadsAll h its (ms.map PyData.int) as
  | _, _, .nil => ⟨_, .nil⟩
  | _, _, .cons n t r => let ⟨as, q⟩ := reads_ints r; ⟨_, .cons (Reads.int n t) q⟩
theorem eqvAll_ints : ∀ ms ns : List Int, PyData.eqvAll (ms.map PyData.int) (ns.map PyData.int) = decide (ms = ns)
  | [], [] => rfl
  | [], _ :: _ => rfl
  | _ :: _, [] => rfl
  | m :: ms, n :: ns => by
    show (PyData.eqv (.int m) (.int n) && PyData.eqvAll (ms.map PyData.int) (ns.map PyData.int)) = _
    rw [eqvAll_ints ms ns]
    show ((m == n) && decide (ms = ns)) = _
    by_cases e : m = n <;> by_cases e2 : ms = ns <;> simp [e, e2]
theorem canLay_ints : ∀ ms : List Int, PyData.canLayAll0 (ms.map PyData.int) = true ∧ PyData.depthAll (ms.map PyData.int) = 0
  | [] => ⟨rfl, rfl⟩
  | m :: ms => by
    obtain ⟨h1, h2⟩ := canLay_ints ms
    exact ⟨by show (true && PyData.canLayAll0 (ms.map PyData.int)) = true; rw [h1]; rfl, by show max 0 (PyData.depthAll (ms.map PyData.int)) = 0; rw [h2]; rfl⟩
section
variable {prog : Program} {w : World} {A : Around} {E : Value → Shared → Prop} {s : Shared}
theorem eqAt_tupInts {b b' : Addr} {its its' : Array Value} {ms ms' : List Int} (hu : A.units + 64 < cLine) (h1 : IsTup s.heap b its) (h2 : IsTup s.heap b' its') (i1 : IntsAre its.toList ms) (i2 : IntsAre its'.toList ms') : SeqAt.EqAt A s (.ref b) (.ref b') (decide (ms = ms')) := by
  obtain ⟨o, ho, hc, n, hd⟩ := h1
  obtain ⟨o', ho', hc', n', hd'⟩ := h2
  obtain ⟨as, r1⟩ := reads_ints (h := s.heap) i1
  obtain ⟨bs, r2⟩ := reads_ints (h := s.heap) i2
  have q := SeqAt.eqAt_reads (.tuple (ms.map PyData.int)) (.tuple (ms'.map PyData.int)) A s (.ref b) (.ref b') _ _ (Reads.tuple ho hc hd r1) (Reads.tuple ho' hc' hd' r2) (canLay_ints ms).1 (canLay_ints ms').1
    (by show A.units + min (PyData.depthAll (ms.map PyData.int) + 1) (PyData.depthAll (ms'.map PyData.int) + 1) < cLine
        rw [(canLay_ints ms).2, (canLay_ints ms').2]
        show A.units + 1 < cLine
        omega)
  have e : PyData.eqv (.tuple (ms.map PyData.int)) (.tuple (ms'.map PyData.int)) = decide (ms = ms') := eqvAll_ints ms ms'
  rw [e] at q
  exact q
theorem lexLt_refl : ∀ a : List Int, HT.lexLt a a = false
  | [] => rfl
  | x :: a => by rw [HT.lexLt_cons, if_pos rfl]; exact lexLt_refl a
theorem pn_cmp (hu : A.units + 64 < cLine) {vs : List Value} {k : Value → Int × List Int} (hp : ∀ v ∈ vs, PN s.heap v (k v).1 (k v).2) : SrtO.Cmp prog w A s (tuples' true) (fun p => p.1 ∈ vs) (SrtO.lt2 fun v u => lexN (k v) (k u)) := by
  intro p q hm hm'
  have h1 := hp _ hm
  have h2 := hp _ hm'
  show wpAny (model prog w) A (keyLt' (tuples' true) p.1 q.1) (fun r s' => s' = s ∧ r = lexN (k p.1) (k q.1)) (fun _ _ => False) s
  unfold lexN
  generalize (k p.1).1 = x at h1 ⊢
  generalize (k p.1).2 = y at h1 ⊢
  generalize (k q.1).1 = x' at h2 ⊢
  generalize (k q.1).2 = y' at h2 ⊢
  obtain ⟨a, o, t, u, n, its, e, ho, hc, hd, hb, hi⟩ := h1
  obtain ⟨a', o', t', u', n', its', e', ho', hc', hd', hb', hi'⟩ := h2
  rw [e, e']
  refine PySem.W.kat_lt ho hd ho' hd' ?_
  show PySem.W.KatLex prog w A true (decide (2 < 2)) _ [(.int x t, .int x' t'), (.ref u, .ref u')] 0 s
  refine PySem.W.kat_cons (SeqAt.EqAt.int_int x t x' t' prog w _ _ ?_)
  refine PySem.W.kat_go (fun e1 => ?_) (fun e1 => ?_)
  · have ex : x = x' := by simpa using e1
    refine PySem.W.kat_yes (PySem.W.kat_cons (eqAt_tupInts hu hb hb' hi hi' prog w _ _ ?_))
    refine PySem.W.kat_go (fun e2 => ?_) (fun e2 => ?_)
    · have ey : y = y' := by simpa using e2
      have e3 : (if x = x' then HT.lexLt y y' else decide (x < x')) = false := by
        rw [if_pos ex, ey]
        exact lexLt_refl _
      exact PySem.W.kat_yes (PySem.W.kat_nil ⟨rfl, e3.symm⟩)
    · have e3 : (if x = x' then HT.lexLt y y' else decide (x < x')) = HT.lexLt y y' := if_pos ex
      refine PySem.W.kat_no (PySem.W.kat_one _ _ (HT.lt_tupInts hb hb' hi hi' (by omega) ?_))
      exact (show s = s ∧ HT.lexLt y y' = (if x = x' then HT.lexLt y y' else decide (x < x')) from ⟨rfl, e3.symm⟩)
  · have ex : ¬ x = x' := by simpa using e1
    have e3 : (if x = x' then HT.lexLt y y' else decide (x < x')) = decide (x < x') := if_neg ex
    exact PySem.W.kat_no (oneLt_int ⟨rfl, e3.symm⟩)
theorem pn_firsts {h : Heap} : ∀ {vs : List Value}, (∀ v ∈ vs, ∃ x y, PN h v x y) → ∃ fs : List Value, PySem.W.KatTups h vs fs ∧ fs.length = vs.length ∧ ∀ f ∈ fs, ∃ x t, f = Value.int x t
  | [], _ => ⟨[], PySem.W.KatTups.nil, rfl, fun _ hm => by simp at hm⟩
  | v :: vs, hp => by
    obtain ⟨fs, h1, h2, h3⟩ := pn_firsts (vs := vs) fun v' hm => hp v' (List.mem_cons_of_mem _ hm)
    obtain ⟨x, y, a, o, t, u, n, its, e, ho, hc, hd, _⟩ := hp v (List.mem_cons_self ..)
    subst e
    refine ⟨.int x t :: fs, PySem.W.KatTups.cons ho hc hd rfl h1, by rw [List.length_cons, List.length_cons, h2], fun f hm => ?_⟩
    rcases List.mem_cons.mp hm with rfl | hm
    · exact ⟨x, t, rfl⟩
    · exact h3 f hm
theorem pn_sortable {a : Addr} (hu : A.units + 64 < cLine) {vs : List Value} {k : Value → Int × List Int} (h0 : 0 < vs.length) (hp : ∀ v ∈ vs, PN s.heap v (k v).1 (k v).2) (ha : ∀ o, s.heap.get? a = some o → o.cls ≠ .type "tuple") : SrtO.SortableO prog w A s a vs fun v u => lexN (k v) (k u) := by
  intro h' keep
  have hp' : ∀ v ∈ vs, PN h' v (k v).1 (k v).2 := fun v hm => (hp v hm).keeps fun b o e c => keep b o (fun z => by subst z; exact ha o e c) e
  obtain ⟨fs, h1, h2, h3⟩ := pn_firsts fun v hm => ⟨_, _, hp' v hm⟩
  refine ⟨tuples' true, fun Q E hq => ?_, pn_cmp hu hp'⟩
  refine PySem.W.kat_kind (T := .type "int") h1 (by omega) (fun f hm => ?_) (by rfl) ?_
  · obtain ⟨x, t, rfl⟩ := h3 f hm
    exact PySem.W.Looks.now
  · have e : (Value.type "int" != Value.type "tuple") = true := by first | decide +kernel | rfl | decide
    rw [e]
    exact hq
theorem sorted_pn (hu : A.units + 70 < cLine) {l : Addr} {vs : List Value} {k : Value → Int × List Int} {Q : Value → Shared → Prop} (hl : s.heap.IsList l vs.toArray) (hz : vs.length ≤ sizeLine) (hp : ∀ v ∈ vs, PN s.heap v (k v).1 (k v).2)
    (h : ∀ (h' : Heap) (d : Addr) (out : List Value), SrtO.Srtd (fun v u => lexN (k v) (k u)) out → SrtO.Stb (fun v u => lexN (k v) (k u)) out vs → (∀ b o, s.heap.get? b = some o → h'.get? b = some o) → s.heap.objs.size ≤ d → (∃ n, h'.get? d = some (seqObj "list" out.toArray n)) → Q (.ref d) { s with heap := h' }) :
    wpAny (model prog w) A (call (.builtin "sorted") [.ref l]) Q E s := by
  refine SrtO.sorted_ord (swo_lexN k) hl hz (fun h2 h₁ a ha kk => ?_) fun out hs hb => ?_
  · refine pn_sortable (s := { s with heap := h₁ }) (by show A.units + 1 + 1 + 64 < cLine; omega) (by omega) (fun v hm => (hp v hm).keeps fun b o e _ => (kk b o e).2) fun o e => ?_
    have e' : some o = some (seqObj "list" vs.toArray 0) := e.symm.trans ha
    cases e'
    intro c
    exact absurd (Value.type.inj c) (by decide)
  · exact h _ _ out hs hb (fun b o e => sortedAll_old e) (Nat.le_succ _) (sortedAll_at s.heap vs out.toArray)
end
/-- sorted(xs) of such pairs -/
def rSortedN (K : PySem.W.Frag) : List V → Hp → VK → Prop := fun vs H Q => ∃ (a : Addr) (xs : List V) (k : V → Int × List Int), vs = [V.ref a] ∧ SqL K H a xs ∧ (∀ x ∈ xs, ∃ t b, x = V.ref t ∧ H t = some (.tup [.int (k x).1, .ref b]) ∧ H b = some (.tup ((k x).2.map V.int))) ∧
  ∀ ys p, SrtO.Srtd (fun x y => lexN (k x) (k y)) ys → SrtO.Stb (fun x y => lexN (k x) (k y)) ys xs → H p = none → Q (.ref p) (upd H p (.lst ys))
theorem cr_sortedN {X : Cx} (hu : X.A.units + 70 < cLine) : CallR X (.builtin "sorted") (rSortedN X.K) := by
  intro pins s σ H vs us Q I r h
  obtain ⟨a, xs, k, rfl, hs, hx, q⟩ := h
  obtain ⟨its, rv, hl, hz⟩ := I.list hs
  obtain ⟨u, rfl, ru⟩ := vals1 r
  obtain rfl : u = Value.ref a := ru
  obtain ⟨e1, e2⟩ := refs_back rv fun x m => by
    obtain ⟨t, _, e, _⟩ := hx x m
    exact ⟨t, e⟩
  refine sorted_pn hu (k := fun u => k (backV u)) hl.isList (by rw [← rv.length]; exact hz) (fun v hv => ?_) fun h' d out h1 h2 kp hd hn => ?_
  · obtain ⟨t, rfl⟩ := e2 v hv
    have hm : V.ref t ∈ xs := by rw [e1]; exact List.mem_map.mpr ⟨_, hv, rfl⟩
    obtain ⟨t', b, e, ht, hb⟩ := hx _ hm
    cases e
    obtain ⟨_, its2, r2, o, ho, hc, n, hd⟩ := I.hok _ _ ht
    obtain ⟨u1, u2, rfl, ri, rj⟩ := vals2 r2
    obtain ⟨t1, rfl⟩ := ri
    obtain rfl : u2 = Value.ref b := rj
    obtain ⟨_, its3, r3, p3⟩ := I.hok _ _ hb
    exact ⟨t, o, t1, b, n, its3.toArray, rfl, ho, hc, hd, p3, ints_of_vals r3⟩
  · have h3 : ∀ u ∈ out, ∃ a, u = Value.ref a := fun u hu => e2 u (h2.perm.mem_iff.mp hu)
    obtain ⟨n, hn⟩ := hn
    have hb : SrtO.Stb (fun x y => lexN (k x) (k y)) (out.map backV) xs := by
      rw [e1]
      exact SrtO.Stb.map (swo_lexN k) backV h2
    refine ⟨.ref d, upd H d (.lst (out.map backV)), I.laid (t' := s.toks) kp hd ⟨?_, out, n, vals_back h3, hn⟩, rfl, q _ d (SrtO.srtd_map h1) hb (I.hok.fresh hd)⟩
    rw [hb.len]
    exact hz
end G9

/-! text E6 -/
/-! G9.E6: the built-in functions of one argument by values. -/
namespace G9
open PySem PySem.Spec PyProof.Rows L2
/-! ### insertion, stable -/
section
variable {α : Type} (lt : α → α → Bool)
def insG (x : α) : List α → List α
  | [] => [x]
  | y :: r => if lt y x then y :: insG x r else x :: y :: r
def sortG : List α → List α
  | [] => []
  | x :: r => insG lt x (sortG r)
variable {lt}
theorem insG_perm (x : α) : ∀ l : List α, (insG lt x l).Perm (x :: l)
  | [] => List.Perm.refl _
  | y :: r => by
    unfold insG
    split
    · exact ((insG_perm x r).cons y).trans (List.Perm.swap x y r)
    · exact List.Perm.refl _
theorem sortG_perm : ∀ l : List α, (sortG lt l).Perm l
  | [] => List.Perm.refl _
  | x :: r => (insG_perm x _).trans ((sortG_perm r).cons x)
theorem insG_srtd (O : SrtO.Swo lt) (x : α) : ∀ {l : List α}, SrtO.Srtd lt l → SrtO.Srtd lt (insG lt x l)
  | [], _ => List.pairwise_singleton _ _
  | y :: r, h => by
    obtain ⟨h1, h2⟩ := List.pairwise_cons.mp h
    unfold insG
    split
    · rename_i c
      refine List.pairwise_cons.mpr ⟨fun z hz => ?_, insG_srtd O x h2⟩
      rcases List.mem_cons.mp ((insG_perm x r).mem_iff.mp hz) with e | e
      · rw [e]; exact O.asym _ _ c
      · exact h1 z e
    · rename_i c
      have c : lt y x = false := by simpa using c
      refine List.pairwise_cons.mpr ⟨fun z hz => ?_, h⟩
      rcases List.mem_cons.mp hz with e | e
      · rw [e]; exact c
      · exact O.tr _ _ _ c (h1 z e)
theorem sortG_srtd (O : SrtO.Swo lt) : ∀ l : List α, SrtO.Srtd lt (sortG lt l)
  | [] => List.Pairwise.nil
  | x :: r => insG_srtd O x (sortG_srtd O r)
theorem insG_cls (O : SrtO.Swo lt) (z x : α) : ∀ l : List α, (insG lt x l).filter (SrtO.eqv lt z) = (x :: l).filter (SrtO.eqv lt z)
  | [] => rfl
  | y :: r => by
    unfold insG
    split
    · rename_i c
      rw [List.filter_cons, insG_cls O z x r, List.filter_cons, List.filter_cons, List.filter_cons]
      by_cases hy : SrtO.eqv lt z y = true
      · have hx : ¬ SrtO.eqv lt z x = true := fun hx => by
          obtain ⟨a1, a2⟩ := SrtO.eqv_iff.mp hy
          obtain ⟨b1, b2⟩ := SrtO.eqv_iff.mp hx
          have q : lt y x = false := O.tr _ _ _ b1 a2
          rw [q] at c; cases c
        rw [if_pos hy, if_neg hx, if_neg hx, if_pos hy]
      · rw [if_neg hy, if_neg hy]
    · rfl
theorem sortG_stb (O : SrtO.Swo lt) : ∀ l : List α, SrtO.Stb lt (sortG lt l) l
  | [] => ⟨List.Perm.refl _, fun _ => rfl⟩
  | x :: r => ⟨sortG_perm _, fun z => by
    show (insG lt x (sortG lt r)).filter (SrtO.eqv lt z) = _
    rw [insG_cls O, List.filter_cons, List.filter_cons, (sortG_stb O r).cls z]⟩
theorem stb_symm {l m : List α} (h : SrtO.Stb lt l m) : SrtO.Stb lt m l := ⟨h.perm.symm, fun x => (h.cls x).symm⟩
theorem stb_trans {l m k : List α} (h : SrtO.Stb lt l m) (h' : SrtO.Stb lt m k) : SrtO.Stb lt l k := ⟨h.perm.trans h'.perm, fun x => (h.cls x).trans (h'.cls x)⟩
/-- the sorted list is this one -/
theorem sorted_is (O : SrtO.Swo lt) {l m : List α} (h1 : SrtO.Srtd lt l) (h2 : SrtO.Stb lt l m) : l = sortG lt m := SrtO.stb_uniq O h1 (sortG_srtd O m) (stb_trans h2 (stb_symm (sortG_stb O m)))
end
section
variable {av : List Addr} {H : Hp} {ltv : V → V → Bool}
theorem RpPs.insG {v : V} {x : P} (r : RpP av H v x) : ∀ {vs : List V} {xs : List P}, RpPs av H vs xs → (∀ u ∈ vs, ∀ y ∈ xs, RpP av H u y → ltv u v = ltP y x) → RpPs av H (insG ltv v vs) (ins x xs)
  | _, _, .nil, _ => .cons r .nil
  | _, _, .cons (v := u) (x := y) q t, h => by
    have e : ltv u v = ltP y x := h _ (List.mem_cons_self ..) _ (List.mem_cons_self ..) q
    unfold G9.insG ins
    rw [e]
    split
    · exact .cons q (RpPs.insG r t fun u hu y hy => h u (List.mem_cons_of_mem _ hu) y (List.mem_cons_of_mem _ hy))
    · exact .cons r (.cons q t)
theorem RpPs.memV : ∀ {vs : List V} {xs : List P} {u : V}, RpPs av H vs xs → u ∈ vs → ∃ y ∈ xs, RpP av H u y
  | _, _, _, .nil, h => by simp at h
  | _, _, u, .cons q t, h => by
    rcases List.mem_cons.mp h with e | h
    · exact ⟨_, List.mem_cons_self .., by rw [e]; exact q⟩
    · obtain ⟨y, hy, r⟩ := RpPs.memV t h
      exact ⟨y, List.mem_cons_of_mem _ hy, r⟩
theorem ins_mem {x z : P} : ∀ {l : List P}, z ∈ ins x l → z = x ∨ z ∈ l
  | [], h => .inl (by simpa [ins] using h)
  | y :: r, h => by
    unfold ins at h
    split at h
    · rcases List.mem_cons.mp h with e | h
      · exact .inr (by rw [e]; exact List.mem_cons_self ..)
      · exact (ins_mem h).imp_right (List.mem_cons_of_mem _)
    · exact (List.mem_cons.mp h)
theorem sortP_mem {z : P} : ∀ {l : List P}, z ∈ sortP l → z ∈ l
  | [], h => h
  | y :: r, h => by
    rcases ins_mem h with e | h
    · rw [e]; exact List.mem_cons_self ..
    · exact List.mem_cons_of_mem _ (sortP_mem h)
theorem RpPs.sortG : ∀ {vs : List V} {xs : List P}, RpPs av H vs xs → (∀ u v y x, y ∈ xs → x ∈ xs → RpP av H u y → RpP av H v x → ltv u v = ltP y x) → RpPs av H (sortG ltv vs) (sortP xs)
  | _, _, .nil, _ => .nil
  | _, _, .cons (v := v) (x := x) q t, h => by
    have ih := RpPs.sortG t fun u v y x hy hx => h u v y x (List.mem_cons_of_mem _ hy) (List.mem_cons_of_mem _ hx)
    exact RpPs.insG q ih fun u _ y hy r => h u v y x (List.mem_cons_of_mem _ (sortP_mem hy)) (List.mem_cons_self ..) r q
end
/-! ### the calls -/
section
variable {X : Cx}
theorem CallR.or {f : Value} {r r' : List V → Hp → VK → Prop} (h : CallR X f r) (h' : CallR X f r') : CallR X f (fun x H Q => r x H Q ∨ r' x H Q) := by
  intro pins s σ H xs us Q I rx q
  rcases q with q | q
  · exact h pins s σ H xs us Q I rx q
  · exact h' pins s σ H xs us Q I rx q
def rBi (K : PySem.W.Frag) : Bi → List V → Hp → VK → Prop
  | .len => fun xs H Q => (∃ p ys, xs = [.ref p] ∧ (SqL K H p ys ∨ SqT K H p ys) ∧ Q (.int ys.length) H) ∨ (∃ z, xs = [.str z] ∧ z.length ≤ sizeLine ∧ Q (.int z.length) H)
  | .sum => fun xs H Q => rSum K xs H Q ∨ rSumT K xs H Q
  | .max => fun xs H Q => rMax K xs H Q ∨ rMaxT K xs H Q
  | .min => fun xs H Q => rMin K xs H Q ∨ rMinT K xs H Q
  | .all => rAll K
  | .any => rAny K
  | .sorted => fun xs H Q => rSortedI K xs H Q ∨ rSortedPO K xs H Q ∨ rSortedN K xs H Q
  | .tuple => fun xs H Q => ∃ p ys, xs = [.ref p] ∧ ((SqL K H p ys ∧ ∀ l, H l = none → Q (.ref l) (upd H l (.tup ys))) ∨ (SqT K H p ys ∧ Q (.ref p) H))
  | .list => fun xs H Q => ∃ p ys, xs = [.ref p] ∧ (SqL K H p ys ∨ SqT K H p ys) ∧ ∀ l, H l = none → Q (.ref l) (upd H l (.lst ys))
  | .int => fun xs H Q => (∃ i, xs = [.int i] ∧ Q (.int i) H) ∨ ∃ k, xs = [.bl k] ∧ Q (.int (if k then 1 else 0)) H
  | .lenset => fun _ _ _ => False
  | .rev => fun _ _ _ => False
def biV : Bi → Value
  | .len => .builtin "len" | .sum => .builtin "sum" | .max => .builtin "max" | .min => .builtin "min" | .all => .builtin "all" | .any => .builtin "any" | .sorted => .builtin "sorted"
  | .tuple => .type "tuple" | .list => .type "list" | .int => .type "int" | .lenset => .none | .rev => .none
theorem cr_bi {k : Nat} (hc : X.calm = true) (hr : Room k X.A) (b : Bi) (h1 : b ≠ .lenset) (h2 : b ≠ .rev) : CallR X (biV b) (rBi X.K b) := by
  have hu : X.A.units + 70 < cLine := by have := hr.un; omega
  cases b with
  | len => exact CallR.or call_len_seq call_len_str
  | sum => exact CallR.or (cr_sum hc) (cr_sumT hc)
  | max => exact CallR.or (cr_max hc) (cr_maxT hc)
  | min => exact CallR.or (cr_min hc) (cr_minT hc)
  | all => exact cr_all hc
  | any => exact cr_any hc
  | sorted => exact CallR.or cr_sortedI (CallR.or cr_sortedPO (cr_sortedN hu))
  | tuple => exact call_tuple_of
  | list => exact call_list_of
  | int => exact call_int1
  | lenset => exact absurd rfl h1
  | rev => exact absurd rfl h2
end
theorem foldl_max_spec : ∀ (l : List Int) (x : Int), l.foldl max x ∈ x :: l ∧ ∀ y ∈ x :: l, y ≤ l.foldl max x
  | [], x => ⟨List.mem_cons_self .., fun y hy => by simp at hy; simp [hy]⟩
  | z :: l, x => by
    obtain ⟨h1, h2⟩ := foldl_max_spec l (max x z)
    refine ⟨?_, fun y hy => ?_⟩
    · rcases List.mem_cons.mp h1 with e | e
      · rw [List.foldl_cons, e]
        rcases Int.le_total x z with q | q
        · rw [Int.max_eq_right q]; simp
        · rw [Int.max_eq_left q]; simp
      · exact List.mem_cons_of_mem _ (List.mem_cons_of_mem _ e)
    · have hm := h2 (max x z) (List.mem_cons_self ..)
      rw [List.foldl_cons]
      rcases List.mem_cons.mp hy with e | hy
      · subst e; exact Int.le_trans (Int.le_max_left _ _) hm
      · rcases List.mem_cons.mp hy with e | hy
        · subst e; exact Int.le_trans (Int.le_max_right _ _) hm
        · exact h2 y (List.mem_cons_of_mem _ hy)
theorem foldl_min_spec : ∀ (l : List Int) (x : Int), l.foldl min x ∈ x :: l ∧ ∀ y ∈ x :: l, l.foldl min x ≤ y
  | [], x => ⟨List.mem_cons_self .., fun y hy => by simp at hy; simp [hy]⟩
  | z :: l, x => by
    obtain ⟨h1, h2⟩ := foldl_min_spec l (min x z)
    refine ⟨?_, fun y hy => ?_⟩
    · rcases List.mem_cons.mp h1 with e | e
      · rw [List.foldl_cons, e]
        rcases Int.le_total x z with q | q
        · rw [Int.min_eq_left q]; simp
        · rw [Int.min_eq_right q]; simp
      · exact List.mem_cons_of_mem _ (List.mem_cons_of_mem _ e)
    · have hm := h2 (min x z) (List.mem_cons_self ..)
      rw [List.foldl_cons]
      rcases List.mem_cons.mp hy with e | hy
      · subst e; exact Int.le_trans hm (Int.min_le_left _ _)
      · rcases List.mem_cons.mp hy with e | hy
        · subst e; exact Int.le_trans hm (Int.min_le_right _ _)
        · exact h2 y (List.mem_cons_of_mem _ hy)
theorem maxI_spec {ns : List Int} {m : Int} (h : maxI ns = some m) : 0 < ns.length ∧ ∀ m', m' ∈ ns → (∀ y, y ∈ ns → y ≤ m') → m' = m := by
  cases ns with
  | nil => cases h
  | cons x r =>
    cases h
    obtain ⟨h1, h2⟩ := foldl_max_spec r x
    exact ⟨Nat.succ_pos _, fun m' hm hle => Int.le_antisymm (h2 m' hm) (hle _ h1)⟩
theorem minI_spec {ns : List Int} {m : Int} (h : minI ns = some m) : 0 < ns.length ∧ ∀ m', m' ∈ ns → (∀ y, y ∈ ns → m' ≤ y) → m' = m := by
  cases ns with
  | nil => cases h
  | cons x r =>
    cases h
    obtain ⟨h1, h2⟩ := foldl_min_spec r x
    exact ⟨Nat.succ_pos _, fun m' hm hle => Int.le_antisymm (hle _ h1) (h2 m' hm)⟩
/-- ints sorted -/
theorem allInt_of : ∀ {xs : List P}, xs.all kindI = true → ∃ ns, xs = ns.map P.int ∧ allInt xs = some ns
  | [], _ => ⟨[], rfl, rfl⟩
  | x :: xs, h => by
    rw [List.all_cons, Bool.and_eq_true] at h
    obtain ⟨ns, h1, h2⟩ := allInt_of h.2
    cases x with
    | int i => exact ⟨i :: ns, by rw [h1]; rfl, by rw [allInt, h2]; rfl⟩
    | _ => exact absurd h.1 (by simp [kindI])
def ltI (i j : Int) : Bool := decide (i < j)
theorem swo_ltI : SrtO.Swo ltI := ⟨fun x y h => by simp [ltI] at h ⊢; omega, fun x y z h1 h2 => by simp [ltI] at h1 h2 ⊢; omega⟩
theorem ins_int (n : Int) : ∀ ns : List Int, ins (.int n) (ns.map P.int) = (insG ltI n ns).map P.int
  | [] => rfl
  | m :: ns => by
    show (if ltP (.int m) (.int n) then _ else _) = _
    unfold insG
    have e : ltP (.int m) (.int n) = ltI m n := by simp [ltP, ltI]
    rw [e]
    split
    · rw [List.map_cons, ← ins_int n ns]
    · rfl
theorem sortP_int : ∀ ns : List Int, sortP (ns.map P.int) = (sortG ltI ns).map P.int
  | [] => rfl
  | n :: ns => by
    show ins (.int n) (sortP (ns.map P.int)) = _
    rw [sortP_int ns, ins_int]
    rfl
theorem sortI_uniq {ns ms : List Int} (hp : ms.Perm ns) (hs : ms.Pairwise (· ≤ ·)) : ms = sortG ltI ns := by
  have s1 : SrtO.Srtd ltI ms := hs.imp fun {a b} h => by simp [ltI]; exact h
  have s2 := sortG_srtd swo_ltI ns
  have p : ms.Perm (sortG ltI ns) := hp.trans (sortG_perm ns).symm
  refine List.Perm.eq_of_pairwise (le := fun a b => ltI b a = false) ?_ s1 s2 p
  intro a b _ _ h1 h2
  simp [ltI] at h1 h2
  omega
section
variable {T : Tb} {E : XK} {ι : Foot} {H : Hp} {S : Store} {Q : VK}
theorem Rp.seqV {v : V} {d : D} {x : P} {xs : List P} (r : Rp T ι H v d) (hs : StOk ι S H) (e : view S d = some x) (q : seqOf x = some xs) : ∃ a vs, v = .ref a ∧ vs.length ≤ sizeLine ∧ RpPs ι.all H vs xs ∧ ((x = .lst xs ∧ SqL T.K H a vs) ∨ (x = .tup xs ∧ d = .p (.tup xs) ∧ H a = some (.tup vs) ∧ a ∉ ι.all)) := by
  cases x with
  | lst ys =>
    cases q
    obtain ⟨a, vs, h1, h2, h3, h4⟩ := r.sqL hs e
    exact ⟨a, vs, h1, h3, h4, .inl ⟨rfl, h2⟩⟩
  | tup ys =>
    cases q
    cases view_p e (fun _ => by simp)
    obtain ⟨a, vs, h1, h2, h3, h4, h5⟩ := r.tup
    exact ⟨a, vs, h1, h4, h5, .inr ⟨rfl, rfl, h2, h3⟩⟩
  | _ => cases q
theorem kindT_of : ∀ {xs : List P} {vs : List V}, RpPs ι.all H vs xs → xs.all kindT = true → ∀ v ∈ vs, ∃ t i j, v = V.ref t ∧ H t = some (.tup [.int i, .int j])
  | _, _, .nil, _, v, hv => by simp at hv
  | x :: xs, _, .cons r t, h, v, hv => by
    rw [List.all_cons, Bool.and_eq_true] at h
    rcases List.mem_cons.mp hv with e | hv
    · subst e
      obtain ⟨h, _⟩ := h
      unfold kindT at h
      split at h
      · rename_i i j
        cases r with
        | tup h1 _ _ h4 =>
          cases h4 with
          | cons r1 t1 =>
            cases t1 with
            | cons r2 t2 =>
              cases t2
              cases r1
              cases r2
              exact ⟨_, i, j, rfl, h1⟩
      · cases h
    · exact kindT_of t h.2 v hv
theorem kindN_of : ∀ {xs : List P} {vs : List V}, RpPs ι.all H vs xs → xs.all kindN = true → ∀ v ∈ vs, ∃ (t b : Addr) (i : Int) (ms : List Int), v = V.ref t ∧ H t = some (.tup [.int i, .ref b]) ∧ H b = some (.tup (ms.map V.int))
  | _, _, .nil, _, v, hv => by simp at hv
  | x :: xs, _, .cons r t, h, v, hv => by
    rw [List.all_cons, Bool.and_eq_true] at h
    rcases List.mem_cons.mp hv with e | hv
    · subst e
      obtain ⟨h, _⟩ := h
      unfold kindN at h
      split at h
      · rename_i i ys
        cases r with
        | tup h1 _ _ h4 =>
          cases h4 with
          | cons r1 t1 =>
            cases t1 with
            | cons r2 t2 =>
              cases t2
              cases r1
              cases r2 with
              | tup k1 _ _ k4 =>
                obtain ⟨ns, _, e⟩ := allInt_of h
                exact ⟨_, _, i, ns, rfl, h1, by rw [k4.ints e] at k1; exact k1⟩
      · cases h
    · exact kindN_of t h.2 v hv
/-- the pair at a value -/
def key2 (H : Hp) (v : V) : Int × Int := match v with
  | .ref t => match H t with
    | some (.tup [.int i, .int j]) => (i, j)
    | _ => (0, 0)
  | _ => (0, 0)
theorem key2_eq {v : V} {t : Addr} {i j : Int} (e : v = V.ref t) (h : H t = some (.tup [.int i, .int j])) : key2 H v = (i, j) := by
  subst e
  simp only [key2, h]
def intV : V → Int
  | .int i => i
  | _ => 0
def keyN (H : Hp) (v : V) : Int × List Int := match v with
  | .ref t => match H t with
    | some (.tup [.int i, .ref b]) => match H b with
      | some (.tup vs) => (i, vs.map intV)
      | _ => (0, [])
    | _ => (0, [])
  | _ => (0, [])
theorem keyN_eq {v : V} {t b : Addr} {i : Int} {ms : List Int} (e : v = V.ref t) (h : H t = some (.tup [.int i, .ref b])) (h2 : H b = some (.tup (ms.map V.int))) : keyN H v = (i, ms) := by
  subst e
  have q : (ms.map V.int).map intV = ms := by
    rw [List.map_map]
    exact List.map_id' ms
  simp only [keyN, h, h2, q]
theorem ltPs_ints : ∀ ms ns : List Int, ltPs (ms.map P.int) (ns.map P.int) = HT.lexLt ms ns
  | [], [] => rfl
  | [], _ :: _ => rfl
  | _ :: _, [] => rfl
  | m :: ms, n :: ns => by
    rw [HT.lexLt_cons]
    simp only [List.map_cons, ltPs, ltP, eqP, ltPs_ints ms ns, beq_iff_eq]
theorem eqPs_ints : ∀ ms ns : List Int, eqPs (ms.map P.int) (ns.map P.int) = decide (ms = ns)
  | [], [] => rfl
  | [], _ :: _ => rfl
  | _ :: _, [] => rfl
  | m :: ms, n :: ns => by
    simp only [List.map_cons, eqPs, eqP, eqPs_ints ms ns]
    by_cases e : m = n <;> by_cases e2 : ms = ns <;> simp [e, e2]
theorem kindT_key {u : V} {y : P} (hy : kindT y = true) (r : RpP ι.all H u y) : ∃ i j, y = .tup [.int i, .int j] ∧ key2 H u = (i, j) := by
  unfold kindT at hy
  split at hy
  · rename_i i j
    cases r with
    | tup h1 _ _ h4 =>
      cases h4 with
      | cons r1 t1 =>
        cases t1 with
        | cons r2 t2 =>
          cases t2
          cases r1
          cases r2
          exact ⟨i, j, rfl, key2_eq rfl h1⟩
  · cases hy
theorem kindN_key {u : V} {y : P} (hy : kindN y = true) (r : RpP ι.all H u y) : ∃ i ms, y = .tup [.int i, .tup (ms.map .int)] ∧ keyN H u = (i, ms) := by
  unfold kindN at hy
  split at hy
  · rename_i i ys
    cases r with
    | tup h1 _ _ h4 =>
      cases h4 with
      | cons r1 t1 =>
        cases t1 with
        | cons r2 t2 =>
          cases t2
          cases r1
          cases r2 with
          | tup k1 _ _ k4 =>
            obtain ⟨ns, e1, e⟩ := allInt_of hy
            exact ⟨i, ns, by rw [e1], keyN_eq rfl h1 (by rw [k4.ints e] at k1; exact k1)⟩
  · cases hy
theorem ltP_pair (i j i' j' : Int) : ltP (.tup [.int i, .int j]) (.tup [.int i', .int j']) = SrtO.lexB (i, j) (i', j') := by
  simp only [ltP, ltPs, eqP, SrtO.lexB, beq_iff_eq]
  by_cases e : i = i'
  · rw [if_pos e, if_pos e]
    by_cases e2 : j = j'
    · rw [if_pos e2]; simp [e2]
    · rw [if_neg e2]
  · rw [if_neg e, if_neg e]
theorem ltP_pairN (i i' : Int) (ms ms' : List Int) : ltP (.tup [.int i, .tup (ms.map .int)]) (.tup [.int i', .tup (ms'.map .int)]) = lexN (i, ms) (i', ms') := by
  simp only [ltP, ltPs, eqP, lexN, beq_iff_eq, eqPs_ints, ltPs_ints, decide_eq_true_eq]
  by_cases e : i = i'
  · rw [if_pos e, if_pos e]
    by_cases e2 : ms = ms'
    · rw [if_pos e2, e2, lexLt_refl]
    · rw [if_neg e2]
  · rw [if_neg e, if_neg e]
end
end G9

/-! text E7 -/
/-! G9.E7: what a built-in function of one argument asks. -/
namespace G9
open PySem PySem.Spec PyProof.Rows L2
section
variable {T : Tb} {E : XK} {ι : Foot} {H : Hp} {S : Store} {Q : VK}
theorem bi_r {b : Bi} {a : D} {x : V} (hs : StOk ι S H) (ra : Rp T ι H x a) (h1 : b ≠ .lenset) (h2 : b ≠ .rev) (h : Out T E ι H (bi S b a) Q) : rBi T.K b [x] H Q := by
  unfold bi at h
  cases ea : view S a with
  | none => simp [ea] at h; exact h.elim
  | some p =>
    simp only [ea] at h
    cases b with
    | lenset => exact absurd rfl h1
    | rev => exact absurd rfl h2
    | len =>
      simp only at h
      cases p with
      | tup xs =>
        obtain ⟨ad, vs, rfl, hz, rr, q⟩ := ra.seqV hs ea rfl
        rcases q with ⟨q, _⟩ | ⟨_, _, q, _⟩
        · cases q
        · exact .inl ⟨ad, vs, rfl, .inr (.of q), by rw [rr.length]; exact h.here hs (.p (.int _))⟩
      | lst xs =>
        obtain ⟨ad, vs, rfl, hz, rr, q⟩ := ra.seqV hs ea rfl
        rcases q with ⟨_, q⟩ | ⟨q, _⟩
        · exact .inl ⟨ad, vs, rfl, .inl q, by rw [rr.length]; exact h.here hs (.p (.int _))⟩
        · cases q
      | str z =>
        cases view_p ea (fun _ => by simp)
        cases ra.str
        simp only at h
        split at h
        · rename_i c
          rw [lim_eq] at c
          exact .inr ⟨z, rfl, c, h.here hs (.p (.int _))⟩
        · exact h.elim
      | _ => exact h.elim
    | sum =>
      simp only at h
      cases q : seqOf p with
      | none => simp [q] at h; exact h.elim
      | some xs =>
        cases qi : allInt xs with
        | none => simp [q, qi] at h; exact h.elim
        | some ns =>
          simp only [q, qi, Option.bind_some] at h
          obtain ⟨ad, vs, rfl, hz, rr, q'⟩ := ra.seqV hs ea q
          have ev := rr.ints qi
          rcases q' with ⟨_, q'⟩ | ⟨_, _, q', _⟩
          · exact .inl ⟨ad, ns, rfl, by rw [← ev]; exact q', h.here hs (.p (.int _))⟩
          · exact .inr ⟨ad, ns, rfl, by rw [← ev]; exact .of q', h.here hs (.p (.int _))⟩
    | max =>
      simp only at h
      cases q : seqOf p with
      | none => simp [q] at h; exact h.elim
      | some xs =>
        cases qi : allInt xs with
        | none => simp [q, qi] at h; exact h.elim
        | some ns =>
          cases qm : maxI ns with
          | none => simp [q, qi, qm] at h; exact h.elim
          | some m =>
            simp only [q, qi, qm, Option.bind_some] at h
            obtain ⟨ad, vs, rfl, hz, rr, q'⟩ := ra.seqV hs ea q
            have ev := rr.ints qi
            obtain ⟨hp, hu⟩ := maxI_spec qm
            rcases q' with ⟨_, q'⟩ | ⟨_, _, q', _⟩
            · exact .inl ⟨ad, ns, rfl, by rw [← ev]; exact q', hp, fun m' h1 h2 => by rw [hu m' h1 h2]; exact h.here hs (.p (.int _))⟩
            · exact .inr ⟨ad, ns, rfl, by rw [← ev]; exact .of q', hp, fun m' h1 h2 => by rw [hu m' h1 h2]; exact h.here hs (.p (.int _))⟩
    | min =>
      simp only at h
      cases q : seqOf p with
      | none => simp [q] at h; exact h.elim
      | some xs =>
        cases qi : allInt xs with
        | none => simp [q, qi] at h; exact h.elim
        | some ns =>
          cases qm : minI ns with
          | none => simp [q, qi, qm] at h; exact h.elim
          | some m =>
            simp only [q, qi, qm, Option.bind_some] at h
            obtain ⟨ad, vs, rfl, hz, rr, q'⟩ := ra.seqV hs ea q
            have ev := rr.ints qi
            obtain ⟨hp, hu⟩ := minI_spec qm
            rcases q' with ⟨_, q'⟩ | ⟨_, _, q', _⟩
            · exact .inl ⟨ad, ns, rfl, by rw [← ev]; exact q', hp, fun m' h1 h2 => by rw [hu m' h1 h2]; exact h.here hs (.p (.int _))⟩
            · exact .inr ⟨ad, ns, rfl, by rw [← ev]; exact .of q', hp, fun m' h1 h2 => by rw [hu m' h1 h2]; exact h.here hs (.p (.int _))⟩
    | all =>
      simp only at h
      cases p with
      | lst xs =>
        cases qi : allBl xs with
        | none => simp [lstOf, qi] at h; exact h.elim
        | some bs =>
          simp only [lstOf, qi, Option.bind_some] at h
          obtain ⟨ad, vs, rfl, hz, hq, rr⟩ := ra.sqL hs ea
          exact ⟨ad, bs, rfl, by rw [← rr.bls qi]; exact hz, h.here hs (.p (.bl _))⟩
      | _ => simp [lstOf] at h; exact h.elim
    | any =>
      simp only at h
      cases p with
      | lst xs =>
        cases qi : allBl xs with
        | none => simp [lstOf, qi] at h; exact h.elim
        | some bs =>
          simp only [lstOf, qi, Option.bind_some] at h
          obtain ⟨ad, vs, rfl, hz, hq, rr⟩ := ra.sqL hs ea
          exact ⟨ad, bs, rfl, by rw [← rr.bls qi]; exact hz, h.here hs (.p (.bl _))⟩
      | _ => simp [lstOf] at h; exact h.elim
    | tuple =>
      simp only at h
      cases q : seqOf p with
      | none => simp [q] at h; exact h.elim
      | some xs =>
        simp only [q] at h
        obtain ⟨ad, vs, rfl, hz, rr, q'⟩ := ra.seqV hs ea q
        rcases q' with ⟨_, q'⟩ | ⟨_, _, q', nq⟩
        · exact ⟨ad, vs, rfl, .inl ⟨q', fun l hl => h.newT hs rr hz hl⟩⟩
        · exact ⟨ad, vs, rfl, .inr ⟨.of q', h.here hs (.p (.tup q' nq hz rr))⟩⟩
    | list =>
      simp only at h
      cases q : seqOf p with
      | none => simp [q] at h; exact h.elim
      | some xs =>
        simp only [q] at h
        obtain ⟨ad, vs, rfl, hz, rr, q'⟩ := ra.seqV hs ea q
        rcases q' with ⟨_, q'⟩ | ⟨_, _, q', nq⟩
        · exact ⟨ad, vs, rfl, .inl q', fun l hl => h.newL hs rr hz hl⟩
        · exact ⟨ad, vs, rfl, .inr (.of q'), fun l hl => h.newL hs rr hz hl⟩
    | int =>
      simp only at h
      cases p with
      | int i =>
        cases view_p ea (fun _ => by simp)
        cases ra.int
        exact .inl ⟨i, rfl, h.here hs (.p (.int _))⟩
      | bl i =>
        cases view_p ea (fun _ => by simp)
        cases ra.bl
        exact .inr ⟨i, rfl, h.here hs (.p (.int _))⟩
      | _ => exact h.elim
    | sorted =>
      simp only at h
      cases p with
      | lst xs =>
        simp only at h
        split at h
        · rename_i c
          obtain ⟨c1, c2⟩ := c
          obtain ⟨ad, vs, rfl, hz, hq, rr⟩ := ra.sqL hs ea
          simp only [Bool.or_eq_true] at c2
          rcases c2 with (c2 | c2) | c2
          · obtain ⟨ns, en, ei⟩ := allInt_of c2
            have ev := rr.ints ei
            refine .inl ⟨ad, ns, rfl, by rw [← ev]; exact hz, fun ns' p hp hsd hn => ?_⟩
            rw [en, sortP_int] at h
            have e := sortI_uniq hp hsd
            have hl : (ns'.map V.int).length ≤ sizeLine := by rw [List.length_map, hp.length_eq, ← List.length_map (f := V.int), ← ev]; exact hq
            refine h.newL hs ?_ hl hn
            rw [← e]
            exact .ofInts ns'
          · refine .inr (.inl ⟨ad, vs, key2 H, rfl, hz, fun v hv => ?_, fun ys p h1 h2 hn => ?_⟩)
            · obtain ⟨t, i, j, e, ht⟩ := kindT_of rr c2 v hv
              exact ⟨t, e, by rw [key2_eq e ht]; exact ht⟩
            · have e := sorted_is (ltP_swo (key2 H)) h1 h2
              refine h.newL hs ?_ (by rw [h2.perm.length_eq]; exact hq) hn
              rw [e]
              refine rr.sortG fun u v y x hy hx ru rv => ?_
              obtain ⟨i, j, rfl, k1⟩ := kindT_key (List.all_eq_true.mp c2 _ hy) ru
              obtain ⟨i', j', rfl, k2⟩ := kindT_key (List.all_eq_true.mp c2 _ hx) rv
              rw [ltP_pair]
              show SrtO.lexB (key2 H u) (key2 H v) = _
              rw [k1, k2]
          · refine .inr (.inr ⟨ad, vs, keyN H, rfl, hz, fun v hv => ?_, fun ys p h1 h2 hn => ?_⟩)
            · obtain ⟨t, b, i, ms, e, ht, hb⟩ := kindN_of rr c2 v hv
              exact ⟨t, b, e, by rw [keyN_eq e ht hb]; exact ht, by rw [keyN_eq e ht hb]; exact hb⟩
            · have e := sorted_is (swo_lexN (keyN H)) h1 h2
              refine h.newL hs ?_ (by rw [h2.perm.length_eq]; exact hq) hn
              rw [e]
              refine rr.sortG fun u v y x hy hx ru rv => ?_
              obtain ⟨i, j, rfl, k1⟩ := kindN_key (List.all_eq_true.mp c2 _ hy) ru
              obtain ⟨i', j', rfl, k2⟩ := kindN_key (List.all_eq_true.mp c2 _ hx) rv
              rw [ltP_pairN]
              show lexN (keyN H u) (keyN H v) = _
              rw [k1, k2]
        · exact h.elim
      | _ => exact h.elim
end
end G9

/-! text E8 -/
/-! G9.E8: each expression of the small language keeps its reading. -/
namespace G9
open PySem PySem.Spec PyProof.Rows L2

theorem _root_.L2.PE.weak {X : Cx} {e : Expr} {t t' : TE} (h : PE X e t) (hw : ∀ σ H Q, t' σ H Q → t σ H Q) : PE X e t' := ⟨fun pins s σ H Q I q => h.run pins s σ H Q I (hw σ H Q q)⟩
theorem _root_.L2.PT.weak {X : Cx} {e : Expr} {t t' : TT} (h : PT X e t) (hw : ∀ σ H Q, t' σ H Q → t σ H Q) : PT X e t' := ⟨fun pins s σ H Q I q => h.run pins s σ H Q I (hw σ H Q q)⟩
theorem _root_.L2.PW.weak {X : Cx} {e : Expr} {t t' : TT} (h : PW X e t) (hw : ∀ σ H Q, t' σ H Q → t σ H Q) : PW X e t' := ⟨fun wh pins s σ H Q I q => h.run wh pins s σ H Q I (hw σ H Q q)⟩
theorem _root_.L2.PA.weak {X : Cx} {e : List Expr} {t t' : TA} (h : PA X e t) (hw : ∀ σ H Q, t' σ H Q → t σ H Q) : PA X e t' := ⟨fun pos pins s σ H Q I q => h.run pos pins s σ H Q I (hw σ H Q q)⟩
theorem _root_.L2.PS.weak {X : Cx} {e : Stmt} {t t' : TS} (h : PS X e t) (hw : ∀ D σ H, t' D σ H → t D σ H) : PS X e t' := ⟨fun pins s σ H D I q => h.run pins s σ H D I (hw D σ H q)⟩
theorem _root_.L2.PSs.weak {X : Cx} {e : List Stmt} {t t' : TS} (h : PSs X e t) (hw : ∀ D σ H, t' D σ H → t D σ H) : PSs X e t' := ⟨fun pins s σ H D I q => h.run pins s σ H D I (hw D σ H q)⟩

section
variable {T : Tb} {F : FS} {X : Cx} {E : XK} {a b c d : G9.E} {ea eb ec : Expr} {pos : Pos}
abbrev tt (T : Tb) (F : FS) (c : G9.E) (E : XK) : TT := tTest (tE T F c E)
/-- names -/
theorem s_v {i : Nat} {x : Str} (hN : X.N[i]? = some x) (hv : Vis X.env.scope x) (h1 : (x == ("__debug__" : Str)) = false) (h2 : (x == ("__classdict__" : Str)) = false) : PE X (.Name x pos) (tE T F (.v i x) E) := by
  refine (pe_var hN hv h1 h2).weak fun σ H Q ⟨ρ, S, ι, he, hs, h⟩ => ?_
  unfold evE at h
  cases q : ρ[i]? with
  | none => simp [q] at h; exact h.elim
  | some o =>
    cases o with
    | none => simp [q] at h; exact h.elim
    | some d =>
      simp only [q] at h
      obtain ⟨v, h1, h2⟩ := he.get i d q
      exact ⟨v, h1, h.here hs h2⟩
theorem s_int {i : Int} {j : Nat} : PE X (.Constant (.int i) j pos) (tE T F (.int i) E) := pe_int.weak fun σ H Q ⟨ρ, S, ι, he, hs, h⟩ => by
  unfold evE at h
  exact h.here hs (.p (.int _))
theorem s_bl {i : Bool} {j : Nat} : PE X (.Constant (.bool i) j pos) (tE T F (.bl i) E) := pe_bl.weak fun σ H Q ⟨ρ, S, ι, he, hs, h⟩ => by
  unfold evE at h
  exact h.here hs (.p (.bl _))
theorem s_non {j : Nat} : PE X (.Constant .none j pos) (tE T F .non E) := pe_non.weak fun σ H Q ⟨ρ, S, ι, he, hs, h⟩ => by
  unfold evE at h
  exact h.here hs (.p .non)
theorem s_str {i : Str} {j : Nat} : PE X (.Constant (.str i) j pos) (tE T F (.str i) E) := pe_str.weak fun σ H Q ⟨ρ, S, ι, he, hs, h⟩ => by
  unfold evE at h
  exact h.here hs (.p (.str _))
theorem s_g {x : Str} {i : Int} {t : Tok} (hg : Gl X x) (hm : X.mg x = some (.int i t)) (hd : (x == ("__debug__" : Str)) = false) : PE X (.Name x pos) (tE T F (.g x i) E) := (pe_glob hg hm (v := .int i) ⟨_, rfl⟩ hd).weak fun σ H Q ⟨ρ, S, ι, he, hs, h⟩ => by
  unfold evE at h
  exact h.here hs (.p (.int _))
theorem s_gf {x : Str} {f : Nat} (hg : Gl X x) (hm : X.mg x = some (.ref (T.fa f))) (hd : (x == ("__debug__" : Str)) = false) : PE X (.Name x pos) (tE T F (.gf x f) E) := (pe_glob hg hm (v := .ref (T.fa f)) rfl hd).weak fun σ H Q ⟨ρ, S, ι, he, hs, h⟩ => by
  unfold evE at h
  exact h.here hs (.fn f)
/-- operators -/
theorem s_bin {op : Op} (hK : X.K = T.K) (ha : PE X ea (tE T F a E)) (hb : PE X eb (tE T F b E)) : PE X (.BinOp ea (opOf op) eb pos) (tE T F (.bin op a b) E) := by
  refine (pe_op (op_bin op) ha hb).weak fun σ H Q ⟨ρ, S, ι, he, hs, h⟩ => ?_
  unfold evE at h
  refine tE_bind he hs h fun d1 S1 v1 H1 p1 r1 he1 h1 => tE_bind he1 p1.ok h1 fun d2 S2 v2 H2 p2 r2 he2 h2 => ?_
  rw [hK]
  exact bin_r p2.ok (r1.post p2) r2 h2
theorem s_cmp {k : Nat} {cm : Cm} (hr : Room k X.A) (hK : X.K = T.K) (hm : behindInMarks (cmOf cm) eb = false) (ha : PE X ea (tE T F a E)) (hb : PE X eb (tE T F b E)) :
    PE X (.Compare ea [cmOf cm] [eb] pos) (tE T F (.cmp cm a b) E) ∧ PT X (.Compare ea [cmOf cm] [eb] pos) (tt T F (.cmp cm a b) E) := by
  have key : ∀ σ H Q, tE T F (.cmp cm a b) E σ H Q → tOp (rCmp X.K cm) (tE T F a E) (tE T F b E) σ H Q := fun σ H Q ⟨ρ, S, ι, he, hs, h⟩ => by
    unfold evE at h
    refine tE_bind he hs h fun d1 S1 v1 H1 p1 r1 he1 h1 => tE_bind he1 p1.ok h1 fun d2 S2 v2 H2 p2 r2 he2 h2 => ?_
    rw [hK]
    cases q : cmp S2 cm d1 d2 with
    | none => simp [q] at h2; exact h2.elim
    | some r =>
      simp only [q] at h2
      exact cmp_r p2.ok (r1.post p2) r2 q (h2.here p2.ok (.p (.bl _)))
  exact ⟨(pe_cmpR (op_cmp hr cm) ha hb hm).weak key, (pt_cmpR (op_cmp hr cm) ha hb hm).weak fun σ H Q h => key σ H _ h⟩
theorem s_chain {k : Nat} {cm cm' : Cm} (hr : Room k X.A) (hK : X.K = T.K) (hm : lastMarks [cmOf cm, cmOf cm'] [eb, ec] = false) (ha : PE X ea (tE T F a E)) (hb : PE X eb (tE T F b E)) (hc : PE X ec (tE T F c E)) :
    PE X (.Compare ea [cmOf cm, cmOf cm'] [eb, ec] pos) (tE T F (.chain cm cm' a b c) E) ∧ PT X (.Compare ea [cmOf cm, cmOf cm'] [eb, ec] pos) (tt T F (.chain cm cm' a b c) E) := by
  have key : ∀ σ H Q, tE T F (.chain cm cm' a b c) E σ H Q → tChain (rCmp X.K cm) (rCmp X.K cm') (tE T F a E) (tE T F b E) (tE T F c E) σ H Q := fun σ H Q ⟨ρ, S, ι, he, hs, h⟩ => by
    unfold evE at h
    refine tE_bind he hs h fun d1 S1 v1 H1 p1 r1 he1 h1 => tE_bind he1 p1.ok h1 fun d2 S2 v2 H2 p2 r2 he2 h2 => ?_
    rw [hK]
    cases q : cmp S2 cm d1 d2 with
    | none => simp [q] at h2; exact h2.elim
    | some r =>
      refine cmp_r p2.ok (r1.post p2) r2 q ⟨r, rfl, ?_⟩
      cases r with
      | false =>
        simp only [q] at h2
        rw [if_neg Bool.false_ne_true]
        exact h2.here p2.ok (.p (.bl _))
      | true =>
        simp only [q] at h2
        rw [if_pos rfl]
        refine tE_bind he2 p2.ok h2 fun d3 S3 v3 H3 p3 r3 he3 h3 => ?_
        cases q' : cmp S3 cm' d2 d3 with
        | none => simp [q'] at h3; exact h3.elim
        | some r' =>
          simp only [q'] at h3
          exact cmp_r p3.ok (r2.post p3) r3 q' (h3.here p3.ok (.p (.bl _)))
  exact ⟨(pe_chain (op_cmp hr cm) (op_cmp hr cm') ha hb hc hm).weak key, (pt_chain (op_cmp hr cm) (op_cmp hr cm') ha hb hc hm).weak fun σ H Q h => key σ H _ h⟩
/-- and, or, not -/
theorem bl_of {ι : Foot} {H : Hp} {v : V} {d : D} {α : Type} {f : Bool → R α} {b : Bool} (r : Rp T ι H v (.p (.bl b))) : v = .bl b := r.bl
theorem andV : ∀ σ H Q, tE T F (.and a b) E σ H Q → tAndV (tE T F a E) (tE T F b E) σ H Q := fun σ H Q ⟨ρ, S, ι, he, hs, h⟩ => by
  unfold evE at h
  refine tE_bind he hs h fun d1 S1 v1 H1 p1 r1 he1 h1 => ?_
  split at h1
  · refine ⟨true, r1.bl, iteT ?_⟩
    exact ⟨ρ, S1, ι, he1, p1.ok, h1⟩
  · refine ⟨false, r1.bl, iteF ?_⟩
    exact h1.here p1.ok (.p (.bl _))
  · exact h1.elim
theorem orV : ∀ σ H Q, tE T F (.or a b) E σ H Q → tOrV (tE T F a E) (tE T F b E) σ H Q := fun σ H Q ⟨ρ, S, ι, he, hs, h⟩ => by
  unfold evE at h
  refine tE_bind he hs h fun d1 S1 v1 H1 p1 r1 he1 h1 => ?_
  split at h1
  · refine ⟨true, r1.bl, iteT ?_⟩
    exact h1.here p1.ok (.p (.bl _))
  · refine ⟨false, r1.bl, iteF ?_⟩
    exact ⟨ρ, S1, ι, he1, p1.ok, h1⟩
  · exact h1.elim
theorem andT : ∀ σ H Q, tt T F (.and a b) E σ H Q → tAnd (tt T F a E) (tt T F b E) σ H Q := fun σ H Q ⟨ρ, S, ι, he, hs, h⟩ => by
  unfold evE at h
  refine tE_bind he hs h fun d1 S1 v1 H1 p1 r1 he1 h1 => ?_
  split at h1
  · refine ⟨true, r1.bl, iteT ?_⟩
    exact ⟨ρ, S1, ι, he1, p1.ok, h1⟩
  · refine ⟨false, r1.bl, iteF ?_⟩
    obtain ⟨k, e, q⟩ := h1.here p1.ok (.p (.bl _))
    cases e
    exact q
  · exact h1.elim
theorem orT : ∀ σ H Q, tt T F (.or a b) E σ H Q → tOr (tt T F a E) (tt T F b E) σ H Q := fun σ H Q ⟨ρ, S, ι, he, hs, h⟩ => by
  unfold evE at h
  refine tE_bind he hs h fun d1 S1 v1 H1 p1 r1 he1 h1 => ?_
  split at h1
  · refine ⟨true, r1.bl, iteT ?_⟩
    obtain ⟨k, e, q⟩ := h1.here p1.ok (.p (.bl _))
    cases e
    exact q
  · refine ⟨false, r1.bl, iteF ?_⟩
    exact ⟨ρ, S1, ι, he1, p1.ok, h1⟩
  · exact h1.elim
theorem s_not (ha : PE X ea (tE T F a E)) (hat : PT X ea (tt T F a E)) : PE X (.UnaryOp .Not ea pos) (tE T F (.not a) E) ∧ PT X (.UnaryOp .Not ea pos) (tt T F (.not a) E) := by
  refine ⟨(pe_not ha).weak fun σ H Q ⟨ρ, S, ι, he, hs, h⟩ => ?_, (pt_not hat).weak fun σ H Q ⟨ρ, S, ι, he, hs, h⟩ => ?_⟩
  · unfold evE at h
    refine tE_bind he hs h fun d1 S1 v1 H1 p1 r1 he1 h1 => ?_
    split at h1
    · exact ⟨_, r1.bl, h1.here p1.ok (.p (.bl _))⟩
    · exact h1.elim
  · unfold evE at h
    refine tE_bind he hs h fun d1 S1 v1 H1 p1 r1 he1 h1 => ?_
    split at h1
    · refine ⟨_, r1.bl, ?_⟩
      obtain ⟨k, e, q⟩ := h1.here p1.ok (.p (.bl _))
      cases e
      exact q
    · exact h1.elim
theorem s_neg (ha : PE X ea (tE T F a E)) : PE X (.UnaryOp .USub ea pos) (tE T F (.neg a) E) := by
  refine (pe_un un_neg ha).weak fun σ H Q ⟨ρ, S, ι, he, hs, h⟩ => ?_
  unfold evE at h
  refine tE_bind he hs h fun d1 S1 v1 H1 p1 r1 he1 h1 => ?_
  split at h1
  · exact ⟨_, r1.int, h1.here p1.ok (.p (.int _))⟩
  · exact h1.elim
theorem pt_ifExp {tc ta tb : TT} (hc : PT X ec tc) (ha : PT X ea ta) (hb : PT X eb tb) : PT X (.IfExp ec ea eb pos) (fun σ H Q => tc σ H fun c H1 => if c = true then ta σ H1 Q else tb σ H1 Q) := by
  refine ⟨fun pins s σ H Q I h => ?_⟩
  show wpAny _ _ (do if ← isTrue ec X.env (eval ec X.env) then isTrue ea X.env (eval ea X.env) else isTrue eb X.env (eval eb X.env)) _ _ s
  refine wpAny_bind (thn (hc.run pins s σ H _ I h) fun d s1 ⟨H1, I1, q1⟩ => ?_)
  cases d with
  | true => exact ha.run pins s1 σ H1 Q I1 q1
  | false => exact hb.run pins s1 σ H1 Q I1 q1
theorem s_iteV (hct : PT X ec (tt T F c E)) (ha : PE X ea (tE T F a E)) (hb : PE X eb (tE T F b E)) : PE X (.IfExp ec ea eb pos) (tE T F (.ite c a b) E) := by
  refine (pe_ifExp hct ha hb).weak fun σ H Q ⟨ρ, S, ι, he, hs, h⟩ => ?_
  unfold evE at h
  refine tE_bind he hs h fun d1 S1 v1 H1 p1 r1 he1 h1 => ?_
  split at h1
  · refine ⟨true, r1.bl, iteT ?_⟩
    exact ⟨ρ, S1, ι, he1, p1.ok, h1⟩
  · refine ⟨false, r1.bl, iteF ?_⟩
    exact ⟨ρ, S1, ι, he1, p1.ok, h1⟩
  · exact h1.elim
theorem s_ite (hct : PT X ec (tt T F c E)) (ha : PE X ea (tE T F a E)) (hat : PT X ea (tt T F a E)) (hb : PE X eb (tE T F b E)) (hbt : PT X eb (tt T F b E)) :
    PE X (.IfExp ec ea eb pos) (tE T F (.ite c a b) E) ∧ PT X (.IfExp ec ea eb pos) (tt T F (.ite c a b) E) := by
  refine ⟨(pe_ifExp hct ha hb).weak fun σ H Q ⟨ρ, S, ι, he, hs, h⟩ => ?_, (pt_ifExp hct hat hbt).weak fun σ H Q ⟨ρ, S, ι, he, hs, h⟩ => ?_⟩
  · unfold evE at h
    refine tE_bind he hs h fun d1 S1 v1 H1 p1 r1 he1 h1 => ?_
    split at h1
    · refine ⟨true, r1.bl, iteT ?_⟩
      exact ⟨ρ, S1, ι, he1, p1.ok, h1⟩
    · refine ⟨false, r1.bl, iteF ?_⟩
      exact ⟨ρ, S1, ι, he1, p1.ok, h1⟩
    · exact h1.elim
  · unfold evE at h
    refine tE_bind he hs h fun d1 S1 v1 H1 p1 r1 he1 h1 => ?_
    split at h1
    · refine ⟨true, r1.bl, iteT ?_⟩
      exact ⟨ρ, S1, ι, he1, p1.ok, h1⟩
    · refine ⟨false, r1.bl, iteF ?_⟩
      exact ⟨ρ, S1, ι, he1, p1.ok, h1⟩
    · exact h1.elim
/-! ### argument lists -/
def tA (T : Tb) (F : FS) (cs : List G9.E) (E : XK) : TA := fun σ H Q => ∃ ρ S ι, EnvOk T ι ρ σ H ∧ StOk ι S H ∧ OutX T E ι H (evEs F cs ρ S) (fun ds S' H' => ∀ vs, Rps T ι H' vs ds → Q vs H')
theorem OutX.shift {α : Type} {ι : Foot} {H H1 : Hp} {S1 : Store} {r : R α} {Q : α → Store → Hp → Prop} (p : Post ι H H1 S1) (h : OutX T E ι H r Q) : OutX T E ι H1 r Q := by
  cases r with
  | ok d S' => exact fun H' q => h H' (p.trans q)
  | exc c S' => exact fun H' q => h H' (p.trans q)
  | bad => exact h
theorem OutX.bind {α β : Type} {ι : Foot} {H : Hp} {r : R α} {f : α → Store → R β} {Q : β → Store → Hp → Prop} (h : OutX T E ι H (r.bind f) Q) : OutX T E ι H r fun a S1 H1 => OutX T E ι H1 (f a S1) Q := by
  cases r with
  | ok d S' => exact fun H' q => OutX.shift q h
  | exc c S' => exact h
  | bad => exact h
theorem OutX.bindO {α : Type} {ι : Foot} {H : Hp} {r : R α} {f : α → Store → R D} {Q : VK} (h : Out T E ι H (r.bind f) Q) : OutX T E ι H r fun a S1 H1 => Out T E ι H1 (f a S1) Q := by
  cases r with
  | ok d S' => exact fun H' q => Out.shift q h
  | exc c S' => exact h
  | bad => exact h
theorem OutX.imp {α : Type} {ι : Foot} {H : Hp} {r : R α} {Q Q' : α → Store → Hp → Prop} (h : OutX T E ι H r Q) (k : ∀ a S' H', Post ι H H' S' → Q a S' H' → Q' a S' H') : OutX T E ι H r Q' := by
  cases r with
  | ok d S' => exact fun H' q => k d S' H' q (h H' q)
  | exc c S' => exact h
  | bad => exact h
theorem tE_bindX {α : Type} {ι : Foot} {ρ : G9.Env} {σ : L2.St} {H : Hp} {S : Store} {Q : VK} {c : G9.E} {f : D → Store → R α} {Q' : α → Store → Hp → Prop} (he : EnvOk T ι ρ σ H) (hs : StOk ι S H) (h : OutX T E ι H ((evE F c ρ S).bind f) Q')
    (k : ∀ d S1 v H1, Post ι H H1 S1 → Rp T ι H1 v d → EnvOk T ι ρ σ H1 → OutX T E ι H1 (f d S1) Q' → Q v H1) : tE T F c E σ H Q := by
  refine ⟨ρ, S, ι, he, hs, ?_⟩
  cases e : evE F c ρ S with
  | ok d S1 =>
    rw [e] at h
    exact fun v H1 p r => k d S1 v H1 p r (he.post p) (OutX.shift p h)
  | exc c S1 =>
    rw [e] at h
    exact h
  | bad =>
    rw [e] at h
    exact h
theorem s_nil : PA X [] (tA T F [] E) := pa_nil.weak fun σ H Q ⟨ρ, S, ι, he, hs, h⟩ => by
  unfold evEs at h
  exact h H (.refl hs) [] .nil
theorem s_cons {cs : List G9.E} {es : List Expr} (ha : PE X ea (tE T F a E)) (hr : PA X es (tA T F cs E)) (hs' : starEach (ea :: es) X.env = (false, eval ea X.env) :: starEach es X.env) : PA X (ea :: es) (tA T F (a :: cs) E) := by
  refine (pa_cons ha hr hs').weak fun σ H Q ⟨ρ, S, ι, he, hs, h⟩ => ?_
  unfold evEs at h
  refine tE_bindX he hs h fun d1 S1 v1 H1 p1 r1 he1 h1 => ?_
  refine ⟨ρ, S1, ι, he1, p1.ok, ?_⟩
  refine (OutX.bind h1).imp fun ds S2 H2 p2 h2 vs r2 => ?_
  exact h2 H2 (.refl p2.ok) (v1 :: vs) (.cons (r1.post p2) r2)
/-- a part, then the rest, by its arguments -/
theorem tA_bind {ι : Foot} {ρ : G9.Env} {σ : L2.St} {H : Hp} {S : Store} {Q : List V → Hp → Prop} {Q' : VK} {cs : List G9.E} {f : List D → Store → R D} (he : EnvOk T ι ρ σ H) (hs : StOk ι S H) (h : Out T E ι H ((evEs F cs ρ S).bind f) Q')
    (k : ∀ ds S1 vs H1, Post ι H H1 S1 → Rps T ι H1 vs ds → EnvOk T ι ρ σ H1 → Out T E ι H1 (f ds S1) Q' → Q vs H1) : tA T F cs E σ H Q :=
  ⟨ρ, S, ι, he, hs, (OutX.bindO h).imp fun ds S1 H1 p q vs r => k ds S1 vs H1 p r (he.post p) q⟩
/-! ### displays -/
theorem s_tup {cs : List G9.E} {es : List Expr} {x1 : Nat} (ha : PA X es (tA T F cs E)) : PE X (.Tuple es x1 pos) (tE T F (.tup cs) E) := by
  refine (pe_tup ha).weak fun σ H Q ⟨ρ, S, ι, he, hs, h⟩ => ?_
  unfold evE at h
  refine tA_bind he hs h fun ds S1 vs H1 p1 r1 he1 h1 => ?_
  split at h1
  · rename_i c
    rw [lim_eq] at c
    have hz : vs.length ≤ sizeLine := by rw [r1.length]; exact c
    exact ⟨hz, fun p hp => h1.newTup p1.ok r1 hz hp⟩
  · exact h1.elim
theorem s_lst {cs : List G9.E} {es : List Expr} (ha : PA X es (tA T F cs E)) : PE X (.List es pos) (tE T F (.lst cs) E) := by
  refine (pe_lst ha).weak fun σ H Q ⟨ρ, S, ι, he, hs, h⟩ => ?_
  unfold evE at h
  refine tA_bind he hs h fun ds S1 vs H1 p1 r1 he1 h1 => ?_
  cases q : allP ds with
  | none => simp [q] at h1; exact h1.elim
  | some xs =>
    simp only [q] at h1
    split at h1
    · rename_i c
      rw [lim_eq] at c
      have rr := r1.toP q
      have hz : vs.length ≤ sizeLine := by rw [rr.length]; exact c
      exact ⟨hz, fun p hp => h1.newL p1.ok rr hz hp⟩
    · exact h1.elim
/-! ### built-in calls -/
theorem s_biB {k : Nat} {x : Str} {p : Pos} {id : String} {bb : Bi} (hc : X.calm = true) (hr : Room k X.A) (hK : X.K = T.K) (h1 : bb ≠ .lenset) (h2 : bb ≠ .rev) (hV : biV bb = .builtin id) (hg : Gl X x) (hm : X.mg x = none) (hv : bootBuiltins x = some (.builtin id)) (hn : x ≠ "__name__") (hdb : (x == ("__debug__" : Str)) = false)
    (ha : PE X ea (tE T F a E)) (hs' : starEach [ea] X.env = (false, eval ea X.env) :: starEach [] X.env) : PE X (.Call (.Name x p) [ea] [] pos) (tE T F (.bi bb a) E) := by
  have cr := cr_bi (X := X) hc hr bb h1 h2
  rw [hV] at cr
  refine (pe_callB cr hg hm hv (pa_cons ha pa_nil hs') hn hdb hs' rfl).weak fun σ H Q ⟨ρ, S, ι, he, hs, h⟩ => ?_
  unfold evE at h
  refine tE_bind he hs h fun d1 S1 v1 H1 p1 r1 he1 q1 => ?_
  show rBi X.K bb [v1] H1 Q
  rw [hK]
  exact bi_r p1.ok r1 h1 h2 q1
theorem s_biT {k : Nat} {x : Str} {p : Pos} {id : String} {bb : Bi} (hc : X.calm = true) (hr : Room k X.A) (hK : X.K = T.K) (h1 : bb ≠ .lenset) (h2 : bb ≠ .rev) (hV : biV bb = .type id) (hg : Gl X x) (hm : X.mg x = none) (hv : bootBuiltins x = some (.type id)) (hn : x ≠ "__name__") (hdb : (x == ("__debug__" : Str)) = false)
    (ha : PE X ea (tE T F a E)) (hs' : starEach [ea] X.env = (false, eval ea X.env) :: starEach [] X.env) : PE X (.Call (.Name x p) [ea] [] pos) (tE T F (.bi bb a) E) := by
  have cr := cr_bi (X := X) hc hr bb h1 h2
  rw [hV] at cr
  refine (pe_callTy cr hg hm hv (pa_cons ha pa_nil hs') hn hdb hs' rfl).weak fun σ H Q ⟨ρ, S, ι, he, hs, h⟩ => ?_
  unfold evE at h
  refine tE_bind he hs h fun d1 S1 v1 H1 p1 r1 he1 q1 => ?_
  show rBi X.K bb [v1] H1 Q
  rw [hK]
  exact bi_r p1.ok r1 h1 h2 q1
theorem s_lenset {p p2 q : Pos} (hc : X.calm = true) (hK : X.K = T.K) (hg : Gl X "len") (hm : X.mg "len" = none) (hg2 : Gl X "set") (hm2 : X.mg "set" = none) (ha : PE X ea (tE T F a E)) (hs' : starEach [ea] X.env = (false, eval ea X.env) :: starEach [] X.env) :
    PE X (.Call (.Name "len" p) [.Call (.Name "set" p2) [ea] [] q] [] pos) (tE T F (.bi .lenset a) E) := by
  refine (pe_lenSet2 hg hm hg2 hm2 ha hc hs').weak fun σ H Q ⟨ρ, S, ι, he, hs, h⟩ => ?_
  unfold evE at h
  refine tE_bind he hs h fun d1 S1 v1 H1 p1 r1 he1 q1 => ?_
  rw [hK]
  unfold bi at q1
  cases ev : view S1 d1 with
  | none => simp [ev] at q1; exact q1.elim
  | some x =>
    cases es : seqOf x with
    | none => simp [ev, es] at q1; exact q1.elim
    | some xs =>
      cases ei : allInt xs with
      | none => simp [ev, es, ei] at q1; exact q1.elim
      | some ns =>
        simp only [ev, es, ei, Option.bind_some] at q1
        split at q1
        · rename_i c
          obtain ⟨ad, vs, rfl, hz, rr, q'⟩ := r1.seqV p1.ok ev es
          have e1 := rr.ints ei
          refine ⟨ad, ns, rfl, ?_, c, q1.here p1.ok (.p (.int _))⟩
          rcases q' with ⟨_, q'⟩ | ⟨_, _, q', _⟩
          · exact .inl (by rw [← e1]; exact q')
          · exact .inr (by rw [← e1]; exact .of q')
        · exact q1.elim
theorem s_rev {kk : Nat} {p1 p2 p3 : Pos} (hK : X.K = T.K) (ha : PE X ea (tE T F a E)) : PE X (.Subscript ea (.Slice none none (some (.UnaryOp .USub (.Constant (.int 1) kk p1) p2)) p3) pos) (tE T F (.bi .rev a) E) := by
  refine (pe_revL ha).weak fun σ H Q ⟨ρ, S, ι, he, hs, h⟩ => ?_
  unfold evE at h
  refine tE_bind he hs h fun d1 S1 v1 H1 p1 r1 he1 q1 => ?_
  rw [hK]
  unfold bi at q1
  cases ev : view S1 d1 with
  | none => simp [ev] at q1; exact q1.elim
  | some x =>
    cases x with
    | lst xs =>
      simp only [ev] at q1
      obtain ⟨ad, vs, rfl, hq, hz, rr⟩ := r1.sqL p1.ok ev
      exact ⟨ad, vs, rfl, hq, fun p hp => q1.newL p1.ok rr.reverse (by rw [List.length_reverse]; exact hz) hp⟩
    | _ => simp [ev] at q1; exact q1.elim
theorem s_max2 {p : Pos} (hc : X.calm = true) (hg : Gl X "max") (hm : X.mg "max" = none) (ha : PE X ea (tE T F a E)) (hb : PE X eb (tE T F b E)) (hs' : starEach [ea, eb] X.env = (false, eval ea X.env) :: starEach [eb] X.env) (hs2 : starEach [eb] X.env = (false, eval eb X.env) :: starEach [] X.env) :
    PE X (.Call (.Name "max" p) [ea, eb] [] pos) (tE T F (.max2 a b) E) := by
  refine (pe_callB (call_max2 hc) hg hm (by decide +kernel) (pa_cons ha (pa_cons hb pa_nil hs2) hs') (by decide) (by decide) hs' (by rw [hs2]; rfl)).weak fun σ H Q ⟨ρ, S, ι, he, hs, h⟩ => ?_
  unfold evE at h
  refine tE_bind he hs h fun d1 S1 v1 H1 p1 r1 he1 q1 => tE_bind he1 p1.ok q1 fun d2 S2 v2 H2 p2 r2 he2 q2 => ?_
  split at q2
  · rename_i i j
    have e1 := (r1.post p2).int
    have e2 := r2.int
    subst e1 e2
    exact ⟨i, j, rfl, q2.here p2.ok (.p (.int _))⟩
  · exact q2.elim
theorem s_min2 {p : Pos} (hc : X.calm = true) (hg : Gl X "min") (hm : X.mg "min" = none) (ha : PE X ea (tE T F a E)) (hb : PE X eb (tE T F b E)) (hs' : starEach [ea, eb] X.env = (false, eval ea X.env) :: starEach [eb] X.env) (hs2 : starEach [eb] X.env = (false, eval eb X.env) :: starEach [] X.env) :
    PE X (.Call (.Name "min" p) [ea, eb] [] pos) (tE T F (.min2 a b) E) := by
  refine (pe_callB (call_min2 hc) hg hm (by decide +kernel) (pa_cons ha (pa_cons hb pa_nil hs2) hs') (by decide) (by decide) hs' (by rw [hs2]; rfl)).weak fun σ H Q ⟨ρ, S, ι, he, hs, h⟩ => ?_
  unfold evE at h
  refine tE_bind he hs h fun d1 S1 v1 H1 p1 r1 he1 q1 => tE_bind he1 p1.ok q1 fun d2 S2 v2 H2 p2 r2 he2 q2 => ?_
  split at q2
  · rename_i i j
    have e1 := (r1.post p2).int
    have e2 := r2.int
    subst e1 e2
    exact ⟨i, j, rfl, q2.here p2.ok (.p (.int _))⟩
  · exact q2.elim
/-! ### subscripts, slices -/
theorem ix_eq (n : Nat) (i : Int) : ixN n i = ix n i := rfl
theorem sIx_eq (n d : Nat) (o : Option Int) : HT.sIx n d o = sIx n d o := by cases o <;> rfl
theorem cut_rp {av : List Addr} {H : Hp} {vs : List V} {xs : List P} {lo hi : Option Int} (r : RpPs av H vs xs) : RpPs av H (cutV vs lo hi) (cut xs lo hi) := by
  unfold cutV cut
  rw [sIx_eq, sIx_eq, r.length]
  exact (r.drop _).take _
theorem items_r {ι : Foot} {S : Store} {H : Hp} {v : V} {d : D} {ds : List D} (hs : StOk ι S H) (r : Rp T ι H v d) (e : items S d = some ds) : ∃ a vs, v = .ref a ∧ Rps T ι H vs ds ∧ (SqL T.K H a vs ∨ SqT T.K H a vs) := by
  cases d with
  | p x =>
    cases x with
    | tup xs =>
      cases e
      obtain ⟨a, vs, rfl, h1, h2, h3, h4⟩ := r.tup
      exact ⟨a, vs, rfl, .ofP h4, .inr (.of h1)⟩
    | lst xs =>
      cases e
      obtain ⟨a, vs, rfl, h1, h2, h3, h4⟩ := r.lst
      exact ⟨a, vs, rfl, .ofP h4, .inl (.of h1)⟩
    | _ => cases e
  | ref k =>
    unfold items at e
    cases q : S[k]? with
    | none => simp [q] at e
    | some c =>
      cases c with
      | lst ys =>
        simp [q] at e
        subst e
        obtain ⟨a, vs, rfl, _, h2, h4, h5⟩ := r.cell hs q
        exact ⟨a, vs, rfl, .ofP h5, .inl (.of h2)⟩
      | _ => simp [q] at e
  | scr ns =>
    cases e
    cases r with
    | scr h hz => exact ⟨_, _, rfl, .ofInts ns, .inl h.sq⟩
  | tp xs =>
    cases e
    cases r with
    | tp h1 h2 h3 h4 => exact ⟨_, _, rfl, h4, .inr (.of h1)⟩
  | fn f => cases e
theorem s_idx (hK : X.K = T.K) (ha : PE X ea (tE T F a E)) (hb : PE X eb (tE T F b E)) (hp : PlainIx eb) : PE X (.Subscript ea eb pos) (tE T F (.idx a b) E) := by
  refine (pe_ix (ix_list.or ix_tup) ha hb hp).weak fun σ H Q ⟨ρ, S, ι, he, hs, h⟩ => ?_
  unfold evE at h
  refine tE_bind he hs h fun d1 S1 v1 H1 p1 r1 he1 q1 => tE_bind he1 p1.ok q1 fun d2 S2 v2 H2 p2 r2 he2 q2 => ?_
  split at q2
  · rename_i xs k e1
    have e2 := r2.int
    subst e2
    cases eg : getAt xs k with
    | none => simp [eg] at q2; exact q2.elim
    | some d =>
      simp only [eg] at q2
      obtain ⟨ad, vs, rfl, rr, hq⟩ := items_r p2.ok (r1.post p2) e1
      have hat : ∃ v, atI vs k = some v ∧ Rp T ι H2 v d := by
        unfold getAt at eg
        unfold atI
        rw [rr.length, ix_eq]
        cases hi : ix xs.length k with
        | none => simp [hi] at eg
        | some j =>
          simp only [hi, Option.bind_some] at eg
          obtain ⟨v, h1, h2⟩ := rr.get eg
          exact ⟨v, h1, h2⟩
      obtain ⟨v, h1, h2⟩ := hat
      rw [hK]
      rcases hq with hq | hq
      · exact .inl ⟨ad, vs, k, v, rfl, rfl, hq, h1, q2.here p2.ok h2⟩
      · exact .inr ⟨ad, vs, k, v, rfl, rfl, hq, h1, q2.here p2.ok h2⟩
  · exact q2.elim
def tOpt (T : Tb) (F : FS) (c : Option G9.E) (E : XK) : TO := fun σ H Q => ∃ ρ S ι, EnvOk T ι ρ σ H ∧ StOk ι S H ∧ OutX T E ι H (evO F c ρ S) (fun o S' H' => Q o H')
theorem s_none : PO X none (tOpt T F none E) := ⟨fun pins s σ H Q I ⟨ρ, S, ι, he, hs, h⟩ => po_none.run pins s σ H Q I (by
  unfold evO at h
  exact h H (.refl hs))⟩
theorem s_some (ha : PE X ea (tE T F a E)) : PO X (some ea) (tOpt T F (some a) E) := ⟨fun pins s σ H Q I ⟨ρ, S, ι, he, hs, h⟩ => (po_some ha).run pins s σ H Q I (by
  unfold evO at h
  refine tE_bindX he hs h fun d1 S1 v1 H1 p1 r1 he1 q1 => ?_
  split at q1
  · exact ⟨_, r1.int, q1 H1 (.refl p1.ok)⟩
  · exact q1.elim)⟩
theorem tO_bind {ι : Foot} {ρ : G9.Env} {σ : L2.St} {H : Hp} {S : Store} {Q : Option Int → Hp → Prop} {Q' : VK} {c : Option G9.E} {f : Option Int → Store → R D} (he : EnvOk T ι ρ σ H) (hs : StOk ι S H) (h : Out T E ι H ((evO F c ρ S).bind f) Q')
    (k : ∀ o S1 H1, Post ι H H1 S1 → EnvOk T ι ρ σ H1 → Out T E ι H1 (f o S1) Q' → Q o H1) : tOpt T F c E σ H Q :=
  ⟨ρ, S, ι, he, hs, (OutX.bindO h).imp fun o S1 H1 p q => k o S1 H1 p (he.post p) q⟩
theorem s_sl {lo hi : Option Expr} {cl ch : Option G9.E} {p2 : Pos} (hK : X.K = T.K) (ha : PE X ea (tE T F a E)) (hl : PO X lo (tOpt T F cl E)) (hh : PO X hi (tOpt T F ch E)) : PE X (.Subscript ea (.Slice lo hi none p2) pos) (tE T F (.sl a cl ch) E) := by
  refine (pe_slice (sl_tupA.or sl_list) ha hl hh).weak fun σ H Q ⟨ρ, S, ι, he, hs, h⟩ => ?_
  unfold evE at h
  refine tE_bind he hs h fun d1 S1 v1 H1 p1 r1 he1 q1 => tO_bind he1 p1.ok q1 fun l S2 H2 p2 he2 q2 => tO_bind he2 p2.ok q2 fun u S3 H3 p3 he3 q3 => ?_
  have r3 := (r1.post p2).post p3
  rw [hK]
  split at q3
  · rename_i xs e
    cases view_p e (fun _ => by simp)
    obtain ⟨ad, vs, rfl, h1, h2, h3, h4⟩ := r3.tup
    refine .inl ⟨ad, vs, rfl, .of h1, fun hw => ?_, fun hw p hp => ?_⟩
    · refine q3.here p3.ok (.p (.tup h1 h2 h3 ?_))
      unfold cut
      rw [sIx_eq, sIx_eq, h4.length] at hw
      rw [hw.1, hw.2]
      simp only [List.drop_zero, Nat.sub_zero, List.take_length]
      exact h4
    · exact q3.newT p3.ok (cut_rp h4) (Nat.le_trans (cutV_length _ _ _) h3) hp
  · rename_i xs e
    obtain ⟨ad, vs, rfl, hq, hz, rr⟩ := r3.sqL p3.ok e
    exact .inr ⟨ad, vs, rfl, hq, fun p hp => q3.newL p3.ok (cut_rp rr) (Nat.le_trans (cutV_length _ _ _) hz) hp⟩
  · exact q3.elim
end
end G9

/-! text E9 -/
/-! G9.E9: isinstance; calls of defs. -/
namespace G9
open PySem PySem.Spec PyProof.Rows L2

/-! ### isinstance -/
def tyS : Ty → String
  | .int => "int" | .bool => "bool" | .tuple => "tuple" | .str => "str" | .list => "list" | .dict => "dict"
def kindS : P → String
  | .non => "NoneType" | .bl _ => "bool" | .int _ => "int" | .str _ => "str" | .tup _ => "tuple" | .lst _ => "list"
theorem kit_is (x : P) (t : Ty) : kitB (kindS x) (tyS t) = some (isTy x t) := by
  cases x <;> cases t <;> first | rfl | decide +kernel
theorem boot_ty (t : Ty) : bootBuiltins (Str.ofString (tyS t)) = some (.type (tyS t)) := by
  cases t <;> decide +kernel
theorem Rp.tyX {T : Tb} {ι : Foot} {H : Hp} {S : Store} {v : V} {d : D} {x : P} (r : Rp T ι H v d) (hs : StOk ι S H) (e : view S d = some x) : TyX T.K H v (.type (kindS x)) := by
  cases d with
  | p y =>
    cases e
    cases r with
    | p r =>
      cases r with
      | non => exact .base .non
      | bl b => exact .base (.bl b)
      | int b => exact .base (.int b)
      | str b => exact .base (.str b)
      | tup h1 _ _ _ => exact .base (.tup h1)
      | lst h1 _ _ _ => exact .base (.lst h1)
  | ref k =>
    unfold view at e
    cases q : S[k]? with
    | none => simp [q] at e
    | some c =>
      cases c with
      | lst ys =>
        simp [q] at e
        subst e
        obtain ⟨a, vs, rfl, _, h2, _, h5⟩ := r.cell hs q
        exact .base (.lst h2)
      | _ => simp [q] at e
  | scr ns =>
    cases e
    cases r with
    | scr h hz =>
      rcases h with ⟨h | ⟨o, h⟩, _⟩ | ⟨o, its, n, hk, hc, _⟩
      · exact .base (.lst h)
      · exact .base (.frz h)
      · exact .kList hk hc
  | _ => cases e
section
variable {T : Tb} {F : FS} {X : Cx} {E : XK} {a b c d : G9.E} {ea eb ec : Expr} {pos : Pos}
theorem s_isin {p p2 : Pos} {t : Ty} {x : Str} (hK : X.K = T.K) (hx : x = Str.ofString (tyS t)) (hg : Gl X "isinstance") (hm : X.mg "isinstance" = none) (hg2 : Gl X x) (hm2 : X.mg x = none) (ha : PE X ea (tE T F a E))
    (hs' : starEach [ea, .Name x p2] X.env = (false, eval ea X.env) :: starEach [.Name x p2] X.env) : PE X (.Call (.Name "isinstance" p) [ea, .Name x p2] [] pos) (tE T F (.isin a t) E) := by
  subst hx
  have pn : PE X (.Name (Str.ofString (tyS t)) p2) (tC (.ty (tyS t))) := pe_bltn hg2 hm2 (boot_ty t) rfl (by cases t <;> decide) (by cases t <;> decide)
  refine (pe_callB call_isi hg hm (by decide +kernel) (pa_cons ha (pa_cons pn pa_nil rfl) hs') (by decide) (by decide) hs' rfl).weak fun σ H Q ⟨ρ, S, ι, he, hs, h⟩ => ?_
  unfold evE at h
  refine tE_bind he hs h fun d1 S1 v1 H1 p1 r1 he1 q1 => ?_
  show rIsi X.K [v1, .ty (tyS t)] H1 Q
  rw [hK]
  cases ev : view S1 d1 with
  | none => simp [ev] at q1; exact q1.elim
  | some y =>
    simp only [ev] at q1
    exact ⟨v1, .ty (tyS t), _, _, _, rfl, .ty _, r1.tyX p1.ok ev, kit_ty (kit_is y t), q1.here p1.ok (.p (.bl _))⟩
end
end G9

/-! text E10 -/
/-! G9.E10: what a for or a comprehension walks along. -/
namespace G9
open PySem PySem.Spec PyProof.Rows L2

theorem Keeps.refl (ι : Foot) (H : Hp) : Keeps ι H ι H := ⟨fun _ _ e _ => e, fun _ h => .inl h⟩
theorem Keeps.trans {ι ι1 ι2 : Foot} {H H1 H2 : Hp} (p : Keeps ι H ι1 H1) (q : Keeps ι1 H1 ι2 H2) : Keeps ι H ι2 H2 := by
  refine ⟨fun a o e n => q.keep a o (p.keep a o e n) fun z => (p.new a z).elim n (fun z' => by rw [e] at z'; cases z'), fun a h => ?_⟩
  rcases q.new a h with h1 | h1
  · exact p.new a h1
  · by_cases c : a ∈ ι.all
    · exact .inl c
    · cases e : H a with
      | none => exact .inr rfl
      | some o => rw [p.keep a o e c] at h1; cases h1
theorem allP_map (xs : List P) : allP (xs.map D.p) = some xs := by
  induction xs with
  | nil => rfl
  | cons x r ih => simp [allP, ih]
theorem allP_eq : ∀ {ds : List D} {xs : List P}, allP ds = some xs → ds = xs.map .p
  | [], xs, h => by cases h; rfl
  | .p x :: r, xs, h => by
    cases q : allP r with
    | none => simp [allP, q] at h
    | some ys =>
      simp [allP, q] at h
      subst h
      simp [allP_eq q]
  | .ref _ :: _, _, h => by simp [allP] at h
  | .fn _ :: _, _, h => by simp [allP] at h
  | .scr _ :: _, _, h => by simp [allP] at h
  | .tp _ :: _, _, h => by simp [allP] at h
theorem Rps.moved {T : Tb} {ι ι' : Foot} {H H' : Hp} {vs : List V} {ds : List D} (r : Rps T ι H vs ds) (k : Keeps ι H ι' H') (c : ι'.c = ι.c ∨ ∃ xs : List P, ds = xs.map D.p) : Rps T ι' H' vs ds := by
  rcases c with c | ⟨xs, rfl⟩
  · exact r.mono k (by rw [c]; exact Nat.le_refl _) fun j a fp _ e => ⟨fp, by rw [← c]; exact e⟩
  · exact .ofP ((r.toP (allP_map xs)).mono k.keep k.new)

/-- while these hold the walk goes on -/
structure Cond (ι : Foot) (lk : Option Nat) (S1 : Store) (H1 : Hp) (ds : List D) (ι' : Foot) (S2 : Store) (H2 : Hp) : Prop where
  k : Keeps ι H1 ι' H2
  s : StOk ι' S2 H2
  c : ι'.c = ι.c ∨ ∃ xs : List P, ds = xs.map D.p
  l : ∀ k, lk = some k → ι'.c = ι.c ∧ view S2 (.ref k) = view S1 (.ref k)
/-- J walks along ds -/
structure WalkD (T : Tb) (ι : Foot) (lk : Option Nat) (S1 : Store) (H1 : Hp) (ds : List D) (J : L2.It) : Prop where
  go : ∀ (i : Nat) d ι' S2 H2, ds[i]? = some d → Cond ι lk S1 H1 ds ι' S2 H2 → J.go i H2
  stop : ∀ ι' S2 H2, Cond ι lk S1 H1 ds ι' S2 H2 → J.stop ds.length H2
  yld : ∀ (i : Nat) d ι' S2 H2 x H3, ds[i]? = some d → Cond ι lk S1 H1 ds ι' S2 H2 → J.yld i H2 x H3 → Post ι' H2 H3 S2 ∧ Rp T ι' H3 x d
section
variable {T : Tb} {ι : Foot} {lk : Option Nat} {S1 : Store} {H1 : Hp} {ds es : List D} {a b : Addr}
theorem walkL (h : ∀ ι' S2 H2, Cond ι lk S1 H1 ds ι' S2 H2 → ∃ vs, Rps T ι' H2 vs ds ∧ SqL T.K H2 a vs) : WalkD T ι lk S1 H1 ds (Itl T.K a) := by
  refine ⟨fun i d ι' S2 H2 e c => ?_, fun ι' S2 H2 c => ?_, fun i d ι' S2 H2 x H3 e c y => ?_⟩
  · obtain ⟨vs, r, q⟩ := h ι' S2 H2 c
    obtain ⟨v, h1, _⟩ := r.get e
    exact ⟨vs, v, q, h1⟩
  · obtain ⟨vs, r, q⟩ := h ι' S2 H2 c
    exact ⟨vs, q, by rw [r.length]; exact Nat.le_refl _⟩
  · obtain ⟨vs, r, q⟩ := h ι' S2 H2 c
    obtain ⟨v, h1, h2⟩ := r.get e
    obtain ⟨rfl, y⟩ := y
    rw [y vs q] at h1
    cases h1
    exact ⟨.refl c.s, h2⟩
theorem walkT (h : ∀ ι' S2 H2, Cond ι lk S1 H1 ds ι' S2 H2 → ∃ vs, Rps T ι' H2 vs ds ∧ SqT T.K H2 a vs) : WalkD T ι lk S1 H1 ds (Itt T.K a) := by
  refine ⟨fun i d ι' S2 H2 e c => ?_, fun ι' S2 H2 c => ?_, fun i d ι' S2 H2 x H3 e c y => ?_⟩
  · obtain ⟨vs, r, q⟩ := h ι' S2 H2 c
    obtain ⟨v, h1, _⟩ := r.get e
    exact ⟨vs, v, q, h1⟩
  · obtain ⟨vs, r, q⟩ := h ι' S2 H2 c
    exact ⟨vs, q, by rw [r.length]; exact Nat.le_refl _⟩
  · obtain ⟨vs, r, q⟩ := h ι' S2 H2 c
    obtain ⟨v, h1, h2⟩ := r.get e
    obtain ⟨rfl, y⟩ := y
    rw [y vs q] at h1
    cases h1
    exact ⟨.refl c.s, h2⟩
theorem rangeL_get {lo : Int} : ∀ {n i : Nat} {d : D}, (rangeL lo n)[i]? = some d → i < n ∧ d = .p (.int (lo + i)) := by
  intro n
  induction n generalizing lo with
  | zero => intro i d h; simp [rangeL] at h
  | succ n ih =>
    intro i d h
    cases i with
    | zero => simp [rangeL] at h; subst h; exact ⟨Nat.zero_lt_succ _, by simp⟩
    | succ i =>
      simp [rangeL] at h
      obtain ⟨h1, h2⟩ := ih h
      refine ⟨Nat.succ_lt_succ h1, ?_⟩
      rw [h2]
      congr 2
      push_cast
      omega
theorem rangeL_length {lo : Int} : ∀ {n : Nat}, (rangeL lo n).length = n := by
  intro n
  induction n generalizing lo with
  | zero => rfl
  | succ n ih => simp [rangeL, ih]
theorem walkR {lo : Int} {n : Nat} : WalkD T ι lk S1 H1 (rangeL lo n) (Itr lo n) := by
  refine ⟨fun i d ι' S2 H2 e c => (rangeL_get e).1, fun ι' S2 H2 c => ?_, fun i d ι' S2 H2 x H3 e c y => ?_⟩
  · rw [rangeL_length]; exact Nat.le_refl n
  · obtain ⟨rfl, rfl⟩ := y
    rw [(rangeL_get e).2]
    exact ⟨.refl c.s, .p (.int _)⟩
theorem zipD_get : ∀ {xs ys : List D} {i : Nat} {d : D}, (zipD xs ys)[i]? = some d → ∃ x y, xs[i]? = some x ∧ ys[i]? = some y ∧ d = mkTup [x, y]
  | [], ys, i, d, h => by simp [zipD] at h
  | x :: xs, [], i, d, h => by simp [zipD] at h
  | x :: xs, y :: ys, 0, d, h => by simp [zipD] at h; exact ⟨x, y, rfl, rfl, h.symm⟩
  | x :: xs, y :: ys, i + 1, d, h => by
    simp [zipD] at h
    obtain ⟨u, v, h1, h2, h3⟩ := zipD_get h
    exact ⟨u, v, by simpa using h1, by simpa using h2, h3⟩
theorem zipD_length : ∀ {xs ys : List D}, (zipD xs ys).length = min xs.length ys.length
  | [], ys => by simp [zipD]
  | x :: xs, [] => by simp [zipD]
  | x :: xs, y :: ys => by simp [zipD, zipD_length (xs := xs) (ys := ys)]
theorem zipD_p : ∀ (xs ys : List P), ∃ zs : List P, zipD (xs.map .p) (ys.map .p) = zs.map D.p
  | [], ys => ⟨[], by simp [zipD]⟩
  | x :: xs, [] => ⟨[], by simp [zipD]⟩
  | x :: xs, y :: ys => by
    obtain ⟨zs, e⟩ := zipD_p xs ys
    exact ⟨.tup [x, y] :: zs, by simp [zipD, e, mkTup, allP]⟩
theorem enum_get : ∀ {xs : List D} {n i : Nat} {d : D}, (enumFrom n xs)[i]? = some d → ∃ x, xs[i]? = some x ∧ d = mkTup [.p (.int ((n + i : Nat) : Int)), x]
  | [], n, i, d, h => by simp [enumFrom] at h
  | x :: xs, n, 0, d, h => by simp [enumFrom] at h; exact ⟨x, rfl, h.symm⟩
  | x :: xs, n, i + 1, d, h => by
    simp [enumFrom] at h
    obtain ⟨u, h1, h2⟩ := enum_get h
    refine ⟨u, by simpa using h1, ?_⟩
    rw [h2, show n + 1 + i = n + (i + 1) by omega]
theorem enum_length : ∀ {xs : List D} {n : Nat}, (enumFrom n xs).length = xs.length
  | [], _ => rfl
  | x :: xs, n => by simp [enumFrom, enum_length (xs := xs)]
theorem enum_p : ∀ (xs : List P) (n : Nat), ∃ zs : List P, enumFrom n (xs.map .p) = zs.map D.p
  | [], n => ⟨[], rfl⟩
  | x :: xs, n => by
    obtain ⟨zs, e⟩ := enum_p xs (n + 1)
    exact ⟨.tup [.int n, x] :: zs, by simp [enumFrom, e, mkTup, allP]⟩
theorem pairNew {ι' : Foot} {H2 : Hp} {S2 : Store} {x y : V} {dx dy : D} {p : Addr} (hs : StOk ι' S2 H2) (r1 : Rp T ι' H2 x dx) (r2 : Rp T ι' H2 y dy) (hp : H2 p = none) : Post ι' H2 (upd H2 p (.tup [x, y])) S2 ∧ Rp T ι' (upd H2 p (.tup [x, y])) (.ref p) (mkTup [dx, dy]) :=
  Out.newTup (T := T) (E := fun _ _ _ => True) (ι := ι') (S := S2) (ds := [dx, dy]) (Q := fun v H' => Post ι' H2 H' S2 ∧ Rp T ι' H' v (mkTup [dx, dy])) (fun v H' p r => ⟨p, r⟩) hs (.cons r1 (.cons r2 .nil)) (by show 2 ≤ sizeLine; decide) hp
theorem walkZ {xs ys : List D} (h : ∀ ι' S2 H2, Cond ι lk S1 H1 (zipD xs ys) ι' S2 H2 → ∃ vs us, Rps T ι' H2 vs xs ∧ SqT T.K H2 a vs ∧ Rps T ι' H2 us ys ∧ SqT T.K H2 b us) : WalkD T ι lk S1 H1 (zipD xs ys) (RZ.ItzT T.K a b) := by
  refine ⟨fun i d ι' S2 H2 e c => ?_, fun ι' S2 H2 c => ?_, fun i d ι' S2 H2 x H3 e c y => ?_⟩
  · obtain ⟨vs, us, r, q, r', q'⟩ := h ι' S2 H2 c
    obtain ⟨x, y, e1, e2, _⟩ := zipD_get e
    obtain ⟨v, h1, _⟩ := r.get e1
    obtain ⟨u, h2, _⟩ := r'.get e2
    exact ⟨vs, us, v, u, q, q', h1, h2⟩
  · obtain ⟨vs, us, r, q, r', q'⟩ := h ι' S2 H2 c
    refine ⟨vs, us, q, q', ?_⟩
    rw [zipD_length, r.length, r'.length]
    omega
  · obtain ⟨vs, us, r, q, r', q'⟩ := h ι' S2 H2 c
    obtain ⟨x', y', e1, e2, rfl⟩ := zipD_get e
    obtain ⟨v, h1, k1⟩ := r.get e1
    obtain ⟨u, h2, k2⟩ := r'.get e2
    obtain ⟨p, x1, y1, rfl, hp, rfl, g1, g2⟩ := y
    rw [g1 vs q] at h1
    rw [g2 us q'] at h2
    cases h1
    cases h2
    exact pairNew c.s k1 k2 hp
theorem walkE {xs : List D} {J : L2.It} (hJ : J = Ite T.K a ∨ J = IteT T.K a) (h : ∀ ι' S2 H2, Cond ι lk S1 H1 (enumFrom 0 xs) ι' S2 H2 → ∃ vs, Rps T ι' H2 vs xs ∧ ((J = Ite T.K a ∧ SqL T.K H2 a vs) ∨ (J = IteT T.K a ∧ SqT T.K H2 a vs))) : WalkD T ι lk S1 H1 (enumFrom 0 xs) J := by
  refine ⟨fun i d ι' S2 H2 e c => ?_, fun ι' S2 H2 c => ?_, fun i d ι' S2 H2 x H3 e c y => ?_⟩
  · obtain ⟨vs, r, q⟩ := h ι' S2 H2 c
    obtain ⟨x, e1, _⟩ := enum_get e
    obtain ⟨v, h1, _⟩ := r.get e1
    rcases q with ⟨rfl, q⟩ | ⟨rfl, q⟩
    · exact ⟨vs, v, q, h1⟩
    · exact ⟨vs, v, q, h1⟩
  · obtain ⟨vs, r, q⟩ := h ι' S2 H2 c
    rcases q with ⟨rfl, q⟩ | ⟨rfl, q⟩
    · exact ⟨vs, q, by rw [enum_length, r.length]; exact Nat.le_refl _⟩
    · exact ⟨vs, q, by rw [enum_length, r.length]; exact Nat.le_refl _⟩
  · obtain ⟨vs, r, q⟩ := h ι' S2 H2 c
    obtain ⟨x', e1, rfl⟩ := enum_get e
    obtain ⟨v, h1, k1⟩ := r.get e1
    have k0 : Rp T ι' H2 (.int ((0 + i : Nat) : Int)) (.p (.int ((0 + i : Nat) : Int))) := .p (.int _)
    rw [Nat.zero_add] at k0 ⊢
    rcases q with ⟨rfl, q⟩ | ⟨rfl, q⟩
    · obtain ⟨p, x1, rfl, hp, rfl, g1⟩ := y
      rw [g1 vs q] at h1
      cases h1
      exact pairNew c.s k0 k1 hp
    · obtain ⟨p, x1, rfl, hp, rfl, g1⟩ := y
      rw [g1 vs q] at h1
      cases h1
      exact pairNew c.s k0 k1 hp
/-- what is at hand is walked -/
theorem SqS.moved {K : PySem.W.Frag} {ι ι' : Foot} {H H' : Hp} {a : Addr} {vs : List V} (h : SqS K ι.all H a vs) (k : Keeps ι H ι' H') : SqL K H' a vs := by
  rcases h with ⟨h, q⟩ | h
  · refine .inl ?_
    rcases h with h | ⟨o, h⟩
    · exact .inl (k.keep _ _ h q)
    · exact .inr ⟨o, k.keep _ _ h q⟩
  · exact .inr h
end

/-! ### the rules -/
theorem _root_.L2.PI.weak {X : Cx} {tg e : Expr} {t t' : TI} (h : PI X tg e t) (hw : ∀ σ H R, t' σ H R → t σ H R) : PI X tg e t' := ⟨fun pins s σ H R I q => h.run pins s σ H R I (hw σ H R q)⟩
def iAny (K : PySem.W.Frag) (tl : TE) : TI := fun σ H R => tl σ H fun x H1 => ∃ a, x = .ref a ∧ (((∃ xs, SqL K H1 a xs) ∧ R (Itl K a) H1) ∨ ((∃ xs, SqT K H1 a xs) ∧ R (Itt K a) H1))
theorem pi_any {X : Cx} {tg l : Expr} {tl : TE} (hl : PE X l tl) : PI X tg l (iAny X.K tl) := by
  refine ⟨fun pins s σ H R I h => ?_⟩
  refine thn (hl.run pins s σ H _ I h) fun v s1 ⟨x, H1, I1, r1, q1⟩ => ?_
  obtain ⟨a, e, ⟨⟨xs, hq⟩, q⟩ | ⟨⟨xs, hq⟩, q⟩⟩ := q1
  · subst e
    cases r1
    obtain ⟨its, rv, p, hz⟩ := I1.list hq
    refine wpAny_pyIter_list p.isList ?_
    refine ⟨s1.heap.objs.size, [s1.heap.objs.size], _, _, H1, rfl, I1.kept (t' := s1.toks) fun b o e => Heap.get?_push_of_some _ e, turn_list a _, ⟨_, Heap.get?_push_size _ rfl, rfl, rfl⟩, fun b hb => ?_, q⟩
    have e : b = s1.heap.objs.size := by simpa using hb
    subst e
    exact I1.fpOk (Nat.le_refl _) (I1.hok.fresh (Nat.le_refl _))
  · subst e
    cases r1
    obtain ⟨its, rv, p, hz⟩ := I1.tuple hq
    refine wpAny_pyIter_tuple (show s1.heap.IsTuple a its.toArray from p) ?_
    refine ⟨s1.heap.objs.size, [s1.heap.objs.size], _, _, H1, rfl, I1.kept (t' := s1.toks) fun b o e => Heap.get?_push_of_some _ e, turn_tuple a _, ⟨_, Heap.get?_push_size _ rfl, rfl, rfl⟩, fun b hb => ?_, q⟩
    have e : b = s1.heap.objs.size := by simpa using hb
    subst e
    exact I1.fpOk (Nat.le_refl _) (I1.hok.fresh (Nat.le_refl _))
def tI (T : Tb) (F : FS) (c : G9.It) (E : XK) : TI := fun σ H R => ∃ ρ S ι, EnvOk T ι ρ σ H ∧ StOk ι S H ∧ OutX T E ι H (evI F c ρ S) (fun w S' H' => ∀ J, WalkD T ι w.1 S' H' w.2 J → R J H')
section
variable {T : Tb} {F : FS} {X : Cx} {E : XK} {a b c d : G9.E} {ea eb ec tg : Expr} {pos : Pos}
theorem s_iseq (hK : X.K = T.K) (ha : PE X ea (tE T F a E)) : PI X tg ea (tI T F (.seq a) E) := by
  refine (pi_any ha).weak fun σ H R ⟨ρ, S, ι, he, hs, h⟩ => ?_
  unfold evI at h
  refine tE_bindX he hs h fun d1 S1 v1 H1 p1 r1 he1 h1 => ?_
  rw [hK]
  cases e : items S1 d1 with
  | none => simp [e] at h1; exact h1.elim
  | some ds =>
    simp only [e] at h1
    have h2 := h1 H1 (.refl p1.ok)
    cases d1 with
    | p x =>
      cases x with
      | tup xs =>
        cases e
        obtain ⟨ad, vs, rfl, e1, e2, e3, e4⟩ := r1.tup
        refine ⟨ad, rfl, .inr ⟨⟨vs, .of e1⟩, h2 _ (walkT fun ι' S2 H2 c => ⟨vs, .ofP (e4.mono c.k.keep c.k.new), .of (c.k.keep _ _ e1 e2)⟩)⟩⟩
      | lst xs =>
        cases e
        obtain ⟨ad, vs, rfl, e1, e2, e3, e4⟩ := r1.lst
        refine ⟨ad, rfl, .inl ⟨⟨vs, .of e1⟩, h2 _ (walkL fun ι' S2 H2 c => ⟨vs, .ofP (e4.mono c.k.keep c.k.new), .of (c.k.keep _ _ e1 e2)⟩)⟩⟩
      | _ => cases e
    | ref k =>
      unfold items at e
      cases q : S1[k]? with
      | none => simp [q] at e
      | some c =>
        cases c with
        | lst ys =>
          simp [q] at e
          subst e
          obtain ⟨ad, vs, rfl, e0, e2, e4, e5⟩ := r1.cell p1.ok q
          have hk : k < ι.c.length := (List.getElem?_eq_some_iff.mp e0).1
          refine ⟨ad, rfl, .inl ⟨⟨vs, .of e2⟩, h2 _ (walkL fun ι' S2 H2 c => ?_)⟩⟩
          obtain ⟨l1, l2⟩ := c.l k rfl
          have q2 : S2[k]? = some (.lst ys) := by
            simp only [view, q] at l2
            cases q2 : S2[k]? with
            | none => simp [q2] at l2
            | some c2 =>
              cases c2 with
              | lst zs => simp [q2] at l2; rw [l2]
              | _ => simp [q2] at l2
          have rr : Rp T ι' H2 (.ref ad) (.ref k) := .ref (by rw [l1]; exact hk) fun a fp z => by rw [l1, e0] at z; cases z; rfl
          obtain ⟨ad', vs', e', _, f2, _, f5⟩ := rr.cell c.s q2
          cases e'
          exact ⟨vs', .ofP f5, .of f2⟩
        | _ => simp [q] at e
    | scr ns =>
      cases e
      cases r1 with
      | scr hq hz =>
        refine ⟨_, rfl, .inl ⟨⟨_, hq.sq⟩, h2 _ (walkL fun ι' S2 H2 c => ⟨_, .ofInts ns, hq.moved c.k⟩)⟩⟩
    | tp xs =>
      cases e
      cases r1 with
      | tp e1 e2 e3 e4 =>
        refine ⟨_, rfl, .inr ⟨⟨_, .of e1⟩, h2 _ (walkT fun ι' S2 H2 c => ⟨_, e4.moved c.k c.c, .of (c.k.keep _ _ e1 e2)⟩)⟩⟩
    | fn f => cases e
theorem okRng_lim {i : Int} (h : okRng i = true) : -(2 ^ 62) ≤ i ∧ i < 2 ^ 62 := by
  unfold okRng at h
  simp only [Bool.and_eq_true, decide_eq_true_eq] at h
  omega
theorem s_irng1 {p : Pos} (hg : Gl X "range") (hm : X.mg "range" = none) (hb : PE X eb (tE T F b E)) (hs' : starEach [eb] X.env = [(false, eval eb X.env)]) : PI X tg (.Call (.Name "range" p) [eb] [] pos) (tI T F (.rng none b) E) := by
  refine (pi_range1 hg hm (pa_cons hb pa_nil hs') hs').weak fun σ H R ⟨ρ, S, ι, he, hs, h⟩ => ?_
  unfold evI evO at h
  refine tE_bindX he hs h fun d1 S1 v1 H1 p1 r1 he1 h1 => ?_
  unfold rngOf at h1
  split at h1
  · rename_i ds e
    split at e
    · rename_i j
      split at e
      · rename_i c
        cases e
        cases r1.int
        simp only [Bool.and_eq_true] at c
        obtain ⟨c1, c2⟩ := okRng_lim c.2
        refine ⟨j, rfl, c1, c2, ?_⟩
        have h2 := h1 H1 (.refl p1.ok) (Itr 0 j.toNat)
        refine h2 ?_
        have := walkR (T := T) (ι := ι) (lk := none) (S1 := S1) (H1 := H1) (lo := 0) (n := j.toNat)
        simpa using this
      · cases e
    · cases e
  · exact h1.elim
theorem s_irng2 {p : Pos} (hg : Gl X "range") (hm : X.mg "range" = none) (ha : PE X ea (tE T F a E)) (hb : PE X eb (tE T F b E)) (hs1 : starEach [ea, eb] X.env = [(false, eval ea X.env), (false, eval eb X.env)]) (hs' : starEach [eb] X.env = [(false, eval eb X.env)]) : PI X tg (.Call (.Name "range" p) [ea, eb] [] pos) (tI T F (.rng (some a) b) E) := by
  refine (pi_range2 hg hm (pa_cons ha (pa_cons hb pa_nil hs') (by rw [hs1, hs'])) hs1 hs').weak fun σ H R ⟨ρ, S, ι, he, hs, h⟩ => ?_
  unfold evI evO at h
  have h : OutX T E ι H ((evE F a ρ S).bind fun x S1 => (match x with
    | .p (.int i) => G9.R.ok (some i) S1
    | _ => G9.R.bad).bind fun x S1 => (evE F b ρ S1).bind fun y S2 => match rngOf x y with
    | some ds => G9.R.ok (none, ds) S2
    | none => G9.R.bad) (fun (w : Option Nat × List D) S' H' => ∀ J, WalkD T ι w.1 S' H' w.2 J → R J H') := by
    cases q : evE F a ρ S with
    | ok d S1 =>
      rw [q] at h
      exact h
    | exc d S1 =>
      rw [q] at h
      exact h
    | bad =>
      rw [q] at h
      exact h
  refine tE_bindX he hs h fun d0 S0 v0 H0 p0 r0 he0 h0 => ?_
  split at h0
  · rename_i i
    refine tE_bindX he0 p0.ok h0 fun d1 S1 v1 H1 p1 r1 he1 h1 => ?_
    cases (r0.post p1).int
    unfold rngOf at h1
    split at h1
    · rename_i ds e
      split at e
      · rename_i j
        split at e
        · rename_i c
          cases e
          cases r1.int
          simp only [Bool.and_eq_true, Option.getD_some] at c
          obtain ⟨c1, c2⟩ := okRng_lim c.2
          obtain ⟨c3, c4⟩ := okRng_lim c.1
          refine ⟨i, j, rfl, ⟨c3, c4, c1, c2⟩, ?_⟩
          have h2 := h1 H1 (.refl p1.ok) (Itr i (j - i).toNat)
          exact h2 (walkR (T := T) (ι := ι) (lk := none) (S1 := S1) (H1 := H1) (lo := i) (n := (j - i).toNat))
        · cases e
      · cases e
    · exact h1.elim
  · exact h0.elim
theorem s_izip {p tpos : Pos} {elts : List Expr} {kk : Nat} (hK : X.K = T.K) (hg : Gl X "zip") (hm : X.mg "zip" = none) (ha : PE X ea (tE T F a E)) (hb : PE X eb (tE T F b E)) (hs1 : starEach [ea, eb] X.env = [(false, eval ea X.env), (false, eval eb X.env)]) (hs' : starEach [eb] X.env = [(false, eval eb X.env)]) :
    PI X (.Tuple elts kk tpos) (.Call (.Name "zip" p) [ea, eb] [] pos) (tI T F (.zip a b) E) := by
  refine (RZ.pi_zipA hg hm (pa_cons ha (pa_cons hb pa_nil hs') (by rw [hs1, hs'])) (by rw [hs1, hs']) (by rw [hs']; rfl)).weak fun σ H R ⟨ρ, S, ι, he, hs, h⟩ => ?_
  unfold evI at h
  refine tE_bindX he hs h fun d0 S0 v0 H0 p0 r0 he0 h0 => tE_bindX he0 p0.ok h0 fun d1 S1 v1 H1 p1 r1 he1 h1 => ?_
  rw [hK]
  split at h1
  · rename_i xs ys
    obtain ⟨a1, vs, rfl, e1, e2, e3, e4⟩ := (r0.post p1).tup
    obtain ⟨a2, us, rfl, f1, f2, f3, f4⟩ := r1.tup
    refine ⟨a1, a2, vs, us, rfl, .inr ⟨.of e1, .of f1, h1 H1 (.refl p1.ok) _ (walkZ fun ι' S2 H2 c => ?_)⟩⟩
    exact ⟨vs, us, .ofP (e4.mono c.k.keep c.k.new), .of (c.k.keep _ _ e1 e2), .ofP (f4.mono c.k.keep c.k.new), .of (c.k.keep _ _ f1 f2)⟩
  · exact h1.elim
theorem s_ienum {p tpos : Pos} {elts : List Expr} {kk : Nat} (hK : X.K = T.K) (hg : Gl X "enumerate") (hm : X.mg "enumerate" = none) (ha : PE X ea (tE T F a E)) (hs' : starEach [ea] X.env = [(false, eval ea X.env)]) :
    PI X (.Tuple elts kk tpos) (.Call (.Name "enumerate" p) [ea] [] pos) (tI T F (.enum a) E) := by
  refine (pi_enumA hg hm (pa_cons ha pa_nil hs') hs').weak fun σ H R ⟨ρ, S, ι, he, hs, h⟩ => ?_
  unfold evI at h
  refine tE_bindX he hs h fun d1 S1 v1 H1 p1 r1 he1 h1 => ?_
  rw [hK]
  split at h1
  · rename_i xs
    obtain ⟨a1, vs, rfl, e1, e2, e3, e4⟩ := r1.tup
    exact ⟨a1, vs, rfl, .inr ⟨.of e1, h1 H1 (.refl p1.ok) _ (walkE (.inr rfl) fun ι' S2 H2 c => ⟨vs, .ofP (e4.mono c.k.keep c.k.new), .inr ⟨rfl, .of (c.k.keep _ _ e1 e2)⟩⟩)⟩⟩
  · rename_i xs
    obtain ⟨a1, vs, rfl, e1, e2, e3, e4⟩ := r1.lst
    exact ⟨a1, vs, rfl, .inl ⟨.of e1, h1 H1 (.refl p1.ok) _ (walkE (.inl rfl) fun ι' S2 H2 c => ⟨vs, .ofP (e4.mono c.k.keep c.k.new), .inl ⟨rfl, .of (c.k.keep _ _ e1 e2)⟩⟩)⟩⟩
  · rename_i xs
    cases r1 with
    | tp e1 e2 e3 e4 =>
      refine ⟨_, _, rfl, .inr ⟨.of e1, h1 H1 (.refl p1.ok) _ (walkE (.inr rfl) fun ι' S2 H2 c => ⟨_, e4.moved c.k ?_, .inr ⟨rfl, .of (c.k.keep _ _ e1 e2)⟩⟩)⟩⟩
      rcases c.c with q | ⟨zs, q⟩
      · exact .inl q
      · refine .inr ?_
        clear h1 e4 c e1
        have key : ∀ (n : Nat) (ds : List D) (zs : List P), enumFrom n ds = zs.map D.p → ∃ ys : List P, ds = ys.map D.p := by
          intro n ds
          induction ds generalizing n with
          | nil => intro _ _; exact ⟨[], rfl⟩
          | cons d r ih =>
            intro zs q
            cases zs with
            | nil => simp [enumFrom] at q
            | cons z zs =>
              simp only [enumFrom, List.map_cons, List.cons.injEq] at q
              obtain ⟨ys, e⟩ := ih _ _ q.2
              cases d with
              | p x => exact ⟨x :: ys, by simp [e]⟩
              | _ => simp [mkTup, allP] at q
        exact key 0 xs zs q
  · exact h1.elim
end
end G9

/-! text E11 -/
/-! G9.E11: targets; list comprehensions. -/
namespace G9
open PySem PySem.Spec PyProof.Rows L2

/-! ### targets -/
def gAll : List (Nat × Str) → TGs
  | [] => gNil
  | p :: r => gCons (gName p.1) (gAll r)
def gT (K : PySem.W.Frag) : Tg → TG
  | .nm i _ => gName i
  | .tp xs => gTup K xs.length (gAll xs)
def Tg.ixs : Tg → List Nat
  | .nm i _ => [i]
  | .tp xs => xs.map (·.1)
/-- stored at some places -/
structure Sets (is : List Nat) (σ σ1 : L2.St) : Prop where
  len : σ1.length = σ.length
  same : ∀ (i : Nat), i ∉ is → σ1[i]? = σ[i]?
theorem EnvOk.set {T : Tb} {ι : Foot} {ρ : G9.Env} {σ : L2.St} {H : Hp} {v : V} {d : D} (h : EnvOk T ι ρ σ H) (r : Rp T ι H v d) (i : Nat) : EnvOk T ι (ρ.set i (some d)) (σ.set i (some v)) H := by
  refine ⟨by rw [List.length_set, List.length_set, h.len], fun j e q => ?_⟩
  by_cases c : i = j
  · subst c
    by_cases hl : i < ρ.length
    · rw [List.getElem?_set_self hl] at q
      cases q
      exact ⟨v, List.getElem?_set_self (by rw [← h.len]; exact hl), r⟩
    · rw [List.getElem?_eq_none (by simpa using hl)] at q
      cases q
  · rw [List.getElem?_set_ne c] at q ⊢
    exact h.get j e q
theorem Sets.one (σ : L2.St) (i : Nat) (o : Option V) : Sets [i] σ (σ.set i o) := ⟨by rw [List.length_set], fun j hj => List.getElem?_set_ne (by simp at hj; exact fun e => hj e.symm)⟩
theorem Sets.step {is : List Nat} {σ σ1 : L2.St} {i : Nat} {o : Option V} (h : Sets is (σ.set i o) σ1) : Sets (i :: is) σ σ1 := by
  refine ⟨by rw [h.len, List.length_set], fun j hj => ?_⟩
  simp at hj
  rw [h.same j hj.2, List.getElem?_set_ne (fun e => hj.1 e.symm)]
section
variable {T : Tb} {ι : Foot} {H : Hp}
theorem gAll_ok {Q : L2.St → Hp → Prop} : ∀ {xs : List (Nat × Str)} {ds : List D} {ρ ρ1 : G9.Env} {σ : L2.St} {vs : List V}, setAll xs ds ρ = some ρ1 → EnvOk T ι ρ σ H → Rps T ι H vs ds → (∀ σ1, EnvOk T ι ρ1 σ1 H → Sets (xs.map (·.1)) σ σ1 → Q σ1 H) → gAll xs vs σ H Q
  | [], [], ρ, ρ1, σ, _, e, he, .nil, k => by
    cases e
    exact ⟨rfl, k σ he ⟨rfl, fun _ _ => rfl⟩⟩
  | [], _ :: _, ρ, ρ1, σ, _, e, he, _, k => by cases e
  | _ :: _, [], ρ, ρ1, σ, _, e, he, _, k => by cases e
  | (i, x) :: r, d :: ds, ρ, ρ1, σ, _, e, he, .cons h1 h2, k => by
    refine ⟨_, _, rfl, ?_⟩
    exact gAll_ok (xs := r) e (he.set h1 i) h2 fun σ1 q s => k σ1 q s.step
theorem setAll_len : ∀ {xs : List (Nat × Str)} {ds : List D} {ρ ρ1 : G9.Env}, setAll xs ds ρ = some ρ1 → ds.length = xs.length
  | [], [], _, _, _ => rfl
  | [], _ :: _, _, _, e => by cases e
  | _ :: _, [], _, _, e => by cases e
  | (i, x) :: r, d :: ds, ρ, ρ1, e => by
    rw [List.length_cons, List.length_cons, setAll_len (xs := r) e]
theorem gT_ok {Q : L2.St → Hp → Prop} {tg : Tg} {d : D} {ρ ρ1 : G9.Env} {σ : L2.St} {v : V} (e : bindT tg d ρ = some ρ1) (he : EnvOk T ι ρ σ H) (r : Rp T ι H v d) (k : ∀ σ1, EnvOk T ι ρ1 σ1 H → Sets tg.ixs σ σ1 → Q σ1 H) : gT T.K tg v σ H Q := by
  cases tg with
  | nm i x =>
    cases e
    exact k _ (he.set r i) (.one _ _ _)
  | tp xs =>
    unfold bindT at e
    simp only at e
    · split at e
      · rename_i ys
        obtain ⟨a, vs, rfl, h1, h2, h3, h4⟩ := r.tup
        have h5 : Rps T ι H vs (ys.map .p) := .ofP h4
        exact ⟨a, vs, rfl, .of h1, by rw [h5.length, setAll_len e], gAll_ok e he h5 k⟩
      · rename_i ys
        cases r with
        | tp h1 h2 h3 h4 => exact ⟨_, _, rfl, .of h1, by rw [h4.length, setAll_len e], gAll_ok e he h4 k⟩
      · cases e
end
theorem wipe_in {σ : L2.St} {i : Nat} : ∀ {vs : List Nat}, i ∈ vs → i < σ.length → (wipe σ vs)[i]? = some none
  | v :: vs, h, hl => by
    unfold wipe
    by_cases c : v = i
    · subst c
      exact List.getElem?_set_self (by rw [wipe_length]; exact hl)
    · rw [List.getElem?_set_ne c]
      refine wipe_in ?_ hl
      rcases List.mem_cons.mp h with e | h
      · exact absurd e.symm c
      · exact h
theorem wipe_ext {σ σ1 : L2.St} {vs : List Nat} (hl : σ1.length = σ.length) (h : ∀ (i : Nat), i ∉ vs → σ1[i]? = σ[i]?) : wipe σ1 vs = wipe σ vs := by
  refine List.ext_getElem? fun i => ?_
  by_cases c : i ∈ vs
  · by_cases q : i < σ.length
    · rw [wipe_in c q, wipe_in c (by rw [hl]; exact q)]
    · rw [List.getElem?_eq_none (by rw [wipe_length, hl]; omega), List.getElem?_eq_none (by rw [wipe_length]; omega)]
  · rw [wipe_out c, wipe_out c, h i c]
theorem wipe_sets {σ σ1 : L2.St} {vs is : List Nat} (h : Sets is (wipe σ vs) σ1) (hi : ∀ i ∈ is, i ∈ vs) : wipe σ1 vs = wipe σ vs := by
  refine wipe_ext (by rw [h.len, wipe_length]) fun i hi' => ?_
  rw [h.same i (fun q => hi' (hi i q)), wipe_out hi']
theorem wipeE_length (ρ : G9.Env) : ∀ (own : List (Str × Nat)), (wipeE ρ own).length = ρ.length
  | [] => rfl
  | v :: vs => by unfold wipeE; rw [List.length_set, wipeE_length ρ vs]
theorem wipeE_some {ρ : G9.Env} {i : Nat} {x : D} : ∀ {own : List (Str × Nat)}, (wipeE ρ own)[i]? = some (some x) → ρ[i]? = some (some x) ∧ i ∉ own.map (·.2)
  | [], h => ⟨h, by simp⟩
  | v :: vs, h => by
    unfold wipeE at h
    by_cases hi : v.2 = i
    · subst hi
      by_cases hv : v.2 < (wipeE ρ vs).length
      · rw [List.getElem?_set_self hv] at h; cases h
      · rw [List.getElem?_eq_none (by simpa using hv)] at h; cases h
    · rw [List.getElem?_set_ne hi] at h
      obtain ⟨h1, h2⟩ := wipeE_some h
      exact ⟨h1, by simp only [List.map_cons, List.mem_cons, not_or]; exact ⟨fun e => hi e.symm, h2⟩⟩
theorem EnvOk.wipe {T : Tb} {ι : Foot} {ρ : G9.Env} {σ : L2.St} {H : Hp} (h : EnvOk T ι ρ σ H) (own : List (Str × Nat)) : EnvOk T ι (wipeE ρ own) (L2.wipe σ (own.map (·.2))) H := by
  refine ⟨by rw [wipeE_length, wipe_length, h.len], fun i d e => ?_⟩
  obtain ⟨h1, h2⟩ := wipeE_some e
  obtain ⟨v, h3, h4⟩ := h.get i d h1
  exact ⟨v, by rw [wipe_out h2]; exact h3, h4⟩
/-! ### data once more -/
theorem str_beq {x y : Str} (h : (x == y) = true) : x = y := by simpa using h
mutual
theorem beqP_eq : ∀ {x y : P}, beqP x y = true → x = y
  | .non, y, h => by cases y <;> simp [beqP] at h; rfl
  | .bl a, y, h => by cases y <;> simp [beqP] at h; rw [h]
  | .int a, y, h => by cases y <;> simp [beqP] at h; rw [h]
  | .str a, y, h => by cases y <;> simp [beqP] at h; rw [h]
  | .tup a, y, h => by cases y <;> simp [beqP] at h; rw [beqPs_eq h]
  | .lst a, y, h => by cases y <;> simp [beqP] at h; rw [beqPs_eq h]
theorem beqPs_eq : ∀ {x y : List P}, beqPs x y = true → x = y
  | [], y, h => by cases y <;> simp [beqPs] at h; rfl
  | a :: r, y, h => by
    cases y with
    | nil => simp [beqPs] at h
    | cons b s =>
      simp [beqPs] at h
      rw [beqP_eq h.1, beqPs_eq h.2]
end
theorem still_view {lk : Option Nat} {S S' : Store} (h : still lk S S' = true) : ∀ k, lk = some k → view S' (.ref k) = view S (.ref k) := fun k e => by
  subst e
  unfold still at h
  simp only at h
  split at h
  · rename_i xs ys e1 e2
    simp only [view, e1, e2]
    rw [beqPs_eq h]
  · cases h
/-! ### the new list of a comprehension -/
theorem StOk.sub {ι : Foot} {S : Store} {H : Hp} {D : Addr} (h : StOk ⟨ι.c, D :: ι.x⟩ S H) : StOk ι S H := by
  refine ⟨h.len, ?_, fun k fp c e1 e2 => ?_, fun a ha => h.ex a (List.mem_cons_of_mem _ ha)⟩
  · have := h.nd
    unfold Foot.all at this ⊢
    rw [List.nodup_append] at this ⊢
    simp only [List.nodup_cons] at this
    exact ⟨this.1, this.2.1.2, fun a ha b hb => this.2.2 a ha b (List.mem_cons_of_mem _ hb)⟩
  · exact (h.cell k fp c e1 e2).mono (fun a o e _ => e) fun a ha => .inl (by
        unfold Foot.all at ha ⊢
        simp only [List.mem_append, List.mem_cons] at ha ⊢
        rcases ha with q | q
        · exact .inl q
        · exact .inr (.inr q))
theorem all_sub {ι : Foot} {D a : Addr} (ha : a ∈ ι.all) : a ∈ (Foot.mk ι.c (D :: ι.x)).all := by
  unfold Foot.all at ha ⊢
  simp only [List.mem_append, List.mem_cons] at ha ⊢
  rcases ha with q | q
  · exact .inl q
  · exact .inr (.inr q)
theorem all_of {ι : Foot} {D a : Addr} (ha : a ∈ (Foot.mk ι.c (D :: ι.x)).all) : a = D ∨ a ∈ ι.all := by
  unfold Foot.all at ha ⊢
  simp only [List.mem_append, List.mem_cons] at ha ⊢
  rcases ha with q | q | q
  · exact .inr (.inl q)
  · exact .inl q
  · exact .inr (.inr q)
/-- a list in the other addresses changes -/
theorem StOk.updX {ι : Foot} {S : Store} {H : Hp} (h : StOk ι S H) {p : Addr} (hp : p ∈ ι.x) (us : List V) : StOk ι S (L2.upd H p (.lst us)) := by
  have pa : p ∈ ι.all := List.mem_append_right _ hp
  have nf : p ∉ ι.c.flatten := fun q => by
    have := h.nd
    unfold Foot.all at this
    rw [List.nodup_append] at this
    exact this.2.2 p q p hp rfl
  refine ⟨h.len, h.nd, fun k fp c e1 e2 => ?_, fun a ha => ?_⟩
  · refine (h.cell k fp c e1 e2).mono (fun a o e hn => ?_) fun _ z => .inl z
    rw [upd_ne fun q => ?_]
    · exact e
    · rcases hn with hn | hn
      · exact nf (List.mem_flatten.mpr ⟨_, List.mem_of_getElem? e1, q ▸ hn⟩)
      · exact hn (by rw [q]; exact pa)
  · by_cases c : a = p
    · subst c; exact ⟨us, upd_same⟩
    · obtain ⟨o', e⟩ := h.ex a ha
      exact ⟨o', by rw [upd_ne c]; exact e⟩
theorem StOk.start {ι : Foot} {S : Store} {H : Hp} (h : StOk ι S H) {D : Addr} (hD : H D = none) (us : List V) : StOk ⟨ι.c, D :: ι.x⟩ S (L2.upd H D (.lst us)) := by
  have kk : ∀ a u, H a = some u → L2.upd H D (.lst us) a = some u := fun a u e => by rw [upd_ne (ne_of_none e hD)]; exact e
  have fr := h.fresh hD
  refine ⟨h.len, ?_, fun k fp c e1 e2 => ?_, fun a ha => ?_⟩
  · have := h.nd
    unfold Foot.all at this fr ⊢
    rw [List.nodup_append] at this ⊢
    simp only [List.nodup_cons]
    simp only [List.mem_append, not_or] at fr
    refine ⟨this.1, ⟨fr.2, this.2.1⟩, fun a ha b hb => ?_⟩
    rcases List.mem_cons.mp hb with rfl | hb
    · exact fun q => fr.1 (q ▸ ha)
    · exact this.2.2 a ha b hb
  · exact (h.cell k fp c e1 e2).mono (fun a u e _ => kk a u e) fun a z => (all_of z).elim (fun q => .inr (q ▸ hD)) .inl
  · rcases List.mem_cons.mp ha with rfl | ha
    · exact ⟨us, upd_same⟩
    · obtain ⟨u, e⟩ := h.ex a ha
      exact ⟨u, kk a _ e⟩
theorem EnvOk.moved {T : Tb} {ι ι' : Foot} {ρ : G9.Env} {σ : L2.St} {H H' : Hp} (h : EnvOk T ι ρ σ H) (k : Keeps ι H ι' H') (c : ι'.c = ι.c) : EnvOk T ι' ρ σ H' :=
  ⟨h.len, fun i d e => let ⟨v, h1, h2⟩ := h.get i d e; ⟨v, h1, h2.mono k (by rw [c]; exact Nat.le_refl _) fun j a fp _ e => ⟨fp, by rw [← c]; exact e⟩⟩⟩
theorem comp_cons {lk : Option Nat} {f : D → Store → R (Option P)} {d : D} {r : List D} {S Sf : Store} {ps : List P} (h : comp lk f (d :: r) S = .ok ps Sf) :
    ∃ o S1 ps', f d S = .ok o S1 ∧ still lk S S1 = true ∧ comp lk f r S1 = .ok ps' Sf ∧ ps = (match o with
      | some x => x :: ps'
      | none => ps') := by
  unfold comp at h
  cases e : f d S with
  | exc c S1 => simp [e, R.calm] at h
  | bad => simp [e, R.calm] at h
  | ok o S1 =>
    simp only [e, R.calm, R.bind_ok] at h
    split at h
    · rename_i c
      cases e2 : comp lk f r S1 with
      | exc c S1 => simp [e2] at h
      | bad => simp [e2] at h
      | ok ps' S2 =>
        simp only [e2, R.bind_ok] at h
        cases h
        exact ⟨o, S1, ps', rfl, c, e2, rfl⟩
    · cases h
theorem R.bind_eq {α β : Type} {r : R α} {f : α → Store → R β} {b : β} {S : Store} (h : r.bind f = .ok b S) : ∃ a S1, r = .ok a S1 ∧ f a S1 = .ok b S := by
  cases r with
  | ok a S1 => exact ⟨a, S1, rfl, h⟩
  | exc c S1 => cases h
  | bad => cases h
theorem comp_no {lk : Option Nat} {f : D → Store → R (Option P)} : ∀ {ds : List D} {S : Store} {c : Nat} {S' : Store}, comp lk f ds S ≠ .exc c S'
  | [], _, _, _ => by unfold comp; exact fun h => by cases h
  | d :: r, S, c, S' => by
    unfold comp
    cases e : f d S with
    | exc c S1 => simp [R.calm]
    | bad => simp [R.calm]
    | ok o S1 =>
      simp only [R.calm, R.bind_ok]
      split
      · cases e2 : comp lk f r S1 with
        | exc c S1 => exact absurd e2 comp_no
        | bad => simp
        | ok ps' S2 => simp
      · simp
/-! ### new lists -/
theorem Post.back {ι : Foot} {H H1 : Hp} {S1 : Store} (p : Post ι H H1 S1) {a : Addr} (h : H1 a = none) : H a = none := by
  cases e : H a with
  | none => rfl
  | some o =>
    by_cases c : a ∈ ι.c.flatten
    · obtain ⟨o', e'⟩ := p.ok.thereC c
      rw [h] at e'; cases e'
    · rw [p.keep a o e c] at h; cases h
/-- what a new list's end asks -/
def OutN (T : Tb) (E : XK) (ι : Foot) (H : Hp) (r : R D) (Q : VK) : Prop := match r with
  | .ok (.p (.lst xs)) S' => ∀ p vs H', H p = none → Post ι H H' S' → H' p = some (.lst vs) → vs.length ≤ sizeLine → StOk ⟨ι.c, p :: ι.x⟩ S' H' → RpPs (Foot.mk ι.c (p :: ι.x)).all H' vs xs → Q (.ref p) H'
  | .ok _ _ => False
  | .exc c S' => ∀ H', Post ι H H' S' → E (.ref (T.ca c)) none H'
  | .bad => False
section
variable {T : Tb} {F : FS} {X : Cx} {E : XK}
def tN (T : Tb) (F : FS) (c : G9.E) (X : XK) : TE := fun σ H Q => ∃ ρ S ι, EnvOk T ι ρ σ H ∧ StOk ι S H ∧ OutN T X ι H (evE F c ρ S) Q
theorem OutN.shift {ι : Foot} {H H1 : Hp} {S1 : Store} {r : R D} {Q : VK} (p : Post ι H H1 S1) (h : OutN T E ι H r Q) : OutN T E ι H1 r Q := by
  cases r with
  | ok d S' =>
    cases d with
    | p x =>
      cases x with
      | lst xs => exact fun q vs H' e1 e2 => h q vs H' (p.back e1) (p.trans e2)
      | _ => exact h
    | _ => exact h
  | exc c S' => exact fun H' q => h H' (p.trans q)
  | bad => exact h
theorem OutN.bind {α : Type} {ι : Foot} {H : Hp} {r : R α} {f : α → Store → R D} {Q : VK} (h : OutN T E ι H (r.bind f) Q) : OutX T E ι H r fun a S1 H1 => OutN T E ι H1 (f a S1) Q := by
  cases r with
  | ok d S' => exact fun H' q => OutN.shift q h
  | exc c S' => exact h
  | bad => exact h
theorem OutN.of {ι : Foot} {H : Hp} {r : R D} {Q : VK} (hl : ∀ d S, r = .ok d S → ∃ xs, d = .p (.lst xs)) (h : Out T E ι H r Q) : OutN T E ι H r Q := by
  cases r with
  | ok d S' =>
    obtain ⟨xs, rfl⟩ := hl d S' rfl
    exact fun p vs H' e1 e2 e3 e4 e5 e6 => h _ H' e2 (.p (.lst e3 (fun q => by
      have := e5.nd
      unfold Foot.all at this q
      rw [List.nodup_append] at this
      rcases List.mem_append.mp q with q | q
      · exact this.2.2 p q p List.mem_cons_self rfl
      · exact (List.nodup_cons.mp this.2.1).1 q) e4 (e6.mono (fun a o e _ => e) fun a ha => .inl (all_sub ha))))
  | exc c S' => exact h
  | bad => exact h
theorem OutN.new {ι : Foot} {H : Hp} {S : Store} {Q : VK} {xs : List P} {vs : List V} (h : OutN T E ι H (.ok (.p (.lst xs)) S) Q) (hs : StOk ι S H) (r : RpPs ι.all H vs xs) (hz : vs.length ≤ sizeLine) {p : Addr} (hp : H p = none) : Q (.ref p) (upd H p (.lst vs)) :=
  h p vs _ hp (.laid hs hp _) upd_same hz (hs.start hp _) (r.mono (fun a o e _ => by rw [upd_ne (ne_of_none e hp)]; exact e) fun a ha => (all_of ha).elim (fun q => .inr (q ▸ hp)) .inl)
theorem tE_bindN {ι : Foot} {ρ : G9.Env} {σ : L2.St} {H : Hp} {S : Store} {Q Q' : VK} {c : G9.E} {f : D → Store → R D} (he : EnvOk T ι ρ σ H) (hs : StOk ι S H) (h : OutN T E ι H ((evE F c ρ S).bind f) Q')
    (k : ∀ d S1 v H1, Post ι H H1 S1 → Rp T ι H1 v d → EnvOk T ι ρ σ H1 → OutN T E ι H1 (f d S1) Q' → Q v H1) : tE T F c E σ H Q := by
  refine ⟨ρ, S, ι, he, hs, ?_⟩
  cases e : evE F c ρ S with
  | ok d S1 =>
    rw [e] at h
    exact fun v H1 p r => k d S1 v H1 p r (he.post p) (OutN.shift p h)
  | exc c S1 =>
    rw [e] at h
    exact h
  | bad =>
    rw [e] at h
    exact h
theorem tA_bindN {ι : Foot} {ρ : G9.Env} {σ : L2.St} {H : Hp} {S : Store} {Q : List V → Hp → Prop} {Q' : VK} {cs : List G9.E} {f : List D → Store → R D} (he : EnvOk T ι ρ σ H) (hs : StOk ι S H) (h : OutN T E ι H ((evEs F cs ρ S).bind f) Q')
    (k : ∀ ds S1 vs H1, Post ι H H1 S1 → Rps T ι H1 vs ds → EnvOk T ι ρ σ H1 → OutN T E ι H1 (f ds S1) Q' → Q vs H1) : tA T F cs E σ H Q :=
  ⟨ρ, S, ι, he, hs, (OutN.bind h).imp fun ds S1 H1 p q vs r => k ds S1 vs H1 p r (he.post p) q⟩
end
section
variable {T : Tb} {F : FS} {X : Cx} {E : XK}
abbrev noX : XK := fun _ _ _ => False
def tCond (T : Tb) (F : FS) : Option G9.E → TT
  | none => tYes
  | some c => tt T F c noX
def lcF (F : FS) (tg : Tg) (cond : Option G9.E) (elt : G9.E) (ρ : G9.Env) : D → Store → R (Option P) := fun d S => match bindT tg d ρ with
  | none => .bad
  | some ρ1 => match cond with
    | none => (evE F elt ρ1 S).bind fun y S2 => match y with
      | .p x => .ok (some x) S2
      | _ => .bad
    | some c => (evE F c ρ1 S).bind fun b S2 => match b with
      | .p (.bl true) => (evE F elt ρ1 S2).bind fun y S3 => match y with
        | .p x => .ok (some x) S3
        | _ => .bad
      | .p (.bl false) => .ok none S2
      | _ => .bad
theorem evE_lc {own : List (Str × Nat)} {tg : Tg} {it : G9.It} {cond : Option G9.E} {elt : G9.E} {ρ : G9.Env} {S : Store} : evE F (.lc own tg it cond elt) ρ S = (evI F it ρ S).bind fun w S1 => (comp w.1 (lcF F tg cond elt (wipeE ρ own)) w.2 S1).bind fun ps S2 => if ps.length ≤ LIM then .ok (.p (.lst ps)) S2 else .bad := by
  unfold evE
  rfl
theorem lc_semN {own : List (Str × Nat)} {tg : Tg} {it : G9.It} {cond : Option G9.E} {elt : G9.E} (ho : ∀ i ∈ tg.ixs, i ∈ own.map (·.2)) :
    ∀ σ H Q, tN T F (.lc own tg it cond elt) E σ H Q → tLc (tI T F it E) (gT T.K tg) (tCond T F cond) (tE T F elt noX) (own.map (·.2)) σ H Q := fun σ H Q ⟨ρ, S, ι, he, hs, h⟩ => by
  rw [evE_lc] at h
  refine ⟨ρ, S, ι, he, hs, (OutN.bind h).imp fun w S1 H1 p1 h1 J wk D hD => ?_⟩
  obtain ⟨lk, ds⟩ := w
  have he1 := he.post p1
  have hs1 := p1.ok
  simp only at wk h1
  cases ec : comp lk (lcF F tg cond elt (wipeE ρ own)) ds S1 with
  | bad => rw [ec] at h1; exact h1.elim
  | exc c S2 => exact absurd ec comp_no
  | ok PS Sf =>
    rw [ec, R.bind_ok] at h1
    by_cases hl' : ¬ PS.length ≤ LIM
    · rw [if_neg hl'] at h1; exact h1.elim
    have hl := Decidable.not_not.mp hl'
    rw [if_pos hl] at h1
    rw [lim_eq] at hl
    have fr := hs1.fresh hD
    generalize hι : Foot.mk ι.c (D :: ι.x) = ι'
    have ιc : ι'.c = ι.c := by rw [← hι]
    have Dx : D ∈ ι'.x := by rw [← hι]; exact List.mem_cons_self
    have Dnc : D ∉ ι'.c.flatten := by rw [ιc]; exact Foot.sub fr
    have k0 : Keeps ι H1 ι' (upd H1 D (.lst [])) := ⟨fun a o e _ => by rw [upd_ne (ne_of_none e hD)]; exact e, fun a ha => by
      rw [← hι] at ha
      exact (all_of ha).elim (fun q => .inr (q ▸ hD)) .inl⟩
    -- the turns
    let Pv : Nat → Hp → Prop := fun i H2 => ∃ S2 ps ps' vs, comp lk (lcF F tg cond elt (wipeE ρ own)) (ds.drop i) S2 = .ok ps' Sf ∧ PS = ps ++ ps' ∧ H2 D = some (.lst vs) ∧ RpPs ι'.all H2 vs ps ∧ StOk ι' S2 H2 ∧ (∀ a o, H1 a = some o → a ∉ ι.c.flatten → H2 a = some o) ∧ Keeps ι H1 ι' H2 ∧ ∀ k, lk = some k → view S2 (.ref k) = view S1 (.ref k)
    have p0 : Pv 0 (upd H1 D (.lst [])) := ⟨S1, [], PS, [], ec, rfl, upd_same, .nil, by rw [← hι]; exact hs1.start hD _, fun a o e _ => by rw [upd_ne (ne_of_none e hD)]; exact e, k0, fun _ _ => rfl⟩
    have cnd : ∀ {S2 : Store} {H2 : Hp}, StOk ι' S2 H2 → Keeps ι H1 ι' H2 → (∀ k, lk = some k → view S2 (.ref k) = view S1 (.ref k)) → Cond ι lk S1 H1 ds ι' S2 H2 := fun a b c => ⟨b, a, .inl ιc, fun k e => ⟨ιc, c k e⟩⟩
    refine ⟨fun i m H2 => m = ds.length - i ∧ i ≤ ds.length ∧ Pv i H2, ⟨_, rfl, Nat.zero_le _, p0⟩, ?_⟩
    rintro i m H2 ⟨rfl, hi, S2, ps, ps', vs, c1, c2, c3, c4, c5, c6, c7, c8⟩
    have C := cnd c5 c7 c8
    by_cases hlt' : ¬ i < ds.length
    · have e : i = ds.length := by omega
      subst e
      refine .inl ⟨wk.stop _ _ _ C, ?_⟩
      rw [List.drop_length] at c1
      unfold comp at c1
      cases c1
      rw [List.append_nil] at c2
      subst c2
      rw [← hι] at c5 c4
      exact h1 D vs H2 hD ⟨c6, c5.sub⟩ c3 (by rw [c4.length]; exact hl) c5 c4
    · have hlt := Decidable.not_not.mp hlt'
      refine .inr ⟨wk.go _ _ _ _ _ (List.getElem?_eq_getElem hlt) C, Pv (i + 1), fun H' p' => ⟨ds.length - (i + 1), by omega, rfl, hlt, p'⟩, fun x H3 y => ?_⟩
      obtain ⟨p3, r3⟩ := wk.yld _ _ _ _ _ _ _ (List.getElem?_eq_getElem hlt) C y
      rw [List.drop_eq_getElem_cons hlt] at c1
      obtain ⟨o, S3, ps'', f1, f2, f3, f4⟩ := comp_cons c1
      have k3 : Keeps ι H1 ι' H3 := c7.trans p3.keeps
      have he3 : EnvOk T ι' (wipeE ρ own) (wipe σ (own.map (·.2))) H3 := (he1.moved k3 ιc).wipe own
      -- what stands behind a part
      have fin : ∀ {H4 : Hp} {ps4 : List P} {vs4 : List V}, StOk ι' S3 H4 → (∀ a o, H1 a = some o → a ∉ ι.c.flatten → H4 a = some o) → Keeps ι H1 ι' H4 → PS = ps4 ++ ps'' → H4 D = some (.lst vs4) → RpPs ι'.all H4 vs4 ps4 → Pv (i + 1) H4 := fun {H4 ps4 vs4} a1 a2 a3 e1 e2 e3 =>
        ⟨S3, ps4, ps'', vs4, f3, e1, e2, e3, a1, a2, a3, fun k e => by rw [still_view f2 k e]; exact c8 k e⟩
      have kp : ∀ {H4 : Hp} {S4 : Store}, Post ι' H3 H4 S4 → ∀ a o, H1 a = some o → a ∉ ι.c.flatten → H4 a = some o := fun p4 a o e n => p4.keep a o (p3.keep a o (c6 a o e n) (by rw [ιc]; exact n)) (by rw [ιc]; exact n)
      have hD3 : H3 D = some (.lst vs) := p3.keep _ _ c3 Dnc
      have c43 := c4.post p3
      unfold lcF at f1
      cases eb : bindT tg ds[i] (wipeE ρ own) with
      | none => simp [eb] at f1
      | some ρ1 =>
        simp only [eb] at f1
        refine gT_ok eb he3 r3 fun σ1 he4 st => ⟨wipe_sets st ho, ?_⟩
        -- the element
        have elm : ∀ {H4 : Hp} {S4 : Store}, Post ι' H3 H4 S4 → EnvOk T ι' ρ1 σ1 H4 → ((evE F elt ρ1 S4).bind fun y S2 => match y with
            | .p x => .ok (some x) S2
            | _ => .bad) = G9.R.ok o S3 → tE T F elt noX σ1 H4 fun y H5 => ∃ acc, H5 D = some (.lst acc) ∧ acc.length < sizeLine ∧ Pv (i + 1) (upd H5 D (.lst (acc ++ [y]))) := fun {H4 S4} p4 he5 e5 => by
          obtain ⟨y, S5, g1, g2⟩ := R.bind_eq e5
          split at g2
          · rename_i z
            cases g2
            simp only at f4
            subst f4
            refine ⟨ρ1, S4, ι', he5, p4.ok, ?_⟩
            rw [g1]
            refine fun v H5 p5 r5 => ?_
            have p35 := p4.trans p5
            have hD5 := p35.keep _ _ hD3 Dnc
            have c45 := c43.post p35
            have hle : vs.length < sizeLine := by
              rw [c4.length]
              have : ps.length + 1 ≤ PS.length := by rw [c2]; simp
              omega
            refine ⟨vs, hD5, hle, ?_⟩
            have Da : D ∈ ι'.all := List.mem_append_right _ Dx
            have k5 := k3.trans p35.keeps
            · refine fin (p35.ok.updX Dx _) (fun a u e n => by rw [upd_ne (ne_of_none e hD)]; exact kp p35 a u e n) ⟨fun a u e n => by rw [upd_ne (ne_of_none e hD)]; exact k5.keep a u e n, k5.new⟩ (ps4 := ps ++ [z]) (by rw [c2]; simp) upd_same ?_
              have mv : ∀ {us : List V} {qs : List P}, RpPs ι'.all H5 us qs → RpPs ι'.all (upd H5 D (.lst (vs ++ [v]))) us qs := fun r => r.mono (fun a u e n => by
                rw [upd_ne fun q => n (by rw [q]; exact Da)]
                exact e) fun _ q => .inl q
              cases r5 with
              | p r5 => exact (mv c45).append (mv (.cons r5 .nil))
          · cases g2
        cases cond with
        | none =>
          simp only at f1
          have z := elm (.refl p3.ok) he4 f1
          have y : ∀ {A B : Prop}, A → (if true = true then A else B) := fun a => by rw [if_pos rfl]; exact a
          exact y (B := Pv (i + 1) H3) z
        | some c =>
          simp only at f1
          obtain ⟨b, S4, g1, g2⟩ := R.bind_eq f1
          refine ⟨ρ1, S2, ι', he4, p3.ok, ?_⟩
          rw [g1]
          refine fun v H4 p4 r4 => ?_
          split at g2
          · refine ⟨true, r4.bl, iteT ?_⟩
            exact elm p4 (he4.post p4) g2
          · cases g2
            simp only at f4
            subst f4
            refine ⟨false, r4.bl, iteF ?_⟩
            exact fin p4.ok (kp p4) (k3.trans p4.keeps) c2 (p4.keep _ _ hD3 Dnc) (c43.post p4)
          · cases g2
theorem lc_sem {own : List (Str × Nat)} {tg : Tg} {it : G9.It} {cond : Option G9.E} {elt : G9.E} (ho : ∀ i ∈ tg.ixs, i ∈ own.map (·.2)) :
    ∀ σ H Q, tE T F (.lc own tg it cond elt) E σ H Q → tLc (tI T F it E) (gT T.K tg) (tCond T F cond) (tE T F elt noX) (own.map (·.2)) σ H Q := fun σ H Q ⟨ρ, S, ι, he, hs, h⟩ =>
  lc_semN ho σ H Q ⟨ρ, S, ι, he, hs, .of (fun d S' e => by
    rw [evE_lc] at e
    obtain ⟨w, S1, e1, e2⟩ := R.bind_eq e
    obtain ⟨ps, S2, e3, e4⟩ := R.bind_eq e2
    split at e4
    · cases e4; exact ⟨ps, rfl⟩
    · cases e4) h⟩
end
end G9

/-! text E12 -/
/-! G9.E12: calls of defs; comprehensions and new lists by rule. -/
namespace G9
open PySem PySem.Spec PyProof.Rows L2
section
variable {T : Tb} {F : FS} {X : Cx} {E : XK} {a b c d : G9.E} {ea eb ec : Expr} {pos : Pos}
/-! ### defs called -/
/-- what a call's end asks; fr: it hands back a new list -/
def OutF (T : Tb) (E : XK) (ι : Foot) (H : Hp) (fr : Bool) (r : R D) (Q : VK) : Prop := match fr with
  | true => OutN T E ι H r Q
  | false => Out T E ι H r Q
/-- the promise of a def -/
def spF (T : Tb) (np : Nat) (g : List D → Store → R D) (fr : Bool) : Sp := fun vs H Q E => vs.length = np ∧ ∃ ds S ι, Rps T ι H vs ds ∧ StOk ι S H ∧ OutF T E ι H fr (g ds S) Q
/-- a def as its callers know it -/
structure FnAt (T : Tb) (F : FS) (fr : Bool) (k : Nat) (f : Nat) (x : Str) : Prop where
  ex : ∃ fd ps, FnOk T.prog T.w T.K T.mg T.base (L2.CX T.prog T.w) k (T.fa f) fd ps (spF T ps.length (F f) fr) ∧ Binds T.K fd ps [] ∧ ∀ ds S, ds.length ≠ ps.length → F f ds S = .bad
  mg : T.mg x = some (.ref (T.fa f))
  kp : PySem.W.keepIn T.K (.ref (T.fa f)) = true
/-- a context of the text -/
structure Of (T : Tb) (X : Cx) : Prop where
  prog : X.prog = T.prog
  w : X.w = T.w
  K : X.K = T.K
  mg : X.mg = T.mg
  base : X.base = T.base
theorem spF_of {ps : List Str} {f : Nat} {fr : Bool} {ds : List D} {S : Store} {ι : Foot} {H : Hp} {vs : List V} {Q : VK} (hl : ∀ ds S, ds.length ≠ ps.length → F f ds S = .bad) (r : Rps T ι H vs ds) (hs : StOk ι S H) (h : OutF T E ι H fr (F f ds S) Q) : spF T ps.length (F f) fr vs H Q E := by
  refine ⟨?_, ds, S, ι, r, hs, h⟩
  rw [r.length]
  by_cases q : ds.length = ps.length
  · exact q
  · rw [hl ds S q] at h
    cases fr <;> exact h.elim
theorem s_call {k : Nat} {x : Str} {f : Nat} {p : Pos} {cs : List G9.E} {es : List Expr} (hr : Room k X.A) (hX : Of T X) (hf : FnAt T F false k f x) (tk : Takes X (fun cls d _ H => E cls d H)) (hg : Gl X x) (hdb : (x == ("__debug__" : Str)) = false)
    (ha : PA X es (tA T F cs E)) (h0 : es = [] → cs = []) (hs' : ∀ e r, es = e :: r → starEach es X.env = (false, eval e X.env) :: starEach r X.env ∧ (backTo pos (starEach r X.env)).any (·.1) = false) :
    PE X (.Call (.Name x p) es [] pos) (tE T F (.call x f cs) E) := by
  obtain ⟨fd, ps, G, hb, hl⟩ := hf.ex
  have mg := hf.mg
  have kp := hf.kp
  rw [← hX.prog, ← hX.w, ← hX.K, ← hX.mg, ← hX.base] at G
  rw [← hX.K] at hb kp
  rw [← hX.mg] at mg
  cases es with
  | nil =>
    refine (pe_call0 (E := E) (dvs := []) G hr hg mg kp hb .nil (passes_call tk fun _ _ _ _ h => h) hdb).weak fun σ H Q ⟨ρ, S, ι, he, hs, h⟩ => ?_
    unfold evE at h
    cases h0 rfl
    unfold evEs at h
    exact spF_of hl .nil hs h
  | cons e r =>
    obtain ⟨h1, h2⟩ := hs' e r rfl
    refine (pe_callS (E := fun _ => E) G hr hg mg kp hb (fun σ => passAt tk σ) ha hdb h1 h2).weak fun σ H Q ⟨ρ, S, ι, he, hs, h⟩ => ?_
    unfold evE at h
    exact tA_bind he hs h fun ds S1 vs H1 p1 r1 he1 q1 => spF_of hl r1 p1.ok q1
theorem n_call {k : Nat} {x : Str} {f : Nat} {p : Pos} {cs : List G9.E} {es : List Expr} (hr : Room k X.A) (hX : Of T X) (hf : FnAt T F true k f x) (tk : Takes X (fun cls d _ H => E cls d H)) (hg : Gl X x) (hdb : (x == ("__debug__" : Str)) = false)
    (ha : PA X es (tA T F cs E)) (h0 : es = [] → cs = []) (hs' : ∀ e r, es = e :: r → starEach es X.env = (false, eval e X.env) :: starEach r X.env ∧ (backTo pos (starEach r X.env)).any (·.1) = false) :
    PE X (.Call (.Name x p) es [] pos) (tN T F (.call x f cs) E) := by
  obtain ⟨fd, ps, G, hb, hl⟩ := hf.ex
  have mg := hf.mg
  have kp := hf.kp
  rw [← hX.prog, ← hX.w, ← hX.K, ← hX.mg, ← hX.base] at G
  rw [← hX.K] at hb kp
  rw [← hX.mg] at mg
  cases es with
  | nil =>
    refine (pe_call0 (E := E) (dvs := []) G hr hg mg kp hb .nil (passes_call tk fun _ _ _ _ h => h) hdb).weak fun σ H Q ⟨ρ, S, ι, he, hs, h⟩ => ?_
    unfold evE at h
    cases h0 rfl
    unfold evEs at h
    exact spF_of hl .nil hs h
  | cons e r =>
    obtain ⟨h1, h2⟩ := hs' e r rfl
    refine (pe_callS (E := fun _ => E) G hr hg mg kp hb (fun σ => passAt tk σ) ha hdb h1 h2).weak fun σ H Q ⟨ρ, S, ι, he, hs, h⟩ => ?_
    unfold evE at h
    exact tA_bindN he hs h fun ds S1 vs H1 p1 r1 he1 q1 => spF_of hl r1 p1.ok q1
/-! ### new lists -/
theorem n_lst {cs : List G9.E} {es : List Expr} (ha : PA X es (tA T F cs E)) : PE X (.List es pos) (tN T F (.lst cs) E) := by
  refine (pe_lst ha).weak fun σ H Q ⟨ρ, S, ι, he, hs, h⟩ => ?_
  unfold evE at h
  refine tA_bindN he hs h fun ds S1 vs H1 p1 r1 he1 h1 => ?_
  cases q : allP ds with
  | none => simp [q] at h1; exact h1.elim
  | some xs =>
    simp only [q] at h1
    split at h1
    · rename_i c
      rw [lim_eq] at c
      have rr := r1.toP q
      have hz : vs.length ≤ sizeLine := by rw [rr.length]; exact c
      exact ⟨hz, fun p hp => h1.new p1.ok rr hz hp⟩
    · exact h1.elim
theorem n_add (hK : X.K = T.K) (ha : PE X ea (tE T F a E)) (hb : PE X eb (tE T F b E)) : PE X (.BinOp ea .Add eb pos) (tN T F (.bin .add a b) E) := by
  refine (pe_op op_cat ha hb).weak fun σ H Q ⟨ρ, S, ι, he, hs, h⟩ => ?_
  unfold evE at h
  refine tE_bindN he hs h fun d1 S1 v1 H1 p1 r1 he1 h1 => tE_bindN he1 p1.ok h1 fun d2 S2 v2 H2 p2 r2 he2 h2 => ?_
  have ra := r1.post p2
  have hs2 := p2.ok
  unfold bin at h2
  cases ea : view0 S2 d1 with
  | none => simp [ea] at h2; exact h2.elim
  | some x =>
    cases eb : view0 S2 d2 with
    | none => cases x <;> simp [ea, eb] at h2 <;> exact h2.elim
    | some y =>
      simp only [ea, eb] at h2
      cases x with
      | lst xs =>
        obtain ⟨pa, vs, rfl, h1, h3, h4⟩ := ra.lst0 hs2 ea
        cases y with
        | lst ys =>
          obtain ⟨pb, us, rfl, k1, k3, k4⟩ := r2.lst0 hs2 eb
          simp only at h2
          split at h2
          · rename_i c
            rw [lim_eq] at c
            have hz : vs.length + us.length ≤ sizeLine := by rw [h4.length, k4.length]; exact c.2
            exact ⟨pa, pb, vs, us, rfl, rfl, h1, k1, hz, fun p hp => h2.new hs2 (h4.append k4) (by rw [List.length_append]; exact hz) hp⟩
          · exact h2.elim
        | int k => simp at h2; exact h2.elim
        | _ => simp at h2; exact h2.elim
      | int i =>
        cases y with
        | int j => simp [binI] at h2; exact h2.elim
        | _ => simp at h2; exact h2.elim
      | tup xs =>
        cases y with
        | tup ys =>
          simp only at h2
          split at h2 <;> exact h2.elim
        | int j => simp at h2; exact h2.elim
        | _ => simp at h2; exact h2.elim
      | str z =>
        cases y with
        | str ys =>
          simp only at h2
          split at h2 <;> exact h2.elim
        | _ => simp at h2; exact h2.elim
      | _ => simp at h2; exact h2.elim
theorem n_list {k : Nat} {p : Pos} (hc : X.calm = true) (hr : Room k X.A) (hK : X.K = T.K) (hg : Gl X "list") (hm : X.mg "list" = none)
    (ha : PE X ea (tE T F a E)) (hs' : starEach [ea] X.env = (false, eval ea X.env) :: starEach [] X.env) : PE X (.Call (.Name "list" p) [ea] [] pos) (tN T F (.bi .list a) E) := by
  refine (pe_callTy call_list_of hg hm (by decide +kernel) (pa_cons ha pa_nil hs') (by decide) (by decide) hs' rfl).weak fun σ H Q ⟨ρ, S, ι, he, hs, h⟩ => ?_
  unfold evE at h
  refine tE_bindN he hs h fun d1 S1 v1 H1 p1 r1 he1 q1 => ?_
  rw [hK]
  unfold bi at q1
  cases ev : view S1 d1 with
  | none => simp [ev] at q1; exact q1.elim
  | some x =>
    cases es : seqOf x with
    | none => simp [ev, es] at q1; exact q1.elim
    | some xs =>
      simp only [ev, es] at q1
      obtain ⟨ad, vs, rfl, hz, rr, q'⟩ := r1.seqV p1.ok ev es
      refine ⟨ad, vs, rfl, ?_, fun l hl => q1.new p1.ok rr hz hl⟩
      rcases q' with ⟨_, q'⟩ | ⟨_, _, q', _⟩
      · exact .inl q'
      · exact .inr (.of q')
/-! ### comprehensions -/
theorem s_lc {own : List (Str × Nat)} {tg : Tg} {it : G9.It} {cond : Option G9.E} {elt : G9.E} {etg eit eelt : Expr} {ifs : List Expr} {scope : Scope} (ho : ∀ i ∈ tg.ixs, i ∈ own.map (·.2)) (hc : X.calm = true) (hN : X.N.Nodup) (ok : BlkOk X.N X.env.scope scope own)
    (hi : PI X etg eit (tI T F it E)) (hg : ∀ (s : Shared) (H : Hp) (C : Addr) (cl : List (Str × Addr)) (fp : List Addr), PG (X.blk s H scope (compEnvC scope cl C X.env) fp) etg (gT T.K tg))
    (ht : ∀ (s : Shared) (H : Hp) (C : Addr) (cl : List (Str × Addr)) (fp : List Addr), PTs (X.blk s H scope (compEnvC scope cl C X.env) fp) ifs (tCond T F cond))
    (he : ∀ (s : Shared) (H : Hp) (C : Addr) (cl : List (Str × Addr)) (fp : List Addr), PE (X.blk s H scope (compEnvC scope cl C X.env) fp) eelt (tE T F elt noX)) (hs : ∀ x, foldedSetIterable eit X.env x = pure x) :
    PE X (.ListComp eelt [⟨etg, eit, ifs, 0⟩] scope pos) (tE T F (.lc own tg it cond elt) E) ∧ PE X (.ListComp eelt [⟨etg, eit, ifs, 0⟩] scope pos) (tN T F (.lc own tg it cond elt) E) :=
  ⟨(pe_lc hc hN hi ok hg ht he hs).weak (lc_sem ho), (pe_lc hc hN hi ok hg ht he hs).weak (lc_semN ho)⟩
end
end G9

/-! text E13 -/
/-! G9.E13: what the statements of the small language do. -/
namespace G9
open PySem PySem.Spec PyProof.Rows L2

/-- behind a statement: the frame's cells may stand elsewhere -/
structure PostS (n : Nat) (ι : Foot) (H : Hp) (ι' : Foot) (H' : Hp) (S' : Store) : Prop where
  keep : ∀ a o, H a = some o → a ∉ ι.c.flatten → H' a = some o
  new : ∀ a, a ∈ ι'.all → a ∈ ι.all ∨ H a = none
  ok : StOk ι' S' H'
  x : ι'.x = ι.x
  len : ι'.c.length = ι.c.length
  low : ∀ k, k < n → ι'.c[k]? = ι.c[k]?
theorem Post.toS {n : Nat} {ι : Foot} {H H' : Hp} {S' : Store} (p : Post ι H H' S') : PostS n ι H ι H' S' := ⟨p.keep, fun _ h => .inl h, p.ok, rfl, rfl, fun _ _ => rfl⟩
theorem PostS.keeps {n : Nat} {ι ι' : Foot} {H H' : Hp} {S' : Store} (p : PostS n ι H ι' H' S') : Keeps ι H ι' H' := ⟨fun a o e h => p.keep a o e (Foot.sub h), p.new⟩
theorem StOk.apart {ι : Foot} {S : Store} {H : Hp} (h : StOk ι S H) {a : Addr} (h1 : a ∈ ι.c.flatten) (h2 : a ∈ ι.x) : False := by
  have := h.nd
  unfold Foot.all at this
  rw [List.nodup_append] at this
  exact this.2.2 a h1 a h2 rfl
theorem PostS.trans {n : Nat} {ι ι1 ι2 : Foot} {H H1 H2 : Hp} {S1 S2 : Store} (p : PostS n ι H ι1 H1 S1) (q : PostS n ι1 H1 ι2 H2 S2) : PostS n ι H ι2 H2 S2 := by
  refine ⟨fun a o e h => q.keep a o (p.keep a o e h) fun z => ?_, (p.keeps.trans q.keeps).new, q.ok, q.x.trans p.x, q.len.trans p.len, fun k hk => (q.low k hk).trans (p.low k hk)⟩
  rcases p.new a (List.mem_append_left _ z) with w | w
  · rcases List.mem_append.mp w with w | w
    · exact h w
    · exact p.ok.apart z (by rw [p.x]; exact w)
  · rw [e] at w; cases w
theorem PostS.refl {n : Nat} {ι : Foot} {H : Hp} {S : Store} (h : StOk ι S H) : PostS n ι H ι H S := (Post.refl h).toS
/-- what a statement's end asks -/
def OutS (T : Tb) (E : XK) (n : Nat) (ι : Foot) (H : Hp) (r : SR) (D : Ends) : Prop := match r with
  | .nx ρ S' => ∀ ι' σ' H', PostS n ι H ι' H' S' → EnvOk T ι' ρ σ' H' → D.nx σ' H'
  | .rt d S' => ∀ ι' v H', PostS n ι H ι' H' S' → Rp T ι' H' v d → D.rt v H'
  | .ex c S' => ∀ ι' H', PostS n ι H ι' H' S' → E (.ref (T.ca c)) none H'
  | .bad => False
def tS (T : Tb) (F : FS) (n : Nat) (c : Sm) (E : XK) : TS := fun D σ H => ∃ ρ S ι, EnvOk T ι ρ σ H ∧ StOk ι S H ∧ OutS T E n ι H (evS F n c ρ S) D
def tSs (T : Tb) (F : FS) (n : Nat) (c : List Sm) (E : XK) : TS := fun D σ H => ∃ ρ S ι, EnvOk T ι ρ σ H ∧ StOk ι S H ∧ OutS T E n ι H (evSs F n c ρ S) D
section
variable {T : Tb} {F : FS} {n : Nat} {E : XK} {ι ι1 : Foot} {H H1 : Hp} {S S1 : Store} {ρ : G9.Env} {σ : L2.St} {Ds : Ends} {Q : VK}
theorem OutS.shift {r : SR} (p : PostS n ι H ι1 H1 S1) (h : OutS T E n ι H r Ds) : OutS T E n ι1 H1 r Ds := by
  cases r with
  | nx ρ S' => exact fun ι' σ' H' q e => h ι' σ' H' (p.trans q) e
  | rt d S' => exact fun ι' v H' q e => h ι' v H' (p.trans q) e
  | ex c S' => exact fun ι' H' q => h ι' H' (p.trans q)
  | bad => exact h
theorem OutS.then {α : Type} {r : R α} {f : α → Store → SR} (h : OutS T E n ι H (r.then f) Ds) : OutX T E ι H r fun a S1 H1 => OutS T E n ι H1 (f a S1) Ds := by
  cases r with
  | ok d S' => exact fun H' q => OutS.shift q.toS h
  | exc c S' => exact fun H' q => h ι H' q.toS
  | bad => exact h
theorem tE_then {c : G9.E} {f : D → Store → SR} (he : EnvOk T ι ρ σ H) (hs : StOk ι S H) (h : OutS T E n ι H ((evE F c ρ S).then f) Ds)
    (k : ∀ d S1 v H1, Post ι H H1 S1 → Rp T ι H1 v d → EnvOk T ι ρ σ H1 → OutS T E n ι H1 (f d S1) Ds → Q v H1) : tE T F c E σ H Q := by
  refine ⟨ρ, S, ι, he, hs, ?_⟩
  have h := OutS.then h
  cases e : evE F c ρ S with
  | ok d S1 =>
    rw [e] at h
    exact fun v H1 p r => k d S1 v H1 p r (he.post p) (h H1 p)
  | exc c S1 =>
    rw [e] at h
    exact h
  | bad =>
    rw [e] at h
    exact h
theorem OutS.bind {r : SR} {f : G9.Env → Store → SR} {D D' : Ends} (h : OutS T E n ι H (r.bind f) D) (hr : D'.rt = D.rt)
    (k : ∀ ρ' S' ι' σ' H', PostS n ι H ι' H' S' → EnvOk T ι' ρ' σ' H' → OutS T E n ι' H' (f ρ' S') D → D'.nx σ' H') : OutS T E n ι H r D' := by
  cases r with
  | nx ρ S' => exact fun ι' σ' H' q e => k ρ S' ι' σ' H' q e (OutS.shift q h)
  | rt d S' =>
    show ∀ ι' v H', _ → _ → D'.rt v H'
    rw [hr]; exact h
  | ex c S' => exact h
  | bad => exact h.elim
theorem OutS.done {ρ' : G9.Env} {σ' : L2.St} (h : OutS T E n ι H (.nx ρ' S) Ds) (hs : StOk ι S H) (he : EnvOk T ι ρ' σ' H) : Ds.nx σ' H := h ι σ' H (.refl hs) he

/-! ### blocks -/
theorem ss_nil : ∀ D σ H, tSs T F n [] E D σ H → tNext D σ H := fun D σ H ⟨ρ, S, ι, he, hs, h⟩ => by
  unfold evSs at h
  exact h.done hs he
theorem ss_cons {s : Sm} {r : List Sm} : ∀ D σ H, tSs T F n (s :: r) E D σ H → tSeq (tS T F n s E) (tSs T F n r E) D σ H := fun D σ H ⟨ρ, S, ι, he, hs, h⟩ => by
  unfold evSs at h
  exact ⟨ρ, S, ι, he, hs, h.bind rfl fun ρ' S' ι' σ' H' p e q => ⟨ρ', S', ι', e, p.ok, q⟩⟩
/-! ### small statements -/
theorem ss_asg {tg : Tg} {e : G9.E} : ∀ D σ H, tS T F n (.asg tg e) E D σ H → tAsg (tE T F e E) (gT T.K tg) D σ H := fun D σ H ⟨ρ, S, ι, he, hs, h⟩ => by
  unfold evS at h
  refine tE_then he hs h fun d S1 v H1 p1 r1 he1 h1 => ?_
  cases eb : bindT tg d ρ with
  | none => simp [eb] at h1; exact h1.elim
  | some ρ1 =>
    simp only [eb] at h1
    exact gT_ok eb he1 r1 fun σ1 he' _ => h1.done p1.ok he'
theorem ss_expr {e : G9.E} : ∀ D σ H, tS T F n (.expr e) E D σ H → tDrop (tE T F e E) D σ H := fun D σ H ⟨ρ, S, ι, he, hs, h⟩ => by
  unfold evS at h
  exact tE_then he hs h fun d S1 v H1 p1 r1 he1 h1 => h1.done p1.ok he1
theorem ss_ret {e : G9.E} : ∀ D σ H, tS T F n (.ret e) E D σ H → tRet (tE T F e E) D σ H := fun D σ H ⟨ρ, S, ι, he, hs, h⟩ => by
  unfold evS at h
  exact tE_then he hs h fun d S1 v H1 p1 r1 he1 h1 => h1 ι v H1 (.refl p1.ok) r1
theorem ss_iff {t : G9.E} {a b : List Sm} : ∀ D σ H, tS T F n (.iff t a b) E D σ H → tIfS (tt T F t E) (tSs T F n a E) (tSs T F n b E) D σ H := fun D σ H ⟨ρ, S, ι, he, hs, h⟩ => by
  unfold evS at h
  refine tE_then he hs h fun d S1 v H1 p1 r1 he1 h1 => ?_
  split at h1
  · exact ⟨true, r1.bl, iteT ⟨ρ, S1, ι, he1, p1.ok, h1⟩⟩
  · exact ⟨false, r1.bl, iteF ⟨ρ, S1, ι, he1, p1.ok, h1⟩⟩
  · exact h1.elim
theorem ss_raise {c : Nat} {x m : Str} : ∀ D σ H, tS T F n (.raise c x m) E D σ H → E (.ref (T.ca c)) none H := fun D σ H ⟨ρ, S, ι, he, hs, h⟩ => by
  unfold evS at h
  exact h ι H (.refl hs)
theorem ss_par2 {i j : Nat} {x y : Str} {es : List G9.E} : ∀ D σ H, tS T F n (.par [(i, x), (j, y)] es) E D σ H → tPar i j (tA T F es E) D σ H := fun D σ H ⟨ρ, S, ι, he, hs, h⟩ => by
  unfold evS at h
  refine ⟨ρ, S, ι, he, hs, (OutS.then h).imp fun ds S1 H1 p1 h1 vs r1 => ?_⟩
  split at h1
  · rename_i ρ1 e
    have l := setAll_len e
    match ds, r1, l, e with
    | [d1, d2], .cons k1 (.cons k2 .nil), _, e =>
      cases e
      exact ⟨_, _, rfl, h1.done p1.ok (((he.post p1).set k1 i).set k2 j)⟩
  · exact h1.elim
theorem ss_par3 {i j l : Nat} {x y z : Str} {es : List G9.E} : ∀ D σ H, tS T F n (.par [(i, x), (j, y), (l, z)] es) E D σ H → tPar3 i j l (tA T F es E) D σ H := fun D σ H ⟨ρ, S, ι, he, hs, h⟩ => by
  unfold evS at h
  refine ⟨ρ, S, ι, he, hs, (OutS.then h).imp fun ds S1 H1 p1 h1 vs r1 => ?_⟩
  split at h1
  · rename_i ρ1 e
    have l := setAll_len e
    match ds, r1, l, e with
    | [d1, d2, d3], .cons k1 (.cons k2 (.cons k3 .nil)), _, e =>
      cases e
      exact ⟨_, _, _, rfl, h1.done p1.ok ((((he.post p1).set k1 _).set k2 _).set k3 _)⟩
  · exact h1.elim
/-! ### cells -/
theorem mem_setF {a p : Addr} : ∀ {l : List (List Addr)} {k : Nat}, a ∈ (l.set k [p]).flatten → a = p ∨ a ∈ l.flatten
  | [], k, h => by simp at h
  | fp :: r, 0, h => by
    simp only [List.set_cons_zero, List.flatten_cons, List.mem_append, List.mem_singleton] at h ⊢
    rcases h with h | h
    · exact .inl h
    · exact .inr (.inr h)
  | fp :: r, k + 1, h => by
    simp only [List.set_cons_succ, List.flatten_cons, List.mem_append] at h ⊢
    rcases h with h | h
    · exact .inr (.inl h)
    · rcases mem_setF h with h | h
      · exact .inl h
      · exact .inr (.inr h)
theorem mem_set0 {a : Addr} : ∀ {l : List (List Addr)} {k : Nat}, a ∈ (l.set k []).flatten → a ∈ l.flatten
  | [], k, h => by simp at h
  | fp :: r, 0, h => by
    simp only [List.set_cons_zero, List.flatten_cons, List.mem_append, List.nil_append] at h ⊢
    exact .inr h
  | fp :: r, k + 1, h => by
    simp only [List.set_cons_succ, List.flatten_cons, List.mem_append] at h ⊢
    rcases h with h | h
    · exact .inl h
    · exact .inr (mem_set0 h)
theorem nodup_setF {p : Addr} : ∀ {l : List (List Addr)} {k : Nat}, l.flatten.Nodup → p ∉ l.flatten → (l.set k [p]).flatten.Nodup
  | [], k, h, _ => by simpa using h
  | fp :: r, 0, h, q => by
    simp only [List.set_cons_zero, List.flatten_cons, List.nodup_append, List.mem_append, not_or] at h q ⊢
    exact ⟨by simp, h.2.1, fun a ha b hb e => q.2 (by simp at ha; subst ha; subst e; exact hb)⟩
  | fp :: r, k + 1, h, q => by
    simp only [List.set_cons_succ, List.flatten_cons, List.nodup_append, List.mem_append, not_or] at h q ⊢
    refine ⟨h.1, nodup_setF h.2.1 q.2, fun a ha b hb => ?_⟩
    rcases mem_setF hb with rfl | hb
    · exact fun e => q.1 (e ▸ ha)
    · exact h.2.2 a ha b hb
theorem nodup_set0 : ∀ {l : List (List Addr)} {k : Nat}, l.flatten.Nodup → (l.set k []).flatten.Nodup
  | [], k, h => by simpa using h
  | fp :: r, 0, h => by
    simp only [List.set_cons_zero, List.flatten_cons, List.nodup_append, List.nil_append] at h ⊢
    exact h.2.1
  | fp :: r, k + 1, h => by
    simp only [List.set_cons_succ, List.flatten_cons, List.nodup_append] at h ⊢
    exact ⟨h.1, nodup_set0 h.2.1, fun a ha b hb => h.2.2 a ha b (mem_set0 hb)⟩
theorem notin_set0 {a : Addr} : ∀ {l : List (List Addr)} {k : Nat}, l.flatten.Nodup → l[k]? = some [a] → a ∉ (l.set k []).flatten
  | [], k, h, e => by simp at e
  | fp :: r, 0, h, e => by
    simp only [List.getElem?_cons_zero, Option.some.injEq] at e
    subst e
    simp only [List.set_cons_zero, List.flatten_cons, List.nodup_append, List.nil_append] at h ⊢
    exact fun q => h.2.2 a (by simp) a q rfl
  | fp :: r, k + 1, h, e => by
    simp only [List.getElem?_cons_succ] at e
    simp only [List.set_cons_succ, List.flatten_cons, List.nodup_append, List.mem_append, not_or] at h ⊢
    refine ⟨fun q => ?_, notin_set0 h.2.1 e⟩
    exact h.2.2 a q a (List.mem_flatten.mpr ⟨[a], List.mem_of_getElem? e, by simp⟩) rfl
theorem Foot.nd {ι : Foot} (h : ι.all.Nodup) : ι.c.flatten.Nodup ∧ ι.x.Nodup ∧ ∀ a, a ∈ ι.c.flatten → a ∉ ι.x := by
  unfold Foot.all at h
  rw [List.nodup_append] at h
  exact ⟨h.1, h.2.1, fun a h1 h2 => h.2.2 a h1 a h2 rfl⟩
theorem Foot.mkNd {c : List (List Addr)} {x : List Addr} (h1 : c.flatten.Nodup) (h2 : x.Nodup) (h3 : ∀ a, a ∈ c.flatten → a ∉ x) : (Foot.mk c x).all.Nodup := by
  unfold Foot.all
  rw [List.nodup_append]
  exact ⟨h1, h2, fun a ha b hb e => h3 a ha (e ▸ hb)⟩
theorem killR_some {k i : Nat} {ρ : G9.Env} {d : D} (h : (killR k ρ)[i]? = some (some d)) : ρ[i]? = some (some d) ∧ d ≠ .ref k ∧ ∀ xs, d ≠ .tp xs := by
  unfold killR at h
  rw [List.getElem?_map] at h
  cases e : ρ[i]? with
  | none => rw [e] at h; cases h
  | some o =>
    rw [e] at h
    simp only [Option.map_some, Option.some.injEq] at h
    cases o with
    | none => cases h
    | some d' =>
      cases d' with
      | ref j =>
        simp only at h
        split at h
        · cases h
        · rename_i c
          cases h
          exact ⟨rfl, (fun z => by cases z; exact c rfl), (fun xs z => by cases z)⟩
      | tp xs => cases h
      | p x => cases h; exact ⟨rfl, (fun z => by cases z), (fun xs z => by cases z)⟩
      | fn x => cases h; exact ⟨rfl, (fun z => by cases z), (fun xs z => by cases z)⟩
      | scr x => cases h; exact ⟨rfl, (fun z => by cases z), (fun xs z => by cases z)⟩
theorem SqS.mono {K : PySem.W.Frag} {ι ι' : Foot} {H H' : Hp} {a : Addr} {vs : List V} (h : SqS K ι.all H a vs) (k : Keeps ι H ι' H') : SqS K ι'.all H' a vs := by
  rcases h with ⟨h, q⟩ | h
  · refine .inl ⟨?_, fun z => (k.new _ z).elim q fun e => ?_⟩
    · rcases h with h | ⟨o, h⟩
      · exact .inl (k.keep _ _ h q)
      · exact .inr ⟨o, k.keep _ _ h q⟩
    · rcases h with h | ⟨o, h⟩ <;> rw [h] at e <;> cases e
  · exact .inr h
theorem EnvOk.kill {ι ι' : Foot} {H H' : Hp} (h : EnvOk T ι ρ σ H) (k : Keeps ι H ι' H') {q : Nat} (hl : ι'.c.length = ι.c.length) (hq : ∀ j, j ≠ q → ι'.c[j]? = ι.c[j]?) : EnvOk T ι' (killR q ρ) σ H' := by
  refine ⟨by unfold killR; rw [List.length_map, h.len], fun i d e => ?_⟩
  obtain ⟨e1, e2, e3⟩ := killR_some e
  obtain ⟨v, h1, h2⟩ := h.get i d e1
  refine ⟨v, h1, ?_⟩
  cases h2 with
  | p r => exact .p (r.mono k.keep k.new)
  | ref hk hv =>
    rename_i j
    have hj : j ≠ q := fun z => e2 (by rw [z])
    exact .ref (by rw [hl]; exact hk) fun a fp z => hv a fp (by rw [← hq j hj]; exact z)
  | fn f => exact .fn f
  | scr hq' hz => exact .scr (hq'.mono k) hz
  | tp _ _ _ _ => exact absurd rfl (e3 _)
end
end G9

/-! text E14 -/
/-! G9.E14: statements that change cells; loops. -/
namespace G9
open PySem PySem.Spec PyProof.Rows L2
section
variable {T : Tb} {F : FS} {n : Nat} {E : XK} {ι ι1 : Foot} {H H1 : Hp} {S S1 : Store} {ρ : G9.Env} {σ : L2.St} {Ds : Ends} {Q : VK}
/-- a new list goes into a cell of the frame -/
theorem newCell {k : Nat} {p : Addr} {vs : List V} {xs : List P} (hn : n ≤ k) (hk : k < S1.length) (hp : H p = none) (po : Post ι H H1 S1) (h1 : H1 p = some (.lst vs)) (hz : vs.length ≤ sizeLine) (ok : StOk ⟨ι.c, p :: ι.x⟩ S1 H1) (r : RpPs (Foot.mk ι.c (p :: ι.x)).all H1 vs xs) :
    PostS n ι H ⟨ι.c.set k [p], ι.x⟩ H1 (S1.set k (.lst xs)) ∧ (∀ {ρ : G9.Env} {σ : L2.St}, EnvOk T ι ρ σ H → EnvOk T ⟨ι.c.set k [p], ι.x⟩ (killR k ρ) σ H1) ∧ Rp T ⟨ι.c.set k [p], ι.x⟩ H1 (.ref p) (.ref k) := by
  have hkc : k < ι.c.length := by rw [po.ok.len]; exact hk
  have sub : ∀ a, a ∈ (Foot.mk (ι.c.set k [p]) ι.x).all → a ∈ (Foot.mk ι.c (p :: ι.x)).all := fun a ha => by
    unfold Foot.all at ha ⊢
    simp only [List.mem_append, List.mem_cons] at ha ⊢
    rcases ha with q | q
    · rcases mem_setF q with q | q
      · exact .inr (.inl q)
      · exact .inl q
    · exact .inr (.inr q)
  have nw : ∀ a, a ∈ (Foot.mk (ι.c.set k [p]) ι.x).all → a ∈ ι.all ∨ H a = none := fun a ha => (all_of (sub a ha)).elim (fun q => .inr (q ▸ hp)) .inl
  obtain ⟨n1, n2, n3⟩ := Foot.nd ok.nd
  have pc : p ∉ ι.c.flatten := fun q => n3 p q List.mem_cons_self
  have st : StOk ⟨ι.c.set k [p], ι.x⟩ (S1.set k (.lst xs)) H1 := by
    refine ⟨by simp [po.ok.len], Foot.mkNd (nodup_setF n1 pc) (List.nodup_cons.mp n2).2 (fun a ha hx => ?_), fun j fp c e1 e2 => ?_, fun a ha => ok.ex a (List.mem_cons_of_mem _ ha)⟩
    · rcases mem_setF ha with rfl | q
      · exact (List.nodup_cons.mp n2).1 hx
      · exact n3 a q (List.mem_cons_of_mem _ hx)
    · by_cases c' : k = j
      · subst c'
        simp only at e1
        rw [List.getElem?_set_self hkc] at e1
        rw [List.getElem?_set_self hk] at e2
        cases e1
        cases e2
        exact .lst h1 hz (r.mono (fun a o e _ => e) fun a ha => .inl (sub a ha))
      · simp only at e1
        rw [List.getElem?_set_ne c'] at e1 e2
        exact (ok.cell j fp c e1 e2).mono (fun a o e _ => e) fun a ha => .inl (sub a ha)
  have ps : PostS n ι H ⟨ι.c.set k [p], ι.x⟩ H1 (S1.set k (.lst xs)) := ⟨po.keep, nw, st, rfl, by simp, fun j hj => List.getElem?_set_ne (by omega)⟩
  refine ⟨ps, fun he => he.kill ps.keeps (by simp) fun j hj => List.getElem?_set_ne (fun z => hj z.symm), .ref (by simpa using hkc) fun a fp e => ?_⟩
  simp only at e
  rw [List.getElem?_set_self hkc] at e
  cases e
  rfl
theorem ss_new {i : Nat} {x : Str} {j : Nat} {e : G9.E} : ∀ D σ H, tS T F n (.new i x j e) E D σ H → tAsg (tN T F e E) (gName i) D σ H := fun D σ H ⟨ρ, S, ι, he, hs, h⟩ => by
  unfold evS at h
  refine ⟨ρ, S, ι, he, hs, ?_⟩
  cases q : evE F e ρ S with
  | bad => rw [q] at h; exact h
  | exc c S1 => rw [q] at h; exact fun H' p => h ι H' p.toS
  | ok d S1 =>
    rw [q] at h
    simp only [R.then_ok] at h
    split at h
    · rename_i xs
      split at h
      · rename_i hk
        intro p vs H1 hp po h1 hz ok r
        obtain ⟨ps, ke, rr⟩ := newCell (T := T) (n := n) (Nat.le_add_right _ _) hk hp po h1 hz ok r
        exact h _ _ _ ps ((ke he).set rr i)
      · exact h.elim
    · exact h.elim
theorem ss_parN {i i' : Nat} {x x' : Str} {j : Nat} {a b : G9.E} : ∀ D σ H, tS T F n (.parN i x i' x' j a b) E D σ H → tPar i i' (tCons (tE T F a E) (tCons (tN T F b E) tNil)) D σ H := fun D σ H ⟨ρ, S, ι, he, hs, h⟩ => by
  unfold evS at h
  refine tE_then he hs h fun d S0 v0 H0 p0 r0 he0 h0 => ?_
  refine ⟨ρ, S0, ι, he0, p0.ok, ?_⟩
  cases q : evE F b ρ S0 with
  | bad => rw [q] at h0; exact h0
  | exc c S1 => rw [q] at h0; exact fun H' p => h0 ι H' p.toS
  | ok d1 S1 =>
    rw [q] at h0
    simp only [R.then_ok] at h0
    split at h0
    · rename_i xs
      split at h0
      · rename_i hk
        intro p vs H1 hp po h1 hz ok r
        obtain ⟨ps, ke, rr⟩ := newCell (T := T) (n := n) (Nat.le_add_right _ _) hk.1 hp po h1 hz ok r
        have hd := hk.2
        cases d with
        | p z =>
          have r1 : Rp T ⟨ι.c.set (n + j) [p], ι.x⟩ H1 v0 (.p z) := by
            cases r0 with
            | p r0 => exact .p (r0.mono ps.keeps.keep ps.keeps.new)
          exact ⟨_, _, rfl, h0 _ _ _ ps (((ke he0).set r1 i).set rr i')⟩
        | _ => cases hd
      · exact h0.elim
    · exact h0.elim
theorem ss_fz {i : Nat} {x : Str} {e : G9.E} : ∀ D σ H, tS T F n (.fz i x e) E D σ H → tAsg (tE T F e E) (gName i) D σ H := fun D σ H ⟨ρ, S, ι, he, hs, h⟩ => by
  unfold evS at h
  refine tE_then he hs h fun d S1 v H1 p1 r1 he1 h1 => ?_
  split at h1
  · rename_i k
    split at h1
    · rename_i hn
      split at h1
      · rename_i xs e1
        obtain ⟨a, vs, rfl, g1, g2, g3, g4⟩ := r1.cell p1.ok e1
        obtain ⟨n1, n2, n3⟩ := Foot.nd p1.ok.nd
        have sub : ∀ b, b ∈ (Foot.mk (ι.c.set k []) ι.x).all → b ∈ ι.all := fun b hb => by
          unfold Foot.all at hb ⊢
          simp only [List.mem_append] at hb ⊢
          rcases hb with q | q
          · exact .inl (mem_set0 q)
          · exact .inr q
        have kp : Keeps ι H1 ⟨ι.c.set k [], ι.x⟩ H1 := ⟨fun _ _ e _ => e, fun b hb => .inl (sub b hb)⟩
        have ps : PostS n ι H1 ⟨ι.c.set k [], ι.x⟩ H1 (S1.set k .nil) := by
          refine ⟨fun _ _ e _ => e, kp.new, ⟨by simp [p1.ok.len], Foot.mkNd (nodup_set0 n1) n2 (fun b hb => n3 b (mem_set0 hb)), fun j fp c q1 q2 => ?_, p1.ok.ex⟩, rfl, by simp, fun j hj => List.getElem?_set_ne (by omega)⟩
          by_cases c' : k = j
          · subst c'
            simp only at q1
            have l1 : k < ι.c.length := (List.getElem?_eq_some_iff.mp g1).1
            rw [List.getElem?_set_self l1] at q1
            rw [List.getElem?_set_self (by rw [← p1.ok.len]; exact l1)] at q2
            cases q1
            cases q2
            exact .nil
          · simp only at q1
            rw [List.getElem?_set_ne c'] at q1 q2
            exact (p1.ok.cell j fp c q1 q2).mono (fun a o e _ => e) fun a ha => .inl (sub a ha)
        have na : a ∉ (Foot.mk (ι.c.set k []) ι.x).all := fun q => by
          unfold Foot.all at q
          rcases List.mem_append.mp q with q | q
          · exact notin_set0 n1 g1 q
          · exact n3 a (List.mem_flatten.mpr ⟨[a], List.mem_of_getElem? g1, by simp⟩) q
        exact h1 _ _ _ ps ((he1.kill kp (by simp) fun j hj => List.getElem?_set_ne (fun z => hj z.symm)).set (.p (.lst g2 na g3 (g4.mono (fun a o e _ => e) fun a ha => .inl (sub a ha)))) i)
      · exact h1.elim
    · exact h1.elim
  · exact h1.elim
theorem flat_inj {a : Addr} : ∀ {l : List (List Addr)} {k j : Nat} {f g : List Addr}, l.flatten.Nodup → l[k]? = some f → l[j]? = some g → a ∈ f → a ∈ g → k = j
  | [], k, j, f, g, h, e1, e2, _, _ => by simp at e1
  | x :: r, 0, 0, f, g, h, e1, e2, _, _ => rfl
  | x :: r, 0, j + 1, f, g, h, e1, e2, h1, h2 => by
    simp only [List.getElem?_cons_zero, Option.some.injEq, List.getElem?_cons_succ] at e1 e2
    subst e1
    rw [List.flatten_cons, List.nodup_append] at h
    exact absurd rfl (h.2.2 a h1 a (List.mem_flatten.mpr ⟨g, List.mem_of_getElem? e2, h2⟩))
  | x :: r, k + 1, 0, f, g, h, e1, e2, h1, h2 => by
    simp only [List.getElem?_cons_zero, Option.some.injEq, List.getElem?_cons_succ] at e1 e2
    subst e2
    rw [List.flatten_cons, List.nodup_append] at h
    exact absurd rfl (h.2.2 a h2 a (List.mem_flatten.mpr ⟨f, List.mem_of_getElem? e1, h1⟩))
  | x :: r, k + 1, j + 1, f, g, h, e1, e2, h1, h2 => by
    simp only [List.getElem?_cons_succ] at e1 e2
    rw [List.flatten_cons, List.nodup_append] at h
    rw [flat_inj h.2.1 e1 e2 h1 h2]
/-- a cell changes -/
theorem Post.cellU {k : Nat} {a : Addr} {fp : List Addr} {o : HO} {c : Cell} (hs : StOk ι S H) (g1 : ι.c[k]? = some fp) (ha : a ∈ fp) (hc : CellOk ι.all (upd H a o) fp c) : Post ι H (upd H a o) (S.set k c) := by
  have af : a ∈ ι.c.flatten := List.mem_flatten.mpr ⟨fp, List.mem_of_getElem? g1, ha⟩
  have al : a ∈ ι.all := List.mem_append_left _ af
  have l1 : k < ι.c.length := (List.getElem?_eq_some_iff.mp g1).1
  obtain ⟨n1, n2, n3⟩ := Foot.nd hs.nd
  refine ⟨fun b o e hb => by rw [upd_ne fun q => hb (by rw [q]; exact af)]; exact e, ⟨by simp [hs.len], hs.nd, fun j fp' c' q1 q2 => ?_, fun b hb => ?_⟩⟩
  · by_cases c' : k = j
    · subst c'
      rw [g1] at q1
      cases q1
      rw [List.getElem?_set_self (by rw [← hs.len]; exact l1)] at q2
      cases q2
      exact hc
    · rw [List.getElem?_set_ne c'] at q2
      refine (hs.cell j fp' _ q1 q2).mono (fun b o e hb => ?_) fun _ z => .inl z
      rw [upd_ne fun q => ?_]
      · exact e
      · subst q
        rcases hb with hb | hb
        · exact c' (flat_inj (a := b) n1 g1 q1 ha hb)
        · exact hb al
  · obtain ⟨o, e⟩ := hs.ex b hb
    exact ⟨o, by rw [upd_ne (fun q : b = a => n3 a af (q ▸ hb))]; exact e⟩
theorem mvU {a : Addr} {o : HO} (al : a ∈ ι.all) {us : List V} {ys : List P} (r : RpPs ι.all H us ys) : RpPs ι.all (upd H a o) us ys := r.mono (fun b o e hb => by
  rw [upd_ne fun q => hb (by rw [q]; exact al)]
  exact e) fun _ q => .inl q
theorem Post.cell {k : Nat} {a : Addr} {vs : List V} {xs : List P} (hs : StOk ι S H) (g1 : ι.c[k]? = some [a]) (hz : vs.length ≤ sizeLine) (r : RpPs ι.all H vs xs) : Post ι H (upd H a (.lst vs)) (S.set k (.lst xs)) :=
  Post.cellU hs g1 (by simp) (.lst upd_same hz (mvU (List.mem_append_left _ (List.mem_flatten.mpr ⟨[a], List.mem_of_getElem? g1, by simp⟩)) r))
theorem ss_setix {o i e : G9.E} : ∀ D σ H, tS T F n (.setix o i e) E D σ H → tAsg (tE T F e E) (gSub (tE T F o E) (tE T F i E) rSetL) D σ H := fun D σ H ⟨ρ, S, ι, he, hs, h⟩ => by
  unfold evS at h
  refine tE_then he hs h fun d1 S1 v1 H1 p1 r1 he1 h1 => tE_then he1 p1.ok h1 fun d2 S2 v2 H2 p2 r2 he2 h2 => tE_then he2 p2.ok h2 fun d3 S3 v3 H3 p3 r3 he3 h3 => ?_
  split at h3
  · rename_i k q z
    split at h3
    · rename_i xs e1
      split at h3
      · rename_i j ej
        obtain ⟨a, vs, rfl, g1, g2, g3, g4⟩ := (r2.post p3).cell p3.ok e1
        cases r3.int
        have r1' := (r1.post p2).post p3
        cases r1' with
        | p r1' =>
          refine ⟨a, vs, q, j, rfl, rfl, g2, by rw [g4.length]; exact ej, ?_⟩
          have pc := Post.cell p3.ok g1 (vs := vs.set j v1) (by rw [List.length_set]; exact g3) (g4.set r1' j)
          exact h3 _ _ _ pc.toS (he3.post pc)
      · exact h3.elim
    · exact h3.elim
  · exact h3.elim
theorem isL_ty {v : V} {d : D} (hs : StOk ι S H) (r : Rp T ι H v d) (h : isL S d = true) : tyV T.K "list" v H := by
  cases d with
  | ref k =>
    unfold isL at h
    simp only at h
    split at h
    · rename_i xs e
      obtain ⟨a, vs, rfl, g1, g2, g3, g4⟩ := r.cell hs e
      exact .inl ⟨rfl, vs, .of g2⟩
    · cases h
  | _ => cases h
theorem ss_app {o e : G9.E} : ∀ D σ H, tS T F n (.app o e) E D σ H → tDrop (tBM T.K "list" rAppend (tE T F o E) (tCons (tE T F e E) tNil)) D σ H := fun D σ H ⟨ρ, S, ι, he, hs, h⟩ => by
  unfold evS at h
  refine tE_then he hs h fun d1 S1 v1 H1 p1 r1 he1 h1 => ?_
  split at h1
  · rename_i il
    refine ⟨isL_ty p1.ok r1 il, tE_then he1 p1.ok h1 fun d2 S2 v2 H2 p2 r2 he2 h2 => ?_⟩
    split at h2
    · rename_i k z
      split at h2
      · rename_i xs e1
        split at h2
        · rename_i hl
          rw [lim_eq] at hl
          obtain ⟨a, vs, rfl, g1, g2, g3, g4⟩ := (r1.post p2).cell p2.ok e1
          cases r2 with
          | p r2 =>
            have hl' : vs.length < sizeLine := by rw [g4.length]; exact hl
            refine ⟨a, vs, v2, rfl, rfl, g2, hl', ?_⟩
            have pc := Post.cell p2.ok g1 (vs := vs ++ [v2]) (by rw [List.length_append]; exact hl') (g4.append (.cons r2 .nil))
            exact h2 _ _ _ pc.toS (he2.post pc)
        · exact h2.elim
      · exact h2.elim
    · exact h2.elim
  · exact h1.elim
theorem ss_ext {o e : G9.E} : ∀ D σ H, tS T F n (.ext o e) E D σ H → tDrop (tBM T.K "list" rExtend (tE T F o E) (tCons (tE T F e E) tNil)) D σ H := fun D σ H ⟨ρ, S, ι, he, hs, h⟩ => by
  unfold evS at h
  refine tE_then he hs h fun d1 S1 v1 H1 p1 r1 he1 h1 => ?_
  split at h1
  · rename_i il
    refine ⟨isL_ty p1.ok r1 il, tE_then he1 p1.ok h1 fun d2 S2 v2 H2 p2 r2 he2 h2 => ?_⟩
    split at h2
    · rename_i k zs
      split at h2
      · rename_i xs e1
        split at h2
        · rename_i hl
          rw [lim_eq] at hl
          obtain ⟨a, vs, rfl, g1, g2, g3, g4⟩ := (r1.post p2).cell p2.ok e1
          obtain ⟨b, us, rfl, k1, k2, k3, k4⟩ := r2.lst
          have hl' : vs.length + us.length ≤ sizeLine := by rw [g4.length, k4.length]; exact hl
          refine ⟨a, b, vs, us, rfl, rfl, g2, k1, hl', ?_⟩
          have pc := Post.cell p2.ok g1 (vs := vs ++ us) (by rw [List.length_append]; exact hl') (g4.append k4)
          exact h2 _ _ _ pc.toS (he2.post pc)
        · exact h2.elim
      · exact h2.elim
    · exact h2.elim
  · exact h1.elim
/-! ### loops -/
theorem ss_for {tg : Tg} {it : G9.It} {body : List Sm} : ∀ D σ H, tS T F n (.for_ tg it body) E D σ H → tFor (tI T F it E) (gT T.K tg) (tSs T F n body E) D σ H := fun D σ H ⟨ρ, S, ι, he, hs, h⟩ => by
  unfold evS at h
  refine ⟨ρ, S, ι, he, hs, (OutS.then h).imp fun w S1 H1 p1 h1 J wk => ?_⟩
  obtain ⟨lk, ds⟩ := w
  have he1 := he.post p1
  have hs1 := p1.ok
  simp only at wk h1
  split at h1
  · rename_i _ _ xs ea
    have ed := allP_eq ea
    subst ed
    refine ⟨fun i m σ2 H2 => m = xs.length - i ∧ i ≤ xs.length ∧ ∃ ρ2 S2 ι2, EnvOk T ι2 ρ2 σ2 H2 ∧ PostS n ι H1 ι2 H2 S2 ∧ OutS T E n ι2 H2 (loop tg (evSs F n body) (xs.drop i) ρ2 S2) D, ⟨_, rfl, Nat.zero_le _, ρ, S1, ι, he1, .refl hs1, h1⟩, ?_⟩
    rintro i m σ2 H2 ⟨rfl, hi, ρ2, S2, ι2, e2, ps2, o2⟩
    have C : Cond ι none S1 H1 (xs.map G9.D.p) ι2 S2 H2 := ⟨ps2.keeps, ps2.ok, .inr ⟨xs, rfl⟩, fun k e => by cases e⟩
    by_cases hlt' : ¬ i < xs.length
    · have e : i = xs.length := by omega
      subst e
      have st := wk.stop _ _ _ C
      rw [List.length_map] at st
      refine .inl ⟨st, ?_⟩
      rw [List.drop_length] at o2
      unfold loop at o2
      exact o2.done ps2.ok e2
    · have hlt := Decidable.not_not.mp hlt'
      have hx : (xs.map G9.D.p)[i]? = some (.p xs[i]) := by simp [hlt]
      refine .inr ⟨wk.go _ _ _ _ _ hx C, _, fun σ' H' p' => ⟨xs.length - (i + 1), by omega, rfl, hlt, p'⟩, fun x H3 y => ?_⟩
      obtain ⟨p3, r3⟩ := wk.yld _ _ _ _ _ _ _ hx C y
      rw [List.drop_eq_getElem_cons hlt] at o2
      unfold loop at o2
      split at o2
      · exact o2.elim
      · rename_i ρ1 eb
        refine gT_ok eb (e2.post p3) r3 fun σ1 he4 _ => ?_
        refine ⟨ρ1, S2, ι2, he4, p3.ok, OutS.bind (OutS.shift p3.toS o2) rfl fun ρ' S' ι' σ' H' p4 e4 o4 => ?_⟩
        exact ⟨ρ', S', ι', e4, (ps2.trans p3.toS).trans p4, o4⟩
  · exact h1.elim
theorem ss_whil {m : Nat} {t : G9.E} {body : List Sm} : ∀ D σ H, tS T F n (.whil m t body) E D σ H → tWhile (tt T F t E) (tSs T F n body E) D σ H := fun D σ H ⟨ρ, S, ι, he, hs, h⟩ => by
  unfold evS at h
  refine ⟨fun m σ2 H2 => ∃ ρ2 S2 ι2, EnvOk T ι2 ρ2 σ2 H2 ∧ StOk ι2 S2 H2 ∧ OutS T E n ι2 H2 (wloop (evE F t) (evSs F n body) m ρ2 S2) D, ⟨m, ρ, S, ι, he, hs, h⟩, ?_⟩
  rintro m σ2 H2 ⟨ρ2, S2, ι2, e2, s2, o2⟩
  cases m with
  | zero => exact o2.elim
  | succ m =>
    unfold wloop at o2
    refine tE_then e2 s2 o2 fun d S3 v H3 p3 r3 e3 o3 => ?_
    split at o3
    · refine ⟨true, r3.bl, iteT ?_⟩
      refine ⟨_, fun σ' H' p' => ⟨m, Nat.lt_succ_self m, p'⟩, ρ2, S3, ι2, e3, p3.ok, OutS.bind o3 rfl fun ρ' S' ι' σ' H' p4 e4 o4 => ?_⟩
      exact ⟨ρ', S', ι', e4, p4.ok, o4⟩
    · exact ⟨false, r3.bl, iteF (o3.done p3.ok e3)⟩
    · exact o3.elim
end
end G9

/-! text E14b -/
/-! G9.E14b: lists of lists; dicts of pairs. -/
namespace G9
open PySem PySem.Spec PyProof.Rows L2
/-! ### rows -/
theorem RowsOk.length {av : List Addr} {H : Hp} : ∀ {as : List Addr} {rows : List (List P)}, RowsOk av H as rows → as.length = rows.length
  | _, _, .nil => rfl
  | _, _, .cons _ _ _ t => by rw [List.length_cons, List.length_cons, t.length]
theorem RowsOk.get {av : List Addr} {H : Hp} : ∀ {as : List Addr} {rows : List (List P)} {i : Nat} {xs : List P}, RowsOk av H as rows → rows[i]? = some xs → ∃ b vs, as[i]? = some b ∧ H b = some (.lst vs) ∧ vs.length ≤ sizeLine ∧ RpPs av H vs xs
  | _, _, _, _, .nil, e => by simp at e
  | _, _, 0, _, .cons h1 h2 h3 _, e => by simp at e; subst e; exact ⟨_, _, rfl, h1, h2, h3⟩
  | _, _, i + 1, _, .cons _ _ _ t, e => by
    obtain ⟨b, vs, h1, h2⟩ := t.get (i := i) (by simpa using e)
    exact ⟨b, vs, by simpa using h1, h2⟩
theorem RowsOk.upd {av : List Addr} {H : Hp} {b : Addr} {vs : List V} {xs : List P} (hb : b ∈ av) (hz : vs.length ≤ sizeLine) (r : RpPs av H vs xs) : ∀ {as : List Addr} {rows : List (List P)} {i : Nat}, RowsOk av H as rows → as.Nodup → as[i]? = some b → RowsOk av (L2.upd H b (.lst vs)) as (rows.set i xs)
  | _, _, _, .nil, _, e => by simp at e
  | _, _, 0, .cons h1 h2 h3 t, nd, e => by
    simp at e
    subst e
    rw [List.nodup_cons] at nd
    have mv : ∀ {us : List V} {ys : List P}, RpPs av H us ys → RpPs av (L2.upd H _ (.lst vs)) us ys := fun q => q.mono (fun c o e hn => by
      rw [upd_ne fun z => hn (by rw [z]; exact hb)]
      exact e) fun _ q => .inl q
    refine .cons upd_same hz (mv r) (t.mono (fun c o e hc => ?_) fun _ q => .inl q)
    rw [upd_ne fun z => ?_]
    · exact e
    · subst z
      rcases hc with hc | hc
      · exact nd.1 hc
      · exact hc hb
  | _, _, i + 1, .cons (a := a) h1 h2 h3 t, nd, e => by
    rw [List.nodup_cons] at nd
    rw [List.getElem?_cons_succ] at e
    have e' := e
    have ne : a ≠ b := fun z => nd.1 (by rw [z]; exact List.mem_of_getElem? e')
    exact .cons (by rw [upd_ne ne]; exact h1) h2 (h3.mono (fun c o e hn => by
      rw [upd_ne fun z => hn (by rw [z]; exact hb)]
      exact e) fun _ q => .inl q) (RowsOk.upd hb hz r t nd.2 e')
theorem flat_nodup {fp : List Addr} : ∀ {l : List (List Addr)} {k : Nat}, l.flatten.Nodup → l[k]? = some fp → fp.Nodup
  | [], k, _, e => by simp at e
  | x :: r, 0, h, e => by
    simp at e
    subst e
    rw [List.flatten_cons, List.nodup_append] at h
    exact h.1
  | x :: r, k + 1, h, e => by
    rw [List.flatten_cons, List.nodup_append] at h
    exact flat_nodup h.2.1 (by simpa using e)
section
variable {T : Tb} {F : FS} {n : Nat} {E : XK} {ι ι1 : Foot} {H H1 : Hp} {S S1 : Store} {ρ : G9.Env} {σ : L2.St} {Ds : Ends} {Q : VK}
theorem Rp.mcell {v : V} {k : Nat} {rows : List (List P)} (r : Rp T ι H v (.ref k)) (hs : StOk ι S H) (e : S[k]? = some (.mat rows)) : ∃ a as, v = .ref a ∧ ι.c[k]? = some (a :: as) ∧ H a = some (.lst (as.map V.ref)) ∧ as.length ≤ sizeLine ∧ RowsOk ι.all H as rows := by
  have hk : k < ι.c.length := by rw [hs.len]; exact (List.getElem?_eq_some_iff.mp e).1
  have hi : ι.c[k]? = some ι.c[k] := List.getElem?_eq_getElem hk
  have c := hs.cell k _ _ hi e
  generalize hfp : ι.c[k] = fp at c hi
  cases c with
  | mat h1 h2 h3 =>
    cases r with
    | ref _ h => exact ⟨_, _, h _ _ hi, hi, h1, h2, h3⟩
theorem Rp.dcell {v : V} {k : Nat} {ks : List (Int × Int)} (r : Rp T ι H v (.ref k)) (hs : StOk ι S H) (e : S[k]? = some (.dct ks)) : ∃ a kvs, v = .ref a ∧ ι.c[k]? = some [a] ∧ H a = some (.dT kvs) ∧ kvs.map (·.1) = ks.map keyP := by
  have hk : k < ι.c.length := by rw [hs.len]; exact (List.getElem?_eq_some_iff.mp e).1
  have hi : ι.c[k]? = some ι.c[k] := List.getElem?_eq_getElem hk
  have c := hs.cell k _ _ hi e
  generalize hfp : ι.c[k] = fp at c hi
  cases c with
  | dct h1 h2 =>
    cases r with
    | ref _ h => exact ⟨_, _, h _ _ hi, hi, h1, h2⟩
abbrev rL (K : PySem.W.Frag) : R2 := rIxL K
theorem isM_ok {S : Store} {x y : D} (h : isM S x y = true) : ∃ k p rows i, x = .ref k ∧ y = .p (.int p) ∧ S[k]? = some (.mat rows) ∧ ix rows.length p = some i := by
  unfold isM at h
  split at h
  · rename_i k p
    split at h
    · rename_i rows e
      obtain ⟨i, hi⟩ := Option.isSome_iff_exists.mp h
      exact ⟨k, p, rows, i, rfl, rfl, e, hi⟩
    · cases h
  · cases h
theorem ix_lt {n : Nat} {p : Int} {i : Nat} (h : ix n p = some i) : i < n := by
  unfold ix at h
  split at h
  · split at h
    · cases h; omega
    · cases h
  · split at h
    · cases h; omega
    · cases h
/-- the row that a[i] gives -/
theorem row_at {x y : D} {v1 v2 : V} (hs : StOk ι S H) (r1 : Rp T ι H v1 x) (r2 : Rp T ι H v2 y) (h : isM S x y = true) {Q : VK} (q : ∀ (k : Nat) (p : Int) (rows : List (List P)) (i : Nat) (a : Addr) (as : List Addr) (b : Addr), x = .ref k → y = .p (.int p) → ix rows.length p = some i → as.length = rows.length → ι.c[k]? = some (a :: as) → as[i]? = some b → Q (.ref b) H) : rL T.K v1 v2 H Q := by
  obtain ⟨k, p, rows, i, rfl, rfl, e, hi⟩ := isM_ok h
  obtain ⟨a, as, rfl, h1, h2, h3, h4⟩ := r1.mcell hs e
  cases r2.int
  have hl : i < as.length := by rw [h4.length]; exact ix_lt hi
  refine ⟨a, as.map V.ref, p, .ref as[i], rfl, rfl, .of h2, ?_, q k p rows i a as as[i] rfl rfl hi h4.length h1 (List.getElem?_eq_getElem hl)⟩
  unfold atI
  rw [List.length_map, h4.length, ix_eq, hi]
  simp [hl]
theorem s_idx2 {X : Cx} {a i j : G9.E} {ea ei ej : Expr} {p pos : Pos} (hK : X.K = T.K) (ha : PE X ea (tE T F a E)) (hb : PE X ei (tE T F i E)) (hc : PE X ej (tE T F j E)) (h1 : PlainIx ei) (h2 : PlainIx ej) : PE X (.Subscript (.Subscript ea ei p) ej pos) (tE T F (.idx2 a i j) E) := by
  refine (pe_ix ix_list (pe_ix ix_list ha hb h1) hc h2).weak fun σ H Q ⟨ρ, S, ι, he, hs, h⟩ => ?_
  unfold evE at h
  refine tE_bind he hs h fun d1 S1 v1 H1 p1 r1 he1 q1 => tE_bind he1 p1.ok q1 fun d2 S2 v2 H2 p2 r2 he2 q2 => ?_
  split at q2
  · rename_i hm
    rw [hK]
    refine row_at p2.ok (r1.post p2) r2 hm fun k q rows i' a' as b ek ey ei' el ec eb => ?_
    refine tE_bind he2 p2.ok q2 fun d3 S3 v3 H3 p3 r3 he3 q3 => ?_
    split at q3
    · rename_i v em
      subst ek ey
      unfold getM at em
      split at em
      · rename_i k2 pp qq z1 z2
        cases z1
        cases z2
        split at em
        · rename_i rows3 e3
          obtain ⟨a3, as3, z, c1, c2, c3, c4⟩ := ((r1.post p2).post p3).mcell p3.ok e3
          rw [ec] at c1
          cases c1
          cases hg : getAt rows3 q with
          | none => rw [hg] at em; cases em
          | some r =>
            rw [hg] at em
            simp only [Option.bind_some] at em
            unfold getAt at hg
            rw [← c4.length, el, ei'] at hg
            simp only [Option.bind_some] at hg
            obtain ⟨b', vs, g1, g2, g3, g4⟩ := c4.get hg
            rw [eb] at g1
            cases g1
            cases r3.int
            have hat : ∃ w, atI vs qq = some w ∧ RpP ι.all H3 w v := by
              unfold getAt at em
              unfold atI
              rw [g4.length, ix_eq]
              cases hi : ix r.length qq with
              | none => simp [hi] at em
              | some j' =>
                simp only [hi, Option.bind_some] at em
                exact g4.get em
            obtain ⟨w, w1, w2⟩ := hat
            exact ⟨_, vs, qq, w, rfl, rfl, .of g2, w1, q3.here p3.ok (.p w2)⟩
        · cases em
      · cases em
    · exact q3.elim
  · exact q2.elim
theorem ss_setix2 {o i j e : G9.E} : ∀ D σ H, tS T F n (.setix2 o i j e) E D σ H → tAsg (tE T F e E) (gSub (tOp (rL T.K) (tE T F o E) (tE T F i E)) (tE T F j E) rSetL) D σ H := fun D σ H ⟨ρ, S, ι, he, hs, h⟩ => by
  unfold evS at h
  refine tE_then he hs h fun d0 S0 v0 H0 p0 r0 he0 h0 => tE_then he0 p0.ok h0 fun d1 S1 v1 H1 p1 r1 he1 h1 => tE_then he1 p1.ok h1 fun d2 S2 v2 H2 p2 r2 he2 h2 => ?_
  split at h2
  · rename_i hm
    refine row_at p2.ok (r1.post p2) r2 hm fun k q rows i' a' as b ek ey ei' el ec eb => ?_
    refine tE_then he2 p2.ok h2 fun d3 S3 v3 H3 p3 r3 he3 h3 => ?_
    split at h3
    · rename_i vv
      split at h3
      · rename_i S' em
        subst ek ey
        unfold setM at em
        split at em
        · rename_i k2 pp qq z1 z2
          cases z1
          cases z2
          split at em
          · rename_i rows3 e3
            obtain ⟨a3, as3, z, c1, c2, c3, c4⟩ := ((r1.post p2).post p3).mcell p3.ok e3
            rw [ec] at c1
            cases c1
            split at em
            · rename_i i3 ei3
              rw [← c4.length, el, ei'] at ei3
              cases ei3
              split at em
              · rename_i r hr
                split at em
                · rename_i j3 ej
                  cases em
                  obtain ⟨b', vs, g1, g2, g3, g4⟩ := c4.get hr
                  rw [eb] at g1
                  cases g1
                  cases r3.int
                  have r0' := ((r0.post p1).post p2).post p3
                  cases r0' with
                  | p r0' =>
                    refine ⟨_, vs, qq, j3, rfl, rfl, g2, by rw [g4.length]; exact ej, ?_⟩
                    have nd := flat_nodup (Foot.nd p3.ok.nd).1 ec
                    rw [List.nodup_cons] at nd
                    have bm : b ∈ as := List.mem_of_getElem? eb
                    have bal : b ∈ ι.all := List.mem_append_left _ (List.mem_flatten.mpr ⟨_, List.mem_of_getElem? ec, List.mem_cons_of_mem _ bm⟩)
                    have ne : a' ≠ b := fun z => nd.1 (z ▸ bm)
                    have pc := Post.cellU (o := .lst (vs.set j3 v0)) p3.ok ec (List.mem_cons_of_mem _ bm) (.mat (by rw [upd_ne ne]; exact c2) c3 (c4.upd bal (by rw [List.length_set]; exact g3) (g4.set r0' j3) nd.2 eb))
                    exact h3 _ _ _ pc.toS (he3.post pc)
                · cases em
              · cases em
            · cases em
          · cases em
        · cases em
      · exact h3.elim
    · exact h3.elim
  · exact h2.elim
end
end G9

/-! text E14c -/
/-! G9.E14c: a new list of new lists; a new dict. -/
namespace G9
open PySem PySem.Spec PyProof.Rows L2
theorem mem_setG {a : Addr} {fp : List Addr} : ∀ {l : List (List Addr)} {k : Nat}, a ∈ (l.set k fp).flatten → a ∈ fp ∨ a ∈ l.flatten
  | [], k, h => by simp at h
  | x :: r, 0, h => by
    simp only [List.set_cons_zero, List.flatten_cons, List.mem_append] at h ⊢
    rcases h with h | h
    · exact .inl h
    · exact .inr (.inr h)
  | x :: r, k + 1, h => by
    simp only [List.set_cons_succ, List.flatten_cons, List.mem_append] at h ⊢
    rcases h with h | h
    · exact .inr (.inl h)
    · rcases mem_setG h with h | h
      · exact .inl h
      · exact .inr (.inr h)
theorem nodup_setG {fp : List Addr} (nf : fp.Nodup) : ∀ {l : List (List Addr)} {k : Nat}, l.flatten.Nodup → (∀ a ∈ fp, a ∉ l.flatten) → (l.set k fp).flatten.Nodup
  | [], k, h, _ => by simpa using h
  | x :: r, 0, h, q => by
    simp only [List.set_cons_zero, List.flatten_cons, List.nodup_append, List.mem_append, not_or] at h q ⊢
    exact ⟨nf, h.2.1, fun a ha b hb e => (q a ha).2 (e ▸ hb)⟩
  | x :: r, k + 1, h, q => by
    simp only [List.set_cons_succ, List.flatten_cons, List.nodup_append, List.mem_append, not_or] at h q ⊢
    refine ⟨h.1, nodup_setG nf h.2.1 (fun a ha => (q a ha).2), fun a ha b hb => ?_⟩
    rcases mem_setG hb with hb | hb
    · exact fun e => (q b hb).1 (e ▸ ha)
    · exact h.2.2 a ha b hb
section
variable {T : Tb} {F : FS} {n : Nat} {E : XK} {ι ι1 : Foot} {H H1 : Hp} {S S1 : Store} {ρ : G9.Env} {σ : L2.St} {Ds : Ends} {Q : VK}
/-- something new goes into a cell of the frame -/
theorem newCellG {k : Nat} {p : Addr} {as : List Addr} {c : Cell} (hn : n ≤ k) (hk : k < S1.length) (hp : ∀ a ∈ p :: as, H a = none) (po : Post ι H H1 S1) (nd : (p :: as).Nodup) (dj : ∀ a ∈ p :: as, a ∉ ι.all)
    (cells : ∀ (j : Nat) fp c', ι.c[j]? = some fp → S1[j]? = some c' → CellOk ((p :: as) ++ ι.all) H1 fp c') (hc : CellOk ((p :: as) ++ ι.all) H1 (p :: as) c) :
    PostS n ι H ⟨ι.c.set k (p :: as), ι.x⟩ H1 (S1.set k c) ∧ (∀ {ρ : G9.Env} {σ : L2.St}, EnvOk T ι ρ σ H → EnvOk T ⟨ι.c.set k (p :: as), ι.x⟩ (killR k ρ) σ H1) ∧ Rp T ⟨ι.c.set k (p :: as), ι.x⟩ H1 (.ref p) (.ref k) := by
  have hkc : k < ι.c.length := by rw [po.ok.len]; exact hk
  have sub : ∀ a, a ∈ (Foot.mk (ι.c.set k (p :: as)) ι.x).all → a ∈ (p :: as) ++ ι.all := fun a ha => by
    unfold Foot.all at ha ⊢
    rcases List.mem_append.mp ha with q | q
    · rcases mem_setG q with q | q
      · exact List.mem_append_left _ q
      · exact List.mem_append_right _ (List.mem_append_left _ q)
    · exact List.mem_append_right _ (List.mem_append_right _ q)
  have nw : ∀ a, a ∈ (Foot.mk (ι.c.set k (p :: as)) ι.x).all → a ∈ ι.all ∨ H a = none := fun a ha => (List.mem_append.mp (sub a ha)).elim (fun q => .inr (hp a q)) .inl
  obtain ⟨n1, n2, n3⟩ := Foot.nd po.ok.nd
  have st : StOk ⟨ι.c.set k (p :: as), ι.x⟩ (S1.set k c) H1 := by
    refine ⟨by simp [po.ok.len], Foot.mkNd (nodup_setG nd n1 fun a ha q => dj a ha (List.mem_append_left _ q)) n2 (fun a ha hx => ?_), fun j fp c' e1 e2 => ?_, po.ok.ex⟩
    · rcases mem_setG ha with q | q
      · exact dj a q (List.mem_append_right _ hx)
      · exact n3 a q hx
    · by_cases c' : k = j
      · subst c'
        simp only at e1
        rw [List.getElem?_set_self hkc] at e1
        rw [List.getElem?_set_self hk] at e2
        cases e1
        cases e2
        exact hc.mono (fun a o e _ => e) fun a ha => .inl (sub a ha)
      · simp only at e1
        rw [List.getElem?_set_ne c'] at e1 e2
        exact (cells j fp _ e1 e2).mono (fun a o e _ => e) fun a ha => .inl (sub a ha)
  have ps : PostS n ι H ⟨ι.c.set k (p :: as), ι.x⟩ H1 (S1.set k c) := ⟨po.keep, nw, st, rfl, by simp, fun j hj => List.getElem?_set_ne (by omega)⟩
  refine ⟨ps, fun he => he.kill ps.keeps (by simp) fun j hj => List.getElem?_set_ne (fun z => hj z.symm), .ref (by simpa using hkc) fun a fp e => ?_⟩
  simp only at e
  rw [List.getElem?_set_self hkc] at e
  cases e
  rfl
/-! ### {} -/
theorem ss_newd {i : Nat} {x : Str} {j : Nat} : ∀ D σ H, tS T F n (.newd i x j) E D σ H → tAsg tDNewT (gName i) D σ H := fun D σ H ⟨ρ, S, ι, he, hs, h⟩ p hp => by
  unfold evS at h
  split at h
  · rename_i hk
    have fr := hs.fresh hp
    have po : Post ι H (upd H p (.dT [])) S := .laid hs hp _
    obtain ⟨ps, ke, rr⟩ := newCellG (T := T) (n := n) (as := []) (c := .dct []) (Nat.le_add_right _ _) hk (fun a ha => by simp at ha; subst ha; exact hp) po (by simp) (fun a ha => by simp at ha; subst ha; exact fr) (fun j fp c' e1 e2 => (hs.cell j fp c' e1 e2).mono (fun a o e _ => by rw [upd_ne (ne_of_none e hp)]; exact e) fun a ha => by
      simp only [List.cons_append, List.nil_append, List.mem_cons] at ha
      exact ha.elim (fun q => .inr (q ▸ hp)) .inl) (.dct upd_same rfl)
    exact h _ _ _ ps ((ke he).set rr i)
  · exact h.elim
/-! ### lists of lists -/
/-- what the end of a new list of new lists asks -/
def OutM (T : Tb) (E : XK) (ι : Foot) (H : Hp) (r : R D) (Q : VK) : Prop := match r with
  | .ok (.p (.lst xs)) S' => ∃ rows, allLst xs = some rows ∧ ∀ p as H', (p :: as).Nodup → (∀ a ∈ p :: as, H a = none) → Post ι H H' S' → H' p = some (.lst (as.map V.ref)) → as.length ≤ sizeLine → StOk ⟨ι.c, (p :: as) ++ ι.x⟩ S' H' → RowsOk (Foot.mk ι.c ((p :: as) ++ ι.x)).all H' as rows → Q (.ref p) H'
  | .ok _ _ => False
  | .exc c S' => ∀ H', Post ι H H' S' → E (.ref (T.ca c)) none H'
  | .bad => False
def tM (T : Tb) (F : FS) (c : G9.E) (X : XK) : TE := fun σ H Q => ∃ ρ S ι, EnvOk T ι ρ σ H ∧ StOk ι S H ∧ OutM T X ι H (evE F c ρ S) Q
theorem ss_newm {i : Nat} {x : Str} {j : Nat} {e : G9.E} : ∀ D σ H, tS T F n (.newm i x j e) E D σ H → tAsg (tM T F e E) (gName i) D σ H := fun D σ H ⟨ρ, S, ι, he, hs, h⟩ => by
  unfold evS at h
  refine ⟨ρ, S, ι, he, hs, ?_⟩
  cases q : evE F e ρ S with
  | bad => rw [q] at h; exact h
  | exc c S1 => rw [q] at h; exact fun H' p => h ι H' p.toS
  | ok d S1 =>
    rw [q] at h
    simp only [R.then_ok] at h
    split at h
    · rename_i xs
      split at h
      · rename_i rows er
        split at h
        · rename_i hk
          refine ⟨rows, er, fun p as H1 nd hp po h1 hz ok r => ?_⟩
          have mem : ∀ a, a ∈ (p :: as) ++ ι.all ↔ a ∈ (Foot.mk ι.c ((p :: as) ++ ι.x)).all := fun a => by
            unfold Foot.all
            simp only [List.mem_append]
            constructor
            · rintro (q | q | q)
              · exact .inr (.inl q)
              · exact .inl q
              · exact .inr (.inr q)
            · rintro (q | q | q)
              · exact .inr (.inl q)
              · exact .inl q
              · exact .inr (.inr q)
          obtain ⟨n1, n2, n3⟩ := Foot.nd ok.nd
          rw [List.nodup_append] at n2
          obtain ⟨ps, ke, rr⟩ := newCellG (T := T) (n := n) (c := .mat rows) (Nat.le_add_right _ _) hk hp po nd (fun a ha q => by
            unfold Foot.all at q
            rcases List.mem_append.mp q with q | q
            · exact n3 a q (List.mem_append_left _ ha)
            · exact n2.2.2 a ha a q rfl) (fun j fp c' e1 e2 => (ok.cell j fp c' e1 e2).mono (fun a o e _ => e) fun a ha => .inl ((mem a).mp ha)) (.mat h1 hz (r.mono (fun a o e _ => e) fun a ha => .inl ((mem a).mp ha)))
          exact h _ _ _ ps ((ke he).set rr i)
        · exact h.elim
      · exact h.elim
    · exact h.elim
theorem StOk.perm {c : List (List Addr)} {x y : List Addr} (h : StOk ⟨c, x⟩ S H) (p : x.Perm y) : StOk ⟨c, y⟩ S H := by
  obtain ⟨n1, n2, n3⟩ := Foot.nd h.nd
  refine ⟨h.len, Foot.mkNd n1 (p.nodup_iff.mp n2) (fun a ha hx => n3 a ha (p.mem_iff.mpr hx)), fun k fp c' e1 e2 => (h.cell k fp c' e1 e2).mono (fun a o e _ => e) fun a ha => .inl ?_, fun a ha => h.ex a (p.mem_iff.mpr ha)⟩
  unfold Foot.all at ha ⊢
  rcases List.mem_append.mp ha with q | q
  · exact List.mem_append_left _ q
  · exact List.mem_append_right _ (p.mem_iff.mpr q)
theorem allLst_snoc : ∀ {ps : List P} {rows : List (List P)} {xs : List P}, allLst ps = some rows → allLst (ps ++ [.lst xs]) = some (rows ++ [xs])
  | [], rows, xs, h => by cases h; rfl
  | .lst y :: r, rows, xs, h => by
    cases q : allLst r with
    | none => simp [allLst, q] at h
    | some l =>
      simp [allLst, q] at h
      subst h
      simp [allLst, allLst_snoc q]
  | .non :: _, _, _, h => by simp [allLst] at h
  | .bl _ :: _, _, _, h => by simp [allLst] at h
  | .int _ :: _, _, _, h => by simp [allLst] at h
  | .str _ :: _, _, _, h => by simp [allLst] at h
  | .tup _ :: _, _, _, h => by simp [allLst] at h
theorem RowsOk.snoc {av : List Addr} {H : Hp} {b : Addr} {vs : List V} {xs : List P} (h1 : H b = some (.lst vs)) (h2 : vs.length ≤ sizeLine) (h3 : RpPs av H vs xs) : ∀ {as : List Addr} {rows : List (List P)}, RowsOk av H as rows → RowsOk av H (as ++ [b]) (rows ++ [xs])
  | _, _, .nil => .cons h1 h2 h3 .nil
  | _, _, .cons g1 g2 g3 t => .cons g1 g2 g3 (t.snoc h1 h2 h3)
theorem lc_semM {own own2 : List (Str × Nat)} {tg tg2 : Tg} {it it2 : G9.It} {cond2 : Option G9.E} {elt2 : G9.E} (ho : ∀ i ∈ tg.ixs, i ∈ own.map (·.2)) :
    ∀ σ H Q, tM T F (.lc own tg it none (.lc own2 tg2 it2 cond2 elt2)) E σ H Q → tLc (tI T F it E) (gT T.K tg) tYes (tN T F (.lc own2 tg2 it2 cond2 elt2) noX) (own.map (·.2)) σ H Q := fun σ H Q ⟨ρ, S, ι, he, hs, h⟩ => by
  generalize hel : G9.E.lc own2 tg2 it2 cond2 elt2 = elt at h
  have isl : ∀ ρ S d S', evE F elt ρ S = .ok d S' → ∃ xs, d = .p (.lst xs) := fun ρ S d S' e => by
    rw [← hel, evE_lc] at e
    obtain ⟨w, S1, e1, e2⟩ := R.bind_eq e
    obtain ⟨ps, S2, e3, e4⟩ := R.bind_eq e2
    split at e4
    · cases e4; exact ⟨ps, rfl⟩
    · cases e4
  clear hel
  rw [evE_lc] at h
  refine ⟨ρ, S, ι, he, hs, ?_⟩
  cases ei : evI F it ρ S with
  | bad => rw [ei] at h; exact h
  | exc c S1 => rw [ei] at h; exact h
  | ok w S1 =>
  rw [ei, R.bind_ok] at h
  intro H1 p1 J wk D hD
  obtain ⟨lk, ds⟩ := w
  have he1 := he.post p1
  have hs1 := p1.ok
  simp only at wk h
  cases ec : comp lk (lcF F tg none elt (wipeE ρ own)) ds S1 with
  | bad => rw [ec] at h; exact h.elim
  | exc c S2 => exact absurd ec comp_no
  | ok PS Sf =>
    rw [ec, R.bind_ok] at h
    by_cases hl' : ¬ PS.length ≤ LIM
    · rw [if_neg hl'] at h; exact h.elim
    have hl := Decidable.not_not.mp hl'
    rw [if_pos hl] at h
    rw [lim_eq] at hl
    obtain ⟨rowsF, hrF, h1⟩ := h
    have fr := hs1.fresh hD
    let Pv : Nat → Hp → Prop := fun i H2 => ∃ S2 ps ps' as rows, comp lk (lcF F tg none elt (wipeE ρ own)) (ds.drop i) S2 = .ok ps' Sf ∧ PS = ps ++ ps' ∧ allLst ps = some rows ∧ ps.length = as.length ∧ H2 D = some (.lst (as.map V.ref)) ∧ (D :: as).Nodup ∧ (∀ a ∈ D :: as, H1 a = none) ∧
      RowsOk (Foot.mk ι.c ((D :: as) ++ ι.x)).all H2 as rows ∧ StOk ⟨ι.c, (D :: as) ++ ι.x⟩ S2 H2 ∧ (∀ a o, H1 a = some o → a ∉ ι.c.flatten → H2 a = some o) ∧ Keeps ι H1 ⟨ι.c, (D :: as) ++ ι.x⟩ H2 ∧ ∀ k, lk = some k → view S2 (.ref k) = view S1 (.ref k)
    have k0 : Keeps ι H1 ⟨ι.c, D :: ι.x⟩ (upd H1 D (.lst [])) := ⟨fun a o e _ => by rw [upd_ne (ne_of_none e hD)]; exact e, fun a ha => (all_of ha).elim (fun q => .inr (q ▸ hD)) .inl⟩
    have p0 : Pv 0 (upd H1 D (.lst [])) := ⟨S1, [], PS, [], [], ec, rfl, rfl, rfl, upd_same, by simp, fun a ha => by simp at ha; subst ha; exact hD, .nil, hs1.start hD _, fun a o e _ => by rw [upd_ne (ne_of_none e hD)]; exact e, k0, fun _ _ => rfl⟩
    refine ⟨fun i m H2 => m = ds.length - i ∧ i ≤ ds.length ∧ Pv i H2, ⟨_, rfl, Nat.zero_le _, p0⟩, ?_⟩
    rintro i m H2 ⟨rfl, hi, S2, ps, ps', as, rows, c1, c2, c2r, c2l, c3, cn, cf, c4, c5, c6, c7, c8⟩
    generalize hι : Foot.mk ι.c ((D :: as) ++ ι.x) = ι' at c4 c5 c7
    have ιc : ι'.c = ι.c := by rw [← hι]
    have ιx : ι'.x = (D :: as) ++ ι.x := by rw [← hι]
    have C : Cond ι lk S1 H1 ds ι' S2 H2 := ⟨c7, c5, .inl ιc, fun k e => ⟨ιc, c8 k e⟩⟩
    obtain ⟨m1, m2, m3⟩ := Foot.nd c5.nd
    have nocell : ∀ a ∈ D :: as, a ∉ ι'.c.flatten := fun a ha q => m3 a q (by rw [ιx]; exact List.mem_append_left _ ha)
    by_cases hlt' : ¬ i < ds.length
    · have e : i = ds.length := by omega
      subst e
      refine .inl ⟨wk.stop _ _ _ C, ?_⟩
      rw [List.drop_length] at c1
      unfold comp at c1
      cases c1
      rw [List.append_nil] at c2
      subst c2
      rw [hrF] at c2r
      cases c2r
      have hz : as.length ≤ sizeLine := by rw [← c2l]; exact hl
      have po : Post ι H1 H2 Sf := ⟨c6, by
        rw [← hι] at c5
        obtain ⟨n1, n2, n3⟩ := Foot.nd c5.nd
        rw [List.nodup_append] at n2
        refine ⟨c5.len, Foot.mkNd n1 n2.2.1 (fun a ha hx => n3 a ha (List.mem_append_right _ hx)), fun k fp c' e1 e2 => (c5.cell k fp c' e1 e2).mono (fun a o e _ => e) fun a ha => .inl ?_, fun a ha => c5.ex a (List.mem_append_right _ ha)⟩
        unfold Foot.all at ha ⊢
        rcases List.mem_append.mp ha with q | q
        · exact List.mem_append_left _ q
        · exact List.mem_append_right _ (List.mem_append_right _ q)⟩
      rw [← hι] at c5 c4
      exact h1 D as H2 cn (fun a ha => p1.back (cf a ha)) (p1.trans po) c3 hz c5 c4
    · have hlt := Decidable.not_not.mp hlt'
      refine .inr ⟨wk.go _ _ _ _ _ (List.getElem?_eq_getElem hlt) C, Pv (i + 1), fun H' p' => ⟨ds.length - (i + 1), by omega, rfl, hlt, p'⟩, fun x H3 y => ?_⟩
      obtain ⟨p3, r3⟩ := wk.yld _ _ _ _ _ _ _ (List.getElem?_eq_getElem hlt) C y
      rw [List.drop_eq_getElem_cons hlt] at c1
      obtain ⟨o, S3, ps'', f1, f2, f3, f4⟩ := comp_cons c1
      have k3 : Keeps ι H1 ι' H3 := c7.trans p3.keeps
      have he3 : EnvOk T ι' (wipeE ρ own) (wipe σ (own.map (·.2))) H3 := (he1.moved k3 ιc).wipe own
      unfold lcF at f1
      cases eb : bindT tg ds[i] (wipeE ρ own) with
      | none => simp [eb] at f1
      | some ρ1 =>
        simp only [eb] at f1
        refine gT_ok eb he3 r3 fun σ1 he4 st => ⟨wipe_sets st ho, ?_⟩
        have yy : ∀ {A B : Prop}, A → (if true = true then A else B) := fun a => by rw [if_pos rfl]; exact a
        refine yy (B := Pv (i + 1) H3) ?_
        obtain ⟨yv, S5, g1, g2⟩ := R.bind_eq f1
        obtain ⟨xs, rfl⟩ := isl _ _ _ _ g1
        simp only at g2
        cases g2
        simp only at f4
        subst f4
        refine ⟨ρ1, S2, ι', he4, p3.ok, ?_⟩
        rw [g1]
        intro q vs H5 hq po hq5 hz5 ok5 r5
        have p35 : Post ι' H2 H5 S3 := p3.trans po
        have hD5 : H5 D = some (.lst (as.map V.ref)) := p35.keep _ _ c3 (nocell D List.mem_cons_self)
        have hqn : q ∉ ι'.x := fun z => by
          obtain ⟨us, e⟩ := p3.ok.ex q z
          rw [hq] at e; cases e
        have hqD : q ∉ D :: as := fun z => hqn (by rw [ιx]; exact List.mem_append_left _ z)
        have hq1 : H1 q = none := by
          cases e : H1 q with
          | none => rfl
          | some o =>
            by_cases z : q ∈ ι.c.flatten
            · obtain ⟨o', e'⟩ := p3.ok.thereC (a := q) (by rw [ιc]; exact z)
              rw [hq] at e'; cases e'
            · have := p3.keep q o (c6 q o e z) (by rw [ιc]; exact z)
              rw [hq] at this; cases this
        have hle : as.length < sizeLine := by
          have : ps.length + 1 ≤ PS.length := by rw [c2]; simp
          omega
        refine ⟨as.map V.ref, hD5, by rw [List.length_map]; exact hle, ?_⟩
        have pm : (q :: ι'.x).Perm ((D :: (as ++ [q])) ++ ι.x) := by
          rw [ιx]
          show (q :: (D :: as ++ ι.x)).Perm (D :: as ++ [q] ++ ι.x)
          rw [List.append_assoc]
          exact (List.perm_middle (a := q) (l₁ := D :: as) (l₂ := ι.x)).symm
        have ok6 : StOk ⟨ι.c, (D :: (as ++ [q])) ++ ι.x⟩ S3 H5 := by
          have := ok5.perm (c := ι'.c) pm
          rw [ιc] at this
          exact this
        have mem6 : ∀ a, a ∈ (Foot.mk ι.c ((D :: (as ++ [q])) ++ ι.x)).all → a = q ∨ a ∈ ι'.all := fun a ha => by
          unfold Foot.all at ha ⊢
          rw [ιc]
          rcases List.mem_append.mp ha with z | z
          · exact .inr (List.mem_append_left _ z)
          · rcases List.mem_cons.mp (pm.mem_iff.mpr z) with z | z
            · exact .inl z
            · exact .inr (List.mem_append_right _ z)
        have Dx : D ∈ (D :: (as ++ [q])) ++ ι.x := List.mem_cons_self
        have Da : D ∈ (Foot.mk ι.c ((D :: (as ++ [q])) ++ ι.x)).all := List.mem_append_right _ Dx
        rw [List.nodup_cons] at cn
        have DnA : D ∉ as ++ [q] := fun z => (List.mem_append.mp z).elim cn.1 fun z => hqD (by simp at z; rw [← z]; exact List.mem_cons_self)
        refine ⟨S3, ps ++ [.lst xs], ps'', as ++ [q], rows ++ [xs], f3, by rw [c2]; simp, allLst_snoc c2r, by simp [c2l], by rw [List.map_append]; exact upd_same, ?_, ?_, ?_, ok6.updX Dx _, ?_, ?_, ?_⟩
        · rw [List.nodup_cons]
          refine ⟨DnA, ?_⟩
          rw [List.nodup_append]
          exact ⟨cn.2, by simp, fun a ha b hb => by simp at hb; subst hb; exact fun z => hqD (List.mem_cons_of_mem _ (z ▸ ha))⟩
        · intro a ha
          rcases List.mem_cons.mp ha with rfl | ha
          · exact hD
          · rcases List.mem_append.mp ha with ha | ha
            · exact cf a (List.mem_cons_of_mem _ ha)
            · simp at ha; subst ha; exact hq1
        · have rr : RowsOk (Foot.mk ι.c ((D :: (as ++ [q])) ++ ι.x)).all H5 (as ++ [q]) (rows ++ [xs]) := by
            refine RowsOk.snoc hq5 hz5 (r5.mono (fun a o e _ => e) fun a ha => .inl ?_) (c4.mono (fun a o e hn => p35.keep a o e ?_) fun a ha => ?_)
            · rcases mem6 a ha with z | z
              · subst z
                exact List.mem_append_right _ List.mem_cons_self
              · unfold Foot.all at z ⊢
                rcases List.mem_append.mp z with z | z
                · exact List.mem_append_left _ z
                · exact List.mem_append_right _ (List.mem_cons_of_mem _ z)
            · rcases hn with hn | hn
              · exact nocell a (List.mem_cons_of_mem _ hn)
              · exact Foot.sub hn
            · rcases mem6 a ha with z | z
              · right
                subst z
                cases e : H2 a with
                | none => rfl
                | some o =>
                  by_cases z : a ∈ ι'.c.flatten
                  · obtain ⟨o', e'⟩ := p3.ok.thereC z
                    rw [hq] at e'; cases e'
                  · have := p3.keep a o e z
                    rw [hq] at this; cases this
              · exact .inl z
          refine rr.mono (fun a o e hn => ?_) fun a ha => .inl ha
          rw [upd_ne fun z => ?_]
          · exact e
          · subst z
            rcases hn with hn | hn
            · exact DnA hn
            · exact hn Da
        · intro a o e hn
          rw [upd_ne (ne_of_none e hD)]
          exact p35.keep a o (c6 a o e hn) (by rw [ιc]; exact hn)
        · refine ⟨fun a o e hn => ?_, fun a ha => ?_⟩
          · rw [upd_ne (ne_of_none e hD)]
            exact (c7.trans p35.keeps).keep a o e hn
          · rcases mem6 a ha with z | z
            · exact .inr (z ▸ hq1)
            · exact c7.new a z
        · intro k e
          rw [still_view f2 k e]
          exact c8 k e
end
end G9

/-! text E14d -/
/-! G9.E14d: dicts whose keys are pairs of ints: d[k] = True, sorted(d). -/
namespace G9
open PySem PySem.Spec PyProof.Rows L2
section
variable {prog : Program} {w : World} {A : Around} {E : Value → Shared → Prop} {s : Shared} {r d : Addr} {n : Nat} {T : String} {Pv : Nat → Value → Prop} {OK : Heap → Prop}
theorem collect_kdl {Q : List Value → Shared → Prop} (K : PySem.W.KdlSrc prog w T r d n Pv OK) (hh : A.handled = none) (hok : OK s.heap) (hn : n ≤ sizeLine)
    (hQ : ∀ (h' : Heap) (tk : Nat) (acc : Array Value), (∀ b o, s.heap.get? b = some o → h'.get? b = some o) → s.heap.objs.size < h'.objs.size → ItemsOf Pv acc n → Q acc.toList { s with heap := h', toks := tk }) :
    wpAny (model prog w) A (collect (.ref r)) Q E s := by
  unfold collect
  refine wpAny_bind (wpAny_runValue (codeAny_builtin F.entry_proto_collect ?_))
  rw [Around.under_plainId F.plain_proto_collect _]
  show wpAny _ A.in1 (newList [] >>= fun l => again (.builtin "list.__iadd__" ⟨[l, .ref r], []⟩)) _ _ s
  refine wpAny_bind (wpAny_newObj_type ?_)
  refine wpAny_pure ⟨plainId_quiet F.plain_list_iadd _, codeAny_builtin F.entry_list_iadd ?_⟩
  rw [Around.under_plainId F.plain_list_iadd _]
  show wpAny _ A.in1 (Builtin.List.listExtendWith (.ref s.heap.objs.size) (.ref r) (.ref s.heap.objs.size)) _ _ _
  have hS : (s.heap.push { cls := .type "list", data := .seq ([] : List Value).toArray }).get? s.heap.objs.size = some { cls := .type "list", data := .seq #[] 0 } := Heap.get?_push_size _ rfl
  obtain ⟨l1, l2⟩ := K.there _ hok
  refine wpAny_mono (PySem.W.kdl_extend (A := A) (R := fun rr s' => rr = .ok (.ret (.ref s.heap.objs.size)) ∧ ∃ (h' : Heap) (tk : Nat) (acc : Array Value) (c' : Nat), s' = { s with heap := h', toks := tk } ∧
      (∀ b o, s.heap.get? b = some o → h'.get? b = some o) ∧ h'.get? s.heap.objs.size = some { cls := .type "list", dict := none, data := .seq acc c', slots := #[] } ∧ ItemsOf Pv acc n)
    (s := { s with heap := s.heap.push { cls := .type "list", data := .seq ([] : List Value).toArray } }) K hh (K.keep _ _ hok fun b _ o e => Heap.get?_push_of_some _ e) s.heap.objs.size (Nat.ne_of_gt l1) (Nat.ne_of_gt l2) _ 0 hS
    (fun h' tk acc c' hk e hi => ⟨rfl, h', tk, acc, c', rfl, fun b o q => hk b o (Nat.ne_of_lt (Heap.lt_size q)) (Heap.get?_push_of_some _ q), e, hi⟩) hn) (fun fin s' h => ?_) (fun e s' h => ?_)
  · cases fin with
    | done f =>
      obtain ⟨e, h', tk, acc, c', rfl, hk, hS', hi⟩ := h
      cases e
      show wpAny _ A (load s.heap.objs.size >>= _) _ _ _
      exact wpAny_bind (wpAny_load hS' (wpAny_pure (hQ h' tk acc hk (Heap.lt_size hS') hi)))
    | again c' =>
      refine ⟨h.1, codeAny_mono h.2 fun rr s'' hr' => ?_⟩
      obtain ⟨rfl, h', tk, acc, c', rfl, hk, hS', hi⟩ := hr'
      show wpAny _ A (load s.heap.objs.size >>= _) _ _ _
      exact wpAny_bind (wpAny_load hS' (wpAny_pure (hQ h' tk acc hk (Heap.lt_size hS') hi)))
  · exact absurd h.1 (by simp)
open SrtO in
theorem sorted_kdl {ltv : Value → Value → Bool} {Q : Value → Shared → Prop} (O : SrtO.Swo ltv) (K : PySem.W.KdlSrc prog w T r d n Pv OK) (hh : A.handled = none) (hok : OK s.heap) (hn : n ≤ sizeLine)
    (h : ∀ (h' : Heap) (tk : Nat) (acc : Array Value), (∀ b o, s.heap.get? b = some o → h'.get? b = some o) → ItemsOf Pv acc n →
      (2 ≤ acc.toList.length → ∀ (h₁ : Heap) (a : Addr), h₁.get? a = some (seqObj "list" acc.toList.toArray 0) → (∀ b o, h'.get? b = some o → b ≠ a ∧ h₁.get? b = some o) → SrtO.SortableO prog w A.in1.in1 { s with heap := h₁, toks := tk } a acc.toList ltv) ∧
      ∀ (h2 : Heap) (d : Addr) (out : List Value), SrtO.Srtd ltv out → SrtO.Stb ltv out acc.toList → (∀ b o, s.heap.get? b = some o → h2.get? b = some o) → s.heap.objs.size ≤ d → (∃ n, h2.get? d = some (seqObj "list" out.toArray n)) → Q (.ref d) { s with heap := h2, toks := tk }) :
    wpAny (model prog w) A (call (.builtin "sorted") [.ref r]) Q E s := by
  refine Calls.call_function_entry kind_sorted plain_sorted entry_sorted (args_sorted1 _) ?_
  unfold Builtin.«sorted»
  refine wpAny_bind (m := checkCount "sorted" 1 1 _) (wpAny_pure ?_)
  refine wpAny_bind (collect_kdl (A := A.in1) K hh hok hn fun h' tk acc hk hgt hi => ?_)
  have hz : acc.toList.length ≤ sizeLine := by rw [Array.length_toList, hi.1]; exact hn
  refine wpAny_bind (wpAny_newList ?_ hz)
  obtain ⟨hS, hq⟩ := h h' tk acc hk hi
  have hoL : (h'.push (seqObj "list" acc.toList.toArray 0)).get? h'.objs.size = some (seqObj "list" acc.toList.toArray 0) := Heap.get?_push_size _ rfl
  have keep : ∀ b o, h'.get? b = some o → b ≠ h'.objs.size ∧ (h'.push (seqObj "list" acc.toList.toArray 0)).get? b = some o := fun b o q => ⟨Nat.ne_of_lt (Heap.lt_size q), Heap.get?_push_of_some _ q⟩
  refine wpAny_bind (wpAny_holding (wpAny_call_entry slot_list_sort ⟨_, hoL, rfl⟩ entry_list_sort (SrtO.list_sort_ord O hoL hz (fun h2 => hS h2 _ _ hoL keep) fun out hs hb => ⟨_, rfl, ?_⟩) (args_list_sort _)))
  refine wpAny_pure ⟨_, rfl, hq _ _ out hs hb (fun b o e => ?_) ?_ ?_⟩
  · have e1 := hk b o e
    rw [sortedHeap_old (Nat.ne_of_lt (Heap.lt_size e1)) (by show b < (h'.push _).objs.size; rw [Heap.size_push]; exact Nat.lt_succ_of_lt (Heap.lt_size e1))]
    exact Heap.get?_push_of_some _ e1
  · exact Nat.le_of_lt hgt
  · exact sortedHeap_at hoL
end
theorem pgetG {α β : Type} {F : α → β → Prop} : ∀ {l₁ : List α} {l₂ : List β} {j : Nat} {x : β}, Paired F l₁ l₂ → l₂[j]? = some x → ∃ y, l₁[j]? = some y ∧ F y x
  | _, _, _, _, .nil, h => by simp at h
  | _, _, 0, _, .cons f _, h => by
    simp only [List.getElem?_cons_zero, Option.some.injEq] at h
    subst h
    exact ⟨_, rfl, f⟩
  | _, _, j + 1, _, .cons _ t, h => by
    simp only [List.getElem?_cons_succ] at h
    obtain ⟨y, h1, h2⟩ := pgetG t h
    exact ⟨y, by simpa using h1, h2⟩
/-- sorted(d): the keys, in order -/
def rSortedD : List V → Hp → VK → Prop := fun vs H Q => ∃ (d : Addr) (kvs : List (List L2.Key × V)) (ks : List (Int × Int)), vs = [V.ref d] ∧ H d = some (.dT kvs) ∧ kvs.map (·.1) = ks.map keyP ∧
  ∀ (bs : List Addr) ys p, bs.length = ks.length → (∀ (j : Nat) (b : Addr) (q : Int × Int), bs[j]? = some b → ks[j]? = some q → H b = some (.tup [.int q.1, .int q.2])) → SrtO.Srtd (L2.ltP (key2 H)) ys → SrtO.Stb (L2.ltP (key2 H)) ys (bs.map V.ref) → H p = none → Q (.ref p) (upd H p (.lst ys))
theorem cr_sortedD {X : Cx} (hc : X.calm = true) : CallR X (.builtin "sorted") rSortedD := by
  intro pins s σ H vs us Q I r h
  obtain ⟨d, kvs, ks, rfl, hd, hk, q⟩ := h
  obtain ⟨u, rfl, ru⟩ := r.one
  cases ru
  obtain ⟨z, hsm, xs, pr, o, es, ep, ho, hx, hdt, he, hn⟩ := (show ObjOk X.prog X.w H s.heap d (.dT kvs) from I.hok d _ hd)
  have l1 : es.size = xs.length := size_of_entries he
  have l2 : kvs.length = xs.length := Paired.length pr
  have l3 : kvs.length = ks.length := by have := congrArg List.length hk; simpa using this
  -- the keys' addresses
  have hb : ∀ (j : Nat) (b : Addr) (q : Int × Int), (xs.map fun x => x.2.1)[j]? = some b → ks[j]? = some q → H b = some (.tup [.int q.1, .int q.2]) := fun j b q e1 e2 => by
    rw [List.getElem?_map] at e1
    cases ex : xs[j]? with
    | none => rw [ex] at e1; cases e1
    | some x =>
      rw [ex] at e1
      cases e1
      obtain ⟨y, ey, f1, f2, f3⟩ := pgetG pr ex
      have e3 : (kvs.map (·.1))[j]? = (ks.map keyP)[j]? := by rw [hk]
      rw [List.getElem?_map, List.getElem?_map, ey, e2] at e3
      have e4 : y.1 = keyP q := Option.some.inj e3
      rw [f2, e4]
      rfl
  have hlb : (xs.map fun x => x.2.1).length = ks.length := by rw [List.length_map]; omega
  refine sorted_kdl (SrtO.swo_lex (fun u => key2 H (backV u))) (kdl_raw hsm hx hdt) (I.ok.hd hc) ho (by omega) fun h' tk acc kp it => ?_
  have ea : acc.toList = (xs.map fun x => x.2.1).map Value.ref := by
    have hl : acc.toList.length = xs.length := by rw [Array.length_toList, it.1]; exact l1
    apply List.ext_getElem?
    intro j
    rw [List.getElem?_map, List.getElem?_map]
    cases hj : acc.toList[j]? with
    | none =>
      have h1 := List.getElem?_eq_none_iff.mp hj
      rw [List.getElem?_eq_none (by omega)]
      rfl
    | some v =>
      obtain ⟨en, hen, hv⟩ := it.2 j v (by rw [← Array.getElem?_toList]; exact hj)
      have qe := entry_at he j
      rw [hen] at qe
      cases hbj : xs[j]? with
      | none =>
        rw [hbj] at qe
        exact nomatch (show some en = none from qe)
      | some b =>
        rw [hbj] at qe
        have e2 : en = entryOfKey (tupleKind (mixKind X.prog X.w)) b := Option.some.inj qe
        rw [hv, e2]
        rfl
  have pair : ∀ v ∈ acc.toList, ∃ t q, v = Value.ref t ∧ key2 H (backV v) = q ∧ H t = some (.tup [.int q.1, .int q.2]) := fun v hv => by
    rw [ea] at hv
    obtain ⟨t, ht, rfl⟩ := List.mem_map.mp hv
    obtain ⟨j, hj⟩ := List.mem_iff_getElem?.mp ht
    have hjl : j < ks.length := by rw [← hlb]; exact (List.getElem?_eq_some_iff.mp hj).1
    have e := hb j t ks[j] hj (List.getElem?_eq_getElem hjl)
    exact ⟨t, ks[j], rfl, key2_eq rfl e, e⟩
  refine ⟨fun h2 h₁ a ha kk => ?_, fun h2 p out hs hst kp2 hp hn' => ?_⟩
  · refine SrtO.pairs_sortableO (s := { s with heap := h₁, toks := tk }) (by omega) (fun v hv => ?_) fun o e => ?_
    · obtain ⟨t, qq, rfl, e1, e2⟩ := pair v hv
      rw [e1]
      obtain ⟨_, its2, r2, o2, ho2, hc2, n2, hd2⟩ := I.hok _ _ e2
      obtain ⟨u1, u2, rfl, ri, rj⟩ := vals2 r2
      obtain ⟨t1, rfl⟩ := ri
      obtain ⟨t2, rfl⟩ := rj
      exact ⟨t, o2, t1, t2, n2, rfl, (kk _ _ (kp _ _ ho2)).2, hc2, hd2⟩
    · have e' : some o = some (seqObj "list" acc.toList.toArray 0) := e.symm.trans ha
      cases e'
      intro c
      exact absurd (Value.type.inj c) (by decide)
  · have e2 : ∀ u ∈ acc.toList, ∃ a, u = Value.ref a := fun u hu => by
      obtain ⟨t, _, e, _⟩ := pair u hu
      exact ⟨t, e⟩
    have h3 : ∀ u ∈ out, ∃ a, u = Value.ref a := fun u hu => e2 u (hst.perm.mem_iff.mp hu)
    obtain ⟨m, hn'⟩ := hn'
    have em : acc.toList.map backV = (xs.map fun x => x.2.1).map V.ref := by
      rw [ea, List.map_map]
      rfl
    have hb2 : SrtO.Stb (L2.ltP (key2 H)) (out.map backV) ((xs.map fun x => x.2.1).map V.ref) := by
      rw [← em]
      exact SrtO.Stb.map (L2.ltP_swo (key2 H)) backV hst
    refine ⟨.ref p, upd H p (.lst (out.map backV)), I.laid (t' := tk) kp2 hp ⟨?_, out, m, vals_back h3, hn'⟩, rfl, q (xs.map fun x => x.2.1) _ p hlb hb (SrtO.srtd_map hs) hb2 (I.hok.fresh hp)⟩
    rw [hb2.len, List.length_map, List.length_map]
    omega
section
variable {T : Tb} {F : FS} {n : Nat} {E : XK} {ι ι1 : Foot} {H H1 : Hp} {S S1 : Store} {ρ : G9.Env} {σ : L2.St} {Ds : Ends} {Q : VK}
theorem rps_keys {ks : List (Int × Int)} {bs : List Addr} (hs : StOk ι S H) (hl : bs.length = ks.length) (h : ∀ (j : Nat) (b : Addr) (q : Int × Int), bs[j]? = some b → ks[j]? = some q → H b = some (.tup [.int q.1, .int q.2])) : RpPs ι.all H (bs.map V.ref) (ks.map pairP) := by
  induction bs generalizing ks with
  | nil =>
    cases ks with
    | nil => exact .nil
    | cons q r => simp at hl
  | cons b r ih =>
    cases ks with
    | nil => simp at hl
    | cons q l =>
      have e := h 0 b q rfl rfl
      refine .cons (.tup e (hs.noTup e) (by show 2 ≤ sizeLine; decide) (.cons (.int _) (.cons (.int _) .nil))) (ih (by simpa using hl) fun j b' q' e1 e2 => h (j + 1) b' q' (by simpa using e1) (by simpa using e2))
theorem kindT_pairs (ks : List (Int × Int)) : (ks.map pairP).all kindT = true := by
  induction ks with
  | nil => rfl
  | cons q r ih =>
    rw [List.map_cons, List.all_cons, ih]
    rfl
theorem s_keys {X : Cx} {a : G9.E} {ea : Expr} {p pos : Pos} (hc : X.calm = true) (hg : Gl X "sorted") (hm : X.mg "sorted" = none) (ha : PE X ea (tE T F a E)) (hs' : starEach [ea] X.env = (false, eval ea X.env) :: starEach [] X.env) : PE X (.Call (.Name "sorted" p) [ea] [] pos) (tE T F (.keys a) E) := by
  refine (pe_callB (cr_sortedD hc) hg hm (by decide +kernel) (pa_cons ha pa_nil hs') (by decide) (by decide) hs' rfl).weak fun σ H Q ⟨ρ, S, ι, he, hs, h⟩ => ?_
  unfold evE at h
  refine tE_bind he hs h fun d1 S1 v1 H1 p1 r1 he1 q1 => ?_
  split at q1
  · rename_i k
    split at q1
    · rename_i ks e
      split at q1
      · rename_i hl
        obtain ⟨ad, kvs, rfl, g1, g2, g3⟩ := r1.dcell p1.ok e
        refine ⟨ad, kvs, ks, rfl, g2, g3, fun bs ys pp hb hbs h1 h2 hn => ?_⟩
        have rr := rps_keys p1.ok hb hbs
        have c2 := kindT_pairs ks
        have es := sorted_is (L2.ltP_swo (key2 H1)) h1 h2
        refine q1.newL p1.ok ?_ (by rw [h2.perm.length_eq, List.length_map, hb, sizeLine_eq]; omega) hn
        rw [es]
        refine rr.sortG fun u v y x hy hx ru rv => ?_
        obtain ⟨i, j, rfl, k1⟩ := kindT_key (List.all_eq_true.mp c2 _ hy) ru
        obtain ⟨i', j', rfl, k2⟩ := kindT_key (List.all_eq_true.mp c2 _ hx) rv
        rw [ltP_pair]
        show SrtO.lexB (key2 H1 u) (key2 H1 v) = _
        rw [k1, k2]
      · exact q1.elim
    · exact q1.elim
  · exact q1.elim
theorem keyP_inj {p q : Int × Int} : keyP p = keyP q ↔ p = q := by
  obtain ⟨a, b⟩ := p
  obtain ⟨c, d⟩ := q
  unfold keyP
  simp
theorem put_keys {kvs : List (List L2.Key × V)} {ks : List (Int × Int)} {q : Int × Int} {v : V} (h : kvs.map (·.1) = ks.map keyP) : (putK kvs (keyP q) v).map (·.1) = (putD ks q).map keyP := by
  have e : (kvs.any fun kv => decide (kv.1 = keyP q)) = (ks.any fun k => decide (k = q)) := by
    have e1 : (kvs.any fun kv => decide (kv.1 = keyP q)) = ((kvs.map (·.1)).any fun k => decide (k = keyP q)) := by rw [List.any_map]; rfl
    rw [e1, h, List.any_map]
    congr 1
    funext k
    simp only [Function.comp, keyP_inj]
  unfold putK putD
  rw [e]
  by_cases c : (ks.any fun k => decide (k = q)) = true
  · rw [if_pos c, if_pos c, ← h, List.map_map]
    congr 1
    funext kv
    simp only [Function.comp]
    split <;> rfl
  · rw [if_neg c, if_neg c, List.map_append, List.map_append, h]
    rfl
theorem ss_setk {o e : G9.E} : ∀ D σ H, tS T F n (.setk o e) E D σ H → tAsg (tC (.bl true)) (gSub (tE T F o E) (tE T F e E) rSetD) D σ H := fun D σ H ⟨ρ, S, ι, he, hs, h⟩ => by
  unfold evS at h
  show tE T F o E σ H _
  refine tE_then he hs h fun d1 S1 v1 H1 p1 r1 he1 h1 => tE_then he1 p1.ok h1 fun d2 S2 v2 H2 p2 r2 he2 h2 => ?_
  split at h2
  · rename_i k a b
    split at h2
    · rename_i ks ek
      split at h2
      · rename_i hl
        rw [lim_eq] at hl
        obtain ⟨ad, kvs, rfl, g1, g2, g3⟩ := (r1.post p2).dcell p2.ok ek
        obtain ⟨b2, us, rfl, c1, c2, c3, c4⟩ := r2.tup
        have eu : us = [.int a, .int b] := by
          cases c4 with
          | cons x1 t1 =>
            cases t1 with
            | cons x2 t2 =>
              cases t2
              cases x1
              cases x2
              rfl
        subst eu
        have l3 : kvs.length = ks.length := by have := congrArg List.length g3; simpa using this
        refine ⟨ad, _, rfl, DPut.t (k := keyP (a, b)) (v := .bl true) g2 c1 (by omega), ?_⟩
        have pc := Post.cellU (o := .dT (putK kvs (keyP (a, b)) (.bl true))) (c := .dct (putD ks (a, b))) p2.ok g1 (by simp) (.dct upd_same (put_keys g3))
        exact h2 _ _ _ pc.toS (he2.post pc)
      · exact h2.elim
    · exact h2.elim
  · exact h2.elim
end
end G9

/-! text E15 -/
/-! G9.E15: an expression of the text and one of the small language: a check that they are one, and what it is worth. -/
namespace G9
open PySem PySem.Spec PyProof.Rows L2

/-! ### what a check looks at -/
inductive Gv where
  | int (i : Int) | fn (f : Nat) (fr : Bool) | cls (c : Nat) | blt
structure Ck where
  N : List Str
  sc : Scope
  bk : Option Scope
  g : List (Str × Gv)
def asName : Expr → Option Str
  | .Name x _ => some x
  | _ => none
theorem asName_eq {e : Expr} {x : Str} (h : asName e = some x) : ∃ p, e = .Name x p := by cases e <;> simp [asName] at h; exact ⟨_, by rw [h]⟩
def asConst : Expr → Option Const
  | .Constant c _ _ => some c
  | _ => none
theorem asConst_eq {e : Expr} {x : Const} (h : asConst e = some x) : ∃ j p, e = .Constant x j p := by cases e <;> simp [asConst] at h; exact ⟨_, _, by rw [h]⟩
def asBin : Expr → Option (Expr × Operator × Expr)
  | .BinOp a o b _ => some (a, o, b)
  | _ => none
theorem asBin_eq {e a b : Expr} {o : Operator} (h : asBin e = some (a, o, b)) : ∃ p, e = .BinOp a o b p := by cases e <;> simp [asBin] at h; obtain ⟨rfl, rfl, rfl⟩ := h; exact ⟨_, rfl⟩
def asCmp : Expr → Option (Expr × CmpOp × Expr)
  | .Compare a [o] [b] _ => some (a, o, b)
  | _ => none
theorem asCmp_eq {e a b : Expr} {o : CmpOp} (h : asCmp e = some (a, o, b)) : ∃ p, e = .Compare a [o] [b] p := by
  unfold asCmp at h
  split at h
  · cases h; exact ⟨_, rfl⟩
  · cases h
def asChain : Expr → Option (Expr × CmpOp × CmpOp × Expr × Expr)
  | .Compare a [o, o'] [b, c] _ => some (a, o, o', b, c)
  | _ => none
theorem asChain_eq {e a b c : Expr} {o o' : CmpOp} (h : asChain e = some (a, o, o', b, c)) : ∃ p, e = .Compare a [o, o'] [b, c] p := by
  unfold asChain at h
  split at h
  · cases h; exact ⟨_, rfl⟩
  · cases h
def asBool : Expr → Option (BoolOp × Expr × Expr × List Expr × Pos)
  | .BoolOp o (a :: b :: r) p => some (o, a, b, r, p)
  | _ => none
theorem asBool_eq {e a b : Expr} {r : List Expr} {o : BoolOp} {p : Pos} (h : asBool e = some (o, a, b, r, p)) : e = .BoolOp o (a :: b :: r) p := by
  unfold asBool at h
  split at h
  · cases h; rfl
  · cases h
def asUn : Expr → Option (UnaryOp × Expr)
  | .UnaryOp o a _ => some (o, a)
  | _ => none
theorem asUn_eq {e a : Expr} {o : UnaryOp} (h : asUn e = some (o, a)) : ∃ p, e = .UnaryOp o a p := by cases e <;> simp [asUn] at h; obtain ⟨rfl, rfl⟩ := h; exact ⟨_, rfl⟩
def asIf : Expr → Option (Expr × Expr × Expr)
  | .IfExp t a b _ => some (t, a, b)
  | _ => none
theorem asIf_eq {e t a b : Expr} (h : asIf e = some (t, a, b)) : ∃ p, e = .IfExp t a b p := by cases e <;> simp [asIf] at h; obtain ⟨rfl, rfl, rfl⟩ := h; exact ⟨_, rfl⟩
def asCall : Expr → Option (Str × List Expr)
  | .Call (.Name x _) es [] _ => some (x, es)
  | _ => none
theorem asCall_eq {e : Expr} {x : Str} {es : List Expr} (h : asCall e = some (x, es)) : ∃ p q, e = .Call (.Name x p) es [] q := by
  unfold asCall at h
  split at h
  · cases h; exact ⟨_, _, rfl⟩
  · cases h
def asSub : Expr → Option (Expr × Expr)
  | .Subscript a b _ => some (a, b)
  | _ => none
theorem asSub_eq {e a b : Expr} (h : asSub e = some (a, b)) : ∃ p, e = .Subscript a b p := by cases e <;> simp [asSub] at h; obtain ⟨rfl, rfl⟩ := h; exact ⟨_, rfl⟩
def asSlice : Expr → Option (Option Expr × Option Expr × Option Expr)
  | .Slice a b c _ => some (a, b, c)
  | _ => none
theorem asSlice_eq {e : Expr} {a b c : Option Expr} (h : asSlice e = some (a, b, c)) : ∃ p, e = .Slice a b c p := by cases e <;> simp [asSlice] at h; obtain ⟨rfl, rfl, rfl⟩ := h; exact ⟨_, rfl⟩
def asTup : Expr → Option (List Expr)
  | .Tuple es _ _ => some es
  | _ => none
theorem asTup_eq {e : Expr} {es : List Expr} (h : asTup e = some es) : ∃ k p, e = .Tuple es k p := by cases e <;> simp [asTup] at h; subst h; exact ⟨_, _, rfl⟩
def asLst : Expr → Option (List Expr)
  | .List es _ => some es
  | _ => none
theorem asLst_eq {e : Expr} {es : List Expr} (h : asLst e = some es) : ∃ p, e = .List es p := by cases e <;> simp [asLst] at h; subst h; exact ⟨_, rfl⟩
def asLc : Expr → Option (Expr × Expr × Expr × List Expr × Scope)
  | .ListComp e [⟨t, i, ifs, 0⟩] sc _ => some (e, t, i, ifs, sc)
  | _ => none
theorem asLc_eq {e e1 t i : Expr} {ifs : List Expr} {sc : Scope} (h : asLc e = some (e1, t, i, ifs, sc)) : ∃ p, e = .ListComp e1 [⟨t, i, ifs, 0⟩] sc p := by
  unfold asLc at h
  split at h
  · cases h; exact ⟨_, rfl⟩
  · cases h
def notStar : Expr → Bool
  | .Starred .. => false
  | _ => true
def notSet : Expr → Bool
  | .Set .. => false
  | _ => true
def notSlice : Expr → Bool
  | .Slice .. => false
  | _ => true
theorem star_cons {e : Expr} {es : List Expr} {env : PySem.Env} (h : notStar e = true) : starEach (e :: es) env = (false, eval e env) :: starEach es env := by
  cases e <;> first | rfl | cases h
theorem star_all {pos : Pos} {env : PySem.Env} : ∀ {es : List Expr}, es.all notStar = true → (backTo pos (starEach es env)).any (·.1) = false
  | [], _ => rfl
  | e :: es, h => by
    simp only [List.all_cons, Bool.and_eq_true] at h
    rw [star_cons h.1]
    show (false || (backTo pos (starEach es env)).any (·.1)) = false
    rw [star_all h.2]; rfl
theorem behind_no {op : CmpOp} {e : Expr} (h : notSet e = true) : behindInMarks op e = false := by cases e <;> first | rfl | cases h
theorem folded_no {e : Expr} {env : PySem.Env} {x : Value} (h : notSet e = true) : foldedSetIterable e env x = pure x := by cases e <;> first | rfl | cases h
theorem plainIx_of {e : Expr} (h : notSlice e = true) : PlainIx e := fun o i => by cases e <;> first | rfl | cases h

/-! ### the check -/
def noDb (x : Str) : Bool := !(x == ("__debug__" : Str)) && !(x == ("__classdict__" : Str)) && !(x == ("__name__" : Str))
def visB (sc : Scope) (x : Str) : Bool := match sc.names.lookup x with
  | some .local => true
  | some .cell => true
  | some .free => true
  | _ => false
def locB (Γ : Ck) (x : Str) : Bool := match Γ.sc.names.lookup x with
  | some .local => true
  | some .cell => (match Γ.bk with
    | none => true
    | some s => (match s.names.lookup x with
      | some .cell => true
      | _ => false))
  | _ => false
def glB (Γ : Ck) (x : Str) : Bool := (match Γ.sc.names.lookup x with
  | some .globalImplicit => true
  | _ => false) && noDb x
def bltB (Γ : Ck) (x : Str) : Bool := glB Γ x && (match Γ.g.lookup x with
  | some .blt => true
  | _ => false)
def nmB (Γ : Ck) (i : Nat) (x y : Str) : Bool := x == y && (match Γ.N[i]? with
  | some z => z == x
  | none => false)
def biN : Bi → Str
  | .len => "len" | .sum => "sum" | .max => "max" | .min => "min" | .all => "all" | .any => "any" | .sorted => "sorted" | .tuple => "tuple" | .list => "list" | .int => "int" | .lenset => "" | .rev => ""
def ckTgs (Γ : Ck) : List (Nat × Str) → List Expr → Bool
  | [], [] => true
  | (i, x) :: r, e :: es => (match asName e with
    | some y => nmB Γ i x y && locB Γ x
    | none => false) && ckTgs Γ r es
  | _, _ => false
def ckTg (Γ : Ck) (tg : Tg) (e : Expr) : Bool := match tg with
  | .nm i x => (match asName e with
    | some y => nmB Γ i x y && locB Γ x
    | none => false)
  | .tp xs => (match asTup e with
    | some es => ckTgs Γ xs es
    | none => false)
/-- may stand as a test -/
def tst : G9.E → Bool
  | .v .. => true
  | .bl .. => true
  | .cmp .. => true
  | .chain .. => true
  | .and a b => tst a && tst b
  | .or a b => tst a && tst b
  | .not a => tst a
  | .ite _ a b => tst a && tst b
  | .call .. => true
  | .bi .all _ => true
  | .bi .any _ => true
  | .isin .. => true
  | .idx .. => true
  | _ => false
def Ck.blk (Γ : Ck) (scope : Scope) : Ck := { Γ with sc := relS scope Γ.sc, bk := some scope }
mutual
def ckE (Γ : Ck) : G9.E → Expr → Bool
  | .v i x, e => match asName e with
    | some y => nmB Γ i x y && visB Γ.sc x && noDb x
    | none => false
  | .int i, e => match asConst e with
    | some (.int j) => i == j
    | _ => false
  | .bl i, e => match asConst e with
    | some (.bool j) => i == j
    | _ => false
  | .non, e => match asConst e with
    | some .none => true
    | _ => false
  | .str i, e => match asConst e with
    | some (.str j) => i == j
    | _ => false
  | .g x i, e => match asName e, Γ.g.lookup x with
    | some y, some (.int j) => x == y && glB Γ x && i == j
    | _, _ => false
  | .gf x f, e => match asName e, Γ.g.lookup x with
    | some y, some (.fn f' _) => x == y && glB Γ x && f == f'
    | _, _ => false
  | .bin op a b, e => match asBin e with
    | some (ea, o, eb) => decide (o = opOf op) && ckE Γ a ea && ckE Γ b eb
    | none => false
  | .cmp c a b, e => match asCmp e with
    | some (ea, o, eb) => decide (o = cmOf c) && notSet eb && ckE Γ a ea && ckE Γ b eb
    | none => false
  | .chain c c' a b d, e => match asChain e with
    | some (ea, o, o', eb, ed) => decide (o = cmOf c) && decide (o' = cmOf c') && notSet ed && ckE Γ a ea && ckE Γ b eb && ckE Γ d ed
    | none => false
  | .and a b, e => match asBool e with
    | some (.And, ea, eb, [], _) => tst a && ckE Γ a ea && ckE Γ b eb
    | some (.And, ea, eb, r, p) => tst a && tst b && ckE Γ a ea && ckE Γ b (.BoolOp .And (eb :: r) p)
    | _ => false
  | .or a b, e => match asBool e with
    | some (.Or, ea, eb, [], _) => tst a && ckE Γ a ea && ckE Γ b eb
    | some (.Or, ea, eb, r, p) => tst a && tst b && ckE Γ a ea && ckE Γ b (.BoolOp .Or (eb :: r) p)
    | _ => false
  | .not a, e => match asUn e with
    | some (.Not, ea) => tst a && ckE Γ a ea
    | _ => false
  | .neg a, e => match asUn e with
    | some (.USub, ea) => ckE Γ a ea
    | _ => false
  | .ite t a b, e => match asIf e with
    | some (et, ea, eb) => tst t && ckE Γ t et && ckE Γ a ea && ckE Γ b eb
    | none => false
  | .call x f as, e => match asCall e, Γ.g.lookup x with
    | some (y, es), some (.fn f' false) => x == y && glB Γ x && f == f' && ckEs Γ as es
    | _, _ => false
  | .callv _ _ _, _ => false
  | .bi b a, e => match b with
    | .lenset => (match asCall e with
      | some (x, [e1]) => (match asCall e1 with
        | some (y, [ea]) => x == "len" && y == "set" && bltB Γ "len" && bltB Γ "set" && notStar ea && ckE Γ a ea
        | _ => false)
      | _ => false)
    | .rev => (match asSub e with
      | some (ea, s) => (match asSlice s with
        | some (none, none, some st) => (match asUn st with
          | some (.USub, o) => (match asConst o with
            | some (.int 1) => ckE Γ a ea
            | _ => false)
          | _ => false)
        | _ => false)
      | _ => false)
    | b => (match asCall e with
      | some (x, [ea]) => x == biN b && bltB Γ x && notStar ea && ckE Γ a ea
      | _ => false)
  | .max2 a b, e => match asCall e with
    | some (x, [ea, eb]) => x == "max" && bltB Γ "max" && notStar ea && notStar eb && ckE Γ a ea && ckE Γ b eb
    | _ => false
  | .min2 a b, e => match asCall e with
    | some (x, [ea, eb]) => x == "min" && bltB Γ "min" && notStar ea && notStar eb && ckE Γ a ea && ckE Γ b eb
    | _ => false
  | .isin a t, e => match asCall e with
    | some (x, [ea, eb]) => (match asName eb with
      | some y => x == "isinstance" && bltB Γ "isinstance" && y == Str.ofString (tyS t) && bltB Γ y && notStar ea && ckE Γ a ea
      | none => false)
    | _ => false
  | .idx a i, e => match asSub e with
    | some (ea, ei) => notSlice ei && ckE Γ a ea && ckE Γ i ei
    | none => false
  | .sl a lo hi, e => match asSub e with
    | some (ea, s) => (match asSlice s with
      | some (l, h, none) => ckE Γ a ea && ckO Γ lo l && ckO Γ hi h
      | _ => false)
    | none => false
  | .tup es, e => match asTup e with
    | some l => ckEs Γ es l
    | none => false
  | .lst es, e => match asLst e with
    | some l => ckEs Γ es l
    | none => false
  | .lc own tg it cond elt, e => match asLc e with
    | some (e1, t, i, ifs, sc) => blkC Γ.N Γ.sc sc own && (tg.ixs.all fun j => (own.map (·.2)).contains j) && ckI Γ it t i && ckTg (Γ.blk sc) tg t && ckC (Γ.blk sc) cond ifs && ckE (Γ.blk sc) elt e1
    | none => false
  | .pop _, _ => false
  | .index _ _, _ => false
  | .lrng _ _ _, _ => false
  | .idx2 a i j, e => match asSub e with
    | some (e1, ej) => (match asSub e1 with
      | some (ea, ei) => notSlice ei && notSlice ej && ckE Γ a ea && ckE Γ i ei && ckE Γ j ej
      | none => false)
    | none => false
  | .keys a, e => match asCall e with
    | some (x, [ea]) => x == "sorted" && bltB Γ "sorted" && notStar ea && ckE Γ a ea
    | _ => false
def ckO (Γ : Ck) : Option G9.E → Option Expr → Bool
  | none, none => true
  | some c, some e => ckE Γ c e
  | _, _ => false
def ckC (Γ : Ck) : Option G9.E → List Expr → Bool
  | none, [] => true
  | some c, [e] => tst c && ckE Γ c e
  | _, _ => false
def ckEs (Γ : Ck) : List G9.E → List Expr → Bool
  | [], [] => true
  | c :: cs, e :: es => notStar e && ckE Γ c e && ckEs Γ cs es
  | _, _ => false
def ckI (Γ : Ck) : G9.It → Expr → Expr → Bool
  | .seq a, _, e => notSet e && ckE Γ a e
  | .rng a b, _, e => match asCall e with
    | some (x, es) => x == "range" && bltB Γ "range" && (match a, es with
      | none, [eb] => notStar eb && ckE Γ b eb
      | some a, [ea, eb] => notStar ea && notStar eb && ckE Γ a ea && ckE Γ b eb
      | _, _ => false)
    | none => false
  | .zip a b, t, e => match asTup t, asCall e with
    | some _, some (x, [ea, eb]) => x == "zip" && bltB Γ "zip" && notStar ea && notStar eb && ckE Γ a ea && ckE Γ b eb
    | _, _ => false
  | .enum a, t, e => match asTup t, asCall e with
    | some _, some (x, [ea]) => x == "enumerate" && bltB Γ "enumerate" && notStar ea && ckE Γ a ea
    | _, _ => false
end
end G9

/-! text E16 -/
/-! G9.E16: what the check of an expression is worth. -/
namespace G9
open PySem PySem.Spec PyProof.Rows L2

structure ClsAt (T : Tb) (c : Nat) (x : Str) : Prop where
  ex : ∃ (B newId initId : String) (bmB : List Value), ExcBaseFacts B newId initId bmB ∧ PySem.W.excIn T.K (T.ca c) bmB newId = true
  mg : T.mg x = some (.ref (T.ca c))
  kp : PySem.W.keepIn T.K (.ref (T.ca c)) = true
  s1 : PySem.W.subIn T.K (.ref (T.ca c)) (.type "BaseException") = some true
  s2 : PySem.W.typeIn T.K (.ref (T.ca c)) = some (.type "type")
def GvOk (T : Tb) (F : FS) (k : Nat) (x : Str) : Gv → Prop
  | .int i => ∃ t, T.mg x = some (.int i t)
  | .fn f fr => FnAt T F fr k f x
  | .cls c => ClsAt T c x
  | .blt => T.mg x = none
structure Good (T : Tb) (F : FS) (k : Nat) (E : XK) (Γ : Ck) (X : Cx) : Prop where
  of : Of T X
  N : X.N = Γ.N
  nd : Γ.N.Nodup
  sc : X.env.scope = Γ.sc
  calm : X.calm = true
  room : Room k X.A
  tk : Takes X (fun cls d _ H => E cls d H)
  gl : ∀ x v, Γ.g.lookup x = some v → GvOk T F k x v
  fn : match Γ.bk with
    | none => ∀ x, X.fn x = true
    | some s => ∀ x, s.names.lookup x = some .cell → X.fn x = true
section
variable {T : Tb} {F : FS} {k : Nat} {E : XK} {Γ : Ck} {X : Cx}
theorem Good.blk (G : Good T F k E Γ X) (scope : Scope) (s : Shared) (H : Hp) (C : Addr) (cl : List (Str × Addr)) (fp : List Addr) : Good T F k noX (Γ.blk scope) (X.blk s H scope (compEnvC scope cl C X.env) fp) := by
  refine ⟨⟨G.of.prog, G.of.w, G.of.K, G.of.mg, G.of.base⟩, G.N, G.nd, ?_, G.calm, G.room, takes0, G.gl, ?_⟩
  · show relabel scope X.env = relS scope Γ.sc
    rw [← G.sc]; rfl
  · intro x h
    show (scope.names.lookup x == some NameKind.cell) = true
    rw [h]; rfl
theorem noDb_ok {x : Str} (h : noDb x = true) : (x == ("__debug__" : Str)) = false ∧ (x == ("__classdict__" : Str)) = false ∧ x ≠ ("__name__" : Str) := by
  unfold noDb at h
  simp only [Bool.and_eq_true, Bool.not_eq_true'] at h
  refine ⟨h.1.1, h.1.2, fun z => ?_⟩
  rw [z] at h
  simp at h
theorem Good.vis (G : Good T F k E Γ X) {x : Str} (h : visB Γ.sc x = true) : Vis X.env.scope x := by
  unfold visB at h
  unfold Vis
  rw [G.sc]
  split at h
  · exact .inl ‹_›
  · exact .inr (.inl ‹_›)
  · exact .inr (.inr ‹_›)
  · cases h
theorem Good.gl' (G : Good T F k E Γ X) {x : Str} (h : glB Γ x = true) : Gl X x ∧ (x == ("__debug__" : Str)) = false ∧ x ≠ ("__name__" : Str) := by
  unfold glB at h
  simp only [Bool.and_eq_true] at h
  obtain ⟨h1, h2⟩ := h
  refine ⟨?_, (noDb_ok h2).1, (noDb_ok h2).2.2⟩
  show X.env.scope.names.lookup x = some .globalImplicit
  rw [G.sc]
  split at h1
  · rename_i e
    exact e
  · cases h1
theorem Good.blt (G : Good T F k E Γ X) {x : Str} (h : bltB Γ x = true) : Gl X x ∧ X.mg x = none ∧ (x == ("__debug__" : Str)) = false ∧ x ≠ ("__name__" : Str) := by
  unfold bltB at h
  simp only [Bool.and_eq_true] at h
  obtain ⟨h1, h2⟩ := h
  obtain ⟨a, b, c⟩ := G.gl' h1
  refine ⟨a, ?_, b, c⟩
  split at h2
  · rename_i e
    have := G.gl x _ e
    rw [G.of.mg]
    exact this
  · cases h2
theorem nmB_ok {i : Nat} {x y : Str} (h : nmB Γ i x y = true) : x = y ∧ Γ.N[i]? = some x := by
  unfold nmB at h
  simp only [Bool.and_eq_true, beq_iff_eq] at h
  obtain ⟨h1, h2⟩ := h
  refine ⟨h1, ?_⟩
  split at h2
  · rename_i z e
    rw [e, beq_iff_eq.mp h2]
  · cases h2
theorem Good.loc (G : Good T F k E Γ X) {x : Str} (h : locB Γ x = true) : L2.Loc X.env.scope x ∧ (X.fn x = true ∨ X.env.scope.names.lookup x = some .local) := by
  unfold locB at h
  unfold L2.Loc
  rw [G.sc]
  split at h
  · exact ⟨.inl ‹_›, .inr ‹_›⟩
  · refine ⟨.inr ‹_›, .inl ?_⟩
    have gf := G.fn
    split at h
    · rename_i e
      rw [e] at gf
      exact gf x
    · rename_i s e
      rw [e] at gf
      split at h
      · exact gf x ‹_›
      · cases h
  · cases h
/-! ### targets -/
theorem ck_tgs (G : Good T F k E Γ X) : ∀ {xs : List (Nat × Str)} {es : List Expr}, ckTgs Γ xs es = true → PGs X es (gAll xs) ∧ (assignEach es X.env).length = xs.length ∧ (assignEach es X.env).findIdx? (·.1) = none
  | [], [], _ => ⟨pgs_nil, rfl, rfl⟩
  | [], _ :: _, h => by cases h
  | _ :: _, [], h => by cases h
  | (i, x) :: r, e :: es, h => by
    unfold ckTgs at h
    simp only [Bool.and_eq_true] at h
    obtain ⟨h1, h2⟩ := h
    split at h1
    · rename_i y ey
      obtain ⟨p, rfl⟩ := asName_eq ey
      simp only [Bool.and_eq_true] at h1
      obtain ⟨h3, h4⟩ := h1
      obtain ⟨rfl, h5⟩ := nmB_ok h3
      obtain ⟨l1, l2⟩ := G.loc h4
      obtain ⟨i1, i2, i3⟩ := ck_tgs G h2
      refine ⟨pgs_cons (pg_name (by rw [G.N]; exact G.nd) (by rw [G.N]; exact h5) l1 l2) i1 rfl, ?_, ?_⟩
      · show (assignEach es X.env).length + 1 = r.length + 1
        rw [i2]
      · show ((false, _) :: assignEach es X.env).findIdx? (·.1) = none
        rw [List.findIdx?_cons]
        simp only [Bool.false_eq_true, if_false, i3]
        rfl
    · cases h1
theorem ck_tg (G : Good T F k E Γ X) {tg : Tg} {e : Expr} (h : ckTg Γ tg e = true) : PG X e (gT T.K tg) := by
  unfold ckTg at h
  split at h
  · rename_i i x
    split at h
    · rename_i y ey
      obtain ⟨p, rfl⟩ := asName_eq ey
      simp only [Bool.and_eq_true] at h
      obtain ⟨h3, h4⟩ := h
      obtain ⟨rfl, h5⟩ := nmB_ok h3
      obtain ⟨l1, l2⟩ := G.loc h4
      exact pg_name (by rw [G.N]; exact G.nd) (by rw [G.N]; exact h5) l1 l2
    · cases h
  · rename_i xs
    split at h
    · rename_i es ee
      obtain ⟨k', p, rfl⟩ := asTup_eq ee
      obtain ⟨i1, i2, i3⟩ := ck_tgs G h
      have := pg_tup (k := k') (pos := p) G.calm i1 i2 i3
      rw [G.of.K] at this
      exact this
    · cases h
/-! ### expressions -/
structure Snd (T : Tb) (F : FS) (X : Cx) (E : XK) (c : G9.E) (e : Expr) : Prop where
  pe : PE X e (tE T F c E)
  pt : tst c = true → PT X e (tt T F c E)
  pw : ∀ o l p, e = .BoolOp o l p → tst c = true → PW X e (tt T F c E)
theorem Snd.plain {c : G9.E} {e : Expr} (pe : PE X e (tE T F c E)) (ht : ∀ whole, isTrue e X.env whole = (do let v ← whole; standAt e.pos; holding [v] (truthy v))) (hb : ∀ o l p, e ≠ .BoolOp o l p) : Snd T F X E c e := ⟨pe, fun _ => pt_val pe ht, fun o l p z => absurd z (hb o l p)⟩
theorem Snd.val {c : G9.E} {e : Expr} (pe : PE X e (tE T F c E)) (ht : tst c = false) : Snd T F X E c e := ⟨pe, (fun z => by rw [ht] at z; cases z), (fun o l p _ z => by rw [ht] at z; cases z)⟩
theorem bi_name {b : Bi} (h1 : b ≠ .lenset) (h2 : b ≠ .rev) : (∃ id, biV b = .builtin id ∧ bootBuiltins (biN b) = some (.builtin id)) ∨ (∃ id, biV b = .type id ∧ bootBuiltins (biN b) = some (.type id)) := by
  cases b with
  | lenset => exact absurd rfl h1
  | rev => exact absurd rfl h2
  | tuple => exact .inr ⟨"tuple", rfl, by decide +kernel⟩
  | list => exact .inr ⟨"list", rfl, by decide +kernel⟩
  | int => exact .inr ⟨"int", rfl, by decide +kernel⟩
  | len => exact .inl ⟨"len", rfl, by decide +kernel⟩
  | sum => exact .inl ⟨"sum", rfl, by decide +kernel⟩
  | max => exact .inl ⟨"max", rfl, by decide +kernel⟩
  | min => exact .inl ⟨"min", rfl, by decide +kernel⟩
  | all => exact .inl ⟨"all", rfl, by decide +kernel⟩
  | any => exact .inl ⟨"any", rfl, by decide +kernel⟩
  | sorted => exact .inl ⟨"sorted", rfl, by decide +kernel⟩
theorem s_bi {x : Str} {p q : Pos} {b : Bi} {a : G9.E} {ea : Expr} (G : Good T F k E Γ X) (h1 : b ≠ .lenset) (h2 : b ≠ .rev) (hx : x = biN b) (hb : bltB Γ x = true) (hs : notStar ea = true) (ha : PE X ea (tE T F a E)) : PE X (.Call (.Name x p) [ea] [] q) (tE T F (.bi b a) E) := by
  subst hx
  obtain ⟨b1, b2, b3, b4⟩ := G.blt hb
  rcases bi_name h1 h2 with ⟨id, e1, e2⟩ | ⟨id, e1, e2⟩
  · exact s_biB G.calm G.room G.of.K h1 h2 e1 b1 b2 e2 b4 b3 ha (star_cons hs)
  · exact s_biT G.calm G.room G.of.K h1 h2 e1 b1 b2 e2 b4 b3 ha (star_cons hs)
end
end G9

/-! text E17 -/
/-! G9.E17: the checks of expressions, one by one. -/
namespace G9
open PySem PySem.Spec PyProof.Rows L2
section
variable {T : Tb} {F : FS} {k : Nat}
mutual
theorem ck_e : ∀ (c : G9.E) {Γ : Ck} {X : Cx} {E : XK} {e : Expr}, Good T F k E Γ X → ckE Γ c e = true → Snd T F X E c e
  | .v i x, Γ, X, E, e, G, h => by
    unfold ckE at h
    split at h
    · rename_i y ey
      obtain ⟨p, rfl⟩ := asName_eq ey
      simp only [Bool.and_eq_true] at h
      obtain ⟨⟨h1, h2⟩, h3⟩ := h
      obtain ⟨rfl, h5⟩ := nmB_ok h1
      obtain ⟨d1, d2, d3⟩ := noDb_ok h3
      exact .plain (s_v (by rw [G.N]; exact h5) (G.vis h2) d1 d2) (fun _ => rfl) fun _ _ _ z => by cases z
    · cases h
  | .int i, Γ, X, E, e, G, h => by
    unfold ckE at h
    split at h
    · rename_i y ey
      obtain ⟨j, p, rfl⟩ := asConst_eq ey
      rw [beq_iff_eq] at h
      subst h
      exact .val s_int rfl
    · cases h
  | .bl i, Γ, X, E, e, G, h => by
    unfold ckE at h
    split at h
    · rename_i y ey
      obtain ⟨j, p, rfl⟩ := asConst_eq ey
      rw [beq_iff_eq] at h
      subst h
      exact .plain s_bl (fun _ => rfl) fun _ _ _ z => by cases z
    · cases h
  | .non, Γ, X, E, e, G, h => by
    unfold ckE at h
    split at h
    · rename_i ey
      obtain ⟨j, p, rfl⟩ := asConst_eq ey
      exact .val s_non rfl
    · cases h
  | .str i, Γ, X, E, e, G, h => by
    unfold ckE at h
    split at h
    · rename_i y ey
      obtain ⟨j, p, rfl⟩ := asConst_eq ey
      rw [beq_iff_eq] at h
      subst h
      exact .val s_str rfl
    · cases h
  | .g x i, Γ, X, E, e, G, h => by
    unfold ckE at h
    split at h
    · rename_i y j ey eg
      obtain ⟨p, rfl⟩ := asName_eq ey
      simp only [Bool.and_eq_true, beq_iff_eq] at h
      obtain ⟨⟨rfl, h2⟩, rfl⟩ := h
      obtain ⟨t, e1⟩ := G.gl _ _ eg
      obtain ⟨a1, a2, a3⟩ := G.gl' h2
      exact .val (s_g a1 (by rw [G.of.mg]; exact e1) a2) rfl
    · cases h
  | .gf x f, Γ, X, E, e, G, h => by
    unfold ckE at h
    split at h
    · rename_i y f' fr ey eg
      obtain ⟨p, rfl⟩ := asName_eq ey
      simp only [Bool.and_eq_true, beq_iff_eq] at h
      obtain ⟨⟨rfl, h2⟩, rfl⟩ := h
      have e1 := G.gl _ _ eg
      obtain ⟨a1, a2, a3⟩ := G.gl' h2
      exact .val (s_gf a1 (by rw [G.of.mg]; exact e1.mg) a2) rfl
    · cases h
  | .bin op a b, Γ, X, E, e, G, h => by
    unfold ckE at h
    split at h
    · rename_i ea o eb ey
      obtain ⟨p, rfl⟩ := asBin_eq ey
      simp only [Bool.and_eq_true, decide_eq_true_eq] at h
      obtain ⟨⟨rfl, h2⟩, h3⟩ := h
      exact .val (s_bin G.of.K (ck_e a G h2).pe (ck_e b G h3).pe) rfl
    · cases h
  | .cmp c a b, Γ, X, E, e, G, h => by
    unfold ckE at h
    split at h
    · rename_i ea o eb ey
      obtain ⟨p, rfl⟩ := asCmp_eq ey
      simp only [Bool.and_eq_true, decide_eq_true_eq] at h
      obtain ⟨⟨⟨rfl, h1⟩, h2⟩, h3⟩ := h
      have s := s_cmp (pos := p) (cm := c) G.room G.of.K (behind_no h1) (ck_e a G h2).pe (ck_e b G h3).pe
      exact ⟨s.1, fun _ => s.2, fun _ _ _ z => by cases z⟩
    · cases h
  | .chain c c' a b d, Γ, X, E, e, G, h => by
    unfold ckE at h
    split at h
    · rename_i ea o o' eb ed ey
      obtain ⟨p, rfl⟩ := asChain_eq ey
      simp only [Bool.and_eq_true, decide_eq_true_eq] at h
      obtain ⟨⟨⟨⟨⟨rfl, rfl⟩, h1⟩, h2⟩, h3⟩, h4⟩ := h
      have s := s_chain (pos := p) (cm := c) (cm' := c') G.room G.of.K (behind_no h1) (ck_e a G h2).pe (ck_e b G h3).pe (ck_e d G h4).pe
      exact ⟨s.1, fun _ => s.2, fun _ _ _ z => by cases z⟩
    · cases h
  | .and a b, Γ, X, E, e, G, h => by
    unfold ckE at h
    split at h
    · rename_i ea eb p ey
      have ee := asBool_eq ey
      subst ee
      simp only [Bool.and_eq_true] at h
      obtain ⟨⟨h1, h2⟩, h3⟩ := h
      have sa := ck_e a G h2
      have sb := ck_e b G h3
      have pw : tst (.and a b) = true → PW X (.BoolOp .And [ea, eb] p) (tt T F (.and a b) E) := fun z => by
        have z' : (tst a && tst b) = true := z
        simp only [Bool.and_eq_true] at z'
        exact (pw_and (sa.pt z'.1) (pw_and1 (sb.pt z'.2))).weak andT
      exact ⟨(pe_and sa.pe (pe_one sb.pe)).weak andV, fun z => (pw z).pt, fun _ _ _ _ z => pw z⟩
    · rename_i ea eb r p hr ey
      have ee := asBool_eq ey
      subst ee
      simp only [Bool.and_eq_true] at h
      obtain ⟨⟨⟨h1, h1'⟩, h2⟩, h3⟩ := h
      have sa := ck_e a G h2
      have sb := ck_e b G h3
      have pw : tst (.and a b) = true → PW X (.BoolOp .And (ea :: eb :: r) p) (tt T F (.and a b) E) := fun z => (pw_and (sa.pt h1) (sb.pw _ _ _ rfl h1')).weak andT
      exact ⟨(pe_and sa.pe sb.pe).weak andV, fun z => (pw z).pt, fun _ _ _ _ z => pw z⟩
    · cases h
  | .or a b, Γ, X, E, e, G, h => by
    unfold ckE at h
    split at h
    · rename_i ea eb p ey
      have ee := asBool_eq ey
      subst ee
      simp only [Bool.and_eq_true] at h
      obtain ⟨⟨h1, h2⟩, h3⟩ := h
      have sa := ck_e a G h2
      have sb := ck_e b G h3
      have pw : tst (.or a b) = true → PW X (.BoolOp .Or [ea, eb] p) (tt T F (.or a b) E) := fun z => by
        have z' : (tst a && tst b) = true := z
        simp only [Bool.and_eq_true] at z'
        exact (pw_or (sa.pt z'.1) (pw_or1 (sb.pt z'.2))).weak orT
      exact ⟨(pe_or sa.pe (pe_one sb.pe)).weak orV, fun z => (pw z).pt, fun _ _ _ _ z => pw z⟩
    · rename_i ea eb r p hr ey
      have ee := asBool_eq ey
      subst ee
      simp only [Bool.and_eq_true] at h
      obtain ⟨⟨⟨h1, h1'⟩, h2⟩, h3⟩ := h
      have sa := ck_e a G h2
      have sb := ck_e b G h3
      have pw : tst (.or a b) = true → PW X (.BoolOp .Or (ea :: eb :: r) p) (tt T F (.or a b) E) := fun z => (pw_or (sa.pt h1) (sb.pw _ _ _ rfl h1')).weak orT
      exact ⟨(pe_or sa.pe sb.pe).weak orV, fun z => (pw z).pt, fun _ _ _ _ z => pw z⟩
    · cases h
  | .not a, Γ, X, E, e, G, h => by
    unfold ckE at h
    split at h
    · rename_i ea ey
      obtain ⟨p, rfl⟩ := asUn_eq ey
      simp only [Bool.and_eq_true] at h
      have sa := ck_e a G h.2
      have s := s_not (pos := p) sa.pe (sa.pt h.1)
      exact ⟨s.1, fun _ => s.2, fun _ _ _ z => by cases z⟩
    · cases h
  | .neg a, Γ, X, E, e, G, h => by
    unfold ckE at h
    split at h
    · rename_i ea ey
      obtain ⟨p, rfl⟩ := asUn_eq ey
      exact .val (s_neg (ck_e a G h).pe) rfl
    · cases h
  | .ite t a b, Γ, X, E, e, G, h => by
    unfold ckE at h
    split at h
    · rename_i et ea eb ey
      obtain ⟨p, rfl⟩ := asIf_eq ey
      simp only [Bool.and_eq_true] at h
      obtain ⟨⟨⟨h1, h2⟩, h3⟩, h4⟩ := h
      have st := ck_e t G h2
      have sa := ck_e a G h3
      have sb := ck_e b G h4
      refine ⟨s_iteV (st.pt h1) sa.pe sb.pe, fun z => ?_, fun _ _ _ z => by cases z⟩
      have z' : (tst a && tst b) = true := z
      simp only [Bool.and_eq_true] at z'
      exact (s_ite (pos := p) (st.pt h1) sa.pe (sa.pt z'.1) sb.pe (sb.pt z'.2)).2
    · cases h
  | .call x f as, Γ, X, E, e, G, h => by
    unfold ckE at h
    split at h
    · rename_i y es f' ey eg
      obtain ⟨p, q, rfl⟩ := asCall_eq ey
      simp only [Bool.and_eq_true, beq_iff_eq] at h
      obtain ⟨⟨⟨rfl, h2⟩, rfl⟩, h4⟩ := h
      obtain ⟨a1, a2, a3⟩ := G.gl' h2
      obtain ⟨pa, b1, b2⟩ := ck_es as G h4
      refine .plain (s_call G.room G.of (G.gl _ _ eg) G.tk a1 a2 pa (fun z => ?_) fun e r z => ?_) (fun _ => rfl) fun _ _ _ z => by cases z
      · subst z
        cases as with
        | nil => rfl
        | cons _ _ => simp at b2
      · subst z
        simp only [List.all_cons, Bool.and_eq_true] at b1
        exact ⟨star_cons b1.1, star_all b1.2⟩
    · cases h
  | .callv _ _ _, Γ, X, E, e, G, h => by unfold ckE at h; cases h
  | .bi b a, Γ, X, E, e, G, h => by
    unfold ckE at h
    split at h
    · split at h
      · rename_i x e1 ey
        obtain ⟨p, q, rfl⟩ := asCall_eq ey
        split at h
        · rename_i y ea ey'
          obtain ⟨p', q', rfl⟩ := asCall_eq ey'
          simp only [Bool.and_eq_true, beq_iff_eq] at h
          obtain ⟨⟨⟨⟨⟨rfl, rfl⟩, h1⟩, h2⟩, h3⟩, h4⟩ := h
          obtain ⟨a1, a2, a3, a4⟩ := G.blt h1
          obtain ⟨b1, b2, b3, b4⟩ := G.blt h2
          exact .val (s_lenset G.calm G.of.K a1 a2 b1 b2 (ck_e a G h4).pe (star_cons h3)) rfl
        · cases h
      · cases h
    · split at h
      · rename_i ea s ey
        obtain ⟨p, rfl⟩ := asSub_eq ey
        split at h
        · rename_i st ey'
          obtain ⟨p', rfl⟩ := asSlice_eq ey'
          split at h
          · rename_i o eu
            obtain ⟨p2, rfl⟩ := asUn_eq eu
            split at h
            · rename_i ec
              obtain ⟨j, p3, rfl⟩ := asConst_eq ec
              exact .val (s_rev G.of.K (ck_e a G h).pe) rfl
            · cases h
          · cases h
        · cases h
      · cases h
    · rename_i b1 b2
      split at h
      · rename_i x ea ey
        obtain ⟨p, q, rfl⟩ := asCall_eq ey
        simp only [Bool.and_eq_true, beq_iff_eq] at h
        obtain ⟨⟨⟨h1, h2⟩, h3⟩, h4⟩ := h
        exact .plain (s_bi G (fun z => b1 z) (fun z => b2 z) h1 h2 h3 (ck_e a G h4).pe) (fun _ => rfl) fun _ _ _ z => by cases z
      · cases h
  | .max2 a b, Γ, X, E, e, G, h => by
    unfold ckE at h
    split at h
    · rename_i x ea eb ey
      obtain ⟨p, q, rfl⟩ := asCall_eq ey
      simp only [Bool.and_eq_true, beq_iff_eq] at h
      obtain ⟨⟨⟨⟨⟨rfl, h1⟩, h2⟩, h3⟩, h4⟩, h5⟩ := h
      obtain ⟨a1, a2, a3, a4⟩ := G.blt h1
      exact .val (s_max2 G.calm a1 a2 (ck_e a G h4).pe (ck_e b G h5).pe (star_cons h2) (star_cons h3)) rfl
    · cases h
  | .min2 a b, Γ, X, E, e, G, h => by
    unfold ckE at h
    split at h
    · rename_i x ea eb ey
      obtain ⟨p, q, rfl⟩ := asCall_eq ey
      simp only [Bool.and_eq_true, beq_iff_eq] at h
      obtain ⟨⟨⟨⟨⟨rfl, h1⟩, h2⟩, h3⟩, h4⟩, h5⟩ := h
      obtain ⟨a1, a2, a3, a4⟩ := G.blt h1
      exact .val (s_min2 G.calm a1 a2 (ck_e a G h4).pe (ck_e b G h5).pe (star_cons h2) (star_cons h3)) rfl
    · cases h
  | .isin a t, Γ, X, E, e, G, h => by
    unfold ckE at h
    split at h
    · rename_i x ea eb ey
      obtain ⟨p, q, rfl⟩ := asCall_eq ey
      split at h
      · rename_i y en
        obtain ⟨p2, rfl⟩ := asName_eq en
        simp only [Bool.and_eq_true, beq_iff_eq] at h
        obtain ⟨⟨⟨⟨⟨rfl, h1⟩, h2⟩, h3⟩, h4⟩, h5⟩ := h
        obtain ⟨a1, a2, a3, a4⟩ := G.blt h1
        obtain ⟨b1, b2, b3, b4⟩ := G.blt h3
        exact .plain (s_isin G.of.K h2 a1 a2 b1 b2 (ck_e a G h5).pe (star_cons h4)) (fun _ => rfl) fun _ _ _ z => by cases z
      · cases h
    · cases h
  | .idx a i, Γ, X, E, e, G, h => by
    unfold ckE at h
    split at h
    · rename_i ea ei ey
      obtain ⟨p, rfl⟩ := asSub_eq ey
      simp only [Bool.and_eq_true] at h
      obtain ⟨⟨h1, h2⟩, h3⟩ := h
      exact .plain (s_idx G.of.K (ck_e a G h2).pe (ck_e i G h3).pe (plainIx_of h1)) (fun _ => rfl) fun _ _ _ z => by cases z
    · cases h
  | .sl a lo hi, Γ, X, E, e, G, h => by
    unfold ckE at h
    split at h
    · rename_i ea s ey
      obtain ⟨p, rfl⟩ := asSub_eq ey
      split at h
      · rename_i l u es
        obtain ⟨p2, rfl⟩ := asSlice_eq es
        simp only [Bool.and_eq_true] at h
        obtain ⟨⟨h1, h2⟩, h3⟩ := h
        exact .val (s_sl G.of.K (ck_e a G h1).pe (ck_o lo G h2) (ck_o hi G h3)) rfl
      · cases h
    · cases h
  | .tup es, Γ, X, E, e, G, h => by
    unfold ckE at h
    split at h
    · rename_i l ey
      obtain ⟨j, p, rfl⟩ := asTup_eq ey
      exact .val (s_tup (ck_es es G h).1) rfl
    · cases h
  | .lst es, Γ, X, E, e, G, h => by
    unfold ckE at h
    split at h
    · rename_i l ey
      obtain ⟨p, rfl⟩ := asLst_eq ey
      exact .val (s_lst (ck_es es G h).1) rfl
    · cases h
  | .lc own tg it cond elt, Γ, X, E, e, G, h => by
    unfold ckE at h
    split at h
    · rename_i e1 t i ifs sc ey
      obtain ⟨p, rfl⟩ := asLc_eq ey
      simp only [Bool.and_eq_true] at h
      obtain ⟨⟨⟨⟨⟨h1, h2⟩, h3⟩, h4⟩, h5⟩, h6⟩ := h
      obtain ⟨i1, i2⟩ := ck_i it G h3
      refine .val (s_lc (by simpa using h2) G.calm (by rw [G.N]; exact G.nd) ?_ i1 (fun s H C cl fp => ck_tg (G.blk sc s H C cl fp) h4) (fun s H C cl fp => ck_c cond (G.blk sc s H C cl fp) h5) (fun s H C cl fp => (ck_e elt (G.blk sc s H C cl fp) h6).pe) i2).1 rfl
      rw [G.N, G.sc]
      exact blkOk_by h1
    · cases h
  | .pop _, Γ, X, E, e, G, h => by unfold ckE at h; cases h
  | .index _ _, Γ, X, E, e, G, h => by unfold ckE at h; cases h
  | .lrng _ _ _, Γ, X, E, e, G, h => by unfold ckE at h; cases h
  | .idx2 a i j, Γ, X, E, e, G, h => by
    unfold ckE at h
    split at h
    · rename_i e1 ej ey
      obtain ⟨p, rfl⟩ := asSub_eq ey
      split at h
      · rename_i ea ei ey'
        obtain ⟨p', rfl⟩ := asSub_eq ey'
        simp only [Bool.and_eq_true] at h
        obtain ⟨⟨⟨⟨h1, h2⟩, h3⟩, h4⟩, h5⟩ := h
        exact .val (s_idx2 G.of.K (ck_e a G h3).pe (ck_e i G h4).pe (ck_e j G h5).pe (plainIx_of h1) (plainIx_of h2)) rfl
      · cases h
    · cases h
  | .keys a, Γ, X, E, e, G, h => by
    unfold ckE at h
    split at h
    · rename_i x ea ey
      obtain ⟨p, q, rfl⟩ := asCall_eq ey
      simp only [Bool.and_eq_true, beq_iff_eq] at h
      obtain ⟨⟨⟨rfl, h2⟩, h3⟩, h4⟩ := h
      obtain ⟨b1, b2, b3, b4⟩ := G.blt h2
      exact .val (s_keys G.calm b1 b2 (ck_e a G h4).pe (star_cons h3)) rfl
    · cases h
theorem ck_o : ∀ (c : Option G9.E) {Γ : Ck} {X : Cx} {E : XK} {e : Option Expr}, Good T F k E Γ X → ckO Γ c e = true → PO X e (tOpt T F c E)
  | none, Γ, X, E, none, G, h => s_none
  | none, Γ, X, E, some _, G, h => by unfold ckO at h; cases h
  | some c, Γ, X, E, none, G, h => by unfold ckO at h; cases h
  | some c, Γ, X, E, some e, G, h => by
    unfold ckO at h
    exact s_some (ck_e c G h).pe
theorem ck_c : ∀ (c : Option G9.E) {Γ : Ck} {X : Cx} {e : List Expr}, Good T F k noX Γ X → ckC Γ c e = true → PTs X e (tCond T F c)
  | none, Γ, X, [], G, h => pts_nil
  | none, Γ, X, _ :: _, G, h => by unfold ckC at h; cases h
  | some c, Γ, X, [], G, h => by unfold ckC at h; cases h
  | some c, Γ, X, [e], G, h => by
    unfold ckC at h
    simp only [Bool.and_eq_true] at h
    exact pts_one ((ck_e c G h.2).pt h.1)
  | some c, Γ, X, _ :: _ :: _, G, h => by unfold ckC at h; cases h
theorem ck_es : ∀ (cs : List G9.E) {Γ : Ck} {X : Cx} {E : XK} {es : List Expr}, Good T F k E Γ X → ckEs Γ cs es = true → PA X es (tA T F cs E) ∧ es.all notStar = true ∧ es.length = cs.length
  | [], Γ, X, E, [], G, h => ⟨s_nil, rfl, rfl⟩
  | [], Γ, X, E, _ :: _, G, h => by unfold ckEs at h; cases h
  | _ :: _, Γ, X, E, [], G, h => by unfold ckEs at h; cases h
  | c :: cs, Γ, X, E, e :: es, G, h => by
    unfold ckEs at h
    simp only [Bool.and_eq_true] at h
    obtain ⟨⟨h1, h2⟩, h3⟩ := h
    obtain ⟨i1, i2, i3⟩ := ck_es cs G h3
    exact ⟨s_cons (ck_e c G h2).pe i1 (star_cons h1), by simp only [List.all_cons, h1, i2]; rfl, by simp [i3]⟩
theorem ck_i : ∀ (c : G9.It) {Γ : Ck} {X : Cx} {E : XK} {t e : Expr}, Good T F k E Γ X → ckI Γ c t e = true → PI X t e (tI T F c E) ∧ ∀ x, foldedSetIterable e X.env x = pure x
  | .seq a, Γ, X, E, t, e, G, h => by
    unfold ckI at h
    simp only [Bool.and_eq_true] at h
    exact ⟨s_iseq G.of.K (ck_e a G h.2).pe, fun x => folded_no h.1⟩
  | .rng none b, Γ, X, E, t, e, G, h => by
    unfold ckI at h
    split at h
    · rename_i x es ey
      obtain ⟨p, q, rfl⟩ := asCall_eq ey
      simp only [Bool.and_eq_true, beq_iff_eq] at h
      obtain ⟨⟨rfl, h1⟩, h2⟩ := h
      obtain ⟨a1, a2, a3, a4⟩ := G.blt h1
      split at h2
      · simp only [Bool.and_eq_true] at h2
        exact ⟨s_irng1 a1 a2 (ck_e b G h2.2).pe (star_cons h2.1), fun x => rfl⟩
      · rename_i z; cases z
      · cases h2
    · cases h
  | .rng (some a) b, Γ, X, E, t, e, G, h => by
    unfold ckI at h
    split at h
    · rename_i x es ey
      obtain ⟨p, q, rfl⟩ := asCall_eq ey
      simp only [Bool.and_eq_true, beq_iff_eq] at h
      obtain ⟨⟨rfl, h1⟩, h2⟩ := h
      obtain ⟨a1, a2, a3, a4⟩ := G.blt h1
      split at h2
      · rename_i z; cases z
      · rename_i a' ea eb z
        cases z
        simp only [Bool.and_eq_true] at h2
        obtain ⟨⟨⟨h2, h3⟩, h4⟩, h5⟩ := h2
        exact ⟨s_irng2 a1 a2 (ck_e a G h4).pe (ck_e b G h5).pe (by rw [star_cons h2, star_cons h3]; rfl) (star_cons h3), fun x => rfl⟩
      · cases h2
    · cases h
  | .zip a b, Γ, X, E, t, e, G, h => by
    unfold ckI at h
    split at h
    · rename_i ts x ea eb et ey
      obtain ⟨p, q, rfl⟩ := asCall_eq ey
      obtain ⟨j, p2, rfl⟩ := asTup_eq et
      simp only [Bool.and_eq_true, beq_iff_eq] at h
      obtain ⟨⟨⟨⟨⟨rfl, h1⟩, h2⟩, h3⟩, h4⟩, h5⟩ := h
      obtain ⟨a1, a2, a3, a4⟩ := G.blt h1
      exact ⟨s_izip G.of.K a1 a2 (ck_e a G h4).pe (ck_e b G h5).pe (by rw [star_cons h2, star_cons h3]; rfl) (star_cons h3), fun x => rfl⟩
    · cases h
  | .enum a, Γ, X, E, t, e, G, h => by
    unfold ckI at h
    split at h
    · rename_i ts x ea et ey
      obtain ⟨p, q, rfl⟩ := asCall_eq ey
      obtain ⟨j, p2, rfl⟩ := asTup_eq et
      simp only [Bool.and_eq_true, beq_iff_eq] at h
      obtain ⟨⟨⟨rfl, h1⟩, h2⟩, h3⟩ := h
      obtain ⟨a1, a2, a3, a4⟩ := G.blt h1
      exact ⟨s_ienum G.of.K a1 a2 (ck_e a G h3).pe (star_cons h2), fun x => rfl⟩
    · cases h
end
end
end G9

/-! text E18 -/
/-! G9.E18: statements of the text and of the small language: the check, and what it is worth. -/
namespace G9
open PySem PySem.Spec PyProof.Rows L2

/-- a new list is made -/
def ckN (Γ : Ck) : G9.E → Expr → Bool
  | .lst es, e => match asLst e with
    | some l => ckEs Γ es l
    | none => false
  | .bin .add a b, e => match asBin e with
    | some (ea, .Add, eb) => ckE Γ a ea && ckE Γ b eb
    | _ => false
  | .bi .list a, e => match asCall e with
    | some (x, [ea]) => x == "list" && bltB Γ "list" && notStar ea && ckE Γ a ea
    | _ => false
  | .lc own tg it cond elt, e => match asLc e with
    | some (e1, t, i, ifs, sc) => blkC Γ.N Γ.sc sc own && (tg.ixs.all fun j => (own.map (·.2)).contains j) && ckI Γ it t i && ckTg (Γ.blk sc) tg t && ckC (Γ.blk sc) cond ifs && ckE (Γ.blk sc) elt e1
    | none => false
  | .call x f as, e => match asCall e, Γ.g.lookup x with
    | some (y, es), some (.fn f' true) => x == y && glB Γ x && f == f' && ckEs Γ as es
    | _, _ => false
  | _, _ => false
section
variable {T : Tb} {F : FS} {k : Nat} {E : XK} {Γ : Ck} {X : Cx}
theorem ck_n (G : Good T F k E Γ X) {c : G9.E} {e : Expr} (h : ckN Γ c e = true) : PE X e (tN T F c E) := by
  unfold ckN at h
  split at h
  · rename_i es
    split at h
    · rename_i l ey
      obtain ⟨p, rfl⟩ := asLst_eq ey
      exact n_lst (ck_es es G h).1
    · cases h
  · rename_i a b
    split at h
    · rename_i ea eb ey
      obtain ⟨p, rfl⟩ := asBin_eq ey
      simp only [Bool.and_eq_true] at h
      exact n_add G.of.K (ck_e a G h.1).pe (ck_e b G h.2).pe
    · cases h
  · rename_i a
    split at h
    · rename_i x ea ey
      obtain ⟨p, q, rfl⟩ := asCall_eq ey
      simp only [Bool.and_eq_true, beq_iff_eq] at h
      obtain ⟨⟨⟨rfl, h2⟩, h3⟩, h4⟩ := h
      obtain ⟨b1, b2, b3, b4⟩ := G.blt h2
      exact n_list G.calm G.room G.of.K b1 b2 (ck_e a G h4).pe (star_cons h3)
    · cases h
  · rename_i own tg it cond elt
    split at h
    · rename_i e1 t i ifs sc ey
      obtain ⟨p, rfl⟩ := asLc_eq ey
      simp only [Bool.and_eq_true] at h
      obtain ⟨⟨⟨⟨⟨h1, h2⟩, h3⟩, h4⟩, h5⟩, h6⟩ := h
      obtain ⟨i1, i2⟩ := ck_i it G h3
      refine (s_lc (by simpa using h2) G.calm (by rw [G.N]; exact G.nd) ?_ i1 (fun s H C cl fp => ck_tg (G.blk sc s H C cl fp) h4) (fun s H C cl fp => ck_c cond (G.blk sc s H C cl fp) h5) (fun s H C cl fp => (ck_e elt (G.blk sc s H C cl fp) h6).pe) i2).2
      rw [G.N, G.sc]
      exact blkOk_by h1
    · cases h
  · rename_i x f as
    split at h
    · rename_i y es f' ey eg
      obtain ⟨p, q, rfl⟩ := asCall_eq ey
      simp only [Bool.and_eq_true, beq_iff_eq] at h
      obtain ⟨⟨⟨rfl, h2⟩, rfl⟩, h4⟩ := h
      obtain ⟨a1, a2, a3⟩ := G.gl' h2
      obtain ⟨pa, b1, b2⟩ := ck_es as G h4
      refine n_call G.room G.of (G.gl _ _ eg) G.tk a1 a2 pa (fun z => ?_) fun e r z => ?_
      · subst z
        cases as with
        | nil => rfl
        | cons _ _ => simp at b2
      · subst z
        simp only [List.all_cons, Bool.and_eq_true] at b1
        exact ⟨star_cons b1.1, star_all b1.2⟩
    · cases h
  · cases h
end
/-! ### stores -/
def notComp : Expr → Bool
  | .ListComp .. => false
  | .SetComp .. => false
  | .DictComp .. => false
  | _ => true
theorem sw_no {e : Expr} {t : Option Expr} {l : Nat} {env : PySem.Env} (h : notComp e = true) : swapsWith e t l env = pure false := by
  cases e <;> first | rfl | cases h
theorem sw_tup {e : Expr} {es : List Expr} {k : Nat} {p : Pos} {l : Nat} {env : PySem.Env} : swapsWith e (some (.Tuple es k p)) l env = pure false := by
  cases e <;> rfl
theorem sw_sub {e a b : Expr} {p : Pos} {l : Nat} {env : PySem.Env} : swapsWith e (some (.Subscript a b p)) l env = pure false := by
  cases e <;> rfl
theorem sw_tupS {e : Expr} {es : List Expr} {k : Nat} {p : Pos} {l : Nat} {env : PySem.Env} : swapsWithSole [.Tuple es k p] e l env = pure false := sw_tup (e := e) (es := es) (k := k) (p := p) (l := l) (env := env)
theorem sw_subS {e a b : Expr} {p : Pos} {l : Nat} {env : PySem.Env} : swapsWithSole [.Subscript a b p] e l env = pure false := sw_sub (e := e) (a := a) (b := b) (p := p) (l := l) (env := env)
/-- whether a comprehension is stored by a swap -/
def swB (sc : Scope) (e : Expr) (y : Str) (py : Pos) : Bool := match e with
  | .ListComp _ _ s p => (match sc.names.lookup y with
    | some .local => true
    | _ => false) && py.line == p.line && !(s.names.any fun (n, k) => n == y && (k == .local || k == .cell))
  | _ => false
theorem sw_lc {e1 : Expr} {gs : List Comprehension} {s : Scope} {p py : Pos} {y : Str} {l : Nat} {env : PySem.Env} (hk : env.scope.kind = .function) (b : Bool) (h : swB env.scope (.ListComp e1 gs s p) y py = b) : swapsWith (.ListComp e1 gs s p) (some (.Name y py)) l env = pure b := by
  have hb : env.blockKind = .function := by unfold Env.blockKind; rw [hk]; rfl
  show (pure (env.blockKind == .function && env.kindOf y == some .local && py.line == p.line && !(s.names.any fun (n, k) => n == y && (k == .local || k == .cell))) : Sem Bool) = pure b
  rw [hb]
  unfold swB at h
  simp only at h
  rw [← h]
  congr 1
  have e : (env.kindOf y == some NameKind.local) = (match env.scope.names.lookup y with
    | some .local => true
    | _ => false) := by
    unfold Env.kindOf
    cases env.scope.names.lookup y with
    | none => rfl
    | some k => cases k <;> rfl
  rw [e]
  rfl
def swNames (sc : Scope) (ts : List Expr) : List Str := ts.filterMap fun
  | .Name id pos => if sc.names.lookup id == some .local && pos.line == (ts.head?.map (·.pos.line)).getD 0 then some id else none
  | _ => none
/-- a, b = x, y: stored from the right, or as a tuple -/
def swSt (sc : Scope) (ts vs : List Expr) : Option (Option (List Str)) :=
  if !(ts.length == 2 || ts.length == 3) || vs.length != ts.length then some none
  else if vs.any (fun | .Starred .. => true | _ => false) then some none
  else if (swNames sc ts).length != ts.length || (swNames sc ts).eraseDups.length != (swNames sc ts).length then some none
  else if vs.all (foldedForSure 8) then some none
  else if vs.all (constantsAlone 8) then none
  else some (some (swNames sc ts))
theorem sw_st {ts vs : List Expr} {j j' : Nat} {p p' : Pos} {env : PySem.Env} (hk : env.scope.kind = .function) {r : Option (List Str)} (h : swSt env.scope ts vs = some r) : swappedStores [.Tuple ts j p] (.Tuple vs j' p') env = pure r := by
  have hb : env.blockKind = .function := by unfold Env.blockKind; rw [hk]; rfl
  unfold swSt at h
  show (if (!(ts.length == 2 || ts.length == 3) || vs.length != ts.length || env.blockKind != .function) = true then pure none
    else if vs.any (fun | .Starred .. => true | _ => false) = true then pure none
    else if ((swNames env.scope ts).length != ts.length || (swNames env.scope ts).eraseDups.length != (swNames env.scope ts).length) = true then pure none
    else if vs.all (foldedForSure 8) = true then pure none
    else if vs.all (constantsAlone 8) = true then (do unsupported "assign.tuple-of-constant-expressions:order-of-the-stores"; pure (some (swNames env.scope ts))) else pure (some (swNames env.scope ts)) : Sem (Option (List Str))) = pure r
  rw [hb]
  have z : (ScopeKind.function != ScopeKind.function) = false := rfl
  rw [z, Bool.or_false]
  split at h
  · rename_i c; rw [if_pos c]; cases h; rfl
  · rename_i c
    rw [if_neg c]
    split at h
    · rename_i c; rw [if_pos c]; cases h; rfl
    · rename_i c
      rw [if_neg c]
      split at h
      · rename_i c; rw [if_pos c]; cases h; rfl
      · rename_i c
        rw [if_neg c]
        split at h
        · rename_i c; rw [if_pos c]; cases h; rfl
        · rename_i c
          rw [if_neg c]
          split at h
          · cases h
          · rename_i c
            rw [if_neg c]
            cases h
            rfl
theorem sw_none {es : List Expr} {e : Expr} {j : Nat} {p : Pos} {env : PySem.Env} (h : asTup e = none) : swappedStores [.Tuple es j p] e env = pure none := by
  cases e <;> first | rfl | cases h
theorem sw_subN {a b e : Expr} {p : Pos} {env : PySem.Env} : swappedStores [.Subscript a b p] e env = pure none := by
  cases e <;> rfl
end G9

/-! text E19 -/
/-! G9.E19: the check of statements. -/
namespace G9
open PySem PySem.Spec PyProof.Rows L2

def asAsg : Stmt → Option (Expr × Expr)
  | .Assign [t] e _ => some (t, e)
  | _ => none
theorem asAsg_eq {s : Stmt} {t e : Expr} (h : asAsg s = some (t, e)) : ∃ p, s = .Assign [t] e p := by
  unfold asAsg at h
  split at h
  · cases h; exact ⟨_, rfl⟩
  · cases h
def asExp : Stmt → Option Expr
  | .Expr e _ => some e
  | _ => none
theorem asExp_eq {s : Stmt} {e : Expr} (h : asExp s = some e) : ∃ p, s = .Expr e p := by
  unfold asExp at h
  split at h
  · cases h; exact ⟨_, rfl⟩
  · cases h
def asRet : Stmt → Option Expr
  | .Return (some e) _ => some e
  | _ => none
theorem asRet_eq {s : Stmt} {e : Expr} (h : asRet s = some e) : ∃ p, s = .Return (some e) p := by
  unfold asRet at h
  split at h
  · cases h; exact ⟨_, rfl⟩
  · cases h
def asIfS : Stmt → Option (Expr × List Stmt × List Stmt)
  | .If t a b _ => some (t, a, b)
  | _ => none
theorem asIfS_eq {s : Stmt} {t : Expr} {a b : List Stmt} (h : asIfS s = some (t, a, b)) : ∃ p, s = .If t a b p := by
  unfold asIfS at h
  split at h
  · cases h; exact ⟨_, rfl⟩
  · cases h
def asFor : Stmt → Option (Expr × Expr × List Stmt)
  | .For t i a [] _ => some (t, i, a)
  | _ => none
theorem asFor_eq {s : Stmt} {t i : Expr} {a : List Stmt} (h : asFor s = some (t, i, a)) : ∃ p, s = .For t i a [] p := by
  unfold asFor at h
  split at h
  · cases h; exact ⟨_, rfl⟩
  · cases h
def asWhile : Stmt → Option (Expr × List Stmt)
  | .While t a [] _ => some (t, a)
  | _ => none
theorem asWhile_eq {s : Stmt} {t : Expr} {a : List Stmt} (h : asWhile s = some (t, a)) : ∃ p, s = .While t a [] p := by
  unfold asWhile at h
  split at h
  · cases h; exact ⟨_, rfl⟩
  · cases h
def asRaise : Stmt → Option (Str × Str)
  | .Raise (some (.Call (.Name x _) [.Constant (.str m) _ _] [] _)) none _ => some (x, m)
  | _ => none
theorem asRaise_eq {s : Stmt} {x m : Str} (h : asRaise s = some (x, m)) : ∃ p1 p2 p3 p4 j, s = .Raise (some (.Call (.Name x p1) [.Constant (.str m) j p2] [] p3)) none p4 := by
  unfold asRaise at h
  split at h
  · cases h; exact ⟨_, _, _, _, _, rfl⟩
  · cases h
/-- o.m(e) on one line -/
def asMt : Expr → Option (Expr × Str × Expr)
  | .Call (.Attribute (.Name x p) m ap) [e] [] cp => if ap.endLine == cp.line then some (.Name x p, m, e) else none
  | _ => none
theorem asMt_eq {s o e : Expr} {m : Str} (h : asMt s = some (o, m, e)) : ∃ ap cp x p, s = .Call (.Attribute o m ap) [e] [] cp ∧ o = .Name x p ∧ (ap.endLine == cp.line) = true := by
  unfold asMt at h
  split at h
  · split at h
    · cases h
      exact ⟨_, _, _, _, rfl, rfl, ‹_›⟩
    · cases h
  · cases h
def asNameP : Expr → Option (Str × Pos)
  | .Name x p => some (x, p)
  | _ => none
theorem asNameP_eq {e : Expr} {x : Str} {p : Pos} (h : asNameP e = some (x, p)) : e = .Name x p := by cases e <;> simp [asNameP] at h; obtain ⟨rfl, rfl⟩ := h; rfl
def ckM (Γ : Ck) : G9.E → Expr → Bool
  | .lc own tg it none (.lc own2 tg2 it2 cond2 elt2), e => match asLc e with
    | some (e1, t, i, [], sc) => blkC Γ.N Γ.sc sc own && (tg.ixs.all fun j => (own.map (·.2)).contains j) && ckI Γ it t i && ckTg (Γ.blk sc) tg t && ckN (Γ.blk sc) (.lc own2 tg2 it2 cond2 elt2) e1
    | _ => false
  | _, _ => false
def asDict0 : Expr → Bool
  | .Dict [] [] _ => true
  | _ => false
theorem asDict0_eq {e : Expr} (h : asDict0 e = true) : ∃ p, e = .Dict [] [] p := by
  unfold asDict0 at h
  split at h
  · exact ⟨_, rfl⟩
  · cases h
mutual
def ckS (Γ : Ck) : Sm → Stmt → Bool
  | .asg (.nm i x) c, s => match asAsg s with
    | some (t, e) => (match asNameP t with
      | some (y, py) => nmB Γ i x y && locB Γ x && ckE Γ c e && (notComp e || match c with
        | .lc .. => true
        | _ => false)
      | none => false)
    | none => false
  | .asg (.tp xs) c, s => match asAsg s with
    | some (t, e) => (match asTup t with
      | some es => ckTgs Γ xs es && ckE Γ c e && (match asTup e with
        | some vs => (match swSt Γ.sc es vs with
          | some none => true
          | _ => false)
        | none => true)
      | none => false)
    | none => false
  | .new i x _ c, s => match asAsg s with
    | some (t, e) => (match asNameP t with
      | some (y, py) => nmB Γ i x y && locB Γ x && ckN Γ c e && (notComp e || match c with
        | .lc .. => true
        | _ => false)
      | none => false)
    | none => false
  | .fz i x c, s => match asAsg s with
    | some (t, e) => (match asNameP t with
      | some (y, py) => nmB Γ i x y && locB Γ x && ckE Γ c e && notComp e
      | none => false)
    | none => false
  | .par xs cs, s => match asAsg s with
    | some (t, e) => (match asTup t, asTup e with
      | some ts, some vs => (match swSt Γ.sc ts vs with
        | some (some ns) => ckTgs Γ xs ts && ckEs Γ cs vs && (ns == xs.map (·.2)) && (match xs with
          | [(i, _), (j, _)] => vs.length == 2 && i != j
          | [(i, _), (j, _), (l, _)] => vs.length == 3 && i != j && i != l && j != l
          | _ => false)
        | _ => false)
      | _, _ => false)
    | none => false
  | .parN i x i' x' _ a b, s => match asAsg s with
    | some (t, e) => (match asTup t, asTup e with
      | some ts, some [ea, eb] => (match swSt Γ.sc ts [ea, eb] with
        | some (some ns) => ckTgs Γ [(i, x), (i', x')] ts && notStar ea && notStar eb && ckE Γ a ea && ckN Γ b eb && (ns == [x, x']) && i != i'
        | _ => false)
      | _, _ => false)
    | none => false
  | .setix o i c, s => match asAsg s with
    | some (t, e) => (match asSub t with
      | some (eo, ei) => notSlice ei && ckE Γ o eo && ckE Γ i ei && ckE Γ c e
      | none => false)
    | none => false
  | .setix2 o i j c, s => match asAsg s with
    | some (t, e) => (match asSub t with
      | some (e1, ej) => (match asSub e1 with
        | some (eo, ei) => notSlice ei && notSlice ej && ckE Γ o eo && ckE Γ i ei && ckE Γ j ej && ckE Γ c e
        | none => false)
      | none => false)
    | none => false
  | .newm i x _ c, s => match asAsg s with
    | some (t, e) => (match asNameP t with
      | some (y, py) => nmB Γ i x y && locB Γ x && ckM Γ c e
      | none => false)
    | none => false
  | .newd i x _, s => match asAsg s with
    | some (t, e) => (match asNameP t with
      | some (y, py) => nmB Γ i x y && locB Γ x && asDict0 e
      | none => false)
    | none => false
  | .setk o c, s => match asAsg s with
    | some (t, e) => (match asSub t, asConst e with
      | some (eo, ei), some (.bool true) => notSlice ei && ckE Γ o eo && ckE Γ c ei
      | _, _ => false)
    | none => false
  | .app o c, s => match asExp s with
    | some e => (match asMt e with
      | some (eo, m, ea) => m == "append" && notStar ea && ckE Γ o eo && ckE Γ c ea
      | none => false)
    | none => false
  | .ext o c, s => match asExp s with
    | some e => (match asMt e with
      | some (eo, m, ea) => m == "extend" && notStar ea && ckE Γ o eo && ckE Γ c ea
      | none => false)
    | none => false
  | .expr c, s => match asExp s with
    | some e => notComp e && ckE Γ c e
    | none => false
  | .aug .., _ => false
  | .ret c, s => match asRet s with
    | some e => ckE Γ c e
    | none => false
  | .iff t a b, s => match asIfS s with
    | some (e, sa, sb) => tst t && ckE Γ t e && ckSs Γ a sa && ckSs Γ b sb
    | none => false
  | .for_ tg it body, s => match asFor s with
    | some (t, i, b) => ckTg Γ tg t && ckI Γ it t i && ckSs Γ body b
    | none => false
  | .whil _ t body, s => match asWhile s with
    | some (e, b) => tst t && ckE Γ t e && ckSs Γ body b
    | none => false
  | .raise c x m, s => match asRaise s, Γ.g.lookup x with
    | some (y, m'), some (.cls c') => x == y && m == m' && c == c' && glB Γ x
    | _, _ => false
def ckSs (Γ : Ck) : List Sm → List Stmt → Bool
  | [], [] => true
  | c :: cs, s :: ss => ckS Γ c s && ckSs Γ cs ss
  | _, _ => false
end
/-- the context of a def -/
structure GoodF (T : Tb) (F : FS) (k : Nat) (E : XK) (Γ : Ck) (X : Cx) : Prop extends Good T F k E Γ X where
  kind : Γ.sc.kind = .function
  hp : PassesOwn (model X.prog X.w) X.A X.env X.xe
section
variable {T : Tb} {F : FS} {k n : Nat} {E : XK} {Γ : Ck} {X : Cx}
theorem tgName {Γ : Ck} {i : Nat} {x : Str} {e : Expr} (h : (match asName e with
    | some y => nmB Γ i x y && locB Γ x
    | none => false) = true) : ∃ p, e = .Name x p ∧ Γ.N[i]? = some x ∧ locB Γ x = true := by
  split at h
  · rename_i y ey
    obtain ⟨p, rfl⟩ := asName_eq ey
    simp only [Bool.and_eq_true] at h
    obtain ⟨rfl, h5⟩ := nmB_ok h.1
    exact ⟨p, rfl, h5, h.2⟩
  · cases h
theorem swNames_mem {sc : Scope} {ts : List Expr} {x : Str} (h : x ∈ swNames sc ts) : sc.names.lookup x = some .local := by
  unfold swNames at h
  obtain ⟨e, h1, h2⟩ := List.mem_filterMap.mp h
  split at h2
  · split at h2
    · rename_i c
      cases h2
      simp only [Bool.and_eq_true, beq_iff_eq] at c
      exact c.1
    · cases h2
  · cases h2
theorem swSt_mem {sc : Scope} {ts vs : List Expr} {ns : List Str} (h : swSt sc ts vs = some (some ns)) {x : Str} (hx : x ∈ ns) : sc.names.lookup x = some .local := by
  unfold swSt at h
  split at h
  · cases h
  · split at h
    · cases h
    · split at h
      · cases h
      · split at h
        · cases h
        · split at h
          · cases h
          · cases h
            exact swNames_mem hx
theorem swLoc2 {sc : Scope} {ts vs : List Expr} {i j : Nat} {x y : Str} (h : swSt sc ts vs = some (some ([(i, x), (j, y)].map (·.2)))) : sc.names.lookup x = some .local ∧ sc.names.lookup y = some .local := ⟨swSt_mem h (by simp), swSt_mem h (by simp)⟩
theorem swLoc3 {sc : Scope} {ts vs : List Expr} {i j l : Nat} {x y z : Str} (h : swSt sc ts vs = some (some ([(i, x), (j, y), (l, z)].map (·.2)))) : sc.names.lookup x = some .local ∧ sc.names.lookup y = some .local ∧ sc.names.lookup z = some .local := ⟨swSt_mem h (by simp), swSt_mem h (by simp), swSt_mem h (by simp)⟩
/-- a comprehension that may be stored by a swap -/
structure AsLc (T : Tb) (F : FS) (k : Nat) (E : XK) (Γ : Ck) (X : Cx) (e : Expr) (te : TE) : Prop where
  ex : ∃ e1 t it ifs s p own, ∃ (g : TG) (t1 : TT) (te1 : TE) (wi : TI), e = .ListComp e1 [⟨t, it, ifs, 0⟩] s p ∧ (∀ σ H Q, te σ H Q → tLc wi g t1 te1 (List.map (·.2) own) σ H Q) ∧ blkC Γ.N Γ.sc s own = true ∧ PI X t it wi ∧ (∀ x, foldedSetIterable it X.env x = pure x) ∧
    (∀ (s' : Shared) (H : Hp) (C : Addr) (cl : List (Str × Addr)) (fp : List Addr), PG (X.blk s' H s (compEnvC s cl C X.env) fp) t g) ∧ (∀ (s' : Shared) (H : Hp) (C : Addr) (cl : List (Str × Addr)) (fp : List Addr), PTs (X.blk s' H s (compEnvC s cl C X.env) fp) ifs t1) ∧
    ∀ (s' : Shared) (H : Hp) (C : Addr) (cl : List (Str × Addr)) (fp : List Addr), PE (X.blk s' H s (compEnvC s cl C X.env) fp) e1 te1
/-- name = value -/
theorem ck_set (G : GoodF T F k E Γ X) {i : Nat} {x y : Str} {py pos : Pos} {e : Expr} {te : TE} (h1 : nmB Γ i x y = true) (h2 : locB Γ x = true) (he : PE X e te)
    (hc : notComp e = true ∨ AsLc T F k E Γ X e te) :
    PS X (.Assign [.Name y py] e pos) (tAsg te (gName i)) := by
  obtain ⟨rfl, h5⟩ := nmB_ok h1
  obtain ⟨l1, l2⟩ := G.loc h2
  have hN : X.N.Nodup := by rw [G.N]; exact G.nd
  have hi : X.N[i]? = some x := by rw [G.N]; exact h5
  have hk : X.env.scope.kind = .function := by rw [G.sc]; exact G.kind
  rcases hc with hc | ⟨e1, t, it, ifs, s, p, own, g, t1, te1, wi, rfl, hw, c1, i1, i2, c3, c4, c5⟩
  · exact ps_set hN hi l1 he (sw_no hc) l2
  · cases hb : swB X.env.scope (.ListComp e1 [⟨t, it, ifs, 0⟩] s p) x py with
    | false => exact ps_set hN hi l1 he (sw_lc hk false hb) l2
    | true =>
      have hl : X.env.scope.names.lookup x = some .local := by
        unfold swB at hb
        simp only [Bool.and_eq_true] at hb
        have := hb.1.1
        split at this
        · rename_i z; exact z
        · cases this
      have ok : BlkOk X.N X.env.scope s own := by rw [G.N, G.sc]; exact blkOk_by c1
      exact (ps_setLc G.calm hN hi hl (sw_lc hk true hb) i1 ok c3 c4 c5 i2).weak fun D σ H q => hw σ H _ q
theorem asLc_of (G : Good T F k E Γ X) {own : List (Str × Nat)} {tg : Tg} {it : G9.It} {cond : Option G9.E} {elt : G9.E} {e1 t i : Expr} {ifs : List Expr} {sc : Scope} {p : Pos} {te : TE} (hw : ∀ σ H Q, te σ H Q → tLc (tI T F it E) (gT T.K tg) (tCond T F cond) (tE T F elt noX) (List.map (·.2) own) σ H Q)
    (g1 : blkC Γ.N Γ.sc sc own = true) (g3 : ckI Γ it t i = true) (g4 : ckTg (Γ.blk sc) tg t = true) (g5 : ckC (Γ.blk sc) cond ifs = true) (g6 : ckE (Γ.blk sc) elt e1 = true) : AsLc T F k E Γ X (.ListComp e1 [⟨t, i, ifs, 0⟩] sc p) te := by
  obtain ⟨i1, i2⟩ := ck_i it G g3
  exact ⟨_, _, _, _, _, _, own, _, _, _, _, rfl, hw, g1, i1, i2, (fun s' H C cl fp => ck_tg (G.blk sc s' H C cl fp) g4), (fun s' H C cl fp => ck_c cond (G.blk sc s' H C cl fp) g5), (fun s' H C cl fp => (ck_e elt (G.blk sc s' H C cl fp) g6).pe)⟩
/-- a new list of new lists -/
theorem ck_m (G : Good T F k E Γ X) {c : G9.E} {e : Expr} (h : ckM Γ c e = true) : PE X e (tM T F c E) ∧ AsLc T F k E Γ X e (tM T F c E) := by
  unfold ckM at h
  split at h
  · rename_i own tg it own2 tg2 it2 cond2 elt2
    split at h
    · rename_i e1 t i sc ey
      obtain ⟨p, rfl⟩ := asLc_eq ey
      simp only [Bool.and_eq_true] at h
      obtain ⟨⟨⟨⟨h1, h2⟩, h3⟩, h4⟩, h5⟩ := h
      obtain ⟨i1, i2⟩ := ck_i it G h3
      have hN : X.N.Nodup := by rw [G.N]; exact G.nd
      have ok : BlkOk X.N X.env.scope sc own := by rw [G.N, G.sc]; exact blkOk_by h1
      have hw := lc_semM (T := T) (F := F) (E := E) (own := own) (own2 := own2) (tg := tg) (tg2 := tg2) (it := it) (it2 := it2) (cond2 := cond2) (elt2 := elt2) (by simpa using h2)
      exact ⟨(pe_lc G.calm hN i1 ok (fun s' H C cl fp => ck_tg (G.blk sc s' H C cl fp) h4) (fun s' H C cl fp => pts_nil) (fun s' H C cl fp => ck_n (G.blk sc s' H C cl fp) h5) i2).weak hw,
        ⟨_, _, _, _, _, _, own, _, _, _, _, rfl, hw, h1, i1, i2, (fun s' H C cl fp => ck_tg (G.blk sc s' H C cl fp) h4), (fun s' H C cl fp => pts_nil), (fun s' H C cl fp => ck_n (G.blk sc s' H C cl fp) h5)⟩⟩
    · cases h
  · cases h
mutual
theorem ck_s : ∀ (c : Sm) {s : Stmt}, GoodF T F k E Γ X → ckS Γ c s = true → PS X s (tS T F n c E)
  | .asg (.nm i x) c, s, G, h => by
    unfold ckS at h
    split at h
    · rename_i t e es
      obtain ⟨p, rfl⟩ := asAsg_eq es
      split at h
      · rename_i y py et
        cases asNameP_eq et
        simp only [Bool.and_eq_true, Bool.or_eq_true] at h
        obtain ⟨⟨⟨h1, h2⟩, h3⟩, h4⟩ := h
        refine (ck_set G h1 h2 (ck_e c G.toGood h3).pe ?_).weak ss_asg
        rcases h4 with h4 | h4
        · exact .inl h4
        · split at h4
          · rename_i own tg it cond elt
            unfold ckE at h3
            split at h3
            · rename_i e1 t i ifs sc ey
              obtain ⟨p, rfl⟩ := asLc_eq ey
              simp only [Bool.and_eq_true] at h3
              obtain ⟨⟨⟨⟨⟨g1, g2⟩, g3⟩, g4⟩, g5⟩, g6⟩ := h3
              exact .inr (asLc_of G.toGood (lc_sem (by simpa using g2)) g1 g3 g4 g5 g6)
            · cases h3
          · cases h4
      · cases h
    · cases h
  | .asg (.tp xs) c, s, G, h => by
    unfold ckS at h
    split at h
    · rename_i t e es
      obtain ⟨p, rfl⟩ := asAsg_eq es
      split at h
      · rename_i ts et
        obtain ⟨j, p2, rfl⟩ := asTup_eq et
        simp only [Bool.and_eq_true] at h
        obtain ⟨⟨h1, h2⟩, h3⟩ := h
        have hg : PG X (.Tuple ts j p2) (gT T.K (.tp xs)) := ck_tg G.toGood (by unfold ckTg; simp only [asTup]; exact h1)
        refine (ps_asg (ck_e c G.toGood h2).pe hg sw_tupS ?_ rfl).weak ss_asg
        split at h3
        · rename_i vs ev
          obtain ⟨j', p', rfl⟩ := asTup_eq ev
          split at h3
          · rename_i hs
            exact sw_st (by rw [G.sc]; exact G.kind) (by rw [G.sc]; exact hs)
          · cases h3
        · exact sw_none ‹_›
      · cases h
    · cases h
  | .new i x j c, s, G, h => by
    unfold ckS at h
    split at h
    · rename_i t e es
      obtain ⟨p, rfl⟩ := asAsg_eq es
      split at h
      · rename_i y py et
        cases asNameP_eq et
        simp only [Bool.and_eq_true, Bool.or_eq_true] at h
        obtain ⟨⟨⟨h1, h2⟩, h3⟩, h4⟩ := h
        refine (ck_set G h1 h2 (ck_n G.toGood h3) ?_).weak ss_new
        rcases h4 with h4 | h4
        · exact .inl h4
        · split at h4
          · rename_i own tg it cond elt
            unfold ckN at h3
            simp only at h3
            split at h3
            · rename_i e1 t i ifs sc ey
              obtain ⟨p, rfl⟩ := asLc_eq ey
              simp only [Bool.and_eq_true] at h3
              obtain ⟨⟨⟨⟨⟨g1, g2⟩, g3⟩, g4⟩, g5⟩, g6⟩ := h3
              exact .inr (asLc_of G.toGood (lc_semN (by simpa using g2)) g1 g3 g4 g5 g6)
            · cases h3
          · cases h4
      · cases h
    · cases h
  | .fz i x c, s, G, h => by
    unfold ckS at h
    split at h
    · rename_i t e es
      obtain ⟨p, rfl⟩ := asAsg_eq es
      split at h
      · rename_i y py et
        cases asNameP_eq et
        simp only [Bool.and_eq_true] at h
        obtain ⟨⟨⟨h1, h2⟩, h3⟩, h4⟩ := h
        exact (ck_set G h1 h2 (ck_e c G.toGood h3).pe (.inl h4)).weak ss_fz
      · cases h
    · cases h
  | .par xs cs, s, G, h => by
    unfold ckS at h
    split at h
    · rename_i t e es
      obtain ⟨p, rfl⟩ := asAsg_eq es
      split at h
      · rename_i ts vs et ev
        obtain ⟨j1, p1, rfl⟩ := asTup_eq et
        obtain ⟨j2, p2, rfl⟩ := asTup_eq ev
        split at h
        · rename_i ns hs
          simp only [Bool.and_eq_true, beq_iff_eq] at h
          obtain ⟨⟨⟨h1, h2⟩, h3⟩, h4⟩ := h
          subst h3
          have hk : X.env.scope.kind = .function := by rw [G.sc]; exact G.kind
          have hN : X.N.Nodup := by rw [G.N]; exact G.nd
          have hw := sw_st (j := j1) (j' := j2) (p := p1) (p' := p2) hk (by rw [G.sc]; exact hs)
          have pa := (ck_es cs G.toGood h2).1
          split at h4
          · rename_i i x j y
            simp only [Bool.and_eq_true, beq_iff_eq, bne_iff_ne] at h4
            match ts, h1 with
            | [t1, t2], h1 =>
              unfold ckTgs ckTgs at h1
              simp only [Bool.and_eq_true] at h1
              obtain ⟨a1, a2, a3⟩ := h1
              obtain ⟨q1, rfl, b1, c1⟩ := tgName a1
              obtain ⟨q2, rfl, b2, c2⟩ := tgName a2
              obtain ⟨d1, d2⟩ := swLoc2 hs
              match vs, h4.1, pa, hw with
              | [v1, v2], _, pa, hw => exact (ps_par G.calm hN (by rw [G.N]; exact b1) (by rw [G.N]; exact b2) h4.2 (by rw [G.sc]; exact d1) (by rw [G.sc]; exact d2) pa hw sw_tupS).weak ss_par2
            | [], h1 => unfold ckTgs at h1; cases h1
            | [_], h1 => unfold ckTgs ckTgs at h1; simp at h1
            | _ :: _ :: _ :: _, h1 => unfold ckTgs ckTgs ckTgs at h1; simp at h1
          · rename_i i x j y l z
            simp only [Bool.and_eq_true, beq_iff_eq, bne_iff_ne] at h4
            match ts, h1 with
            | [t1, t2, t3], h1 =>
              unfold ckTgs ckTgs ckTgs at h1
              simp only [Bool.and_eq_true] at h1
              obtain ⟨a1, a2, a3, a4⟩ := h1
              obtain ⟨q1, rfl, b1, c1⟩ := tgName a1
              obtain ⟨q2, rfl, b2, c2⟩ := tgName a2
              obtain ⟨q3, rfl, b3, c3⟩ := tgName a3
              obtain ⟨d1, d2, d3⟩ := swLoc3 hs
              match vs, h4.1.1.1, pa, hw with
              | [v1, v2, v3], _, pa, hw => exact (ps_par3 G.calm hN (by rw [G.N]; exact b1) (by rw [G.N]; exact b2) (by rw [G.N]; exact b3) h4.1.1.2 h4.1.2 h4.2 (by rw [G.sc]; exact d1) (by rw [G.sc]; exact d2) (by rw [G.sc]; exact d3) pa hw sw_tupS).weak ss_par3
            | [], h1 => unfold ckTgs at h1; cases h1
            | [_], h1 => unfold ckTgs ckTgs at h1; simp at h1
            | [_, _], h1 => unfold ckTgs ckTgs ckTgs at h1; simp at h1
            | _ :: _ :: _ :: _ :: _, h1 => unfold ckTgs ckTgs ckTgs ckTgs at h1; simp at h1
          · cases h4
        · cases h
      · cases h
    · cases h
  | .parN i x i' x' j a b, s, G, h => by
    unfold ckS at h
    split at h
    · rename_i t e es
      obtain ⟨p, rfl⟩ := asAsg_eq es
      split at h
      · rename_i ts ea eb et ev
        obtain ⟨j1, p1, rfl⟩ := asTup_eq et
        obtain ⟨j2, p2, rfl⟩ := asTup_eq ev
        split at h
        · rename_i ns hs
          simp only [Bool.and_eq_true, beq_iff_eq, bne_iff_ne] at h
          obtain ⟨⟨⟨⟨⟨⟨h1, h2⟩, h3⟩, h4⟩, h5⟩, h6⟩, h7⟩ := h
          subst h6
          have hk : X.env.scope.kind = .function := by rw [G.sc]; exact G.kind
          have hN : X.N.Nodup := by rw [G.N]; exact G.nd
          have hw := sw_st (j := j1) (j' := j2) (p := p1) (p' := p2) hk (by rw [G.sc]; exact hs)
          match ts, h1 with
          | [t1, t2], h1 =>
            unfold ckTgs ckTgs at h1
            simp only [Bool.and_eq_true] at h1
            obtain ⟨a1, a2, a3⟩ := h1
            obtain ⟨q1, rfl, b1, c1⟩ := tgName a1
            obtain ⟨q2, rfl, b2, c2⟩ := tgName a2
            obtain ⟨d1, d2⟩ := swLoc2 (i := i) (j := i') hs
            exact (ps_par G.calm hN (by rw [G.N]; exact b1) (by rw [G.N]; exact b2) h7 (by rw [G.sc]; exact d1) (by rw [G.sc]; exact d2) (pa_cons (ck_e a G.toGood h4).pe (pa_cons (ck_n G.toGood h5) pa_nil (star_cons h3)) (star_cons h2)) hw sw_tupS).weak ss_parN
          | [], h1 => unfold ckTgs at h1; cases h1
          | [_], h1 => unfold ckTgs ckTgs at h1; simp at h1
          | _ :: _ :: _ :: _, h1 => unfold ckTgs ckTgs ckTgs at h1; simp at h1
        · cases h
      · cases h
    · cases h
  | .setix o i c, s, G, h => by
    unfold ckS at h
    split at h
    · rename_i t e es
      obtain ⟨p, rfl⟩ := asAsg_eq es
      split at h
      · rename_i eo ei et
        obtain ⟨p2, rfl⟩ := asSub_eq et
        simp only [Bool.and_eq_true] at h
        obtain ⟨⟨⟨h1, h2⟩, h3⟩, h4⟩ := h
        exact (ps_asg (ck_e c G.toGood h4).pe (pg_sub (ck_e o G.toGood h2).pe (ck_e i G.toGood h3).pe set_list (fun v => by cases ei <;> first | rfl | cases h1)) sw_subS sw_subN rfl).weak ss_setix
      · cases h
    · cases h
  | .setix2 o i j c, s, G, h => by
    unfold ckS at h
    split at h
    · rename_i t e es
      obtain ⟨p, rfl⟩ := asAsg_eq es
      split at h
      · rename_i e1 ej et
        obtain ⟨p2, rfl⟩ := asSub_eq et
        split at h
        · rename_i eo ei et'
          obtain ⟨p3, rfl⟩ := asSub_eq et'
          simp only [Bool.and_eq_true] at h
          obtain ⟨⟨⟨⟨⟨h1, h2⟩, h3⟩, h4⟩, h5⟩, h6⟩ := h
          have pr : PE X (.Subscript eo ei p3) (tOp (rL T.K) (tE T F o E) (tE T F i E)) := by
            have := pe_ix (pos := p3) ix_list (ck_e o G.toGood h3).pe (ck_e i G.toGood h4).pe (plainIx_of h1)
            rw [G.of.K] at this
            exact this
          exact (ps_asg (ck_e c G.toGood h6).pe (pg_sub pr (ck_e j G.toGood h5).pe set_list (fun v => by cases ej <;> first | rfl | cases h2)) sw_subS sw_subN rfl).weak ss_setix2
        · cases h
      · cases h
    · cases h
  | .newm i x j c, s, G, h => by
    unfold ckS at h
    split at h
    · rename_i t e es
      obtain ⟨p, rfl⟩ := asAsg_eq es
      split at h
      · rename_i y py et
        cases asNameP_eq et
        simp only [Bool.and_eq_true] at h
        obtain ⟨⟨h1, h2⟩, h3⟩ := h
        obtain ⟨m1, m2⟩ := ck_m G.toGood h3
        exact (ck_set G h1 h2 m1 (.inr m2)).weak ss_newm
      · cases h
    · cases h
  | .newd i x j, s, G, h => by
    unfold ckS at h
    split at h
    · rename_i t e es
      obtain ⟨p, rfl⟩ := asAsg_eq es
      split at h
      · rename_i y py et
        cases asNameP_eq et
        simp only [Bool.and_eq_true] at h
        obtain ⟨⟨h1, h2⟩, h3⟩ := h
        obtain ⟨q, rfl⟩ := asDict0_eq h3
        exact (ck_set G h1 h2 pe_dnewT (.inl rfl)).weak ss_newd
      · cases h
    · cases h
  | .setk o c, s, G, h => by
    unfold ckS at h
    split at h
    · rename_i t e es
      obtain ⟨p, rfl⟩ := asAsg_eq es
      split at h
      · rename_i eo ei et ec
        obtain ⟨p2, rfl⟩ := asSub_eq et
        obtain ⟨j, p3, rfl⟩ := asConst_eq ec
        simp only [Bool.and_eq_true] at h
        obtain ⟨⟨h1, h2⟩, h3⟩ := h
        have hu : X.A.units + 1 < cLine := by have := G.room.un; omega
        exact (ps_asg pe_bl (pg_sub (ck_e o G.toGood h2).pe (ck_e c G.toGood h3).pe (set_dict hu) (fun v => by cases ei <;> first | rfl | cases h1)) sw_subS sw_subN rfl).weak ss_setk
      · cases h
    · cases h
  | .app o c, s, G, h => by
    unfold ckS at h
    split at h
    · rename_i e es
      obtain ⟨p, rfl⟩ := asExp_eq es
      split at h
      · rename_i eo m ea et
        obtain ⟨ap, cp, x, p2, rfl, rfl, hl⟩ := asMt_eq et
        simp only [Bool.and_eq_true, beq_iff_eq] at h
        obtain ⟨⟨⟨rfl, h2⟩, h3⟩, h4⟩ := h
        have pm := pe_bm (apos := ap) (cpos := cp) PySem.F.plainAttrs_list PySem.F.slot_list_append PySem.F.type_list_append mt_append (ck_e o G.toGood h3).pe (pa_cons (ck_e c G.toGood h4).pe pa_nil (star_cons h2)) rfl (by rw [star_cons h2]; rfl) hl (star_cons h2) rfl
        rw [G.of.K] at pm
        exact (ps_expr pm rfl).weak ss_app
      · cases h
    · cases h
  | .ext o c, s, G, h => by
    unfold ckS at h
    split at h
    · rename_i e es
      obtain ⟨p, rfl⟩ := asExp_eq es
      split at h
      · rename_i eo m ea et
        obtain ⟨ap, cp, x, p2, rfl, rfl, hl⟩ := asMt_eq et
        simp only [Bool.and_eq_true, beq_iff_eq] at h
        obtain ⟨⟨⟨rfl, h2⟩, h3⟩, h4⟩ := h
        have pm := pe_bm (apos := ap) (cpos := cp) PySem.F.plainAttrs_list PySem.F.slot_list_extend PySem.F.type_list_extend mt_extend (ck_e o G.toGood h3).pe (pa_cons (ck_e c G.toGood h4).pe pa_nil (star_cons h2)) rfl (by rw [star_cons h2]; rfl) hl (star_cons h2) rfl
        rw [G.of.K] at pm
        exact (ps_expr pm rfl).weak ss_ext
      · cases h
    · cases h
  | .expr c, s, G, h => by
    unfold ckS at h
    split at h
    · rename_i e es
      obtain ⟨p, rfl⟩ := asExp_eq es
      simp only [Bool.and_eq_true] at h
      exact (ps_expr (ck_e c G.toGood h.2).pe (sw_no h.1)).weak ss_expr
    · cases h
  | .aug .., s, G, h => by unfold ckS at h; cases h
  | .ret c, s, G, h => by
    unfold ckS at h
    split at h
    · rename_i e es
      obtain ⟨p, rfl⟩ := asRet_eq es
      exact (ps_ret (ck_e c G.toGood h).pe).weak ss_ret
    · cases h
  | .iff t a b, s, G, h => by
    unfold ckS at h
    split at h
    · rename_i e sa sb es
      obtain ⟨p, rfl⟩ := asIfS_eq es
      simp only [Bool.and_eq_true] at h
      obtain ⟨⟨⟨h1, h2⟩, h3⟩, h4⟩ := h
      exact (ps_if ((ck_e t G.toGood h2).pt h1) (ck_ss a G h3) (ck_ss b G h4)).weak ss_iff
    · cases h
  | .for_ tg it body, s, G, h => by
    unfold ckS at h
    split at h
    · rename_i t i b es
      obtain ⟨p, rfl⟩ := asFor_eq es
      simp only [Bool.and_eq_true] at h
      obtain ⟨⟨h1, h2⟩, h3⟩ := h
      obtain ⟨i1, i2⟩ := ck_i it G.toGood h2
      exact (ps_for G.hp G.calm i1 (ck_tg G.toGood h1) (ck_ss body G h3) i2).weak ss_for
    · cases h
  | .whil m t body, s, G, h => by
    unfold ckS at h
    split at h
    · rename_i e b es
      obtain ⟨p, rfl⟩ := asWhile_eq es
      simp only [Bool.and_eq_true] at h
      obtain ⟨⟨h1, h2⟩, h3⟩ := h
      exact (ps_while G.hp ((ck_e t G.toGood h2).pt h1) (ck_ss body G h3)).weak ss_whil
    · cases h
  | .raise c x m, s, G, h => by
    unfold ckS at h
    split at h
    · rename_i y m' c' es eg
      obtain ⟨p1, p2, p3, p4, j, rfl⟩ := asRaise_eq es
      simp only [Bool.and_eq_true, beq_iff_eq] at h
      obtain ⟨⟨⟨rfl, rfl⟩, rfl⟩, h4⟩ := h
      have ca : ClsAt T c x := G.gl _ _ eg
      obtain ⟨B, nw, ini, bm, f1, f2⟩ := ca.ex
      obtain ⟨a1, a2, a3⟩ := G.gl' h4
      refine (ps_raise G.calm G.tk (pmk_own f1 (by rw [G.of.K]; exact f2) (by rw [G.of.mg]; exact ca.mg) (by rw [G.of.K]; exact ca.kp) (raises_own (by rw [G.of.K]; exact ca.s1) (by rw [G.of.K]; exact ca.s2)) a1 a2)).weak fun D σ H q => ss_raise D σ H q
    · cases h
theorem ck_ss : ∀ (cs : List Sm) {ss : List Stmt}, GoodF T F k E Γ X → ckSs Γ cs ss = true → PSs X ss (tSs T F n cs E)
  | [], [], G, h => pss_nil.weak ss_nil
  | [], _ :: _, G, h => by unfold ckSs at h; cases h
  | _ :: _, [], G, h => by unfold ckSs at h; cases h
  | c :: cs, s :: ss, G, h => by
    unfold ckSs at h
    simp only [Bool.and_eq_true] at h
    exact (pss_cons (ck_s c G h.1) (ck_ss cs G h.2)).weak ss_cons
end
end
end G9

/-! text E20 -/
/-! G9.E20: defs. -/
namespace G9
open PySem PySem.Spec PyProof.Rows L2

theorem StOk.enter {ι : Foot} {S : Store} {H : Hp} (h : StOk ι S H) (m : Nat) : StOk ⟨ι.c ++ List.replicate m [], ι.x⟩ (S ++ List.replicate m .nil) H := by
  have fl : (ι.c ++ List.replicate m ([] : List Addr)).flatten = ι.c.flatten := by simp
  have al : (Foot.mk (ι.c ++ List.replicate m []) ι.x).all = ι.all := by unfold Foot.all; simp only [fl]
  refine ⟨by simp [h.len], by rw [al]; exact h.nd, fun k fp c e1 e2 => ?_, h.ex⟩
  rw [al]
  simp only at e1
  by_cases q : k < ι.c.length
  · rw [List.getElem?_append_left q] at e1
    rw [List.getElem?_append_left (by rw [← h.len]; exact q)] at e2
    exact h.cell k fp c e1 e2
  · rw [List.getElem?_append_right (by omega)] at e1
    rw [List.getElem?_append_right (by rw [← h.len]; omega)] at e2
    have z1 := List.mem_of_getElem? e1
    have z2 := List.mem_of_getElem? e2
    rw [List.mem_replicate] at z1 z2
    rw [z1.2, z2.2]
    exact .nil
theorem Rps.envOk {T : Tb} {ι : Foot} {H : Hp} {vs : List V} {ds : List D} (r : Rps T ι H vs ds) (N : List Str) (m : Nat) (hm : m = N.length - ds.length) : EnvOk T ι (ds.map some ++ List.replicate m none) (L2.start N vs) H := by
  unfold L2.start
  refine ⟨by simp [r.length, hm], fun i d e => ?_⟩
  by_cases q : i < ds.length
  · rw [List.getElem?_append_left (by simpa using q), List.getElem?_map] at e
    cases ed : ds[i]? with
    | none => rw [ed] at e; cases e
    | some d' =>
      rw [ed] at e
      cases e
      obtain ⟨v, h1, h2⟩ := r.get ed
      refine ⟨v, ?_, h2⟩
      rw [List.getElem?_append_left (by rw [List.length_map, r.length]; exact q), List.getElem?_map, h1]
      rfl
  · rw [List.getElem?_append_right (by simpa using q)] at e
    have z := List.mem_of_getElem? e
    rw [List.mem_replicate] at z
    exact absurd z.2 (by simp)
/-- behind a frame -/
theorem PostS.leave {ι ι' : Foot} {S S' : Store} {H H' : Hp} {m : Nat} (hs : StOk ι S H) (p : PostS S.length ⟨ι.c ++ List.replicate m [], ι.x⟩ H ι' H' S') : Post ι H H' (S'.take S.length) := by
  have fl : (ι.c ++ List.replicate m ([] : List Addr)).flatten = ι.c.flatten := by simp
  have lo : ∀ k, k < S.length → ι'.c[k]? = ι.c[k]? := fun k hk => by
    rw [p.low k hk]
    show (ι.c ++ List.replicate m [])[k]? = _
    rw [List.getElem?_append_left (by rw [hs.len]; exact hk)]
  have sub : ∀ a, a ∈ ι.all → a ∈ ι'.all := fun a ha => by
    unfold Foot.all at ha ⊢
    rcases List.mem_append.mp ha with ha | ha
    · obtain ⟨fp, h1, h2⟩ := List.mem_flatten.mp ha
      obtain ⟨k, hk⟩ := List.mem_iff_getElem?.mp h1
      have hl : k < S.length := by rw [← hs.len]; exact (List.getElem?_eq_some_iff.mp hk).1
      rw [← lo k hl] at hk
      exact List.mem_append_left _ (List.mem_flatten.mpr ⟨fp, List.mem_of_getElem? hk, h2⟩)
    · exact List.mem_append_right _ (by rw [p.x]; exact ha)
  have len : S.length ≤ S'.length := by
    rw [← p.ok.len, p.len]
    simp [hs.len]
  refine ⟨fun a o e h => p.keep a o e (by show a ∉ (ι.c ++ List.replicate m []).flatten; rw [fl]; exact h), ⟨?_, hs.nd, fun k fp c e1 e2 => ?_, fun a ha => ?_⟩⟩
  · rw [List.length_take, Nat.min_eq_left len, hs.len]
  · have hk : k < S.length := by rw [← hs.len]; exact (List.getElem?_eq_some_iff.mp e1).1
    rw [List.getElem?_take_of_lt hk] at e2
    rw [← lo k hk] at e1
    exact (p.ok.cell k fp c e1 e2).mono (fun a o e _ => e) fun a ha => .inl (sub a ha)
  · obtain ⟨o, e⟩ := hs.ex a ha
    exact p.ok.ex a (by rw [p.x]; exact ha)
section
variable {T : Tb} {ι ι' : Foot} {S S' : Store} {H H' : Hp} {m : Nat}
theorem all_leave (hs : StOk ι S H) (p : PostS S.length ⟨ι.c ++ List.replicate m [], ι.x⟩ H ι' H' S') : ∀ a, a ∈ ι.all → a ∈ ι'.all := fun a ha => by
  unfold Foot.all at ha ⊢
  rcases List.mem_append.mp ha with ha | ha
  · obtain ⟨fp, h1, h2⟩ := List.mem_flatten.mp ha
    obtain ⟨k, hk⟩ := List.mem_iff_getElem?.mp h1
    have hl : k < S.length := by rw [← hs.len]; exact (List.getElem?_eq_some_iff.mp hk).1
    have e : ι'.c[k]? = ι.c[k]? := by
      rw [p.low k hl]
      show (ι.c ++ List.replicate m [])[k]? = _
      rw [List.getElem?_append_left (by rw [hs.len]; exact hl)]
    rw [← e] at hk
    exact List.mem_append_left _ (List.mem_flatten.mpr ⟨fp, List.mem_of_getElem? hk, h2⟩)
  · exact List.mem_append_right _ (by rw [p.x]; exact ha)
theorem no_leave (hs : StOk ι S H) (p : PostS S.length ⟨ι.c ++ List.replicate m [], ι.x⟩ H ι' H' S') {k : Nat} {fp : List Addr} (hk : ¬ k < S.length) (g1 : ι'.c[k]? = some fp) : ∀ a ∈ fp, a ∉ ι.all := fun a ha z => by
  obtain ⟨n1, n2, n3⟩ := Foot.nd p.ok.nd
  unfold Foot.all at z
  rcases List.mem_append.mp z with z | z
  · obtain ⟨fp', h1, h2⟩ := List.mem_flatten.mp z
    obtain ⟨j, hj⟩ := List.mem_iff_getElem?.mp h1
    have hl : j < S.length := by rw [← hs.len]; exact (List.getElem?_eq_some_iff.mp hj).1
    have e : ι'.c[j]? = ι.c[j]? := by
      rw [p.low j hl]
      show (ι.c ++ List.replicate m [])[j]? = _
      rw [List.getElem?_append_left (by rw [hs.len]; exact hl)]
    rw [← e] at hj
    have := flat_inj (a := a) n1 hj g1 h2 ha
    omega
  · exact n3 a (List.mem_flatten.mpr ⟨fp, List.mem_of_getElem? g1, ha⟩) (by rw [p.x]; exact z)
theorem rows_rp {av av' : List Addr} {H : Hp} (sub : ∀ a, a ∈ av' → a ∈ av) : ∀ {as : List Addr} {rows : List (List P)}, RowsOk av H as rows → (∀ a ∈ as, a ∉ av') → RpPs av' H (as.map V.ref) (rows.map P.lst)
  | _, _, .nil, _ => .nil
  | _, _, .cons h1 h2 h3 t, n => .cons (.lst h1 (n _ List.mem_cons_self) h2 (h3.mono (fun a o e _ => e) fun a ha => .inl (sub a ha))) (rows_rp sub t fun a ha => n a (List.mem_cons_of_mem _ ha))
/-- what a frame hands back -/
theorem frz_one (hs : StOk ι S H) (p : PostS S.length ⟨ι.c ++ List.replicate m [], ι.x⟩ H ι' H' S') {v : V} {k : Nat} {x : P} (hk : ¬ k < S.length) (r : Rp T ι' H' v (.ref k)) (e : viewF S' k = some x) : RpP ι.all H' v x := by
  unfold viewF at e
  split at e
  · rename_i xs ex
    cases e
    obtain ⟨a, vs, rfl, g1, g2, g3, g4⟩ := r.cell p.ok ex
    exact .lst g2 (no_leave hs p hk g1 a (by simp)) g3 (g4.mono (fun a o e _ => e) fun a ha => .inl (all_leave hs p a ha))
  · rename_i rows ex
    cases e
    obtain ⟨a, as, rfl, g1, g2, g3, g4⟩ := r.mcell p.ok ex
    exact .lst g2 (no_leave hs p hk g1 a (by simp)) (by rw [List.length_map]; exact g3) (rows_rp (all_leave hs p) g4 fun b hb => no_leave hs p hk g1 b (List.mem_cons_of_mem _ hb))
  · cases e
theorem frz_ref (hs : StOk ι S H) (p : PostS S.length ⟨ι.c ++ List.replicate m [], ι.x⟩ H ι' H' S') {v : V} {k : Nat} (hk : k < S.length) (r : Rp T ι' H' v (.ref k)) : Rp T ι H' v (.ref k) := by
  cases r with
  | ref h1 h2 =>
    refine .ref (by rw [hs.len]; exact hk) fun a fp e => h2 a fp ?_
    rw [p.low k hk]
    show (ι.c ++ List.replicate m [])[k]? = _
    rw [List.getElem?_append_left (by rw [hs.len]; exact hk)]
    exact e
theorem frzs_ok (hs : StOk ι S H) (p : PostS S.length ⟨ι.c ++ List.replicate m [], ι.x⟩ H ι' H' S') : ∀ {vs : List V} {ds es : List D}, Rps T ι' H' vs ds → frzs S.length S' ds = some es → Rps T ι H' vs es
  | _, [], es, .nil, e => by cases e; exact .nil
  | _, d :: ds, es, .cons r t, e => by
    cases d with
    | p x =>
      unfold frzs at e
      cases q : frzs S.length S' ds with
      | none => rw [q] at e; cases e
      | some l =>
        rw [q] at e
        cases e
        cases r with
        | p r => exact .cons (.p (r.mono (fun a o e _ => e) fun a ha => .inl (all_leave hs p a ha))) (frzs_ok hs p t q)
    | ref k =>
      unfold frzs at e
      by_cases c : k < S.length
      · rw [if_pos c] at e
        cases q : frzs S.length S' ds with
        | none => rw [q] at e; cases e
        | some l =>
          rw [q] at e
          cases e
          exact .cons (frz_ref hs p c r) (frzs_ok hs p t q)
      · rw [if_neg c] at e
        split at e
        · rename_i x ev
          cases q : frzs S.length S' ds with
          | none => rw [q] at e; cases e
          | some l =>
            rw [q] at e
            cases e
            exact .cons (.p (frz_one hs p c r ev)) (frzs_ok hs p t q)
        · cases e
    | fn f => simp [frzs] at e
    | scr f => simp [frzs] at e
    | tp f => simp [frzs] at e
theorem frz_ok (hs : StOk ι S H) (p : PostS S.length ⟨ι.c ++ List.replicate m [], ι.x⟩ H ι' H' S') {v : V} {d d' : D} (r : Rp T ι' H' v d) (e : frz S.length S' d = some d') : Rp T ι H' v d' := by
  cases d with
  | p x =>
    cases e
    cases r with
    | p r => exact .p (r.mono (fun a o e _ => e) fun a ha => .inl (all_leave hs p a ha))
  | fn f => cases e; cases r; exact .fn f
  | scr f => cases e
  | ref k =>
    unfold frz at e
    by_cases c : k < S.length
    · simp only [c, if_true] at e
      cases e
      exact frz_ref hs p c r
    · simp only [c, if_false] at e
      cases q : viewF S' k with
      | none => rw [q] at e; cases e
      | some x =>
        rw [q] at e
        cases e
        exact .p (frz_one hs p c r q)
  | tp xs =>
    unfold frz at e
    simp only at e
    cases q : frzs S.length S' xs with
    | none => rw [q] at e; cases e
    | some es =>
      rw [q] at e
      cases e
      cases r with
      | tp h1 h2 h3 h4 =>
        have h5 := frzs_ok hs p h4 q
        have na : ∀ {a : Addr}, a ∉ ι'.all → a ∉ ι.all := fun h z => h (all_leave hs p _ z)
        show Rp T ι H' _ (mkTup es)
        unfold mkTup
        split
        · rename_i l el
          exact .p (.tup h1 (na h2) h3 (h5.toP el))
        · exact .tp h1 (na h2) h3 h5
end
/-- the def of a check -/
structure DefAt (T : Tb) (names : List Str) (np : Nat) (f : Nat) (ps : List Str) (scope : Scope) (body : List Stmt) (fd : FuncData) : Prop where
  ex : ∃ x qual params, FunD T.K x qual params body scope [] [] (T.fa f) fd
  sc : FnScope names ps scope
  np : ps.length = np
section
variable {T : Tb} {F : FS} {k : Nat} {d : Fd} {f : Nat} {ps : List Str} {scope : Scope} {body : List Stmt} {fd : FuncData} {g : List (Str × Gv)}
theorem goodF (hg : ∀ x v, g.lookup x = some v → GvOk T F k x v) {names : List Str} (sc : FnScope names ps scope) {qual : Str} {cdv : Value} {A : Around} {outer : List PySem.Env} {s : Shared} {H : Hp} {E : XK} (hr : Room k (A.deeper (envOfC qual scope s.heap.objs.size (T.fa f) cdv))) :
    GoodF T F k E ⟨names, scope, none, g⟩ (cxOf (L2.CX T.prog T.w) T.prog T.w T.K T.mg T.base names qual scope (T.fa f) cdv A outer s H E) where
  of := ⟨rfl, rfl, rfl, rfl, rfl⟩
  N := rfl
  nd := sc.nd
  sc := rfl
  calm := rfl
  room := hr
  tk := takes_of rfl rfl rfl rfl
  gl := hg
  fn := fun _ => rfl
  kind := sc.kind
  hp := passes_of rfl
theorem fn_ast (D : DefAt T d.names d.np f ps scope body fd) (hg : ∀ x v, g.lookup x = some v → GvOk T F k x v) (hc : ckSs ⟨d.names, scope, none, g⟩ d.body body = true) :
    FnOk T.prog T.w T.K T.mg T.base (L2.CX T.prog T.w) (k + 1) (T.fa f) fd ps (spF T ps.length (runFd F d) false) := by
  obtain ⟨x, qual, params, FD⟩ := D.ex
  refine FD.ok D.sc (fun vs H Q E h => h.1) fun cdv A outer s H vs Q E hr h => ?_
  obtain ⟨hl, ds, S, ι, rp, hs, h⟩ := h
  have h : Out T E ι H (runFd F d ds S) Q := h
  refine ⟨tSs T F S.length d.body E, ck_ss d.body (goodF hg D.sc hr) hc, ?_⟩
  have hd : ds.length = d.np := by rw [← rp.length, hl, D.np]
  unfold runFd at h
  rw [if_pos hd] at h
  have rp0 : Rps T ⟨ι.c ++ List.replicate d.cells [], ι.x⟩ H vs ds := by
    have fl : (ι.c ++ List.replicate d.cells ([] : List Addr)).flatten = ι.c.flatten := by simp
    have al : (Foot.mk (ι.c ++ List.replicate d.cells []) ι.x).all = ι.all := by unfold Foot.all; simp only [fl]
    refine rp.mono ⟨fun _ _ e _ => e, fun a ha => .inl (by rw [← al]; exact ha)⟩ (by simp) fun j a fp hj e => ⟨fp, ?_⟩
    simp only at e
    rw [List.getElem?_append_left hj] at e
    exact e
  refine ⟨ds.map some ++ List.replicate (d.names.length - d.np) none, S ++ List.replicate d.cells .nil, ⟨ι.c ++ List.replicate d.cells [], ι.x⟩, rp0.envOk d.names _ (by rw [hd]), hs.enter d.cells, ?_⟩
  cases e : evSs F S.length d.body (ds.map some ++ List.replicate (d.names.length - d.np) none) (S ++ List.replicate d.cells .nil) with
  | bad => rw [e] at h; exact h
  | nx ρ' S' =>
    rw [e] at h
    exact fun ι' σ' H' p _ => h .non H' (p.leave hs) (.p .non)
  | ex c S' =>
    rw [e] at h
    exact fun ι' H' p => h H' (p.leave hs)
  | rt r S' =>
    rw [e] at h
    intro ι' v H' p rr
    simp only at h
    cases q : frz S.length S' r with
    | none => rw [q] at h; exact h.elim
    | some r' =>
      rw [q] at h
      exact h v H' (p.leave hs) (frz_ok hs p rr q)
/-- a def that hands back a list of its own making: return .. alone -/
theorem fn_new {names : List Str} {np : Nat} {c : G9.E} {e : Expr} {p : Pos} (D : DefAt T names np f ps scope [.Return (some e) p] fd) (hg : ∀ x v, g.lookup x = some v → GvOk T F k x v) (hc : ckN ⟨names, scope, none, g⟩ c e = true) :
    FnOk T.prog T.w T.K T.mg T.base (L2.CX T.prog T.w) (k + 1) (T.fa f) fd ps (spF T ps.length (runNew F np names c) true) := by
  obtain ⟨x, qual, params, FD⟩ := D.ex
  refine FD.ok D.sc (fun vs H Q E h => h.1) fun cdv A outer s H vs Q E hr h => ?_
  obtain ⟨hl, ds, S, ι, rp, hs, h⟩ := h
  have h : OutN T E ι H (runNew F np names c ds S) Q := h
  refine ⟨tRet (tN T F c E), pss_one (ps_ret (ck_n (goodF hg D.sc hr).toGood hc)), ?_⟩
  have hd' : ds.length = np := by rw [← rp.length, hl, D.np]
  unfold runNew at h
  rw [if_pos hd'] at h
  exact ⟨_, S, ι, rp.envOk names _ (by rw [hd']), hs, h⟩
end
end G9

/-! text E21 -/
/-! G9.E21: a whole text: its table of defs, the check of all of it, what the law's def promises. -/
namespace G9
open PySem PySem.Spec PyProof.Rows L2

def Df.name : Df → Str
  | .ast d => d.name
  | .new x _ _ _ => x
  | .nat x _ _ => x
def Df.fr : Df → Bool
  | .new .. => true
  | _ => false
/-- a def of the text: what it does, its statement -/
structure Dx where
  df : Df
  st : Stmt
def psOf (st : Stmt) : List Str := (defArgs st).args.map (·.arg)
def scB (N ps : List Str) (sc : Scope) : Bool := (match sc.kind with | .function => true | _ => false) && !sc.isCoroutine && !sc.isGenerator && decide N.Nodup && (N.take ps.length == ps) &&
  (ps.all fun x => match sc.names.lookup x with | some .local => true | some .cell => true | _ => false) && sc.names.all fun y => match y.2 with | .free => false | _ => true
theorem scB_ok {N ps : List Str} {sc : Scope} (h : scB N ps sc = true) : FnScope N ps sc := by
  unfold scB at h
  simp only [Bool.and_eq_true, decide_eq_true_eq, List.all_eq_true, beq_iff_eq, Bool.not_eq_true'] at h
  obtain ⟨⟨⟨⟨⟨⟨h1, h2⟩, h3⟩, h4⟩, h5⟩, h6⟩, h7⟩ := h
  refine ⟨?_, h2, h3, h4, h5, fun x hx => ?_, fun y hy z => ?_⟩
  · split at h1
    · assumption
    · cases h1
  · have := h6 x hx
    split at this
    · exact .inl ‹_›
    · exact .inr ‹_›
    · cases this
  · have := h7 y hy
    rw [z] at this
    cases this
/-- the check of a def -/
def ckD (g : List (Str × Gv)) (d : Dx) : Bool := match d.df with
  | .ast a => scB a.names (psOf d.st) (defScope d.st) && (psOf d.st).length == a.np && ckSs ⟨a.names, defScope d.st, none, g⟩ a.body (defBody d.st)
  | .new _ np names c => scB names (psOf d.st) (defScope d.st) && (psOf d.st).length == np && (match defBody d.st with
    | [.Return (some e) _] => ckN ⟨names, defScope d.st, none, g⟩ c e
    | _ => false)
  | .nat .. => true
/-- .. of the names -/
def ckG (g : List (Str × Gv)) (cs : List Str) (ds : List Dx) : Bool := g.all fun q => match q.2 with
  | .fn f fr => (match ds[f]? with
    | some d => d.df.name == q.1 && d.df.fr == fr
    | none => false)
  | .cls c => (match cs[c]? with
    | some x => x == q.1
    | none => false)
  | _ => true
def faOf (q : Str × Gv) : List He.Fa := match q.2 with
  | .int i => [.int q.1 i]
  | .fn _ _ => [.glo q.1]
  | .cls _ => [.glo q.1, .exc q.1]
  | .blt => [.free q.1]
def ddOf (d : Dx) : He.DefD := ⟨(d.df.name, none), d.df.name, d.df.name, defArgs d.st, defBody d.st, defScope d.st, [], []⟩
/-- a text -/
structure Tx where
  ds : List Dx
  g : List (Str × Gv)
  cs : List Str
abbrev Tx.fa (t : Tx) : List He.Fa := t.g.flatMap faOf
abbrev Tx.fn (t : Tx) : List He.DefD := t.ds.map ddOf
def Tx.tb (t : Tx) : List Df := t.ds.map (·.df)
def Tx.T (t : Tx) (P : Program) (w : World) (K : PySem.W.Frag) (mg : Str → Option Value) (base : Heap) : Tb where
  K := K
  fa := fun f => He.ga K ((t.ds[f]?.map (·.df.name)).getD "")
  ca := fun c => He.ga K ((t.cs[c]?).getD "")
  prog := P
  w := w
  mg := mg
  base := base
theorem lookup_mem {α : Type} : ∀ {l : List (Str × α)} {n : Str} {c : α}, l.lookup n = some c → (n, c) ∈ l
  | [], n, c, h => by simp at h
  | (k, v) :: r, n, c, h => by
    rw [List.lookup_cons] at h
    cases hb : n == k with
    | true =>
      rw [hb] at h
      cases h
      rw [beq_iff_eq.mp hb]
      exact List.mem_cons_self
    | false =>
      rw [hb] at h
      exact List.mem_cons_of_mem _ (lookup_mem h)
/-- the parameters are bound as they come -/
def BindsD (st : Stmt) (x : Str) : Prop := ∀ (kV doc pm : Value) (an : Option Addr) (cdv ct : Value) (us : List Value), us.length = (psOf st).length → bindArgs (PySem.W.fnOf x x (defArgs st) (defBody st) (defScope st) .none kV doc pm an cdv ct) ⟨us, []⟩ = pure ((psOf st).zip us)
/-- the defs that are told by what they do -/
def NatOk (t : Tx) (P : Program) : Prop := ∀ (w : World) (K : PySem.W.Frag) (mg : Str → Option Value) (base : Heap) (k f : Nat) (d : Dx) (x : Str) (np : Nat) (h : FS → List D → Store → R D) (fd : FuncData), t.ds[f]? = some d → d.df = .nat x np h → K.In base → base.Ns mainGlobals mg →
  (∀ y v, t.g.lookup y = some v → GvOk (t.T P w K mg base) (sem t.tb k) k y v) → FunD K x x (defArgs d.st) (defBody d.st) (defScope d.st) [] [] ((t.T P w K mg base).fa f) fd →
  FnOk P w K mg base (L2.CX P w) (k + 1) ((t.T P w K mg base).fa f) fd (psOf d.st) (spF (t.T P w K mg base) (psOf d.st).length (fun ds S => sem t.tb (k + 1) f ds S) false) ∧ (psOf d.st).length = np
theorem funD_at {K : PySem.W.Frag} {x q : Str} {a : Arguments} {b : List Stmt} {s : Scope} {vs : List V} {ks : List (Str × V)} {f : Addr} {fd : FuncData} (F : FunD K x q a b s vs ks f fd) : ∃ oc od osl, K.lookup f = some ⟨oc, od, .func fd, osl⟩ := by
  obtain ⟨oc, od, dV, kV, doc, pm, an, cdv, ct, osl, rfl, lk, _⟩ := F.ex
  exact ⟨_, _, _, lk⟩
theorem bindsD_of {st : Stmt} {x : Str} (ps : List Str) (e : psOf st = ps) (h : ∀ (kV doc pm : Value) (an : Option Addr) (cdv ct : Value) (us : List Value), us.length = ps.length → bindArgs (PySem.W.fnOf x x (defArgs st) (defBody st) (defScope st) .none kV doc pm an cdv ct) ⟨us, []⟩ = pure (ps.zip us)) : BindsD st x := by
  subst e
  exact h
def noNat (d : Dx) : Bool := match d.df with
  | .nat .. => false
  | _ => true
theorem natOk_none {t : Tx} {P : Program} (h : t.ds.all noNat = true) : NatOk t P := fun w K mg base k f d x np hh fd e ed => by
  have := List.all_eq_true.mp h d (List.mem_of_getElem? e)
  unfold noNat at this
  rw [ed] at this
  cases this
section
variable {t : Tx} {P : Program} {w : World} {K : PySem.W.Frag} {mg : Str → Option Value} {base : Heap} {h : Heap}
theorem Tx.ok (hD : t.ds.all (ckD t.g) = true) (hG : ckG t.g t.cs t.ds = true) (hB : ∀ d ∈ t.ds, BindsD d.st d.df.name) (hn : NatOk t P) (X : K.In h) (G : h.Ns mainGlobals mg) (X' : K.In base) (G' : base.Ns mainGlobals mg) (c : He.SaysD t.fa t.fn K) :
    ∀ k f d, t.ds[f]? = some d → ∃ fd, (∃ oc od osl, K.lookup (He.ga K d.df.name) = some ⟨oc, od, .func fd, osl⟩) ∧ Binds K fd (psOf d.st) [] ∧ PySem.W.keepIn K (.ref ((t.T P w K mg base).fa f)) = true ∧
      FnOk P w K mg base (L2.CX P w) k ((t.T P w K mg base).fa f) fd (psOf d.st) (spF (t.T P w K mg base) (psOf d.st).length (sem t.tb k f) d.df.fr) ∧ ∀ ds S, ds.length ≠ (psOf d.st).length → sem t.tb k f ds S = .bad := by
  have fact : ∀ q ∈ t.g, ∀ z ∈ faOf q, z.ok K = true := fun q hq z hz => c.facts (List.mem_flatMap.mpr ⟨q, hq, hz⟩)
  have faE : ∀ {f : Nat} {d : Dx}, t.ds[f]? = some d → (t.T P w K mg base).fa f = He.ga K d.df.name := fun {f d} e => by
    show He.ga K ((t.ds[f]?.map (·.df.name)).getD "") = _
    rw [e]; rfl
  intro k
  induction k with
  | zero =>
    intro f d e
    obtain ⟨fd, F⟩ := c.def_ f (d := ddOf d) (by rw [List.getElem?_map, e]; rfl)
    have hbd := hB d (List.mem_of_getElem? e)
    refine ⟨fd, funD_at F, F.bindsN hbd, by rw [faE e]; exact F.kp, ⟨fun vs H Q E h => h.1, fun A outer s H args us vs Q E _ _ _ _ h => ?_⟩, fun ds S _ => rfl⟩
    obtain ⟨_, ds, S, ι, _, _, z⟩ := h
    cases q : d.df.fr <;> rw [q] at z <;> exact z.elim
  | succ k ih =>
    intro f d e
    obtain ⟨fd, F⟩ := c.def_ f (d := ddOf d) (by rw [List.getElem?_map, e]; rfl)
    have hbd := hB d (List.mem_of_getElem? e)
    have hck := List.all_eq_true.mp hD d (List.mem_of_getElem? e)
    have hg : ∀ x v, t.g.lookup x = some v → GvOk (t.T P w K mg base) (sem t.tb k) k x v := fun x v hx => by
      have hm := lookup_mem hx
      have hgo := List.all_eq_true.mp hG _ hm
      cases v with
      | int i => exact He.int_ok X G (fact _ hm (.int x i) (by simp [faOf]))
      | blt => exact He.free_ok X G (fact _ hm (.free x) (by simp [faOf]))
      | cls j =>
        simp only at hgo
        split at hgo
        · rename_i y ey
          have yx : y = x := by simpa using hgo
          subst yx
          have ce : (t.T P w K mg base).ca j = He.ga K y := by
            show He.ga K ((t.cs[j]?).getD "") = _
            rw [ey]; rfl
          obtain ⟨c1, c2, c3, c4⟩ := He.exc_ok (fact _ hm (.exc y) (by simp [faOf]))
          exact ⟨⟨_, _, _, _, PySem.F.excBase_ValueError, by rw [ce]; exact c1⟩, by rw [ce]; exact He.glo_ok X G (fact _ hm (.glo y) (by simp [faOf])), by rw [ce]; exact c2, by rw [ce]; exact c3, by rw [ce]; exact c4⟩
        · cases hgo
      | fn j fr =>
        simp only at hgo
        split at hgo
        · rename_i d' ed
          simp only [Bool.and_eq_true, beq_iff_eq] at hgo
          obtain ⟨rfl, rfl⟩ := hgo
          obtain ⟨fd', _, b2, b3, b4, b5⟩ := ih j d' ed
          exact ⟨⟨fd', _, b4, b2, b5⟩, by rw [faE ed]; exact He.glo_ok X G (fact _ hm (.glo _) (by simp [faOf])), b3⟩
        · cases hgo
    have te : t.tb[f]? = some d.df := by unfold Tx.tb; rw [List.getElem?_map, e]; rfl
    refine ⟨fd, funD_at F, F.bindsN hbd, by rw [faE e]; exact F.kp, ?_⟩
    have F' : FunD K d.df.name d.df.name (defArgs d.st) (defBody d.st) (defScope d.st) [] [] ((t.T P w K mg base).fa f) fd := by rw [faE e]; exact F
    unfold ckD at hck
    split at hck
    · rename_i a ea
      simp only [Bool.and_eq_true, beq_iff_eq] at hck
      obtain ⟨⟨h1, h2⟩, h3⟩ := hck
      have se : sem t.tb (k + 1) f = runFd (sem t.tb k) a := by
        funext ds S
        show (match t.tb[f]? with
          | some (.ast d) => runFd (sem t.tb k) d ds S
          | some (.new _ np names c) => runNew (sem t.tb k) np names c ds S
          | some (.nat _ np g) => if ds.length = np then g (sem t.tb k) ds S else .bad
          | none => .bad) = _
        rw [te, ea]
      have fre : d.df.fr = false := by rw [ea]; rfl
      rw [se, fre]
      refine ⟨fn_ast (T := t.T P w K mg base) ⟨⟨_, _, _, F'⟩, scB_ok h1, h2⟩ hg h3, fun ds S hl => ?_⟩
      unfold runFd
      rw [if_neg (by rw [← h2]; exact hl)]
    · rename_i x np names cc ea
      simp only [Bool.and_eq_true, beq_iff_eq] at hck
      obtain ⟨⟨h1, h2⟩, h3⟩ := hck
      have se : sem t.tb (k + 1) f = runNew (sem t.tb k) np names cc := by
        funext ds S
        show (match t.tb[f]? with
          | some (.ast d) => runFd (sem t.tb k) d ds S
          | some (.new _ np names c) => runNew (sem t.tb k) np names c ds S
          | some (.nat _ np g) => if ds.length = np then g (sem t.tb k) ds S else .bad
          | none => .bad) = _
        rw [te, ea]
      have fre : d.df.fr = true := by rw [ea]; rfl
      rw [se, fre]
      split at h3
      · rename_i e' p eb
        rw [eb] at F'
        refine ⟨fn_new (T := t.T P w K mg base) ⟨⟨_, _, _, F'⟩, scB_ok h1, h2⟩ hg h3, fun ds S hl => ?_⟩
        unfold runNew
        rw [if_neg (by rw [← h2]; exact hl)]
      · cases h3
    · rename_i x np hh ea
      have fre : d.df.fr = false := by rw [ea]; rfl
      have nm : d.df.name = x := by rw [ea]; rfl
      rw [nm] at F'
      obtain ⟨n1, n2⟩ := hn w K mg base k f d x np hh fd e ea X' G' hg F'
      rw [fre]
      refine ⟨n1, fun ds S hl => ?_⟩
      show (match t.tb[f]? with
          | some (.ast d) => runFd (sem t.tb k) d ds S
          | some (.new _ np names c) => runNew (sem t.tb k) np names c ds S
          | some (.nat _ np g) => if ds.length = np then g (sem t.tb k) ds S else .bad
          | none => .bad) = _
      rw [te, ea]
      show (if ds.length = np then hh (sem t.tb k) ds S else .bad) = .bad
      rw [if_neg (by rw [← n2]; exact hl)]
end
/-- nothing is raised -/
theorem fnCalm {P : Program} {w : World} {K : PySem.W.Frag} {mg : Str → Option Value} {base : Heap} {k : Nat} {f : Addr} {fd : FuncData} {ps : List Str} {sp : Sp} (F : FnOk P w K mg base (L2.CX P w) k f fd ps sp) : FnOk P w K mg base CX0 k f fd ps (fun vs H Q _ => sp vs H Q fun _ _ _ => False) :=
  ⟨fun vs H Q E h => F.len vs H Q _ h, fun A outer s H args us vs Q E hr e0 hb rv h => codeAny_mono (F.run A outer s H args us vs Q _ hr e0 hb rv h) fun r s' hq => by
    cases r with
    | ok fl => cases fl <;> exact hq
    | error e =>
      obtain ⟨_, _, _, _, _, _, _, _, _, _, _, _, z⟩ := hq
      exact z.elim⟩
/-- the law's def -/
theorem Tx.law {t : Tx} {P : Program} {w : World} {K : PySem.W.Frag} {mg : Str → Option Value} {h : Heap} {f : Addr} {n k i : Nat} {d : Dx} (hD : t.ds.all (ckD t.g) = true) (hG : ckG t.g t.cs t.ds = true) (hB : ∀ d ∈ t.ds, BindsD d.st d.df.name) (hn : NatOk t P)
    (X : K.In h) (G : h.Ns mainGlobals mg) (hf : mg (Str.ofString "law") = some (.ref f)) (c : He.SaysD t.fa t.fn K) (hi : t.ds[i]? = some d) (hl : d.df.name = Str.ofString "law") (hfr : d.df.fr = false) (hps : psOf d.st = [Str.ofString "script"]) (hgl : t.g.lookup (Str.ofString "law") = some (Gv.fn i false)) (hz : n ≤ sizeLine)
    (pl : ∀ ns : List Int, ns.length ≤ n → ∃ S, sem t.tb k i [.scr ns] [] = .ok (.p (.bl true)) S) :
    ∃ (fd : FuncData) (sp : Sp), (∀ (s : Shared) (u : Value), BindsTo s fd ⟨[u], []⟩ [(Str.ofString "script", u)]) ∧ (∀ (H : Hp) (a : Addr) (ns : List Int), ns.length ≤ n → Only H → SqL K H a (ns.map V.int) → sp [.ref a] H (fun v _ => v = .bl true) fun _ _ _ => False) ∧
      ∀ base : Heap, K.In base → base.Ns mainGlobals mg → FnOk P w K mg base CX0 k f fd [Str.ofString "script"] sp := by
  have fe : f = He.ga K (Str.ofString "law") := by
    have := He.glo_ok X G (c.facts (f := .glo (Str.ofString "law")) (List.mem_flatMap.mpr ⟨(Str.ofString "law", .fn i false), lookup_mem hgl, by simp [faOf]⟩))
    rw [hf] at this
    cases this
    rfl
  obtain ⟨fd0, F⟩ := c.def_ i (d := ddOf d) (by rw [List.getElem?_map, hi]; rfl)
  have hbd := hB d (List.mem_of_getElem? hi)
  -- the function's record is one and the same for all
  let sp : Sp := fun vs H Q _ => ∃ (a : Addr) (ns : List Int), vs = [.ref a] ∧ ns.length ≤ n ∧ SqL K H a (ns.map V.int) ∧ ∀ H', Q (.bl true) H'
  refine ⟨fd0, sp, fun s u => ?_, fun H a ns hl _ hS => ⟨a, ns, rfl, hl, hS, fun _ => rfl⟩, fun base X' G' => ?_⟩
  · have := F.bindsA hbd s [u] (by rw [hps]; rfl)
    rw [hps] at this
    exact this
  · obtain ⟨fd, ⟨oc, od, osl, lk⟩, _, _, ok, _⟩ := Tx.ok (P := P) (w := w) (base := base) hD hG hB hn X G X' G' c k i d hi
    have fa : (t.T P w K mg base).fa i = f := by
      show He.ga K ((t.ds[i]?.map (·.df.name)).getD "") = _
      rw [hi, fe]
      show He.ga K d.df.name = _
      rw [hl]
    have fdE : fd = fd0 := by
      obtain ⟨_, _, _, lk0⟩ := funD_at F
      have z := lk.symm.trans lk0
      cases z
      rfl
    rw [fa, hps, hfr, fdE] at ok
    refine (fnCalm ok).imp fun vs H Q E hq => ?_
    obtain ⟨a, ns, rfl, h1, h2, h3⟩ := hq
    obtain ⟨S, e⟩ := pl ns h1
    refine ⟨rfl, [.scr ns], [], ⟨[], []⟩, .cons (.scr ?_ (Nat.le_trans h1 hz)) .nil, ⟨rfl, List.nodup_nil, fun k fp c e => by simp at e, fun a ha => by simp at ha⟩, ?_⟩
    · rcases h2 with h2 | h2
      · exact .inl ⟨h2, by simp [Foot.all]⟩
      · exact .inr h2
    · rw [e]
      unfold OutF
      intro v H' p r
      cases r.bl
      exact h3 H'
end G9

/-! text QD -/
/-! G9.QD: the defs of all texts in the small language; ν: where a text keeps its defs and classes -/
namespace G9
open PySem (Str)
abbrev s (x : String) : Str := Str.ofString x
/-- 0: is_between (k01) -/
def d_is_between (ν : Nat → Nat) : Fd := ⟨(s "is_between"), 3, [s "value", s "low", s "high"], 0, [.ret (.and (.isin (.v 0 (s "value")) .int) (.and (.not (.isin (.v 0 (s "value")) .bool)) (.chain .le .le (.v 1 (s "low")) (.v 0 (s "value")) (.v 2 (s "high")))))], false⟩
/-- 1: is_row_of (k01) -/
def d_is_row_of (ν : Nat → Nat) : Fd := ⟨(s "is_row_of"), 2, [s "size", s "value", s "one"], 0, [.ret (.and (.isin (.v 1 (s "value")) .tuple) (.and (.cmp .eq (.bi .len (.v 1 (s "value"))) (.v 0 (s "size"))) (.bi .all (.lc [((s "one"), 2)] (.nm 2 (s "one")) (.seq (.v 1 (s "value"))) none (.call (s "is_between") (ν 0) [(.v 2 (s "one")), (.int 0), (.g (s "TOP") (20))])))))], false⟩
/-- 2: is_market (k01) -/
def d_is_market (ν : Nat → Nat) : Fd := ⟨(s "is_market"), 1, [s "value", s "row"], 0, [.iff (.or (.not (.isin (.v 0 (s "value")) .tuple)) (.not (.chain .le .le (.int 1) (.bi .len (.v 0 (s "value"))) (.g (s "MOST") (5))))) [.ret (.bl false)] [], .iff (.or (.not (.isin (.idx (.v 0 (s "value")) (.int 0)) .tuple)) (.not (.chain .le .le (.int 1) (.bi .len (.idx (.v 0 (s "value")) (.int 0))) (.g (s "MOST") (5))))) [.ret (.bl false)] [], .ret (.bi .all (.lc [((s "row"), 1)] (.nm 1 (s "row")) (.seq (.v 0 (s "value"))) none (.call (s "is_row_of") (ν 1) [(.bi .len (.idx (.v 0 (s "value")) (.int 0))), (.v 1 (s "row"))])))], false⟩
/-- 3: check_market (k01) -/
def d_check_market (ν : Nat → Nat) : Fd := ⟨(s "check_market"), 1, [s "value"], 0, [.iff (.not (.call (s "is_market") (ν 2) [(.v 0 (s "value"))])) [.raise (ν 1001) (s "InvalidMarket") (s "not a market")] []], false⟩
/-- 4: check_buyer (k01) -/
def s_check_buyer_0 (ν : Nat → Nat) : Sm := .iff (.not (.call (s "is_between") (ν 0) [(.v 1 (s "buyer")), (.int 0), (.bin .sub (.bi .len (.v 0 (s "market"))) (.int 1))])) [.raise (ν 1002) (s "InvalidBuyer") (s "not a buyer")] []
@[reducible] def n_check_buyer (market_ : Option D := none) (buyer_ : Option D := none) : Env := [market_, buyer_]
def d_check_buyer (ν : Nat → Nat) : Fd := ⟨(s "check_buyer"), 2, [s "market", s "buyer"], 0, [s_check_buyer_0 ν], false⟩
/-- 5: check_good (k01) -/
def s_check_good_0 (ν : Nat → Nat) : Sm := .iff (.not (.call (s "is_between") (ν 0) [(.v 1 (s "good")), (.int 0), (.bin .sub (.bi .len (.idx (.v 0 (s "market")) (.int 0))) (.int 1))])) [.raise (ν 1003) (s "InvalidGood") (s "not a good")] []
@[reducible] def n_check_good (market_ : Option D := none) (good_ : Option D := none) : Env := [market_, good_]
def d_check_good (ν : Nat → Nat) : Fd := ⟨(s "check_good"), 2, [s "market", s "good"], 0, [s_check_good_0 ν], false⟩
/-- 6: check_row (k01) -/
def d_check_row (ν : Nat → Nat) : Fd := ⟨(s "check_row"), 2, [s "market", s "row"], 0, [.iff (.not (.call (s "is_row_of") (ν 1) [(.bi .len (.idx (.v 0 (s "market")) (.int 0))), (.v 1 (s "row"))])) [.raise (ν 1006) (s "InvalidRow") (s "not a row of the market")] []], false⟩
/-- 7: is_assigned (k01) -/
def d_is_assigned (ν : Nat → Nat) : Fd := ⟨(s "is_assigned"), 2, [s "market", s "value", s "some", s "good"], 0, [.iff (.or (.not (.isin (.v 1 (s "value")) .tuple)) (.cmp .ne (.bi .len (.v 1 (s "value"))) (.bi .len (.v 0 (s "market"))))) [.ret (.bl false)] [], .iff (.not (.bi .all (.lc [((s "good"), 3)] (.nm 3 (s "good")) (.seq (.v 1 (s "value"))) none (.call (s "is_between") (ν 0) [(.v 3 (s "good")), (.neg (.int 1)), (.bin .sub (.bi .len (.idx (.v 0 (s "market")) (.int 0))) (.int 1))])))) [.ret (.bl false)] [], .asg (.nm 2 (s "some")) (.lc [((s "good"), 3)] (.nm 3 (s "good")) (.seq (.v 1 (s "value"))) (some (.cmp .ge (.v 3 (s "good")) (.int 0))) (.v 3 (s "good"))), .ret (.cmp .eq (.bi .lenset (.v 2 (s "some"))) (.bi .len (.v 2 (s "some"))))], false⟩
/-- 8: is_assignment (k01) -/
def d_is_assignment (ν : Nat → Nat) : Fd := ⟨(s "is_assignment"), 2, [s "market", s "value"], 0, [.expr (.call (s "check_market") (ν 3) [(.v 0 (s "market"))]), .ret (.call (s "is_assigned") (ν 7) [(.v 0 (s "market")), (.v 1 (s "value"))])], false⟩
/-- 9: check_assignment (k01) -/
def d_check_assignment (ν : Nat → Nat) : Fd := ⟨(s "check_assignment"), 2, [s "market", s "assignment"], 0, [.iff (.not (.call (s "is_assigned") (ν 7) [(.v 0 (s "market")), (.v 1 (s "assignment"))])) [.raise (ν 1004) (s "InvalidAssignment") (s "not an assignment")] []], false⟩
/-- 10: total_of (k01) -/
def d_total_of (ν : Nat → Nat) : Fd := ⟨(s "total_of"), 2, [s "market", s "assignment", s "row", s "good"], 0, [.ret (.bi .sum (.lc [((s "row"), 2), ((s "good"), 3)] (.tp [(2, (s "row")), (3, (s "good"))]) (.zip (.v 0 (s "market")) (.v 1 (s "assignment"))) (some (.cmp .ge (.v 3 (s "good")) (.int 0))) (.idx (.v 2 (s "row")) (.v 3 (s "good")))))], false⟩
/-- 11: total (k01) -/
def d_total (ν : Nat → Nat) : Fd := ⟨(s "total"), 2, [s "market", s "assignment"], 0, [.expr (.call (s "check_market") (ν 3) [(.v 0 (s "market"))]), .expr (.call (s "check_assignment") (ν 9) [(.v 0 (s "market")), (.v 1 (s "assignment"))]), .ret (.call (s "total_of") (ν 10) [(.v 0 (s "market")), (.v 1 (s "assignment"))])], false⟩
/-- 12: all_assignments (k01) -/
def d_all_assignments (ν : Nat → Nat) : Fd := ⟨(s "all_assignments"), 1, [s "market", s "found", s "row", s "longer", s "some", s "good"], 1, [.asg (.nm 1 (s "found")) (.lst [(.tup [])]), .for_ (.nm 2 (s "row")) (.seq (.v 0 (s "market"))) [.new 3 (s "longer") 0 (.lst []), .for_ (.nm 4 (s "some")) (.seq (.v 1 (s "found"))) [.ext (.v 3 (s "longer")) (.lc [((s "good"), 5)] (.nm 5 (s "good")) (.rng (some (.neg (.int 1))) (.bi .len (.v 2 (s "row")))) (some (.or (.cmp .eq (.v 5 (s "good")) (.neg (.int 1))) (.cmp .notin (.v 5 (s "good")) (.v 4 (s "some"))))) (.bin .add (.v 4 (s "some")) (.tup [(.v 5 (s "good"))])))], .fz 1 (s "found") (.v 3 (s "longer"))], .ret (.v 1 (s "found"))], false⟩
/-- 13: found_best (k01) -/
def d_found_best (ν : Nat → Nat) : Fd := ⟨(s "found_best"), 1, [s "market", s "assignment", s "best", s "found", s "value"], 1, [.parN 2 (s "best") 3 (s "found") 0 (.neg (.int 1)) (.lst []), .for_ (.nm 1 (s "assignment")) (.seq (.call (s "all_assignments") (ν 12) [(.v 0 (s "market"))])) [.asg (.nm 4 (s "value")) (.call (s "total_of") (ν 10) [(.v 0 (s "market")), (.v 1 (s "assignment"))]), .iff (.cmp .gt (.v 4 (s "value")) (.v 2 (s "best"))) [.parN 2 (s "best") 3 (s "found") 0 (.v 4 (s "value")) (.lst [])] [], .iff (.cmp .eq (.v 4 (s "value")) (.v 2 (s "best"))) [.app (.v 3 (s "found")) (.v 1 (s "assignment"))] []], .ret (.tup [(.v 2 (s "best")), (.v 3 (s "found"))])], false⟩
/-- 14: best_total (k01) -/
def d_best_total (ν : Nat → Nat) : Fd := ⟨(s "best_total"), 1, [s "market"], 0, [.expr (.call (s "check_market") (ν 3) [(.v 0 (s "market"))]), .ret (.idx (.call (s "found_best") (ν 13) [(.v 0 (s "market"))]) (.int 0))], false⟩
/-- 15: best_assignments (k01) -/
def d_best_assignments (ν : Nat → Nat) : Fd := ⟨(s "best_assignments"), 1, [s "market"], 0, [.expr (.call (s "check_market") (ν 3) [(.v 0 (s "market"))]), .ret (.bi .tuple (.idx (.call (s "found_best") (ν 13) [(.v 0 (s "market"))]) (.int 1)))], false⟩
/-- 16: better (k01) -/
def d_better (ν : Nat → Nat) : Fd := ⟨(s "better"), 2, [s "market", s "assignment", s "best", s "some"], 0, [.expr (.call (s "check_market") (ν 3) [(.v 0 (s "market"))]), .expr (.call (s "check_assignment") (ν 9) [(.v 0 (s "market")), (.v 1 (s "assignment"))]), .asg (.tp [(2, (s "best")), (3, (s "some"))]) (.call (s "found_best") (ν 13) [(.v 0 (s "market"))]), .ret (.ite (.cmp .lt (.call (s "total_of") (ν 10) [(.v 0 (s "market")), (.v 1 (s "assignment"))]) (.v 2 (s "best"))) (.idx (.v 3 (s "some")) (.int 0)) .non)], false⟩
/-- 17: pairs_of (k01) -/
def d_pairs_of (ν : Nat → Nat) : Fd := ⟨(s "pairs_of"), 1, [s "assignment", s "buyer", s "good"], 0, [.ret (.lc [((s "buyer"), 1), ((s "good"), 2)] (.tp [(1, (s "buyer")), (2, (s "good"))]) (.enum (.v 0 (s "assignment"))) (some (.cmp .ge (.v 2 (s "good")) (.int 0))) (.tup [(.v 1 (s "buyer")), (.v 2 (s "good"))]))], false⟩
/-- 18: sure_pairs (k01) -/
def d_sure_pairs (ν : Nat → Nat) : Fd := ⟨(s "sure_pairs"), 1, [s "market", s "some", s "pair", s "one"], 0, [.expr (.call (s "check_market") (ν 3) [(.v 0 (s "market"))]), .asg (.nm 1 (s "some")) (.idx (.call (s "found_best") (ν 13) [(.v 0 (s "market"))]) (.int 1)), .ret (.bi .tuple (.lc [((s "pair"), 2)] (.nm 2 (s "pair")) (.seq (.call (s "pairs_of") (ν 17) [(.idx (.v 1 (s "some")) (.int 0))])) (some (.bi .all (.lc [((s "one"), 3)] (.nm 3 (s "one")) (.seq (.v 1 (s "some"))) none (.cmp .eq (.idx (.v 3 (s "one")) (.idx (.v 2 (s "pair")) (.int 0))) (.idx (.v 2 (s "pair")) (.int 1)))))) (.v 2 (s "pair"))))], false⟩
/-- 19: possible_pairs (k01) -/
def d_possible_pairs (ν : Nat → Nat) : Fd := ⟨(s "possible_pairs"), 1, [s "market", s "found", s "assignment", s "pair"], 1, [.expr (.call (s "check_market") (ν 3) [(.v 0 (s "market"))]), .newd 1 (s "found") 0, .for_ (.nm 2 (s "assignment")) (.seq (.idx (.call (s "found_best") (ν 13) [(.v 0 (s "market"))]) (.int 1))) [.for_ (.nm 3 (s "pair")) (.seq (.call (s "pairs_of") (ν 17) [(.v 2 (s "assignment"))])) [.setk (.v 1 (s "found")) (.v 3 (s "pair"))]], .ret (.bi .tuple (.keys (.v 1 (s "found"))))], false⟩
/-- 20: with_value (k01) -/
def s_with_value_0 (ν : Nat → Nat) : Sm := .asg (.nm 4 (s "row")) (.bin .add (.bin .add (.sl (.idx (.v 0 (s "market")) (.v 1 (s "buyer"))) none (some (.v 2 (s "good")))) (.tup [(.v 3 (s "value"))])) (.sl (.idx (.v 0 (s "market")) (.v 1 (s "buyer"))) (some (.bin .add (.v 2 (s "good")) (.int 1))) none))
def s_with_value_1 (ν : Nat → Nat) : Sm := .ret (.bin .add (.bin .add (.sl (.v 0 (s "market")) none (some (.v 1 (s "buyer")))) (.tup [(.v 4 (s "row"))])) (.sl (.v 0 (s "market")) (some (.bin .add (.v 1 (s "buyer")) (.int 1))) none))
@[reducible] def n_with_value (market_ : Option D := none) (buyer_ : Option D := none) (good_ : Option D := none) (value_ : Option D := none) (row_ : Option D := none) : Env := [market_, buyer_, good_, value_, row_]
def d_with_value (ν : Nat → Nat) : Fd := ⟨(s "with_value"), 4, [s "market", s "buyer", s "good", s "value", s "row"], 0, [s_with_value_0 ν, s_with_value_1 ν], false⟩
/-- 21: least_value (k01) -/
def s_least_value_0 (ν : Nat → Nat) : Sm := .expr (.call (s "check_market") (ν 3) [(.v 0 (s "market"))])
def s_least_value_1 (ν : Nat → Nat) : Sm := .expr (.call (s "check_buyer") (ν 4) [(.v 0 (s "market")), (.v 1 (s "buyer"))])
def s_least_value_2 (ν : Nat → Nat) : Sm := .expr (.call (s "check_good") (ν 5) [(.v 0 (s "market")), (.v 2 (s "good"))])
def s_least_value_3_0 (ν : Nat → Nat) : Sm := .iff (.bi .any (.lc [((s "some"), 4)] (.nm 4 (s "some")) (.seq (.idx (.call (s "found_best") (ν 13) [(.call (s "with_value") (ν 20) [(.v 0 (s "market")), (.v 1 (s "buyer")), (.v 2 (s "good")), (.v 3 (s "value"))])]) (.int 1))) none (.cmp .eq (.idx (.v 4 (s "some")) (.v 1 (s "buyer"))) (.v 2 (s "good"))))) [.ret (.v 3 (s "value"))] []
def s_least_value_3 (ν : Nat → Nat) : Sm := .for_ (.nm 3 (s "value")) (.rng none (.bin .add (.g (s "TOP") (20)) (.int 1))) [s_least_value_3_0 ν]
def s_least_value_4 (ν : Nat → Nat) : Sm := .ret .non
@[reducible] def n_least_value (market_ : Option D := none) (buyer_ : Option D := none) (good_ : Option D := none) (value_ : Option D := none) (some_ : Option D := none) : Env := [market_, buyer_, good_, value_, some_]
def d_least_value (ν : Nat → Nat) : Fd := ⟨(s "least_value"), 3, [s "market", s "buyer", s "good", s "value", s "some"], 0, [s_least_value_0 ν, s_least_value_1 ν, s_least_value_2 ν, s_least_value_3 ν, s_least_value_4 ν], false⟩
/-- 22: check_prices (k01) -/
def s_check_prices_0 (ν : Nat → Nat) : Sm := .iff (.or (.not (.isin (.v 1 (s "prices")) .tuple)) (.cmp .ne (.bi .len (.v 1 (s "prices"))) (.bi .len (.idx (.v 0 (s "market")) (.int 0))))) [.raise (ν 1005) (s "InvalidPrices") (s "not prices")] []
def s_check_prices_1 (ν : Nat → Nat) : Sm := .iff (.not (.bi .all (.lc [((s "price"), 2)] (.nm 2 (s "price")) (.seq (.v 1 (s "prices"))) none (.call (s "is_between") (ν 0) [(.v 2 (s "price")), (.int 0), (.int 99)])))) [.raise (ν 1005) (s "InvalidPrices") (s "not prices")] []
@[reducible] def n_check_prices (market_ : Option D := none) (prices_ : Option D := none) (price_ : Option D := none) : Env := [market_, prices_, price_]
def d_check_prices (ν : Nat → Nat) : Fd := ⟨(s "check_prices"), 2, [s "market", s "prices", s "price"], 0, [s_check_prices_0 ν, s_check_prices_1 ν], false⟩
/-- 23: gains (k01) -/
def s_gains_0 (ν : Nat → Nat) : Sm := .ret (.lc [((s "value"), 3), ((s "price"), 4)] (.tp [(3, (s "value")), (4, (s "price"))]) (.zip (.idx (.v 0 (s "market")) (.v 2 (s "buyer"))) (.v 1 (s "prices"))) none (.bin .sub (.v 3 (s "value")) (.v 4 (s "price"))))
@[reducible] def n_gains (market_ : Option D := none) (prices_ : Option D := none) (buyer_ : Option D := none) (value_ : Option D := none) (price_ : Option D := none) : Env := [market_, prices_, buyer_, value_, price_]
def d_gains (ν : Nat → Nat) : Fd := ⟨(s "gains"), 3, [s "market", s "prices", s "buyer", s "value", s "price"], 0, [s_gains_0 ν], false⟩
/-- 24: found_gain (k01) -/
def s_found_gain_0 (ν : Nat → Nat) : Sm := .ret (.bi .max (.bin .add (.lst [(.int 0)]) (.call (s "gains") (ν 23) [(.v 0 (s "market")), (.v 1 (s "prices")), (.v 2 (s "buyer"))])))
@[reducible] def n_found_gain (market_ : Option D := none) (prices_ : Option D := none) (buyer_ : Option D := none) : Env := [market_, prices_, buyer_]
def d_found_gain (ν : Nat → Nat) : Fd := ⟨(s "found_gain"), 3, [s "market", s "prices", s "buyer"], 0, [s_found_gain_0 ν], false⟩
/-- 25: found_wishes (k01) -/
def s_found_wishes_0 (ν : Nat → Nat) : Sm := .asg (.nm 3 (s "top")) (.call (s "found_gain") (ν 24) [(.v 0 (s "market")), (.v 1 (s "prices")), (.v 2 (s "buyer"))])
def s_found_wishes_1 (ν : Nat → Nat) : Sm := .ret (.bi .tuple (.lc [((s "good"), 4), ((s "gain"), 5)] (.tp [(4, (s "good")), (5, (s "gain"))]) (.enum (.call (s "gains") (ν 23) [(.v 0 (s "market")), (.v 1 (s "prices")), (.v 2 (s "buyer"))])) (some (.cmp .eq (.v 5 (s "gain")) (.v 3 (s "top")))) (.v 4 (s "good"))))
@[reducible] def n_found_wishes (market_ : Option D := none) (prices_ : Option D := none) (buyer_ : Option D := none) (top_ : Option D := none) (good_ : Option D := none) (gain_ : Option D := none) : Env := [market_, prices_, buyer_, top_, good_, gain_]
def d_found_wishes (ν : Nat → Nat) : Fd := ⟨(s "found_wishes"), 3, [s "market", s "prices", s "buyer", s "top", s "good", s "gain"], 0, [s_found_wishes_0 ν, s_found_wishes_1 ν], false⟩
/-- 26: top_gain (k01) -/
def s_top_gain_0 (ν : Nat → Nat) : Sm := .expr (.call (s "check_market") (ν 3) [(.v 0 (s "market"))])
def s_top_gain_1 (ν : Nat → Nat) : Sm := .expr (.call (s "check_prices") (ν 22) [(.v 0 (s "market")), (.v 1 (s "prices"))])
def s_top_gain_2 (ν : Nat → Nat) : Sm := .expr (.call (s "check_buyer") (ν 4) [(.v 0 (s "market")), (.v 2 (s "buyer"))])
def s_top_gain_3 (ν : Nat → Nat) : Sm := .ret (.call (s "found_gain") (ν 24) [(.v 0 (s "market")), (.v 1 (s "prices")), (.v 2 (s "buyer"))])
@[reducible] def n_top_gain (market_ : Option D := none) (prices_ : Option D := none) (buyer_ : Option D := none) : Env := [market_, prices_, buyer_]
def d_top_gain (ν : Nat → Nat) : Fd := ⟨(s "top_gain"), 3, [s "market", s "prices", s "buyer"], 0, [s_top_gain_0 ν, s_top_gain_1 ν, s_top_gain_2 ν, s_top_gain_3 ν], false⟩
/-- 27: wishes (k01) -/
def s_wishes_0 (ν : Nat → Nat) : Sm := .expr (.call (s "check_market") (ν 3) [(.v 0 (s "market"))])
def s_wishes_1 (ν : Nat → Nat) : Sm := .expr (.call (s "check_prices") (ν 22) [(.v 0 (s "market")), (.v 1 (s "prices"))])
def s_wishes_2 (ν : Nat → Nat) : Sm := .expr (.call (s "check_buyer") (ν 4) [(.v 0 (s "market")), (.v 2 (s "buyer"))])
def s_wishes_3 (ν : Nat → Nat) : Sm := .ret (.call (s "found_wishes") (ν 25) [(.v 0 (s "market")), (.v 1 (s "prices")), (.v 2 (s "buyer"))])
@[reducible] def n_wishes (market_ : Option D := none) (prices_ : Option D := none) (buyer_ : Option D := none) : Env := [market_, prices_, buyer_]
def d_wishes (ν : Nat → Nat) : Fd := ⟨(s "wishes"), 3, [s "market", s "prices", s "buyer"], 0, [s_wishes_0 ν, s_wishes_1 ν, s_wishes_2 ν, s_wishes_3 ν], false⟩
/-- 28: do_support (k01) -/
def s_do_support_0_0 (ν : Nat → Nat) : Sm := .iff (.and (.cmp .eq (.v 4 (s "good")) (.neg (.int 1))) (.cmp .gt (.call (s "found_gain") (ν 24) [(.v 0 (s "market")), (.v 1 (s "prices")), (.v 3 (s "buyer"))]) (.int 0))) [.ret (.bl false)] []
def s_do_support_0_1 (ν : Nat → Nat) : Sm := .iff (.and (.cmp .ge (.v 4 (s "good")) (.int 0)) (.cmp .notin (.v 4 (s "good")) (.call (s "found_wishes") (ν 25) [(.v 0 (s "market")), (.v 1 (s "prices")), (.v 3 (s "buyer"))]))) [.ret (.bl false)] []
def s_do_support_0 (ν : Nat → Nat) : Sm := .for_ (.tp [(3, (s "buyer")), (4, (s "good"))]) (.enum (.v 2 (s "assignment"))) [s_do_support_0_0 ν, s_do_support_0_1 ν]
def s_do_support_1 (ν : Nat → Nat) : Sm := .ret (.bi .all (.lc [((s "good"), 4), ((s "price"), 5)] (.tp [(4, (s "good")), (5, (s "price"))]) (.enum (.v 1 (s "prices"))) none (.or (.cmp .eq (.v 5 (s "price")) (.int 0)) (.cmp .in_ (.v 4 (s "good")) (.v 2 (s "assignment"))))))
@[reducible] def n_do_support (market_ : Option D := none) (prices_ : Option D := none) (assignment_ : Option D := none) (buyer_ : Option D := none) (good_ : Option D := none) (price_ : Option D := none) : Env := [market_, prices_, assignment_, buyer_, good_, price_]
def d_do_support (ν : Nat → Nat) : Fd := ⟨(s "do_support"), 3, [s "market", s "prices", s "assignment", s "buyer", s "good", s "price"], 0, [s_do_support_0 ν, s_do_support_1 ν], false⟩
/-- 29: check_three (k01) -/
def s_check_three_0 (ν : Nat → Nat) : Sm := .expr (.call (s "check_market") (ν 3) [(.v 0 (s "market"))])
def s_check_three_1 (ν : Nat → Nat) : Sm := .expr (.call (s "check_prices") (ν 22) [(.v 0 (s "market")), (.v 1 (s "prices"))])
def s_check_three_2 (ν : Nat → Nat) : Sm := .expr (.call (s "check_assignment") (ν 9) [(.v 0 (s "market")), (.v 2 (s "assignment"))])
@[reducible] def n_check_three (market_ : Option D := none) (prices_ : Option D := none) (assignment_ : Option D := none) : Env := [market_, prices_, assignment_]
def d_check_three (ν : Nat → Nat) : Fd := ⟨(s "check_three"), 3, [s "market", s "prices", s "assignment"], 0, [s_check_three_0 ν, s_check_three_1 ν, s_check_three_2 ν], false⟩
/-- 30: does_support (k01) -/
def s_does_support_0 (ν : Nat → Nat) : Sm := .expr (.call (s "check_three") (ν 29) [(.v 0 (s "market")), (.v 1 (s "prices")), (.v 2 (s "assignment"))])
def s_does_support_1 (ν : Nat → Nat) : Sm := .ret (.call (s "do_support") (ν 28) [(.v 0 (s "market")), (.v 1 (s "prices")), (.v 2 (s "assignment"))])
@[reducible] def n_does_support (market_ : Option D := none) (prices_ : Option D := none) (assignment_ : Option D := none) : Env := [market_, prices_, assignment_]
def d_does_support (ν : Nat → Nat) : Fd := ⟨(s "does_support"), 3, [s "market", s "prices", s "assignment"], 0, [s_does_support_0 ν, s_does_support_1 ν], false⟩
/-- 31: supported (k01) -/
def s_supported_0 (ν : Nat → Nat) : Sm := .expr (.call (s "check_market") (ν 3) [(.v 0 (s "market"))])
def s_supported_1 (ν : Nat → Nat) : Sm := .expr (.call (s "check_prices") (ν 22) [(.v 0 (s "market")), (.v 1 (s "prices"))])
def s_supported_2_0 (ν : Nat → Nat) : Sm := .iff (.call (s "do_support") (ν 28) [(.v 0 (s "market")), (.v 1 (s "prices")), (.v 2 (s "assignment"))]) [.ret (.v 2 (s "assignment"))] []
def s_supported_2 (ν : Nat → Nat) : Sm := .for_ (.nm 2 (s "assignment")) (.seq (.idx (.call (s "found_best") (ν 13) [(.v 0 (s "market"))]) (.int 1))) [s_supported_2_0 ν]
def s_supported_3 (ν : Nat → Nat) : Sm := .ret .non
@[reducible] def n_supported (market_ : Option D := none) (prices_ : Option D := none) (assignment_ : Option D := none) : Env := [market_, prices_, assignment_]
def d_supported (ν : Nat → Nat) : Fd := ⟨(s "supported"), 2, [s "market", s "prices", s "assignment"], 0, [s_supported_0 ν, s_supported_1 ν, s_supported_2 ν, s_supported_3 ν], false⟩
/-- 32: all_sets (k01) -/
def s_all_sets_0 (ν : Nat → Nat) : Sm := .asg (.nm 1 (s "found")) (.lst [(.tup [])])
def s_all_sets_1_0 (ν : Nat → Nat) : Sm := .asg (.nm 1 (s "found")) (.bin .add (.v 1 (s "found")) (.lc [((s "some"), 4)] (.nm 4 (s "some")) (.seq (.v 1 (s "found"))) none (.bin .add (.v 4 (s "some")) (.tup [(.v 2 (s "good"))]))))
def s_all_sets_1 (ν : Nat → Nat) : Sm := .for_ (.nm 2 (s "good")) (.rng none (.bi .len (.idx (.v 0 (s "market")) (.int 0)))) [s_all_sets_1_0 ν]
def s_all_sets_2 (ν : Nat → Nat) : Sm := .ret (.lc [((s "row"), 3)] (.nm 3 (s "row")) (.seq (.bi .sorted (.lc [((s "some"), 4)] (.nm 4 (s "some")) (.seq (.sl (.v 1 (s "found")) (some (.int 1)) none)) none (.tup [(.bi .len (.v 4 (s "some"))), (.v 4 (s "some"))])))) none (.idx (.v 3 (s "row")) (.int 1)))
@[reducible] def n_all_sets (market_ : Option D := none) (found_ : Option D := none) (good_ : Option D := none) (row_ : Option D := none) (some_ : Option D := none) : Env := [market_, found_, good_, row_, some_]
def d_all_sets (ν : Nat → Nat) : Fd := ⟨(s "all_sets"), 1, [s "market", s "found", s "good", s "row", s "some"], 0, [s_all_sets_0 ν, s_all_sets_1 ν, s_all_sets_2 ν], false⟩
/-- 33: are_crowded (k01) -/
def s_are_crowded_0 (ν : Nat → Nat) : Sm := .asg (.nm 3 (s "many")) (.int 0)
def s_are_crowded_1_0 (ν : Nat → Nat) : Sm := .asg (.nm 5 (s "wished")) (.call (s "found_wishes") (ν 25) [(.v 0 (s "market")), (.v 1 (s "prices")), (.v 4 (s "buyer"))])
def s_are_crowded_1_1_0 (ν : Nat → Nat) : Sm := .asg (.nm 3 (s "many")) (.bin .add (.v 3 (s "many")) (.int 1))
def s_are_crowded_1_1 (ν : Nat → Nat) : Sm := .iff (.and (.cmp .gt (.call (s "found_gain") (ν 24) [(.v 0 (s "market")), (.v 1 (s "prices")), (.v 4 (s "buyer"))]) (.int 0)) (.bi .all (.lc [((s "good"), 6)] (.nm 6 (s "good")) (.seq (.v 5 (s "wished"))) none (.cmp .in_ (.v 6 (s "good")) (.v 2 (s "some")))))) [s_are_crowded_1_1_0 ν] []
def s_are_crowded_1 (ν : Nat → Nat) : Sm := .for_ (.nm 4 (s "buyer")) (.rng none (.bi .len (.v 0 (s "market")))) [s_are_crowded_1_0 ν, s_are_crowded_1_1 ν]
def s_are_crowded_2 (ν : Nat → Nat) : Sm := .ret (.cmp .gt (.v 3 (s "many")) (.bi .len (.v 2 (s "some"))))
@[reducible] def n_are_crowded (market_ : Option D := none) (prices_ : Option D := none) (some_ : Option D := none) (many_ : Option D := none) (buyer_ : Option D := none) (wished_ : Option D := none) (good_ : Option D := none) : Env := [market_, prices_, some_, many_, buyer_, wished_, good_]
def d_are_crowded (ν : Nat → Nat) : Fd := ⟨(s "are_crowded"), 3, [s "market", s "prices", s "some", s "many", s "buyer", s "wished", s "good"], 0, [s_are_crowded_0 ν, s_are_crowded_1 ν, s_are_crowded_2 ν], false⟩
/-- 34: are_glutted (k01) -/
def s_are_glutted_0 (ν : Nat → Nat) : Sm := .iff (.bi .any (.lc [((s "good"), 5)] (.nm 5 (s "good")) (.seq (.v 2 (s "some"))) none (.cmp .eq (.idx (.v 1 (s "prices")) (.v 5 (s "good"))) (.int 0)))) [.ret (.bl false)] []
def s_are_glutted_1 (ν : Nat → Nat) : Sm := .asg (.nm 3 (s "many")) (.int 0)
def s_are_glutted_2_0_0 (ν : Nat → Nat) : Sm := .asg (.nm 3 (s "many")) (.bin .add (.v 3 (s "many")) (.int 1))
def s_are_glutted_2_0 (ν : Nat → Nat) : Sm := .iff (.bi .any (.lc [((s "good"), 5)] (.nm 5 (s "good")) (.seq (.call (s "found_wishes") (ν 25) [(.v 0 (s "market")), (.v 1 (s "prices")), (.v 4 (s "buyer"))])) none (.cmp .in_ (.v 5 (s "good")) (.v 2 (s "some"))))) [s_are_glutted_2_0_0 ν] []
def s_are_glutted_2 (ν : Nat → Nat) : Sm := .for_ (.nm 4 (s "buyer")) (.rng none (.bi .len (.v 0 (s "market")))) [s_are_glutted_2_0 ν]
def s_are_glutted_3 (ν : Nat → Nat) : Sm := .ret (.cmp .lt (.v 3 (s "many")) (.bi .len (.v 2 (s "some"))))
@[reducible] def n_are_glutted (market_ : Option D := none) (prices_ : Option D := none) (some_ : Option D := none) (many_ : Option D := none) (buyer_ : Option D := none) (good_ : Option D := none) : Env := [market_, prices_, some_, many_, buyer_, good_]
def d_are_glutted (ν : Nat → Nat) : Fd := ⟨(s "are_glutted"), 3, [s "market", s "prices", s "some", s "many", s "buyer", s "good"], 0, [s_are_glutted_0 ν, s_are_glutted_1 ν, s_are_glutted_2 ν, s_are_glutted_3 ν], false⟩
/-- 35: found_crowd (k01) -/
def s_found_crowd_0_0 (ν : Nat → Nat) : Sm := .iff (.call (s "are_crowded") (ν 33) [(.v 0 (s "market")), (.v 1 (s "prices")), (.v 2 (s "some"))]) [.ret (.v 2 (s "some"))] []
def s_found_crowd_0 (ν : Nat → Nat) : Sm := .for_ (.nm 2 (s "some")) (.seq (.call (s "all_sets") (ν 32) [(.v 0 (s "market"))])) [s_found_crowd_0_0 ν]
def s_found_crowd_1 (ν : Nat → Nat) : Sm := .ret .non
@[reducible] def n_found_crowd (market_ : Option D := none) (prices_ : Option D := none) (some_ : Option D := none) : Env := [market_, prices_, some_]
def d_found_crowd (ν : Nat → Nat) : Fd := ⟨(s "found_crowd"), 2, [s "market", s "prices", s "some"], 0, [s_found_crowd_0 ν, s_found_crowd_1 ν], false⟩
/-- 36: found_glut (k01) -/
def s_found_glut_0_0 (ν : Nat → Nat) : Sm := .iff (.call (s "are_glutted") (ν 34) [(.v 0 (s "market")), (.v 1 (s "prices")), (.v 2 (s "some"))]) [.ret (.v 2 (s "some"))] []
def s_found_glut_0 (ν : Nat → Nat) : Sm := .for_ (.nm 2 (s "some")) (.seq (.call (s "all_sets") (ν 32) [(.v 0 (s "market"))])) [s_found_glut_0_0 ν]
def s_found_glut_1 (ν : Nat → Nat) : Sm := .ret .non
@[reducible] def n_found_glut (market_ : Option D := none) (prices_ : Option D := none) (some_ : Option D := none) : Env := [market_, prices_, some_]
def d_found_glut (ν : Nat → Nat) : Fd := ⟨(s "found_glut"), 2, [s "market", s "prices", s "some"], 0, [s_found_glut_0 ν, s_found_glut_1 ν], false⟩
/-- 37: crowd (k01) -/
def s_crowd_0 (ν : Nat → Nat) : Sm := .expr (.call (s "check_market") (ν 3) [(.v 0 (s "market"))])
def s_crowd_1 (ν : Nat → Nat) : Sm := .expr (.call (s "check_prices") (ν 22) [(.v 0 (s "market")), (.v 1 (s "prices"))])
def s_crowd_2 (ν : Nat → Nat) : Sm := .ret (.call (s "found_crowd") (ν 35) [(.v 0 (s "market")), (.v 1 (s "prices"))])
@[reducible] def n_crowd (market_ : Option D := none) (prices_ : Option D := none) : Env := [market_, prices_]
def d_crowd (ν : Nat → Nat) : Fd := ⟨(s "crowd"), 2, [s "market", s "prices"], 0, [s_crowd_0 ν, s_crowd_1 ν, s_crowd_2 ν], false⟩
/-- 38: glut (k01) -/
def s_glut_0 (ν : Nat → Nat) : Sm := .expr (.call (s "check_market") (ν 3) [(.v 0 (s "market"))])
def s_glut_1 (ν : Nat → Nat) : Sm := .expr (.call (s "check_prices") (ν 22) [(.v 0 (s "market")), (.v 1 (s "prices"))])
def s_glut_2 (ν : Nat → Nat) : Sm := .ret (.call (s "found_glut") (ν 36) [(.v 0 (s "market")), (.v 1 (s "prices"))])
@[reducible] def n_glut (market_ : Option D := none) (prices_ : Option D := none) : Env := [market_, prices_]
def d_glut (ν : Nat → Nat) : Fd := ⟨(s "glut"), 2, [s "market", s "prices"], 0, [s_glut_0 ν, s_glut_1 ν, s_glut_2 ν], false⟩
/-- 39: is_set (k01) -/
def s_is_set_0 (ν : Nat → Nat) : Sm := .iff (.or (.not (.isin (.v 1 (s "value")) .tuple)) (.cmp .eq (.bi .len (.v 1 (s "value"))) (.int 0))) [.ret (.bl false)] []
def s_is_set_1 (ν : Nat → Nat) : Sm := .iff (.not (.bi .all (.lc [((s "good"), 3)] (.nm 3 (s "good")) (.seq (.v 1 (s "value"))) none (.call (s "is_between") (ν 0) [(.v 3 (s "good")), (.int 0), (.bin .sub (.bi .len (.idx (.v 0 (s "market")) (.int 0))) (.int 1))])))) [.ret (.bl false)] []
def s_is_set_2 (ν : Nat → Nat) : Sm := .ret (.bi .all (.lc [((s "k"), 2)] (.nm 2 (s "k")) (.rng none (.bin .sub (.bi .len (.v 1 (s "value"))) (.int 1))) none (.cmp .lt (.idx (.v 1 (s "value")) (.v 2 (s "k"))) (.idx (.v 1 (s "value")) (.bin .add (.v 2 (s "k")) (.int 1))))))
@[reducible] def n_is_set (market_ : Option D := none) (value_ : Option D := none) (k_ : Option D := none) (good_ : Option D := none) : Env := [market_, value_, k_, good_]
def d_is_set (ν : Nat → Nat) : Fd := ⟨(s "is_set"), 2, [s "market", s "value", s "k", s "good"], 0, [s_is_set_0 ν, s_is_set_1 ν, s_is_set_2 ν], false⟩
/-- 40: is_crowd (k01) -/
def s_is_crowd_0 (ν : Nat → Nat) : Sm := .expr (.call (s "check_market") (ν 3) [(.v 0 (s "market"))])
def s_is_crowd_1 (ν : Nat → Nat) : Sm := .expr (.call (s "check_prices") (ν 22) [(.v 0 (s "market")), (.v 1 (s "prices"))])
def s_is_crowd_2 (ν : Nat → Nat) : Sm := .ret (.and (.call (s "is_set") (ν 39) [(.v 0 (s "market")), (.v 2 (s "value"))]) (.call (s "are_crowded") (ν 33) [(.v 0 (s "market")), (.v 1 (s "prices")), (.v 2 (s "value"))]))
@[reducible] def n_is_crowd (market_ : Option D := none) (prices_ : Option D := none) (value_ : Option D := none) : Env := [market_, prices_, value_]
def d_is_crowd (ν : Nat → Nat) : Fd := ⟨(s "is_crowd"), 3, [s "market", s "prices", s "value"], 0, [s_is_crowd_0 ν, s_is_crowd_1 ν, s_is_crowd_2 ν], false⟩
/-- 41: is_glut (k01) -/
def s_is_glut_0 (ν : Nat → Nat) : Sm := .expr (.call (s "check_market") (ν 3) [(.v 0 (s "market"))])
def s_is_glut_1 (ν : Nat → Nat) : Sm := .expr (.call (s "check_prices") (ν 22) [(.v 0 (s "market")), (.v 1 (s "prices"))])
def s_is_glut_2 (ν : Nat → Nat) : Sm := .ret (.and (.call (s "is_set") (ν 39) [(.v 0 (s "market")), (.v 2 (s "value"))]) (.call (s "are_glutted") (ν 34) [(.v 0 (s "market")), (.v 1 (s "prices")), (.v 2 (s "value"))]))
@[reducible] def n_is_glut (market_ : Option D := none) (prices_ : Option D := none) (value_ : Option D := none) : Env := [market_, prices_, value_]
def d_is_glut (ν : Nat → Nat) : Fd := ⟨(s "is_glut"), 3, [s "market", s "prices", s "value"], 0, [s_is_glut_0 ν, s_is_glut_1 ν, s_is_glut_2 ν], false⟩
/-- 42: objection (k01) -/
def s_objection_0 (ν : Nat → Nat) : Sm := .expr (.call (s "check_three") (ν 29) [(.v 0 (s "market")), (.v 1 (s "prices")), (.v 2 (s "assignment"))])
def s_objection_1 (ν : Nat → Nat) : Sm := .asg (.nm 3 (s "got")) (.lc [((s "buyer"), 4), ((s "good"), 7)] (.tp [(4, (s "buyer")), (7, (s "good"))]) (.enum (.v 2 (s "assignment"))) none (.ite (.cmp .eq (.v 7 (s "good")) (.neg (.int 1))) (.int 0) (.bin .sub (.idx (.idx (.v 0 (s "market")) (.v 4 (s "buyer"))) (.v 7 (s "good"))) (.idx (.v 1 (s "prices")) (.v 7 (s "good"))))))
def s_objection_2_0_0 (ν : Nat → Nat) : Sm := .iff (.cmp .gt (.v 9 (s "value")) (.bin .add (.idx (.v 1 (s "prices")) (.v 7 (s "good"))) (.idx (.v 3 (s "got")) (.v 4 (s "buyer"))))) [.ret (.tup [(.v 4 (s "buyer")), (.v 7 (s "good"))])] []
def s_objection_2_0 (ν : Nat → Nat) : Sm := .for_ (.tp [(7, (s "good")), (9, (s "value"))]) (.enum (.v 5 (s "row"))) [s_objection_2_0_0 ν]
def s_objection_2 (ν : Nat → Nat) : Sm := .for_ (.tp [(4, (s "buyer")), (5, (s "row"))]) (.enum (.v 0 (s "market"))) [s_objection_2_0 ν]
def s_objection_3_0 (ν : Nat → Nat) : Sm := .iff (.cmp .lt (.v 6 (s "gain")) (.int 0)) [.ret (.tup [(.v 4 (s "buyer")), (.neg (.int 1))])] []
def s_objection_3 (ν : Nat → Nat) : Sm := .for_ (.tp [(4, (s "buyer")), (6, (s "gain"))]) (.enum (.v 3 (s "got"))) [s_objection_3_0 ν]
def s_objection_4_0 (ν : Nat → Nat) : Sm := .iff (.and (.cmp .gt (.v 8 (s "price")) (.int 0)) (.cmp .notin (.v 7 (s "good")) (.v 2 (s "assignment")))) [.ret (.tup [(.neg (.int 1)), (.v 7 (s "good"))])] []
def s_objection_4 (ν : Nat → Nat) : Sm := .for_ (.tp [(7, (s "good")), (8, (s "price"))]) (.enum (.v 1 (s "prices"))) [s_objection_4_0 ν]
def s_objection_5 (ν : Nat → Nat) : Sm := .ret .non
@[reducible] def n_objection (market_ : Option D := none) (prices_ : Option D := none) (assignment_ : Option D := none) (got_ : Option D := none) (buyer_ : Option D := none) (row_ : Option D := none) (gain_ : Option D := none) (good_ : Option D := none) (price_ : Option D := none) (value_ : Option D := none) : Env := [market_, prices_, assignment_, got_, buyer_, row_, gain_, good_, price_, value_]
def d_objection (ν : Nat → Nat) : Fd := ⟨(s "objection"), 3, [s "market", s "prices", s "assignment", s "got", s "buyer", s "row", s "gain", s "good", s "price", s "value"], 0, [s_objection_0 ν, s_objection_1 ν, s_objection_2 ν, s_objection_3 ν, s_objection_4 ν, s_objection_5 ν], false⟩
/-- 43: limits (k01) -/
def s_limits_0 (ν : Nat → Nat) : Sm := .asg (.nm 1 (s "assignment")) (.idx (.idx (.call (s "found_best") (ν 13) [(.v 0 (s "market"))]) (.int 1)) (.int 0))
def s_limits_1 (ν : Nat → Nat) : Sm := .asg (.nm 2 (s "size")) (.bi .len (.idx (.v 0 (s "market")) (.int 0)))
def s_limits_2 (ν : Nat → Nat) : Sm := .newm 3 (s "table") 0 (.lc [((s "i"), 9)] (.nm 9 (s "i")) (.rng none (.bin .add (.v 2 (s "size")) (.int 1))) none (.lc [((s "j"), 10)] (.nm 10 (s "j")) (.rng none (.bin .add (.v 2 (s "size")) (.int 1))) none (.bin .mul (.int 99) (.bi .int (.cmp .ne (.v 9 (s "i")) (.v 10 (s "j")))))))
def s_limits_3_0 (ν : Nat → Nat) : Sm := .setix2 (.v 3 (s "table")) (.v 2 (s "size")) (.v 4 (s "good")) (.int 0)
def s_limits_3_1_0 (ν : Nat → Nat) : Sm := .setix2 (.v 3 (s "table")) (.v 4 (s "good")) (.v 2 (s "size")) (.int 0)
def s_limits_3_1 (ν : Nat → Nat) : Sm := .iff (.cmp .notin (.v 4 (s "good")) (.v 1 (s "assignment"))) [s_limits_3_1_0 ν] []
def s_limits_3 (ν : Nat → Nat) : Sm := .for_ (.nm 4 (s "good")) (.rng none (.v 2 (s "size"))) [s_limits_3_0 ν, s_limits_3_1 ν]
def s_limits_4_0 (ν : Nat → Nat) : Sm := .asg (.nm 7 (s "row")) (.idx (.v 0 (s "market")) (.v 6 (s "buyer")))
def s_limits_4_1_0_0 (ν : Nat → Nat) : Sm := .setix2 (.v 3 (s "table")) (.v 2 (s "size")) (.v 8 (s "other")) (.min2 (.idx2 (.v 3 (s "table")) (.v 2 (s "size")) (.v 8 (s "other"))) (.neg (.idx (.v 7 (s "row")) (.v 8 (s "other")))))
def s_limits_4_1_0e_0_0 (ν : Nat → Nat) : Sm := .setix2 (.v 3 (s "table")) (.v 4 (s "good")) (.v 8 (s "other")) (.min2 (.idx2 (.v 3 (s "table")) (.v 4 (s "good")) (.v 8 (s "other"))) (.bin .sub (.idx (.v 7 (s "row")) (.v 4 (s "good"))) (.idx (.v 7 (s "row")) (.v 8 (s "other")))))
def s_limits_4_1_0e_0 (ν : Nat → Nat) : Sm := .iff (.cmp .ne (.v 8 (s "other")) (.v 4 (s "good"))) [s_limits_4_1_0e_0_0 ν] []
def s_limits_4_1_0 (ν : Nat → Nat) : Sm := .iff (.cmp .eq (.v 4 (s "good")) (.neg (.int 1))) [s_limits_4_1_0_0 ν] [s_limits_4_1_0e_0 ν]
def s_limits_4_1 (ν : Nat → Nat) : Sm := .for_ (.nm 8 (s "other")) (.rng none (.v 2 (s "size"))) [s_limits_4_1_0 ν]
def s_limits_4_2_0 (ν : Nat → Nat) : Sm := .setix2 (.v 3 (s "table")) (.v 4 (s "good")) (.v 2 (s "size")) (.min2 (.idx2 (.v 3 (s "table")) (.v 4 (s "good")) (.v 2 (s "size"))) (.idx (.v 7 (s "row")) (.v 4 (s "good"))))
def s_limits_4_2 (ν : Nat → Nat) : Sm := .iff (.cmp .ge (.v 4 (s "good")) (.int 0)) [s_limits_4_2_0 ν] []
def s_limits_4 (ν : Nat → Nat) : Sm := .for_ (.tp [(6, (s "buyer")), (4, (s "good"))]) (.enum (.v 1 (s "assignment"))) [s_limits_4_0 ν, s_limits_4_1 ν, s_limits_4_2 ν]
def s_limits_5_0_0_0 (ν : Nat → Nat) : Sm := .setix2 (.v 3 (s "table")) (.v 9 (s "i")) (.v 10 (s "j")) (.min2 (.idx2 (.v 3 (s "table")) (.v 9 (s "i")) (.v 10 (s "j"))) (.bin .add (.idx2 (.v 3 (s "table")) (.v 9 (s "i")) (.v 5 (s "middle"))) (.idx2 (.v 3 (s "table")) (.v 5 (s "middle")) (.v 10 (s "j")))))
def s_limits_5_0_0 (ν : Nat → Nat) : Sm := .for_ (.nm 10 (s "j")) (.rng none (.bin .add (.v 2 (s "size")) (.int 1))) [s_limits_5_0_0_0 ν]
def s_limits_5_0 (ν : Nat → Nat) : Sm := .for_ (.nm 9 (s "i")) (.rng none (.bin .add (.v 2 (s "size")) (.int 1))) [s_limits_5_0_0 ν]
def s_limits_5 (ν : Nat → Nat) : Sm := .for_ (.nm 5 (s "middle")) (.rng none (.bin .add (.v 2 (s "size")) (.int 1))) [s_limits_5_0 ν]
def s_limits_6 (ν : Nat → Nat) : Sm := .ret (.v 3 (s "table"))
@[reducible] def n_limits (market_ : Option D := none) (assignment_ : Option D := none) (size_ : Option D := none) (table_ : Option D := none) (good_ : Option D := none) (middle_ : Option D := none) (buyer_ : Option D := none) (row_ : Option D := none) (other_ : Option D := none) (i_ : Option D := none) (j_ : Option D := none) : Env := [market_, assignment_, size_, table_, good_, middle_, buyer_, row_, other_, i_, j_]
def d_limits (ν : Nat → Nat) : Fd := ⟨(s "limits"), 1, [s "market", s "assignment", s "size", s "table", s "good", s "middle", s "buyer", s "row", s "other", s "i", s "j"], 1, [s_limits_0 ν, s_limits_1 ν, s_limits_2 ν, s_limits_3 ν, s_limits_4 ν, s_limits_5 ν, s_limits_6 ν], false⟩
/-- 44: lowest (k01) -/
def s_lowest_0 (ν : Nat → Nat) : Sm := .ret (.bi .tuple (.lc [((s "entry"), 1)] (.nm 1 (s "entry")) (.seq (.sl (.idx (.call (s "limits") (ν 43) [(.v 0 (s "market"))]) (.neg (.int 1))) none (some (.neg (.int 1))))) none (.neg (.v 1 (s "entry")))))
@[reducible] def n_lowest (market_ : Option D := none) (entry_ : Option D := none) : Env := [market_, entry_]
def d_lowest (ν : Nat → Nat) : Fd := ⟨(s "lowest"), 1, [s "market", s "entry"], 0, [s_lowest_0 ν], false⟩
/-- 45: highest (k01) -/
def s_highest_0 (ν : Nat → Nat) : Sm := .ret (.bi .tuple (.lc [((s "row"), 1)] (.nm 1 (s "row")) (.seq (.sl (.call (s "limits") (ν 43) [(.v 0 (s "market"))]) none (some (.neg (.int 1))))) none (.idx (.v 1 (s "row")) (.neg (.int 1)))))
@[reducible] def n_highest (market_ : Option D := none) (row_ : Option D := none) : Env := [market_, row_]
def d_highest (ν : Nat → Nat) : Fd := ⟨(s "highest"), 1, [s "market", s "row"], 0, [s_highest_0 ν], false⟩
/-- 46: least_prices (k01) -/
def s_least_prices_0 (ν : Nat → Nat) : Sm := .expr (.call (s "check_market") (ν 3) [(.v 0 (s "market"))])
def s_least_prices_1 (ν : Nat → Nat) : Sm := .ret (.call (s "lowest") (ν 44) [(.v 0 (s "market"))])
@[reducible] def n_least_prices (market_ : Option D := none) : Env := [market_]
def d_least_prices (ν : Nat → Nat) : Fd := ⟨(s "least_prices"), 1, [s "market"], 0, [s_least_prices_0 ν, s_least_prices_1 ν], false⟩
/-- 47: greatest_prices (k01) -/
def s_greatest_prices_0 (ν : Nat → Nat) : Sm := .expr (.call (s "check_market") (ν 3) [(.v 0 (s "market"))])
def s_greatest_prices_1 (ν : Nat → Nat) : Sm := .ret (.call (s "highest") (ν 45) [(.v 0 (s "market"))])
@[reducible] def n_greatest_prices (market_ : Option D := none) : Env := [market_]
def d_greatest_prices (ν : Nat → Nat) : Fd := ⟨(s "greatest_prices"), 1, [s "market"], 0, [s_greatest_prices_0 ν, s_greatest_prices_1 ν], false⟩
/-- 48: stable_prices (k01) -/
def s_stable_prices_0 (ν : Nat → Nat) : Sm := .expr (.call (s "check_market") (ν 3) [(.v 0 (s "market"))])
def s_stable_prices_1 (ν : Nat → Nat) : Sm := .asg (.nm 1 (s "table")) (.call (s "limits") (ν 43) [(.v 0 (s "market"))])
def s_stable_prices_2 (ν : Nat → Nat) : Sm := .asg (.nm 2 (s "size")) (.bi .len (.idx (.v 0 (s "market")) (.int 0)))
def s_stable_prices_3 (ν : Nat → Nat) : Sm := .asg (.nm 3 (s "found")) (.lst [(.tup [])])
def s_stable_prices_4_0 (ν : Nat → Nat) : Sm := .new 5 (s "longer") 0 (.lst [])
def s_stable_prices_4_1_0 (ν : Nat → Nat) : Sm := .asg (.nm 7 (s "low")) (.bi .max (.bin .add (.lst [(.neg (.idx (.idx (.v 1 (s "table")) (.v 2 (s "size"))) (.v 4 (s "good"))))]) (.lc [((s "other"), 10), ((s "price"), 9)] (.tp [(10, (s "other")), (9, (s "price"))]) (.enum (.v 6 (s "some"))) none (.bin .sub (.v 9 (s "price")) (.idx (.idx (.v 1 (s "table")) (.v 10 (s "other"))) (.v 4 (s "good")))))))
def s_stable_prices_4_1_1 (ν : Nat → Nat) : Sm := .asg (.nm 8 (s "high")) (.bi .min (.bin .add (.lst [(.idx (.idx (.v 1 (s "table")) (.v 4 (s "good"))) (.v 2 (s "size")))]) (.lc [((s "other"), 10), ((s "price"), 9)] (.tp [(10, (s "other")), (9, (s "price"))]) (.enum (.v 6 (s "some"))) none (.bin .add (.v 9 (s "price")) (.idx (.idx (.v 1 (s "table")) (.v 4 (s "good"))) (.v 10 (s "other")))))))
def s_stable_prices_4_1_2 (ν : Nat → Nat) : Sm := .ext (.v 5 (s "longer")) (.lc [((s "price"), 9)] (.nm 9 (s "price")) (.rng (some (.v 7 (s "low"))) (.bin .add (.v 8 (s "high")) (.int 1))) none (.bin .add (.v 6 (s "some")) (.tup [(.v 9 (s "price"))])))
def s_stable_prices_4_1_3_0 (ν : Nat → Nat) : Sm := .raise (ν 1010) (s "TooMany") (s "more than 2000 stable prices")
def s_stable_prices_4_1_3 (ν : Nat → Nat) : Sm := .iff (.cmp .gt (.bi .len (.v 5 (s "longer"))) (.int 2000)) [s_stable_prices_4_1_3_0 ν] []
def s_stable_prices_4_1 (ν : Nat → Nat) : Sm := .for_ (.nm 6 (s "some")) (.seq (.v 3 (s "found"))) [s_stable_prices_4_1_0 ν, s_stable_prices_4_1_1 ν, s_stable_prices_4_1_2 ν, s_stable_prices_4_1_3 ν]
def s_stable_prices_4_2 (ν : Nat → Nat) : Sm := .fz 3 (s "found") (.v 5 (s "longer"))
def s_stable_prices_4 (ν : Nat → Nat) : Sm := .for_ (.nm 4 (s "good")) (.rng none (.v 2 (s "size"))) [s_stable_prices_4_0 ν, s_stable_prices_4_1 ν, s_stable_prices_4_2 ν]
def s_stable_prices_5 (ν : Nat → Nat) : Sm := .ret (.bi .tuple (.v 3 (s "found")))
@[reducible] def n_stable_prices (market_ : Option D := none) (table_ : Option D := none) (size_ : Option D := none) (found_ : Option D := none) (good_ : Option D := none) (longer_ : Option D := none) (some_ : Option D := none) (low_ : Option D := none) (high_ : Option D := none) (price_ : Option D := none) (other_ : Option D := none) : Env := [market_, table_, size_, found_, good_, longer_, some_, low_, high_, price_, other_]
def d_stable_prices (ν : Nat → Nat) : Fd := ⟨(s "stable_prices"), 1, [s "market", s "table", s "size", s "found", s "good", s "longer", s "some", s "low", s "high", s "price", s "other"], 1, [s_stable_prices_0 ν, s_stable_prices_1 ν, s_stable_prices_2 ν, s_stable_prices_3 ν, s_stable_prices_4 ν, s_stable_prices_5 ν], false⟩
/-- 49: difference_range (k01) -/
def s_difference_range_0 (ν : Nat → Nat) : Sm := .expr (.call (s "check_market") (ν 3) [(.v 0 (s "market"))])
def s_difference_range_1 (ν : Nat → Nat) : Sm := .expr (.call (s "check_good") (ν 5) [(.v 0 (s "market")), (.v 1 (s "one"))])
def s_difference_range_2 (ν : Nat → Nat) : Sm := .expr (.call (s "check_good") (ν 5) [(.v 0 (s "market")), (.v 2 (s "other"))])
def s_difference_range_3 (ν : Nat → Nat) : Sm := .asg (.nm 3 (s "table")) (.call (s "limits") (ν 43) [(.v 0 (s "market"))])
def s_difference_range_4 (ν : Nat → Nat) : Sm := .ret (.tup [(.neg (.idx (.idx (.v 3 (s "table")) (.v 2 (s "other"))) (.v 1 (s "one")))), (.idx (.idx (.v 3 (s "table")) (.v 1 (s "one"))) (.v 2 (s "other")))])
@[reducible] def n_difference_range (market_ : Option D := none) (one_ : Option D := none) (other_ : Option D := none) (table_ : Option D := none) : Env := [market_, one_, other_, table_]
def d_difference_range (ν : Nat → Nat) : Fd := ⟨(s "difference_range"), 3, [s "market", s "one", s "other", s "table"], 0, [s_difference_range_0 ν, s_difference_range_1 ν, s_difference_range_2 ν, s_difference_range_3 ν, s_difference_range_4 ν], false⟩
/-- 50: ceiling_bound (k01) -/
def s_ceiling_bound_0 (ν : Nat → Nat) : Sm := .asg (.nm 3 (s "found")) (.int 0)
def s_ceiling_bound_1_0_0 (ν : Nat → Nat) : Sm := .asg (.nm 6 (s "row")) (.idx (.v 0 (s "market")) (.index (.v 1 (s "assignment")) (.v 5 (s "good"))))
def s_ceiling_bound_1_0_1 (ν : Nat → Nat) : Sm := .asg (.nm 3 (s "found")) (.bin .add (.v 3 (s "found")) (.idx (.v 6 (s "row")) (.v 5 (s "good"))))
def s_ceiling_bound_1_0_2_0 (ν : Nat → Nat) : Sm := .asg (.nm 3 (s "found")) (.bin .sub (.v 3 (s "found")) (.idx (.v 6 (s "row")) (.idx (.v 2 (s "goods")) (.bin .add (.v 4 (s "place")) (.int 1)))))
def s_ceiling_bound_1_0_2 (ν : Nat → Nat) : Sm := .iff (.cmp .lt (.bin .add (.v 4 (s "place")) (.int 1)) (.bi .len (.v 2 (s "goods")))) [s_ceiling_bound_1_0_2_0 ν] []
def s_ceiling_bound_1_0 (ν : Nat → Nat) : Sm := .iff (.cmp .in_ (.v 5 (s "good")) (.v 1 (s "assignment"))) [s_ceiling_bound_1_0_0 ν, s_ceiling_bound_1_0_1 ν, s_ceiling_bound_1_0_2 ν] []
def s_ceiling_bound_1 (ν : Nat → Nat) : Sm := .for_ (.tp [(4, (s "place")), (5, (s "good"))]) (.enum (.v 2 (s "goods"))) [s_ceiling_bound_1_0 ν]
def s_ceiling_bound_2 (ν : Nat → Nat) : Sm := .ret (.v 3 (s "found"))
@[reducible] def n_ceiling_bound (market_ : Option D := none) (assignment_ : Option D := none) (goods_ : Option D := none) (found_ : Option D := none) (place_ : Option D := none) (good_ : Option D := none) (row_ : Option D := none) : Env := [market_, assignment_, goods_, found_, place_, good_, row_]
def d_ceiling_bound (ν : Nat → Nat) : Fd := ⟨(s "ceiling_bound"), 3, [s "market", s "assignment", s "goods", s "found", s "place", s "good", s "row"], 0, [s_ceiling_bound_0 ν, s_ceiling_bound_1 ν, s_ceiling_bound_2 ν], false⟩
/-- 51: floor_bound (k01) -/
def s_floor_bound_0 (ν : Nat → Nat) : Sm := .asg (.nm 4 (s "found")) (.int 0)
def s_floor_bound_1_0 (ν : Nat → Nat) : Sm := .asg (.nm 4 (s "found")) (.bin .add (.v 4 (s "found")) (.idx (.idx (.v 0 (s "market")) (.v 5 (s "buyer"))) (.v 3 (s "good"))))
def s_floor_bound_1_1 (ν : Nat → Nat) : Sm := .asg (.nm 3 (s "good")) (.idx (.v 1 (s "assignment")) (.v 5 (s "buyer")))
def s_floor_bound_1_2_0 (ν : Nat → Nat) : Sm := .asg (.nm 4 (s "found")) (.bin .sub (.v 4 (s "found")) (.idx (.idx (.v 0 (s "market")) (.v 5 (s "buyer"))) (.v 3 (s "good"))))
def s_floor_bound_1_2 (ν : Nat → Nat) : Sm := .iff (.cmp .ge (.v 3 (s "good")) (.int 0)) [s_floor_bound_1_2_0 ν] []
def s_floor_bound_1 (ν : Nat → Nat) : Sm := .for_ (.nm 5 (s "buyer")) (.seq (.v 2 (s "buyers"))) [s_floor_bound_1_0 ν, s_floor_bound_1_1 ν, s_floor_bound_1_2 ν]
def s_floor_bound_2 (ν : Nat → Nat) : Sm := .ret (.v 4 (s "found"))
@[reducible] def n_floor_bound (market_ : Option D := none) (assignment_ : Option D := none) (buyers_ : Option D := none) (good_ : Option D := none) (found_ : Option D := none) (buyer_ : Option D := none) : Env := [market_, assignment_, buyers_, good_, found_, buyer_]
def d_floor_bound (ν : Nat → Nat) : Fd := ⟨(s "floor_bound"), 4, [s "market", s "assignment", s "buyers", s "good", s "found", s "buyer"], 0, [s_floor_bound_0 ν, s_floor_bound_1 ν, s_floor_bound_2 ν], false⟩
/-- 52: ceiling (k01) -/
def s_ceiling_0 (ν : Nat → Nat) : Sm := .expr (.call (s "check_market") (ν 3) [(.v 0 (s "market"))])
def s_ceiling_1 (ν : Nat → Nat) : Sm := .expr (.call (s "check_good") (ν 5) [(.v 0 (s "market")), (.v 1 (s "good"))])
def s_ceiling_2 (ν : Nat → Nat) : Sm := .asg (.nm 2 (s "assignment")) (.idx (.idx (.call (s "found_best") (ν 13) [(.v 0 (s "market"))]) (.int 1)) (.int 0))
def s_ceiling_3 (ν : Nat → Nat) : Sm := .asg (.nm 3 (s "goal")) (.idx (.call (s "highest") (ν 45) [(.v 0 (s "market"))]) (.v 1 (s "good")))
def s_ceiling_4 (ν : Nat → Nat) : Sm := .asg (.nm 4 (s "level")) (.lst [(.tup [(.v 1 (s "good"))])])
def s_ceiling_5_0 (ν : Nat → Nat) : Sm := .new 5 (s "later") 0 (.lst [])
def s_ceiling_5_1_0 (ν : Nat → Nat) : Sm := .iff (.cmp .eq (.call (s "ceiling_bound") (ν 50) [(.v 0 (s "market")), (.v 2 (s "assignment")), (.v 6 (s "goods"))]) (.v 3 (s "goal"))) [.ret (.tup [(.v 2 (s "assignment")), (.v 6 (s "goods"))])] []
def s_ceiling_5_1_1_0 (ν : Nat → Nat) : Sm := .ext (.v 5 (s "later")) (.lc [((s "other"), 7)] (.nm 7 (s "other")) (.rng none (.bi .len (.idx (.v 0 (s "market")) (.int 0)))) (some (.cmp .notin (.v 7 (s "other")) (.v 6 (s "goods")))) (.bin .add (.v 6 (s "goods")) (.tup [(.v 7 (s "other"))])))
def s_ceiling_5_1_1 (ν : Nat → Nat) : Sm := .iff (.cmp .in_ (.idx (.v 6 (s "goods")) (.neg (.int 1))) (.v 2 (s "assignment"))) [s_ceiling_5_1_1_0 ν] []
def s_ceiling_5_1 (ν : Nat → Nat) : Sm := .for_ (.nm 6 (s "goods")) (.seq (.v 4 (s "level"))) [s_ceiling_5_1_0 ν, s_ceiling_5_1_1 ν]
def s_ceiling_5_2 (ν : Nat → Nat) : Sm := .fz 4 (s "level") (.v 5 (s "later"))
def s_ceiling_5 (ν : Nat → Nat) : Sm := .whil 40 (.bl true) [s_ceiling_5_0 ν, s_ceiling_5_1 ν, s_ceiling_5_2 ν]
@[reducible] def n_ceiling (market_ : Option D := none) (good_ : Option D := none) (assignment_ : Option D := none) (goal_ : Option D := none) (level_ : Option D := none) (later_ : Option D := none) (goods_ : Option D := none) (other_ : Option D := none) : Env := [market_, good_, assignment_, goal_, level_, later_, goods_, other_]
def d_ceiling (ν : Nat → Nat) : Fd := ⟨(s "ceiling"), 2, [s "market", s "good", s "assignment", s "goal", s "level", s "later", s "goods", s "other"], 1, [s_ceiling_0 ν, s_ceiling_1 ν, s_ceiling_2 ν, s_ceiling_3 ν, s_ceiling_4 ν, s_ceiling_5 ν], false⟩
/-- 53: floor (k01) -/
def s_floor_0 (ν : Nat → Nat) : Sm := .expr (.call (s "check_market") (ν 3) [(.v 0 (s "market"))])
def s_floor_1 (ν : Nat → Nat) : Sm := .expr (.call (s "check_good") (ν 5) [(.v 0 (s "market")), (.v 1 (s "good"))])
def s_floor_2 (ν : Nat → Nat) : Sm := .asg (.nm 2 (s "assignment")) (.idx (.idx (.call (s "found_best") (ν 13) [(.v 0 (s "market"))]) (.int 1)) (.int 0))
def s_floor_3 (ν : Nat → Nat) : Sm := .asg (.nm 3 (s "goal")) (.idx (.call (s "lowest") (ν 44) [(.v 0 (s "market"))]) (.v 1 (s "good")))
def s_floor_4 (ν : Nat → Nat) : Sm := .asg (.nm 4 (s "level")) (.lst [(.tup [])])
def s_floor_5_0 (ν : Nat → Nat) : Sm := .new 5 (s "later") 0 (.lst [])
def s_floor_5_1_0 (ν : Nat → Nat) : Sm := .iff (.cmp .eq (.call (s "floor_bound") (ν 51) [(.v 0 (s "market")), (.v 2 (s "assignment")), (.v 6 (s "buyers")), (.v 1 (s "good"))]) (.v 3 (s "goal"))) [.ret (.tup [(.v 2 (s "assignment")), (.v 6 (s "buyers"))])] []
def s_floor_5_1_1_0 (ν : Nat → Nat) : Sm := .asg (.nm 8 (s "longer")) (.bin .add (.v 6 (s "buyers")) (.tup [(.v 7 (s "buyer"))]))
def s_floor_5_1_1_1 (ν : Nat → Nat) : Sm := .iff (.call (s "are_floor") (ν 54) [(.v 0 (s "market")), (.v 2 (s "assignment")), (.v 8 (s "longer")), (.v 1 (s "good"))]) [.app (.v 5 (s "later")) (.v 8 (s "longer"))] []
def s_floor_5_1_1 (ν : Nat → Nat) : Sm := .for_ (.nm 7 (s "buyer")) (.rng none (.bi .len (.v 0 (s "market")))) [s_floor_5_1_1_0 ν, s_floor_5_1_1_1 ν]
def s_floor_5_1 (ν : Nat → Nat) : Sm := .for_ (.nm 6 (s "buyers")) (.seq (.v 4 (s "level"))) [s_floor_5_1_0 ν, s_floor_5_1_1 ν]
def s_floor_5_2 (ν : Nat → Nat) : Sm := .fz 4 (s "level") (.v 5 (s "later"))
def s_floor_5 (ν : Nat → Nat) : Sm := .whil 40 (.bl true) [s_floor_5_0 ν, s_floor_5_1 ν, s_floor_5_2 ν]
@[reducible] def n_floor (market_ : Option D := none) (good_ : Option D := none) (assignment_ : Option D := none) (goal_ : Option D := none) (level_ : Option D := none) (later_ : Option D := none) (buyers_ : Option D := none) (buyer_ : Option D := none) (longer_ : Option D := none) : Env := [market_, good_, assignment_, goal_, level_, later_, buyers_, buyer_, longer_]
def d_floor (ν : Nat → Nat) : Fd := ⟨(s "floor"), 2, [s "market", s "good", s "assignment", s "goal", s "level", s "later", s "buyers", s "buyer", s "longer"], 1, [s_floor_0 ν, s_floor_1 ν, s_floor_2 ν, s_floor_3 ν, s_floor_4 ν, s_floor_5 ν], false⟩
/-- 54: are_floor (k01) -/
def s_are_floor_0 (ν : Nat → Nat) : Sm := .iff (.cmp .lt (.bi .lenset (.v 2 (s "buyers"))) (.bi .len (.v 2 (s "buyers")))) [.ret (.bl false)] []
def s_are_floor_1 (ν : Nat → Nat) : Sm := .asg (.nm 4 (s "got")) (.lc [((s "buyer"), 5)] (.nm 5 (s "buyer")) (.seq (.v 2 (s "buyers"))) none (.idx (.v 1 (s "assignment")) (.v 5 (s "buyer"))))
def s_are_floor_2 (ν : Nat → Nat) : Sm := .ret (.and (.cmp .notin (.v 3 (s "good")) (.v 4 (s "got"))) (.cmp .notin (.neg (.int 1)) (.sl (.v 4 (s "got")) none (some (.neg (.int 1))))))
@[reducible] def n_are_floor (market_ : Option D := none) (assignment_ : Option D := none) (buyers_ : Option D := none) (good_ : Option D := none) (got_ : Option D := none) (buyer_ : Option D := none) : Env := [market_, assignment_, buyers_, good_, got_, buyer_]
def d_are_floor (ν : Nat → Nat) : Fd := ⟨(s "are_floor"), 4, [s "market", s "assignment", s "buyers", s "good", s "got", s "buyer"], 0, [s_are_floor_0 ν, s_are_floor_1 ν, s_are_floor_2 ν], false⟩
/-- 55: is_best (k01) -/
def s_is_best_0 (ν : Nat → Nat) : Sm := .ret (.and (.call (s "is_assigned") (ν 7) [(.v 0 (s "market")), (.v 1 (s "value"))]) (.cmp .eq (.call (s "total_of") (ν 10) [(.v 0 (s "market")), (.v 1 (s "value"))]) (.idx (.call (s "found_best") (ν 13) [(.v 0 (s "market"))]) (.int 0))))
@[reducible] def n_is_best (market_ : Option D := none) (value_ : Option D := none) : Env := [market_, value_]
def d_is_best (ν : Nat → Nat) : Fd := ⟨(s "is_best"), 2, [s "market", s "value"], 0, [s_is_best_0 ν], false⟩
/-- 56: are_numbers (k01) -/
def s_are_numbers_0 (ν : Nat → Nat) : Sm := .iff (.or (.not (.isin (.v 0 (s "value")) .tuple)) (.not (.bi .all (.lc [((s "one"), 2)] (.nm 2 (s "one")) (.seq (.v 0 (s "value"))) none (.and (.isin (.v 2 (s "one")) .int) (.not (.isin (.v 2 (s "one")) .bool))))))) [.ret (.bl false)] []
def s_are_numbers_1 (ν : Nat → Nat) : Sm := .ret (.and (.cmp .eq (.bi .lenset (.v 0 (s "value"))) (.bi .len (.v 0 (s "value")))) (.bi .all (.lc [((s "one"), 2)] (.nm 2 (s "one")) (.seq (.v 0 (s "value"))) none (.chain .le .lt (.int 0) (.v 2 (s "one")) (.v 1 (s "size"))))))
@[reducible] def n_are_numbers (value_ : Option D := none) (size_ : Option D := none) (one_ : Option D := none) : Env := [value_, size_, one_]
def d_are_numbers (ν : Nat → Nat) : Fd := ⟨(s "are_numbers"), 2, [s "value", s "size", s "one"], 0, [s_are_numbers_0 ν, s_are_numbers_1 ν], false⟩
/-- 57: is_ceiling (k01) -/
def s_is_ceiling_0 (ν : Nat → Nat) : Sm := .expr (.call (s "check_market") (ν 3) [(.v 0 (s "market"))])
def s_is_ceiling_1 (ν : Nat → Nat) : Sm := .expr (.call (s "check_good") (ν 5) [(.v 0 (s "market")), (.v 1 (s "good"))])
def s_is_ceiling_2 (ν : Nat → Nat) : Sm := .iff (.or (.not (.isin (.v 2 (s "value")) .tuple)) (.or (.cmp .ne (.bi .len (.v 2 (s "value"))) (.int 2)) (.not (.call (s "is_best") (ν 55) [(.v 0 (s "market")), (.idx (.v 2 (s "value")) (.int 0))])))) [.ret (.bl false)] []
def s_is_ceiling_3 (ν : Nat → Nat) : Sm := .asg (.tp [(3, (s "assignment")), (4, (s "goods"))]) (.v 2 (s "value"))
def s_is_ceiling_4 (ν : Nat → Nat) : Sm := .iff (.or (.not (.call (s "are_numbers") (ν 56) [(.v 4 (s "goods")), (.bi .len (.idx (.v 0 (s "market")) (.int 0)))])) (.cmp .ne (.sl (.v 4 (s "goods")) none (some (.int 1))) (.tup [(.v 1 (s "good"))]))) [.ret (.bl false)] []
def s_is_ceiling_5 (ν : Nat → Nat) : Sm := .iff (.not (.bi .all (.lc [((s "one"), 5)] (.nm 5 (s "one")) (.seq (.sl (.v 4 (s "goods")) none (some (.neg (.int 1))))) none (.cmp .in_ (.v 5 (s "one")) (.v 3 (s "assignment")))))) [.ret (.bl false)] []
def s_is_ceiling_6 (ν : Nat → Nat) : Sm := .ret (.cmp .eq (.call (s "ceiling_bound") (ν 50) [(.v 0 (s "market")), (.v 3 (s "assignment")), (.v 4 (s "goods"))]) (.idx (.call (s "highest") (ν 45) [(.v 0 (s "market"))]) (.v 1 (s "good"))))
@[reducible] def n_is_ceiling (market_ : Option D := none) (good_ : Option D := none) (value_ : Option D := none) (assignment_ : Option D := none) (goods_ : Option D := none) (one_ : Option D := none) : Env := [market_, good_, value_, assignment_, goods_, one_]
def d_is_ceiling (ν : Nat → Nat) : Fd := ⟨(s "is_ceiling"), 3, [s "market", s "good", s "value", s "assignment", s "goods", s "one"], 0, [s_is_ceiling_0 ν, s_is_ceiling_1 ν, s_is_ceiling_2 ν, s_is_ceiling_3 ν, s_is_ceiling_4 ν, s_is_ceiling_5 ν, s_is_ceiling_6 ν], false⟩
/-- 58: is_floor (k01) -/
def s_is_floor_0 (ν : Nat → Nat) : Sm := .expr (.call (s "check_market") (ν 3) [(.v 0 (s "market"))])
def s_is_floor_1 (ν : Nat → Nat) : Sm := .expr (.call (s "check_good") (ν 5) [(.v 0 (s "market")), (.v 1 (s "good"))])
def s_is_floor_2 (ν : Nat → Nat) : Sm := .iff (.or (.not (.isin (.v 2 (s "value")) .tuple)) (.or (.cmp .ne (.bi .len (.v 2 (s "value"))) (.int 2)) (.not (.call (s "is_best") (ν 55) [(.v 0 (s "market")), (.idx (.v 2 (s "value")) (.int 0))])))) [.ret (.bl false)] []
def s_is_floor_3 (ν : Nat → Nat) : Sm := .asg (.tp [(3, (s "assignment")), (4, (s "buyers"))]) (.v 2 (s "value"))
def s_is_floor_4 (ν : Nat → Nat) : Sm := .iff (.or (.not (.call (s "are_numbers") (ν 56) [(.v 4 (s "buyers")), (.bi .len (.v 0 (s "market")))])) (.not (.call (s "are_floor") (ν 54) [(.v 0 (s "market")), (.v 3 (s "assignment")), (.v 4 (s "buyers")), (.v 1 (s "good"))]))) [.ret (.bl false)] []
def s_is_floor_5 (ν : Nat → Nat) : Sm := .ret (.cmp .eq (.call (s "floor_bound") (ν 51) [(.v 0 (s "market")), (.v 3 (s "assignment")), (.v 4 (s "buyers")), (.v 1 (s "good"))]) (.idx (.call (s "lowest") (ν 44) [(.v 0 (s "market"))]) (.v 1 (s "good"))))
@[reducible] def n_is_floor (market_ : Option D := none) (good_ : Option D := none) (value_ : Option D := none) (assignment_ : Option D := none) (buyers_ : Option D := none) : Env := [market_, good_, value_, assignment_, buyers_]
def d_is_floor (ν : Nat → Nat) : Fd := ⟨(s "is_floor"), 3, [s "market", s "good", s "value", s "assignment", s "buyers"], 0, [s_is_floor_0 ν, s_is_floor_1 ν, s_is_floor_2 ν, s_is_floor_3 ν, s_is_floor_4 ν, s_is_floor_5 ν], false⟩
/-- 59: moved (k01) -/
def s_moved_0 (ν : Nat → Nat) : Sm := .ret (.bi .tuple (.lc [((s "good"), 3), ((s "price"), 4)] (.tp [(3, (s "good")), (4, (s "price"))]) (.enum (.v 0 (s "prices"))) none (.bin .add (.v 4 (s "price")) (.bin .mul (.v 2 (s "step")) (.bi .int (.cmp .in_ (.v 3 (s "good")) (.v 1 (s "goods"))))))))
@[reducible] def n_moved (prices_ : Option D := none) (goods_ : Option D := none) (step_ : Option D := none) (good_ : Option D := none) (price_ : Option D := none) : Env := [prices_, goods_, step_, good_, price_]
def d_moved (ν : Nat → Nat) : Fd := ⟨(s "moved"), 3, [s "prices", s "goods", s "step", s "good", s "price"], 0, [s_moved_0 ν], false⟩
/-- 60: rising (k01) -/
def s_rising_0 (ν : Nat → Nat) : Sm := .expr (.call (s "check_market") (ν 3) [(.v 0 (s "market"))])
def s_rising_1 (ν : Nat → Nat) : Sm := .new 1 (s "found") 0 (.lst [(.bin .mul (.tup [(.int 0)]) (.bi .len (.idx (.v 0 (s "market")) (.int 0))))])
def s_rising_2_0 (ν : Nat → Nat) : Sm := .app (.v 1 (s "found")) (.call (s "moved") (ν 59) [(.idx (.v 1 (s "found")) (.neg (.int 1))), (.call (s "found_crowd") (ν 35) [(.v 0 (s "market")), (.idx (.v 1 (s "found")) (.neg (.int 1)))]), (.int 1)])
def s_rising_2 (ν : Nat → Nat) : Sm := .whil 40 (.cmp .isnot (.call (s "found_crowd") (ν 35) [(.v 0 (s "market")), (.idx (.v 1 (s "found")) (.neg (.int 1)))]) .non) [s_rising_2_0 ν]
def s_rising_3 (ν : Nat → Nat) : Sm := .ret (.bi .tuple (.v 1 (s "found")))
@[reducible] def n_rising (market_ : Option D := none) (found_ : Option D := none) : Env := [market_, found_]
def d_rising (ν : Nat → Nat) : Fd := ⟨(s "rising"), 1, [s "market", s "found"], 1, [s_rising_0 ν, s_rising_1 ν, s_rising_2 ν, s_rising_3 ν], false⟩
/-- 61: falling (k01) -/
def s_falling_0 (ν : Nat → Nat) : Sm := .expr (.call (s "check_market") (ν 3) [(.v 0 (s "market"))])
def s_falling_1 (ν : Nat → Nat) : Sm := .new 1 (s "found") 0 (.lst [(.bin .mul (.tup [(.bin .add (.g (s "TOP") (20)) (.int 1))]) (.bi .len (.idx (.v 0 (s "market")) (.int 0))))])
def s_falling_2_0 (ν : Nat → Nat) : Sm := .app (.v 1 (s "found")) (.call (s "moved") (ν 59) [(.idx (.v 1 (s "found")) (.neg (.int 1))), (.call (s "found_glut") (ν 36) [(.v 0 (s "market")), (.idx (.v 1 (s "found")) (.neg (.int 1)))]), (.neg (.int 1))])
def s_falling_2 (ν : Nat → Nat) : Sm := .whil 40 (.cmp .isnot (.call (s "found_glut") (ν 36) [(.v 0 (s "market")), (.idx (.v 1 (s "found")) (.neg (.int 1)))]) .non) [s_falling_2_0 ν]
def s_falling_3 (ν : Nat → Nat) : Sm := .ret (.bi .tuple (.v 1 (s "found")))
@[reducible] def n_falling (market_ : Option D := none) (found_ : Option D := none) : Env := [market_, found_]
def d_falling (ν : Nat → Nat) : Fd := ⟨(s "falling"), 1, [s "market", s "found"], 1, [s_falling_0 ν, s_falling_1 ν, s_falling_2 ν, s_falling_3 ν], false⟩
/-- 62: greatest_gain (k01) -/
def s_greatest_gain_0 (ν : Nat → Nat) : Sm := .expr (.call (s "check_market") (ν 3) [(.v 0 (s "market"))])
def s_greatest_gain_1 (ν : Nat → Nat) : Sm := .expr (.call (s "check_buyer") (ν 4) [(.v 0 (s "market")), (.v 1 (s "buyer"))])
def s_greatest_gain_2 (ν : Nat → Nat) : Sm := .ret (.call (s "found_gain") (ν 24) [(.v 0 (s "market")), (.call (s "lowest") (ν 44) [(.v 0 (s "market"))]), (.v 1 (s "buyer"))])
@[reducible] def n_greatest_gain (market_ : Option D := none) (buyer_ : Option D := none) : Env := [market_, buyer_]
def d_greatest_gain (ν : Nat → Nat) : Fd := ⟨(s "greatest_gain"), 2, [s "market", s "buyer"], 0, [s_greatest_gain_0 ν, s_greatest_gain_1 ν, s_greatest_gain_2 ν], false⟩
/-- 63: least_gain (k01) -/
def s_least_gain_0 (ν : Nat → Nat) : Sm := .expr (.call (s "check_market") (ν 3) [(.v 0 (s "market"))])
def s_least_gain_1 (ν : Nat → Nat) : Sm := .expr (.call (s "check_buyer") (ν 4) [(.v 0 (s "market")), (.v 1 (s "buyer"))])
def s_least_gain_2 (ν : Nat → Nat) : Sm := .ret (.call (s "found_gain") (ν 24) [(.v 0 (s "market")), (.call (s "highest") (ν 45) [(.v 0 (s "market"))]), (.v 1 (s "buyer"))])
@[reducible] def n_least_gain (market_ : Option D := none) (buyer_ : Option D := none) : Env := [market_, buyer_]
def d_least_gain (ν : Nat → Nat) : Fd := ⟨(s "least_gain"), 2, [s "market", s "buyer"], 0, [s_least_gain_0 ν, s_least_gain_1 ν, s_least_gain_2 ν], false⟩
/-- 64: rest_of (k01) -/
def s_rest_of_0 (ν : Nat → Nat) : Sm := .ret (.bin .add (.sl (.v 0 (s "market")) none (some (.v 1 (s "buyer")))) (.sl (.v 0 (s "market")) (some (.bin .add (.v 1 (s "buyer")) (.int 1))) none))
@[reducible] def n_rest_of (market_ : Option D := none) (buyer_ : Option D := none) : Env := [market_, buyer_]
def d_rest_of (ν : Nat → Nat) : Fd := ⟨(s "rest_of"), 2, [s "market", s "buyer"], 0, [s_rest_of_0 ν], false⟩
/-- 65: added_value (k01) -/
def s_added_value_0 (ν : Nat → Nat) : Sm := .expr (.call (s "check_market") (ν 3) [(.v 0 (s "market"))])
def s_added_value_1 (ν : Nat → Nat) : Sm := .expr (.call (s "check_buyer") (ν 4) [(.v 0 (s "market")), (.v 1 (s "buyer"))])
def s_added_value_2 (ν : Nat → Nat) : Sm := .ret (.bin .sub (.idx (.call (s "found_best") (ν 13) [(.v 0 (s "market"))]) (.int 0)) (.idx (.call (s "found_best") (ν 13) [(.call (s "rest_of") (ν 64) [(.v 0 (s "market")), (.v 1 (s "buyer"))])]) (.int 0)))
@[reducible] def n_added_value (market_ : Option D := none) (buyer_ : Option D := none) : Env := [market_, buyer_]
def d_added_value (ν : Nat → Nat) : Fd := ⟨(s "added_value"), 2, [s "market", s "buyer"], 0, [s_added_value_0 ν, s_added_value_1 ν, s_added_value_2 ν], false⟩
/-- 66: told (k01) -/
def s_told_0 (ν : Nat → Nat) : Sm := .expr (.call (s "check_market") (ν 3) [(.v 0 (s "market"))])
def s_told_1 (ν : Nat → Nat) : Sm := .expr (.call (s "check_buyer") (ν 4) [(.v 0 (s "market")), (.v 1 (s "buyer"))])
def s_told_2 (ν : Nat → Nat) : Sm := .expr (.call (s "check_row") (ν 6) [(.v 0 (s "market")), (.v 2 (s "row"))])
def s_told_3 (ν : Nat → Nat) : Sm := .ret (.bin .add (.bin .add (.sl (.v 0 (s "market")) none (some (.v 1 (s "buyer")))) (.tup [(.v 2 (s "row"))])) (.sl (.v 0 (s "market")) (some (.bin .add (.v 1 (s "buyer")) (.int 1))) none))
@[reducible] def n_told (market_ : Option D := none) (buyer_ : Option D := none) (row_ : Option D := none) : Env := [market_, buyer_, row_]
def d_told (ν : Nat → Nat) : Fd := ⟨(s "told"), 3, [s "market", s "buyer", s "row"], 0, [s_told_0 ν, s_told_1 ν, s_told_2 ν, s_told_3 ν], false⟩
/-- 67: without_buyer (k01) -/
def s_without_buyer_0 (ν : Nat → Nat) : Sm := .expr (.call (s "check_market") (ν 3) [(.v 0 (s "market"))])
def s_without_buyer_1 (ν : Nat → Nat) : Sm := .expr (.call (s "check_buyer") (ν 4) [(.v 0 (s "market")), (.v 1 (s "buyer"))])
def s_without_buyer_2 (ν : Nat → Nat) : Sm := .iff (.cmp .eq (.bi .len (.v 0 (s "market"))) (.int 1)) [.raise (ν 1011) (s "TooFew") (s "there is only one buyer")] []
def s_without_buyer_3 (ν : Nat → Nat) : Sm := .ret (.call (s "rest_of") (ν 64) [(.v 0 (s "market")), (.v 1 (s "buyer"))])
@[reducible] def n_without_buyer (market_ : Option D := none) (buyer_ : Option D := none) : Env := [market_, buyer_]
def d_without_buyer (ν : Nat → Nat) : Fd := ⟨(s "without_buyer"), 2, [s "market", s "buyer"], 0, [s_without_buyer_0 ν, s_without_buyer_1 ν, s_without_buyer_2 ν, s_without_buyer_3 ν], false⟩
/-- 68: with_buyer (k01) -/
def d_with_buyer (ν : Nat → Nat) : Fd := ⟨(s "with_buyer"), 2, [s "market", s "row"], 0, [.expr (.call (s "check_market") (ν 3) [(.v 0 (s "market"))]), .expr (.call (s "check_row") (ν 6) [(.v 0 (s "market")), (.v 1 (s "row"))]), .iff (.cmp .eq (.bi .len (.v 0 (s "market"))) (.g (s "MOST") (5))) [.raise (ν 1010) (s "TooMany") (s "there are 5 buyers")] [], .ret (.bin .add (.v 0 (s "market")) (.tup [(.v 1 (s "row"))]))], false⟩
/-- 69: without_good (k01) -/
def s_without_good_0 (ν : Nat → Nat) : Sm := .expr (.call (s "check_market") (ν 3) [(.v 0 (s "market"))])
def s_without_good_1 (ν : Nat → Nat) : Sm := .expr (.call (s "check_good") (ν 5) [(.v 0 (s "market")), (.v 1 (s "good"))])
def s_without_good_2 (ν : Nat → Nat) : Sm := .iff (.cmp .eq (.bi .len (.idx (.v 0 (s "market")) (.int 0))) (.int 1)) [.raise (ν 1011) (s "TooFew") (s "there is only one good")] []
def s_without_good_3 (ν : Nat → Nat) : Sm := .ret (.bi .tuple (.lc [((s "row"), 2)] (.nm 2 (s "row")) (.seq (.v 0 (s "market"))) none (.bin .add (.sl (.v 2 (s "row")) none (some (.v 1 (s "good")))) (.sl (.v 2 (s "row")) (some (.bin .add (.v 1 (s "good")) (.int 1))) none))))
@[reducible] def n_without_good (market_ : Option D := none) (good_ : Option D := none) (row_ : Option D := none) : Env := [market_, good_, row_]
def d_without_good (ν : Nat → Nat) : Fd := ⟨(s "without_good"), 2, [s "market", s "good", s "row"], 0, [s_without_good_0 ν, s_without_good_1 ν, s_without_good_2 ν, s_without_good_3 ν], false⟩
/-- 70: with_good (k01) -/
def s_with_good_0 (ν : Nat → Nat) : Sm := .expr (.call (s "check_market") (ν 3) [(.v 0 (s "market"))])
def s_with_good_1_0 (ν : Nat → Nat) : Sm := .raise (ν 1007) (s "InvalidColumn") (s "not a column of the market")
def s_with_good_1 (ν : Nat → Nat) : Sm := .iff (.not (.call (s "is_row_of") (ν 1) [(.bi .len (.v 0 (s "market"))), (.v 1 (s "column"))])) [s_with_good_1_0 ν] []
def s_with_good_2 (ν : Nat → Nat) : Sm := .iff (.cmp .eq (.bi .len (.idx (.v 0 (s "market")) (.int 0))) (.g (s "MOST") (5))) [.raise (ν 1010) (s "TooMany") (s "there are 5 goods")] []
def s_with_good_3 (ν : Nat → Nat) : Sm := .ret (.bi .tuple (.lc [((s "row"), 2), ((s "value"), 3)] (.tp [(2, (s "row")), (3, (s "value"))]) (.zip (.v 0 (s "market")) (.v 1 (s "column"))) none (.bin .add (.v 2 (s "row")) (.tup [(.v 3 (s "value"))]))))
@[reducible] def n_with_good (market_ : Option D := none) (column_ : Option D := none) (row_ : Option D := none) (value_ : Option D := none) : Env := [market_, column_, row_, value_]
def d_with_good (ν : Nat → Nat) : Fd := ⟨(s "with_good"), 2, [s "market", s "column", s "row", s "value"], 0, [s_with_good_0 ν, s_with_good_1 ν, s_with_good_2 ν, s_with_good_3 ν], false⟩
/-- 73: format_market (k01) -/
def s_format_market_0 (ν : Nat → Nat) : Sm := .expr (.call (s "check_market") (ν 3) [(.v 0 (s "market"))])
def s_format_market_1 (ν : Nat → Nat) : Sm := .ret (.call (s "text_of") (ν 72) [(.v 0 (s "market"))])
@[reducible] def n_format_market (market_ : Option D := none) : Env := [market_]
def d_format_market (ν : Nat → Nat) : Fd := ⟨(s "format_market"), 1, [s "market"], 0, [s_format_market_0 ν, s_format_market_1 ν], false⟩
/-- 75: _law_draw (k01) -/
def s__law_draw_0 (ν : Nat → Nat) : Sm := .setix (.v 1 (s "town")) (.int 0) (.bin .add (.idx (.v 1 (s "town")) (.int 0)) (.int 1))
def s__law_draw_1_0 (ν : Nat → Nat) : Sm := .ret (.bin .mod (.bin .fdiv (.bin .mul (.bin .mul (.idx (.v 1 (s "town")) (.int 0)) (.idx (.v 1 (s "town")) (.int 0))) (.int 7)) (.int 3)) (.v 2 (s "limit")))
def s__law_draw_1 (ν : Nat → Nat) : Sm := .iff (.cmp .eq (.v 0 (s "script")) (.lst [])) [s__law_draw_1_0 ν] []
def s__law_draw_2 (ν : Nat → Nat) : Sm := .asg (.nm 3 (s "at")) (.bin .mod (.idx (.v 1 (s "town")) (.int 0)) (.bi .len (.v 0 (s "script"))))
def s__law_draw_3 (ν : Nat → Nat) : Sm := .asg (.nm 4 (s "left")) (.idx (.v 1 (s "town")) (.bin .add (.int 1) (.v 3 (s "at"))))
def s__law_draw_4_0 (ν : Nat → Nat) : Sm := .setix (.v 1 (s "town")) (.bin .add (.int 1) (.v 3 (s "at"))) (.bin .fdiv (.v 4 (s "left")) (.v 2 (s "limit")))
def s__law_draw_4_1 (ν : Nat → Nat) : Sm := .ret (.bin .mod (.v 4 (s "left")) (.v 2 (s "limit")))
def s__law_draw_4 (ν : Nat → Nat) : Sm := .iff (.and (.cmp .ge (.idx (.v 0 (s "script")) (.v 3 (s "at"))) (.bin .pow (.int 10) (.int 18))) (.cmp .gt (.v 4 (s "left")) (.int 0))) [s__law_draw_4_0 ν, s__law_draw_4_1 ν] []
def s__law_draw_5 (ν : Nat → Nat) : Sm := .asg (.nm 5 (s "number")) (.bin .mod (.bin .add (.idx (.v 0 (s "script")) (.v 3 (s "at"))) (.bin .mul (.int 104729) (.idx (.v 1 (s "town")) (.int 0)))) (.int 4294967291))
def s__law_draw_6 (ν : Nat → Nat) : Sm := .asg (.nm 5 (s "number")) (.bin .mod (.bin .pow (.v 5 (s "number")) (.int 5)) (.int 4294967279))
def s__law_draw_7 (ν : Nat → Nat) : Sm := .ret (.bin .mod (.bin .fdiv (.bin .mod (.bin .add (.bin .mul (.bin .fdiv (.v 5 (s "number")) (.int 64)) (.int 69621)) (.v 5 (s "number"))) (.int 4294967231)) (.int 8)) (.v 2 (s "limit")))
@[reducible] def n__law_draw (script_ : Option D := none) (town_ : Option D := none) (limit_ : Option D := none) (at_ : Option D := none) (left_ : Option D := none) (number_ : Option D := none) : Env := [script_, town_, limit_, at_, left_, number_]
def d__law_draw (ν : Nat → Nat) : Fd := ⟨(s "_law_draw"), 3, [s "script", s "town", s "limit", s "at", s "left", s "number"], 0, [s__law_draw_0 ν, s__law_draw_1 ν, s__law_draw_2 ν, s__law_draw_3 ν, s__law_draw_4 ν, s__law_draw_5 ν, s__law_draw_6 ν, s__law_draw_7 ν], false⟩
/-- 76: _law_pick (k01) -/
def s__law_pick_0 (ν : Nat → Nat) : Sm := .ret (.idx (.v 2 (s "choices")) (.call (s "_law_draw") (ν 75) [(.v 0 (s "script")), (.v 1 (s "town")), (.bi .len (.v 2 (s "choices")))]))
@[reducible] def n__law_pick (script_ : Option D := none) (town_ : Option D := none) (choices_ : Option D := none) : Env := [script_, town_, choices_]
def d__law_pick (ν : Nat → Nat) : Fd := ⟨(s "_law_pick"), 3, [s "script", s "town", s "choices"], 0, [s__law_pick_0 ν], false⟩
/-- 79: _law_raises (k01) -/
def s__law_raises_0 (ν : Nat → Nat) : Sm := .asg (.nm 1 (s "names")) (.lst [(.str (s "market")), (.str (s "buyer")), (.str (s "good")), (.str (s "assignment")), (.str (s "prices")), (.str (s "row"))])
def s__law_raises_1 (ν : Nat → Nat) : Sm := .asg (.nm 1 (s "names")) (.bin .add (.v 1 (s "names")) (.lst [(.str (s "column")), (.str (s "value")), (.str (s "text")), (.str (s "many")), (.str (s "few")), (.str (s "undo"))]))
def s__law_raises_2 (ν : Nat → Nat) : Sm := .ret (.tup [(.str (s "raised")), (.index (.v 1 (s "names")) (.v 0 (s "name")))])
@[reducible] def n__law_raises (name_ : Option D := none) (names_ : Option D := none) : Env := [name_, names_]
def d__law_raises (ν : Nat → Nat) : Fd := ⟨(s "_law_raises"), 1, [s "name", s "names"], 0, [s__law_raises_0 ν, s__law_raises_1 ν, s__law_raises_2 ν], false⟩
/-- 80: _law_market (k01) -/
def s__law_market_0 (ν : Nat → Nat) : Sm := .par [(7, (s "many")), (8, (s "size"))] [(.bin .add (.int 1) (.call (s "_law_draw") (ν 75) [(.v 0 (s "script")), (.v 1 (s "town")), (.v 2 (s "buyers"))])), (.bin .add (.int 1) (.call (s "_law_draw") (ν 75) [(.v 0 (s "script")), (.v 1 (s "town")), (.v 3 (s "goods"))]))]
def s__law_market_1 (ν : Nat → Nat) : Sm := .asg (.nm 4 (s "most")) (.call (s "_law_pick") (ν 76) [(.v 0 (s "script")), (.v 1 (s "town")), (.lst [(.int 3), (.int 6), (.int 21)])])
def s__law_market_2 (ν : Nat → Nat) : Sm := .new 5 (s "rows") 0 (.lst [])
def s__law_market_3_0 (ν : Nat → Nat) : Sm := .app (.v 5 (s "rows")) (.bi .tuple (.lc [((s "j"), 9)] (.nm 9 (s "j")) (.rng none (.v 8 (s "size"))) none (.call (s "_law_draw") (ν 75) [(.v 0 (s "script")), (.v 1 (s "town")), (.v 4 (s "most"))])))
def s__law_market_3_1_0 (ν : Nat → Nat) : Sm := .setix (.v 5 (s "rows")) (.v 6 (s "k")) (.idx (.v 5 (s "rows")) (.bin .sub (.v 6 (s "k")) (.int 1)))
def s__law_market_3_1 (ν : Nat → Nat) : Sm := .iff (.and (.cmp .gt (.v 6 (s "k")) (.int 0)) (.cmp .eq (.call (s "_law_draw") (ν 75) [(.v 0 (s "script")), (.v 1 (s "town")), (.int 5)]) (.int 0))) [s__law_market_3_1_0 ν] []
def s__law_market_3 (ν : Nat → Nat) : Sm := .for_ (.nm 6 (s "k")) (.rng none (.v 7 (s "many"))) [s__law_market_3_0 ν, s__law_market_3_1 ν]
def s__law_market_4 (ν : Nat → Nat) : Sm := .ret (.bi .tuple (.v 5 (s "rows")))
@[reducible] def n__law_market (script_ : Option D := none) (town_ : Option D := none) (buyers_ : Option D := none) (goods_ : Option D := none) (most_ : Option D := none) (rows_ : Option D := none) (k_ : Option D := none) (many_ : Option D := none) (size_ : Option D := none) (j_ : Option D := none) : Env := [script_, town_, buyers_, goods_, most_, rows_, k_, many_, size_, j_]
def d__law_market (ν : Nat → Nat) : Fd := ⟨(s "_law_market"), 4, [s "script", s "town", s "buyers", s "goods", s "most", s "rows", s "k", s "many", s "size", s "j"], 1, [s__law_market_0 ν, s__law_market_1 ν, s__law_market_2 ν, s__law_market_3 ν, s__law_market_4 ν], false⟩
/-- 82: _law_bad_markets (k01) -/
def s__law_bad_markets_0 (ν : Nat → Nat) : Sm := .asg (.nm 0 (s "row")) (.tup [(.int 1), (.int 2)])
def s__law_bad_markets_1 (ν : Nat → Nat) : Sm := .asg (.nm 1 (s "bads")) (.lst [.non, (.int 5), (.tup []), (.str (s "1")), (.tup [(.int 1)]), (.tup [(.tup [])]), (.tup [(.v 0 (s "row")), (.tup [(.int 1)])]), (.lst [(.v 0 (s "row"))]), (.tup [(.v 0 (s "row")), (.lst [(.int 1), (.int 2)])]), (.tup [(.tup [(.int 21)])]), (.tup [(.tup [(.neg (.int 1))])])])
def s__law_bad_markets_2 (ν : Nat → Nat) : Sm := .asg (.nm 1 (s "bads")) (.bin .add (.v 1 (s "bads")) (.lst [(.tup [(.tup [(.bl true)])]), (.tup [(.tup [.non])]), (.bin .mul (.tup [(.v 0 (s "row"))]) (.int 6)), (.tup [(.bin .mul (.tup [(.int 0)]) (.int 6))]), (.tup [(.v 0 (s "row")), .non]), (.tup [(.tup [(.str (s "1")), (.int 2)])])]))
def s__law_bad_markets_3 (ν : Nat → Nat) : Sm := .ret (.bin .add (.v 1 (s "bads")) (.lst [(.tup [(.tup [(.int 1), (.int 2)]), (.tup [(.int 1), (.int 2), (.int 3)])]), (.tup [(.tup [(.int 1), (.tup [(.int 2)])])])]))
@[reducible] def n__law_bad_markets (row_ : Option D := none) (bads_ : Option D := none) : Env := [row_, bads_]
def d__law_bad_markets (ν : Nat → Nat) : Fd := ⟨(s "_law_bad_markets"), 0, [s "row", s "bads"], 0, [s__law_bad_markets_0 ν, s__law_bad_markets_1 ν, s__law_bad_markets_2 ν, s__law_bad_markets_3 ν], false⟩
/-- 83: _law_wrongs (k01) -/
def s__law_wrongs_0 (ν : Nat → Nat) : Sm := .new 0 (s "rows") 0 (.lst [])
def s__law_wrongs_1_0 (ν : Nat → Nat) : Sm := .new 0 (s "rows") 0 (.bin .add (.v 0 (s "rows")) (.lst [(.tup [(.int 10), (.v 1 (s "bad")), (.int 0), (.str (s "assignment"))]), (.tup [(.int 11), (.v 1 (s "bad")), (.int 0), (.str (s "assignment"))]), (.tup [(.int 26), (.tup [(.int 0), (.int 0), (.int 0)]), (.v 1 (s "bad")), (.str (s "assignment"))])]))
def s__law_wrongs_1_1 (ν : Nat → Nat) : Sm := .app (.v 0 (s "rows")) (.tup [(.int 27), (.tup [(.int 0), (.int 0), (.int 0)]), (.v 1 (s "bad")), (.str (s "assignment"))])
def s__law_wrongs_1 (ν : Nat → Nat) : Sm := .for_ (.nm 1 (s "bad")) (.seq (.tup [.non, (.tup [(.int 0)]), (.tup [(.int 0), (.int 0)]), (.tup [(.int 0), (.int 3)]), (.tup [(.neg (.int 2)), (.int 0)]), (.lst [(.int 0), (.int 1)]), (.tup [(.bl true), (.int 0)]), (.tup [(.int 0), (.int 1), (.int 2)]), (.str (s "01")), (.tup [(.int 0), .non])])) [s__law_wrongs_1_0 ν, s__law_wrongs_1_1 ν]
def s__law_wrongs_2_0 (ν : Nat → Nat) : Sm := .new 0 (s "rows") 0 (.bin .add (.v 0 (s "rows")) (.lc [((s "way"), 2)] (.nm 2 (s "way")) (.seq (.tup [(.int 12), (.int 13), (.int 14), (.int 24), (.int 25), (.int 26), (.int 27), (.int 31), (.int 32)])) none (.tup [(.v 2 (s "way")), (.v 1 (s "bad")), (.neg (.int 1)), (.str (s "prices"))])))
def s__law_wrongs_2 (ν : Nat → Nat) : Sm := .for_ (.nm 1 (s "bad")) (.seq (.tup [.non, (.tup [(.int 0), (.int 0)]), (.tup [(.int 0), (.int 0), (.int 100)]), (.tup [(.neg (.int 1)), (.int 0), (.int 0)]), (.lst [(.int 0), (.int 0), (.int 0)]), (.tup [(.bl true), (.int 0), (.int 0)]), (.tup [(.int 0), (.int 0), (.int 0), (.int 0)]), (.str (s "000")), (.tup [(.int 0), (.int 0), .non])])) [s__law_wrongs_2_0 ν]
def s__law_wrongs_3_0 (ν : Nat → Nat) : Sm := .new 0 (s "rows") 0 (.bin .add (.v 0 (s "rows")) (.lc [((s "way"), 2)] (.nm 2 (s "way")) (.seq (.tup [(.int 17), (.int 18), (.int 19), (.int 20), (.int 29), (.int 35)])) none (.tup [(.v 2 (s "way")), (.v 1 (s "bad")), (.neg (.int 1)), (.str (s "buyer"))])))
def s__law_wrongs_3_1 (ν : Nat → Nat) : Sm := .new 0 (s "rows") 0 (.bin .add (.v 0 (s "rows")) (.lst [(.tup [(.int 24), (.tup [(.int 0), (.int 0), (.int 0)]), (.v 1 (s "bad")), (.str (s "buyer"))]), (.tup [(.int 25), (.tup [(.int 0), (.int 0), (.int 0)]), (.v 1 (s "bad")), (.str (s "buyer"))])]))
def s__law_wrongs_3 (ν : Nat → Nat) : Sm := .for_ (.nm 1 (s "bad")) (.seq (.tup [(.neg (.int 1)), (.int 2), (.bl true), .non, (.str (s "0")), (.tup [(.int 0)])])) [s__law_wrongs_3_0 ν, s__law_wrongs_3_1 ν]
def s__law_wrongs_4_0 (ν : Nat → Nat) : Sm := .new 0 (s "rows") 0 (.bin .add (.v 0 (s "rows")) (.lc [((s "way"), 2)] (.nm 2 (s "way")) (.seq (.tup [(.int 15), (.int 16), (.int 22), (.int 28), (.int 33), (.int 34)])) none (.tup [(.v 2 (s "way")), (.v 1 (s "bad")), (.neg (.int 1)), (.str (s "good"))])))
def s__law_wrongs_4_1 (ν : Nat → Nat) : Sm := .new 0 (s "rows") 0 (.bin .add (.v 0 (s "rows")) (.lst [(.tup [(.int 28), (.int 0), (.v 1 (s "bad")), (.str (s "good"))]), (.tup [(.int 35), (.int 0), (.v 1 (s "bad")), (.str (s "good"))])]))
def s__law_wrongs_4 (ν : Nat → Nat) : Sm := .for_ (.nm 1 (s "bad")) (.seq (.tup [(.neg (.int 1)), (.int 3), (.bl true), .non, (.str (s "0")), (.tup [(.int 0)])])) [s__law_wrongs_4_0 ν, s__law_wrongs_4_1 ν]
def s__law_wrongs_5_0 (ν : Nat → Nat) : Sm := .new 0 (s "rows") 0 (.bin .add (.v 0 (s "rows")) (.lst [(.tup [(.int 21), (.v 1 (s "bad")), (.int 0), (.str (s "row"))]), (.tup [(.int 29), (.int 0), (.v 1 (s "bad")), (.str (s "row"))])]))
def s__law_wrongs_5 (ν : Nat → Nat) : Sm := .for_ (.nm 1 (s "bad")) (.seq (.tup [.non, (.tup [(.int 0), (.int 0)]), (.tup [(.int 0), (.int 0), (.int 21)]), (.tup [(.int 0), (.int 0), (.neg (.int 1))]), (.lst [(.int 0), (.int 0), (.int 0)]), (.tup [(.int 0), (.int 0), (.bl true)]), (.str (s "000")), (.tup [(.int 0), (.int 0), (.int 0), (.int 0)])])) [s__law_wrongs_5_0 ν]
def s__law_wrongs_6 (ν : Nat → Nat) : Sm := .ret (.bin .add (.v 0 (s "rows")) (.lc [((s "bad"), 1)] (.nm 1 (s "bad")) (.seq (.tup [.non, (.tup [(.int 0)]), (.tup [(.int 0), (.int 21)]), (.tup [(.int 0), (.neg (.int 1))]), (.lst [(.int 0), (.int 0)]), (.tup [(.int 0), (.bl true)]), (.tup [(.int 0), (.int 0), (.int 0)])])) none (.tup [(.int 23), (.v 1 (s "bad")), (.int 0), (.str (s "column"))])))
@[reducible] def n__law_wrongs (rows_ : Option D := none) (bad_ : Option D := none) (way_ : Option D := none) : Env := [rows_, bad_, way_]
def d__law_wrongs (ν : Nat → Nat) : Fd := ⟨(s "_law_wrongs"), 0, [s "rows", s "bad", s "way"], 1, [s__law_wrongs_0 ν, s__law_wrongs_1 ν, s__law_wrongs_2 ν, s__law_wrongs_3 ν, s__law_wrongs_4 ν, s__law_wrongs_5 ν, s__law_wrongs_6 ν], false⟩
/-- 84: law (k01) -/
def s_law_k01_0 (ν : Nat → Nat) : Sm := .new 1 (s "town") 0 (.call (s "_law_town") (ν 74) [(.v 0 (s "script"))])
def s_law_k01_1 (ν : Nat → Nat) : Sm := .asg (.nm 2 (s "market")) (.call (s "_law_market") (ν 80) [(.v 0 (s "script")), (.v 1 (s "town")), (.int 5), (.int 5)])
def s_law_k01_2 (ν : Nat → Nat) : Sm := .asg (.nm 3 (s "goods")) (.lst [(.v 2 (s "market")), (.tup [(.tup [(.int 0)])]), (.bin .mul (.tup [(.tup [(.int 20), (.int 0), (.int 20), (.int 0), (.int 20)])]) (.int 5))])
def s_law_k01_3 (ν : Nat → Nat) : Sm := .iff (.cmp .ne (.lc [((s "good"), 12)] (.nm 12 (s "good")) (.seq (.v 3 (s "goods"))) (some (.cmp .isnot (.call (s "is_market") (ν 2) [(.v 12 (s "good"))]) (.bl true))) (.v 12 (s "good"))) (.lst [])) [.ret (.bl false)] []
def s_law_k01_4 (ν : Nat → Nat) : Sm := .iff (.cmp .ne (.lc [((s "bad"), 4)] (.nm 4 (s "bad")) (.seq (.call (s "_law_bad_markets") (ν 82) [])) (some (.cmp .isnot (.call (s "is_market") (ν 2) [(.v 4 (s "bad"))]) (.bl false))) (.v 4 (s "bad"))) (.lst [])) [.ret (.bl false)] []
def s_law_k01_5 (ν : Nat → Nat) : Sm := .asg (.nm 4 (s "bad")) (.call (s "_law_pick") (ν 76) [(.v 0 (s "script")), (.v 1 (s "town")), (.call (s "_law_bad_markets") (ν 82) [])])
def s_law_k01_6_0 (ν : Nat → Nat) : Sm := .iff (.cmp .ne (.call (s "_law_outcome") (ν 77) [(.v 5 (s "way")), (.tup [(.v 4 (s "bad")), .non, .non, .non])]) (.call (s "_law_raises") (ν 79) [(.str (s "market"))])) [.ret (.bl false)] []
def s_law_k01_6 (ν : Nat → Nat) : Sm := .for_ (.nm 5 (s "way")) (.rng none (.int 36)) [s_law_k01_6_0 ν]
def s_law_k01_7 (ν : Nat → Nat) : Sm := .asg (.nm 6 (s "plain")) (.tup [(.tup [(.int 1), (.int 2), (.int 3)]), (.tup [(.int 4), (.int 5), (.int 6)])])
def s_law_k01_8_0 (ν : Nat → Nat) : Sm := .iff (.cmp .ne (.call (s "_law_outcome") (ν 77) [(.v 5 (s "way")), (.tup [(.v 6 (s "plain")), (.v 9 (s "one")), (.v 10 (s "other")), (.int 0)])]) (.call (s "_law_raises") (ν 79) [(.v 11 (s "name"))])) [.ret (.bl false)] []
def s_law_k01_8 (ν : Nat → Nat) : Sm := .for_ (.tp [(5, (s "way")), (9, (s "one")), (10, (s "other")), (11, (s "name"))]) (.seq (.call (s "_law_wrongs") (ν 83) [])) [s_law_k01_8_0 ν]
def s_law_k01_9 (ν : Nat → Nat) : Sm := .asg (.nm 7 (s "full")) (.bin .mul (.tup [(.bin .mul (.tup [(.int 1)]) (.int 5))]) (.int 5))
def s_law_k01_10 (ν : Nat → Nat) : Sm := .iff (.cmp .ne (.lc [((s "way"), 5)] (.nm 5 (s "way")) (.seq (.tup [(.int 21), (.int 23)])) none (.call (s "_law_outcome") (ν 77) [(.v 5 (s "way")), (.tup [(.v 7 (s "full")), (.bin .mul (.tup [(.int 0)]) (.int 5)), (.int 0), (.int 0)])])) (.bin .mul (.lst [(.call (s "_law_raises") (ν 79) [(.str (s "many"))])]) (.int 2))) [.ret (.bl false)] []
def s_law_k01_11 (ν : Nat → Nat) : Sm := .iff (.cmp .ne (.lc [((s "way"), 5)] (.nm 5 (s "way")) (.seq (.tup [(.int 20), (.int 22)])) none (.call (s "_law_outcome") (ν 77) [(.v 5 (s "way")), (.tup [(.tup [(.tup [(.int 3)])]), (.int 0), (.int 0), (.int 0)])])) (.bin .mul (.lst [(.call (s "_law_raises") (ν 79) [(.str (s "few"))])]) (.int 2))) [.ret (.bl false)] []
def s_law_k01_12 (ν : Nat → Nat) : Sm := .asg (.nm 8 (s "wide")) (.tup [(.tup [(.int 20), (.int 0), (.int 0)]), (.tup [(.int 0), (.int 20), (.int 0)]), (.tup [(.int 0), (.int 0), (.int 20)])])
def s_law_k01_13 (ν : Nat → Nat) : Sm := .iff (.cmp .ne (.call (s "_law_outcome") (ν 77) [(.int 8), (.tup [(.v 8 (s "wide")), (.int 0), (.int 0), (.int 0)])]) (.call (s "_law_raises") (ν 79) [(.str (s "many"))])) [.ret (.bl false)] []
def s_law_k01_14 (ν : Nat → Nat) : Sm := .ret (.cmp .eq (.idx (.call (s "stable_prices") (ν 48) [(.tup [(.tup [(.int 20), (.int 0)]), (.tup [(.int 0), (.int 20)])])]) (.neg (.int 1))) (.tup [(.int 20), (.int 20)]))
@[reducible] def n_law_k01 (script_ : Option D := none) (town_ : Option D := none) (market_ : Option D := none) (goods_ : Option D := none) (bad_ : Option D := none) (way_ : Option D := none) (plain_ : Option D := none) (full_ : Option D := none) (wide_ : Option D := none) (one_ : Option D := none) (other_ : Option D := none) (name_ : Option D := none) (good_ : Option D := none) : Env := [script_, town_, market_, goods_, bad_, way_, plain_, full_, wide_, one_, other_, name_, good_]
def d_law_k01 (ν : Nat → Nat) : Fd := ⟨(s "law"), 1, [s "script", s "town", s "market", s "goods", s "bad", s "way", s "plain", s "full", s "wide", s "one", s "other", s "name", s "good"], 1, [s_law_k01_0 ν, s_law_k01_1 ν, s_law_k01_2 ν, s_law_k01_3 ν, s_law_k01_4 ν, s_law_k01_5 ν, s_law_k01_6 ν, s_law_k01_7 ν, s_law_k01_8 ν, s_law_k01_9 ν, s_law_k01_10 ν, s_law_k01_11 ν, s_law_k01_12 ν, s_law_k01_13 ν, s_law_k01_14 ν], false⟩
/-- 85: _law_assignments (k02) -/
def s__law_assignments_0 (ν : Nat → Nat) : Sm := .asg (.nm 1 (s "found")) (.lst [(.tup [])])
def s__law_assignments_1_0 (ν : Nat → Nat) : Sm := .new 3 (s "longer") 0 (.lst [])
def s__law_assignments_1_1_0 (ν : Nat → Nat) : Sm := .app (.v 3 (s "longer")) (.bin .add (.v 4 (s "some")) (.tup [(.neg (.int 1))]))
def s__law_assignments_1_1_1 (ν : Nat → Nat) : Sm := .new 3 (s "longer") 0 (.bin .add (.v 3 (s "longer")) (.lc [((s "good"), 5)] (.nm 5 (s "good")) (.rng none (.bi .len (.v 2 (s "row")))) (some (.cmp .notin (.v 5 (s "good")) (.v 4 (s "some")))) (.bin .add (.v 4 (s "some")) (.tup [(.v 5 (s "good"))]))))
def s__law_assignments_1_1 (ν : Nat → Nat) : Sm := .for_ (.nm 4 (s "some")) (.seq (.v 1 (s "found"))) [s__law_assignments_1_1_0 ν, s__law_assignments_1_1_1 ν]
def s__law_assignments_1_2 (ν : Nat → Nat) : Sm := .fz 1 (s "found") (.v 3 (s "longer"))
def s__law_assignments_1 (ν : Nat → Nat) : Sm := .for_ (.nm 2 (s "row")) (.seq (.v 0 (s "market"))) [s__law_assignments_1_0 ν, s__law_assignments_1_1 ν, s__law_assignments_1_2 ν]
def s__law_assignments_2 (ν : Nat → Nat) : Sm := .ret (.v 1 (s "found"))
@[reducible] def n__law_assignments (market_ : Option D := none) (found_ : Option D := none) (row_ : Option D := none) (longer_ : Option D := none) (some_ : Option D := none) (good_ : Option D := none) : Env := [market_, found_, row_, longer_, some_, good_]
def d__law_assignments (ν : Nat → Nat) : Fd := ⟨(s "_law_assignments"), 1, [s "market", s "found", s "row", s "longer", s "some", s "good"], 1, [s__law_assignments_0 ν, s__law_assignments_1 ν, s__law_assignments_2 ν], false⟩
/-- 86: _law_total (k02) -/
def s__law_total_0 (ν : Nat → Nat) : Sm := .asg (.nm 2 (s "found")) (.int 0)
def s__law_total_1_0_0 (ν : Nat → Nat) : Sm := .asg (.nm 2 (s "found")) (.bin .add (.v 2 (s "found")) (.idx (.idx (.v 0 (s "market")) (.v 3 (s "buyer"))) (.idx (.v 1 (s "assignment")) (.v 3 (s "buyer")))))
def s__law_total_1_0 (ν : Nat → Nat) : Sm := .iff (.cmp .ge (.idx (.v 1 (s "assignment")) (.v 3 (s "buyer"))) (.int 0)) [s__law_total_1_0_0 ν] []
def s__law_total_1 (ν : Nat → Nat) : Sm := .for_ (.nm 3 (s "buyer")) (.rng none (.bi .len (.v 0 (s "market")))) [s__law_total_1_0 ν]
def s__law_total_2 (ν : Nat → Nat) : Sm := .ret (.v 2 (s "found"))
@[reducible] def n__law_total (market_ : Option D := none) (assignment_ : Option D := none) (found_ : Option D := none) (buyer_ : Option D := none) : Env := [market_, assignment_, found_, buyer_]
def d__law_total (ν : Nat → Nat) : Fd := ⟨(s "_law_total"), 2, [s "market", s "assignment", s "found", s "buyer"], 0, [s__law_total_0 ν, s__law_total_1 ν, s__law_total_2 ν], false⟩
/-- 87: _law_best (k02) -/
def s__law_best_0 (ν : Nat → Nat) : Sm := .asg (.nm 1 (s "rows")) (.call (s "_law_assignments") (ν 85) [(.v 0 (s "market"))])
def s__law_best_1 (ν : Nat → Nat) : Sm := .asg (.nm 2 (s "most")) (.bi .max (.lc [((s "row"), 3)] (.nm 3 (s "row")) (.seq (.v 1 (s "rows"))) none (.call (s "_law_total") (ν 86) [(.v 0 (s "market")), (.v 3 (s "row"))])))
def s__law_best_2 (ν : Nat → Nat) : Sm := .ret (.lc [((s "row"), 3)] (.nm 3 (s "row")) (.seq (.v 1 (s "rows"))) (some (.cmp .eq (.call (s "_law_total") (ν 86) [(.v 0 (s "market")), (.v 3 (s "row"))]) (.v 2 (s "most")))) (.v 3 (s "row")))
@[reducible] def n__law_best (market_ : Option D := none) (rows_ : Option D := none) (most_ : Option D := none) (row_ : Option D := none) : Env := [market_, rows_, most_, row_]
def d__law_best (ν : Nat → Nat) : Fd := ⟨(s "_law_best"), 1, [s "market", s "rows", s "most", s "row"], 0, [s__law_best_0 ν, s__law_best_1 ν, s__law_best_2 ν], false⟩
/-- 88: law (k02) -/
def s_law_k02_0 (ν : Nat → Nat) : Sm := .new 1 (s "town") 0 (.call (s "_law_town") (ν 74) [(.v 0 (s "script"))])
def s_law_k02_1 (ν : Nat → Nat) : Sm := .asg (.nm 2 (s "market")) (.call (s "_law_market") (ν 80) [(.v 0 (s "script")), (.v 1 (s "town")), (.int 5), (.bin .add (.int 4) (.call (s "_law_draw") (ν 75) [(.v 0 (s "script")), (.v 1 (s "town")), (.int 2)]))])
def s_law_k02_2 (ν : Nat → Nat) : Sm := .asg (.tp [(14, (s "many")), (15, (s "size"))]) (.tup [(.bi .len (.v 2 (s "market"))), (.bi .len (.idx (.v 2 (s "market")) (.int 0)))])
def s_law_k02_3 (ν : Nat → Nat) : Sm := .asg (.nm 3 (s "best")) (.call (s "_law_best") (ν 87) [(.v 2 (s "market"))])
def s_law_k02_4 (ν : Nat → Nat) : Sm := .asg (.nm 4 (s "most")) (.call (s "_law_total") (ν 86) [(.v 2 (s "market")), (.idx (.v 3 (s "best")) (.int 0))])
def s_law_k02_5 (ν : Nat → Nat) : Sm := .iff (.or (.cmp .ne (.call (s "best_total") (ν 14) [(.v 2 (s "market"))]) (.v 4 (s "most"))) (.cmp .ne (.call (s "best_assignments") (ν 15) [(.v 2 (s "market"))]) (.bi .tuple (.v 3 (s "best"))))) [.ret (.bl false)] []
def s_law_k02_6 (ν : Nat → Nat) : Sm := .new 5 (s "got") 1 (.lst [])
def s_law_k02_7_0 (ν : Nat → Nat) : Sm := .asg (.nm 16 (s "left")) (.lc [((s "good"), 19)] (.nm 19 (s "good")) (.rng none (.v 15 (s "size"))) (some (.cmp .notin (.v 19 (s "good")) (.v 5 (s "got")))) (.v 19 (s "good")))
def s_law_k02_7_1 (ν : Nat → Nat) : Sm := .app (.v 5 (s "got")) (.call (s "_law_pick") (ν 76) [(.v 0 (s "script")), (.v 1 (s "town")), (.bin .add (.v 16 (s "left")) (.lst [(.neg (.int 1))]))])
def s_law_k02_7 (ν : Nat → Nat) : Sm := .for_ (.nm 6 (s "k")) (.rng none (.v 14 (s "many"))) [s_law_k02_7_0 ν, s_law_k02_7_1 ν]
def s_law_k02_8 (ν : Nat → Nat) : Sm := .asg (.nm 7 (s "some")) (.bi .tuple (.v 5 (s "got")))
def s_law_k02_9 (ν : Nat → Nat) : Sm := .iff (.or (.cmp .ne (.call (s "total") (ν 11) [(.v 2 (s "market")), (.v 7 (s "some"))]) (.call (s "_law_total") (ν 86) [(.v 2 (s "market")), (.v 7 (s "some"))])) (.cmp .isnot (.call (s "is_assignment") (ν 8) [(.v 2 (s "market")), (.v 7 (s "some"))]) (.bl true))) [.ret (.bl false)] []
def s_law_k02_10 (ν : Nat → Nat) : Sm := .iff (.cmp .ne (.call (s "better") (ν 16) [(.v 2 (s "market")), (.v 7 (s "some"))]) (.ite (.cmp .lt (.call (s "_law_total") (ν 86) [(.v 2 (s "market")), (.v 7 (s "some"))]) (.v 4 (s "most"))) (.idx (.v 3 (s "best")) (.int 0)) .non)) [.ret (.bl false)] []
def s_law_k02_11 (ν : Nat → Nat) : Sm := .par [(17, (s "pairs")), (18, (s "sure"))] [(.lst []), (.lst [])]
def s_law_k02_12_0_0 (ν : Nat → Nat) : Sm := .asg (.nm 20 (s "seen")) (.lc [((s "row"), 22)] (.nm 22 (s "row")) (.seq (.v 3 (s "best"))) none (.cmp .eq (.idx (.v 22 (s "row")) (.v 8 (s "buyer"))) (.v 19 (s "good"))))
def s_law_k02_12_0_1 (ν : Nat → Nat) : Sm := .asg (.nm 17 (s "pairs")) (.bin .add (.v 17 (s "pairs")) (.bin .mul (.lst [(.tup [(.v 8 (s "buyer")), (.v 19 (s "good"))])]) (.bi .int (.cmp .in_ (.bl true) (.v 20 (s "seen"))))))
def s_law_k02_12_0_2 (ν : Nat → Nat) : Sm := .asg (.nm 18 (s "sure")) (.bin .add (.v 18 (s "sure")) (.bin .mul (.lst [(.tup [(.v 8 (s "buyer")), (.v 19 (s "good"))])]) (.bi .int (.cmp .notin (.bl false) (.v 20 (s "seen"))))))
def s_law_k02_12_0 (ν : Nat → Nat) : Sm := .for_ (.nm 19 (s "good")) (.rng none (.v 15 (s "size"))) [s_law_k02_12_0_0 ν, s_law_k02_12_0_1 ν, s_law_k02_12_0_2 ν]
def s_law_k02_12 (ν : Nat → Nat) : Sm := .for_ (.nm 8 (s "buyer")) (.rng none (.v 14 (s "many"))) [s_law_k02_12_0 ν]
def s_law_k02_13 (ν : Nat → Nat) : Sm := .iff (.or (.cmp .ne (.call (s "possible_pairs") (ν 19) [(.v 2 (s "market"))]) (.bi .tuple (.v 17 (s "pairs")))) (.cmp .ne (.call (s "sure_pairs") (ν 18) [(.v 2 (s "market"))]) (.bi .tuple (.v 18 (s "sure"))))) [.ret (.bl false)] []
def s_law_k02_14 (ν : Nat → Nat) : Sm := .new 9 (s "spoiled") 2 (.bi .list (.v 7 (s "some")))
def s_law_k02_15 (ν : Nat → Nat) : Sm := .asg (.nm 10 (s "at")) (.call (s "_law_draw") (ν 75) [(.v 0 (s "script")), (.v 1 (s "town")), (.v 14 (s "many"))])
def s_law_k02_16 (ν : Nat → Nat) : Sm := .setix (.v 9 (s "spoiled")) (.v 10 (s "at")) (.bin .sub (.call (s "_law_draw") (ν 75) [(.v 0 (s "script")), (.v 1 (s "town")), (.bin .add (.v 15 (s "size")) (.int 3))]) (.int 2))
def s_law_k02_17 (ν : Nat → Nat) : Sm := .asg (.nm 11 (s "held")) (.lc [((s "good"), 19)] (.nm 19 (s "good")) (.seq (.v 9 (s "spoiled"))) (some (.cmp .ne (.v 19 (s "good")) (.neg (.int 1)))) (.v 19 (s "good")))
def s_law_k02_18 (ν : Nat → Nat) : Sm := .asg (.nm 12 (s "due")) (.and (.cmp .eq (.bi .lenset (.v 11 (s "held"))) (.bi .len (.v 11 (s "held")))) (.cmp .eq (.lc [((s "good"), 19)] (.nm 19 (s "good")) (.seq (.v 11 (s "held"))) (some (.not (.chain .le .lt (.int 0) (.v 19 (s "good")) (.v 15 (s "size"))))) (.v 19 (s "good"))) (.lst [])))
def s_law_k02_19 (ν : Nat → Nat) : Sm := .iff (.cmp .ne (.call (s "is_assignment") (ν 8) [(.v 2 (s "market")), (.bi .tuple (.v 9 (s "spoiled")))]) (.v 12 (s "due"))) [.ret (.bl false)] []
def s_law_k02_20 (ν : Nat → Nat) : Sm := .asg (.nm 13 (s "bads")) (.lst [.non, (.int 5), (.bi .list (.v 7 (s "some"))), (.bin .add (.v 7 (s "some")) (.tup [(.neg (.int 1))])), (.sl (.v 7 (s "some")) (some (.int 1)) none), (.bin .mul (.tup [.non]) (.v 14 (s "many"))), (.bin .mul (.tup [(.bl true)]) (.v 14 (s "many"))), (.bin .mul (.str (s "0")) (.v 14 (s "many")))])
def s_law_k02_21 (ν : Nat → Nat) : Sm := .iff (.cmp .ne (.lc [((s "bad"), 21)] (.nm 21 (s "bad")) (.seq (.v 13 (s "bads"))) (some (.cmp .isnot (.call (s "is_assignment") (ν 8) [(.v 2 (s "market")), (.v 21 (s "bad"))]) (.bl false))) (.v 21 (s "bad"))) (.lst [])) [.ret (.bl false)] []
def s_law_k02_22 (ν : Nat → Nat) : Sm := .ret (.or (.cmp .eq (.v 14 (s "many")) (.int 5)) (.cmp .ge (.call (s "best_total") (ν 14) [(.call (s "with_buyer") (ν 68) [(.v 2 (s "market")), (.idx (.v 2 (s "market")) (.int 0))])]) (.v 4 (s "most"))))
@[reducible] def n_law_k02 (script_ : Option D := none) (town_ : Option D := none) (market_ : Option D := none) (best_ : Option D := none) (most_ : Option D := none) (got_ : Option D := none) (k_ : Option D := none) (some_ : Option D := none) (buyer_ : Option D := none) (spoiled_ : Option D := none) (at_ : Option D := none) (held_ : Option D := none) (due_ : Option D := none) (bads_ : Option D := none) (many_ : Option D := none) (size_ : Option D := none) (left_ : Option D := none) (pairs_ : Option D := none) (sure_ : Option D := none) (good_ : Option D := none) (seen_ : Option D := none) (bad_ : Option D := none) (row_ : Option D := none) : Env := [script_, town_, market_, best_, most_, got_, k_, some_, buyer_, spoiled_, at_, held_, due_, bads_, many_, size_, left_, pairs_, sure_, good_, seen_, bad_, row_]
def d_law_k02 (ν : Nat → Nat) : Fd := ⟨(s "law"), 1, [s "script", s "town", s "market", s "best", s "most", s "got", s "k", s "some", s "buyer", s "spoiled", s "at", s "held", s "due", s "bads", s "many", s "size", s "left", s "pairs", s "sure", s "good", s "seen", s "bad", s "row"], 3, [s_law_k02_0 ν, s_law_k02_1 ν, s_law_k02_2 ν, s_law_k02_3 ν, s_law_k02_4 ν, s_law_k02_5 ν, s_law_k02_6 ν, s_law_k02_7 ν, s_law_k02_8 ν, s_law_k02_9 ν, s_law_k02_10 ν, s_law_k02_11 ν, s_law_k02_12 ν, s_law_k02_13 ν, s_law_k02_14 ν, s_law_k02_15 ν, s_law_k02_16 ν, s_law_k02_17 ν, s_law_k02_18 ν, s_law_k02_19 ν, s_law_k02_20 ν, s_law_k02_21 ν, s_law_k02_22 ν], false⟩
/-- 89: _law_most (k03) -/
def s__law_most_0 (ν : Nat → Nat) : Sm := .iff (.or (.cmp .eq (.v 0 (s "market")) (.tup [])) (.cmp .eq (.idx (.v 0 (s "market")) (.int 0)) (.tup []))) [.ret (.int 0)] []
def s__law_most_1 (ν : Nat → Nat) : Sm := .ret (.call (s "best_total") (ν 14) [(.v 0 (s "market"))])
@[reducible] def n__law_most (market_ : Option D := none) : Env := [market_]
def d__law_most (ν : Nat → Nat) : Fd := ⟨(s "_law_most"), 1, [s "market"], 0, [s__law_most_0 ν, s__law_most_1 ν], false⟩
/-- 90: law (k03) -/
def s_law_k03_0 (ν : Nat → Nat) : Sm := .new 1 (s "town") 0 (.call (s "_law_town") (ν 74) [(.v 0 (s "script"))])
def s_law_k03_1 (ν : Nat → Nat) : Sm := .asg (.nm 2 (s "market")) (.call (s "_law_market") (ν 80) [(.v 0 (s "script")), (.v 1 (s "town")), (.int 4), (.int 4)])
def s_law_k03_2 (ν : Nat → Nat) : Sm := .asg (.tp [(11, (s "buyer")), (12, (s "good"))]) (.tup [(.call (s "_law_draw") (ν 75) [(.v 0 (s "script")), (.v 1 (s "town")), (.bi .len (.v 2 (s "market")))]), (.call (s "_law_draw") (ν 75) [(.v 0 (s "script")), (.v 1 (s "town")), (.bi .len (.idx (.v 2 (s "market")) (.int 0)))])])
def s_law_k03_3 (ν : Nat → Nat) : Sm := .asg (.nm 3 (s "told_value")) (.call (s "least_value") (ν 21) [(.v 2 (s "market")), (.v 11 (s "buyer")), (.v 12 (s "good"))])
def s_law_k03_4 (ν : Nat → Nat) : Sm := .new 4 (s "fits") 1 (.lst [])
def s_law_k03_5_0 (ν : Nat → Nat) : Sm := .asg (.nm 9 (s "row")) (.bin .add (.bin .add (.sl (.idx (.v 2 (s "market")) (.v 11 (s "buyer"))) none (some (.v 12 (s "good")))) (.tup [(.v 5 (s "value"))])) (.sl (.idx (.v 2 (s "market")) (.v 11 (s "buyer"))) (some (.bin .add (.v 12 (s "good")) (.int 1))) none))
def s_law_k03_5_1 (ν : Nat → Nat) : Sm := .asg (.nm 13 (s "other")) (.call (s "told") (ν 66) [(.v 2 (s "market")), (.v 11 (s "buyer")), (.v 9 (s "row"))])
def s_law_k03_5_2 (ν : Nat → Nat) : Sm := .app (.v 4 (s "fits")) (.cmp .in_ (.tup [(.v 11 (s "buyer")), (.v 12 (s "good"))]) (.call (s "possible_pairs") (ν 19) [(.v 13 (s "other"))]))
def s_law_k03_5 (ν : Nat → Nat) : Sm := .for_ (.nm 5 (s "value")) (.rng none (.int 21)) [s_law_k03_5_0 ν, s_law_k03_5_1 ν, s_law_k03_5_2 ν]
def s_law_k03_6 (ν : Nat → Nat) : Sm := .iff (.cmp .ne (.v 3 (s "told_value")) (.ite (.cmp .in_ (.bl true) (.v 4 (s "fits"))) (.index (.v 4 (s "fits")) (.bl true)) .non)) [.ret (.bl false)] []
def s_law_k03_7 (ν : Nat → Nat) : Sm := .iff (.and (.cmp .isnot (.v 3 (s "told_value")) .non) (.cmp .in_ (.bl false) (.sl (.v 4 (s "fits")) (some (.v 3 (s "told_value"))) none))) [.ret (.bl false)] []
def s_law_k03_8 (ν : Nat → Nat) : Sm := .asg (.nm 6 (s "rest")) (.bin .add (.sl (.v 2 (s "market")) none (some (.v 11 (s "buyer")))) (.sl (.v 2 (s "market")) (some (.bin .add (.v 11 (s "buyer")) (.int 1))) none))
def s_law_k03_9 (ν : Nat → Nat) : Sm := .asg (.nm 7 (s "both")) (.bi .tuple (.lc [((s "row"), 9)] (.nm 9 (s "row")) (.seq (.v 6 (s "rest"))) none (.bin .add (.sl (.v 9 (s "row")) none (some (.v 12 (s "good")))) (.sl (.v 9 (s "row")) (some (.bin .add (.v 12 (s "good")) (.int 1))) none))))
def s_law_k03_10 (ν : Nat → Nat) : Sm := .new 8 (s "apart") 2 (.lst [])
def s_law_k03_11_0_0 (ν : Nat → Nat) : Sm := .app (.v 8 (s "apart")) (.call (s "_law_total") (ν 86) [(.v 2 (s "market")), (.v 9 (s "row"))])
def s_law_k03_11_0 (ν : Nat → Nat) : Sm := .iff (.cmp .ne (.idx (.v 9 (s "row")) (.v 11 (s "buyer"))) (.v 12 (s "good"))) [s_law_k03_11_0_0 ν] []
def s_law_k03_11 (ν : Nat → Nat) : Sm := .for_ (.nm 9 (s "row")) (.seq (.call (s "_law_assignments") (ν 85) [(.v 2 (s "market"))])) [s_law_k03_11_0 ν]
def s_law_k03_12 (ν : Nat → Nat) : Sm := .asg (.nm 10 (s "due")) (.max2 (.int 0) (.bin .sub (.bi .max (.v 8 (s "apart"))) (.call (s "_law_most") (ν 89) [(.v 7 (s "both"))])))
def s_law_k03_13 (ν : Nat → Nat) : Sm := .ret (.cmp .eq (.v 3 (s "told_value")) (.ite (.cmp .le (.v 10 (s "due")) (.int 20)) (.v 10 (s "due")) .non))
@[reducible] def n_law_k03 (script_ : Option D := none) (town_ : Option D := none) (market_ : Option D := none) (told_value_ : Option D := none) (fits_ : Option D := none) (value_ : Option D := none) (rest_ : Option D := none) (both_ : Option D := none) (apart_ : Option D := none) (row_ : Option D := none) (due_ : Option D := none) (buyer_ : Option D := none) (good_ : Option D := none) (other_ : Option D := none) : Env := [script_, town_, market_, told_value_, fits_, value_, rest_, both_, apart_, row_, due_, buyer_, good_, other_]
def d_law_k03 (ν : Nat → Nat) : Fd := ⟨(s "law"), 1, [s "script", s "town", s "market", s "told_value", s "fits", s "value", s "rest", s "both", s "apart", s "row", s "due", s "buyer", s "good", s "other"], 3, [s_law_k03_0 ν, s_law_k03_1 ν, s_law_k03_2 ν, s_law_k03_3 ν, s_law_k03_4 ν, s_law_k03_5 ν, s_law_k03_6 ν, s_law_k03_7 ν, s_law_k03_8 ν, s_law_k03_9 ν, s_law_k03_10 ν, s_law_k03_11 ν, s_law_k03_12 ν, s_law_k03_13 ν], false⟩
/-- 91: _law_top (k10) -/
def s__law_top_0 (ν : Nat → Nat) : Sm := .asg (.nm 2 (s "most")) (.int 0)
def s__law_top_1_0 (ν : Nat → Nat) : Sm := .asg (.nm 2 (s "most")) (.max2 (.v 2 (s "most")) (.bin .sub (.idx (.v 0 (s "row")) (.v 3 (s "good"))) (.idx (.v 1 (s "costs")) (.v 3 (s "good")))))
def s__law_top_1 (ν : Nat → Nat) : Sm := .for_ (.nm 3 (s "good")) (.rng none (.bi .len (.v 0 (s "row")))) [s__law_top_1_0 ν]
def s__law_top_2 (ν : Nat → Nat) : Sm := .ret (.tup [(.v 2 (s "most")), (.lc [((s "good"), 3)] (.nm 3 (s "good")) (.rng none (.bi .len (.v 0 (s "row")))) (some (.cmp .eq (.bin .sub (.idx (.v 0 (s "row")) (.v 3 (s "good"))) (.idx (.v 1 (s "costs")) (.v 3 (s "good")))) (.v 2 (s "most")))) (.v 3 (s "good")))])
@[reducible] def n__law_top (row_ : Option D := none) (costs_ : Option D := none) (most_ : Option D := none) (good_ : Option D := none) : Env := [row_, costs_, most_, good_]
def d__law_top (ν : Nat → Nat) : Fd := ⟨(s "_law_top"), 2, [s "row", s "costs", s "most", s "good"], 0, [s__law_top_0 ν, s__law_top_1 ν, s__law_top_2 ν], false⟩
/-- 92: _law_supports (k10) -/
def s__law_supports_0_0 (ν : Nat → Nat) : Sm := .asg (.tp [(5, (s "most")), (6, (s "wished"))]) (.call (s "_law_top") (ν 91) [(.idx (.v 0 (s "market")) (.v 3 (s "buyer"))), (.v 1 (s "costs"))])
def s__law_supports_0_1 (ν : Nat → Nat) : Sm := .asg (.nm 4 (s "good")) (.idx (.v 2 (s "assignment")) (.v 3 (s "buyer")))
def s__law_supports_0_2 (ν : Nat → Nat) : Sm := .iff (.or (.and (.cmp .eq (.v 4 (s "good")) (.neg (.int 1))) (.cmp .gt (.v 5 (s "most")) (.int 0))) (.and (.cmp .ge (.v 4 (s "good")) (.int 0)) (.cmp .notin (.v 4 (s "good")) (.v 6 (s "wished"))))) [.ret (.bl false)] []
def s__law_supports_0 (ν : Nat → Nat) : Sm := .for_ (.nm 3 (s "buyer")) (.rng none (.bi .len (.v 0 (s "market")))) [s__law_supports_0_0 ν, s__law_supports_0_1 ν, s__law_supports_0_2 ν]
def s__law_supports_1 (ν : Nat → Nat) : Sm := .ret (.cmp .eq (.lc [((s "good"), 4)] (.nm 4 (s "good")) (.rng none (.bi .len (.v 1 (s "costs")))) (some (.and (.cmp .gt (.idx (.v 1 (s "costs")) (.v 4 (s "good"))) (.int 0)) (.cmp .notin (.v 4 (s "good")) (.v 2 (s "assignment"))))) (.v 4 (s "good"))) (.lst []))
@[reducible] def n__law_supports (market_ : Option D := none) (costs_ : Option D := none) (assignment_ : Option D := none) (buyer_ : Option D := none) (good_ : Option D := none) (most_ : Option D := none) (wished_ : Option D := none) : Env := [market_, costs_, assignment_, buyer_, good_, most_, wished_]
def d__law_supports (ν : Nat → Nat) : Fd := ⟨(s "_law_supports"), 3, [s "market", s "costs", s "assignment", s "buyer", s "good", s "most", s "wished"], 0, [s__law_supports_0 ν, s__law_supports_1 ν], false⟩
/-- 93: _law_objection (k10) -/
def s__law_objection_0 (ν : Nat → Nat) : Sm := .new 3 (s "got") 0 (.lst [])
def s__law_objection_1_0 (ν : Nat → Nat) : Sm := .asg (.nm 7 (s "good")) (.idx (.v 2 (s "assignment")) (.v 4 (s "buyer")))
def s__law_objection_1_1 (ν : Nat → Nat) : Sm := .app (.v 3 (s "got")) (.ite (.cmp .ge (.v 7 (s "good")) (.int 0)) (.bin .sub (.idx (.idx (.v 0 (s "market")) (.v 4 (s "buyer"))) (.v 7 (s "good"))) (.idx (.v 1 (s "costs")) (.v 7 (s "good")))) (.int 0))
def s__law_objection_1 (ν : Nat → Nat) : Sm := .for_ (.nm 4 (s "buyer")) (.rng none (.bi .len (.v 0 (s "market")))) [s__law_objection_1_0 ν, s__law_objection_1_1 ν]
def s__law_objection_2_0_0 (ν : Nat → Nat) : Sm := .iff (.cmp .gt (.idx (.idx (.v 0 (s "market")) (.v 4 (s "buyer"))) (.v 7 (s "good"))) (.bin .add (.idx (.v 1 (s "costs")) (.v 7 (s "good"))) (.idx (.v 3 (s "got")) (.v 4 (s "buyer"))))) [.ret (.tup [(.v 4 (s "buyer")), (.v 7 (s "good"))])] []
def s__law_objection_2_0 (ν : Nat → Nat) : Sm := .for_ (.nm 7 (s "good")) (.rng none (.bi .len (.v 1 (s "costs")))) [s__law_objection_2_0_0 ν]
def s__law_objection_2 (ν : Nat → Nat) : Sm := .for_ (.nm 4 (s "buyer")) (.rng none (.bi .len (.v 0 (s "market")))) [s__law_objection_2_0 ν]
def s__law_objection_3 (ν : Nat → Nat) : Sm := .asg (.nm 5 (s "low")) (.lc [((s "buyer"), 4)] (.nm 4 (s "buyer")) (.rng none (.bi .len (.v 0 (s "market")))) (some (.cmp .lt (.idx (.v 3 (s "got")) (.v 4 (s "buyer"))) (.int 0))) (.v 4 (s "buyer")))
def s__law_objection_4_0 (ν : Nat → Nat) : Sm := .ret (.tup [(.idx (.v 5 (s "low")) (.int 0)), (.neg (.int 1))])
def s__law_objection_4 (ν : Nat → Nat) : Sm := .iff (.cmp .ne (.v 5 (s "low")) (.lst [])) [s__law_objection_4_0 ν] []
def s__law_objection_5 (ν : Nat → Nat) : Sm := .asg (.nm 6 (s "left")) (.lc [((s "good"), 7)] (.nm 7 (s "good")) (.rng none (.bi .len (.v 1 (s "costs")))) (some (.and (.cmp .gt (.idx (.v 1 (s "costs")) (.v 7 (s "good"))) (.int 0)) (.cmp .notin (.v 7 (s "good")) (.v 2 (s "assignment"))))) (.v 7 (s "good")))
def s__law_objection_6 (ν : Nat → Nat) : Sm := .ret (.ite (.cmp .ne (.v 6 (s "left")) (.lst [])) (.tup [(.neg (.int 1)), (.idx (.v 6 (s "left")) (.int 0))]) .non)
@[reducible] def n__law_objection (market_ : Option D := none) (costs_ : Option D := none) (assignment_ : Option D := none) (got_ : Option D := none) (buyer_ : Option D := none) (low_ : Option D := none) (left_ : Option D := none) (good_ : Option D := none) : Env := [market_, costs_, assignment_, got_, buyer_, low_, left_, good_]
def d__law_objection (ν : Nat → Nat) : Fd := ⟨(s "_law_objection"), 3, [s "market", s "costs", s "assignment", s "got", s "buyer", s "low", s "left", s "good"], 1, [s__law_objection_0 ν, s__law_objection_1 ν, s__law_objection_2 ν, s__law_objection_3 ν, s__law_objection_4 ν, s__law_objection_5 ν, s__law_objection_6 ν], false⟩
/-- 94: law (k10) -/
def s_law_k10_0 (ν : Nat → Nat) : Sm := .new 1 (s "town") 0 (.call (s "_law_town") (ν 74) [(.v 0 (s "script"))])
def s_law_k10_1 (ν : Nat → Nat) : Sm := .asg (.nm 2 (s "market")) (.call (s "_law_market") (ν 80) [(.v 0 (s "script")), (.v 1 (s "town")), (.int 4), (.int 4)])
def s_law_k10_2 (ν : Nat → Nat) : Sm := .asg (.nm 3 (s "size")) (.bi .len (.idx (.v 2 (s "market")) (.int 0)))
def s_law_k10_3 (ν : Nat → Nat) : Sm := .asg (.nm 4 (s "costs")) (.bi .tuple (.lc [((s "good"), 15)] (.nm 15 (s "good")) (.rng none (.v 3 (s "size"))) none (.call (s "_law_draw") (ν 75) [(.v 0 (s "script")), (.v 1 (s "town")), (.int 12)])))
def s_law_k10_4_0 (ν : Nat → Nat) : Sm := .asg (.nm 10 (s "base")) (.call (s "_law_pick") (ν 76) [(.v 0 (s "script")), (.v 1 (s "town")), (.lst [(.call (s "least_prices") (ν 46) [(.v 2 (s "market"))]), (.call (s "greatest_prices") (ν 47) [(.v 2 (s "market"))])])])
def s_law_k10_4_1 (ν : Nat → Nat) : Sm := .asg (.nm 11 (s "at")) (.call (s "_law_draw") (ν 75) [(.v 0 (s "script")), (.v 1 (s "town")), (.bin .mul (.int 3) (.v 3 (s "size")))])
def s_law_k10_4_2 (ν : Nat → Nat) : Sm := .asg (.nm 4 (s "costs")) (.bi .tuple (.lc [((s "good"), 15)] (.nm 15 (s "good")) (.rng none (.v 3 (s "size"))) none (.bin .add (.idx (.v 10 (s "base")) (.v 15 (s "good"))) (.bi .int (.cmp .eq (.v 15 (s "good")) (.v 11 (s "at")))))))
def s_law_k10_4 (ν : Nat → Nat) : Sm := .iff (.cmp .gt (.call (s "_law_draw") (ν 75) [(.v 0 (s "script")), (.v 1 (s "town")), (.int 3)]) (.int 0)) [s_law_k10_4_0 ν, s_law_k10_4_1 ν, s_law_k10_4_2 ν] []
def s_law_k10_5_0 (ν : Nat → Nat) : Sm := .asg (.tp [(13, (s "most")), (14, (s "wished"))]) (.call (s "_law_top") (ν 91) [(.idx (.v 2 (s "market")) (.v 5 (s "buyer"))), (.v 4 (s "costs"))])
def s_law_k10_5_1 (ν : Nat → Nat) : Sm := .iff (.or (.cmp .ne (.call (s "top_gain") (ν 26) [(.v 2 (s "market")), (.v 4 (s "costs")), (.v 5 (s "buyer"))]) (.v 13 (s "most"))) (.cmp .ne (.call (s "wishes") (ν 27) [(.v 2 (s "market")), (.v 4 (s "costs")), (.v 5 (s "buyer"))]) (.bi .tuple (.v 14 (s "wished"))))) [.ret (.bl false)] []
def s_law_k10_5 (ν : Nat → Nat) : Sm := .for_ (.nm 5 (s "buyer")) (.rng none (.bi .len (.v 2 (s "market")))) [s_law_k10_5_0 ν, s_law_k10_5_1 ν]
def s_law_k10_6 (ν : Nat → Nat) : Sm := .asg (.nm 6 (s "best")) (.call (s "_law_best") (ν 87) [(.v 2 (s "market"))])
def s_law_k10_7 (ν : Nat → Nat) : Sm := .asg (.nm 7 (s "fits")) (.lc [((s "row"), 9)] (.nm 9 (s "row")) (.seq (.call (s "_law_assignments") (ν 85) [(.v 2 (s "market"))])) (some (.call (s "_law_supports") (ν 92) [(.v 2 (s "market")), (.v 4 (s "costs")), (.v 9 (s "row"))])) (.v 9 (s "row")))
def s_law_k10_8 (ν : Nat → Nat) : Sm := .iff (.or (.cmp .ne (.call (s "supported") (ν 31) [(.v 2 (s "market")), (.v 4 (s "costs"))]) (.ite (.cmp .ne (.v 7 (s "fits")) (.lst [])) (.idx (.v 7 (s "fits")) (.int 0)) .non)) (.cmp .ne (.lc [((s "row"), 9)] (.nm 9 (s "row")) (.seq (.v 7 (s "fits"))) (some (.cmp .notin (.v 9 (s "row")) (.v 6 (s "best")))) (.v 9 (s "row"))) (.lst []))) [.ret (.bl false)] []
def s_law_k10_9 (ν : Nat → Nat) : Sm := .iff (.and (.cmp .ne (.v 7 (s "fits")) (.lst [])) (.cmp .ne (.v 7 (s "fits")) (.v 6 (s "best")))) [.ret (.bl false)] []
def s_law_k10_10 (ν : Nat → Nat) : Sm := .iff (.cmp .ne (.cmp .eq (.v 7 (s "fits")) (.lst [])) (.or (.cmp .isnot (.call (s "crowd") (ν 37) [(.v 2 (s "market")), (.v 4 (s "costs"))]) .non) (.cmp .isnot (.call (s "glut") (ν 38) [(.v 2 (s "market")), (.v 4 (s "costs"))]) .non))) [.ret (.bl false)] []
def s_law_k10_11 (ν : Nat → Nat) : Sm := .asg (.nm 8 (s "rows")) (.call (s "_law_assignments") (ν 85) [(.v 2 (s "market"))])
def s_law_k10_12_0 (ν : Nat → Nat) : Sm := .asg (.nm 12 (s "due")) (.call (s "_law_objection") (ν 93) [(.v 2 (s "market")), (.v 4 (s "costs")), (.v 9 (s "row"))])
def s_law_k10_12_1 (ν : Nat → Nat) : Sm := .iff (.or (.cmp .ne (.call (s "objection") (ν 42) [(.v 2 (s "market")), (.v 4 (s "costs")), (.v 9 (s "row"))]) (.v 12 (s "due"))) (.cmp .ne (.call (s "does_support") (ν 30) [(.v 2 (s "market")), (.v 4 (s "costs")), (.v 9 (s "row"))]) (.cmp .is (.v 12 (s "due")) .non))) [.ret (.bl false)] []
def s_law_k10_12_2 (ν : Nat → Nat) : Sm := .iff (.cmp .ne (.call (s "_law_supports") (ν 92) [(.v 2 (s "market")), (.v 4 (s "costs")), (.v 9 (s "row"))]) (.cmp .is (.v 12 (s "due")) .non)) [.ret (.bl false)] []
def s_law_k10_12 (ν : Nat → Nat) : Sm := .for_ (.nm 9 (s "row")) (.seq (.bin .add (.sl (.v 6 (s "best")) none (some (.int 2))) (.lc [((s "k"), 16)] (.nm 16 (s "k")) (.rng none (.int 4)) none (.call (s "_law_pick") (ν 76) [(.v 0 (s "script")), (.v 1 (s "town")), (.v 8 (s "rows"))])))) [s_law_k10_12_0 ν, s_law_k10_12_1 ν, s_law_k10_12_2 ν]
def s_law_k10_13 (ν : Nat → Nat) : Sm := .ret (.bl true)
@[reducible] def n_law_k10 (script_ : Option D := none) (town_ : Option D := none) (market_ : Option D := none) (size_ : Option D := none) (costs_ : Option D := none) (buyer_ : Option D := none) (best_ : Option D := none) (fits_ : Option D := none) (rows_ : Option D := none) (row_ : Option D := none) (base_ : Option D := none) (at_ : Option D := none) (due_ : Option D := none) (most_ : Option D := none) (wished_ : Option D := none) (good_ : Option D := none) (k_ : Option D := none) : Env := [script_, town_, market_, size_, costs_, buyer_, best_, fits_, rows_, row_, base_, at_, due_, most_, wished_, good_, k_]
def d_law_k10 (ν : Nat → Nat) : Fd := ⟨(s "law"), 1, [s "script", s "town", s "market", s "size", s "costs", s "buyer", s "best", s "fits", s "rows", s "row", s "base", s "at", s "due", s "most", s "wished", s "good", s "k"], 1, [s_law_k10_0 ν, s_law_k10_1 ν, s_law_k10_2 ν, s_law_k10_3 ν, s_law_k10_4 ν, s_law_k10_5 ν, s_law_k10_6 ν, s_law_k10_7 ν, s_law_k10_8 ν, s_law_k10_9 ν, s_law_k10_10 ν, s_law_k10_11 ν, s_law_k10_12 ν, s_law_k10_13 ν], false⟩
/-- 95: _law_is_stable (k11) -/
def s__law_is_stable_0 (ν : Nat → Nat) : Sm := .ret (.cmp .ne (.lc [((s "row"), 2)] (.nm 2 (s "row")) (.seq (.call (s "_law_best") (ν 87) [(.v 0 (s "market"))])) (some (.call (s "_law_supports") (ν 92) [(.v 0 (s "market")), (.v 1 (s "costs")), (.v 2 (s "row"))])) (.v 2 (s "row"))) (.lst []))
@[reducible] def n__law_is_stable (market_ : Option D := none) (costs_ : Option D := none) (row_ : Option D := none) : Env := [market_, costs_, row_]
def d__law_is_stable (ν : Nat → Nat) : Fd := ⟨(s "_law_is_stable"), 2, [s "market", s "costs", s "row"], 0, [s__law_is_stable_0 ν], false⟩
/-- 96: _law_sets (k11) -/
def s__law_sets_0 (ν : Nat → Nat) : Sm := .new 1 (s "found") 0 (.lst [])
def s__law_sets_1_0 (ν : Nat → Nat) : Sm := .asg (.nm 3 (s "some")) (.lc [((s "good"), 5)] (.nm 5 (s "good")) (.rng none (.int 5)) (some (.cmp .eq (.bin .mod (.bin .fdiv (.v 2 (s "bits")) (.idx (.tup [(.int 1), (.int 2), (.int 4), (.int 8), (.int 16)]) (.v 5 (s "good")))) (.int 2)) (.int 1))) (.v 5 (s "good")))
def s__law_sets_1_1_0 (ν : Nat → Nat) : Sm := .app (.v 1 (s "found")) (.tup [(.bi .len (.v 3 (s "some"))), (.bi .tuple (.v 3 (s "some")))])
def s__law_sets_1_1 (ν : Nat → Nat) : Sm := .iff (.cmp .lt (.idx (.v 3 (s "some")) (.neg (.int 1))) (.v 0 (s "size"))) [s__law_sets_1_1_0 ν] []
def s__law_sets_1 (ν : Nat → Nat) : Sm := .for_ (.nm 2 (s "bits")) (.rng (some (.int 1)) (.int 32)) [s__law_sets_1_0 ν, s__law_sets_1_1 ν]
def s__law_sets_2 (ν : Nat → Nat) : Sm := .ret (.lc [((s "row"), 4)] (.nm 4 (s "row")) (.seq (.bi .sorted (.v 1 (s "found")))) none (.idx (.v 4 (s "row")) (.int 1)))
@[reducible] def n__law_sets (size_ : Option D := none) (found_ : Option D := none) (bits_ : Option D := none) (some_ : Option D := none) (row_ : Option D := none) (good_ : Option D := none) : Env := [size_, found_, bits_, some_, row_, good_]
def d__law_sets (ν : Nat → Nat) : Fd := ⟨(s "_law_sets"), 1, [s "size", s "found", s "bits", s "some", s "row", s "good"], 1, [s__law_sets_0 ν, s__law_sets_1 ν, s__law_sets_2 ν], false⟩
/-- 97: _law_is_crowd (k11) -/
def s__law_is_crowd_0 (ν : Nat → Nat) : Sm := .asg (.nm 3 (s "many")) (.int 0)
def s__law_is_crowd_1_0 (ν : Nat → Nat) : Sm := .asg (.tp [(5, (s "most")), (6, (s "wished"))]) (.call (s "_law_top") (ν 91) [(.v 4 (s "row")), (.v 1 (s "costs"))])
def s__law_is_crowd_1_1 (ν : Nat → Nat) : Sm := .asg (.nm 3 (s "many")) (.bin .add (.v 3 (s "many")) (.bi .int (.and (.cmp .gt (.v 5 (s "most")) (.int 0)) (.cmp .eq (.lc [((s "good"), 7)] (.nm 7 (s "good")) (.seq (.v 6 (s "wished"))) (some (.cmp .notin (.v 7 (s "good")) (.v 2 (s "some")))) (.v 7 (s "good"))) (.lst [])))))
def s__law_is_crowd_1 (ν : Nat → Nat) : Sm := .for_ (.nm 4 (s "row")) (.seq (.v 0 (s "market"))) [s__law_is_crowd_1_0 ν, s__law_is_crowd_1_1 ν]
def s__law_is_crowd_2 (ν : Nat → Nat) : Sm := .ret (.cmp .gt (.v 3 (s "many")) (.bi .len (.v 2 (s "some"))))
@[reducible] def n__law_is_crowd (market_ : Option D := none) (costs_ : Option D := none) (some_ : Option D := none) (many_ : Option D := none) (row_ : Option D := none) (most_ : Option D := none) (wished_ : Option D := none) (good_ : Option D := none) : Env := [market_, costs_, some_, many_, row_, most_, wished_, good_]
def d__law_is_crowd (ν : Nat → Nat) : Fd := ⟨(s "_law_is_crowd"), 3, [s "market", s "costs", s "some", s "many", s "row", s "most", s "wished", s "good"], 0, [s__law_is_crowd_0 ν, s__law_is_crowd_1 ν, s__law_is_crowd_2 ν], false⟩
/-- 98: _law_is_glut (k11) -/
def s__law_is_glut_0 (ν : Nat → Nat) : Sm := .asg (.nm 3 (s "many")) (.int 0)
def s__law_is_glut_1_0 (ν : Nat → Nat) : Sm := .asg (.tp [(5, (s "most")), (6, (s "wished"))]) (.call (s "_law_top") (ν 91) [(.v 4 (s "row")), (.v 1 (s "costs"))])
def s__law_is_glut_1_1 (ν : Nat → Nat) : Sm := .asg (.nm 3 (s "many")) (.bin .add (.v 3 (s "many")) (.bi .int (.cmp .ne (.lc [((s "good"), 7)] (.nm 7 (s "good")) (.seq (.v 6 (s "wished"))) (some (.cmp .in_ (.v 7 (s "good")) (.v 2 (s "some")))) (.v 7 (s "good"))) (.lst []))))
def s__law_is_glut_1 (ν : Nat → Nat) : Sm := .for_ (.nm 4 (s "row")) (.seq (.v 0 (s "market"))) [s__law_is_glut_1_0 ν, s__law_is_glut_1_1 ν]
def s__law_is_glut_2 (ν : Nat → Nat) : Sm := .ret (.and (.cmp .lt (.v 3 (s "many")) (.bi .len (.v 2 (s "some")))) (.cmp .eq (.lc [((s "good"), 7)] (.nm 7 (s "good")) (.seq (.v 2 (s "some"))) (some (.cmp .eq (.idx (.v 1 (s "costs")) (.v 7 (s "good"))) (.int 0))) (.v 7 (s "good"))) (.lst [])))
@[reducible] def n__law_is_glut (market_ : Option D := none) (costs_ : Option D := none) (some_ : Option D := none) (many_ : Option D := none) (row_ : Option D := none) (most_ : Option D := none) (wished_ : Option D := none) (good_ : Option D := none) : Env := [market_, costs_, some_, many_, row_, most_, wished_, good_]
def d__law_is_glut (ν : Nat → Nat) : Fd := ⟨(s "_law_is_glut"), 3, [s "market", s "costs", s "some", s "many", s "row", s "most", s "wished", s "good"], 0, [s__law_is_glut_0 ν, s__law_is_glut_1 ν, s__law_is_glut_2 ν], false⟩
/-- 99: law (k11) -/
def s_law_k11_0 (ν : Nat → Nat) : Sm := .new 1 (s "town") 0 (.call (s "_law_town") (ν 74) [(.v 0 (s "script"))])
def s_law_k11_1 (ν : Nat → Nat) : Sm := .asg (.nm 2 (s "market")) (.call (s "_law_market") (ν 80) [(.v 0 (s "script")), (.v 1 (s "town")), (.int 5), (.int 4)])
def s_law_k11_2 (ν : Nat → Nat) : Sm := .asg (.nm 3 (s "size")) (.bi .len (.idx (.v 2 (s "market")) (.int 0)))
def s_law_k11_3 (ν : Nat → Nat) : Sm := .asg (.nm 4 (s "costs")) (.bi .tuple (.lc [((s "good"), 12)] (.nm 12 (s "good")) (.rng none (.v 3 (s "size"))) none (.call (s "_law_draw") (ν 75) [(.v 0 (s "script")), (.v 1 (s "town")), (.int 9)])))
def s_law_k11_4_0 (ν : Nat → Nat) : Sm := .asg (.nm 11 (s "base")) (.call (s "_law_pick") (ν 76) [(.v 0 (s "script")), (.v 1 (s "town")), (.lst [(.call (s "least_prices") (ν 46) [(.v 2 (s "market"))]), (.call (s "greatest_prices") (ν 47) [(.v 2 (s "market"))])])])
def s_law_k11_4_1 (ν : Nat → Nat) : Sm := .asg (.nm 4 (s "costs")) (.bi .tuple (.lc [((s "price"), 14)] (.nm 14 (s "price")) (.seq (.v 11 (s "base"))) none (.max2 (.int 0) (.bin .sub (.bin .add (.v 14 (s "price")) (.call (s "_law_draw") (ν 75) [(.v 0 (s "script")), (.v 1 (s "town")), (.int 3)])) (.int 1)))))
def s_law_k11_4 (ν : Nat → Nat) : Sm := .iff (.cmp .gt (.call (s "_law_draw") (ν 75) [(.v 0 (s "script")), (.v 1 (s "town")), (.int 3)]) (.int 0)) [s_law_k11_4_0 ν, s_law_k11_4_1 ν] []
def s_law_k11_5 (ν : Nat → Nat) : Sm := .asg (.nm 5 (s "sets")) (.call (s "_law_sets") (ν 96) [(.v 3 (s "size"))])
def s_law_k11_6 (ν : Nat → Nat) : Sm := .asg (.nm 6 (s "crowds")) (.lc [((s "some"), 8)] (.nm 8 (s "some")) (.seq (.v 5 (s "sets"))) (some (.call (s "_law_is_crowd") (ν 97) [(.v 2 (s "market")), (.v 4 (s "costs")), (.v 8 (s "some"))])) (.v 8 (s "some")))
def s_law_k11_7 (ν : Nat → Nat) : Sm := .asg (.nm 7 (s "gluts")) (.lc [((s "some"), 8)] (.nm 8 (s "some")) (.seq (.v 5 (s "sets"))) (some (.call (s "_law_is_glut") (ν 98) [(.v 2 (s "market")), (.v 4 (s "costs")), (.v 8 (s "some"))])) (.v 8 (s "some")))
def s_law_k11_8 (ν : Nat → Nat) : Sm := .iff (.cmp .ne (.call (s "crowd") (ν 37) [(.v 2 (s "market")), (.v 4 (s "costs"))]) (.ite (.cmp .ne (.v 6 (s "crowds")) (.lst [])) (.idx (.v 6 (s "crowds")) (.int 0)) .non)) [.ret (.bl false)] []
def s_law_k11_9 (ν : Nat → Nat) : Sm := .iff (.cmp .ne (.call (s "glut") (ν 38) [(.v 2 (s "market")), (.v 4 (s "costs"))]) (.ite (.cmp .ne (.v 7 (s "gluts")) (.lst [])) (.idx (.v 7 (s "gluts")) (.int 0)) .non)) [.ret (.bl false)] []
def s_law_k11_10 (ν : Nat → Nat) : Sm := .iff (.cmp .ne (.and (.cmp .eq (.v 6 (s "crowds")) (.lst [])) (.cmp .eq (.v 7 (s "gluts")) (.lst []))) (.call (s "_law_is_stable") (ν 95) [(.v 2 (s "market")), (.v 4 (s "costs"))])) [.ret (.bl false)] []
def s_law_k11_11_0 (ν : Nat → Nat) : Sm := .iff (.or (.cmp .ne (.call (s "is_crowd") (ν 40) [(.v 2 (s "market")), (.v 4 (s "costs")), (.v 8 (s "some"))]) (.cmp .in_ (.v 8 (s "some")) (.v 6 (s "crowds")))) (.cmp .ne (.call (s "is_glut") (ν 41) [(.v 2 (s "market")), (.v 4 (s "costs")), (.v 8 (s "some"))]) (.cmp .in_ (.v 8 (s "some")) (.v 7 (s "gluts"))))) [.ret (.bl false)] []
def s_law_k11_11 (ν : Nat → Nat) : Sm := .for_ (.nm 8 (s "some")) (.seq (.v 5 (s "sets"))) [s_law_k11_11_0 ν]
def s_law_k11_12 (ν : Nat → Nat) : Sm := .asg (.nm 9 (s "rough")) (.tup [(.tup [(.int 9), (.int 0)]), (.tup [(.int 9), (.int 0)]), (.tup [(.int 9), (.int 0)])])
def s_law_k11_13 (ν : Nat → Nat) : Sm := .iff (.or (.cmp .isnot (.call (s "is_crowd") (ν 40) [(.v 9 (s "rough")), (.tup [(.int 0), (.int 0)]), (.tup [(.int 0)])]) (.bl true)) (.cmp .isnot (.call (s "is_glut") (ν 41) [(.v 9 (s "rough")), (.tup [(.int 10), (.int 10)]), (.tup [(.int 0), (.int 1)])]) (.bl true))) [.ret (.bl false)] []
def s_law_k11_14 (ν : Nat → Nat) : Sm := .asg (.nm 10 (s "bads")) (.lst [.non, (.int 5), (.tup []), (.lst [(.int 0)]), (.tup [(.int 0), (.int 0)]), (.tup [(.int 1), (.int 0)]), (.tup [(.int 2)]), (.tup [(.neg (.int 1))]), (.tup [(.bl true)]), (.str (s "0")), (.tup [.non]), (.tup [(.tup [(.int 0)])])])
def s_law_k11_15 (ν : Nat → Nat) : Sm := .iff (.cmp .ne (.lc [((s "bad"), 13)] (.nm 13 (s "bad")) (.seq (.v 10 (s "bads"))) (some (.cmp .isnot (.call (s "is_crowd") (ν 40) [(.v 9 (s "rough")), (.tup [(.int 0), (.int 0)]), (.v 13 (s "bad"))]) (.bl false))) (.v 13 (s "bad"))) (.lst [])) [.ret (.bl false)] []
def s_law_k11_16 (ν : Nat → Nat) : Sm := .ret (.cmp .eq (.lc [((s "bad"), 13)] (.nm 13 (s "bad")) (.seq (.v 10 (s "bads"))) (some (.cmp .isnot (.call (s "is_glut") (ν 41) [(.v 9 (s "rough")), (.tup [(.int 10), (.int 10)]), (.v 13 (s "bad"))]) (.bl false))) (.v 13 (s "bad"))) (.lst []))
@[reducible] def n_law_k11 (script_ : Option D := none) (town_ : Option D := none) (market_ : Option D := none) (size_ : Option D := none) (costs_ : Option D := none) (sets_ : Option D := none) (crowds_ : Option D := none) (gluts_ : Option D := none) (some_ : Option D := none) (rough_ : Option D := none) (bads_ : Option D := none) (base_ : Option D := none) (good_ : Option D := none) (bad_ : Option D := none) (price_ : Option D := none) : Env := [script_, town_, market_, size_, costs_, sets_, crowds_, gluts_, some_, rough_, bads_, base_, good_, bad_, price_]
def d_law_k11 (ν : Nat → Nat) : Fd := ⟨(s "law"), 1, [s "script", s "town", s "market", s "size", s "costs", s "sets", s "crowds", s "gluts", s "some", s "rough", s "bads", s "base", s "good", s "bad", s "price"], 1, [s_law_k11_0 ν, s_law_k11_1 ν, s_law_k11_2 ν, s_law_k11_3 ν, s_law_k11_4 ν, s_law_k11_5 ν, s_law_k11_6 ν, s_law_k11_7 ν, s_law_k11_8 ν, s_law_k11_9 ν, s_law_k11_10 ν, s_law_k11_11 ν, s_law_k11_12 ν, s_law_k11_13 ν, s_law_k11_14 ν, s_law_k11_15 ν, s_law_k11_16 ν], false⟩
/-- 100: _law_part (k12) -/
def s__law_part_0 (ν : Nat → Nat) : Sm := .ret (.bi .tuple (.lc [((s "buyer"), 3)] (.nm 3 (s "buyer")) (.seq (.v 1 (s "buyers"))) none (.bi .tuple (.lc [((s "good"), 4)] (.nm 4 (s "good")) (.seq (.v 2 (s "goods"))) none (.idx (.idx (.v 0 (s "market")) (.v 3 (s "buyer"))) (.v 4 (s "good")))))))
@[reducible] def n__law_part (market_ : Option D := none) (buyers_ : Option D := none) (goods_ : Option D := none) (buyer_ : Option D := none) (good_ : Option D := none) : Env := [market_, buyers_, goods_, buyer_, good_]
def d__law_part (ν : Nat → Nat) : Fd := ⟨(s "_law_part"), 3, [s "market", s "buyers", s "goods", s "buyer", s "good"], 0, [s__law_part_0 ν], false⟩
/-- 101: law (k12) -/
def s_law_k12_0 (ν : Nat → Nat) : Sm := .new 1 (s "town") 0 (.call (s "_law_town") (ν 74) [(.v 0 (s "script"))])
def s_law_k12_1 (ν : Nat → Nat) : Sm := .asg (.nm 2 (s "market")) (.call (s "_law_market") (ν 80) [(.v 0 (s "script")), (.v 1 (s "town")), (.int 5), (.int 4)])
def s_law_k12_2 (ν : Nat → Nat) : Sm := .par [(8, (s "many")), (9, (s "size"))] [(.bi .len (.v 2 (s "market"))), (.bi .len (.idx (.v 2 (s "market")) (.int 0)))]
def s_law_k12_3 (ν : Nat → Nat) : Sm := .asg (.nm 3 (s "most")) (.call (s "best_total") (ν 14) [(.v 2 (s "market"))])
def s_law_k12_4_0 (ν : Nat → Nat) : Sm := .asg (.nm 5 (s "costs")) (.bi .tuple (.lc [((s "good"), 15)] (.nm 15 (s "good")) (.rng none (.v 9 (s "size"))) none (.call (s "_law_draw") (ν 75) [(.v 0 (s "script")), (.v 1 (s "town")), (.int 12)])))
def s_law_k12_4_1_0 (ν : Nat → Nat) : Sm := .asg (.nm 12 (s "base")) (.call (s "_law_pick") (ν 76) [(.v 0 (s "script")), (.v 1 (s "town")), (.lst [(.call (s "least_prices") (ν 46) [(.v 2 (s "market"))]), (.call (s "greatest_prices") (ν 47) [(.v 2 (s "market"))])])])
def s_law_k12_4_1_1 (ν : Nat → Nat) : Sm := .asg (.nm 5 (s "costs")) (.bi .tuple (.lc [((s "price"), 16)] (.nm 16 (s "price")) (.seq (.v 12 (s "base"))) none (.max2 (.int 0) (.bin .sub (.bin .add (.v 16 (s "price")) (.call (s "_law_draw") (ν 75) [(.v 0 (s "script")), (.v 1 (s "town")), (.int 3)])) (.int 1)))))
def s_law_k12_4_1 (ν : Nat → Nat) : Sm := .iff (.cmp .gt (.v 4 (s "k")) (.int 1)) [s_law_k12_4_1_0 ν, s_law_k12_4_1_1 ν] []
def s_law_k12_4_2 (ν : Nat → Nat) : Sm := .asg (.nm 6 (s "gains_of")) (.lc [((s "buyer"), 13)] (.nm 13 (s "buyer")) (.rng none (.v 8 (s "many"))) none (.call (s "top_gain") (ν 26) [(.v 2 (s "market")), (.v 5 (s "costs")), (.v 13 (s "buyer"))]))
def s_law_k12_4_3 (ν : Nat → Nat) : Sm := .iff (.cmp .lt (.bin .add (.bi .sum (.v 6 (s "gains_of"))) (.bi .sum (.v 5 (s "costs")))) (.v 3 (s "most"))) [.ret (.bl false)] []
def s_law_k12_4_4 (ν : Nat → Nat) : Sm := .iff (.cmp .ne (.cmp .eq (.bin .add (.bi .sum (.v 6 (s "gains_of"))) (.bi .sum (.v 5 (s "costs")))) (.v 3 (s "most"))) (.cmp .isnot (.call (s "supported") (ν 31) [(.v 2 (s "market")), (.v 5 (s "costs"))]) .non)) [.ret (.bl false)] []
def s_law_k12_4 (ν : Nat → Nat) : Sm := .for_ (.nm 4 (s "k")) (.rng none (.int 6)) [s_law_k12_4_0 ν, s_law_k12_4_1 ν, s_law_k12_4_2 ν, s_law_k12_4_3 ν, s_law_k12_4_4 ν]
def s_law_k12_5 (ν : Nat → Nat) : Sm := .asg (.nm 5 (s "costs")) (.call (s "_law_pick") (ν 76) [(.v 0 (s "script")), (.v 1 (s "town")), (.lst [(.call (s "least_prices") (ν 46) [(.v 2 (s "market"))]), (.call (s "greatest_prices") (ν 47) [(.v 2 (s "market"))])])])
def s_law_k12_6 (ν : Nat → Nat) : Sm := .asg (.nm 6 (s "gains_of")) (.lc [((s "buyer"), 13)] (.nm 13 (s "buyer")) (.rng none (.v 8 (s "many"))) none (.call (s "top_gain") (ν 26) [(.v 2 (s "market")), (.v 5 (s "costs")), (.v 13 (s "buyer"))]))
def s_law_k12_7_0 (ν : Nat → Nat) : Sm := .asg (.nm 10 (s "buyers")) (.lc [((s "buyer"), 13)] (.nm 13 (s "buyer")) (.rng none (.v 8 (s "many"))) (some (.cmp .eq (.call (s "_law_draw") (ν 75) [(.v 0 (s "script")), (.v 1 (s "town")), (.int 2)]) (.int 0))) (.v 13 (s "buyer")))
def s_law_k12_7_1 (ν : Nat → Nat) : Sm := .asg (.nm 11 (s "goods")) (.lc [((s "good"), 15)] (.nm 15 (s "good")) (.rng none (.v 9 (s "size"))) (some (.cmp .eq (.call (s "_law_draw") (ν 75) [(.v 0 (s "script")), (.v 1 (s "town")), (.int 2)]) (.int 0))) (.v 15 (s "good")))
def s_law_k12_7_2_0 (ν : Nat → Nat) : Sm := .asg (.nm 14 (s "worth")) (.bin .add (.bi .sum (.lc [((s "buyer"), 13)] (.nm 13 (s "buyer")) (.seq (.v 10 (s "buyers"))) none (.idx (.v 6 (s "gains_of")) (.v 13 (s "buyer"))))) (.bi .sum (.lc [((s "good"), 15)] (.nm 15 (s "good")) (.seq (.v 11 (s "goods"))) none (.idx (.v 5 (s "costs")) (.v 15 (s "good"))))))
def s_law_k12_7_2_1 (ν : Nat → Nat) : Sm := .iff (.cmp .gt (.call (s "best_total") (ν 14) [(.call (s "_law_part") (ν 100) [(.v 2 (s "market")), (.v 10 (s "buyers")), (.v 11 (s "goods"))])]) (.v 14 (s "worth"))) [.ret (.bl false)] []
def s_law_k12_7_2 (ν : Nat → Nat) : Sm := .iff (.and (.cmp .ne (.v 10 (s "buyers")) (.lst [])) (.cmp .ne (.v 11 (s "goods")) (.lst []))) [s_law_k12_7_2_0 ν, s_law_k12_7_2_1 ν] []
def s_law_k12_7 (ν : Nat → Nat) : Sm := .for_ (.nm 4 (s "k")) (.rng none (.int 5)) [s_law_k12_7_0 ν, s_law_k12_7_1 ν, s_law_k12_7_2 ν]
def s_law_k12_8 (ν : Nat → Nat) : Sm := .asg (.nm 7 (s "assignment")) (.call (s "_law_pick") (ν 76) [(.v 0 (s "script")), (.v 1 (s "town")), (.call (s "_law_assignments") (ν 85) [(.v 2 (s "market"))])])
def s_law_k12_9 (ν : Nat → Nat) : Sm := .ret (.or (.cmp .eq (.call (s "total") (ν 11) [(.v 2 (s "market")), (.v 7 (s "assignment"))]) (.v 3 (s "most"))) (.cmp .isnot (.call (s "objection") (ν 42) [(.v 2 (s "market")), (.v 5 (s "costs")), (.v 7 (s "assignment"))]) .non))
@[reducible] def n_law_k12 (script_ : Option D := none) (town_ : Option D := none) (market_ : Option D := none) (most_ : Option D := none) (k_ : Option D := none) (costs_ : Option D := none) (gains_of_ : Option D := none) (assignment_ : Option D := none) (many_ : Option D := none) (size_ : Option D := none) (buyers_ : Option D := none) (goods_ : Option D := none) (base_ : Option D := none) (buyer_ : Option D := none) (worth_ : Option D := none) (good_ : Option D := none) (price_ : Option D := none) : Env := [script_, town_, market_, most_, k_, costs_, gains_of_, assignment_, many_, size_, buyers_, goods_, base_, buyer_, worth_, good_, price_]
def d_law_k12 (ν : Nat → Nat) : Fd := ⟨(s "law"), 1, [s "script", s "town", s "market", s "most", s "k", s "costs", s "gains_of", s "assignment", s "many", s "size", s "buyers", s "goods", s "base", s "buyer", s "worth", s "good", s "price"], 1, [s_law_k12_0 ν, s_law_k12_1 ν, s_law_k12_2 ν, s_law_k12_3 ν, s_law_k12_4 ν, s_law_k12_5 ν, s_law_k12_6 ν, s_law_k12_7 ν, s_law_k12_8 ν, s_law_k12_9 ν], false⟩
/-- 102: _law_all_prices (k20) -/
def s__law_all_prices_0 (ν : Nat → Nat) : Sm := .asg (.nm 2 (s "found")) (.lst [(.tup [])])
def s__law_all_prices_1_0 (ν : Nat → Nat) : Sm := .asg (.nm 4 (s "longer")) (.lst [])
def s__law_all_prices_1_1_0 (ν : Nat → Nat) : Sm := .asg (.nm 4 (s "longer")) (.bin .add (.v 4 (s "longer")) (.lc [((s "price"), 6)] (.nm 6 (s "price")) (.rng none (.bin .add (.v 1 (s "most")) (.int 1))) none (.bin .add (.v 5 (s "some")) (.tup [(.v 6 (s "price"))]))))
def s__law_all_prices_1_1 (ν : Nat → Nat) : Sm := .for_ (.nm 5 (s "some")) (.seq (.v 2 (s "found"))) [s__law_all_prices_1_1_0 ν]
def s__law_all_prices_1_2 (ν : Nat → Nat) : Sm := .asg (.nm 2 (s "found")) (.v 4 (s "longer"))
def s__law_all_prices_1 (ν : Nat → Nat) : Sm := .for_ (.nm 3 (s "good")) (.seq (.idx (.v 0 (s "market")) (.int 0))) [s__law_all_prices_1_0 ν, s__law_all_prices_1_1 ν, s__law_all_prices_1_2 ν]
def s__law_all_prices_2 (ν : Nat → Nat) : Sm := .ret (.v 2 (s "found"))
@[reducible] def n__law_all_prices (market_ : Option D := none) (most_ : Option D := none) (found_ : Option D := none) (good_ : Option D := none) (longer_ : Option D := none) (some_ : Option D := none) (price_ : Option D := none) : Env := [market_, most_, found_, good_, longer_, some_, price_]
def d__law_all_prices (ν : Nat → Nat) : Fd := ⟨(s "_law_all_prices"), 2, [s "market", s "most", s "found", s "good", s "longer", s "some", s "price"], 0, [s__law_all_prices_0 ν, s__law_all_prices_1 ν, s__law_all_prices_2 ν], false⟩
/-- 103: law (k20) -/
def s_law_k20_0 (ν : Nat → Nat) : Sm := .new 1 (s "town") 0 (.call (s "_law_town") (ν 74) [(.v 0 (s "script"))])
def s_law_k20_1 (ν : Nat → Nat) : Sm := .asg (.nm 2 (s "market")) (.call (s "_law_market") (ν 80) [(.v 0 (s "script")), (.v 1 (s "town")), (.int 4), (.int 3)])
def s_law_k20_2 (ν : Nat → Nat) : Sm := .asg (.nm 3 (s "size")) (.bi .len (.idx (.v 2 (s "market")) (.int 0)))
def s_law_k20_3 (ν : Nat → Nat) : Sm := .asg (.tp [(8, (s "low")), (9, (s "high"))]) (.tup [(.call (s "least_prices") (ν 46) [(.v 2 (s "market"))]), (.call (s "greatest_prices") (ν 47) [(.v 2 (s "market"))])])
def s_law_k20_4 (ν : Nat → Nat) : Sm := .iff (.or (.not (.call (s "_law_is_stable") (ν 95) [(.v 2 (s "market")), (.v 8 (s "low"))])) (.not (.call (s "_law_is_stable") (ν 95) [(.v 2 (s "market")), (.v 9 (s "high"))]))) [.ret (.bl false)] []
def s_law_k20_5 (ν : Nat → Nat) : Sm := .asg (.nm 4 (s "most")) (.bi .max (.lc [((s "row"), 18)] (.nm 18 (s "row")) (.seq (.v 2 (s "market"))) none (.bi .max (.v 18 (s "row")))))
def s_law_k20_6_0 (ν : Nat → Nat) : Sm := .asg (.nm 10 (s "at")) (.call (s "_law_draw") (ν 75) [(.v 0 (s "script")), (.v 1 (s "town")), (.v 3 (s "size"))])
def s_law_k20_6_1 (ν : Nat → Nat) : Sm := .asg (.nm 11 (s "more")) (.bin .add (.bin .add (.sl (.v 9 (s "high")) none (some (.v 10 (s "at")))) (.tup [(.bin .add (.idx (.v 9 (s "high")) (.v 10 (s "at"))) (.int 1))])) (.sl (.v 9 (s "high")) (some (.bin .add (.v 10 (s "at")) (.int 1))) none))
def s_law_k20_6_2 (ν : Nat → Nat) : Sm := .asg (.nm 12 (s "less")) (.bin .add (.bin .add (.sl (.v 8 (s "low")) none (some (.v 10 (s "at")))) (.tup [(.max2 (.int 0) (.bin .sub (.idx (.v 8 (s "low")) (.v 10 (s "at"))) (.int 1)))])) (.sl (.v 8 (s "low")) (some (.bin .add (.v 10 (s "at")) (.int 1))) none))
def s_law_k20_6_3 (ν : Nat → Nat) : Sm := .iff (.or (.call (s "_law_is_stable") (ν 95) [(.v 2 (s "market")), (.v 11 (s "more"))]) (.and (.cmp .gt (.idx (.v 8 (s "low")) (.v 10 (s "at"))) (.int 0)) (.call (s "_law_is_stable") (ν 95) [(.v 2 (s "market")), (.v 12 (s "less"))]))) [.ret (.bl false)] []
def s_law_k20_6_4 (ν : Nat → Nat) : Sm := .ret (.cmp .eq (.lc [((s "good"), 19)] (.nm 19 (s "good")) (.rng none (.v 3 (s "size"))) (some (.cmp .gt (.idx (.v 8 (s "low")) (.v 19 (s "good"))) (.idx (.v 9 (s "high")) (.v 19 (s "good"))))) (.v 19 (s "good"))) (.lst []))
def s_law_k20_6 (ν : Nat → Nat) : Sm := .iff (.cmp .gt (.bin .mul (.bin .add (.v 4 (s "most")) (.int 1)) (.v 3 (s "size"))) (.int 21)) [s_law_k20_6_0 ν, s_law_k20_6_1 ν, s_law_k20_6_2 ν, s_law_k20_6_3 ν, s_law_k20_6_4 ν] []
def s_law_k20_7 (ν : Nat → Nat) : Sm := .asg (.nm 5 (s "rows")) (.lc [((s "costs"), 16)] (.nm 16 (s "costs")) (.seq (.call (s "_law_all_prices") (ν 102) [(.v 2 (s "market")), (.v 4 (s "most"))])) (some (.call (s "_law_is_stable") (ν 95) [(.v 2 (s "market")), (.v 16 (s "costs"))])) (.v 16 (s "costs")))
def s_law_k20_8 (ν : Nat → Nat) : Sm := .iff (.cmp .ne (.call (s "stable_prices") (ν 48) [(.v 2 (s "market"))]) (.bi .tuple (.v 5 (s "rows")))) [.ret (.bl false)] []
def s_law_k20_9 (ν : Nat → Nat) : Sm := .iff (.cmp .ne (.v 8 (s "low")) (.bi .tuple (.lc [((s "k"), 20)] (.nm 20 (s "k")) (.rng none (.v 3 (s "size"))) none (.bi .min (.lc [((s "row"), 18)] (.nm 18 (s "row")) (.seq (.v 5 (s "rows"))) none (.idx (.v 18 (s "row")) (.v 20 (s "k")))))))) [.ret (.bl false)] []
def s_law_k20_10 (ν : Nat → Nat) : Sm := .iff (.cmp .ne (.v 9 (s "high")) (.bi .tuple (.lc [((s "k"), 20)] (.nm 20 (s "k")) (.rng none (.v 3 (s "size"))) none (.bi .max (.lc [((s "row"), 18)] (.nm 18 (s "row")) (.seq (.v 5 (s "rows"))) none (.idx (.v 18 (s "row")) (.v 20 (s "k")))))))) [.ret (.bl false)] []
def s_law_k20_11 (ν : Nat → Nat) : Sm := .asg (.tp [(13, (s "one")), (14, (s "other"))]) (.tup [(.call (s "_law_pick") (ν 76) [(.v 0 (s "script")), (.v 1 (s "town")), (.v 5 (s "rows"))]), (.call (s "_law_pick") (ν 76) [(.v 0 (s "script")), (.v 1 (s "town")), (.v 5 (s "rows"))])])
def s_law_k20_12 (ν : Nat → Nat) : Sm := .iff (.cmp .notin (.bi .tuple (.lc [((s "k"), 20)] (.nm 20 (s "k")) (.rng none (.v 3 (s "size"))) none (.max2 (.idx (.v 13 (s "one")) (.v 20 (s "k"))) (.idx (.v 14 (s "other")) (.v 20 (s "k")))))) (.v 5 (s "rows"))) [.ret (.bl false)] []
def s_law_k20_13 (ν : Nat → Nat) : Sm := .iff (.cmp .notin (.bi .tuple (.lc [((s "k"), 20)] (.nm 20 (s "k")) (.rng none (.v 3 (s "size"))) none (.min2 (.idx (.v 13 (s "one")) (.v 20 (s "k"))) (.idx (.v 14 (s "other")) (.v 20 (s "k")))))) (.v 5 (s "rows"))) [.ret (.bl false)] []
def s_law_k20_14_0_0 (ν : Nat → Nat) : Sm := .asg (.nm 17 (s "gaps")) (.lc [((s "row"), 18)] (.nm 18 (s "row")) (.seq (.v 5 (s "rows"))) none (.bin .sub (.idx (.v 18 (s "row")) (.v 6 (s "i"))) (.idx (.v 18 (s "row")) (.v 15 (s "j")))))
def s_law_k20_14_0_1 (ν : Nat → Nat) : Sm := .iff (.cmp .ne (.call (s "difference_range") (ν 49) [(.v 2 (s "market")), (.v 6 (s "i")), (.v 15 (s "j"))]) (.tup [(.bi .min (.v 17 (s "gaps"))), (.bi .max (.v 17 (s "gaps")))])) [.ret (.bl false)] []
def s_law_k20_14_0 (ν : Nat → Nat) : Sm := .for_ (.nm 15 (s "j")) (.rng none (.v 3 (s "size"))) [s_law_k20_14_0_0 ν, s_law_k20_14_0_1 ν]
def s_law_k20_14 (ν : Nat → Nat) : Sm := .for_ (.nm 6 (s "i")) (.rng none (.v 3 (s "size"))) [s_law_k20_14_0 ν]
def s_law_k20_15_0 (ν : Nat → Nat) : Sm := .iff (.cmp .ne (.lc [((s "good"), 19)] (.nm 19 (s "good")) (.rng none (.v 3 (s "size"))) (some (.and (.cmp .notin (.v 19 (s "good")) (.v 7 (s "assignment"))) (.cmp .gt (.idx (.v 9 (s "high")) (.v 19 (s "good"))) (.int 0)))) (.v 19 (s "good"))) (.lst [])) [.ret (.bl false)] []
def s_law_k20_15 (ν : Nat → Nat) : Sm := .for_ (.nm 7 (s "assignment")) (.seq (.call (s "_law_best") (ν 87) [(.v 2 (s "market"))])) [s_law_k20_15_0 ν]
def s_law_k20_16 (ν : Nat → Nat) : Sm := .ret (.bl true)
@[reducible] def n_law_k20 (script_ : Option D := none) (town_ : Option D := none) (market_ : Option D := none) (size_ : Option D := none) (most_ : Option D := none) (rows_ : Option D := none) (i_ : Option D := none) (assignment_ : Option D := none) (low_ : Option D := none) (high_ : Option D := none) (at_ : Option D := none) (more_ : Option D := none) (less_ : Option D := none) (one_ : Option D := none) (other_ : Option D := none) (j_ : Option D := none) (costs_ : Option D := none) (gaps_ : Option D := none) (row_ : Option D := none) (good_ : Option D := none) (k_ : Option D := none) : Env := [script_, town_, market_, size_, most_, rows_, i_, assignment_, low_, high_, at_, more_, less_, one_, other_, j_, costs_, gaps_, row_, good_, k_]
def d_law_k20 (ν : Nat → Nat) : Fd := ⟨(s "law"), 1, [s "script", s "town", s "market", s "size", s "most", s "rows", s "i", s "assignment", s "low", s "high", s "at", s "more", s "less", s "one", s "other", s "j", s "costs", s "gaps", s "row", s "good", s "k"], 1, [s_law_k20_0 ν, s_law_k20_1 ν, s_law_k20_2 ν, s_law_k20_3 ν, s_law_k20_4 ν, s_law_k20_5 ν, s_law_k20_6 ν, s_law_k20_7 ν, s_law_k20_8 ν, s_law_k20_9 ν, s_law_k20_10 ν, s_law_k20_11 ν, s_law_k20_12 ν, s_law_k20_13 ν, s_law_k20_14 ν, s_law_k20_15 ν, s_law_k20_16 ν], false⟩
/-- 104: _law_ceiling (k21) -/
def s__law_ceiling_0 (ν : Nat → Nat) : Sm := .asg (.nm 3 (s "found")) (.int 0)
def s__law_ceiling_1 (ν : Nat → Nat) : Sm := .iff (.or (.cmp .lt (.bi .lenset (.v 2 (s "goods"))) (.bi .len (.v 2 (s "goods")))) (.cmp .ne (.lc [((s "good"), 6)] (.nm 6 (s "good")) (.seq (.sl (.v 2 (s "goods")) none (some (.neg (.int 1))))) (some (.cmp .notin (.v 6 (s "good")) (.v 1 (s "assignment")))) (.v 6 (s "good"))) (.lst []))) [.ret .non] []
def s__law_ceiling_2_0_0 (ν : Nat → Nat) : Sm := .asg (.nm 5 (s "row")) (.idx (.v 0 (s "market")) (.index (.v 1 (s "assignment")) (.idx (.v 2 (s "goods")) (.v 4 (s "k")))))
def s__law_ceiling_2_0_1 (ν : Nat → Nat) : Sm := .asg (.nm 3 (s "found")) (.bin .sub (.bin .add (.v 3 (s "found")) (.idx (.v 5 (s "row")) (.idx (.v 2 (s "goods")) (.v 4 (s "k"))))) (.ite (.cmp .lt (.bin .add (.v 4 (s "k")) (.int 1)) (.bi .len (.v 2 (s "goods")))) (.idx (.v 5 (s "row")) (.idx (.v 2 (s "goods")) (.bin .add (.v 4 (s "k")) (.int 1)))) (.int 0)))
def s__law_ceiling_2_0 (ν : Nat → Nat) : Sm := .iff (.cmp .in_ (.idx (.v 2 (s "goods")) (.v 4 (s "k"))) (.v 1 (s "assignment"))) [s__law_ceiling_2_0_0 ν, s__law_ceiling_2_0_1 ν] []
def s__law_ceiling_2 (ν : Nat → Nat) : Sm := .for_ (.nm 4 (s "k")) (.rng none (.bi .len (.v 2 (s "goods")))) [s__law_ceiling_2_0 ν]
def s__law_ceiling_3 (ν : Nat → Nat) : Sm := .ret (.v 3 (s "found"))
@[reducible] def n__law_ceiling (market_ : Option D := none) (assignment_ : Option D := none) (goods_ : Option D := none) (found_ : Option D := none) (k_ : Option D := none) (row_ : Option D := none) (good_ : Option D := none) : Env := [market_, assignment_, goods_, found_, k_, row_, good_]
def d__law_ceiling (ν : Nat → Nat) : Fd := ⟨(s "_law_ceiling"), 3, [s "market", s "assignment", s "goods", s "found", s "k", s "row", s "good"], 0, [s__law_ceiling_0 ν, s__law_ceiling_1 ν, s__law_ceiling_2 ν, s__law_ceiling_3 ν], false⟩
/-- 105: _law_floor (k21) -/
def s__law_floor_0 (ν : Nat → Nat) : Sm := .asg (.nm 4 (s "got")) (.lc [((s "buyer"), 8)] (.nm 8 (s "buyer")) (.seq (.v 3 (s "buyers"))) none (.idx (.v 1 (s "assignment")) (.v 8 (s "buyer"))))
def s__law_floor_1 (ν : Nat → Nat) : Sm := .iff (.or (.cmp .lt (.bi .lenset (.v 3 (s "buyers"))) (.bi .len (.v 3 (s "buyers")))) (.or (.cmp .in_ (.v 2 (s "good")) (.v 4 (s "got"))) (.cmp .in_ (.neg (.int 1)) (.sl (.v 4 (s "got")) none (some (.neg (.int 1))))))) [.ret .non] []
def s__law_floor_2 (ν : Nat → Nat) : Sm := .asg (.nm 5 (s "found")) (.int 0)
def s__law_floor_3_0 (ν : Nat → Nat) : Sm := .asg (.nm 7 (s "row")) (.idx (.v 0 (s "market")) (.idx (.v 3 (s "buyers")) (.v 6 (s "k"))))
def s__law_floor_3_1 (ν : Nat → Nat) : Sm := .asg (.nm 5 (s "found")) (.bin .sub (.bin .add (.v 5 (s "found")) (.idx (.v 7 (s "row")) (.ite (.cmp .eq (.v 6 (s "k")) (.int 0)) (.v 2 (s "good")) (.idx (.v 4 (s "got")) (.bin .sub (.v 6 (s "k")) (.int 1)))))) (.ite (.cmp .ge (.idx (.v 4 (s "got")) (.v 6 (s "k"))) (.int 0)) (.idx (.v 7 (s "row")) (.idx (.v 4 (s "got")) (.v 6 (s "k")))) (.int 0)))
def s__law_floor_3 (ν : Nat → Nat) : Sm := .for_ (.nm 6 (s "k")) (.rng none (.bi .len (.v 3 (s "buyers")))) [s__law_floor_3_0 ν, s__law_floor_3_1 ν]
def s__law_floor_4 (ν : Nat → Nat) : Sm := .ret (.v 5 (s "found"))
@[reducible] def n__law_floor (market_ : Option D := none) (assignment_ : Option D := none) (good_ : Option D := none) (buyers_ : Option D := none) (got_ : Option D := none) (found_ : Option D := none) (k_ : Option D := none) (row_ : Option D := none) (buyer_ : Option D := none) : Env := [market_, assignment_, good_, buyers_, got_, found_, k_, row_, buyer_]
def d__law_floor (ν : Nat → Nat) : Fd := ⟨(s "_law_floor"), 4, [s "market", s "assignment", s "good", s "buyers", s "got", s "found", s "k", s "row", s "buyer"], 0, [s__law_floor_0 ν, s__law_floor_1 ν, s__law_floor_2 ν, s__law_floor_3 ν, s__law_floor_4 ν], false⟩
/-- 106: _law_some (k21) -/
def s__law_some_0 (ν : Nat → Nat) : Sm := .asg (.nm 4 (s "found")) (.v 2 (s "first"))
def s__law_some_1_0 (ν : Nat → Nat) : Sm := .asg (.nm 6 (s "left")) (.lc [((s "number"), 7)] (.nm 7 (s "number")) (.rng none (.v 3 (s "size"))) (some (.cmp .notin (.v 7 (s "number")) (.v 4 (s "found")))) (.v 7 (s "number")))
def s__law_some_1_1 (ν : Nat → Nat) : Sm := .asg (.nm 4 (s "found")) (.ite (.cmp .ne (.v 6 (s "left")) (.lst [])) (.bin .add (.v 4 (s "found")) (.tup [(.call (s "_law_pick") (ν 76) [(.v 0 (s "script")), (.v 1 (s "town")), (.v 6 (s "left"))])])) (.v 4 (s "found")))
def s__law_some_1 (ν : Nat → Nat) : Sm := .for_ (.nm 5 (s "k")) (.rng none (.call (s "_law_draw") (ν 75) [(.v 0 (s "script")), (.v 1 (s "town")), (.bin .add (.v 3 (s "size")) (.int 1))])) [s__law_some_1_0 ν, s__law_some_1_1 ν]
def s__law_some_2 (ν : Nat → Nat) : Sm := .ret (.v 4 (s "found"))
@[reducible] def n__law_some (script_ : Option D := none) (town_ : Option D := none) (first_ : Option D := none) (size_ : Option D := none) (found_ : Option D := none) (k_ : Option D := none) (left_ : Option D := none) (number_ : Option D := none) : Env := [script_, town_, first_, size_, found_, k_, left_, number_]
def d__law_some (ν : Nat → Nat) : Fd := ⟨(s "_law_some"), 4, [s "script", s "town", s "first", s "size", s "found", s "k", s "left", s "number"], 0, [s__law_some_0 ν, s__law_some_1 ν, s__law_some_2 ν], false⟩
/-- 107: law (k21) -/
def s_law_k21_0 (ν : Nat → Nat) : Sm := .new 1 (s "town") 0 (.call (s "_law_town") (ν 74) [(.v 0 (s "script"))])
def s_law_k21_1 (ν : Nat → Nat) : Sm := .asg (.nm 2 (s "market")) (.call (s "_law_market") (ν 80) [(.v 0 (s "script")), (.v 1 (s "town")), (.int 5), (.int 4)])
def s_law_k21_2 (ν : Nat → Nat) : Sm := .par [(5, (s "many")), (6, (s "size"))] [(.bi .len (.v 2 (s "market"))), (.bi .len (.idx (.v 2 (s "market")) (.int 0)))]
def s_law_k21_3 (ν : Nat → Nat) : Sm := .par [(7, (s "low")), (8, (s "high"))] [(.call (s "least_prices") (ν 46) [(.v 2 (s "market"))]), (.call (s "greatest_prices") (ν 47) [(.v 2 (s "market"))])]
def s_law_k21_4 (ν : Nat → Nat) : Sm := .asg (.nm 3 (s "best")) (.call (s "_law_best") (ν 87) [(.v 2 (s "market"))])
def s_law_k21_5_0 (ν : Nat → Nat) : Sm := .asg (.tp [(10, (s "assignment")), (11, (s "goods"))]) (.call (s "ceiling") (ν 52) [(.v 2 (s "market")), (.v 4 (s "good"))])
def s_law_k21_5_1 (ν : Nat → Nat) : Sm := .iff (.or (.cmp .notin (.v 10 (s "assignment")) (.v 3 (s "best"))) (.or (.cmp .ne (.idx (.v 11 (s "goods")) (.int 0)) (.v 4 (s "good"))) (.cmp .ne (.call (s "_law_ceiling") (ν 104) [(.v 2 (s "market")), (.v 10 (s "assignment")), (.v 11 (s "goods"))]) (.idx (.v 8 (s "high")) (.v 4 (s "good")))))) [.ret (.bl false)] []
def s_law_k21_5_2 (ν : Nat → Nat) : Sm := .asg (.tp [(12, (s "other")), (13, (s "buyers"))]) (.call (s "floor") (ν 53) [(.v 2 (s "market")), (.v 4 (s "good"))])
def s_law_k21_5_3 (ν : Nat → Nat) : Sm := .iff (.or (.cmp .notin (.v 12 (s "other")) (.v 3 (s "best"))) (.cmp .ne (.call (s "_law_floor") (ν 105) [(.v 2 (s "market")), (.v 12 (s "other")), (.v 4 (s "good")), (.v 13 (s "buyers"))]) (.idx (.v 7 (s "low")) (.v 4 (s "good"))))) [.ret (.bl false)] []
def s_law_k21_5_4 (ν : Nat → Nat) : Sm := .iff (.cmp .isnot (.call (s "is_ceiling") (ν 57) [(.v 2 (s "market")), (.v 4 (s "good")), (.tup [(.v 10 (s "assignment")), (.v 11 (s "goods"))])]) (.bl true)) [.ret (.bl false)] []
def s_law_k21_5_5 (ν : Nat → Nat) : Sm := .iff (.cmp .isnot (.call (s "is_floor") (ν 58) [(.v 2 (s "market")), (.v 4 (s "good")), (.tup [(.v 12 (s "other")), (.v 13 (s "buyers"))])]) (.bl true)) [.ret (.bl false)] []
def s_law_k21_5_6_0 (ν : Nat → Nat) : Sm := .asg (.nm 14 (s "row")) (.call (s "_law_pick") (ν 76) [(.v 0 (s "script")), (.v 1 (s "town")), (.v 3 (s "best"))])
def s_law_k21_5_6_1 (ν : Nat → Nat) : Sm := .asg (.nm 15 (s "bound")) (.call (s "_law_ceiling") (ν 104) [(.v 2 (s "market")), (.v 14 (s "row")), (.call (s "_law_some") (ν 106) [(.v 0 (s "script")), (.v 1 (s "town")), (.tup [(.v 4 (s "good"))]), (.v 6 (s "size"))])])
def s_law_k21_5_6_2 (ν : Nat → Nat) : Sm := .iff (.and (.cmp .isnot (.v 15 (s "bound")) .non) (.cmp .lt (.v 15 (s "bound")) (.idx (.v 8 (s "high")) (.v 4 (s "good"))))) [.ret (.bl false)] []
def s_law_k21_5_6_3 (ν : Nat → Nat) : Sm := .asg (.nm 15 (s "bound")) (.call (s "_law_floor") (ν 105) [(.v 2 (s "market")), (.v 14 (s "row")), (.v 4 (s "good")), (.call (s "_law_some") (ν 106) [(.v 0 (s "script")), (.v 1 (s "town")), (.tup []), (.v 5 (s "many"))])])
def s_law_k21_5_6_4 (ν : Nat → Nat) : Sm := .iff (.and (.cmp .isnot (.v 15 (s "bound")) .non) (.cmp .gt (.v 15 (s "bound")) (.idx (.v 7 (s "low")) (.v 4 (s "good"))))) [.ret (.bl false)] []
def s_law_k21_5_6 (ν : Nat → Nat) : Sm := .for_ (.nm 9 (s "k")) (.rng none (.int 5)) [s_law_k21_5_6_0 ν, s_law_k21_5_6_1 ν, s_law_k21_5_6_2 ν, s_law_k21_5_6_3 ν, s_law_k21_5_6_4 ν]
def s_law_k21_5 (ν : Nat → Nat) : Sm := .for_ (.nm 4 (s "good")) (.rng none (.v 6 (s "size"))) [s_law_k21_5_0 ν, s_law_k21_5_1 ν, s_law_k21_5_2 ν, s_law_k21_5_3 ν, s_law_k21_5_4 ν, s_law_k21_5_5 ν, s_law_k21_5_6 ν]
def s_law_k21_6 (ν : Nat → Nat) : Sm := .ret (.bl true)
@[reducible] def n_law_k21 (script_ : Option D := none) (town_ : Option D := none) (market_ : Option D := none) (best_ : Option D := none) (good_ : Option D := none) (many_ : Option D := none) (size_ : Option D := none) (low_ : Option D := none) (high_ : Option D := none) (k_ : Option D := none) (assignment_ : Option D := none) (goods_ : Option D := none) (other_ : Option D := none) (buyers_ : Option D := none) (row_ : Option D := none) (bound_ : Option D := none) : Env := [script_, town_, market_, best_, good_, many_, size_, low_, high_, k_, assignment_, goods_, other_, buyers_, row_, bound_]
def d_law_k21 (ν : Nat → Nat) : Fd := ⟨(s "law"), 1, [s "script", s "town", s "market", s "best", s "good", s "many", s "size", s "low", s "high", s "k", s "assignment", s "goods", s "other", s "buyers", s "row", s "bound"], 1, [s_law_k21_0 ν, s_law_k21_1 ν, s_law_k21_2 ν, s_law_k21_3 ν, s_law_k21_4 ν, s_law_k21_5 ν, s_law_k21_6 ν], false⟩
/-- 108: _law_is_ceiling (k22) -/
def s__law_is_ceiling_0 (ν : Nat → Nat) : Sm := .iff (.or (.cmp .notin (.v 2 (s "assignment")) (.call (s "_law_best") (ν 87) [(.v 0 (s "market"))])) (.or (.cmp .ne (.sl (.v 3 (s "goods")) none (some (.int 1))) (.tup [(.v 1 (s "good"))])) (.cmp .lt (.bi .lenset (.v 3 (s "goods"))) (.bi .len (.v 3 (s "goods")))))) [.ret (.bl false)] []
def s__law_is_ceiling_1 (ν : Nat → Nat) : Sm := .iff (.cmp .ne (.lc [((s "one"), 8)] (.nm 8 (s "one")) (.seq (.sl (.v 3 (s "goods")) none (some (.neg (.int 1))))) (some (.cmp .notin (.v 8 (s "one")) (.v 2 (s "assignment")))) (.v 8 (s "one"))) (.lst [])) [.ret (.bl false)] []
def s__law_is_ceiling_2 (ν : Nat → Nat) : Sm := .asg (.nm 5 (s "found")) (.int 0)
def s__law_is_ceiling_3_0_0 (ν : Nat → Nat) : Sm := .asg (.nm 7 (s "row")) (.idx (.v 0 (s "market")) (.index (.v 2 (s "assignment")) (.idx (.v 3 (s "goods")) (.v 6 (s "k")))))
def s__law_is_ceiling_3_0_1 (ν : Nat → Nat) : Sm := .asg (.nm 5 (s "found")) (.bin .sub (.bin .add (.v 5 (s "found")) (.idx (.v 7 (s "row")) (.idx (.v 3 (s "goods")) (.v 6 (s "k"))))) (.ite (.cmp .lt (.bin .add (.v 6 (s "k")) (.int 1)) (.bi .len (.v 3 (s "goods")))) (.idx (.v 7 (s "row")) (.idx (.v 3 (s "goods")) (.bin .add (.v 6 (s "k")) (.int 1)))) (.int 0)))
def s__law_is_ceiling_3_0 (ν : Nat → Nat) : Sm := .iff (.cmp .in_ (.idx (.v 3 (s "goods")) (.v 6 (s "k"))) (.v 2 (s "assignment"))) [s__law_is_ceiling_3_0_0 ν, s__law_is_ceiling_3_0_1 ν] []
def s__law_is_ceiling_3 (ν : Nat → Nat) : Sm := .for_ (.nm 6 (s "k")) (.rng none (.bi .len (.v 3 (s "goods")))) [s__law_is_ceiling_3_0 ν]
def s__law_is_ceiling_4 (ν : Nat → Nat) : Sm := .ret (.cmp .eq (.v 5 (s "found")) (.v 4 (s "due")))
@[reducible] def n__law_is_ceiling (market_ : Option D := none) (good_ : Option D := none) (assignment_ : Option D := none) (goods_ : Option D := none) (due_ : Option D := none) (found_ : Option D := none) (k_ : Option D := none) (row_ : Option D := none) (one_ : Option D := none) : Env := [market_, good_, assignment_, goods_, due_, found_, k_, row_, one_]
def d__law_is_ceiling (ν : Nat → Nat) : Fd := ⟨(s "_law_is_ceiling"), 5, [s "market", s "good", s "assignment", s "goods", s "due", s "found", s "k", s "row", s "one"], 0, [s__law_is_ceiling_0 ν, s__law_is_ceiling_1 ν, s__law_is_ceiling_2 ν, s__law_is_ceiling_3 ν, s__law_is_ceiling_4 ν], false⟩
/-- 109: _law_is_floor (k22) -/
def s__law_is_floor_0 (ν : Nat → Nat) : Sm := .iff (.or (.cmp .notin (.v 2 (s "assignment")) (.call (s "_law_best") (ν 87) [(.v 0 (s "market"))])) (.cmp .lt (.bi .lenset (.v 3 (s "buyers"))) (.bi .len (.v 3 (s "buyers"))))) [.ret (.bl false)] []
def s__law_is_floor_1 (ν : Nat → Nat) : Sm := .asg (.nm 5 (s "got")) (.lc [((s "buyer"), 9)] (.nm 9 (s "buyer")) (.seq (.v 3 (s "buyers"))) none (.idx (.v 2 (s "assignment")) (.v 9 (s "buyer"))))
def s__law_is_floor_2 (ν : Nat → Nat) : Sm := .iff (.or (.cmp .in_ (.v 1 (s "good")) (.v 5 (s "got"))) (.cmp .in_ (.neg (.int 1)) (.sl (.v 5 (s "got")) none (some (.neg (.int 1)))))) [.ret (.bl false)] []
def s__law_is_floor_3 (ν : Nat → Nat) : Sm := .asg (.nm 6 (s "found")) (.int 0)
def s__law_is_floor_4_0 (ν : Nat → Nat) : Sm := .asg (.nm 8 (s "row")) (.idx (.v 0 (s "market")) (.idx (.v 3 (s "buyers")) (.v 7 (s "k"))))
def s__law_is_floor_4_1 (ν : Nat → Nat) : Sm := .asg (.nm 6 (s "found")) (.bin .sub (.bin .add (.v 6 (s "found")) (.idx (.v 8 (s "row")) (.ite (.cmp .eq (.v 7 (s "k")) (.int 0)) (.v 1 (s "good")) (.idx (.v 5 (s "got")) (.bin .sub (.v 7 (s "k")) (.int 1)))))) (.ite (.cmp .ge (.idx (.v 5 (s "got")) (.v 7 (s "k"))) (.int 0)) (.idx (.v 8 (s "row")) (.idx (.v 5 (s "got")) (.v 7 (s "k")))) (.int 0)))
def s__law_is_floor_4 (ν : Nat → Nat) : Sm := .for_ (.nm 7 (s "k")) (.rng none (.bi .len (.v 3 (s "buyers")))) [s__law_is_floor_4_0 ν, s__law_is_floor_4_1 ν]
def s__law_is_floor_5 (ν : Nat → Nat) : Sm := .ret (.cmp .eq (.v 6 (s "found")) (.v 4 (s "due")))
@[reducible] def n__law_is_floor (market_ : Option D := none) (good_ : Option D := none) (assignment_ : Option D := none) (buyers_ : Option D := none) (due_ : Option D := none) (got_ : Option D := none) (found_ : Option D := none) (k_ : Option D := none) (row_ : Option D := none) (buyer_ : Option D := none) : Env := [market_, good_, assignment_, buyers_, due_, got_, found_, k_, row_, buyer_]
def d__law_is_floor (ν : Nat → Nat) : Fd := ⟨(s "_law_is_floor"), 5, [s "market", s "good", s "assignment", s "buyers", s "due", s "got", s "found", s "k", s "row", s "buyer"], 0, [s__law_is_floor_0 ν, s__law_is_floor_1 ν, s__law_is_floor_2 ν, s__law_is_floor_3 ν, s__law_is_floor_4 ν, s__law_is_floor_5 ν], false⟩
/-- 110: law (k22) -/
def s_law_k22_0 (ν : Nat → Nat) : Sm := .new 1 (s "town") 0 (.call (s "_law_town") (ν 74) [(.v 0 (s "script"))])
def s_law_k22_1 (ν : Nat → Nat) : Sm := .asg (.nm 2 (s "market")) (.call (s "_law_market") (ν 80) [(.v 0 (s "script")), (.v 1 (s "town")), (.int 4), (.int 4)])
def s_law_k22_2 (ν : Nat → Nat) : Sm := .asg (.tp [(8, (s "many")), (9, (s "size"))]) (.tup [(.bi .len (.v 2 (s "market"))), (.bi .len (.idx (.v 2 (s "market")) (.int 0)))])
def s_law_k22_3 (ν : Nat → Nat) : Sm := .asg (.nm 3 (s "good")) (.call (s "_law_draw") (ν 75) [(.v 0 (s "script")), (.v 1 (s "town")), (.v 9 (s "size"))])
def s_law_k22_4 (ν : Nat → Nat) : Sm := .par [(10, (s "low")), (11, (s "high"))] [(.idx (.call (s "least_prices") (ν 46) [(.v 2 (s "market"))]) (.v 3 (s "good"))), (.idx (.call (s "greatest_prices") (ν 47) [(.v 2 (s "market"))]) (.v 3 (s "good")))]
def s_law_k22_5 (ν : Nat → Nat) : Sm := .asg (.nm 4 (s "rows")) (.call (s "_law_assignments") (ν 85) [(.v 2 (s "market"))])
def s_law_k22_6_0 (ν : Nat → Nat) : Sm := .asg (.nm 12 (s "assignment")) (.ite (.cmp .lt (.v 5 (s "k")) (.int 8)) (.call (s "_law_pick") (ν 76) [(.v 0 (s "script")), (.v 1 (s "town")), (.call (s "_law_best") (ν 87) [(.v 2 (s "market"))])]) (.call (s "_law_pick") (ν 76) [(.v 0 (s "script")), (.v 1 (s "town")), (.v 4 (s "rows"))]))
def s_law_k22_6_1 (ν : Nat → Nat) : Sm := .asg (.nm 13 (s "goods")) (.bin .add (.tup [(.v 3 (s "good"))]) (.bi .tuple (.lc [((s "j"), 17)] (.nm 17 (s "j")) (.rng none (.call (s "_law_draw") (ν 75) [(.v 0 (s "script")), (.v 1 (s "town")), (.int 4)])) none (.call (s "_law_draw") (ν 75) [(.v 0 (s "script")), (.v 1 (s "town")), (.v 9 (s "size"))]))))
def s_law_k22_6_2 (ν : Nat → Nat) : Sm := .asg (.nm 14 (s "due")) (.call (s "_law_is_ceiling") (ν 108) [(.v 2 (s "market")), (.v 3 (s "good")), (.v 12 (s "assignment")), (.v 13 (s "goods")), (.v 11 (s "high"))])
def s_law_k22_6_3 (ν : Nat → Nat) : Sm := .iff (.cmp .ne (.call (s "is_ceiling") (ν 57) [(.v 2 (s "market")), (.v 3 (s "good")), (.tup [(.v 12 (s "assignment")), (.v 13 (s "goods"))])]) (.v 14 (s "due"))) [.ret (.bl false)] []
def s_law_k22_6_4 (ν : Nat → Nat) : Sm := .asg (.nm 15 (s "buyers")) (.bi .tuple (.lc [((s "j"), 17)] (.nm 17 (s "j")) (.rng none (.call (s "_law_draw") (ν 75) [(.v 0 (s "script")), (.v 1 (s "town")), (.int 4)])) none (.call (s "_law_draw") (ν 75) [(.v 0 (s "script")), (.v 1 (s "town")), (.v 8 (s "many"))])))
def s_law_k22_6_5 (ν : Nat → Nat) : Sm := .iff (.cmp .ne (.call (s "is_floor") (ν 58) [(.v 2 (s "market")), (.v 3 (s "good")), (.tup [(.v 12 (s "assignment")), (.v 15 (s "buyers"))])]) (.call (s "_law_is_floor") (ν 109) [(.v 2 (s "market")), (.v 3 (s "good")), (.v 12 (s "assignment")), (.v 15 (s "buyers")), (.v 10 (s "low"))])) [.ret (.bl false)] []
def s_law_k22_6 (ν : Nat → Nat) : Sm := .for_ (.nm 5 (s "k")) (.rng none (.int 10)) [s_law_k22_6_0 ν, s_law_k22_6_1 ν, s_law_k22_6_2 ν, s_law_k22_6_3 ν, s_law_k22_6_4 ν, s_law_k22_6_5 ν]
def s_law_k22_7 (ν : Nat → Nat) : Sm := .asg (.nm 6 (s "plain")) (.tup [(.tup [(.int 5), (.int 3)]), (.tup [(.int 4), (.int 1)])])
def s_law_k22_8 (ν : Nat → Nat) : Sm := .iff (.or (.cmp .isnot (.call (s "is_ceiling") (ν 57) [(.v 6 (s "plain")), (.int 1), (.tup [(.tup [(.int 1), (.int 0)]), (.tup [(.int 1), (.int 0)])])]) (.bl true)) (.cmp .isnot (.call (s "is_floor") (ν 58) [(.v 6 (s "plain")), (.int 0), (.tup [(.tup [(.int 1), (.int 0)]), (.tup [(.int 0)])])]) (.bl true))) [.ret (.bl false)] []
def s_law_k22_9 (ν : Nat → Nat) : Sm := .new 7 (s "bads") 1 (.lst [.non, (.int 5), (.tup []), (.tup [(.tup [(.int 1), (.int 0)])]), (.lst [(.tup [(.int 1), (.int 0)]), (.tup [(.int 1), (.int 0)])]), (.tup [(.tup [(.int 1), (.int 0)]), (.lst [(.int 1), (.int 0)])]), (.tup [(.tup [(.int 1), (.int 0)]), (.tup [(.int 0), (.int 1)])]), (.tup [(.tup [(.int 0), (.int 1)]), (.tup [(.int 1), (.int 0)])])])
def s_law_k22_10 (ν : Nat → Nat) : Sm := .app (.v 7 (s "bads")) (.tup [(.tup [(.int 1), (.int 0)]), (.tup [(.int 1)])])
def s_law_k22_11 (ν : Nat → Nat) : Sm := .new 7 (s "bads") 1 (.bin .add (.v 7 (s "bads")) (.lst [(.tup [(.tup [(.int 1), (.int 0)]), (.tup [(.int 1), (.int 0), (.int 0)])]), (.tup [(.tup [(.int 1), (.int 0)]), (.tup [])]), (.tup [(.tup [(.int 1), (.int 0)]), (.tup [(.bl true), (.int 0)])]), (.tup [(.tup [(.int 1), (.int 0)]), (.tup [(.int 1), (.int 2)])]), (.tup [(.tup [(.int 1), (.int 0)]), .non]), (.str (s "ab"))]))
def s_law_k22_12 (ν : Nat → Nat) : Sm := .iff (.cmp .ne (.lc [((s "bad"), 16)] (.nm 16 (s "bad")) (.seq (.v 7 (s "bads"))) (some (.cmp .isnot (.call (s "is_ceiling") (ν 57) [(.v 6 (s "plain")), (.int 1), (.v 16 (s "bad"))]) (.bl false))) (.v 16 (s "bad"))) (.lst [])) [.ret (.bl false)] []
def s_law_k22_13 (ν : Nat → Nat) : Sm := .new 7 (s "bads") 1 (.lst [.non, (.int 5), (.tup []), (.tup [(.tup [(.int 1), (.int 0)])]), (.lst [(.tup [(.int 1), (.int 0)]), (.tup [(.int 0)])]), (.tup [(.tup [(.int 1), (.int 0)]), (.lst [(.int 0)])]), (.tup [(.tup [(.int 1), (.int 0)]), (.tup [])]), (.tup [(.tup [(.int 1), (.int 0)]), (.tup [(.int 1)])]), (.tup [(.tup [(.int 0), (.int 1)]), (.tup [(.int 0)])]), (.str (s "ab"))])
def s_law_k22_14 (ν : Nat → Nat) : Sm := .new 7 (s "bads") 1 (.bin .add (.v 7 (s "bads")) (.lst [(.tup [(.tup [(.int 1), (.int 0)]), (.tup [(.int 0), (.int 0)])]), (.tup [(.tup [(.int 1), (.int 0)]), (.tup [(.bl false)])]), (.tup [(.tup [(.int 1), (.int 0)]), (.tup [(.int 2)])]), (.tup [(.tup [(.int 1), (.int 0)]), (.tup [(.neg (.int 1))])]), (.tup [(.tup [(.int 1), (.int 0)]), .non])]))
def s_law_k22_15 (ν : Nat → Nat) : Sm := .ret (.cmp .eq (.lc [((s "bad"), 16)] (.nm 16 (s "bad")) (.seq (.v 7 (s "bads"))) (some (.cmp .isnot (.call (s "is_floor") (ν 58) [(.v 6 (s "plain")), (.int 0), (.v 16 (s "bad"))]) (.bl false))) (.v 16 (s "bad"))) (.lst []))
@[reducible] def n_law_k22 (script_ : Option D := none) (town_ : Option D := none) (market_ : Option D := none) (good_ : Option D := none) (rows_ : Option D := none) (k_ : Option D := none) (plain_ : Option D := none) (bads_ : Option D := none) (many_ : Option D := none) (size_ : Option D := none) (low_ : Option D := none) (high_ : Option D := none) (assignment_ : Option D := none) (goods_ : Option D := none) (due_ : Option D := none) (buyers_ : Option D := none) (bad_ : Option D := none) (j_ : Option D := none) : Env := [script_, town_, market_, good_, rows_, k_, plain_, bads_, many_, size_, low_, high_, assignment_, goods_, due_, buyers_, bad_, j_]
def d_law_k22 (ν : Nat → Nat) : Fd := ⟨(s "law"), 1, [s "script", s "town", s "market", s "good", s "rows", s "k", s "plain", s "bads", s "many", s "size", s "low", s "high", s "assignment", s "goods", s "due", s "buyers", s "bad", s "j"], 2, [s_law_k22_0 ν, s_law_k22_1 ν, s_law_k22_2 ν, s_law_k22_3 ν, s_law_k22_4 ν, s_law_k22_5 ν, s_law_k22_6 ν, s_law_k22_7 ν, s_law_k22_8 ν, s_law_k22_9 ν, s_law_k22_10 ν, s_law_k22_11 ν, s_law_k22_12 ν, s_law_k22_13 ν, s_law_k22_14 ν, s_law_k22_15 ν], false⟩
/-- 112: law (k24) -/
def s_law_k24_0 (ν : Nat → Nat) : Sm := .new 1 (s "town") 0 (.call (s "_law_town") (ν 74) [(.v 0 (s "script"))])
def s_law_k24_1 (ν : Nat → Nat) : Sm := .asg (.nm 2 (s "market")) (.call (s "_law_market") (ν 80) [(.v 0 (s "script")), (.v 1 (s "town")), (.int 4), (.int 3)])
def s_law_k24_2 (ν : Nat → Nat) : Sm := .asg (.nm 2 (s "market")) (.bi .tuple (.lc [((s "row"), 17)] (.nm 17 (s "row")) (.seq (.v 2 (s "market"))) none (.bi .tuple (.lc [((s "value"), 19)] (.nm 19 (s "value")) (.seq (.v 17 (s "row"))) none (.bin .mod (.v 19 (s "value")) (.int 8))))))
def s_law_k24_3 (ν : Nat → Nat) : Sm := .asg (.tp [(9, (s "many")), (10, (s "size"))]) (.tup [(.bi .len (.v 2 (s "market"))), (.bi .len (.idx (.v 2 (s "market")) (.int 0)))])
def s_law_k24_4 (ν : Nat → Nat) : Sm := .par [(11, (s "low")), (12, (s "high"))] [(.call (s "least_prices") (ν 46) [(.v 2 (s "market"))]), (.call (s "greatest_prices") (ν 47) [(.v 2 (s "market"))])]
def s_law_k24_5 (ν : Nat → Nat) : Sm := .asg (.nm 3 (s "double")) (.bi .tuple (.lc [((s "row"), 17)] (.nm 17 (s "row")) (.seq (.v 2 (s "market"))) none (.bi .tuple (.lc [((s "value"), 19)] (.nm 19 (s "value")) (.seq (.v 17 (s "row"))) none (.bin .mul (.int 2) (.v 19 (s "value")))))))
def s_law_k24_6 (ν : Nat → Nat) : Sm := .iff (.or (.cmp .ne (.call (s "least_prices") (ν 46) [(.v 3 (s "double"))]) (.bi .tuple (.lc [((s "price"), 18)] (.nm 18 (s "price")) (.seq (.v 11 (s "low"))) none (.bin .mul (.int 2) (.v 18 (s "price")))))) (.cmp .ne (.call (s "best_total") (ν 14) [(.v 3 (s "double"))]) (.bin .mul (.int 2) (.call (s "best_total") (ν 14) [(.v 2 (s "market"))])))) [.ret (.bl false)] []
def s_law_k24_7 (ν : Nat → Nat) : Sm := .iff (.cmp .ne (.call (s "greatest_prices") (ν 47) [(.v 3 (s "double"))]) (.bi .tuple (.lc [((s "price"), 18)] (.nm 18 (s "price")) (.seq (.v 12 (s "high"))) none (.bin .mul (.int 2) (.v 18 (s "price")))))) [.ret (.bl false)] []
def s_law_k24_8 (ν : Nat → Nat) : Sm := .asg (.tp [(13, (s "one")), (14, (s "other"))]) (.tup [(.call (s "_law_draw") (ν 75) [(.v 0 (s "script")), (.v 1 (s "town")), (.v 10 (s "size"))]), (.call (s "_law_draw") (ν 75) [(.v 0 (s "script")), (.v 1 (s "town")), (.v 10 (s "size"))])])
def s_law_k24_9 (ν : Nat → Nat) : Sm := .asg (.tp [(15, (s "least")), (16, (s "most"))]) (.call (s "difference_range") (ν 49) [(.v 2 (s "market")), (.v 13 (s "one")), (.v 14 (s "other"))])
def s_law_k24_10 (ν : Nat → Nat) : Sm := .iff (.cmp .ne (.call (s "difference_range") (ν 49) [(.v 3 (s "double")), (.v 13 (s "one")), (.v 14 (s "other"))]) (.tup [(.bin .mul (.int 2) (.v 15 (s "least"))), (.bin .mul (.int 2) (.v 16 (s "most")))])) [.ret (.bl false)] []
def s_law_k24_11 (ν : Nat → Nat) : Sm := .iff (.or (.cmp .ne (.call (s "difference_range") (ν 49) [(.v 2 (s "market")), (.v 14 (s "other")), (.v 13 (s "one"))]) (.tup [(.neg (.v 16 (s "most"))), (.neg (.v 15 (s "least")))])) (.cmp .ne (.call (s "difference_range") (ν 49) [(.v 2 (s "market")), (.v 13 (s "one")), (.v 13 (s "one"))]) (.tup [(.int 0), (.int 0)]))) [.ret (.bl false)] []
def s_law_k24_12 (ν : Nat → Nat) : Sm := .asg (.nm 4 (s "twice")) (.call (s "with_good") (ν 70) [(.v 2 (s "market")), (.bi .tuple (.lc [((s "row"), 17)] (.nm 17 (s "row")) (.seq (.v 2 (s "market"))) none (.idx (.v 17 (s "row")) (.v 13 (s "one")))))])
def s_law_k24_13 (ν : Nat → Nat) : Sm := .iff (.cmp .ne (.call (s "difference_range") (ν 49) [(.v 4 (s "twice")), (.v 13 (s "one")), (.v 10 (s "size"))]) (.tup [(.int 0), (.int 0)])) [.ret (.bl false)] []
def s_law_k24_14 (ν : Nat → Nat) : Sm := .asg (.nm 5 (s "empty")) (.call (s "with_good") (ν 70) [(.v 2 (s "market")), (.bin .mul (.tup [(.int 0)]) (.v 9 (s "many")))])
def s_law_k24_15 (ν : Nat → Nat) : Sm := .iff (.or (.cmp .ne (.call (s "greatest_prices") (ν 47) [(.v 5 (s "empty"))]) (.bin .add (.v 12 (s "high")) (.tup [(.int 0)]))) (.cmp .ne (.call (s "least_prices") (ν 46) [(.v 5 (s "empty"))]) (.bin .add (.v 11 (s "low")) (.tup [(.int 0)])))) [.ret (.bl false)] []
def s_law_k24_16 (ν : Nat → Nat) : Sm := .asg (.nm 6 (s "more")) (.bin .add (.int 1) (.call (s "_law_draw") (ν 75) [(.v 0 (s "script")), (.v 1 (s "town")), (.int 9)]))
def s_law_k24_17 (ν : Nat → Nat) : Sm := .asg (.nm 7 (s "raised")) (.bi .tuple (.lc [((s "row"), 17)] (.nm 17 (s "row")) (.seq (.v 2 (s "market"))) none (.bi .tuple (.lc [((s "good"), 20)] (.nm 20 (s "good")) (.rng none (.v 10 (s "size"))) none (.bin .add (.idx (.v 17 (s "row")) (.v 20 (s "good"))) (.v 6 (s "more")))))))
def s_law_k24_18_0 (ν : Nat → Nat) : Sm := .ret (.cmp .le (.idx (.call (s "greatest_prices") (ν 47) [(.v 7 (s "raised"))]) (.v 13 (s "one"))) (.bin .add (.idx (.v 12 (s "high")) (.v 13 (s "one"))) (.v 6 (s "more"))))
def s_law_k24_18 (ν : Nat → Nat) : Sm := .iff (.cmp .lt (.v 9 (s "many")) (.v 10 (s "size"))) [s_law_k24_18_0 ν] []
def s_law_k24_19 (ν : Nat → Nat) : Sm := .asg (.nm 8 (s "best")) (.cmp .eq (.call (s "best_total") (ν 14) [(.v 7 (s "raised"))]) (.bin .add (.call (s "best_total") (ν 14) [(.v 2 (s "market"))]) (.bin .mul (.v 6 (s "more")) (.v 10 (s "size")))))
def s_law_k24_20 (ν : Nat → Nat) : Sm := .iff (.not (.v 8 (s "best"))) [.ret (.bl false)] []
def s_law_k24_21 (ν : Nat → Nat) : Sm := .ret (.or (.cmp .eq (.v 9 (s "many")) (.v 10 (s "size"))) (.cmp .eq (.call (s "least_prices") (ν 46) [(.v 7 (s "raised"))]) (.bi .tuple (.lc [((s "price"), 18)] (.nm 18 (s "price")) (.seq (.v 11 (s "low"))) none (.bin .add (.v 18 (s "price")) (.v 6 (s "more")))))))
@[reducible] def n_law_k24 (script_ : Option D := none) (town_ : Option D := none) (market_ : Option D := none) (double_ : Option D := none) (twice_ : Option D := none) (empty_ : Option D := none) (more_ : Option D := none) (raised_ : Option D := none) (best_ : Option D := none) (many_ : Option D := none) (size_ : Option D := none) (low_ : Option D := none) (high_ : Option D := none) (one_ : Option D := none) (other_ : Option D := none) (least_ : Option D := none) (most_ : Option D := none) (row_ : Option D := none) (price_ : Option D := none) (value_ : Option D := none) (good_ : Option D := none) : Env := [script_, town_, market_, double_, twice_, empty_, more_, raised_, best_, many_, size_, low_, high_, one_, other_, least_, most_, row_, price_, value_, good_]
def d_law_k24 (ν : Nat → Nat) : Fd := ⟨(s "law"), 1, [s "script", s "town", s "market", s "double", s "twice", s "empty", s "more", s "raised", s "best", s "many", s "size", s "low", s "high", s "one", s "other", s "least", s "most", s "row", s "price", s "value", s "good"], 1, [s_law_k24_0 ν, s_law_k24_1 ν, s_law_k24_2 ν, s_law_k24_3 ν, s_law_k24_4 ν, s_law_k24_5 ν, s_law_k24_6 ν, s_law_k24_7 ν, s_law_k24_8 ν, s_law_k24_9 ν, s_law_k24_10 ν, s_law_k24_11 ν, s_law_k24_12 ν, s_law_k24_13 ν, s_law_k24_14 ν, s_law_k24_15 ν, s_law_k24_16 ν, s_law_k24_17 ν, s_law_k24_18 ν, s_law_k24_19 ν, s_law_k24_20 ν, s_law_k24_21 ν], false⟩
/-- 113: _law_moved (k30) -/
def s__law_moved_0 (ν : Nat → Nat) : Sm := .ret (.bi .tuple (.lc [((s "good"), 3)] (.nm 3 (s "good")) (.rng none (.bi .len (.v 0 (s "costs")))) none (.bin .add (.idx (.v 0 (s "costs")) (.v 3 (s "good"))) (.bin .mul (.v 2 (s "step")) (.bi .int (.cmp .in_ (.v 3 (s "good")) (.v 1 (s "some"))))))))
@[reducible] def n__law_moved (costs_ : Option D := none) (some_ : Option D := none) (step_ : Option D := none) (good_ : Option D := none) : Env := [costs_, some_, step_, good_]
def d__law_moved (ν : Nat → Nat) : Fd := ⟨(s "_law_moved"), 3, [s "costs", s "some", s "step", s "good"], 0, [s__law_moved_0 ν], false⟩
/-- 114: law (k30) -/
def s_law_k30_0 (ν : Nat → Nat) : Sm := .new 1 (s "town") 0 (.call (s "_law_town") (ν 74) [(.v 0 (s "script"))])
def s_law_k30_1 (ν : Nat → Nat) : Sm := .asg (.nm 2 (s "market")) (.call (s "_law_market") (ν 80) [(.v 0 (s "script")), (.v 1 (s "town")), (.int 5), (.int 4)])
def s_law_k30_2 (ν : Nat → Nat) : Sm := .asg (.nm 3 (s "size")) (.bi .len (.idx (.v 2 (s "market")) (.int 0)))
def s_law_k30_3 (ν : Nat → Nat) : Sm := .asg (.tp [(5, (s "up")), (6, (s "down"))]) (.tup [(.call (s "rising") (ν 60) [(.v 2 (s "market"))]), (.call (s "falling") (ν 61) [(.v 2 (s "market"))])])
def s_law_k30_4 (ν : Nat → Nat) : Sm := .asg (.tp [(7, (s "low")), (8, (s "high"))]) (.tup [(.call (s "least_prices") (ν 46) [(.v 2 (s "market"))]), (.call (s "greatest_prices") (ν 47) [(.v 2 (s "market"))])])
def s_law_k30_5 (ν : Nat → Nat) : Sm := .iff (.or (.cmp .ne (.idx (.v 5 (s "up")) (.int 0)) (.bin .mul (.tup [(.int 0)]) (.v 3 (s "size")))) (.or (.cmp .ne (.idx (.v 6 (s "down")) (.int 0)) (.bin .mul (.tup [(.int 21)]) (.v 3 (s "size")))) (.or (.cmp .ne (.idx (.v 5 (s "up")) (.neg (.int 1))) (.v 7 (s "low"))) (.cmp .ne (.idx (.v 6 (s "down")) (.neg (.int 1))) (.v 8 (s "high")))))) [.ret (.bl false)] []
def s_law_k30_6_0 (ν : Nat → Nat) : Sm := .asg (.nm 9 (s "some")) (.call (s "crowd") (ν 37) [(.v 2 (s "market")), (.idx (.v 5 (s "up")) (.v 4 (s "k")))])
def s_law_k30_6_1 (ν : Nat → Nat) : Sm := .iff (.or (.cmp .is (.v 9 (s "some")) .non) (.cmp .ne (.idx (.v 5 (s "up")) (.bin .add (.v 4 (s "k")) (.int 1))) (.call (s "_law_moved") (ν 113) [(.idx (.v 5 (s "up")) (.v 4 (s "k"))), (.v 9 (s "some")), (.int 1)]))) [.ret (.bl false)] []
def s_law_k30_6_2 (ν : Nat → Nat) : Sm := .iff (.cmp .ne (.lc [((s "good"), 10)] (.nm 10 (s "good")) (.rng none (.v 3 (s "size"))) (some (.cmp .gt (.idx (.idx (.v 5 (s "up")) (.v 4 (s "k"))) (.v 10 (s "good"))) (.idx (.v 7 (s "low")) (.v 10 (s "good"))))) (.v 10 (s "good"))) (.lst [])) [.ret (.bl false)] []
def s_law_k30_6 (ν : Nat → Nat) : Sm := .for_ (.nm 4 (s "k")) (.rng none (.bin .sub (.bi .len (.v 5 (s "up"))) (.int 1))) [s_law_k30_6_0 ν, s_law_k30_6_1 ν, s_law_k30_6_2 ν]
def s_law_k30_7_0 (ν : Nat → Nat) : Sm := .asg (.nm 9 (s "some")) (.call (s "glut") (ν 38) [(.v 2 (s "market")), (.idx (.v 6 (s "down")) (.v 4 (s "k")))])
def s_law_k30_7_1 (ν : Nat → Nat) : Sm := .iff (.or (.cmp .is (.v 9 (s "some")) .non) (.cmp .ne (.idx (.v 6 (s "down")) (.bin .add (.v 4 (s "k")) (.int 1))) (.call (s "_law_moved") (ν 113) [(.idx (.v 6 (s "down")) (.v 4 (s "k"))), (.v 9 (s "some")), (.neg (.int 1))]))) [.ret (.bl false)] []
def s_law_k30_7_2 (ν : Nat → Nat) : Sm := .iff (.cmp .ne (.lc [((s "good"), 10)] (.nm 10 (s "good")) (.rng none (.v 3 (s "size"))) (some (.cmp .lt (.idx (.idx (.v 6 (s "down")) (.v 4 (s "k"))) (.v 10 (s "good"))) (.idx (.v 8 (s "high")) (.v 10 (s "good"))))) (.v 10 (s "good"))) (.lst [])) [.ret (.bl false)] []
def s_law_k30_7 (ν : Nat → Nat) : Sm := .for_ (.nm 4 (s "k")) (.rng none (.bin .sub (.bi .len (.v 6 (s "down"))) (.int 1))) [s_law_k30_7_0 ν, s_law_k30_7_1 ν, s_law_k30_7_2 ν]
def s_law_k30_8 (ν : Nat → Nat) : Sm := .iff (.or (.cmp .isnot (.call (s "crowd") (ν 37) [(.v 2 (s "market")), (.v 7 (s "low"))]) .non) (.cmp .isnot (.call (s "glut") (ν 38) [(.v 2 (s "market")), (.v 8 (s "high"))]) .non)) [.ret (.bl false)] []
def s_law_k30_9 (ν : Nat → Nat) : Sm := .ret (.and (.call (s "_law_is_stable") (ν 95) [(.v 2 (s "market")), (.idx (.v 5 (s "up")) (.neg (.int 1)))]) (.call (s "_law_is_stable") (ν 95) [(.v 2 (s "market")), (.idx (.v 6 (s "down")) (.neg (.int 1)))]))
@[reducible] def n_law_k30 (script_ : Option D := none) (town_ : Option D := none) (market_ : Option D := none) (size_ : Option D := none) (k_ : Option D := none) (up_ : Option D := none) (down_ : Option D := none) (low_ : Option D := none) (high_ : Option D := none) (some_ : Option D := none) (good_ : Option D := none) : Env := [script_, town_, market_, size_, k_, up_, down_, low_, high_, some_, good_]
def d_law_k30 (ν : Nat → Nat) : Fd := ⟨(s "law"), 1, [s "script", s "town", s "market", s "size", s "k", s "up", s "down", s "low", s "high", s "some", s "good"], 1, [s_law_k30_0 ν, s_law_k30_1 ν, s_law_k30_2 ν, s_law_k30_3 ν, s_law_k30_4 ν, s_law_k30_5 ν, s_law_k30_6 ν, s_law_k30_7 ν, s_law_k30_8 ν, s_law_k30_9 ν], false⟩
/-- 115: _law_true_gain (k40) -/
def s__law_true_gain_0 (ν : Nat → Nat) : Sm := .asg (.nm 3 (s "good")) (.idx (.idx (.call (s "_law_best") (ν 87) [(.v 0 (s "market"))]) (.int 0)) (.v 1 (s "buyer")))
def s__law_true_gain_1 (ν : Nat → Nat) : Sm := .ret (.ite (.cmp .ge (.v 3 (s "good")) (.int 0)) (.bin .sub (.idx (.v 2 (s "row")) (.v 3 (s "good"))) (.idx (.call (s "least_prices") (ν 46) [(.v 0 (s "market"))]) (.v 3 (s "good")))) (.int 0))
@[reducible] def n__law_true_gain (market_ : Option D := none) (buyer_ : Option D := none) (row_ : Option D := none) (good_ : Option D := none) : Env := [market_, buyer_, row_, good_]
def d__law_true_gain (ν : Nat → Nat) : Fd := ⟨(s "_law_true_gain"), 3, [s "market", s "buyer", s "row", s "good"], 0, [s__law_true_gain_0 ν, s__law_true_gain_1 ν], false⟩
/-- 116: _law_at_most (k40) -/
def s__law_at_most_0 (ν : Nat → Nat) : Sm := .ret (.cmp .eq (.lc [((s "k"), 2)] (.nm 2 (s "k")) (.rng none (.bi .len (.v 0 (s "one")))) (some (.cmp .gt (.idx (.v 0 (s "one")) (.v 2 (s "k"))) (.idx (.v 1 (s "other")) (.v 2 (s "k"))))) (.v 2 (s "k"))) (.lst []))
@[reducible] def n__law_at_most (one_ : Option D := none) (other_ : Option D := none) (k_ : Option D := none) : Env := [one_, other_, k_]
def d__law_at_most (ν : Nat → Nat) : Fd := ⟨(s "_law_at_most"), 2, [s "one", s "other", s "k"], 0, [s__law_at_most_0 ν], false⟩
/-- 117: _law_newcomers_are_right (k40) -/
def s__law_newcomers_are_right_0 (ν : Nat → Nat) : Sm := .par [(7, (s "many")), (8, (s "size"))] [(.bi .len (.v 2 (s "market"))), (.bi .len (.idx (.v 2 (s "market")) (.int 0)))]
def s__law_newcomers_are_right_1 (ν : Nat → Nat) : Sm := .asg (.nm 5 (s "more")) (.call (s "with_buyer") (ν 68) [(.v 2 (s "market")), (.bi .tuple (.lc [((s "good"), 12)] (.nm 12 (s "good")) (.rng none (.v 8 (s "size"))) none (.call (s "_law_draw") (ν 75) [(.v 0 (s "script")), (.v 1 (s "town")), (.int 15)])))])
def s__law_newcomers_are_right_2_0 (ν : Nat → Nat) : Sm := .asg (.nm 11 (s "later")) (.callv 10 (s "find") [(.v 5 (s "more"))])
def s__law_newcomers_are_right_2_1 (ν : Nat → Nat) : Sm := .iff (.not (.call (s "_law_at_most") (ν 116) [(.idx (.v 3 (s "ends")) (.v 9 (s "k"))), (.v 11 (s "later"))])) [.ret (.bl false)] []
def s__law_newcomers_are_right_2_2 (ν : Nat → Nat) : Sm := .iff (.not (.call (s "_law_at_most") (ν 116) [(.lc [((s "row"), 13)] (.nm 13 (s "row")) (.seq (.v 2 (s "market"))) none (.idx (.call (s "_law_top") (ν 91) [(.v 13 (s "row")), (.v 11 (s "later"))]) (.int 0))), (.idx (.v 4 (s "gains_of")) (.v 9 (s "k")))])) [.ret (.bl false)] []
def s__law_newcomers_are_right_2 (ν : Nat → Nat) : Sm := .for_ (.tp [(9, (s "k")), (10, (s "find"))]) (.enum (.tup [(.gf (s "least_prices") (ν 46)), (.gf (s "greatest_prices") (ν 47))])) [s__law_newcomers_are_right_2_0 ν, s__law_newcomers_are_right_2_1 ν, s__law_newcomers_are_right_2_2 ν]
def s__law_newcomers_are_right_3 (ν : Nat → Nat) : Sm := .asg (.nm 6 (s "wide")) (.call (s "with_good") (ν 70) [(.v 2 (s "market")), (.bi .tuple (.lc [((s "k"), 9)] (.nm 9 (s "k")) (.rng none (.v 7 (s "many"))) none (.call (s "_law_draw") (ν 75) [(.v 0 (s "script")), (.v 1 (s "town")), (.int 15)])))])
def s__law_newcomers_are_right_4_0 (ν : Nat → Nat) : Sm := .asg (.nm 11 (s "later")) (.callv 10 (s "find") [(.v 6 (s "wide"))])
def s__law_newcomers_are_right_4_1 (ν : Nat → Nat) : Sm := .iff (.not (.call (s "_law_at_most") (ν 116) [(.sl (.v 11 (s "later")) none (some (.v 8 (s "size")))), (.idx (.v 3 (s "ends")) (.v 9 (s "k")))])) [.ret (.bl false)] []
def s__law_newcomers_are_right_4_2 (ν : Nat → Nat) : Sm := .iff (.not (.call (s "_law_at_most") (ν 116) [(.idx (.v 4 (s "gains_of")) (.v 9 (s "k"))), (.lc [((s "row"), 13)] (.nm 13 (s "row")) (.seq (.v 6 (s "wide"))) none (.idx (.call (s "_law_top") (ν 91) [(.v 13 (s "row")), (.v 11 (s "later"))]) (.int 0)))])) [.ret (.bl false)] []
def s__law_newcomers_are_right_4 (ν : Nat → Nat) : Sm := .for_ (.tp [(9, (s "k")), (10, (s "find"))]) (.enum (.tup [(.gf (s "least_prices") (ν 46)), (.gf (s "greatest_prices") (ν 47))])) [s__law_newcomers_are_right_4_0 ν, s__law_newcomers_are_right_4_1 ν, s__law_newcomers_are_right_4_2 ν]
def s__law_newcomers_are_right_5 (ν : Nat → Nat) : Sm := .ret (.and (.cmp .eq (.call (s "without_buyer") (ν 67) [(.v 5 (s "more")), (.v 7 (s "many"))]) (.v 2 (s "market"))) (.cmp .eq (.call (s "without_good") (ν 69) [(.v 6 (s "wide")), (.v 8 (s "size"))]) (.v 2 (s "market"))))
@[reducible] def n__law_newcomers_are_right (script_ : Option D := none) (town_ : Option D := none) (market_ : Option D := none) (ends_ : Option D := none) (gains_of_ : Option D := none) (more_ : Option D := none) (wide_ : Option D := none) (many_ : Option D := none) (size_ : Option D := none) (k_ : Option D := none) (find_ : Option D := none) (later_ : Option D := none) (good_ : Option D := none) (row_ : Option D := none) : Env := [script_, town_, market_, ends_, gains_of_, more_, wide_, many_, size_, k_, find_, later_, good_, row_]
def d__law_newcomers_are_right (ν : Nat → Nat) : Fd := ⟨(s "_law_newcomers_are_right"), 5, [s "script", s "town", s "market", s "ends", s "gains_of", s "more", s "wide", s "many", s "size", s "k", s "find", s "later", s "good", s "row"], 0, [s__law_newcomers_are_right_0 ν, s__law_newcomers_are_right_1 ν, s__law_newcomers_are_right_2 ν, s__law_newcomers_are_right_3 ν, s__law_newcomers_are_right_4 ν, s__law_newcomers_are_right_5 ν], false⟩
/-- 118: law (k40) -/
def s_law_k40_0 (ν : Nat → Nat) : Sm := .new 1 (s "town") 0 (.call (s "_law_town") (ν 74) [(.v 0 (s "script"))])
def s_law_k40_1 (ν : Nat → Nat) : Sm := .asg (.nm 2 (s "market")) (.call (s "_law_market") (ν 80) [(.v 0 (s "script")), (.v 1 (s "town")), (.int 4), (.int 4)])
def s_law_k40_2 (ν : Nat → Nat) : Sm := .par [(7, (s "many")), (8, (s "size"))] [(.bi .len (.v 2 (s "market"))), (.bi .len (.idx (.v 2 (s "market")) (.int 0)))]
def s_law_k40_3 (ν : Nat → Nat) : Sm := .asg (.nm 3 (s "ends")) (.lst [(.call (s "least_prices") (ν 46) [(.v 2 (s "market"))]), (.call (s "greatest_prices") (ν 47) [(.v 2 (s "market"))])])
def s_law_k40_4 (ν : Nat → Nat) : Sm := .asg (.nm 4 (s "gains_of")) (.lc [((s "costs"), 14)] (.nm 14 (s "costs")) (.seq (.v 3 (s "ends"))) none (.lc [((s "row"), 11)] (.nm 11 (s "row")) (.seq (.v 2 (s "market"))) none (.idx (.call (s "_law_top") (ν 91) [(.v 11 (s "row")), (.v 14 (s "costs"))]) (.int 0))))
def s_law_k40_5_0 (ν : Nat → Nat) : Sm := .asg (.nm 9 (s "rest")) (.bin .add (.sl (.v 2 (s "market")) none (some (.v 5 (s "buyer")))) (.sl (.v 2 (s "market")) (some (.bin .add (.v 5 (s "buyer")) (.int 1))) none))
def s_law_k40_5_1 (ν : Nat → Nat) : Sm := .asg (.nm 10 (s "added")) (.bin .sub (.call (s "best_total") (ν 14) [(.v 2 (s "market"))]) (.ite (.cmp .ne (.v 9 (s "rest")) (.tup [])) (.call (s "best_total") (ν 14) [(.v 9 (s "rest"))]) (.int 0)))
def s_law_k40_5_2 (ν : Nat → Nat) : Sm := .iff (.or (.cmp .ne (.call (s "added_value") (ν 65) [(.v 2 (s "market")), (.v 5 (s "buyer"))]) (.v 10 (s "added"))) (.cmp .ne (.call (s "greatest_gain") (ν 62) [(.v 2 (s "market")), (.v 5 (s "buyer"))]) (.v 10 (s "added")))) [.ret (.bl false)] []
def s_law_k40_5_3 (ν : Nat → Nat) : Sm := .iff (.or (.cmp .ne (.idx (.idx (.v 4 (s "gains_of")) (.int 0)) (.v 5 (s "buyer"))) (.v 10 (s "added"))) (.cmp .ne (.call (s "least_gain") (ν 63) [(.v 2 (s "market")), (.v 5 (s "buyer"))]) (.idx (.idx (.v 4 (s "gains_of")) (.int 1)) (.v 5 (s "buyer"))))) [.ret (.bl false)] []
def s_law_k40_5 (ν : Nat → Nat) : Sm := .for_ (.nm 5 (s "buyer")) (.rng none (.v 7 (s "many"))) [s_law_k40_5_0 ν, s_law_k40_5_1 ν, s_law_k40_5_2 ν, s_law_k40_5_3 ν]
def s_law_k40_6 (ν : Nat → Nat) : Sm := .asg (.nm 5 (s "buyer")) (.call (s "_law_draw") (ν 75) [(.v 0 (s "script")), (.v 1 (s "town")), (.v 7 (s "many"))])
def s_law_k40_7_0 (ν : Nat → Nat) : Sm := .asg (.nm 11 (s "row")) (.bi .tuple (.lc [((s "good"), 15)] (.nm 15 (s "good")) (.rng none (.v 8 (s "size"))) none (.call (s "_law_draw") (ν 75) [(.v 0 (s "script")), (.v 1 (s "town")), (.ite (.cmp .gt (.v 6 (s "k")) (.int 1)) (.int 21) (.int 7))])))
def s_law_k40_7_1 (ν : Nat → Nat) : Sm := .asg (.nm 12 (s "other")) (.call (s "told") (ν 66) [(.v 2 (s "market")), (.v 5 (s "buyer")), (.v 11 (s "row"))])
def s_law_k40_7_2 (ν : Nat → Nat) : Sm := .asg (.nm 13 (s "same")) (.lc [((s "k"), 6)] (.nm 6 (s "k")) (.rng none (.v 7 (s "many"))) (some (.and (.cmp .ne (.idx (.v 12 (s "other")) (.v 6 (s "k"))) (.idx (.v 2 (s "market")) (.v 6 (s "k")))) (.cmp .ne (.v 6 (s "k")) (.v 5 (s "buyer"))))) (.v 6 (s "k")))
def s_law_k40_7_3 (ν : Nat → Nat) : Sm := .iff (.or (.cmp .ne (.v 13 (s "same")) (.lst [])) (.or (.cmp .ne (.idx (.v 12 (s "other")) (.v 5 (s "buyer"))) (.v 11 (s "row"))) (.cmp .ne (.bi .len (.v 12 (s "other"))) (.v 7 (s "many"))))) [.ret (.bl false)] []
def s_law_k40_7_4 (ν : Nat → Nat) : Sm := .iff (.cmp .gt (.call (s "_law_true_gain") (ν 115) [(.v 12 (s "other")), (.v 5 (s "buyer")), (.idx (.v 2 (s "market")) (.v 5 (s "buyer")))]) (.call (s "greatest_gain") (ν 62) [(.v 2 (s "market")), (.v 5 (s "buyer"))])) [.ret (.bl false)] []
def s_law_k40_7 (ν : Nat → Nat) : Sm := .for_ (.nm 6 (s "k")) (.rng none (.int 4)) [s_law_k40_7_0 ν, s_law_k40_7_1 ν, s_law_k40_7_2 ν, s_law_k40_7_3 ν, s_law_k40_7_4 ν]
def s_law_k40_8 (ν : Nat → Nat) : Sm := .ret (.call (s "_law_newcomers_are_right") (ν 117) [(.v 0 (s "script")), (.v 1 (s "town")), (.v 2 (s "market")), (.v 3 (s "ends")), (.v 4 (s "gains_of"))])
@[reducible] def n_law_k40 (script_ : Option D := none) (town_ : Option D := none) (market_ : Option D := none) (ends_ : Option D := none) (gains_of_ : Option D := none) (buyer_ : Option D := none) (k_ : Option D := none) (many_ : Option D := none) (size_ : Option D := none) (rest_ : Option D := none) (added_ : Option D := none) (row_ : Option D := none) (other_ : Option D := none) (same_ : Option D := none) (costs_ : Option D := none) (good_ : Option D := none) : Env := [script_, town_, market_, ends_, gains_of_, buyer_, k_, many_, size_, rest_, added_, row_, other_, same_, costs_, good_]
def d_law_k40 (ν : Nat → Nat) : Fd := ⟨(s "law"), 1, [s "script", s "town", s "market", s "ends", s "gains_of", s "buyer", s "k", s "many", s "size", s "rest", s "added", s "row", s "other", s "same", s "costs", s "good"], 1, [s_law_k40_0 ν, s_law_k40_1 ν, s_law_k40_2 ν, s_law_k40_3 ν, s_law_k40_4 ν, s_law_k40_5 ν, s_law_k40_6 ν, s_law_k40_7 ν, s_law_k40_8 ν], false⟩
/-- 119: _law_turned (k42) -/
def s__law_turned_0 (ν : Nat → Nat) : Sm := .ret (.bi .tuple (.lc [((s "good"), 1)] (.nm 1 (s "good")) (.rng none (.bi .len (.idx (.v 0 (s "market")) (.int 0)))) none (.bi .tuple (.lc [((s "row"), 2)] (.nm 2 (s "row")) (.seq (.v 0 (s "market"))) none (.idx (.v 2 (s "row")) (.v 1 (s "good")))))))
@[reducible] def n__law_turned (market_ : Option D := none) (good_ : Option D := none) (row_ : Option D := none) : Env := [market_, good_, row_]
def d__law_turned (ν : Nat → Nat) : Fd := ⟨(s "_law_turned"), 1, [s "market", s "good", s "row"], 0, [s__law_turned_0 ν], false⟩
/-- 120: law (k42) -/
def s_law_k42_0 (ν : Nat → Nat) : Sm := .new 1 (s "town") 0 (.call (s "_law_town") (ν 74) [(.v 0 (s "script"))])
def s_law_k42_1 (ν : Nat → Nat) : Sm := .asg (.nm 2 (s "market")) (.call (s "_law_market") (ν 80) [(.v 0 (s "script")), (.v 1 (s "town")), (.int 5), (.int 5)])
def s_law_k42_2 (ν : Nat → Nat) : Sm := .asg (.nm 3 (s "other")) (.call (s "_law_turned") (ν 119) [(.v 2 (s "market"))])
def s_law_k42_3 (ν : Nat → Nat) : Sm := .par [(6, (s "many")), (7, (s "size"))] [(.bi .len (.v 2 (s "market"))), (.bi .len (.idx (.v 2 (s "market")) (.int 0)))]
def s_law_k42_4 (ν : Nat → Nat) : Sm := .iff (.or (.cmp .ne (.call (s "best_total") (ν 14) [(.v 3 (s "other"))]) (.call (s "best_total") (ν 14) [(.v 2 (s "market"))])) (.cmp .ne (.call (s "_law_turned") (ν 119) [(.v 3 (s "other"))]) (.v 2 (s "market")))) [.ret (.bl false)] []
def s_law_k42_5 (ν : Nat → Nat) : Sm := .asg (.tp [(8, (s "high")), (9, (s "low"))]) (.tup [(.lc [((s "k"), 10)] (.nm 10 (s "k")) (.rng none (.v 6 (s "many"))) none (.call (s "greatest_gain") (ν 62) [(.v 2 (s "market")), (.v 10 (s "k"))])), (.lc [((s "k"), 10)] (.nm 10 (s "k")) (.rng none (.v 6 (s "many"))) none (.call (s "least_gain") (ν 63) [(.v 2 (s "market")), (.v 10 (s "k"))]))])
def s_law_k42_6 (ν : Nat → Nat) : Sm := .iff (.or (.cmp .ne (.call (s "greatest_prices") (ν 47) [(.v 3 (s "other"))]) (.bi .tuple (.v 8 (s "high")))) (.cmp .ne (.call (s "least_prices") (ν 46) [(.v 3 (s "other"))]) (.bi .tuple (.v 9 (s "low"))))) [.ret (.bl false)] []
def s_law_k42_7 (ν : Nat → Nat) : Sm := .iff (.cmp .ne (.call (s "greatest_prices") (ν 47) [(.v 2 (s "market"))]) (.bi .tuple (.lc [((s "good"), 11)] (.nm 11 (s "good")) (.rng none (.v 7 (s "size"))) none (.call (s "greatest_gain") (ν 62) [(.v 3 (s "other")), (.v 11 (s "good"))])))) [.ret (.bl false)] []
def s_law_k42_8 (ν : Nat → Nat) : Sm := .iff (.cmp .ne (.call (s "least_prices") (ν 46) [(.v 2 (s "market"))]) (.bi .tuple (.lc [((s "good"), 11)] (.nm 11 (s "good")) (.rng none (.v 7 (s "size"))) none (.call (s "least_gain") (ν 63) [(.v 3 (s "other")), (.v 11 (s "good"))])))) [.ret (.bl false)] []
def s_law_k42_9 (ν : Nat → Nat) : Sm := .iff (.cmp .ne (.lc [((s "k"), 10)] (.nm 10 (s "k")) (.rng none (.v 6 (s "many"))) (some (.cmp .gt (.idx (.v 9 (s "low")) (.v 10 (s "k"))) (.idx (.v 8 (s "high")) (.v 10 (s "k"))))) (.v 10 (s "k"))) (.lst [])) [.ret (.bl false)] []
def s_law_k42_10 (ν : Nat → Nat) : Sm := .asg (.nm 4 (s "pairs")) (.lc [((s "good"), 11), ((s "buyer"), 12)] (.tp [(11, (s "good")), (12, (s "buyer"))]) (.seq (.call (s "possible_pairs") (ν 19) [(.v 3 (s "other"))])) none (.tup [(.v 12 (s "buyer")), (.v 11 (s "good"))]))
def s_law_k42_11 (ν : Nat → Nat) : Sm := .iff (.or (.cmp .ne (.bi .tuple (.bi .sorted (.v 4 (s "pairs")))) (.call (s "possible_pairs") (ν 19) [(.v 2 (s "market"))])) (.cmp .ne (.bi .len (.call (s "sure_pairs") (ν 18) [(.v 3 (s "other"))])) (.bi .len (.call (s "sure_pairs") (ν 18) [(.v 2 (s "market"))])))) [.ret (.bl false)] []
def s_law_k42_12 (ν : Nat → Nat) : Sm := .iff (.cmp .ne (.bi .len (.call (s "best_assignments") (ν 15) [(.v 3 (s "other"))])) (.bi .len (.call (s "best_assignments") (ν 15) [(.v 2 (s "market"))]))) [.ret (.bl false)] []
def s_law_k42_13 (ν : Nat → Nat) : Sm := .asg (.nm 5 (s "totals")) (.lst [(.bin .add (.bi .sum (.v 8 (s "high"))) (.bi .sum (.call (s "least_prices") (ν 46) [(.v 2 (s "market"))]))), (.bin .add (.bi .sum (.v 9 (s "low"))) (.bi .sum (.call (s "greatest_prices") (ν 47) [(.v 2 (s "market"))])))])
def s_law_k42_14 (ν : Nat → Nat) : Sm := .ret (.cmp .eq (.v 5 (s "totals")) (.bin .mul (.lst [(.call (s "best_total") (ν 14) [(.v 2 (s "market"))])]) (.int 2)))
@[reducible] def n_law_k42 (script_ : Option D := none) (town_ : Option D := none) (market_ : Option D := none) (other_ : Option D := none) (pairs_ : Option D := none) (totals_ : Option D := none) (many_ : Option D := none) (size_ : Option D := none) (high_ : Option D := none) (low_ : Option D := none) (k_ : Option D := none) (good_ : Option D := none) (buyer_ : Option D := none) : Env := [script_, town_, market_, other_, pairs_, totals_, many_, size_, high_, low_, k_, good_, buyer_]
def d_law_k42 (ν : Nat → Nat) : Fd := ⟨(s "law"), 1, [s "script", s "town", s "market", s "other", s "pairs", s "totals", s "many", s "size", s "high", s "low", s "k", s "good", s "buyer"], 1, [s_law_k42_0 ν, s_law_k42_1 ν, s_law_k42_2 ν, s_law_k42_3 ν, s_law_k42_4 ν, s_law_k42_5 ν, s_law_k42_6 ν, s_law_k42_7 ν, s_law_k42_8 ν, s_law_k42_9 ν, s_law_k42_10 ν, s_law_k42_11 ν, s_law_k42_12 ν, s_law_k42_13 ν, s_law_k42_14 ν], false⟩
/-- 121: law (k43) -/
def s_law_k43_0 (ν : Nat → Nat) : Sm := .new 1 (s "town") 0 (.call (s "_law_town") (ν 74) [(.v 0 (s "script"))])
def s_law_k43_1 (ν : Nat → Nat) : Sm := .asg (.nm 2 (s "market")) (.call (s "_law_market") (ν 80) [(.v 0 (s "script")), (.v 1 (s "town")), (.int 3), (.int 3)])
def s_law_k43_2 (ν : Nat → Nat) : Sm := .asg (.tp [(14, (s "many")), (15, (s "size"))]) (.tup [(.bi .len (.v 2 (s "market"))), (.bi .len (.idx (.v 2 (s "market")) (.int 0)))])
def s_law_k43_3 (ν : Nat → Nat) : Sm := .asg (.nm 3 (s "rows")) (.lc [((s "k"), 22)] (.nm 22 (s "k")) (.rng none (.int 2)) none (.bi .tuple (.lc [((s "good"), 21)] (.nm 21 (s "good")) (.rng none (.v 15 (s "size"))) none (.call (s "_law_draw") (ν 75) [(.v 0 (s "script")), (.v 1 (s "town")), (.int 13)]))))
def s_law_k43_4 (ν : Nat → Nat) : Sm := .par [(16, (s "one")), (17, (s "both"))] [(.call (s "with_buyer") (ν 68) [(.v 2 (s "market")), (.idx (.v 3 (s "rows")) (.int 0))]), (.call (s "with_buyer") (ν 68) [(.call (s "with_buyer") (ν 68) [(.v 2 (s "market")), (.idx (.v 3 (s "rows")) (.int 1))]), (.idx (.v 3 (s "rows")) (.int 0))])]
def s_law_k43_5 (ν : Nat → Nat) : Sm := .iff (.cmp .gt (.call (s "added_value") (ν 65) [(.v 17 (s "both")), (.bin .add (.v 14 (s "many")) (.int 1))]) (.call (s "added_value") (ν 65) [(.v 16 (s "one")), (.v 14 (s "many"))])) [.ret (.bl false)] []
def s_law_k43_6 (ν : Nat → Nat) : Sm := .asg (.nm 4 (s "columns")) (.lc [((s "j"), 23)] (.nm 23 (s "j")) (.rng none (.int 2)) none (.bi .tuple (.lc [((s "k"), 22)] (.nm 22 (s "k")) (.rng none (.v 14 (s "many"))) none (.call (s "_law_draw") (ν 75) [(.v 0 (s "script")), (.v 1 (s "town")), (.int 13)]))))
def s_law_k43_7 (ν : Nat → Nat) : Sm := .par [(18, (s "wide")), (19, (s "wider"))] [(.call (s "with_good") (ν 70) [(.v 2 (s "market")), (.idx (.v 4 (s "columns")) (.int 0))]), (.call (s "with_good") (ν 70) [(.call (s "with_good") (ν 70) [(.v 2 (s "market")), (.idx (.v 4 (s "columns")) (.int 1))]), (.idx (.v 4 (s "columns")) (.int 0))])]
def s_law_k43_8 (ν : Nat → Nat) : Sm := .asg (.nm 5 (s "less")) (.bin .sub (.call (s "best_total") (ν 14) [(.v 18 (s "wide"))]) (.call (s "best_total") (ν 14) [(.v 2 (s "market"))]))
def s_law_k43_9 (ν : Nat → Nat) : Sm := .iff (.or (.cmp .gt (.bin .sub (.call (s "best_total") (ν 14) [(.v 19 (s "wider"))]) (.call (s "best_total") (ν 14) [(.call (s "with_good") (ν 70) [(.v 2 (s "market")), (.idx (.v 4 (s "columns")) (.int 1))])])) (.v 5 (s "less"))) (.cmp .lt (.v 5 (s "less")) (.int 0))) [.ret (.bl false)] []
def s_law_k43_10 (ν : Nat → Nat) : Sm := .asg (.nm 6 (s "last")) (.call (s "_law_draw") (ν 75) [(.v 0 (s "script")), (.v 1 (s "town")), (.int 13)])
def s_law_k43_11 (ν : Nat → Nat) : Sm := .asg (.nm 7 (s "alone")) (.bin .sub (.call (s "best_total") (ν 14) [(.v 16 (s "one"))]) (.call (s "best_total") (ν 14) [(.v 2 (s "market"))]))
def s_law_k43_12 (ν : Nat → Nat) : Sm := .asg (.nm 8 (s "joined")) (.bin .sub (.call (s "best_total") (ν 14) [(.call (s "with_buyer") (ν 68) [(.v 18 (s "wide")), (.bin .add (.idx (.v 3 (s "rows")) (.int 0)) (.tup [(.v 6 (s "last"))]))])]) (.call (s "best_total") (ν 14) [(.v 18 (s "wide"))]))
def s_law_k43_13 (ν : Nat → Nat) : Sm := .iff (.or (.cmp .lt (.v 8 (s "joined")) (.v 7 (s "alone"))) (.cmp .ne (.call (s "added_value") (ν 65) [(.v 16 (s "one")), (.v 14 (s "many"))]) (.v 7 (s "alone")))) [.ret (.bl false)] []
def s_law_k43_14 (ν : Nat → Nat) : Sm := .par [(20, (s "buyer")), (21, (s "good"))] [(.call (s "_law_draw") (ν 75) [(.v 0 (s "script")), (.v 1 (s "town")), (.v 14 (s "many"))]), (.call (s "_law_draw") (ν 75) [(.v 0 (s "script")), (.v 1 (s "town")), (.v 15 (s "size"))])]
def s_law_k43_15 (ν : Nat → Nat) : Sm := .asg (.nm 9 (s "value")) (.idx (.idx (.v 2 (s "market")) (.v 20 (s "buyer"))) (.v 21 (s "good")))
def s_law_k43_16 (ν : Nat → Nat) : Sm := .iff (.cmp .eq (.v 9 (s "value")) (.int 20)) [.ret (.bl true)] []
def s_law_k43_17 (ν : Nat → Nat) : Sm := .asg (.nm 10 (s "row")) (.bin .add (.bin .add (.sl (.idx (.v 2 (s "market")) (.v 20 (s "buyer"))) none (some (.v 21 (s "good")))) (.tup [(.bin .add (.v 9 (s "value")) (.int 1))])) (.sl (.idx (.v 2 (s "market")) (.v 20 (s "buyer"))) (some (.bin .add (.v 21 (s "good")) (.int 1))) none))
def s_law_k43_18 (ν : Nat → Nat) : Sm := .asg (.nm 11 (s "raised")) (.call (s "told") (ν 66) [(.v 2 (s "market")), (.v 20 (s "buyer")), (.v 10 (s "row"))])
def s_law_k43_19 (ν : Nat → Nat) : Sm := .asg (.nm 12 (s "rise")) (.bin .sub (.call (s "best_total") (ν 14) [(.v 11 (s "raised"))]) (.call (s "best_total") (ν 14) [(.v 2 (s "market"))]))
def s_law_k43_20 (ν : Nat → Nat) : Sm := .iff (.or (.cmp .notin (.v 12 (s "rise")) (.tup [(.int 0), (.int 1)])) (.cmp .ne (.cmp .eq (.v 12 (s "rise")) (.int 1)) (.cmp .in_ (.tup [(.v 20 (s "buyer")), (.v 21 (s "good"))]) (.call (s "possible_pairs") (ν 19) [(.v 2 (s "market"))])))) [.ret (.bl false)] []
def s_law_k43_21 (ν : Nat → Nat) : Sm := .asg (.nm 13 (s "needed")) (.call (s "least_value") (ν 21) [(.v 2 (s "market")), (.v 20 (s "buyer")), (.v 21 (s "good"))])
def s_law_k43_22 (ν : Nat → Nat) : Sm := .ret (.cmp .eq (.cmp .eq (.v 12 (s "rise")) (.int 1)) (.and (.cmp .isnot (.v 13 (s "needed")) .non) (.cmp .le (.v 13 (s "needed")) (.v 9 (s "value")))))
@[reducible] def n_law_k43 (script_ : Option D := none) (town_ : Option D := none) (market_ : Option D := none) (rows_ : Option D := none) (columns_ : Option D := none) (less_ : Option D := none) (last_ : Option D := none) (alone_ : Option D := none) (joined_ : Option D := none) (value_ : Option D := none) (row_ : Option D := none) (raised_ : Option D := none) (rise_ : Option D := none) (needed_ : Option D := none) (many_ : Option D := none) (size_ : Option D := none) (one_ : Option D := none) (both_ : Option D := none) (wide_ : Option D := none) (wider_ : Option D := none) (buyer_ : Option D := none) (good_ : Option D := none) (k_ : Option D := none) (j_ : Option D := none) : Env := [script_, town_, market_, rows_, columns_, less_, last_, alone_, joined_, value_, row_, raised_, rise_, needed_, many_, size_, one_, both_, wide_, wider_, buyer_, good_, k_, j_]
def d_law_k43 (ν : Nat → Nat) : Fd := ⟨(s "law"), 1, [s "script", s "town", s "market", s "rows", s "columns", s "less", s "last", s "alone", s "joined", s "value", s "row", s "raised", s "rise", s "needed", s "many", s "size", s "one", s "both", s "wide", s "wider", s "buyer", s "good", s "k", s "j"], 1, [s_law_k43_0 ν, s_law_k43_1 ν, s_law_k43_2 ν, s_law_k43_3 ν, s_law_k43_4 ν, s_law_k43_5 ν, s_law_k43_6 ν, s_law_k43_7 ν, s_law_k43_8 ν, s_law_k43_9 ν, s_law_k43_10 ν, s_law_k43_11 ν, s_law_k43_12 ν, s_law_k43_13 ν, s_law_k43_14 ν, s_law_k43_15 ν, s_law_k43_16 ν, s_law_k43_17 ν, s_law_k43_18 ν, s_law_k43_19 ν, s_law_k43_20 ν, s_law_k43_21 ν, s_law_k43_22 ν], false⟩
/-- 122: _law_edit (k50) -/
def s__law_edit_0 (ν : Nat → Nat) : Sm := .par [(5, (s "many")), (6, (s "size"))] [(.bi .len (.v 2 (s "market"))), (.bi .len (.idx (.v 2 (s "market")) (.int 0)))]
def s__law_edit_1 (ν : Nat → Nat) : Sm := .asg (.nm 3 (s "way")) (.call (s "_law_draw") (ν 75) [(.v 0 (s "script")), (.v 1 (s "town")), (.int 4)])
def s__law_edit_2_0 (ν : Nat → Nat) : Sm := .asg (.nm 7 (s "buyer")) (.call (s "_law_draw") (ν 75) [(.v 0 (s "script")), (.v 1 (s "town")), (.v 5 (s "many"))])
def s__law_edit_2_1 (ν : Nat → Nat) : Sm := .ret (.tup [(.str (s "leave")), (.tup [(.v 7 (s "buyer"))]), (.bin .add (.sl (.v 2 (s "market")) none (some (.v 7 (s "buyer")))) (.sl (.v 2 (s "market")) (some (.bin .add (.v 7 (s "buyer")) (.int 1))) none))])
def s__law_edit_2 (ν : Nat → Nat) : Sm := .iff (.and (.cmp .eq (.v 3 (s "way")) (.int 0)) (.cmp .gt (.v 5 (s "many")) (.int 1))) [s__law_edit_2_0 ν, s__law_edit_2_1 ν] []
def s__law_edit_3_0 (ν : Nat → Nat) : Sm := .asg (.nm 4 (s "row")) (.bi .tuple (.lc [((s "good"), 8)] (.nm 8 (s "good")) (.rng none (.v 6 (s "size"))) none (.call (s "_law_draw") (ν 75) [(.v 0 (s "script")), (.v 1 (s "town")), (.int 21)])))
def s__law_edit_3_1 (ν : Nat → Nat) : Sm := .ret (.tup [(.str (s "enter")), (.v 4 (s "row")), (.bin .add (.v 2 (s "market")) (.tup [(.v 4 (s "row"))]))])
def s__law_edit_3 (ν : Nat → Nat) : Sm := .iff (.and (.cmp .eq (.v 3 (s "way")) (.int 1)) (.cmp .lt (.v 5 (s "many")) (.int 5))) [s__law_edit_3_0 ν, s__law_edit_3_1 ν] []
def s__law_edit_4 (ν : Nat → Nat) : Sm := .par [(7, (s "buyer")), (8, (s "good")), (9, (s "value"))] [(.call (s "_law_draw") (ν 75) [(.v 0 (s "script")), (.v 1 (s "town")), (.v 5 (s "many"))]), (.call (s "_law_draw") (ν 75) [(.v 0 (s "script")), (.v 1 (s "town")), (.v 6 (s "size"))]), (.call (s "_law_draw") (ν 75) [(.v 0 (s "script")), (.v 1 (s "town")), (.int 21)])]
def s__law_edit_5 (ν : Nat → Nat) : Sm := .asg (.nm 4 (s "row")) (.bin .add (.bin .add (.sl (.idx (.v 2 (s "market")) (.v 7 (s "buyer"))) none (some (.v 8 (s "good")))) (.tup [(.v 9 (s "value"))])) (.sl (.idx (.v 2 (s "market")) (.v 7 (s "buyer"))) (some (.bin .add (.v 8 (s "good")) (.int 1))) none))
def s__law_edit_6 (ν : Nat → Nat) : Sm := .ret (.tup [(.str (s "value")), (.tup [(.v 7 (s "buyer")), (.v 8 (s "good")), (.v 9 (s "value"))]), (.bin .add (.bin .add (.sl (.v 2 (s "market")) none (some (.v 7 (s "buyer")))) (.tup [(.v 4 (s "row"))])) (.sl (.v 2 (s "market")) (some (.bin .add (.v 7 (s "buyer")) (.int 1))) none))])
@[reducible] def n__law_edit (script_ : Option D := none) (town_ : Option D := none) (market_ : Option D := none) (way_ : Option D := none) (row_ : Option D := none) (many_ : Option D := none) (size_ : Option D := none) (buyer_ : Option D := none) (good_ : Option D := none) (value_ : Option D := none) : Env := [script_, town_, market_, way_, row_, many_, size_, buyer_, good_, value_]
def d__law_edit (ν : Nat → Nat) : Fd := ⟨(s "_law_edit"), 3, [s "script", s "town", s "market", s "way", s "row", s "many", s "size", s "buyer", s "good", s "value"], 0, [s__law_edit_0 ν, s__law_edit_1 ν, s__law_edit_2 ν, s__law_edit_3 ν, s__law_edit_4 ν, s__law_edit_5 ν, s__law_edit_6 ν], false⟩
/-- 125: _law_call (k50) -/
def s__law_call_k50_0 (ν : Nat → Nat) : Sm := .ret (.call (s "_law_back") (ν 124) [(.v 0 (s "way")), (.v 1 (s "arguments"))])
@[reducible] def n__law_call_k50 (way_ : Option D := none) (arguments_ : Option D := none) : Env := [way_, arguments_]
def d__law_call_k50 (ν : Nat → Nat) : Fd := ⟨(s "_law_call"), 2, [s "way", s "arguments"], 0, [s__law_call_k50_0 ν], false⟩
/-- 126: _law_due (k50) -/
def s__law_due_0_0 (ν : Nat → Nat) : Sm := .ret (.bin .sub (.call (s "best_total") (ν 14) [(.v 3 (s "now"))]) (.call (s "best_total") (ν 14) [(.v 2 (s "before"))]))
def s__law_due_0 (ν : Nat → Nat) : Sm := .iff (.cmp .eq (.v 0 (s "name")) (.str (s "value"))) [s__law_due_0_0 ν] []
def s__law_due_1 (ν : Nat → Nat) : Sm := .ret (.ite (.cmp .eq (.v 0 (s "name")) (.str (s "enter"))) (.call (s "greatest_gain") (ν 62) [(.v 3 (s "now")), (.bi .len (.v 2 (s "before")))]) (.idx (.v 2 (s "before")) (.idx (.v 1 (s "arguments")) (.int 0))))
@[reducible] def n__law_due (name_ : Option D := none) (arguments_ : Option D := none) (before_ : Option D := none) (now_ : Option D := none) : Env := [name_, arguments_, before_, now_]
def d__law_due (ν : Nat → Nat) : Fd := ⟨(s "_law_due"), 4, [s "name", s "arguments", s "before", s "now"], 0, [s__law_due_0 ν, s__law_due_1 ν], false⟩
/-- 131: read_number (k52) -/
def s_read_number_0 (ν : Nat → Nat) : Sm := .iff (.or (.cmp .notin (.bi .len (.v 0 (s "word"))) (.tup [(.int 1), (.int 2)])) (.not (.bi .all (.lc [((s "sign"), 1)] (.nm 1 (s "sign")) (.seq (.v 0 (s "word"))) none (.cmp .in_ (.v 1 (s "sign")) (.str (s "0123456789"))))))) [.ret (.neg (.int 1))] []
def s_read_number_1 (ν : Nat → Nat) : Sm := .ret (.bi .int (.v 0 (s "word")))
@[reducible] def n_read_number (word_ : Option D := none) (sign_ : Option D := none) : Env := [word_, sign_]
def d_read_number (ν : Nat → Nat) : Fd := ⟨(s "read_number"), 1, [s "word", s "sign"], 0, [s_read_number_0 ν, s_read_number_1 ν], false⟩
/-- 133: _law_call (k52) -/
def s__law_call_k52_0 (ν : Nat → Nat) : Sm := .ret (.ite (.cmp .eq (.v 0 (s "way")) (.int 0)) (.call (s "parse_market") (ν 132) [(.v 1 (s "arguments"))]) (.call (s "format_market") (ν 73) [(.v 1 (s "arguments"))]))
@[reducible] def n__law_call_k52 (way_ : Option D := none) (arguments_ : Option D := none) : Env := [way_, arguments_]
def d__law_call_k52 (ν : Nat → Nat) : Fd := ⟨(s "_law_call"), 2, [s "way", s "arguments"], 0, [s__law_call_k52_0 ν], false⟩
/-- 137: operation_text (k53) -/
def s_operation_text_0 (ν : Nat → Nat) : Sm := .ret (.bin .add (.bin .add (.idx (.v 0 (s "operation")) (.int 0)) (.str (s " "))) (.call (s "numbers_text") (ν 71) [(.idx (.v 0 (s "operation")) (.int 1))]))
@[reducible] def n_operation_text (operation_ : Option D := none) : Env := [operation_]
def d_operation_text (ν : Nat → Nat) : Fd := ⟨(s "operation_text"), 1, [s "operation"], 0, [s_operation_text_0 ν], false⟩
/-- 141: _law_call (k53) -/
def s__law_call_k53_0 (ν : Nat → Nat) : Sm := .ret (.ite (.cmp .eq (.v 0 (s "way")) (.int 3)) (.call (s "load") (ν 140) [(.v 1 (s "arguments"))]) (.call (s "_law_back") (ν 124) [(.v 0 (s "way")), (.v 1 (s "arguments"))]))
@[reducible] def n__law_call_k53 (way_ : Option D := none) (arguments_ : Option D := none) : Env := [way_, arguments_]
def d__law_call_k53 (ν : Nat → Nat) : Fd := ⟨(s "_law_call"), 2, [s "way", s "arguments"], 0, [s__law_call_k53_0 ν], false⟩
/-- 143: _law_diagonal (k60) -/
def s__law_diagonal_0 (ν : Nat → Nat) : Sm := .ret (.bi .tuple (.lc [((s "i"), 2)] (.nm 2 (s "i")) (.rng none (.v 0 (s "size"))) none (.bi .tuple (.lc [((s "j"), 3)] (.nm 3 (s "j")) (.rng none (.v 0 (s "size"))) none (.bin .mul (.v 1 (s "value")) (.bi .int (.cmp .eq (.v 2 (s "i")) (.v 3 (s "j")))))))))
@[reducible] def n__law_diagonal (size_ : Option D := none) (value_ : Option D := none) (i_ : Option D := none) (j_ : Option D := none) : Env := [size_, value_, i_, j_]
def d__law_diagonal (ν : Nat → Nat) : Fd := ⟨(s "_law_diagonal"), 2, [s "size", s "value", s "i", s "j"], 0, [s__law_diagonal_0 ν], false⟩
/-- 144: _law_even_ones_are_known (k60) -/
def s__law_even_ones_are_known_0 (ν : Nat → Nat) : Sm := .asg (.nm 2 (s "equal")) (.bin .mul (.tup [(.bin .mul (.tup [(.v 1 (s "value"))]) (.v 0 (s "size")))]) (.v 0 (s "size")))
def s__law_even_ones_are_known_1 (ν : Nat → Nat) : Sm := .iff (.or (.cmp .ne (.call (s "least_prices") (ν 46) [(.v 2 (s "equal"))]) (.bin .mul (.tup [(.int 0)]) (.v 0 (s "size")))) (.cmp .ne (.call (s "greatest_prices") (ν 47) [(.v 2 (s "equal"))]) (.bin .mul (.tup [(.v 1 (s "value"))]) (.v 0 (s "size"))))) [.ret (.bl false)] []
def s__law_even_ones_are_known_2 (ν : Nat → Nat) : Sm := .iff (.cmp .ne (.call (s "stable_prices") (ν 48) [(.v 2 (s "equal"))]) (.bi .tuple (.lc [((s "price"), 6)] (.nm 6 (s "price")) (.rng none (.bin .add (.v 1 (s "value")) (.int 1))) none (.bin .mul (.tup [(.v 6 (s "price"))]) (.v 0 (s "size")))))) [.ret (.bl false)] []
def s__law_even_ones_are_known_3 (ν : Nat → Nat) : Sm := .asg (.nm 3 (s "counts_of")) (.lst [(.int 1), (.int 2), (.int 6), (.int 24), (.int 120)])
def s__law_even_ones_are_known_4 (ν : Nat → Nat) : Sm := .iff (.or (.cmp .ne (.bi .len (.call (s "best_assignments") (ν 15) [(.v 2 (s "equal"))])) (.idx (.v 3 (s "counts_of")) (.bin .sub (.v 0 (s "size")) (.int 1)))) (.cmp .ne (.bi .len (.call (s "possible_pairs") (ν 19) [(.v 2 (s "equal"))])) (.bin .mul (.v 0 (s "size")) (.v 0 (s "size"))))) [.ret (.bl false)] []
def s__law_even_ones_are_known_5 (ν : Nat → Nat) : Sm := .iff (.or (.cmp .ne (.bi .len (.call (s "sure_pairs") (ν 18) [(.v 2 (s "equal"))])) (.bi .int (.cmp .eq (.v 0 (s "size")) (.int 1)))) (.cmp .isnot (.call (s "crowd") (ν 37) [(.v 2 (s "equal")), (.bin .mul (.tup [(.int 0)]) (.v 0 (s "size")))]) .non)) [.ret (.bl false)] []
def s__law_even_ones_are_known_6 (ν : Nat → Nat) : Sm := .iff (.or (.cmp .ne (.call (s "glut") (ν 38) [(.v 2 (s "equal")), (.bin .mul (.tup [(.bin .add (.v 1 (s "value")) (.int 1))]) (.v 0 (s "size")))]) (.tup [(.int 0)])) (.cmp .ne (.call (s "least_value") (ν 21) [(.v 2 (s "equal")), (.int 0), (.int 0)]) (.bin .mul (.v 1 (s "value")) (.bi .int (.cmp .gt (.v 0 (s "size")) (.int 1)))))) [.ret (.bl false)] []
def s__law_even_ones_are_known_7 (ν : Nat → Nat) : Sm := .asg (.nm 4 (s "straight")) (.call (s "_law_diagonal") (ν 143) [(.v 0 (s "size")), (.v 1 (s "value"))])
def s__law_even_ones_are_known_8 (ν : Nat → Nat) : Sm := .iff (.or (.cmp .ne (.call (s "greatest_prices") (ν 47) [(.v 4 (s "straight"))]) (.bin .mul (.tup [(.v 1 (s "value"))]) (.v 0 (s "size")))) (.cmp .ne (.call (s "least_prices") (ν 46) [(.v 4 (s "straight"))]) (.bin .mul (.tup [(.int 0)]) (.v 0 (s "size"))))) [.ret (.bl false)] []
def s__law_even_ones_are_known_9 (ν : Nat → Nat) : Sm := .iff (.cmp .ne (.call (s "sure_pairs") (ν 18) [(.v 4 (s "straight"))]) (.bi .tuple (.lc [((s "k"), 7)] (.nm 7 (s "k")) (.rng none (.v 0 (s "size"))) none (.tup [(.v 7 (s "k")), (.v 7 (s "k"))])))) [.ret (.bl false)] []
def s__law_even_ones_are_known_10 (ν : Nat → Nat) : Sm := .asg (.nm 5 (s "crowded")) (.bin .mul (.tup [(.bin .mul (.tup [(.v 1 (s "value"))]) (.v 0 (s "size")))]) (.int 5))
def s__law_even_ones_are_known_11_0 (ν : Nat → Nat) : Sm := .ret (.cmp .eq (.call (s "least_prices") (ν 46) [(.v 5 (s "crowded"))]) (.bin .mul (.tup [(.int 0)]) (.int 5)))
def s__law_even_ones_are_known_11 (ν : Nat → Nat) : Sm := .iff (.cmp .eq (.v 0 (s "size")) (.int 5)) [s__law_even_ones_are_known_11_0 ν] []
def s__law_even_ones_are_known_12 (ν : Nat → Nat) : Sm := .iff (.or (.cmp .ne (.call (s "least_prices") (ν 46) [(.v 5 (s "crowded"))]) (.bin .mul (.tup [(.v 1 (s "value"))]) (.v 0 (s "size")))) (.cmp .ne (.call (s "crowd") (ν 37) [(.v 5 (s "crowded")), (.bin .mul (.tup [(.int 0)]) (.v 0 (s "size")))]) (.lrng true none (.v 0 (s "size"))))) [.ret (.bl false)] []
def s__law_even_ones_are_known_13 (ν : Nat → Nat) : Sm := .ret (.cmp .eq (.call (s "glut") (ν 38) [(.v 5 (s "crowded")), (.bin .mul (.tup [(.bin .add (.v 1 (s "value")) (.int 1))]) (.v 0 (s "size")))]) (.tup [(.int 0)]))
@[reducible] def n__law_even_ones_are_known (size_ : Option D := none) (value_ : Option D := none) (equal_ : Option D := none) (counts_of_ : Option D := none) (straight_ : Option D := none) (crowded_ : Option D := none) (price_ : Option D := none) (k_ : Option D := none) : Env := [size_, value_, equal_, counts_of_, straight_, crowded_, price_, k_]
def d__law_even_ones_are_known (ν : Nat → Nat) : Fd := ⟨(s "_law_even_ones_are_known"), 2, [s "size", s "value", s "equal", s "counts_of", s "straight", s "crowded", s "price", s "k"], 0, [s__law_even_ones_are_known_0 ν, s__law_even_ones_are_known_1 ν, s__law_even_ones_are_known_2 ν, s__law_even_ones_are_known_3 ν, s__law_even_ones_are_known_4 ν, s__law_even_ones_are_known_5 ν, s__law_even_ones_are_known_6 ν, s__law_even_ones_are_known_7 ν, s__law_even_ones_are_known_8 ν, s__law_even_ones_are_known_9 ν, s__law_even_ones_are_known_10 ν, s__law_even_ones_are_known_11 ν, s__law_even_ones_are_known_12 ν, s__law_even_ones_are_known_13 ν], false⟩
/-- 145: law (k60) -/
def s_law_k60_0 (ν : Nat → Nat) : Sm := .new 1 (s "town") 0 (.call (s "_law_town") (ν 74) [(.v 0 (s "script"))])
def s_law_k60_1 (ν : Nat → Nat) : Sm := .asg (.nm 2 (s "size")) (.bin .add (.int 1) (.call (s "_law_draw") (ν 75) [(.v 0 (s "script")), (.v 1 (s "town")), (.int 5)]))
def s_law_k60_2 (ν : Nat → Nat) : Sm := .asg (.nm 3 (s "numbers")) (.lc [((s "k"), 8)] (.nm 8 (s "k")) (.rng none (.v 2 (s "size"))) none (.call (s "_law_draw") (ν 75) [(.v 0 (s "script")), (.v 1 (s "town")), (.int 21)]))
def s_law_k60_3 (ν : Nat → Nat) : Sm := .asg (.nm 4 (s "first")) (.bin .add (.bi .rev (.bi .sorted (.v 3 (s "numbers")))) (.lst [(.int 0)]))
def s_law_k60_4 (ν : Nat → Nat) : Sm := .asg (.nm 5 (s "single")) (.bi .tuple (.lc [((s "number"), 9)] (.nm 9 (s "number")) (.seq (.v 3 (s "numbers"))) none (.tup [(.v 9 (s "number"))])))
def s_law_k60_5 (ν : Nat → Nat) : Sm := .iff (.cmp .ne (.tup [(.call (s "least_prices") (ν 46) [(.v 5 (s "single"))]), (.call (s "greatest_prices") (ν 47) [(.v 5 (s "single"))])]) (.tup [(.tup [(.idx (.v 4 (s "first")) (.int 1))]), (.tup [(.idx (.v 4 (s "first")) (.int 0))])])) [.ret (.bl false)] []
def s_law_k60_6 (ν : Nat → Nat) : Sm := .iff (.or (.cmp .ne (.bi .len (.call (s "stable_prices") (ν 48) [(.v 5 (s "single"))])) (.bin .add (.bin .sub (.idx (.v 4 (s "first")) (.int 0)) (.idx (.v 4 (s "first")) (.int 1))) (.int 1))) (.cmp .ne (.call (s "best_total") (ν 14) [(.v 5 (s "single"))]) (.idx (.v 4 (s "first")) (.int 0)))) [.ret (.bl false)] []
def s_law_k60_7 (ν : Nat → Nat) : Sm := .iff (.or (.cmp .ne (.idx (.call (s "rising") (ν 60) [(.v 5 (s "single"))]) (.neg (.int 1))) (.tup [(.idx (.v 4 (s "first")) (.int 1))])) (.cmp .ne (.bi .len (.call (s "falling") (ν 61) [(.v 5 (s "single"))])) (.bin .sub (.int 22) (.idx (.v 4 (s "first")) (.int 0))))) [.ret (.bl false)] []
def s_law_k60_8 (ν : Nat → Nat) : Sm := .asg (.nm 6 (s "buyer")) (.index (.v 3 (s "numbers")) (.idx (.v 4 (s "first")) (.int 0)))
def s_law_k60_9 (ν : Nat → Nat) : Sm := .iff (.or (.cmp .ne (.call (s "greatest_gain") (ν 62) [(.v 5 (s "single")), (.v 6 (s "buyer"))]) (.bin .sub (.idx (.v 4 (s "first")) (.int 0)) (.idx (.v 4 (s "first")) (.int 1)))) (.cmp .ne (.call (s "least_gain") (ν 63) [(.v 5 (s "single")), (.v 6 (s "buyer"))]) (.int 0))) [.ret (.bl false)] []
def s_law_k60_10 (ν : Nat → Nat) : Sm := .asg (.nm 7 (s "alone")) (.tup [(.bi .tuple (.v 3 (s "numbers")))])
def s_law_k60_11 (ν : Nat → Nat) : Sm := .iff (.or (.cmp .ne (.call (s "least_prices") (ν 46) [(.v 7 (s "alone"))]) (.bin .mul (.tup [(.int 0)]) (.v 2 (s "size")))) (.cmp .gt (.bi .max (.call (s "greatest_prices") (ν 47) [(.v 7 (s "alone"))])) (.bin .sub (.idx (.v 4 (s "first")) (.int 0)) (.idx (.v 4 (s "first")) (.int 1))))) [.ret (.bl false)] []
def s_law_k60_12 (ν : Nat → Nat) : Sm := .ret (.call (s "_law_even_ones_are_known") (ν 144) [(.v 2 (s "size")), (.bin .add (.int 1) (.call (s "_law_draw") (ν 75) [(.v 0 (s "script")), (.v 1 (s "town")), (.int 6)]))])
@[reducible] def n_law_k60 (script_ : Option D := none) (town_ : Option D := none) (size_ : Option D := none) (numbers_ : Option D := none) (first_ : Option D := none) (single_ : Option D := none) (buyer_ : Option D := none) (alone_ : Option D := none) (k_ : Option D := none) (number_ : Option D := none) : Env := [script_, town_, size_, numbers_, first_, single_, buyer_, alone_, k_, number_]
def d_law_k60 (ν : Nat → Nat) : Fd := ⟨(s "law"), 1, [s "script", s "town", s "size", s "numbers", s "first", s "single", s "buyer", s "alone", s "k", s "number"], 1, [s_law_k60_0 ν, s_law_k60_1 ν, s_law_k60_2 ν, s_law_k60_3 ν, s_law_k60_4 ν, s_law_k60_5 ν, s_law_k60_6 ν, s_law_k60_7 ν, s_law_k60_8 ν, s_law_k60_9 ν, s_law_k60_10 ν, s_law_k60_11 ν, s_law_k60_12 ν], false⟩
/-- 147: _law_results (k61) -/
def s__law_results_0 (ν : Nat → Nat) : Sm := .asg (.nm 1 (s "rows")) (.lst [(.call (s "best_total") (ν 14) [(.v 0 (s "market"))]), (.call (s "best_assignments") (ν 15) [(.v 0 (s "market"))]), (.call (s "sure_pairs") (ν 18) [(.v 0 (s "market"))]), (.call (s "possible_pairs") (ν 19) [(.v 0 (s "market"))])])
def s__law_results_1 (ν : Nat → Nat) : Sm := .asg (.nm 1 (s "rows")) (.bin .add (.v 1 (s "rows")) (.lst [(.call (s "least_prices") (ν 46) [(.v 0 (s "market"))]), (.call (s "greatest_prices") (ν 47) [(.v 0 (s "market"))]), (.call (s "rising") (ν 60) [(.v 0 (s "market"))]), (.call (s "falling") (ν 61) [(.v 0 (s "market"))])]))
def s__law_results_2 (ν : Nat → Nat) : Sm := .asg (.nm 1 (s "rows")) (.bin .add (.v 1 (s "rows")) (.lst [(.call (s "ceiling") (ν 52) [(.v 0 (s "market")), (.int 0)]), (.call (s "floor") (ν 53) [(.v 0 (s "market")), (.int 0)]), (.call (s "difference_range") (ν 49) [(.v 0 (s "market")), (.int 0), (.bin .sub (.bi .len (.idx (.v 0 (s "market")) (.int 0))) (.int 1))])]))
def s__law_results_3 (ν : Nat → Nat) : Sm := .asg (.nm 1 (s "rows")) (.bin .add (.v 1 (s "rows")) (.lst [(.call (s "crowd") (ν 37) [(.v 0 (s "market")), (.bin .mul (.tup [(.int 1)]) (.bi .len (.idx (.v 0 (s "market")) (.int 0))))]), (.call (s "glut") (ν 38) [(.v 0 (s "market")), (.bin .mul (.tup [(.int 1)]) (.bi .len (.idx (.v 0 (s "market")) (.int 0))))])]))
def s__law_results_4 (ν : Nat → Nat) : Sm := .ret (.bin .add (.v 1 (s "rows")) (.lst [(.call (s "greatest_gain") (ν 62) [(.v 0 (s "market")), (.int 0)]), (.call (s "least_value") (ν 21) [(.v 0 (s "market")), (.int 0), (.int 0)]), (.call (s "format_market") (ν 73) [(.v 0 (s "market"))])]))
@[reducible] def n__law_results (market_ : Option D := none) (rows_ : Option D := none) : Env := [market_, rows_]
def d__law_results (ν : Nat → Nat) : Fd := ⟨(s "_law_results"), 1, [s "market", s "rows"], 0, [s__law_results_0 ν, s__law_results_1 ν, s__law_results_2 ν, s__law_results_3 ν, s__law_results_4 ν], false⟩
/-- 148: _law_sequence (k61) -/
def s__law_sequence_0 (ν : Nat → Nat) : Sm := .new 3 (s "found") 0 (.lst [])
def s__law_sequence_1_0 (ν : Nat → Nat) : Sm := .app (.v 3 (s "found")) (.call (s "_law_pick") (ν 76) [(.v 0 (s "script")), (.v 1 (s "town")), (.lc [((s "number"), 5)] (.nm 5 (s "number")) (.rng none (.v 2 (s "size"))) (some (.cmp .notin (.v 5 (s "number")) (.v 3 (s "found")))) (.v 5 (s "number")))])
def s__law_sequence_1 (ν : Nat → Nat) : Sm := .for_ (.nm 4 (s "k")) (.rng none (.v 2 (s "size"))) [s__law_sequence_1_0 ν]
def s__law_sequence_2 (ν : Nat → Nat) : Sm := .ret (.v 3 (s "found"))
@[reducible] def n__law_sequence (script_ : Option D := none) (town_ : Option D := none) (size_ : Option D := none) (found_ : Option D := none) (k_ : Option D := none) (number_ : Option D := none) : Env := [script_, town_, size_, found_, k_, number_]
def d__law_sequence (ν : Nat → Nat) : Fd := ⟨(s "_law_sequence"), 3, [s "script", s "town", s "size", s "found", s "k", s "number"], 1, [s__law_sequence_0 ν, s__law_sequence_1 ν, s__law_sequence_2 ν], false⟩
end G9

/-! text Q0 -/
/-! G9.Q0: the evaluator's equations in a form for rewriting. -/
namespace G9
open PySem (Str)

/-- by a bool -/
def onB {α : Type} (d : D) (x y z : α) : α := match d with
  | .p (.bl true) => x
  | .p (.bl false) => y
  | _ => z
@[simp] theorem onB_bl {α : Type} {b : Bool} {x y z : α} : onB (.p (.bl b)) x y z = if b = true then x else y := by cases b <;> rfl
section
variable {F : FS} {ρ : Env} {S : Store} {a b c d e : E} {n : Nat}
@[simp] theorem q_v {i : Nat} {x : Str} : evE F (.v i x) ρ S = match ρ[i]? with
    | some (some d) => .ok d S
    | _ => .bad := by unfold evE; rfl
@[simp] theorem q_int {i : Int} : evE F (.int i) ρ S = .ok (.p (.int i)) S := by unfold evE; rfl
@[simp] theorem q_bl {i : Bool} : evE F (.bl i) ρ S = .ok (.p (.bl i)) S := by unfold evE; rfl
@[simp] theorem q_non : evE F .non ρ S = .ok (.p .non) S := by unfold evE; rfl
@[simp] theorem q_str {i : Str} : evE F (.str i) ρ S = .ok (.p (.str i)) S := by unfold evE; rfl
@[simp] theorem q_g {x : Str} {i : Int} : evE F (.g x i) ρ S = .ok (.p (.int i)) S := by unfold evE; rfl
@[simp] theorem q_bin {op : Op} : evE F (.bin op a b) ρ S = (evE F a ρ S).bind fun x S1 => (evE F b ρ S1).bind fun y S2 => bin S2 op x y := by rw [evE]
def cmpR (S : Store) (c : Cm) (x y : D) : R D := match cmp S c x y with
  | some r => .ok (.p (.bl r)) S
  | none => .bad
@[simp] theorem q_cmp {c : Cm} : evE F (.cmp c a b) ρ S = (evE F a ρ S).bind fun x S1 => (evE F b ρ S1).bind fun y S2 => cmpR S2 c x y := by rw [evE]; rfl
@[simp] theorem q_chain {c c' : Cm} : evE F (.chain c c' a b d) ρ S = (evE F a ρ S).bind fun x S1 => (evE F b ρ S1).bind fun y S2 => (cmpR S2 c x y).bind fun r S2 => onB r ((evE F d ρ S2).bind fun z S3 => cmpR S3 c' y z) (.ok (.p (.bl false)) S2) .bad := by
  rw [evE]
  congr 1
  funext x S1
  congr 1
  funext y S2
  unfold cmpR
  cases cmp S2 c x y with
  | none => rfl
  | some r => cases r <;> rfl
@[simp] theorem q_and : evE F (.and a b) ρ S = (evE F a ρ S).bind fun x S1 => onB x (evE F b ρ S1) (.ok (.p (.bl false)) S1) .bad := by rw [evE]; rfl
@[simp] theorem q_or : evE F (.or a b) ρ S = (evE F a ρ S).bind fun x S1 => onB x (.ok (.p (.bl true)) S1) (evE F b ρ S1) .bad := by rw [evE]; rfl
@[simp] theorem q_not : evE F (.not a) ρ S = (evE F a ρ S).bind fun x S1 => onB x (.ok (.p (.bl false)) S1) (.ok (.p (.bl true)) S1) .bad := by
  rw [evE]
  congr 1
  funext x S1
  unfold onB
  cases x with
  | p x =>
    cases x with
    | bl b => cases b <;> rfl
    | _ => rfl
  | _ => rfl
def negR (x : D) (S : Store) : R D := match x with
  | .p (.int i) => .ok (.p (.int (-i))) S
  | _ => .bad
@[simp] theorem negR_int {i : Int} : negR (.p (.int i)) S = .ok (.p (.int (-i))) S := rfl
@[simp] theorem q_neg : evE F (.neg a) ρ S = (evE F a ρ S).bind negR := by rw [evE]; rfl
@[simp] theorem q_ite {t : E} : evE F (.ite t a b) ρ S = (evE F t ρ S).bind fun x S1 => onB x (evE F a ρ S1) (evE F b ρ S1) .bad := by rw [evE]; rfl
@[simp] theorem q_call {x : Str} {f : Nat} {as : List E} : evE F (.call x f as) ρ S = (evEs F as ρ S).bind fun ds S1 => F f ds S1 := by rw [evE]
@[simp] theorem q_bi {bb : Bi} : evE F (.bi bb a) ρ S = (evE F a ρ S).bind fun x S1 => bi S1 bb x := by rw [evE]
def max2R (x y : D) (S : Store) : R D := match x, y with
  | .p (.int i), .p (.int j) => .ok (.p (.int (max i j))) S
  | _, _ => .bad
def min2R (x y : D) (S : Store) : R D := match x, y with
  | .p (.int i), .p (.int j) => .ok (.p (.int (min i j))) S
  | _, _ => .bad
@[simp] theorem max2R_int {i j : Int} : max2R (.p (.int i)) (.p (.int j)) S = .ok (.p (.int (max i j))) S := rfl
@[simp] theorem min2R_int {i j : Int} : min2R (.p (.int i)) (.p (.int j)) S = .ok (.p (.int (min i j))) S := rfl
@[simp] theorem q_max2 : evE F (.max2 a b) ρ S = (evE F a ρ S).bind fun x S1 => (evE F b ρ S1).bind fun y S2 => max2R x y S2 := by
  rw [evE]
  congr 1
  funext x S1
  congr 1
  funext y S2
  unfold max2R
  split
  · congr 3
    split <;> omega
  · first
    | rfl
    | (split
       · exact (‹∀ (i j : Int), _ = D.p (P.int i) → _ = D.p (P.int j) → False› _ _ rfl rfl).elim
       · rfl)
@[simp] theorem q_min2 : evE F (.min2 a b) ρ S = (evE F a ρ S).bind fun x S1 => (evE F b ρ S1).bind fun y S2 => min2R x y S2 := by
  rw [evE]
  congr 1
  funext x S1
  congr 1
  funext y S2
  unfold min2R
  split
  · congr 3
    split <;> omega
  · first
    | rfl
    | (split
       · exact (‹∀ (i j : Int), _ = D.p (P.int i) → _ = D.p (P.int j) → False› _ _ rfl rfl).elim
       · rfl)
def isinR (x : D) (t : Ty) (S : Store) : R D := match view S x with
  | some y => .ok (.p (.bl (isTy y t))) S
  | none => .bad
@[simp] theorem isinR_p {x : P} {t : Ty} : isinR (.p x) t S = .ok (.p (.bl (isTy x t))) S := rfl
@[simp] theorem q_isin {t : Ty} : evE F (.isin a t) ρ S = (evE F a ρ S).bind fun x S1 => isinR x t S1 := by rw [evE]; rfl
def idxR (x y : D) (S : Store) : R D := match items S x, y with
  | some xs, .p (.int k) => match getAt xs k with
    | some d => .ok d S
    | none => .bad
  | _, _ => .bad
@[simp] theorem q_idx : evE F (.idx a b) ρ S = (evE F a ρ S).bind fun x S1 => (evE F b ρ S1).bind fun y S2 => idxR x y S2 := by rw [evE]; rfl
def slR (x : D) (l h : Option Int) (S : Store) : R D := match view S x with
  | some (.tup xs) => .ok (.p (.tup (cut xs l h))) S
  | some (.lst xs) => .ok (.p (.lst (cut xs l h))) S
  | _ => .bad
@[simp] theorem q_sl {lo hi : Option E} : evE F (.sl a lo hi) ρ S = (evE F a ρ S).bind fun x S1 => (evO F lo ρ S1).bind fun l S2 => (evO F hi ρ S2).bind fun h S3 => slR x l h S3 := by rw [evE]; rfl
def tupR (ds : List D) (S : Store) : R D := if ds.length ≤ LIM then .ok (mkTup ds) S else .bad
def lstR (ds : List D) (S : Store) : R D := match allP ds with
  | some xs => if xs.length ≤ LIM then .ok (.p (.lst xs)) S else .bad
  | none => .bad
@[simp] theorem q_tup {es : List E} : evE F (.tup es) ρ S = (evEs F es ρ S).bind tupR := by rw [evE]; rfl
@[simp] theorem q_lst {es : List E} : evE F (.lst es) ρ S = (evEs F es ρ S).bind lstR := by rw [evE]; rfl
/-- the elements of a comprehension -/
def eltR (r : R D) : R (Option P) := r.bind fun y S => match y with
  | .p x => .ok (some x) S
  | _ => .bad
@[simp] theorem eltR_p {x : P} : eltR (.ok (.p x) S) = .ok (some x) S := rfl
def turnR (F : FS) (cond : Option E) (elt : E) (ρ1 : Env) (S : Store) : R (Option P) := match cond with
  | none => eltR (evE F elt ρ1 S)
  | some c => (evE F c ρ1 S).bind fun b S2 => onB b (eltR (evE F elt ρ1 S2)) (.ok none S2) .bad
def lcQ (F : FS) (tg : Tg) (cond : Option E) (elt : E) (ρ : Env) (d : D) (S : Store) : R (Option P) := match bindT tg d ρ with
  | none => .bad
  | some ρ1 => turnR F cond elt ρ1 S
theorem q_lc {own : List (Str × Nat)} {tg : Tg} {it : It} {cond : Option E} {elt : E} : evE F (.lc own tg it cond elt) ρ S = (evI F it ρ S).bind fun w S1 => (comp w.1 (lcQ F tg cond elt (wipeE ρ own)) w.2 S1).bind fun ps S2 => if ps.length ≤ LIM then .ok (.p (.lst ps)) S2 else .bad := by
  rw [evE]
  rfl
@[simp] theorem q_nil : evEs F [] ρ S = .ok [] S := by rw [evEs]
@[simp] theorem q_cons {es : List E} : evEs F (e :: es) ρ S = (evE F e ρ S).bind fun x S1 => (evEs F es ρ S1).bind fun xs S2 => .ok (x :: xs) S2 := by rw [evEs]
@[simp] theorem q_on : evO F none ρ S = .ok none S := by rw [evO]
def oInt (x : D) (S : Store) : R (Option Int) := match x with
  | .p (.int i) => .ok (some i) S
  | _ => .bad
@[simp] theorem oInt_int {i : Int} : oInt (.p (.int i)) S = .ok (some i) S := rfl
@[simp] theorem q_os : evO F (some e) ρ S = (evE F e ρ S).bind oInt := by rw [evO]; rfl
def seqR (x : D) (S : Store) : R (Option Nat × List D) := match items S x with
  | some xs => .ok (match x with
    | .ref k => (some k, xs)
    | _ => (none, xs)) S
  | none => .bad
@[simp] theorem q_seq : evI F (.seq e) ρ S = (evE F e ρ S).bind seqR := by rw [evI]; rfl
def rngR (x : Option Int) (y : D) (S : Store) : R (Option Nat × List D) := match rngOf x y with
  | some ds => .ok (none, ds) S
  | none => .bad
@[simp] theorem q_rng {o : Option E} : evI F (.rng o b) ρ S = (evO F o ρ S).bind fun x S1 => (evE F b ρ S1).bind fun y S2 => rngR x y S2 := by rw [evI]; rfl
def zipR (x y : D) (S : Store) : R (Option Nat × List D) := match x, y with
  | .p (.tup xs), .p (.tup ys) => .ok (none, zipD (xs.map .p) (ys.map .p)) S
  | _, _ => .bad
@[simp] theorem q_zip : evI F (.zip a b) ρ S = (evE F a ρ S).bind fun x S1 => (evE F b ρ S1).bind fun y S2 => zipR x y S2 := by rw [evI]; rfl
def enumR (x : D) (S : Store) : R (Option Nat × List D) := match x with
  | .p (.tup xs) => .ok (none, enumFrom 0 (xs.map .p)) S
  | .p (.lst xs) => .ok (none, enumFrom 0 (xs.map .p)) S
  | .tp xs => .ok (none, enumFrom 0 xs) S
  | _ => .bad
@[simp] theorem q_enum : evI F (.enum a) ρ S = (evE F a ρ S).bind enumR := by rw [evI]; rfl
/-! ### statements -/
def asgR (tg : Tg) (ρ : Env) (d : D) (S : Store) : SR := match bindT tg d ρ with
  | some ρ1 => .nx ρ1 S
  | none => .bad
@[simp] theorem q_asg {tg : Tg} : evS F n (.asg tg e) ρ S = (evE F e ρ S).then (asgR tg ρ) := by rw [evS]; rfl
@[simp] theorem q_expr : evS F n (.expr e) ρ S = (evE F e ρ S).then fun _ S1 => .nx ρ S1 := by rw [evS]
@[simp] theorem q_ret : evS F n (.ret e) ρ S = (evE F e ρ S).then fun d S1 => .rt d S1 := by rw [evS]
@[simp] theorem q_iff {t : E} {x y : List Sm} : evS F n (.iff t x y) ρ S = (evE F t ρ S).then fun v S1 => onB v (evSs F n x ρ S1) (evSs F n y ρ S1) .bad := by rw [evS]; rfl
@[simp] theorem q_raise {c : Nat} {x m : Str} : evS F n (.raise c x m) ρ S = .ex c S := by rw [evS]
@[simp] theorem q_snil : evSs F n [] ρ S = .nx ρ S := by rw [evSs]
@[simp] theorem q_scons {x : Sm} {r : List Sm} : evSs F n (x :: r) ρ S = (evS F n x ρ S).bind fun ρ1 S1 => evSs F n r ρ1 S1 := by rw [evSs]
def forR (tg : Tg) (f : Env → Store → SR) (ρ : Env) (w : Option Nat × List D) (S : Store) : SR := match w.1, allP w.2 with
  | none, some xs => loop tg f xs ρ S
  | _, _ => .bad
@[simp] theorem q_for {tg : Tg} {it : It} {body : List Sm} : evS F n (.for_ tg it body) ρ S = (evI F it ρ S).then (forR tg (evSs F n body) ρ) := by rw [evS]; rfl
def newR (n i j : Nat) (ρ : Env) (d : D) (S1 : Store) : SR := match d with
  | .p (.lst xs) => if n + j < S1.length then .nx ((killR (n + j) ρ).set i (some (.ref (n + j)))) (S1.set (n + j) (.lst xs)) else .bad
  | _ => .bad
@[simp] theorem q_new {i j : Nat} {x : Str} : evS F n (.new i x j e) ρ S = (evE F e ρ S).then (newR n i j ρ) := by rw [evS]; rfl
def appR (ρ : Env) (d x : D) (S2 : Store) : SR := match d, x with
    | .ref k, .p z => match S2[k]? with
      | some (.lst xs) => if xs.length < LIM then .nx ρ (S2.set k (.lst (xs ++ [z]))) else .bad
      | _ => .bad
    | _, _ => .bad
@[simp] theorem q_app {o : E} : evS F n (.app o e) ρ S = (evE F o ρ S).then fun d S1 => if isL S1 d then (evE F e ρ S1).then fun x S2 => appR ρ d x S2 else .bad := by rw [evS]; rfl
end
end G9

/-! text Q1 -/
/-! G9.Q1: loops and comprehensions that leave the store; data. -/
namespace G9
open PySem (Str)
section
variable {F : FS} {ρ : Env} {S : Store}
/-- a comprehension whose turns leave the store -/
theorem comp_pure {lk : Option Nat} {f : D → Store → R (Option P)} {g : D → Option P} : ∀ {ds : List D} {S : Store}, still lk S S = true → (∀ d ∈ ds, f d S = .ok (g d) S) → comp lk f ds S = .ok (ds.filterMap g) S
  | [], S, _, _ => by rw [comp]; rfl
  | d :: r, S, hl, h => by
    rw [comp, h d List.mem_cons_self]
    simp only [R.calm, R.bind_ok, hl, if_true]
    rw [comp_pure hl fun d hd => h d (List.mem_cons_of_mem _ hd)]
    simp only [R.bind_ok]
    cases e : g d <;> simp [e]
theorem lc_pure {own : List (Str × Nat)} {tg : Tg} {it : It} {cond : Option E} {elt : E} {ds : List D} (g : D → Option P) (hi : evI F it ρ S = .ok (none, ds) S) (hd : ds.length ≤ LIM) (h : ∀ d ∈ ds, lcQ F tg cond elt (wipeE ρ own) d S = .ok (g d) S) : evE F (.lc own tg it cond elt) ρ S = .ok (.p (.lst (ds.filterMap g))) S := by
  rw [q_lc, hi]
  simp only [R.bind_ok]
  rw [comp_pure rfl h]
  simp only [R.bind_ok]
  rw [if_pos (Nat.le_trans (List.length_filterMap_le ..) hd)]
theorem lc_P {own : List (Str × Nat)} {tg : Tg} {it : It} {cond : Option E} {elt : E} {xs : List P} (g : P → Option P) (hi : evI F it ρ S = .ok (none, xs.map .p) S) (hd : xs.length ≤ LIM) (h : ∀ x ∈ xs, lcQ F tg cond elt (wipeE ρ own) (.p x) S = .ok (g x) S) : evE F (.lc own tg it cond elt) ρ S = .ok (.p (.lst (xs.filterMap g))) S := by
  rw [lc_pure (ds := xs.map .p) (fun d => match d with
    | .p x => g x
    | _ => none) hi (by simpa using hd)]
  · congr 3
    rw [List.filterMap_map]
    rfl
  · intro d hd
    obtain ⟨x, hx, rfl⟩ := List.mem_map.mp hd
    exact h x hx
theorem lc_M {own : List (Str × Nat)} {tg : Tg} {it : It} {elt : E} {xs : List P} (f : P → P) (hi : evI F it ρ S = .ok (none, xs.map .p) S) (hd : xs.length ≤ LIM) (h : ∀ x ∈ xs, lcQ F tg none elt (wipeE ρ own) (.p x) S = .ok (some (f x)) S) : evE F (.lc own tg it none elt) ρ S = .ok (.p (.lst (xs.map f))) S := by
  rw [lc_P (fun x => some (f x)) hi hd h]
  congr 3
  induction xs with
  | nil => rfl
  | cons x r ih => simp
theorem rangeL_eq (lo : Int) (n : Nat) : rangeL lo n = ((List.range n).map fun i => P.int (lo + (i : Nat))).map D.p := by
  induction n generalizing lo with
  | zero => rfl
  | succ n ih =>
    rw [List.range_succ_eq_map, rangeL, ih]
    simp only [List.map_cons, List.map_map]
    congr 1
    · simp
    · congr 1
      funext i
      simp only [Function.comp]
      congr 2
      push_cast
      omega
theorem zipD_eq (xs ys : List P) : zipD (xs.map .p) (ys.map .p) = ((xs.zip ys).map fun q => P.tup [q.1, q.2]).map D.p := by
  induction xs generalizing ys with
  | nil => simp [zipD]
  | cons x r ih =>
    cases ys with
    | nil => simp [zipD]
    | cons y t =>
      simp only [List.map_cons, zipD, ih, List.zip_cons_cons]
      rfl
theorem enumD_eq (n : Nat) (xs : List P) : enumFrom n (xs.map .p) = ((xs.zipIdx n).map fun q => P.tup [.int q.2, q.1]).map D.p := by
  induction xs generalizing n with
  | nil => rfl
  | cons x r ih =>
    simp only [List.map_cons, enumFrom, ih, List.zipIdx_cons]
    rfl
@[simp] theorem allInt_map (ns : List Int) : allInt (ns.map .int) = some ns := by
  induction ns with
  | nil => rfl
  | cons x r ih => simp [allInt, ih]
@[simp] theorem allBl_map (ns : List Bool) : allBl (ns.map .bl) = some ns := by
  induction ns with
  | nil => rfl
  | cons x r ih => simp [allBl, ih]
@[simp] theorem allP_map' (xs : List P) : allP (xs.map D.p) = some xs := by
  induction xs with
  | nil => rfl
  | cons x r ih => simp [allP, ih]
@[simp] theorem view_P {x : P} : view S (.p x) = some x := rfl
@[simp] theorem view0_P {x : P} : view0 S (.p x) = some x := rfl
@[simp] theorem items_tup {xs : List P} : items S (.p (.tup xs)) = some (xs.map .p) := rfl
@[simp] theorem items_lst {xs : List P} : items S (.p (.lst xs)) = some (xs.map .p) := rfl
@[simp] theorem seqR_tup {xs : List P} : seqR (.p (.tup xs)) S = .ok (none, xs.map .p) S := rfl
@[simp] theorem seqR_lst {xs : List P} : seqR (.p (.lst xs)) S = .ok (none, xs.map .p) S := rfl
@[simp] theorem zipR_tup {xs ys : List P} : zipR (.p (.tup xs)) (.p (.tup ys)) S = .ok (none, zipD (xs.map .p) (ys.map .p)) S := rfl
@[simp] theorem enumR_tup {xs : List P} : enumR (.p (.tup xs)) S = .ok (none, enumFrom 0 (xs.map .p)) S := rfl
@[simp] theorem enumR_lst {xs : List P} : enumR (.p (.lst xs)) S = .ok (none, enumFrom 0 (xs.map .p)) S := rfl
@[simp] theorem len_tup {xs : List P} : bi S .len (.p (.tup xs)) = .ok (.p (.int xs.length)) S := rfl
@[simp] theorem len_lst {xs : List P} : bi S .len (.p (.lst xs)) = .ok (.p (.int xs.length)) S := rfl
@[simp] theorem all_lst {bs : List Bool} : bi S .all (.p (.lst (bs.map .bl))) = .ok (.p (.bl (bs.all id))) S := by simp [bi, lstOf]
@[simp] theorem any_lst {bs : List Bool} : bi S .any (.p (.lst (bs.map .bl))) = .ok (.p (.bl (bs.any id))) S := by simp [bi, lstOf]
@[simp] theorem sum_lst {ns : List Int} : bi S .sum (.p (.lst (ns.map .int))) = .ok (.p (.int ns.sum)) S := by simp [bi, seqOf]
@[simp] theorem tuple_lst {xs : List P} : bi S .tuple (.p (.lst xs)) = .ok (.p (.tup xs)) S := rfl
@[simp] theorem list_tup {xs : List P} : bi S .list (.p (.tup xs)) = .ok (.p (.lst xs)) S := rfl
@[simp] theorem cmp_lt {i j : Int} : cmpR S .lt (.p (.int i)) (.p (.int j)) = .ok (.p (.bl (decide (i < j)))) S := rfl
@[simp] theorem cmp_le {i j : Int} : cmpR S .le (.p (.int i)) (.p (.int j)) = .ok (.p (.bl (decide (i ≤ j)))) S := rfl
@[simp] theorem cmp_gt {i j : Int} : cmpR S .gt (.p (.int i)) (.p (.int j)) = .ok (.p (.bl (decide (j < i)))) S := rfl
@[simp] theorem cmp_ge {i j : Int} : cmpR S .ge (.p (.int i)) (.p (.int j)) = .ok (.p (.bl (decide (j ≤ i)))) S := rfl
@[simp] theorem cmp_eqI {i j : Int} : cmpR S .eq (.p (.int i)) (.p (.int j)) = .ok (.p (.bl (decide (i = j)))) S := by
  show R.ok (D.p (P.bl (i == j))) S = _
  congr 3
@[simp] theorem cmp_neI {i j : Int} : cmpR S .ne (.p (.int i)) (.p (.int j)) = .ok (.p (.bl (!decide (i = j)))) S := by
  show R.ok (D.p (P.bl (!(i == j)))) S = _
  congr 3
theorem cmp_eqP {x y : P} (h1 : shp 9 x = true) (h2 : shp 9 y = true) : cmpR S .eq (.p x) (.p y) = .ok (.p (.bl (eqP x y))) S := by simp [cmpR, cmp, h1, h2]
theorem cmp_neP {x y : P} (h1 : shp 9 x = true) (h2 : shp 9 y = true) : cmpR S .ne (.p x) (.p y) = .ok (.p (.bl (!eqP x y))) S := by simp [cmpR, cmp, h1, h2]
@[simp] theorem bin_add {i j : Int} : bin S .add (.p (.int i)) (.p (.int j)) = .ok (.p (.int (i + j))) S := rfl
@[simp] theorem bin_sub {i j : Int} : bin S .sub (.p (.int i)) (.p (.int j)) = .ok (.p (.int (i - j))) S := rfl
theorem bin_tup {xs ys : List P} (h : xs.length + ys.length ≤ LIM) : bin S .add (.p (.tup xs)) (.p (.tup ys)) = .ok (.p (.tup (xs ++ ys))) S := by simp [bin, h]
theorem bin_lst {xs ys : List P} (h : xs.length + ys.length ≤ LIM) : bin S .add (.p (.lst xs)) (.p (.lst ys)) = .ok (.p (.lst (xs ++ ys))) S := by simp [bin, h]
theorem getAt_nat {α : Type} {xs : List α} {i : Nat} (h : i < xs.length) : getAt xs (i : Int) = some xs[i] := by
  unfold getAt ix
  simp [h]
theorem idx_nat {xs : List P} {i : Nat} {x : P} (h : xs[i]? = some x) : idxR (.p (.tup xs)) (.p (.int (i : Int))) S = .ok (.p x) S := by
  obtain ⟨hl, e⟩ := List.getElem?_eq_some_iff.mp h
  have := getAt_nat (xs := xs.map D.p) (i := i) (by simpa using hl)
  simp only [idxR, items_tup, this]
  simp [e]
theorem idx_natL {xs : List P} {i : Nat} {x : P} (h : xs[i]? = some x) : idxR (.p (.lst xs)) (.p (.int (i : Int))) S = .ok (.p x) S := by
  obtain ⟨hl, e⟩ := List.getElem?_eq_some_iff.mp h
  have := getAt_nat (xs := xs.map D.p) (i := i) (by simpa using hl)
  simp only [idxR, items_lst, this]
  simp [e]
@[simp] theorem tup1 {x : P} : tupR [.p x] S = .ok (.p (.tup [x])) S := by simp [tupR, mkTup, allP, LIM]
@[simp] theorem tup2 {x y : P} : tupR [.p x, .p y] S = .ok (.p (.tup [x, y])) S := by simp [tupR, mkTup, allP, LIM]
@[simp] theorem tup0 : tupR [] S = .ok (.p (.tup [])) S := by simp [tupR, mkTup, allP, LIM]
@[simp] theorem lst0 : lstR [] S = .ok (.p (.lst [])) S := by simp [lstR, allP, LIM]
@[simp] theorem lst1 {x : P} : lstR [.p x] S = .ok (.p (.lst [x])) S := by simp [lstR, allP, LIM]
@[simp] theorem frz_p {n : Nat} {x : P} : frz n S (.p x) = some (.p x) := rfl
@[simp] theorem ty_ii {i : Int} : isTy (.int i) .int = true := rfl
@[simp] theorem ty_ib {i : Int} : isTy (.int i) .bool = false := rfl
@[simp] theorem ty_bi {i : Bool} : isTy (.bl i) .int = true := rfl
@[simp] theorem ty_bb {i : Bool} : isTy (.bl i) .bool = true := rfl
@[simp] theorem ty_tt {i : List P} : isTy (.tup i) .tuple = true := rfl
@[simp] theorem ty_ti {i : List P} : isTy (.tup i) .int = false := rfl
@[simp] theorem ty_lt {i : List P} : isTy (.lst i) .tuple = false := rfl
@[simp] theorem ty_li {i : List P} : isTy (.lst i) .int = false := rfl
@[simp] theorem ty_st {i : Str} : isTy (.str i) .tuple = false := rfl
@[simp] theorem ty_si {i : Str} : isTy (.str i) .int = false := rfl
@[simp] theorem ty_it {i : Int} : isTy (.int i) .tuple = false := rfl
@[simp] theorem ty_bt {i : Bool} : isTy (.bl i) .tuple = false := rfl
@[simp] theorem ty_n {t : Ty} : isTy .non t = false := rfl
@[simp] theorem all_map {α : Type} {f : α → Bool} {xs : List α} : bi S .all (.p (.lst (xs.map fun x => P.bl (f x)))) = .ok (.p (.bl (xs.all f))) S := by
  rw [show (xs.map fun x => P.bl (f x)) = (xs.map f).map P.bl by simp [Function.comp_def], all_lst, List.all_map]
  rfl
@[simp] theorem any_map {α : Type} {f : α → Bool} {xs : List α} : bi S .any (.p (.lst (xs.map fun x => P.bl (f x)))) = .ok (.p (.bl (xs.any f))) S := by
  rw [show (xs.map fun x => P.bl (f x)) = (xs.map f).map P.bl by simp [Function.comp_def], any_lst, List.any_map]
  rfl
/-- what a frame hands back -/
def endR (S : Store) (r : SR) : R D := match r with
    | .nx _ S' => .ok (.p .non) (S'.take S.length)
    | .rt r S' => match frz S.length S' r with
      | some r' => .ok r' (S'.take S.length)
      | none => .bad
    | .ex c S' => .exc c (S'.take S.length)
    | .bad => .bad
@[simp] theorem endR_rt {x : P} {S' : Store} : endR S (.rt (.p x) S') = .ok (.p x) (S'.take S.length) := rfl
@[simp] theorem endR_nx {ρ : Env} {S' : Store} : endR S (.nx ρ S') = .ok (.p .non) (S'.take S.length) := rfl
@[simp] theorem endR_ex {c : Nat} {S' : Store} : endR S (.ex c S') = .exc c (S'.take S.length) := rfl
theorem run_eq {d : Fd} {args : List D} (hl : args.length = d.np) : runFd F d args S = endR S (evSs F S.length d.body (args.map some ++ List.replicate (d.names.length - d.np) none) (S ++ List.replicate d.cells .nil)) := by
  unfold runFd
  rw [if_pos hl]
  rfl
/-- a def's end -/
theorem run_rt {d : Fd} {args : List D} {x : P} (hl : args.length = d.np) (h : evSs F S.length d.body (args.map some ++ List.replicate (d.names.length - d.np) none) (S ++ List.replicate d.cells .nil) = .rt (.p x) (S ++ T)) : runFd F d args S = .ok (.p x) S := by
  unfold runFd
  rw [if_pos hl, h]
  simp [frz]
end
end G9
namespace G9
/-- a for whose turns go on -/
theorem loop_inv {α : Type} {tg : Tg} {f : Env → Store → SR} (I : α → Env → Store → Prop) (g : α → P → α) : ∀ {xs : List P} {a : α} {ρ : Env} {S : Store}, (∀ x ∈ xs, ∀ a ρ S, I a ρ S → ∃ ρ1 ρ2 S2, bindT tg (.p x) ρ = some ρ1 ∧ f ρ1 S = .nx ρ2 S2 ∧ I (g a x) ρ2 S2) → I a ρ S → ∃ ρ' S', loop tg f xs ρ S = .nx ρ' S' ∧ I (xs.foldl g a) ρ' S'
  | [], a, ρ, S, _, h => ⟨ρ, S, by rw [loop], h⟩
  | x :: r, a, ρ, S, hs, h => by
    obtain ⟨ρ1, ρ2, S2, e1, e2, h2⟩ := hs x List.mem_cons_self a ρ S h
    obtain ⟨ρ', S', e3, h3⟩ := loop_inv I g (xs := r) (fun x hx => hs x (List.mem_cons_of_mem _ hx)) h2
    refine ⟨ρ', S', ?_, h3⟩
    rw [loop, e1]
    simp only [e2, SR.bind_nx]
    exact e3
/-- .. by the places -/
theorem loop_invI {tg : Tg} {f : Env → Store → SR} (I : Nat → Env → Store → Prop) : ∀ {xs : List P} {n : Nat} {ρ : Env} {S : Store}, (∀ (i : Nat) x, xs[i]? = some x → ∀ ρ S, I (n + i) ρ S → ∃ ρ1 ρ2 S2, bindT tg (.p x) ρ = some ρ1 ∧ f ρ1 S = .nx ρ2 S2 ∧ I (n + i + 1) ρ2 S2) → I n ρ S → ∃ ρ' S', loop tg f xs ρ S = .nx ρ' S' ∧ I (n + xs.length) ρ' S'
  | [], n, ρ, S, _, h => ⟨ρ, S, by rw [loop], h⟩
  | x :: r, n, ρ, S, hs, h => by
    obtain ⟨ρ1, ρ2, S2, e1, e2, h2⟩ := hs 0 x rfl ρ S h
    obtain ⟨ρ', S', e3, h3⟩ := loop_invI I (xs := r) (n := n + 1) (fun i x hx => by
      have := hs (i + 1) x (by simpa using hx)
      rw [show n + (i + 1) = n + 1 + i by omega] at this
      exact this) h2
    refine ⟨ρ', S', ?_, by rw [List.length_cons, show n + (r.length + 1) = n + 1 + r.length by omega]; exact h3⟩
    rw [loop, e1]
    simp only [e2, SR.bind_nx]
    exact e3
end G9
namespace G9
open PySem (Str)
theorem lc_A {F : FS} {ρ : Env} {S : Store} {α : Type} {own : List (Str × Nat)} {tg : Tg} {it : It} {cond : Option E} {elt : E} {xs : List α} (enc : α → P) (g : α → Option P) (hi : evI F it ρ S = .ok (none, (xs.map enc).map .p) S) (hd : xs.length ≤ LIM) (h : ∀ x ∈ xs, lcQ F tg cond elt (wipeE ρ own) (.p (enc x)) S = .ok (g x) S) : evE F (.lc own tg it cond elt) ρ S = .ok (.p (.lst (xs.filterMap g))) S := by
  rw [q_lc, hi]
  simp only [R.bind_ok]
  have key : ∀ l : List α, (∀ x ∈ l, lcQ F tg cond elt (wipeE ρ own) (.p (enc x)) S = .ok (g x) S) → comp none (lcQ F tg cond elt (wipeE ρ own)) ((l.map enc).map .p) S = .ok (l.filterMap g) S := by
    intro l hl
    induction l with
    | nil => rw [List.map_nil, List.map_nil, comp]; rfl
    | cons x r ih =>
      rw [List.map_cons, List.map_cons, comp, hl x List.mem_cons_self]
      simp only [R.calm, R.bind_ok, still, if_true]
      rw [ih fun y hy => hl y (List.mem_cons_of_mem _ hy)]
      simp only [R.bind_ok]
      cases e : g x <;> simp [e]
  rw [key xs h]
  simp only [R.bind_ok]
  rw [if_pos (Nat.le_trans (List.length_filterMap_le ..) hd)]
end G9
namespace G9
theorem run_eq0 {F : FS} {S : Store} {d : Fd} {args : List D} (hl : args.length = d.np) (h0 : d.cells = 0) : runFd F d args S = endR S (evSs F S.length d.body (args.map some ++ List.replicate (d.names.length - d.np) none) S) := by
  rw [run_eq hl, h0, List.replicate_zero, List.append_nil]
end G9
namespace G9
open PySem (Str)
theorem for_ok {F : FS} {n : Nat} {tg : Tg} {it : It} {body : List Sm} {ρ : Env} {S S1 : Store} {xs : List P} {r : SR} (hi : evI F it ρ S = .ok (none, xs.map .p) S1) (hl : loop tg (evSs F n body) xs ρ S1 = r) : evS F n (.for_ tg it body) ρ S = r := by
  rw [q_for, hi]
  simp only [R.then_ok, forR, allP_map']
  exact hl
theorem seqS {F : FS} {n : Nat} {x : Sm} {r : List Sm} {ρ ρ1 : Env} {S S1 : Store} (h : evS F n x ρ S = .nx ρ1 S1) : evSs F n (x :: r) ρ S = evSs F n r ρ1 S1 := by
  rw [q_scons, h]
  rfl
theorem lastS {F : FS} {n : Nat} {x : Sm} {ρ : Env} {S : Store} {r : SR} (h : evS F n x ρ S = r) : evSs F n [x] ρ S = r := by
  rw [q_scons, h]
  cases r <;> simp
end G9
namespace G9
theorem filterMap_if {α β : Type} (p : α → Bool) (f : α → β) (l : List α) : l.filterMap (fun x => if p x = true then some (f x) else none) = (l.filter p).map f := by
  induction l with
  | nil => rfl
  | cons x r ih =>
    rw [List.filterMap_cons, List.filter_cons, ih]
    by_cases c : p x = true
    · simp only [c, if_true]; rfl
    · simp only [c, Bool.false_eq_true, if_false]
end G9

/-! text Q2 -/
/-! G9.Q2: markets. -/
namespace G9
open PySem (Str)
abbrev Fun := List D → Store → R D
def isBetween : P → Int → Int → Bool
  | .int i, lo, hi => decide (lo ≤ i) && decide (i ≤ hi)
  | _, _, _ => false
def isRowOf (n : Int) : P → Bool
  | .tup xs => decide ((xs.length : Int) = n) && xs.all (isBetween · 0 20)
  | _ => false
/-- lists no longer than that -/
def szP : P → Prop
  | .tup xs => xs.length ≤ LIM
  | _ => True
def SpBetween (g : Fun) : Prop := ∀ x lo hi S, g [.p x, .p (.int lo), .p (.int hi)] S = .ok (.p (.bl (isBetween x lo hi))) S
def SpRowOf (g : Fun) : Prop := ∀ n x S, szP x → g [.p (.int n), .p x] S = .ok (.p (.bl (isRowOf n x))) S
section
variable {F : FS} {ν : Nat → Nat}
theorem ok_is_between : SpBetween (runFd F (d_is_between ν)) := fun x lo hi S => by
  cases x <;> simp [runFd, d_is_between, isBetween]
  rename_i i
  by_cases h : lo ≤ i <;> by_cases h2 : i ≤ hi <;> simp [h, h2]
theorem ok_is_row_of (hb : SpBetween (F (ν 0))) : SpRowOf (runFd F (d_is_row_of ν)) := fun n x S hx => by
  rw [run_eq rfl]
  cases x <;> simp [d_is_row_of, isRowOf]
  rename_i xs
  by_cases h : (xs.length : Int) = n
  · simp [h]
    rw [lc_M (xs := xs) (fun x => .bl (isBetween x 0 20)) (by simp) hx]
    · simp
    · intro x hx
      simp [lcQ, bindT, wipeE, turnR, hb x 0 20 S]
  · simp [h]
/-! ### markets -/
def rowP (r : List Int) : P := .tup (r.map .int)
def mktP (M : List (List Int)) : P := .tup (M.map rowP)
structure Mkt (M : List (List Int)) (m k : Nat) : Prop where
  len : M.length = m
  m1 : 1 ≤ m
  m5 : m ≤ 5
  row : ∀ r ∈ M, r.length = k
  k1 : 1 ≤ k
  k5 : k ≤ 5
  val : ∀ r ∈ M, ∀ x ∈ r, 0 ≤ x ∧ x ≤ 20
def SpIsMarket (g : Fun) : Prop := ∀ M m k S, Mkt M m k → g [.p (mktP M)] S = .ok (.p (.bl true)) S
def SpCheckMarket (g : Fun) : Prop := ∀ M m k S, Mkt M m k → g [.p (mktP M)] S = .ok (.p .non) S
theorem Mkt.rowOk {M : List (List Int)} {m k : Nat} (h : Mkt M m k) {r : List Int} (hr : r ∈ M) : isRowOf k (rowP r) = true := by
  unfold isRowOf rowP
  simp only [List.length_map, h.row r hr, List.all_map, Bool.and_eq_true, decide_eq_true_eq, List.all_eq_true, true_and]
  intro x hx
  simp [isBetween, h.val r hr x hx]
theorem lim6 {n : Nat} (h : n ≤ 10000) : n ≤ LIM := by unfold LIM; omega
theorem ok_is_market (hr : SpRowOf (F (ν 1))) : SpIsMarket (runFd F (d_is_market ν)) := fun M m k S h => by
  have e1 : (1 : Int) ≤ (M.length : Int) := by have := h.len; have := h.m1; omega
  have e2 : (M.length : Int) ≤ 5 := by have := h.len; have := h.m5; omega
  have e3 : (1 : Int) ≤ (k : Int) := by have := h.k1; omega
  have e4 : (k : Int) ≤ 5 := by have := h.k5; omega
  obtain ⟨r0, hr0⟩ : ∃ r0, M[0]? = some r0 := ⟨M[0]'(by omega), List.getElem?_eq_getElem _⟩
  have l0 : r0.length = k := h.row r0 (List.mem_of_getElem? hr0)
  have i0 : ∀ S, idxR (.p (.tup (M.map rowP))) (.p (.int 0)) S = .ok (.p (rowP r0)) S := fun S => idx_nat (i := 0) (by rw [List.getElem?_map, hr0]; rfl)
  rw [run_eq rfl]
  simp [d_is_market, mktP, e1, e2, i0]
  simp [rowP, l0, e3, e4]
  rw [lc_M (xs := M.map rowP) (fun x => .bl (isRowOf k x)) (by simp) (by rw [List.length_map]; exact lim6 (by omega))]
  · rw [R.bind_ok, all_map (xs := M.map rowP)]
    have : (M.map rowP).all (isRowOf k) = true := by
      rw [List.all_map, List.all_eq_true]
      exact fun r hr => h.rowOk hr
    simp [this]
  · intro x hx
    obtain ⟨r, hr', rfl⟩ := List.mem_map.mp hx
    simp [lcQ, bindT, wipeE, turnR, i0]
    simp [rowP, l0]
    rw [← rowP]
    rw [hr k (rowP r) S (lim6 (by simp [rowP, h.row r hr']; have := h.k5; omega))]
    simp
theorem ok_check_market (hm : SpIsMarket (F (ν 2))) : SpCheckMarket (runFd F (d_check_market ν)) := fun M m k S h => by
  rw [run_eq rfl]
  simp [d_check_market, hm M m k _ h]
end
end G9

/-! text Q3 -/
/-! G9.Q3: totals, assignments. -/
namespace G9
open PySem (Str)
/-- what an assignment is worth -/
def tot : List (List Int) → List Int → Int
  | r :: M, g :: a => (if 0 ≤ g then r.getD g.toNat 0 else 0) + tot M a
  | _, _ => 0
def Fits (M : List (List Int)) (a : List Int) : Prop := a.length = M.length ∧ ∀ q ∈ M.zip a, q.2 < (q.1.length : Int)
def SpTotalOf (g : Fun) : Prop := ∀ M a S, M.length ≤ 10000 → Fits M a → g [.p (mktP M), .p (rowP a)] S = .ok (.p (.int (tot M a))) S
section
variable {F : FS} {ν : Nat → Nat}
theorem tot_sum : ∀ (M : List (List Int)) (a : List Int), ((M.zip a).filterMap fun q => if 0 ≤ q.2 then some (q.1.getD q.2.toNat 0) else none).sum = tot M a
  | [], a => by simp [tot]
  | _ :: _, [] => by simp [tot]
  | r :: M, g :: a => by
    have ih := tot_sum M a
    simp only [List.zip_cons_cons, List.filterMap_cons, tot]
    by_cases h : 0 ≤ g
    · simp only [h, if_true, List.sum_cons, ih]
    · simp only [h, if_false, ih]; omega
theorem zip_enc (M : List (List Int)) (a : List Int) : zipD ((M.map rowP).map .p) ((a.map P.int).map .p) = ((M.zip a).map fun q => P.tup [rowP q.1, .int q.2]).map D.p := by
  rw [zipD_eq, List.zip_map, List.map_map, List.map_map, List.map_map]
  rfl
theorem ok_total_of : SpTotalOf (runFd F (d_total_of ν)) := fun M a S hM hf => by
  rw [run_eq0 rfl rfl]
  simp only [d_total_of, q_scons, q_ret, q_bi]
  rw [lc_A (xs := M.zip a) (fun q => .tup [rowP q.1, .int q.2]) (fun q => if 0 ≤ q.2 then some (.int (q.1.getD q.2.toNat 0)) else none)]
  · have e : ((M.zip a).filterMap fun q => if 0 ≤ q.2 then some (P.int (q.1.getD q.2.toNat 0)) else none) = ((M.zip a).filterMap fun q => if 0 ≤ q.2 then some (q.1.getD q.2.toNat 0) else none).map P.int := by
      rw [List.map_filterMap]
      congr 1
      funext q
      split <;> rfl
    rw [e, R.bind_ok, sum_lst, tot_sum]
    simp
  · show (R.ok (none, zipD ((M.map rowP).map .p) ((a.map P.int).map .p)) S : R (Option Nat × List D)) = _
    rw [zip_enc]
  · rw [List.length_zip]; exact lim6 (by omega)
  · intro q hq
    have hl := hf.2 q hq
    simp [lcQ, bindT, setAll, wipeE, turnR]
    by_cases h : 0 ≤ q.2
    · have e : q.2 = ((q.2.toNat : Nat) : Int) := by omega
      have hlt : q.2.toNat < q.1.length := by omega
      simp only [h, if_true]
      have := idx_nat (S := S) (xs := q.1.map P.int) (i := q.2.toNat) (x := .int (q.1.getD q.2.toNat 0)) (by simp [hlt])
      rw [← e] at this
      rw [rowP, this]
      simp
    · simp [h]
end
end G9

/-! text Q4 -/
/-! G9.Q4: all assignments. -/
namespace G9
open PySem (Str)
def goods (k : Nat) : List Int := (List.range (k + 1)).map fun i : Nat => -1 + (i : Int)
def ext1 (k : Nat) (a : List Int) : List (List Int) := (goods k).filterMap fun g => if g = -1 ∨ g ∉ a then some (a ++ [g]) else none
def allFrom (found : List (List Int)) (M : List (List Int)) : List (List Int) := M.foldl (fun found r => found.flatMap (ext1 r.length)) found
def allA (M : List (List Int)) : List (List Int) := allFrom [[]] M
def SpAllA (g : Fun) : Prop := ∀ M S, M.length ≤ 5 → (∀ r ∈ M, r.length ≤ 5) → g [.p (mktP M)] S = .ok (.p (.lst ((allA M).map rowP))) S
def pO (o : Option D) : Prop := o = none ∨ ∃ x, o = some (.p x)
def kill1 (k : Nat) : Option D → Option D
  | some (.ref j) => if j = k then none else some (.ref j)
  | some (.tp _) => none
  | o => o
theorem killR_nil {k : Nat} : killR k [] = [] := rfl
theorem killR_cons {k : Nat} {o : Option D} {r : Env} : killR k (o :: r) = kill1 k o :: killR k r := by
  unfold killR
  rw [List.map_cons]
  rfl
theorem kill1_p {k : Nat} {x : P} : kill1 k (some (.p x)) = some (.p x) := rfl
theorem kill1_s {k : Nat} {x : List Int} : kill1 k (some (.scr x)) = some (.scr x) := rfl
theorem kill1_n {k : Nat} : kill1 k none = none := rfl
theorem kill1_r {k : Nat} : kill1 k (some (.ref k)) = none := by simp [kill1]
theorem kill1_o {k : Nat} {o : Option D} (h : pO o) : kill1 k o = o := by
  rcases h with rfl | ⟨x, rfl⟩ <;> rfl
theorem killR_p {k : Nat} : ∀ {ρ : Env}, (∀ o ∈ ρ, pO o) → killR k ρ = ρ
  | [], _ => rfl
  | o :: r, h => by
    unfold killR at *
    rw [List.map_cons]
    have ih := killR_p (k := k) (ρ := r) fun o ho => h o (List.mem_cons_of_mem _ ho)
    unfold killR at ih
    rw [ih]
    rcases h o List.mem_cons_self with rfl | ⟨x, rfl⟩ <;> rfl
theorem inP_int (g : Int) (a : List Int) : inP (.int g) (a.map .int) = decide (g ∈ a) := by
  unfold inP
  rw [List.any_map]
  rw [Bool.eq_iff_iff]
  simp [eqP, List.any_eq_true]
theorem shp_ints (a : List Int) : shp 9 (.tup (a.map .int)) = true := by
  simp [shp]
theorem cmp_notinT {S : Store} {g : Int} {a : List Int} : cmpR S .notin (.p (.int g)) (.p (rowP a)) = .ok (.p (.bl (!decide (g ∈ a)))) S := by
  simp [cmpR, cmp, rowP, seqOf, shp_ints, shp, inP_int]
theorem ext1_len (k : Nat) (a : List Int) : (ext1 k a).length ≤ k + 1 := by
  unfold ext1
  refine Nat.le_trans (List.length_filterMap_le ..) ?_
  simp [goods]
theorem ext1_mem {k : Nat} {a b : List Int} (h : b ∈ ext1 k a) : b.length = a.length + 1 := by
  unfold ext1 at h
  obtain ⟨g, _, h2⟩ := List.mem_filterMap.mp h
  split at h2
  · cases h2; simp
  · cases h2
theorem flat_len {α : Type} {f : α → List α} {c : Nat} (h : ∀ x, (f x).length ≤ c) : ∀ (l : List α), (l.flatMap f).length ≤ l.length * c
  | [] => by simp
  | x :: r => by
    rw [List.flatMap_cons, List.length_append, List.length_cons, Nat.succ_mul]
    have := flat_len h r
    have := h x
    omega
section
variable {F : FS} {ν : Nat → Nat}
/-- the inner turns: one assignment longer by each good -/
theorem ext_turn {S : Store} {ρ : Env} {k : Nat} {a : List Int} {r : List Int} (hk : r.length ≤ 5) (hal : a.length ≤ 1000) (h4 : ρ[4]? = some (some (.p (rowP a)))) (h2 : ρ[2]? = some (some (.p (rowP r)))) (h5 : 5 < ρ.length) :
    evE F (.lc [((s "good"), 5)] (.nm 5 (s "good")) (.rng (some (.neg (.int 1))) (.bi .len (.v 2 (s "row")))) (some (.or (.cmp .eq (.v 5 (s "good")) (.neg (.int 1))) (.cmp .notin (.v 5 (s "good")) (.v 4 (s "some"))))) (.bin .add (.v 4 (s "some")) (.tup [(.v 5 (s "good"))]))) ρ S = .ok (.p (.lst ((ext1 r.length a).map rowP))) S := by
  rw [lc_A (xs := goods r.length) P.int (fun g => if g = -1 ∨ g ∉ a then some (rowP (a ++ [g])) else none)]
  · congr 3
    unfold ext1
    rw [List.map_filterMap]
    congr 1
    funext g
    split <;> rfl
  · simp [h2, rowP, rngR, rngOf, okRng]
    have e1 : (r.length : Int) ≤ 1000000 := by omega
    have e2 : (-1000000 : Int) ≤ (r.length : Int) := by omega
    have e3 : ((r.length : Int) + 1).toNat = r.length + 1 := by omega
    simp [e1, e2, e3, rangeL_eq, goods, Function.comp_def]
  · unfold goods
    rw [List.length_map, List.length_range]
    exact lim6 (by omega)
  · intro g hg
    have w4 : ((ρ.set 5 none).set 5 (some (.p (.int g))))[4]? = some (some (.p (rowP a))) := by
      rw [List.getElem?_set_ne (by omega), List.getElem?_set_ne (by omega)]; exact h4
    have w5 : ((ρ.set 5 none).set 5 (some (.p (.int g))))[5]? = some (some (.p (.int g))) := by
      rw [List.getElem?_set_self (by simpa using h5)]
    simp only [lcQ, bindT, wipeE, turnR, q_or, q_cmp, q_v, w5, w4, q_neg, q_int, R.bind_ok, negR_int, cmp_eqI, onB_bl, cmp_notinT]
    have el : eltR (evE F (.bin .add (.v 4 (s "some")) (.tup [(.v 5 (s "good"))])) ((ρ.set 5 none).set 5 (some (.p (.int g)))) S) = .ok (some (rowP (a ++ [g]))) S := by
      simp only [q_bin, q_v, w4, w5, q_tup, q_cons, q_nil, R.bind_ok, tup1]
      rw [rowP, bin_tup (by rw [List.length_map]; exact lim6 (by simp; omega))]
      simp [rowP]
    by_cases c1 : g = -1
    · simp only [c1, decide_true, if_true, R.bind_ok, onB_bl, true_or]
      rw [c1] at el
      exact el
    · by_cases c2 : g ∈ a
      · simp [c1, c2]
      · simp only [c1, c2, decide_false, Bool.false_eq_true, if_false, Bool.not_false, R.bind_ok, onB_bl, if_true, not_false_eq_true, or_true]
        exact el
theorem lim6' {n : Nat} (h : n ≤ 1000000) : n ≤ LIM := by unfold LIM; omega
theorem getS {S : Store} {c : Cell} : (S ++ [c])[S.length]? = some c := by simp
theorem setS {S : Store} {c c' : Cell} : (S ++ [c]).set S.length c' = S ++ [c'] := by simp
def extR (ρ : Env) (d x : D) (S2 : Store) : SR := match d, x with
    | .ref k, .p (.lst zs) => match S2[k]? with
      | some (.lst xs) => if xs.length + zs.length ≤ LIM then .nx ρ (S2.set k (.lst (xs ++ zs))) else .bad
      | _ => .bad
    | _, _ => .bad
theorem q_ext {ρ : Env} {S : Store} {n : Nat} {o e : E} : evS F n (.ext o e) ρ S = (evE F o ρ S).then fun d S1 => if isL S1 d then (evE F e ρ S1).then fun x S2 => extR ρ d x S2 else .bad := by rw [evS]; rfl
def fzR (n i : Nat) (ρ : Env) (d : D) (S1 : Store) : SR := match d with
    | .ref k => if n ≤ k then (match S1[k]? with
      | some (.lst xs) => .nx ((killR k ρ).set i (some (.p (.lst xs)))) (S1.set k .nil)
      | _ => .bad) else .bad
    | _ => .bad
theorem q_fz {ρ : Env} {S : Store} {n i : Nat} {x : Str} {e : E} : evS F n (.fz i x e) ρ S = (evE F e ρ S).then (fzR n i ρ) := by rw [evS]; rfl
theorem flat_snoc {α β : Type} (f : α → List β) (l : List α) (x : α) : (l ++ [x]).flatMap f = l.flatMap f ++ f x := by simp
def stLonger : Sm := .ext (.v 3 (s "longer")) (.lc [((s "good"), 5)] (.nm 5 (s "good")) (.rng (some (.neg (.int 1))) (.bi .len (.v 2 (s "row")))) (some (.or (.cmp .eq (.v 5 (s "good")) (.neg (.int 1))) (.cmp .notin (.v 5 (s "good")) (.v 4 (s "some"))))) (.bin .add (.v 4 (s "some")) (.tup [(.v 5 (s "good"))])))
def stRow : List Sm := [.new 3 (s "longer") 0 (.lst []), .for_ (.nm 4 (s "some")) (.seq (.v 1 (s "found"))) [stLonger], .fz 1 (s "found") (.v 3 (s "longer"))]
/-- the inner loop -/
theorem inner_ok {S : Store} {m : P} {r : List Int} {found : List (List Int)} {o4 : Option D} (hr : r.length ≤ 5) (hf : ∀ a ∈ found, a.length ≤ 1000) (hl : found.length * 6 ≤ 100000) :
    ∃ o4', loop (.nm 4 (s "some")) (evSs F S.length [stLonger]) (found.map rowP) [some (.p m), some (.p (.lst (found.map rowP))), some (.p (rowP r)), some (.ref S.length), o4, none] (S ++ [.lst []]) =
      .nx [some (.p m), some (.p (.lst (found.map rowP))), some (.p (rowP r)), some (.ref S.length), o4', none] (S ++ [.lst ((found.flatMap (ext1 r.length)).map rowP)]) ∧ (pO o4 → pO o4') := by
  let I : Nat → Env → Store → Prop := fun i ρ S2 => ∃ o4', ρ = [some (.p m), some (.p (.lst (found.map rowP))), some (.p (rowP r)), some (.ref S.length), o4', none] ∧ S2 = S ++ [.lst (((found.take i).flatMap (ext1 r.length)).map rowP)] ∧ (pO o4 → pO o4')
  have key := loop_invI (tg := .nm 4 (s "some")) (f := evSs F S.length [stLonger]) I (xs := found.map rowP) (n := 0) (ρ := [some (.p m), some (.p (.lst (found.map rowP))), some (.p (rowP r)), some (.ref S.length), o4, none]) (S := S ++ [.lst []]) ?_ ⟨o4, rfl, by simp, id⟩
  · obtain ⟨ρ', S', e1, o4', rfl, rfl, hp⟩ := key
    refine ⟨o4', ?_, hp⟩
    rw [e1]
    simp
  · intro i x hx ρ S2 ⟨o4', h1, h2, h3⟩
    subst h1 h2
    rw [List.getElem?_map] at hx
    cases ha : found[i]? with
    | none => rw [ha] at hx; cases hx
    | some a =>
      rw [ha] at hx
      cases hx
      obtain ⟨hi, ea⟩ := List.getElem?_eq_some_iff.mp ha
      have hal := hf a (List.mem_of_getElem? ha)
      refine ⟨_, _, _, rfl, ?_, some (.p (rowP a)), rfl, rfl, fun _ => .inr ⟨_, rfl⟩⟩
      refine lastS ?_
      unfold stLonger
      rw [q_ext]
      simp only [q_v, List.set_cons_succ, List.set_cons_zero, List.getElem?_cons_succ, List.getElem?_cons_zero, R.then_ok, isL, getS, if_true]
      rw [ext_turn (k := 0) (a := a) (r := r) hr hal rfl rfl (by simp)]
      simp only [R.then_ok, extR, getS, setS]
      have b1 : ((found.take (0 + i)).flatMap (ext1 r.length)).length ≤ (found.take (0 + i)).length * 6 := flat_len (fun x => Nat.le_trans (ext1_len _ _) (by omega)) _
      have b2 : (found.take (0 + i)).length ≤ found.length := by simp; omega
      have b3 := ext1_len r.length a
      have b4 : (found.take (0 + i)).length * 6 ≤ found.length * 6 := Nat.mul_le_mul_right _ b2
      rw [if_pos (by rw [List.length_map, List.length_map]; exact lim6' (by omega))]
      rw [← List.map_append, ← flat_snoc, Nat.zero_add, ← ea, ← List.take_succ_eq_append_getElem hi]
/-- the outer loop -/
theorem outer_ok {S : Store} {m : P} : ∀ {M : List (List Int)} {found : List (List Int)} {o2 o4 : Option D} {c : Cell} {b : Nat}, (∀ r ∈ M, r.length ≤ 5) → (∀ a ∈ found, a.length + M.length ≤ 1000) → found.length * 6 ^ M.length ≤ 16000 → pO o2 → pO o4 →
    ∃ o2' o4' c', loop (.nm 2 (s "row")) (evSs F S.length stRow) (M.map rowP) [some (.p m), some (.p (.lst (found.map rowP))), o2, none, o4, none] (S ++ [c]) = .nx [some (.p m), some (.p (.lst ((allFrom found M).map rowP))), o2', none, o4', none] (S ++ [c'])
  | [], found, o2, o4, c, b, hr, hf, hl, p2, p4 => ⟨o2, o4, c, by rw [List.map_nil, loop]; rfl⟩
  | r :: M, found, o2, o4, c, b, hr, hf, hl, p2, p4 => by
    have hp : 0 < 6 ^ M.length := Nat.pow_pos (by omega)
    have hr0 := hr r List.mem_cons_self
    rw [List.length_cons, Nat.pow_succ] at hl
    have hl6 : found.length * 6 ≤ 16000 := by
      have : found.length * 6 * 1 ≤ found.length * (6 ^ M.length * 6) := by
        rw [Nat.mul_comm (6 ^ M.length), ← Nat.mul_assoc]
        exact Nat.mul_le_mul_left _ hp
      omega
    have hf0 : ∀ a ∈ found, a.length ≤ 1000 := fun a ha => by have := hf a ha; omega
    obtain ⟨o4', e1, hp4⟩ := inner_ok (F := F) (S := S) (m := m) (r := r) (found := found) (o4 := o4) hr0 hf0 (by omega)
    have q4 := hp4 p4
    have step : evSs F S.length stRow [some (.p m), some (.p (.lst (found.map rowP))), some (.p (rowP r)), none, o4, none] (S ++ [c]) = .nx [some (.p m), some (.p (.lst ((found.flatMap (ext1 r.length)).map rowP))), some (.p (rowP r)), none, o4', none] (S ++ [.nil]) := by
      unfold stRow
      rw [seqS (ρ1 := [some (.p m), some (.p (.lst (found.map rowP))), some (.p (rowP r)), some (.ref S.length), o4, none]) (S1 := S ++ [.lst []])]
      · rw [seqS (for_ok (xs := found.map rowP) (by simp) e1)]
        refine lastS ?_
        rw [q_fz]
        simp only [q_v, List.getElem?_cons_succ, List.getElem?_cons_zero, R.then_ok, fzR, Nat.le_refl, if_true, getS, setS, killR_cons, killR_nil, kill1_p, kill1_n, kill1_r, kill1_o q4, List.set_cons_succ, List.set_cons_zero]
      · simp only [q_new, q_lst, q_nil, R.bind_ok, lst0, R.then_ok, newR, Nat.add_zero, List.length_append, List.length_singleton, Nat.lt_succ_self, if_true, setS, killR_cons, killR_nil, kill1_p, kill1_n, kill1_o p4, List.set_cons_succ, List.set_cons_zero]
    obtain ⟨o2'', o4'', c'', e2⟩ := outer_ok (S := S) (m := m) (M := M) (found := found.flatMap (ext1 r.length)) (o2 := some (.p (rowP r))) (o4 := o4') (c := .nil) (b := b) (fun r hr' => hr r (List.mem_cons_of_mem _ hr')) (fun a ha => by
      obtain ⟨a0, h0, h1⟩ := List.mem_flatMap.mp ha
      have := hf a0 h0
      rw [ext1_mem h1]
      simp at this
      omega) (by
      have := flat_len (f := ext1 r.length) (c := 6) (fun x => Nat.le_trans (ext1_len _ _) (by omega)) found
      refine Nat.le_trans (Nat.mul_le_mul_right _ this) ?_
      rw [Nat.mul_assoc, Nat.mul_comm 6]
      exact hl) (.inr ⟨_, rfl⟩) q4
    refine ⟨o2'', o4'', c'', ?_⟩
    rw [List.map_cons, loop]
    show ((evSs F S.length stRow [some (.p m), some (.p (.lst (found.map rowP))), some (.p (rowP r)), none, o4, none] (S ++ [c])).bind fun ρ2 S2 => loop (.nm 2 (s "row")) (evSs F S.length stRow) (M.map rowP) ρ2 S2) = _
    rw [step, SR.bind_nx, e2]
    rfl
theorem ok_all_assignments : SpAllA (runFd F (d_all_assignments ν)) := fun M S hM hr => by
  rw [run_eq rfl]
  obtain ⟨o2, o4, c, e⟩ := outer_ok (F := F) (S := S) (m := mktP M) (M := M) (found := [[]]) (o2 := none) (o4 := none) (c := .nil) (b := 0) hr (fun a ha => by simp at ha; subst ha; simp; omega) (by
    have : 6 ^ M.length ≤ 6 ^ 5 := Nat.pow_le_pow_right (by omega) hM
    simp
    omega) (.inl rfl) (.inl rfl)
  show endR S (evSs F S.length [.asg (.nm 1 (s "found")) (.lst [(.tup [])]), .for_ (.nm 2 (s "row")) (.seq (.v 0 (s "market"))) stRow, .ret (.v 1 (s "found"))] [some (.p (mktP M)), none, none, none, none, none] (S ++ [.nil])) = _
  rw [seqS (ρ1 := [some (.p (mktP M)), some (.p (.lst ([[]].map rowP))), none, none, none, none]) (S1 := S ++ [.nil]) (by simp [asgR, bindT, rowP])]
  rw [seqS (for_ok (xs := M.map rowP) (by simp [mktP]) e)]
  simp
  rfl
end
end G9

/-! text Q5 -/
/-! G9.Q5: the best assignments. -/
namespace G9
open PySem (Str)
theorem mem_allFrom {M : List (List Int)} : ∀ {found : List (List Int)} {b : List Int}, b ∈ allFrom found M → ∃ a ∈ found, ∃ c : List Int, b = a ++ c ∧ c.length = M.length ∧ ∀ q ∈ M.zip c, -1 ≤ q.2 ∧ q.2 < (q.1.length : Int) := by
  induction M with
  | nil => exact fun {found b} h => ⟨b, h, [], by simp, rfl, by simp⟩
  | cons r M ih =>
    intro found b h
    obtain ⟨a, ha, c, rfl, hc, hq⟩ := ih (found := found.flatMap (ext1 r.length)) h
    obtain ⟨a0, h0, h1⟩ := List.mem_flatMap.mp ha
    unfold ext1 at h1
    obtain ⟨g, hg, h2⟩ := List.mem_filterMap.mp h1
    split at h2
    · cases h2
      refine ⟨a0, h0, g :: c, by simp, by simp [hc], fun q hq' => ?_⟩
      rw [List.zip_cons_cons] at hq'
      rcases List.mem_cons.mp hq' with rfl | hq'
      · unfold goods at hg
        obtain ⟨i, hi, rfl⟩ := List.mem_map.mp hg
        have := List.mem_range.mp hi
        simp
        omega
      · exact hq q hq'
    · cases h2
theorem fits_all {M : List (List Int)} {b : List Int} (h : b ∈ allA M) : Fits M b := by
  obtain ⟨a, ha, c, rfl, hc, hq⟩ := mem_allFrom h
  simp at ha
  subst ha
  exact ⟨by simp [hc], fun q hq' => (hq q (by simpa using hq')).2⟩
theorem allFrom_len {M : List (List Int)} : ∀ {found : List (List Int)}, (∀ r ∈ M, r.length ≤ 5) → (allFrom found M).length ≤ found.length * 6 ^ M.length := by
  induction M with
  | nil => intro found _; simp [allFrom]
  | cons r M ih =>
    intro found h
    have h1 := ih (found := found.flatMap (ext1 r.length)) fun r hr => h r (List.mem_cons_of_mem _ hr)
    have h2 := flat_len (f := ext1 r.length) (c := 6) (fun x => Nat.le_trans (ext1_len _ _) (by have := h r List.mem_cons_self; omega)) found
    have h3 : (found.flatMap (ext1 r.length)).length * 6 ^ M.length ≤ found.length * 6 * 6 ^ M.length := Nat.mul_le_mul_right _ h2
    show (allFrom (found.flatMap (ext1 r.length)) M).length ≤ _
    rw [List.length_cons, Nat.pow_succ, Nat.mul_comm (6 ^ M.length), ← Nat.mul_assoc]
    omega
theorem allA_len {M : List (List Int)} {m k : Nat} (h : Mkt M m k) : (allA M).length ≤ 7776 := by
  have h1 := allFrom_len (M := M) (found := [[]]) fun r hr => by rw [h.row r hr]; exact h.k5
  have h2 : 6 ^ M.length ≤ 6 ^ 5 := Nat.pow_le_pow_right (by omega) (by rw [h.len]; exact h.m5)
  unfold allA
  simp at h1
  omega
def bstep (M : List (List Int)) (q : Int × List (List Int)) (a : List Int) : Int × List (List Int) :=
  let q' : Int × List (List Int) := if q.1 < tot M a then (tot M a, []) else q
  if tot M a = q'.1 then (q'.1, q'.2 ++ [a]) else q'
def bfold (M : List (List Int)) : Int × List (List Int) := (allA M).foldl (bstep M) (-1, [])
theorem bstep_len {M : List (List Int)} {q : Int × List (List Int)} {a : List Int} : (bstep M q a).2.length ≤ q.2.length + 1 := by
  unfold bstep
  simp only
  split <;> split <;> simp
theorem bfold_len {M : List (List Int)} : ∀ {l : List (List Int)} {q : Int × List (List Int)}, (l.foldl (bstep M) q).2.length ≤ q.2.length + l.length
  | [], q => by simp
  | a :: r, q => by
    rw [List.foldl_cons, List.length_cons]
    have := bfold_len (M := M) (l := r) (q := bstep M q a)
    have := bstep_len (M := M) (q := q) (a := a)
    omega
def SpFoundBest (g : Fun) : Prop := ∀ M m k S, Mkt M m k → g [.p (mktP M)] S = .ok (.p (.tup [.int (bfold M).1, .lst ((bfold M).2.map rowP)])) S
section
variable {F : FS} {ν : Nat → Nat}
def parNR (n i i' j : Nat) (ρ : Env) (d d' : D) (S2 : Store) : SR := match d' with
    | .p (.lst xs) => if n + j < S2.length ∧ isPD d then .nx (((killR (n + j) ρ).set i (some d)).set i' (some (.ref (n + j)))) (S2.set (n + j) (.lst xs)) else .bad
    | _ => .bad
theorem q_parN {ρ : Env} {S : Store} {n i i' j : Nat} {x x' : Str} {a b : E} : evS F n (.parN i x i' x' j a b) ρ S = (evE F a ρ S).then fun d S1 => (evE F b ρ S1).then fun d' S2 => parNR n i i' j ρ d d' S2 := by rw [evS]; rfl
def stBest : List Sm := [.asg (.nm 4 (s "value")) (.call (s "total_of") (ν 10) [(.v 0 (s "market")), (.v 1 (s "assignment"))]), .iff (.cmp .gt (.v 4 (s "value")) (.v 2 (s "best"))) [.parN 2 (s "best") 3 (s "found") 0 (.v 4 (s "value")) (.lst [])] [], .iff (.cmp .eq (.v 4 (s "value")) (.v 2 (s "best"))) [.app (.v 3 (s "found")) (.v 1 (s "assignment"))] []]
theorem best_turn (ht : SpTotalOf (F (ν 10))) {M : List (List Int)} {S : Store} {a : List Int} {q : Int × List (List Int)} {o4 : Option D} (hM : M.length ≤ 10000) (hf : Fits M a) (h4 : pO o4) (hl : q.2.length ≤ 10000) :
    evSs F S.length (stBest (ν := ν)) [some (.p (mktP M)), some (.p (rowP a)), some (.p (.int q.1)), some (.ref S.length), o4] (S ++ [.lst (q.2.map rowP)]) =
      .nx [some (.p (mktP M)), some (.p (rowP a)), some (.p (.int (bstep M q a).1)), some (.ref S.length), some (.p (.int (tot M a)))] (S ++ [.lst ((bstep M q a).2.map rowP)]) := by
  unfold stBest
  rw [seqS (ρ1 := [some (.p (mktP M)), some (.p (rowP a)), some (.p (.int q.1)), some (.ref S.length), some (.p (.int (tot M a)))]) (S1 := S ++ [.lst (q.2.map rowP)]) (by simp [ht M a _ hM hf, asgR, bindT])]
  have mid : evS F S.length (.iff (.cmp .gt (.v 4 (s "value")) (.v 2 (s "best"))) [.parN 2 (s "best") 3 (s "found") 0 (.v 4 (s "value")) (.lst [])] []) [some (.p (mktP M)), some (.p (rowP a)), some (.p (.int q.1)), some (.ref S.length), some (.p (.int (tot M a)))] (S ++ [.lst (q.2.map rowP)]) =
      .nx [some (.p (mktP M)), some (.p (rowP a)), some (.p (.int (if q.1 < tot M a then (tot M a, []) else q).1)), some (.ref S.length), some (.p (.int (tot M a)))] (S ++ [.lst ((if q.1 < tot M a then (tot M a, []) else q : Int × List (List Int)).2.map rowP)]) := by
    by_cases c : q.1 < tot M a
    · simp only [q_iff, q_cmp, q_v, List.getElem?_cons_succ, List.getElem?_cons_zero, R.bind_ok, cmp_gt, c, decide_true, R.then_ok, onB_bl, if_true]
      refine lastS ?_
      rw [q_parN]
      simp only [q_v, List.getElem?_cons_succ, List.getElem?_cons_zero, R.then_ok, q_lst, q_nil, R.bind_ok, lst0, parNR, Nat.add_zero, List.length_append, List.length_singleton, Nat.lt_succ_self, isPD, and_self, if_true, setS, killR_cons, killR_nil, kill1_p, kill1_r, List.set_cons_succ, List.set_cons_zero, List.map_nil]
    · simp only [q_iff, q_cmp, q_v, List.getElem?_cons_succ, List.getElem?_cons_zero, R.bind_ok, cmp_gt, c, decide_false, R.then_ok, onB_bl, Bool.false_eq_true, if_false, q_snil]
  rw [seqS mid]
  refine lastS ?_
  have hl' : (if q.1 < tot M a then (tot M a, []) else q : Int × List (List Int)).2.length ≤ 10000 := by
    split
    · simp
    · exact hl
  unfold bstep
  simp only
  generalize (if q.1 < tot M a then (tot M a, []) else q : Int × List (List Int)) = q' at hl' ⊢
  by_cases c : tot M a = q'.1
  · simp only [q_iff, q_cmp, q_v, List.getElem?_cons_succ, List.getElem?_cons_zero, R.bind_ok, cmp_eqI, c, decide_true, R.then_ok, onB_bl, if_true]
    refine lastS ?_
    simp only [q_app, q_v, List.getElem?_cons_succ, List.getElem?_cons_zero, R.then_ok, isL, getS, if_true, appR, setS]
    rw [if_pos (by rw [List.length_map]; exact Nat.lt_of_le_of_lt hl' (by unfold LIM; omega))]
    simp
  · simp only [q_iff, q_cmp, q_v, List.getElem?_cons_succ, List.getElem?_cons_zero, R.bind_ok, cmp_eqI, c, decide_false, R.then_ok, onB_bl, Bool.false_eq_true, if_false, q_snil]
theorem ok_found_best (ha : SpAllA (F (ν 12))) (ht : SpTotalOf (F (ν 10))) : SpFoundBest (runFd F (d_found_best ν)) := fun M m k S h => by
  rw [run_eq rfl]
  have hM5 : M.length ≤ 5 := by rw [h.len]; exact h.m5
  have hl := allA_len h
  let I : Nat → Env → Store → Prop := fun i ρ S2 => ∃ o1 o4, ρ = [some (.p (mktP M)), o1, some (.p (.int (((allA M).take i).foldl (bstep M) (-1, [])).1)), some (.ref S.length), o4] ∧ S2 = S ++ [.lst ((((allA M).take i).foldl (bstep M) (-1, [])).2.map rowP)] ∧ pO o4
  have key := loop_invI (tg := .nm 1 (s "assignment")) (f := evSs F S.length (stBest (ν := ν))) I (xs := (allA M).map rowP) (n := 0) (ρ := [some (.p (mktP M)), none, some (.p (.int (-1))), some (.ref S.length), none]) (S := S ++ [.lst []]) ?_ ⟨none, none, rfl, rfl, .inl rfl⟩
  · obtain ⟨ρ', S', e, o1, o4, rfl, rfl, _⟩ := key
    show endR S (evSs F S.length [.parN 2 (s "best") 3 (s "found") 0 (.neg (.int 1)) (.lst []), .for_ (.nm 1 (s "assignment")) (.seq (.call (s "all_assignments") (ν 12) [(.v 0 (s "market"))])) (stBest (ν := ν)), .ret (.tup [(.v 2 (s "best")), (.v 3 (s "found"))])] [some (.p (mktP M)), none, none, none, none] (S ++ [.nil])) = _
    rw [seqS (ρ1 := [some (.p (mktP M)), none, some (.p (.int (-1))), some (.ref S.length), none]) (S1 := S ++ [.lst []])]
    · rw [seqS (for_ok (xs := (allA M).map rowP) (S1 := S ++ [.lst []]) (by simp [ha M _ hM5 fun r hr => by rw [h.row r hr]; exact h.k5]) e)]
      rw [lastS rfl]
      simp only [q_ret, q_tup, q_cons, q_nil, q_v, List.getElem?_cons_succ, List.getElem?_cons_zero, R.bind_ok, R.then_ok, tupR]
      simp [LIM, mkTup, allP, endR, frz, frzs, viewF, bfold]
    · rw [q_parN]
      simp only [q_neg, q_int, R.bind_ok, negR_int, q_lst, q_nil, lst0, R.then_ok, parNR, Nat.add_zero, List.length_append, List.length_singleton, Nat.lt_succ_self, isPD, and_self, if_true, setS, killR_cons, killR_nil, kill1_p, kill1_n, List.set_cons_succ, List.set_cons_zero]
  · intro i x hx ρ S2 ⟨o1, o4, h1, h2, h3⟩
    subst h1 h2
    rw [List.getElem?_map] at hx
    cases he : (allA M)[i]? with
    | none => rw [he] at hx; cases hx
    | some a =>
      rw [he] at hx
      cases hx
      obtain ⟨hi, ea⟩ := List.getElem?_eq_some_iff.mp he
      refine ⟨_, _, _, rfl, best_turn ht (by omega) (fits_all (List.mem_of_getElem? he)) h3 ?_, some (.p (rowP a)), some (.p (.int (tot M a))), ?_, ?_, .inr ⟨_, rfl⟩⟩
      · have := bfold_len (M := M) (l := (allA M).take (0 + i)) (q := (-1, []))
        simp at this
        simp only [Nat.zero_add]
        omega
      · rw [Nat.zero_add, List.take_succ_eq_append_getElem hi, List.foldl_append, ea]
        rfl
      · rw [Nat.zero_add, List.take_succ_eq_append_getElem hi, List.foldl_append, ea]
        rfl
end
end G9

/-! text Q6 -/
/-! G9.Q6: what the best assignments are; best_total, best_assignments. -/
namespace G9
open PySem (Str)
theorem tot_nonneg {M : List (List Int)} {a : List Int} (h : ∀ r ∈ M, ∀ x ∈ r, 0 ≤ x) : 0 ≤ tot M a := by
  induction M generalizing a with
  | nil => simp [tot]
  | cons r M ih =>
    cases a with
    | nil => simp [tot]
    | cons g a =>
      unfold tot
      have h1 := ih (a := a) fun r hr => h r (List.mem_cons_of_mem _ hr)
      have h2 : 0 ≤ (if 0 ≤ g then r.getD g.toNat 0 else 0) := by
        split
        · rw [List.getD_eq_getElem?_getD]
          cases e : r[g.toNat]? with
          | none => simp
          | some x => exact h r List.mem_cons_self x (List.mem_of_getElem? e)
        · omega
      omega
theorem bstep_inv {M : List (List Int)} : ∀ {l done : List (List Int)} {q : Int × List (List Int)}, (∀ a ∈ done, tot M a ≤ q.1) → q.2 = done.filter (fun a => decide (tot M a = q.1)) → (∀ a ∈ done ++ l, tot M a ≤ (l.foldl (bstep M) q).1) ∧ (l.foldl (bstep M) q).2 = (done ++ l).filter (fun a => decide (tot M a = (l.foldl (bstep M) q).1)) ∧ q.1 ≤ (l.foldl (bstep M) q).1
  | [], done, q, h1, h2 => by simp; exact ⟨h1, h2⟩
  | a :: r, done, q, h1, h2 => by
    have e : done ++ a :: r = (done ++ [a]) ++ r := by simp
    rw [e, List.foldl_cons]
    have key : (∀ b ∈ done ++ [a], tot M b ≤ (bstep M q a).1) ∧ (bstep M q a).2 = (done ++ [a]).filter (fun b => decide (tot M b = (bstep M q a).1)) ∧ q.1 ≤ (bstep M q a).1 := by
      unfold bstep
      simp only
      by_cases c : q.1 < tot M a
      · simp only [c, if_true]
        refine ⟨fun b hb => ?_, ?_, by omega⟩
        · rcases List.mem_append.mp hb with hb | hb
          · have := h1 b hb; omega
          · simp at hb; subst hb; omega
        · rw [List.filter_append]
          have : done.filter (fun b => decide (tot M b = tot M a)) = [] := by
            rw [List.filter_eq_nil_iff]
            intro b hb
            have := h1 b hb
            simp
            omega
          simp [this]
      · simp only [c, if_false]
        by_cases c2 : tot M a = q.1
        · simp only [c2, if_true]
          refine ⟨fun b hb => ?_, ?_, by omega⟩
          · rcases List.mem_append.mp hb with hb | hb
            · exact h1 b hb
            · simp at hb; subst hb; omega
          · rw [List.filter_append, h2]
            simp [c2]
        · simp only [c2, if_false]
          refine ⟨fun b hb => ?_, ?_, by omega⟩
          · rcases List.mem_append.mp hb with hb | hb
            · exact h1 b hb
            · simp at hb; subst hb; omega
          · rw [List.filter_append, h2]
            simp [c2]
    obtain ⟨k1, k2, k3⟩ := key
    obtain ⟨i1, i2, i3⟩ := bstep_inv (l := r) k1 k2
    exact ⟨i1, i2, by omega⟩
/-- the greatest total, the assignments that reach it -/
def best (M : List (List Int)) : Int := (bfold M).1
def bests (M : List (List Int)) : List (List Int) := (bfold M).2
theorem le_best {M : List (List Int)} {a : List Int} (h : a ∈ allA M) : tot M a ≤ best M := (bstep_inv (M := M) (l := allA M) (done := []) (q := (-1, [])) (by simp) (by simp)).1 a (by simpa using h)
theorem bests_eq (M : List (List Int)) : bests M = (allA M).filter fun a => decide (tot M a = best M) := by
  have := (bstep_inv (M := M) (l := allA M) (done := []) (q := (-1, [])) (by simp) (by simp)).2.1
  rw [List.nil_append] at this
  exact this
theorem allFrom_ne {M : List (List Int)} : ∀ {found : List (List Int)}, found ≠ [] → allFrom found M ≠ [] := by
  induction M with
  | nil => exact fun h => h
  | cons r M ih =>
    intro found h
    refine ih (found := found.flatMap (ext1 r.length)) fun e => ?_
    rw [List.flatMap_eq_nil_iff] at e
    cases found with
    | nil => exact h rfl
    | cons a l =>
      have := e a List.mem_cons_self
      have hm : a ++ [-1] ∈ ext1 r.length a := by
        unfold ext1
        refine List.mem_filterMap.mpr ⟨-1, ?_, by simp⟩
        unfold goods
        exact List.mem_map.mpr ⟨0, by simp, by simp⟩
      rw [this] at hm
      simp at hm
theorem bests_ne {M : List (List Int)} (h : ∀ r ∈ M, ∀ x ∈ r, 0 ≤ x) : bests M ≠ [] := by
  have hne : allA M ≠ [] := allFrom_ne (by simp)
  -- some total is greatest
  have key : ∀ (l : List (List Int)) (q : Int × List (List Int)), (q.2 ≠ [] ∨ (∃ a ∈ l, q.1 < tot M a)) → (l.foldl (bstep M) q).2 ≠ [] := by
    intro l
    induction l with
    | nil => intro q hq; rcases hq with hq | ⟨a, ha, _⟩; exact hq; simp at ha
    | cons a r ih =>
      intro q hq
      rw [List.foldl_cons]
      refine ih _ ?_
      unfold bstep
      simp only
      by_cases c : q.1 < tot M a
      · left; simp [c]
      · simp only [c, if_false]
        rcases hq with hq | ⟨b, hb, hlt⟩
        · left
          split
          · simp
          · exact hq
        · rcases List.mem_cons.mp hb with rfl | hb
          · exact absurd hlt c
          · right
            refine ⟨b, hb, ?_⟩
            split <;> exact hlt
  refine key (allA M) (-1, []) (.inr ?_)
  cases e : allA M with
  | nil => exact absurd e hne
  | cons a r => exact ⟨a, List.mem_cons_self, by have := tot_nonneg (M := M) (a := a) h; show -1 < tot M a; omega⟩
def SpBestTotal (g : Fun) : Prop := ∀ M m k S, Mkt M m k → g [.p (mktP M)] S = .ok (.p (.int (best M))) S
def SpBestAsg (g : Fun) : Prop := ∀ M m k S, Mkt M m k → g [.p (mktP M)] S = .ok (.p (.tup ((bests M).map rowP))) S
section
variable {F : FS} {ν : Nat → Nat}
theorem idx2_0 {S : Store} {x y : P} : idxR (.p (.tup [x, y])) (.p (.int 0)) S = .ok (.p x) S := idx_nat (i := 0) rfl
theorem idx2_1 {S : Store} {x y : P} : idxR (.p (.tup [x, y])) (.p (.int 1)) S = .ok (.p y) S := idx_nat (i := 1) rfl
theorem ok_best_total (hc : SpCheckMarket (F (ν 3))) (hb : SpFoundBest (F (ν 13))) : SpBestTotal (runFd F (d_best_total ν)) := fun M m k S h => by
  rw [run_eq0 rfl rfl]
  simp [d_best_total, hc M m k _ h, hb M m k _ h, idx2_0, best]
theorem ok_best_assignments (hc : SpCheckMarket (F (ν 3))) (hb : SpFoundBest (F (ν 13))) : SpBestAsg (runFd F (d_best_assignments ν)) := fun M m k S h => by
  rw [run_eq0 rfl rfl]
  simp [d_best_assignments, hc M m k _ h, hb M m k _ h, idx2_1, bests]
end
end G9

/-! text Q7 -/
/-! G9.Q7: is_assigned and its kin. -/
namespace G9
open PySem (Str)
def someG (a : List Int) : List Int := a.filter fun g => decide (0 ≤ g)
def asgB (m k : Nat) (a : List Int) : Bool := decide (a.length = m) && a.all (fun g => decide (-1 ≤ g) && decide (g ≤ (k : Int) - 1)) && decide ((dedup (someG a)).length = (someG a).length)
/-- of any value -/
def isAsg (m k : Nat) : P → Bool
  | .tup xs => match allInt xs with
    | some a => asgB m k a
    | none => false
  | _ => false
def SpIsAssigned (g : Fun) : Prop := ∀ M m k x S, Mkt M m k → szP x → g [.p (mktP M), .p x] S = .ok (.p (.bl (isAsg m k x))) S
theorem allInt_some {xs : List P} {a : List Int} (h : allInt xs = some a) : xs = a.map .int := by
  induction xs generalizing a with
  | nil => cases h; rfl
  | cons x r ih =>
    cases x with
    | int i =>
      cases e : allInt r with
      | none => simp [allInt, e] at h
      | some b =>
        simp [allInt, e] at h
        subst h
        rw [ih e]
        rfl
    | _ => simp [allInt] at h
theorem allInt_none {xs : List P} {lo hi : Int} (h : allInt xs = none) : xs.all (isBetween · lo hi) = false := by
  induction xs with
  | nil => cases h
  | cons x r ih =>
    cases x with
    | int i =>
      cases e : allInt r with
      | none => simp only [List.all_cons, ih e, Bool.and_false]
      | some b => simp [allInt, e] at h
    | _ => simp [isBetween]
theorem List.map_filter_eq_filterMap {a : List Int} : a.filterMap (fun g => if 0 ≤ g then some (P.int g) else none) = (a.filter fun g => decide (0 ≤ g)).map P.int := by
  induction a with
  | nil => rfl
  | cons x r ih => by_cases c : 0 ≤ x <;> simp [c, ih]
section
variable {F : FS} {ν : Nat → Nat}
theorem idx_row0 {S : Store} {M : List (List Int)} {m k : Nat} (h : Mkt M m k) : ∃ r0, r0.length = k ∧ M[0]? = some r0 ∧ idxR (.p (.tup (M.map rowP))) (.p (.int 0)) S = .ok (.p (rowP r0)) S := by
  have : 0 < M.length := by rw [h.len]; exact h.m1
  exact ⟨M[0], h.row _ (List.getElem_mem _), List.getElem?_eq_getElem this, idx_nat (i := 0) (by rw [List.getElem?_map, List.getElem?_eq_getElem this]; rfl)⟩
theorem ok_is_assigned (hb : SpBetween (F (ν 0))) : SpIsAssigned (runFd F (d_is_assigned ν)) := fun M m k x S h hx => by
  rw [run_eq0 rfl rfl]
  obtain ⟨r0, l0, g0, i0⟩ := idx_row0 (S := S) h
  cases x with
  | tup xs =>
    by_cases hl : xs.length = m
    · have hlm : xs.length ≤ 5 := by rw [hl]; exact h.m5
      have hall : evE F (.lc [((s "good"), 3)] (.nm 3 (s "good")) (.seq (.v 1 (s "value"))) none (.call (s "is_between") (ν 0) [(.v 3 (s "good")), (.neg (.int 1)), (.bin .sub (.bi .len (.idx (.v 0 (s "market")) (.int 0))) (.int 1))])) [some (.p (mktP M)), some (.p (.tup xs)), none, none] S = .ok (.p (.lst (xs.map fun x => .bl (isBetween x (-1) ((k : Int) - 1))))) S := by
        refine lc_M _ (by simp) (lim6 (by omega)) fun x hx => ?_
        simp [lcQ, bindT, wipeE, turnR, mktP, i0]
        simp [rowP, l0, hb x (-1) ((k : Int) - 1) S]
      show endR S (evSs F S.length [.iff _ [.ret (.bl false)] [], .iff (.not (.bi .all _)) [.ret (.bl false)] [], _, _] [some (.p (mktP M)), some (.p (.tup xs)), none, none] S) = _
      rw [seqS (ρ1 := [some (.p (mktP M)), some (.p (.tup xs)), none, none]) (S1 := S) (by simp [mktP, hl, h.len])]
      cases ea : allInt xs with
      | none =>
        simp only [q_scons, q_iff, q_not, q_bi, hall, R.bind_ok, all_map, allInt_none ea]
        simp [isAsg, ea]
      | some a =>
        have ex := allInt_some ea
        subst ex
        have ball : (a.map P.int).all (fun x => isBetween x (-1) ((k : Int) - 1)) = a.all (fun g => decide (-1 ≤ g) && decide (g ≤ (k : Int) - 1)) := by
          rw [List.all_map]
          rfl
        rw [List.length_map] at hl hlm
        by_cases hb' : a.all (fun g => decide (-1 ≤ g) && decide (g ≤ (k : Int) - 1)) = true
        · rw [seqS (ρ1 := [some (.p (mktP M)), some (.p (.tup (a.map .int))), none, none]) (S1 := S)]
          · have hsome : evE F (.lc [((s "good"), 3)] (.nm 3 (s "good")) (.seq (.v 1 (s "value"))) (some (.cmp .ge (.v 3 (s "good")) (.int 0))) (.v 3 (s "good"))) [some (.p (mktP M)), some (.p (.tup (a.map .int))), none, none] S = .ok (.p (.lst ((someG a).map .int))) S := by
              rw [lc_A (xs := a) P.int (fun g => if 0 ≤ g then some (.int g) else none) (by simp) (lim6 (by omega))]
              · congr 3
                unfold someG
                rw [List.map_filter_eq_filterMap]
              · intro g hg
                by_cases c : 0 ≤ g <;> simp [lcQ, bindT, wipeE, turnR, c]
            rw [seqS (ρ1 := [some (.p (mktP M)), some (.p (.tup (a.map .int))), some (.p (.lst ((someG a).map .int))), none]) (S1 := S) (by rw [q_asg, hsome]; simp [asgR, bindT])]
            have l60 : (someG a).length ≤ 60 := by
              have : (someG a).length ≤ a.length := by unfold someG; exact List.length_filter_le ..
              omega
            simp [bi, seqOf, l60, isAsg, asgB, hl, hb']
            exact Int.ofNat_inj
          · simp only [q_iff, q_not, q_bi, hall, R.bind_ok, all_map, ball, hb', R.then_ok]
            simp
        · simp only [q_scons, q_iff, q_not, q_bi, hall, R.bind_ok, all_map, ball, Bool.eq_false_iff.mpr hb']
          simp [isAsg, asgB, Bool.eq_false_iff.mpr hb']
    · have hne : ¬ ((xs.length : Int) = (M.length : Int)) := by rw [h.len]; omega
      have hf : isAsg m k (.tup xs) = false := by
        unfold isAsg
        simp only
        split
        · rename_i a ea
          have ex := allInt_some ea
          subst ex
          rw [List.length_map] at hl
          simp [asgB, hl]
        · rfl
      rw [hf]
      simp [d_is_assigned, mktP, hne]
  | _ => simp [d_is_assigned, isAsg]
def SpIsAssignment (g : Fun) : Prop := SpIsAssigned g
def SpCheckAsg (g : Fun) : Prop := ∀ M m k a S, Mkt M m k → asgB m k a = true → g [.p (mktP M), .p (rowP a)] S = .ok (.p .non) S
def SpTotal (g : Fun) : Prop := ∀ M m k a S, Mkt M m k → asgB m k a = true → g [.p (mktP M), .p (rowP a)] S = .ok (.p (.int (tot M a))) S
def SpBetter (g : Fun) : Prop := ∀ M m k a S, Mkt M m k → asgB m k a = true → g [.p (mktP M), .p (rowP a)] S = .ok (.p (if tot M a < best M then rowP ((bests M).headD []) else .non)) S
theorem asgB_len {m k : Nat} {a : List Int} (h : asgB m k a = true) : a.length = m := by
  unfold asgB at h
  simp only [Bool.and_eq_true, decide_eq_true_eq] at h
  exact h.1.1
theorem asgB_fits {M : List (List Int)} {m k : Nat} {a : List Int} (hM : Mkt M m k) (h : asgB m k a = true) : Fits M a := by
  have hl := asgB_len h
  unfold asgB at h
  simp only [Bool.and_eq_true, List.all_eq_true, decide_eq_true_eq] at h
  refine ⟨by rw [hl, hM.len], fun q hq => ?_⟩
  have h1 := (List.of_mem_zip hq).1
  have h2 := (List.of_mem_zip hq).2
  have := (h.1.2 q.2 h2).2
  rw [hM.row q.1 h1]
  omega
theorem isAsg_row {m k : Nat} {a : List Int} : isAsg m k (rowP a) = asgB m k a := by simp [isAsg, rowP]
theorem sz_row {a : List Int} (h : a.length ≤ 10000) : szP (rowP a) := by
  show (a.map P.int).length ≤ LIM
  rw [List.length_map]
  exact lim6 h
theorem ok_is_assignment (hc : SpCheckMarket (F (ν 3))) (ha : SpIsAssigned (F (ν 7))) : SpIsAssignment (runFd F (d_is_assignment ν)) := fun M m k x S h hx => by
  rw [run_eq0 rfl rfl]
  simp [d_is_assignment, hc M m k _ h, ha M m k x _ h hx]
theorem ok_check_assignment (ha : SpIsAssigned (F (ν 7))) : SpCheckAsg (runFd F (d_check_assignment ν)) := fun M m k a S h hx => by
  rw [run_eq0 rfl rfl]
  have hl := asgB_len hx
  have := h.m5
  simp [d_check_assignment, ha M m k (rowP a) _ h (sz_row (by omega)), isAsg_row, hx]
theorem ok_total (hc : SpCheckMarket (F (ν 3))) (ha : SpCheckAsg (F (ν 9))) (ht : SpTotalOf (F (ν 10))) : SpTotal (runFd F (d_total ν)) := fun M m k a S h hx => by
  rw [run_eq0 rfl rfl]
  have := h.m5
  simp [d_total, hc M m k _ h, ha M m k a _ h hx, ht M a _ (by rw [h.len]; omega) (asgB_fits h hx)]
theorem ok_better (hc : SpCheckMarket (F (ν 3))) (ha : SpCheckAsg (F (ν 9))) (ht : SpTotalOf (F (ν 10))) (hb : SpFoundBest (F (ν 13))) : SpBetter (runFd F (d_better ν)) := fun M m k a S h hx => by
  rw [run_eq0 rfl rfl]
  have := h.m5
  have hne : bests M ≠ [] := bests_ne fun r hr x hx => (h.val r hr x hx).1
  obtain ⟨b0, bs, eb⟩ : ∃ b0 bs, bests M = b0 :: bs := by
    cases e : bests M with
    | nil => exact absurd e hne
    | cons a b => exact ⟨a, b, rfl⟩
  have i0 : ∀ S, idxR (.p (.lst ((bests M).map rowP))) (.p (.int 0)) S = .ok (.p (rowP b0)) S := fun S => idx_natL (i := 0) (by rw [eb]; rfl)
  simp [d_better, hc M m k _ h, ha M m k a _ h hx, hb M m k _ h, asgR, bindT, setAll, ht M a _ (by rw [h.len]; omega) (asgB_fits h hx)]
  rw [← best, ← bests]
  by_cases c : tot M a < best M
  · simp only [c, if_true, i0]
    simp [eb]
  · simp [c]
end
end G9

/-! text Q8 -/
/-! G9.Q8: pairs; rows put in. -/
namespace G9
open PySem (Str)
def pairsA (a : List Int) : List (Int × Int) := (a.zipIdx).filterMap fun q => if 0 ≤ q.1 then some ((q.2 : Int), q.1) else none
def SpPairsOf (g : Fun) : Prop := ∀ a S, a.length ≤ 10000 → g [.p (rowP a)] S = .ok (.p (.lst ((pairsA a).map pairP))) S
def sureL (M : List (List Int)) : List (Int × Int) := (pairsA ((bests M).headD [])).filter fun p => (bests M).all fun one => decide (one[p.1.toNat]? = some p.2)
def SpSurePairs (g : Fun) : Prop := ∀ M m k S, Mkt M m k → g [.p (mktP M)] S = .ok (.p (.tup ((sureL M).map pairP))) S
theorem enum_ints (a : List Int) : enumFrom 0 ((a.map P.int).map .p) = ((a.zipIdx).map fun q => P.tup [.int q.2, .int q.1]).map D.p := by
  rw [enumD_eq, List.zipIdx_map, List.map_map, List.map_map, List.map_map]
  rfl
section
variable {F : FS} {ν : Nat → Nat}
theorem ok_pairs_of : SpPairsOf (runFd F (d_pairs_of ν)) := fun a S h => by
  rw [run_eq0 rfl rfl]
  simp only [d_pairs_of]
  rw [lastS (r := .rt (.p (.lst ((pairsA a).map pairP))) S)]
  · simp
  · rw [q_ret, lc_A (xs := a.zipIdx) (fun q => .tup [.int q.2, .int q.1]) (fun q => if 0 ≤ q.1 then some (pairP ((q.2 : Int), q.1)) else none)]
    · rw [R.then_ok]
      congr 3
      unfold pairsA
      rw [List.map_filterMap]
      congr 1
      funext q
      split <;> rfl
    · show (R.ok (none, enumFrom 0 ((a.map P.int).map .p)) S : R (Option Nat × List D)) = _
      rw [enum_ints]
    · rw [List.length_zipIdx]; exact lim6 h
    · intro q hq
      by_cases c : 0 ≤ q.1 <;> simp [lcQ, bindT, setAll, wipeE, turnR, c, pairP]
/-- the best assignments are assignments -/
theorem bests_mem {M : List (List Int)} {a : List Int} (h : a ∈ bests M) : a ∈ allA M ∧ tot M a = best M := by
  rw [bests_eq, List.mem_filter] at h
  simpa using h
theorem mem_pairsA {a : List Int} {p : Int × Int} (h : p ∈ pairsA a) : ∃ i : Nat, p.1 = i ∧ a[i]? = some p.2 ∧ 0 ≤ p.2 := by
  unfold pairsA at h
  obtain ⟨q, h1, h2⟩ := List.mem_filterMap.mp h
  split at h2
  · cases h2
    have := List.mem_zipIdx_iff_getElem?.mp h1
    exact ⟨q.2, rfl, this, ‹_›⟩
  · cases h2
theorem ok_sure_pairs (hc : SpCheckMarket (F (ν 3))) (hb : SpFoundBest (F (ν 13))) (hp : SpPairsOf (F (ν 17))) : SpSurePairs (runFd F (d_sure_pairs ν)) := fun M m k S h => by
  rw [run_eq0 rfl rfl]
  have hm5 := h.m5
  have hne : bests M ≠ [] := bests_ne fun r hr x hx => (h.val r hr x hx).1
  obtain ⟨b0, bs, eb⟩ : ∃ b0 bs, bests M = b0 :: bs := by
    cases e : bests M with
    | nil => exact absurd e hne
    | cons a b => exact ⟨a, b, rfl⟩
  have i0 : ∀ S, idxR (.p (.lst ((bests M).map rowP))) (.p (.int 0)) S = .ok (.p (rowP b0)) S := fun S => idx_natL (i := 0) (by rw [eb]; rfl)
  have lenA : ∀ a ∈ bests M, a.length = m := fun a ha => by rw [(fits_all (bests_mem ha).1).1, h.len]
  have lb : (bests M).length ≤ 7776 := Nat.le_trans (by rw [bests_eq]; exact List.length_filter_le ..) (allA_len h)
  simp only [d_sure_pairs]
  rw [seqS (ρ1 := [some (.p (mktP M)), none, none, none]) (S1 := S) (by simp [hc M m k _ h])]
  rw [seqS (ρ1 := [some (.p (mktP M)), some (.p (.lst ((bests M).map rowP))), none, none]) (S1 := S) (by simp [hb M m k _ h, idx2_1, asgR, bindT, bests])]
  have b0m : b0 ∈ bests M := by rw [eb]; exact List.mem_cons_self
  rw [lastS (r := .rt (.p (.tup ((sureL M).map pairP))) S)]
  · simp
  · rw [q_ret, q_bi, lc_A (xs := pairsA b0) pairP (fun p => if (bests M).all (fun one => decide (one[p.1.toNat]? = some p.2)) then some (pairP p) else none)]
    · rw [R.bind_ok, tuple_lst, R.then_ok]
      congr 3
      unfold sureL
      rw [eb, List.headD_cons, ← eb]
      exact filterMap_if (fun p => (bests M).all fun one => decide (one[p.1.toNat]? = some p.2)) pairP _
    · simp [i0, hp b0 S (by rw [lenA b0 b0m]; omega)]
    · refine lim6 ?_
      unfold pairsA
      refine Nat.le_trans (List.length_filterMap_le ..) ?_
      rw [List.length_zipIdx, lenA b0 b0m]
      omega
    · intro p hp'
      obtain ⟨i, e1, e2, e3⟩ := mem_pairsA hp'
      have hi : i < m := by rw [← lenA b0 b0m]; exact (List.getElem?_eq_some_iff.mp e2).1
      have inn : evE F (.lc [((s "one"), 3)] (.nm 3 (s "one")) (.seq (.v 1 (s "some"))) none (.cmp .eq (.idx (.v 3 (s "one")) (.idx (.v 2 (s "pair")) (.int 0))) (.idx (.v 2 (s "pair")) (.int 1)))) [some (.p (mktP M)), some (.p (.lst ((bests M).map rowP))), some (.p (pairP p)), none] S = .ok (.p (.lst ((bests M).map fun one => .bl (decide (one[p.1.toNat]? = some p.2))))) S := by
        rw [lc_A (xs := bests M) rowP (fun one => some (.bl (decide (one[p.1.toNat]? = some p.2)))) (by simp) (lim6 (by omega))]
        · congr 3
          generalize bests M = l
          induction l with
          | nil => rfl
          | cons x r ih => rw [List.filterMap_cons, ih, List.map_cons]
        · intro one ho
          have ho' : i < one.length := by rw [lenA one ho]; exact hi
          have ix1 : idxR (.p (rowP one)) (.p (.int p.1)) S = .ok (.p (.int one[i])) S := by
            rw [e1, rowP]
            exact idx_nat (by simp [ho'])
          have ee : (one[i] = p.2) ↔ (one[p.1.toNat]? = some p.2) := by
            rw [e1, Int.toNat_natCast, List.getElem?_eq_getElem ho']
            simp
          simp [lcQ, bindT, wipeE, turnR, pairP, idx2_0, idx2_1, ix1, ee]
      simp only [lcQ, bindT, wipeE, turnR, q_bi]
      show ((evE F _ [some (.p (mktP M)), some (.p (.lst ((bests M).map rowP))), some (.p (pairP p)), none] S).bind fun x S1 => bi S1 .all x).bind _ = _
      rw [inn, R.bind_ok, all_map, R.bind_ok, onB_bl]
      by_cases c : (bests M).all (fun one => decide (one[p.1.toNat]? = some p.2)) = true
      · simp only [c, if_true]
        simp
      · simp only [c, Bool.false_eq_true, if_false]
end
end G9

/-! text Q9 -/
/-! G9.Q9: rows put in; the possible pairs. -/
namespace G9
open PySem (Str)
structure RowOk (k : Nat) (r : List Int) : Prop where
  len : r.length = k
  val : ∀ x ∈ r, 0 ≤ x ∧ x ≤ 20
theorem RowOk.is {k : Nat} {r : List Int} (h : RowOk k r) : isRowOf k (rowP r) = true := by
  unfold isRowOf rowP
  simp only [List.length_map, h.len, List.all_map, Bool.and_eq_true, decide_eq_true_eq, List.all_eq_true, true_and]
  intro x hx
  simp [isBetween, h.val x hx]
def SpCheckRow (g : Fun) : Prop := ∀ M m k r S, Mkt M m k → RowOk k r → g [.p (mktP M), .p (rowP r)] S = .ok (.p .non) S
def SpWithBuyer (g : Fun) : Prop := ∀ M m k r S, Mkt M m k → m ≠ 5 → RowOk k r → g [.p (mktP M), .p (rowP r)] S = .ok (.p (mktP (M ++ [r]))) S
theorem Mkt.snoc {M : List (List Int)} {m k : Nat} {r : List Int} (h : Mkt M m k) (hm : m ≠ 5) (hr : RowOk k r) : Mkt (M ++ [r]) (m + 1) k where
  len := by simp [h.len]
  m1 := by omega
  m5 := by have := h.m5; omega
  row := fun r' hr' => by
    rcases List.mem_append.mp hr' with q | q
    · exact h.row r' q
    · simp at q; subst q; exact hr.len
  k1 := h.k1
  k5 := h.k5
  val := fun r' hr' => by
    rcases List.mem_append.mp hr' with q | q
    · exact h.val r' q
    · simp at q; subst q; exact hr.val
section
variable {F : FS} {ν : Nat → Nat}
theorem ok_check_row (hr : SpRowOf (F (ν 1))) : SpCheckRow (runFd F (d_check_row ν)) := fun M m k r S h hk => by
  rw [run_eq0 rfl rfl]
  obtain ⟨r0, l0, g0, i0⟩ := idx_row0 (S := S) h
  have h5 := h.k5
  have e := hr k (rowP r) S (sz_row (by rw [hk.len]; omega))
  simp [d_check_row, mktP, i0]
  simp [rowP, l0]
  rw [← rowP, e, hk.is]
  simp
theorem ok_with_buyer (hc : SpCheckMarket (F (ν 3))) (hr : SpCheckRow (F (ν 6))) : SpWithBuyer (runFd F (d_with_buyer ν)) := fun M m k r S h hm hk => by
  rw [run_eq0 rfl rfl]
  have h5 := h.m5
  have hne : ¬ ((M.length : Int) = 5) := by rw [h.len]; omega
  simp [d_with_buyer, hc M m k _ h, hr M m k r _ h hk]
  simp [mktP, hne]
  rw [bin_tup (by rw [List.length_map, h.len]; exact lim6 (by simp; omega))]
  simp
/-! ### possible pairs -/
def putAll (ks : List (Int × Int)) (ps : List (Int × Int)) : List (Int × Int) := ps.foldl putD ks
def possK (M : List (List Int)) : List (Int × Int) := (bests M).foldl (fun ks a => putAll ks (pairsA a)) []
theorem mem_putD {ks : List (Int × Int)} {q p : Int × Int} : p ∈ putD ks q ↔ p ∈ ks ∨ p = q := by
  unfold putD
  split
  · rename_i c
    simp only [List.any_eq_true, decide_eq_true_eq] at c
    obtain ⟨x, h1, rfl⟩ := c
    constructor
    · exact .inl
    · rintro (h | rfl)
      · exact h
      · exact h1
  · simp
theorem nodup_putD {ks : List (Int × Int)} {q : Int × Int} (h : ks.Nodup) : (putD ks q).Nodup := by
  unfold putD
  split
  · exact h
  · rename_i c
    simp only [List.any_eq_true, decide_eq_true_eq, not_exists, not_and] at c
    rw [List.nodup_append]
    exact ⟨h, by simp, fun a ha b hb => by simp at hb; subst hb; exact c a ha⟩
theorem mem_putAll {p : Int × Int} : ∀ {ps ks : List (Int × Int)}, p ∈ putAll ks ps ↔ p ∈ ks ∨ p ∈ ps
  | [], ks => by simp [putAll]
  | q :: r, ks => by
    show p ∈ putAll (putD ks q) r ↔ _
    rw [mem_putAll, mem_putD, List.mem_cons, or_assoc]
theorem nodup_putAll : ∀ {ps ks : List (Int × Int)}, ks.Nodup → (putAll ks ps).Nodup
  | [], ks, h => h
  | q :: r, ks, h => nodup_putAll (ps := r) (nodup_putD h)
theorem mem_possF {p : Int × Int} : ∀ {l : List (List Int)} {ks : List (Int × Int)}, p ∈ l.foldl (fun ks a => putAll ks (pairsA a)) ks ↔ p ∈ ks ∨ ∃ a ∈ l, p ∈ pairsA a
  | [], ks => by simp
  | a :: r, ks => by
    rw [List.foldl_cons, mem_possF, mem_putAll]
    simp only [List.mem_cons, exists_eq_or_imp, or_assoc]
theorem mem_possK {M : List (List Int)} {p : Int × Int} : p ∈ possK M ↔ ∃ a ∈ bests M, p ∈ pairsA a := by
  unfold possK
  rw [mem_possF]
  simp
theorem nodup_possF : ∀ {l : List (List Int)} {ks : List (Int × Int)}, ks.Nodup → (l.foldl (fun ks a => putAll ks (pairsA a)) ks).Nodup
  | [], ks, h => h
  | a :: r, ks, h => nodup_possF (l := r) (nodup_putAll h)
theorem nodup_possK {M : List (List Int)} : (possK M).Nodup := nodup_possF List.nodup_nil
def SpPossible (g : Fun) : Prop := ∀ M m k S, Mkt M m k → g [.p (mktP M)] S = .ok (.p (.tup (sortP ((possK M).map pairP)))) S
end
end G9

/-! text Q10 -/
/-! G9.Q10: possible_pairs. -/
namespace G9
open PySem (Str)
theorem nodup_le : ∀ {n : Nat} {l : List Nat}, l.Nodup → (∀ x ∈ l, x < n) → l.length ≤ n
  | 0, l, _, h => by
    cases l with
    | nil => simp
    | cons x r => exact absurd (h x List.mem_cons_self) (by omega)
  | n + 1, l, nd, h => by
    have h1 := nodup_le (n := n) (l := l.erase n) (nd.erase n) fun x hx => by
      have := h x (List.mem_of_mem_erase hx)
      have : x ≠ n := fun e => by
        subst e
        exact (nd.mem_erase_iff.mp hx).1 rfl
      omega
    have := List.le_length_erase (a := n) (l := l)
    omega
theorem nodup_mapN {l : List (Int × Int)} {f : Int × Int → Nat} (h : l.Nodup) (hf : ∀ p ∈ l, ∀ q ∈ l, f p = f q → p = q) : (l.map f).Nodup := by
  induction l with
  | nil => simp
  | cons x r ih =>
    rw [List.nodup_cons] at h
    rw [List.map_cons, List.nodup_cons]
    refine ⟨fun hm => ?_, ih h.2 fun p hp q hq => hf p (List.mem_cons_of_mem _ hp) q (List.mem_cons_of_mem _ hq)⟩
    obtain ⟨y, hy, e⟩ := List.mem_map.mp hm
    exact h.1 ((hf y (List.mem_cons_of_mem _ hy) x List.mem_cons_self e) ▸ hy)
theorem pairs_le {l : List (Int × Int)} (h : l.Nodup) (hb : ∀ p ∈ l, (0 ≤ p.1 ∧ p.1 < 5) ∧ 0 ≤ p.2 ∧ p.2 < 5) : l.length ≤ 25 := by
  rw [← List.length_map (f := fun p : Int × Int => (p.1 * 5 + p.2).toNat)]
  refine nodup_le (nodup_mapN h fun p hp q hq e => ?_) fun x hx => ?_
  · have := hb p hp
    have := hb q hq
    have e' : p.1 * 5 + p.2 = q.1 * 5 + q.2 := by omega
    obtain ⟨a, b⟩ := p
    obtain ⟨c, d⟩ := q
    simp only at *
    have : a = c := by omega
    have : b = d := by omega
    subst a; subst b; rfl
  · obtain ⟨p, hp, rfl⟩ := List.mem_map.mp hx
    have := hb p hp
    omega
theorem pairs_bound {M : List (List Int)} {m k : Nat} (h : Mkt M m k) {a : List Int} (ha : a ∈ bests M) {p : Int × Int} (hp : p ∈ pairsA a) : (0 ≤ p.1 ∧ p.1 < 5) ∧ 0 ≤ p.2 ∧ p.2 < 5 := by
  obtain ⟨i, e1, e2, e3⟩ := mem_pairsA hp
  obtain ⟨f1, f2⟩ := fits_all (bests_mem ha).1
  obtain ⟨hi, e4⟩ := List.getElem?_eq_some_iff.mp e2
  have hM : i < M.length := by omega
  have hz : (M[i], a[i]) ∈ M.zip a := by
    refine List.mem_iff_getElem.mpr ⟨i, by rw [List.length_zip]; omega, by simp⟩
  have hlt := f2 _ hz
  have hk := h.row M[i] (List.getElem_mem _)
  have h1 := h.m5
  have h2 := h.k5
  have h3 := h.len
  simp only at hlt
  rw [e4, hk] at hlt
  omega
theorem poss_le {M : List (List Int)} {m k : Nat} (h : Mkt M m k) : (possK M).length ≤ 25 := pairs_le nodup_possK fun p hp => by
  obtain ⟨a, ha, hpa⟩ := mem_possK.mp hp
  exact pairs_bound h ha hpa
theorem putAll_len : ∀ {ps ks : List (Int × Int)}, (putAll ks ps).length ≤ ks.length + ps.length
  | [], ks => by simp [putAll]
  | q :: r, ks => by
    have := putAll_len (ps := r) (ks := putD ks q)
    have hl : (putD ks q).length ≤ ks.length + 1 := by
      unfold putD
      split <;> simp
    show (putAll (putD ks q) r).length ≤ _
    rw [List.length_cons]
    omega
section
variable {F : FS} {ν : Nat → Nat}
theorem q_newd {ρ : Env} {S : Store} {n i j : Nat} {x : Str} : evS F n (.newd i x j) ρ S = if n + j < S.length then .nx ((killR (n + j) ρ).set i (some (.ref (n + j)))) (S.set (n + j) (.dct [])) else .bad := by rw [evS]
def setkR (ρ : Env) (d x : D) (S2 : Store) : SR := match d, x with
    | .ref k, .p (.tup [.int a, .int b]) => (match S2[k]? with
      | some (.dct ks) => if ks.length < LIM then .nx ρ (S2.set k (.dct (putD ks (a, b)))) else .bad
      | _ => .bad)
    | _, _ => .bad
theorem q_setk {ρ : Env} {S : Store} {n : Nat} {o e : E} : evS F n (.setk o e) ρ S = (evE F o ρ S).then fun d S1 => (evE F e ρ S1).then fun x S2 => setkR ρ d x S2 := by rw [evS]; rfl
def keysR (x : D) (S1 : Store) : R D := match x with
    | .ref k => match S1[k]? with
      | some (.dct ks) => if ks.length < 64 then .ok (.p (.lst (sortP (ks.map pairP)))) S1 else .bad
      | _ => .bad
    | _ => .bad
theorem q_keys {ρ : Env} {S : Store} {a : E} : evE F (.keys a) ρ S = (evE F a ρ S).bind keysR := by rw [evE]; rfl
/-- the pairs of one assignment -/
theorem put_turns {S : Store} {m o2 : Option D} : ∀ {ps ks : List (Int × Int)} {o3 : Option D}, ks.length + ps.length ≤ 100000 → ∃ o3', loop (.nm 3 (s "pair")) (evSs F S.length [.setk (.v 1 (s "found")) (.v 3 (s "pair"))]) (ps.map pairP) [m, some (.ref S.length), o2, o3] (S ++ [.dct ks]) = .nx [m, some (.ref S.length), o2, o3'] (S ++ [.dct (putAll ks ps)])
  | [], ks, o3, _ => ⟨o3, by rw [List.map_nil, loop]; rfl⟩
  | q :: r, ks, o3, h => by
    have hl : (putD ks q).length ≤ ks.length + 1 := by
      unfold putD
      split <;> simp
    obtain ⟨o3', e⟩ := put_turns (S := S) (m := m) (o2 := o2) (ps := r) (ks := putD ks q) (o3 := some (.p (pairP q))) (by simp at h; omega)
    refine ⟨o3', ?_⟩
    rw [List.map_cons, loop]
    show ((evSs F S.length [.setk (.v 1 (s "found")) (.v 3 (s "pair"))] [m, some (.ref S.length), o2, some (.p (pairP q))] (S ++ [.dct ks])).bind fun ρ2 S2 => loop (.nm 3 (s "pair")) (evSs F S.length [.setk (.v 1 (s "found")) (.v 3 (s "pair"))]) (r.map pairP) ρ2 S2) = _
    rw [lastS (r := .nx [m, some (.ref S.length), o2, some (.p (pairP q))] (S ++ [.dct (putD ks q)])), SR.bind_nx, e]
    · rfl
    · rw [q_setk]
      simp only [q_v, List.getElem?_cons_succ, List.getElem?_cons_zero, R.then_ok, setkR, pairP, getS, setS]
      rw [if_pos (by unfold LIM; omega)]
theorem poss_turns (hp : SpPairsOf (F (ν 17))) {S : Store} {m : Option D} : ∀ {l : List (List Int)} {ks : List (Int × Int)} {o2 o3 : Option D}, (∀ a ∈ l, a.length ≤ 5) → ks.length + l.length * 5 ≤ 100000 → ∃ o2' o3', loop (.nm 2 (s "assignment")) (evSs F S.length [.for_ (.nm 3 (s "pair")) (.seq (.call (s "pairs_of") (ν 17) [(.v 2 (s "assignment"))])) [.setk (.v 1 (s "found")) (.v 3 (s "pair"))]]) (l.map rowP) [m, some (.ref S.length), o2, o3] (S ++ [.dct ks]) = .nx [m, some (.ref S.length), o2', o3'] (S ++ [.dct (l.foldl (fun ks a => putAll ks (pairsA a)) ks)])
  | [], ks, o2, o3, _, _ => ⟨o2, o3, by rw [List.map_nil, loop]; rfl⟩
  | a :: r, ks, o2, o3, ha, hl => by
    have h5 := ha a List.mem_cons_self
    have pl : (pairsA a).length ≤ 5 := by
      unfold pairsA
      refine Nat.le_trans (List.length_filterMap_le ..) ?_
      rw [List.length_zipIdx]; exact h5
    have al : (putAll ks (pairsA a)).length ≤ ks.length + (pairsA a).length := putAll_len
    simp only [List.length_cons] at hl
    obtain ⟨o3', e1⟩ := put_turns (F := F) (S := S) (m := m) (o2 := some (.p (rowP a))) (ps := pairsA a) (ks := ks) (o3 := o3) (by omega)
    obtain ⟨o2'', o3'', e2⟩ := poss_turns hp (S := S) (m := m) (l := r) (ks := putAll ks (pairsA a)) (o2 := some (.p (rowP a))) (o3 := o3') (fun a h => ha a (List.mem_cons_of_mem _ h)) (by omega)
    refine ⟨o2'', o3'', ?_⟩
    rw [List.map_cons, loop]
    show ((evSs F S.length [.for_ (.nm 3 (s "pair")) (.seq (.call (s "pairs_of") (ν 17) [(.v 2 (s "assignment"))])) [.setk (.v 1 (s "found")) (.v 3 (s "pair"))]] [m, some (.ref S.length), some (.p (rowP a)), o3] (S ++ [.dct ks])).bind fun ρ2 S2 => loop (.nm 2 (s "assignment")) (evSs F S.length [.for_ (.nm 3 (s "pair")) (.seq (.call (s "pairs_of") (ν 17) [(.v 2 (s "assignment"))])) [.setk (.v 1 (s "found")) (.v 3 (s "pair"))]]) (r.map rowP) ρ2 S2) = _
    rw [lastS (for_ok (xs := (pairsA a).map pairP) (S1 := S ++ [.dct ks]) (by simp [hp a _ (by omega)]) e1), SR.bind_nx, e2]
    rfl
theorem ok_possible_pairs (hc : SpCheckMarket (F (ν 3))) (hb : SpFoundBest (F (ν 13))) (hp : SpPairsOf (F (ν 17))) : SpPossible (runFd F (d_possible_pairs ν)) := fun M m k S h => by
  rw [run_eq rfl]
  have hm5 := h.m5
  have lb : (bests M).length ≤ 7776 := Nat.le_trans (by rw [bests_eq]; exact List.length_filter_le ..) (allA_len h)
  obtain ⟨o2, o3, e⟩ := poss_turns (F := F) (ν := ν) hp (S := S) (m := some (.p (mktP M))) (l := bests M) (ks := []) (o2 := none) (o3 := none) (fun a ha => by rw [(fits_all (bests_mem ha).1).1, h.len]; exact hm5) (by simp; omega)
  simp only [d_possible_pairs]
  show endR S (evSs F S.length _ [some (.p (mktP M)), none, none, none] (S ++ [.nil])) = _
  rw [seqS (ρ1 := [some (.p (mktP M)), none, none, none]) (S1 := S ++ [.nil]) (by simp [hc M m k _ h])]
  rw [seqS (ρ1 := [some (.p (mktP M)), some (.ref S.length), none, none]) (S1 := S ++ [.dct []]) (by
    rw [q_newd]
    simp only [Nat.add_zero, List.length_append, List.length_singleton, Nat.lt_succ_self, if_true, setS, killR_cons, killR_nil, kill1_p, kill1_n, List.set_cons_succ, List.set_cons_zero])]
  rw [seqS (for_ok (xs := (bests M).map rowP) (S1 := S ++ [.dct []]) (by simp [hb M m k _ h, idx2_1, bests]) e)]
  have hl : ((bests M).foldl (fun ks a => putAll ks (pairsA a)) []).length < 64 := by
    have := poss_le h
    unfold possK at this
    omega
  rw [lastS rfl]
  simp only [q_ret, q_bi, q_keys, q_v, List.getElem?_cons_succ, List.getElem?_cons_zero, R.bind_ok, keysR, getS]
  rw [if_pos hl]
  simp [possK]
end
end G9

/-! text H0 -/
/-! G9.H0: what an evaluation ends in, told by a predicate. -/
namespace G9
open PySem (Str)
/-- ends well, and so -/
def R.sat {α : Type} (r : R α) (Q : α → Store → Prop) : Prop := match r with
  | .ok a S => Q a S
  | _ => False
def SR.sat (r : SR) (N : Env → Store → Prop) (T : D → Store → Prop) : Prop := match r with
  | .nx ρ S => N ρ S
  | .rt d S => T d S
  | _ => False
section
variable {α β γ : Type}
theorem R.sat_ok {a : α} {S : Store} {Q : α → Store → Prop} : (R.ok a S).sat Q = Q a S := rfl
theorem SR.sat_nx {ρ : Env} {S : Store} {N : Env → Store → Prop} {T : D → Store → Prop} : (SR.nx ρ S).sat N T = N ρ S := rfl
theorem SR.sat_rt {d : D} {S : Store} {N : Env → Store → Prop} {T : D → Store → Prop} : (SR.rt d S).sat N T = T d S := rfl
theorem R.bind_bind {r : R α} {f : α → Store → R β} {g : β → Store → R γ} : (r.bind f).bind g = r.bind fun a S => (f a S).bind g := by cases r <;> rfl
theorem R.bind_then {r : R α} {f : α → Store → R β} {g : β → Store → SR} : (r.bind f).then g = r.then fun a S => (f a S).then g := by cases r <;> rfl
theorem R.then_bind {r : R α} {f : α → Store → SR} {g : Env → Store → SR} : (r.then f).bind g = r.then fun a S => (f a S).bind g := by cases r <;> rfl
theorem R.sat_elim {r : R α} {Q : α → Store → Prop} (h : r.sat Q) : ∃ a S, r = .ok a S ∧ Q a S := by
  cases r with
  | ok a S => exact ⟨a, S, rfl, h⟩
  | exc c S => exact h.elim
  | bad => exact h.elim
theorem R.sat_of {r : R α} {Q : α → Store → Prop} {a : α} {S : Store} (e : r = .ok a S) (h : Q a S) : r.sat Q := by rw [e]; exact h
theorem R.sat_mono {r : R α} {Q Q' : α → Store → Prop} (h : r.sat Q) (hq : ∀ a S, Q a S → Q' a S) : r.sat Q' := by
  obtain ⟨a, S, rfl, h⟩ := R.sat_elim h
  exact hq a S h
theorem R.sat_bind {r : R α} {f : α → Store → R β} {Q : α → Store → Prop} {Q' : β → Store → Prop} (h : r.sat Q) (hq : ∀ a S, Q a S → (f a S).sat Q') : (r.bind f).sat Q' := by
  obtain ⟨a, S, rfl, h⟩ := R.sat_elim h
  exact hq a S h
theorem R.sat_then {r : R α} {f : α → Store → SR} {Q : α → Store → Prop} {N : Env → Store → Prop} {T : D → Store → Prop} (h : r.sat Q) (hq : ∀ a S, Q a S → (f a S).sat N T) : (r.then f).sat N T := by
  obtain ⟨a, S, rfl, h⟩ := R.sat_elim h
  exact hq a S h
theorem SR.sat_bind {r : SR} {f : Env → Store → SR} {N N' : Env → Store → Prop} {T : D → Store → Prop} (h : r.sat N' T) (hq : ∀ ρ S, N' ρ S → (f ρ S).sat N T) : (r.bind f).sat N T := by
  cases r with
  | nx ρ S => exact hq ρ S h
  | rt d S => exact h
  | ex c S => exact h.elim
  | bad => exact h.elim
theorem SR.sat_mono {r : SR} {N N' : Env → Store → Prop} {T T' : D → Store → Prop} (h : r.sat N T) (hn : ∀ ρ S, N ρ S → N' ρ S) (ht : ∀ d S, T d S → T' d S) : r.sat N' T' := by
  cases r with
  | nx ρ S => exact hn ρ S h
  | rt d S => exact ht d S h
  | ex c S => exact h.elim
  | bad => exact h.elim
end
section
variable {F : FS} {n : Nat} {ρ : Env} {S : Store} {N : Env → Store → Prop} {T : D → Store → Prop}
/-- a statement, then the rest -/
theorem sat_cons {x : Sm} {r : List Sm} (N' : Env → Store → Prop) (h : (evS F n x ρ S).sat N' T) (hr : ∀ ρ S, N' ρ S → (evSs F n r ρ S).sat N T) : (evSs F n (x :: r) ρ S).sat N T := by
  rw [q_scons]
  exact SR.sat_bind h hr
theorem sat_last {x : Sm} (h : (evS F n x ρ S).sat N T) : (evSs F n [x] ρ S).sat N T := by
  rw [q_scons]
  refine SR.sat_bind h fun ρ S h => ?_
  rw [q_snil]
  exact h
/-- the turns of a for -/
theorem loop_sat {tg : Tg} {f : Env → Store → SR} (I : Nat → Env → Store → Prop) : ∀ {xs : List P} {n : Nat} {ρ : Env} {S : Store}, (∀ (i : Nat) x, xs[i]? = some x → ∀ ρ S, I (n + i) ρ S → ∃ ρ1, bindT tg (.p x) ρ = some ρ1 ∧ (f ρ1 S).sat (I (n + i + 1)) T) → I n ρ S → (loop tg f xs ρ S).sat (I (n + xs.length)) T
  | [], n, ρ, S, _, h => by rw [loop]; exact h
  | x :: r, n, ρ, S, hs, h => by
    obtain ⟨ρ1, e1, h2⟩ := hs 0 x rfl ρ S h
    rw [loop, e1]
    refine SR.sat_bind h2 fun ρ2 S2 h3 => ?_
    have := loop_sat I (xs := r) (n := n + 1) (fun i x hx => by
      have := hs (i + 1) x (by simpa using hx)
      rw [show n + (i + 1) = n + 1 + i by omega] at this
      exact this) h3
    rw [List.length_cons, show n + (r.length + 1) = n + 1 + r.length by omega]
    exact this
/-- a for, by an invariant of the place -/
theorem sat_for {tg : Tg} {it : It} {body : List Sm} {xs : List P} {S1 : Store} (I : Nat → Env → Store → Prop) (hi : evI F it ρ S = .ok (none, xs.map .p) S1) (h0 : I 0 ρ S1) (hs : ∀ (i : Nat) x, xs[i]? = some x → ∀ ρ S, I i ρ S → ∃ ρ1, bindT tg (.p x) ρ = some ρ1 ∧ (evSs F n body ρ1 S).sat (I (i + 1)) T) (he : ∀ ρ S, I xs.length ρ S → N ρ S) : (evS F n (.for_ tg it body) ρ S).sat N T := by
  rw [q_for, hi]
  simp only [R.then_ok, forR, allP_map']
  refine SR.sat_mono (N := I (0 + xs.length)) (loop_sat I (n := 0) (fun i x hx ρ S hI => ?_) h0) (fun ρ S h => he ρ S (by rwa [Nat.zero_add] at h)) fun _ _ h => h
  rw [Nat.zero_add] at hI ⊢
  exact hs i x hx ρ S hI
/-- .. over encoded values -/
theorem sat_forA {α : Type} (enc : α → P) {tg : Tg} {it : It} {body : List Sm} {xs : List α} {S1 : Store} (I : Nat → Env → Store → Prop) (hi : evI F it ρ S = .ok (none, (xs.map enc).map .p) S1) (h0 : I 0 ρ S1) (hs : ∀ (i : Nat) x, xs[i]? = some x → ∀ ρ S, I i ρ S → ∃ ρ1, bindT tg (.p (enc x)) ρ = some ρ1 ∧ (evSs F n body ρ1 S).sat (I (i + 1)) T) (he : ∀ ρ S, I xs.length ρ S → N ρ S) : (evS F n (.for_ tg it body) ρ S).sat N T := by
  refine sat_for I hi h0 (fun i x hx ρ S hI => ?_) (fun ρ S h => he ρ S (by simpa using h))
  rw [List.getElem?_map] at hx
  cases e : xs[i]? with
  | none => rw [e] at hx; cases hx
  | some y => rw [e] at hx; cases hx; exact hs i y e ρ S hI
theorem rng_ok {a : Option E} {b : E} {lo : Int} {k : Nat} {j : Int} {S1 S2 : Store} {x : Option Int} (ha : evO F a ρ S = .ok x S1) (hb : evE F b ρ S1 = .ok (.p (.int j)) S2) (hlo : x.getD 0 = lo) (hk : (j - lo).toNat = k) (h1 : -1000000 ≤ lo ∧ lo ≤ 1000000) (h2 : -1000000 ≤ j ∧ j ≤ 1000000) : evI F (.rng a b) ρ S = .ok (none, ((List.range k).map fun i : Nat => P.int (lo + i)).map .p) S2 := by
  rw [q_rng, ha, R.bind_ok, hb, R.bind_ok]
  subst hlo hk
  simp [rngR, rngOf, okRng, h1, h2, rangeL_eq]
theorem rng0 {b : E} {k : Nat} {S2 : Store} (hb : evE F b ρ S = .ok (.p (.int k)) S2) (h2 : k ≤ 1000000) : evI F (.rng none b) ρ S = .ok (none, ((List.range k).map fun i : Nat => P.int i).map .p) S2 := by
  rw [rng_ok (lo := 0) (k := k) (x := none) q_on hb rfl (by omega) (by omega) (by omega)]
  simp
/-- for i in range(k) -/
theorem sat_rng {i x} {b : E} {body : List Sm} {k : Nat} {S1 : Store} (I : Nat → Env → Store → Prop) (hb : evE F b ρ S = .ok (.p (.int k)) S1) (h2 : k ≤ 1000000) (h0 : I 0 ρ S1) (hs : ∀ (j : Nat), j < k → ∀ ρ S, I j ρ S → (evSs F n body (ρ.set i (some (.p (.int j)))) S).sat (I (j + 1)) T) (he : ∀ ρ S, I k ρ S → N ρ S) : (evS F n (.for_ (.nm i x) (.rng none b) body) ρ S).sat N T := by
  refine sat_forA (xs := List.range k) (fun i : Nat => P.int i) I (rng0 hb h2) h0 (fun j y hy ρ S hI => ?_) fun ρ S h => he ρ S (by simpa using h)
  obtain ⟨hj, e⟩ := List.getElem?_eq_some_iff.mp hy
  rw [List.getElem_range] at e
  subst e
  exact ⟨_, rfl, hs j (by simpa using hj) ρ S hI⟩
/-- the turns of a comprehension -/
theorem comp_sat {f : D → Store → R (Option P)} (I : Nat → List P → Store → Prop) : ∀ {xs : List P} {n : Nat} {acc : List P} {S : Store}, (∀ (i : Nat) x, xs[i]? = some x → ∀ acc S, I (n + i) acc S → (f (.p x) S).sat fun o S' => I (n + i + 1) (acc ++ o.toList) S') → I n acc S → (comp none f (xs.map .p) S).sat fun ps S' => I (n + xs.length) (acc ++ ps) S' ∧ ps.length ≤ xs.length
  | [], n, acc, S, _, h => by rw [List.map_nil, comp]; exact ⟨by simpa using h, by simp⟩
  | x :: r, n, acc, S, hs, h => by
    obtain ⟨o, S1, e1, h1⟩ := R.sat_elim (hs 0 x rfl acc S h)
    rw [List.map_cons, comp, e1]
    simp only [R.calm, R.bind_ok, still, if_true]
    have := comp_sat I (xs := r) (n := n + 1) (fun i x hx => by
      have := hs (i + 1) x (by simpa using hx)
      rw [show n + (i + 1) = n + 1 + i by omega] at this
      exact this) h1
    refine R.sat_bind this fun ps S' h' => ?_
    rw [List.length_cons, show n + (r.length + 1) = n + 1 + r.length by omega]
    rw [List.append_assoc] at h'
    cases o with
    | none => exact ⟨h'.1, by show ps.length ≤ _; omega⟩
    | some y => exact ⟨h'.1, by show (y :: ps).length ≤ _; rw [List.length_cons]; omega⟩
theorem lc_sat {own : List (Str × Nat)} {tg : Tg} {it : It} {cond : Option E} {elt : E} {xs : List P} {S1 : Store} (I : Nat → List P → Store → Prop) (hi : evI F it ρ S = .ok (none, xs.map .p) S1) (hl : xs.length ≤ LIM) (h0 : I 0 [] S1) (hs : ∀ (i : Nat) x, xs[i]? = some x → ∀ acc S, I i acc S → (lcQ F tg cond elt (wipeE ρ own) (.p x) S).sat fun o S' => I (i + 1) (acc ++ o.toList) S') : (evE F (.lc own tg it cond elt) ρ S).sat fun d S' => ∃ ps, d = .p (.lst ps) ∧ I xs.length ps S' := by
  rw [q_lc, hi, R.bind_ok]
  refine R.sat_bind (comp_sat I (n := 0) (fun i x hx acc S h => by rw [Nat.zero_add] at h ⊢; exact hs i x hx acc S h) h0) fun ps S' h => ?_
  rw [Nat.zero_add] at h
  rw [if_pos (Nat.le_trans h.2 hl)]
  exact ⟨ps, rfl, h.1⟩
/-- a def's end -/
theorem run_sat {d : Fd} {args : List D} {Q : D → Store → Prop} (hl : args.length = d.np) (h : (evSs F S.length d.body (args.map some ++ List.replicate (d.names.length - d.np) none) (S ++ List.replicate d.cells .nil)).sat (fun _ S' => Q (.p .non) (S'.take S.length)) (fun v S' => ∃ r, frz S.length S' v = some r ∧ Q r (S'.take S.length))) : (runFd F d args S).sat Q := by
  rw [run_eq hl]
  revert h
  cases evSs F S.length d.body (args.map some ++ List.replicate (d.names.length - d.np) none) (S ++ List.replicate d.cells .nil) with
  | nx ρ S' => exact fun h => h
  | rt v S' => exact fun ⟨r, e, h⟩ => by simp only [endR, e]; exact h
  | ex c S' => exact fun h => h.elim
  | bad => exact fun h => h.elim
theorem run_sat0 {d : Fd} {args : List D} {Q : D → Store → Prop} (hl : args.length = d.np) (h0 : d.cells = 0) (h : (evSs F S.length d.body (args.map some ++ List.replicate (d.names.length - d.np) none) S).sat (fun _ S' => Q (.p .non) (S'.take S.length)) (fun v S' => ∃ r, frz S.length S' v = some r ∧ Q r (S'.take S.length))) : (runFd F d args S).sat Q := by
  refine run_sat hl ?_
  rw [h0, List.replicate_zero, List.append_nil]
  exact h
theorem R.sat_eq {α : Type} {r : R α} {x : α} {S : Store} (h : r.sat fun d S' => d = x ∧ S' = S) : r = .ok x S := by
  obtain ⟨a, S', e, rfl, rfl⟩ := R.sat_elim h
  exact e
theorem retP {n : Nat} {S' : Store} {x : P} {Q : D → Store → Prop} (h : Q (.p x) (S'.take n)) : ∃ r, frz n S' (.p x) = some r ∧ Q r (S'.take n) := ⟨_, rfl, h⟩
/-- .. that leaves the store -/
theorem run_is {d : Fd} {args : List D} {y : P} {S2 : Store} (hl : args.length = d.np) (h : (evSs F S.length d.body (args.map some ++ List.replicate (d.names.length - d.np) none) (S ++ List.replicate d.cells .nil)).sat (fun _ S' => y = .non ∧ S'.take S.length = S2) (fun v S' => frz S.length S' v = some (.p y) ∧ S'.take S.length = S2)) : runFd F d args S = .ok (.p y) S2 := by
  have : (runFd F d args S).sat fun r S' => r = .p y ∧ S' = S2 := run_sat hl (SR.sat_mono h (fun ρ S' h => ⟨by rw [h.1], h.2⟩) fun v S' h => ⟨_, h.1, rfl, h.2⟩)
  obtain ⟨a, S', e, rfl, rfl⟩ := R.sat_elim this
  exact e
/-- the turns of a while: at most as many as the measure tells -/
theorem wloop_sat {t : Env → Store → R D} {f : Env → Store → SR} (I : Nat → Env → Store → Prop) (hs : ∀ m ρ S, I m ρ S → (t ρ S).sat fun d S1 => (d = .p (.bl false) ∧ N ρ S1) ∨ (d = .p (.bl true) ∧ ∃ m', m = m' + 1 ∧ (f ρ S1).sat (I m') T)) : ∀ {k m : Nat} {ρ : Env} {S : Store}, m < k → I m ρ S → (wloop t f k ρ S).sat N T
  | 0, m, ρ, S, hk, _ => absurd hk (by omega)
  | k + 1, m, ρ, S, hk, h => by
    rw [wloop]
    refine R.sat_then (hs m ρ S h) fun d S1 hd => ?_
    rcases hd with ⟨rfl, hd⟩ | ⟨rfl, m', rfl, hd⟩
    · exact hd
    · exact SR.sat_bind hd fun ρ2 S2 h2 => wloop_sat I hs (by omega) h2
theorem sat_while {m k : Nat} {t : E} {body : List Sm} (I : Nat → Env → Store → Prop) (hk : m < k) (h0 : I m ρ S) (hs : ∀ m ρ S, I m ρ S → (evE F t ρ S).sat fun d S1 => (d = .p (.bl false) ∧ N ρ S1) ∨ (d = .p (.bl true) ∧ ∃ m', m = m' + 1 ∧ (evSs F n body ρ S1).sat (I m') T)) : (evS F n (.whil k t body) ρ S).sat N T := by
  rw [evS]
  exact wloop_sat I hs hk h0
end
end G9

/-! text QR -/
/-! G9.QR: the runs of the defs -/
namespace G9
open PySem (Str)
theorem r_check_buyer {F : FS} {ν : Nat → Nat} {S : Store} {Q : D → Store → Prop} {market_ buyer_ : D} (h : (evSs F S.length [s_check_buyer_0 ν] (n_check_buyer (market_ := some market_) (buyer_ := some buyer_)) S).sat (fun _ S2 => Q (.p .non) (S2.take S.length)) (fun v S2 => ∃ r, frz S.length S2 v = some r ∧ Q r (S2.take S.length))) : (runFd F (d_check_buyer ν) [market_, buyer_] S).sat Q := run_sat0 rfl rfl h
theorem r_check_good {F : FS} {ν : Nat → Nat} {S : Store} {Q : D → Store → Prop} {market_ good_ : D} (h : (evSs F S.length [s_check_good_0 ν] (n_check_good (market_ := some market_) (good_ := some good_)) S).sat (fun _ S2 => Q (.p .non) (S2.take S.length)) (fun v S2 => ∃ r, frz S.length S2 v = some r ∧ Q r (S2.take S.length))) : (runFd F (d_check_good ν) [market_, good_] S).sat Q := run_sat0 rfl rfl h
theorem r_with_value {F : FS} {ν : Nat → Nat} {S : Store} {Q : D → Store → Prop} {market_ buyer_ good_ value_ : D} (h : (evSs F S.length [s_with_value_0 ν, s_with_value_1 ν] (n_with_value (market_ := some market_) (buyer_ := some buyer_) (good_ := some good_) (value_ := some value_)) S).sat (fun _ S2 => Q (.p .non) (S2.take S.length)) (fun v S2 => ∃ r, frz S.length S2 v = some r ∧ Q r (S2.take S.length))) : (runFd F (d_with_value ν) [market_, buyer_, good_, value_] S).sat Q := run_sat0 rfl rfl h
theorem r_least_value {F : FS} {ν : Nat → Nat} {S : Store} {Q : D → Store → Prop} {market_ buyer_ good_ : D} (h : (evSs F S.length [s_least_value_0 ν, s_least_value_1 ν, s_least_value_2 ν, s_least_value_3 ν, s_least_value_4 ν] (n_least_value (market_ := some market_) (buyer_ := some buyer_) (good_ := some good_)) S).sat (fun _ S2 => Q (.p .non) (S2.take S.length)) (fun v S2 => ∃ r, frz S.length S2 v = some r ∧ Q r (S2.take S.length))) : (runFd F (d_least_value ν) [market_, buyer_, good_] S).sat Q := run_sat0 rfl rfl h
theorem r_check_prices {F : FS} {ν : Nat → Nat} {S : Store} {Q : D → Store → Prop} {market_ prices_ : D} (h : (evSs F S.length [s_check_prices_0 ν, s_check_prices_1 ν] (n_check_prices (market_ := some market_) (prices_ := some prices_)) S).sat (fun _ S2 => Q (.p .non) (S2.take S.length)) (fun v S2 => ∃ r, frz S.length S2 v = some r ∧ Q r (S2.take S.length))) : (runFd F (d_check_prices ν) [market_, prices_] S).sat Q := run_sat0 rfl rfl h
theorem r_gains {F : FS} {ν : Nat → Nat} {S : Store} {Q : D → Store → Prop} {market_ prices_ buyer_ : D} (h : (evSs F S.length [s_gains_0 ν] (n_gains (market_ := some market_) (prices_ := some prices_) (buyer_ := some buyer_)) S).sat (fun _ S2 => Q (.p .non) (S2.take S.length)) (fun v S2 => ∃ r, frz S.length S2 v = some r ∧ Q r (S2.take S.length))) : (runFd F (d_gains ν) [market_, prices_, buyer_] S).sat Q := run_sat0 rfl rfl h
theorem r_found_gain {F : FS} {ν : Nat → Nat} {S : Store} {Q : D → Store → Prop} {market_ prices_ buyer_ : D} (h : (evSs F S.length [s_found_gain_0 ν] (n_found_gain (market_ := some market_) (prices_ := some prices_) (buyer_ := some buyer_)) S).sat (fun _ S2 => Q (.p .non) (S2.take S.length)) (fun v S2 => ∃ r, frz S.length S2 v = some r ∧ Q r (S2.take S.length))) : (runFd F (d_found_gain ν) [market_, prices_, buyer_] S).sat Q := run_sat0 rfl rfl h
theorem r_found_wishes {F : FS} {ν : Nat → Nat} {S : Store} {Q : D → Store → Prop} {market_ prices_ buyer_ : D} (h : (evSs F S.length [s_found_wishes_0 ν, s_found_wishes_1 ν] (n_found_wishes (market_ := some market_) (prices_ := some prices_) (buyer_ := some buyer_)) S).sat (fun _ S2 => Q (.p .non) (S2.take S.length)) (fun v S2 => ∃ r, frz S.length S2 v = some r ∧ Q r (S2.take S.length))) : (runFd F (d_found_wishes ν) [market_, prices_, buyer_] S).sat Q := run_sat0 rfl rfl h
theorem r_top_gain {F : FS} {ν : Nat → Nat} {S : Store} {Q : D → Store → Prop} {market_ prices_ buyer_ : D} (h : (evSs F S.length [s_top_gain_0 ν, s_top_gain_1 ν, s_top_gain_2 ν, s_top_gain_3 ν] (n_top_gain (market_ := some market_) (prices_ := some prices_) (buyer_ := some buyer_)) S).sat (fun _ S2 => Q (.p .non) (S2.take S.length)) (fun v S2 => ∃ r, frz S.length S2 v = some r ∧ Q r (S2.take S.length))) : (runFd F (d_top_gain ν) [market_, prices_, buyer_] S).sat Q := run_sat0 rfl rfl h
theorem r_wishes {F : FS} {ν : Nat → Nat} {S : Store} {Q : D → Store → Prop} {market_ prices_ buyer_ : D} (h : (evSs F S.length [s_wishes_0 ν, s_wishes_1 ν, s_wishes_2 ν, s_wishes_3 ν] (n_wishes (market_ := some market_) (prices_ := some prices_) (buyer_ := some buyer_)) S).sat (fun _ S2 => Q (.p .non) (S2.take S.length)) (fun v S2 => ∃ r, frz S.length S2 v = some r ∧ Q r (S2.take S.length))) : (runFd F (d_wishes ν) [market_, prices_, buyer_] S).sat Q := run_sat0 rfl rfl h
theorem r_do_support {F : FS} {ν : Nat → Nat} {S : Store} {Q : D → Store → Prop} {market_ prices_ assignment_ : D} (h : (evSs F S.length [s_do_support_0 ν, s_do_support_1 ν] (n_do_support (market_ := some market_) (prices_ := some prices_) (assignment_ := some assignment_)) S).sat (fun _ S2 => Q (.p .non) (S2.take S.length)) (fun v S2 => ∃ r, frz S.length S2 v = some r ∧ Q r (S2.take S.length))) : (runFd F (d_do_support ν) [market_, prices_, assignment_] S).sat Q := run_sat0 rfl rfl h
theorem r_check_three {F : FS} {ν : Nat → Nat} {S : Store} {Q : D → Store → Prop} {market_ prices_ assignment_ : D} (h : (evSs F S.length [s_check_three_0 ν, s_check_three_1 ν, s_check_three_2 ν] (n_check_three (market_ := some market_) (prices_ := some prices_) (assignment_ := some assignment_)) S).sat (fun _ S2 => Q (.p .non) (S2.take S.length)) (fun v S2 => ∃ r, frz S.length S2 v = some r ∧ Q r (S2.take S.length))) : (runFd F (d_check_three ν) [market_, prices_, assignment_] S).sat Q := run_sat0 rfl rfl h
theorem r_does_support {F : FS} {ν : Nat → Nat} {S : Store} {Q : D → Store → Prop} {market_ prices_ assignment_ : D} (h : (evSs F S.length [s_does_support_0 ν, s_does_support_1 ν] (n_does_support (market_ := some market_) (prices_ := some prices_) (assignment_ := some assignment_)) S).sat (fun _ S2 => Q (.p .non) (S2.take S.length)) (fun v S2 => ∃ r, frz S.length S2 v = some r ∧ Q r (S2.take S.length))) : (runFd F (d_does_support ν) [market_, prices_, assignment_] S).sat Q := run_sat0 rfl rfl h
theorem r_supported {F : FS} {ν : Nat → Nat} {S : Store} {Q : D → Store → Prop} {market_ prices_ : D} (h : (evSs F S.length [s_supported_0 ν, s_supported_1 ν, s_supported_2 ν, s_supported_3 ν] (n_supported (market_ := some market_) (prices_ := some prices_)) S).sat (fun _ S2 => Q (.p .non) (S2.take S.length)) (fun v S2 => ∃ r, frz S.length S2 v = some r ∧ Q r (S2.take S.length))) : (runFd F (d_supported ν) [market_, prices_] S).sat Q := run_sat0 rfl rfl h
theorem r_all_sets {F : FS} {ν : Nat → Nat} {S : Store} {Q : D → Store → Prop} {market_ : D} (h : (evSs F S.length [s_all_sets_0 ν, s_all_sets_1 ν, s_all_sets_2 ν] (n_all_sets (market_ := some market_)) S).sat (fun _ S2 => Q (.p .non) (S2.take S.length)) (fun v S2 => ∃ r, frz S.length S2 v = some r ∧ Q r (S2.take S.length))) : (runFd F (d_all_sets ν) [market_] S).sat Q := run_sat0 rfl rfl h
theorem r_are_crowded {F : FS} {ν : Nat → Nat} {S : Store} {Q : D → Store → Prop} {market_ prices_ some_ : D} (h : (evSs F S.length [s_are_crowded_0 ν, s_are_crowded_1 ν, s_are_crowded_2 ν] (n_are_crowded (market_ := some market_) (prices_ := some prices_) (some_ := some some_)) S).sat (fun _ S2 => Q (.p .non) (S2.take S.length)) (fun v S2 => ∃ r, frz S.length S2 v = some r ∧ Q r (S2.take S.length))) : (runFd F (d_are_crowded ν) [market_, prices_, some_] S).sat Q := run_sat0 rfl rfl h
theorem r_are_glutted {F : FS} {ν : Nat → Nat} {S : Store} {Q : D → Store → Prop} {market_ prices_ some_ : D} (h : (evSs F S.length [s_are_glutted_0 ν, s_are_glutted_1 ν, s_are_glutted_2 ν, s_are_glutted_3 ν] (n_are_glutted (market_ := some market_) (prices_ := some prices_) (some_ := some some_)) S).sat (fun _ S2 => Q (.p .non) (S2.take S.length)) (fun v S2 => ∃ r, frz S.length S2 v = some r ∧ Q r (S2.take S.length))) : (runFd F (d_are_glutted ν) [market_, prices_, some_] S).sat Q := run_sat0 rfl rfl h
theorem r_found_crowd {F : FS} {ν : Nat → Nat} {S : Store} {Q : D → Store → Prop} {market_ prices_ : D} (h : (evSs F S.length [s_found_crowd_0 ν, s_found_crowd_1 ν] (n_found_crowd (market_ := some market_) (prices_ := some prices_)) S).sat (fun _ S2 => Q (.p .non) (S2.take S.length)) (fun v S2 => ∃ r, frz S.length S2 v = some r ∧ Q r (S2.take S.length))) : (runFd F (d_found_crowd ν) [market_, prices_] S).sat Q := run_sat0 rfl rfl h
theorem r_found_glut {F : FS} {ν : Nat → Nat} {S : Store} {Q : D → Store → Prop} {market_ prices_ : D} (h : (evSs F S.length [s_found_glut_0 ν, s_found_glut_1 ν] (n_found_glut (market_ := some market_) (prices_ := some prices_)) S).sat (fun _ S2 => Q (.p .non) (S2.take S.length)) (fun v S2 => ∃ r, frz S.length S2 v = some r ∧ Q r (S2.take S.length))) : (runFd F (d_found_glut ν) [market_, prices_] S).sat Q := run_sat0 rfl rfl h
theorem r_crowd {F : FS} {ν : Nat → Nat} {S : Store} {Q : D → Store → Prop} {market_ prices_ : D} (h : (evSs F S.length [s_crowd_0 ν, s_crowd_1 ν, s_crowd_2 ν] (n_crowd (market_ := some market_) (prices_ := some prices_)) S).sat (fun _ S2 => Q (.p .non) (S2.take S.length)) (fun v S2 => ∃ r, frz S.length S2 v = some r ∧ Q r (S2.take S.length))) : (runFd F (d_crowd ν) [market_, prices_] S).sat Q := run_sat0 rfl rfl h
theorem r_glut {F : FS} {ν : Nat → Nat} {S : Store} {Q : D → Store → Prop} {market_ prices_ : D} (h : (evSs F S.length [s_glut_0 ν, s_glut_1 ν, s_glut_2 ν] (n_glut (market_ := some market_) (prices_ := some prices_)) S).sat (fun _ S2 => Q (.p .non) (S2.take S.length)) (fun v S2 => ∃ r, frz S.length S2 v = some r ∧ Q r (S2.take S.length))) : (runFd F (d_glut ν) [market_, prices_] S).sat Q := run_sat0 rfl rfl h
theorem r_is_set {F : FS} {ν : Nat → Nat} {S : Store} {Q : D → Store → Prop} {market_ value_ : D} (h : (evSs F S.length [s_is_set_0 ν, s_is_set_1 ν, s_is_set_2 ν] (n_is_set (market_ := some market_) (value_ := some value_)) S).sat (fun _ S2 => Q (.p .non) (S2.take S.length)) (fun v S2 => ∃ r, frz S.length S2 v = some r ∧ Q r (S2.take S.length))) : (runFd F (d_is_set ν) [market_, value_] S).sat Q := run_sat0 rfl rfl h
theorem r_is_crowd {F : FS} {ν : Nat → Nat} {S : Store} {Q : D → Store → Prop} {market_ prices_ value_ : D} (h : (evSs F S.length [s_is_crowd_0 ν, s_is_crowd_1 ν, s_is_crowd_2 ν] (n_is_crowd (market_ := some market_) (prices_ := some prices_) (value_ := some value_)) S).sat (fun _ S2 => Q (.p .non) (S2.take S.length)) (fun v S2 => ∃ r, frz S.length S2 v = some r ∧ Q r (S2.take S.length))) : (runFd F (d_is_crowd ν) [market_, prices_, value_] S).sat Q := run_sat0 rfl rfl h
theorem r_is_glut {F : FS} {ν : Nat → Nat} {S : Store} {Q : D → Store → Prop} {market_ prices_ value_ : D} (h : (evSs F S.length [s_is_glut_0 ν, s_is_glut_1 ν, s_is_glut_2 ν] (n_is_glut (market_ := some market_) (prices_ := some prices_) (value_ := some value_)) S).sat (fun _ S2 => Q (.p .non) (S2.take S.length)) (fun v S2 => ∃ r, frz S.length S2 v = some r ∧ Q r (S2.take S.length))) : (runFd F (d_is_glut ν) [market_, prices_, value_] S).sat Q := run_sat0 rfl rfl h
theorem r_objection {F : FS} {ν : Nat → Nat} {S : Store} {Q : D → Store → Prop} {market_ prices_ assignment_ : D} (h : (evSs F S.length [s_objection_0 ν, s_objection_1 ν, s_objection_2 ν, s_objection_3 ν, s_objection_4 ν, s_objection_5 ν] (n_objection (market_ := some market_) (prices_ := some prices_) (assignment_ := some assignment_)) S).sat (fun _ S2 => Q (.p .non) (S2.take S.length)) (fun v S2 => ∃ r, frz S.length S2 v = some r ∧ Q r (S2.take S.length))) : (runFd F (d_objection ν) [market_, prices_, assignment_] S).sat Q := run_sat0 rfl rfl h
theorem r_limits {F : FS} {ν : Nat → Nat} {S : Store} {Q : D → Store → Prop} {market_ : D} (h : (evSs F S.length [s_limits_0 ν, s_limits_1 ν, s_limits_2 ν, s_limits_3 ν, s_limits_4 ν, s_limits_5 ν, s_limits_6 ν] (n_limits (market_ := some market_)) (S ++ [.nil])).sat (fun _ S2 => Q (.p .non) (S2.take S.length)) (fun v S2 => ∃ r, frz S.length S2 v = some r ∧ Q r (S2.take S.length))) : (runFd F (d_limits ν) [market_] S).sat Q := run_sat rfl h
theorem r_lowest {F : FS} {ν : Nat → Nat} {S : Store} {Q : D → Store → Prop} {market_ : D} (h : (evSs F S.length [s_lowest_0 ν] (n_lowest (market_ := some market_)) S).sat (fun _ S2 => Q (.p .non) (S2.take S.length)) (fun v S2 => ∃ r, frz S.length S2 v = some r ∧ Q r (S2.take S.length))) : (runFd F (d_lowest ν) [market_] S).sat Q := run_sat0 rfl rfl h
theorem r_highest {F : FS} {ν : Nat → Nat} {S : Store} {Q : D → Store → Prop} {market_ : D} (h : (evSs F S.length [s_highest_0 ν] (n_highest (market_ := some market_)) S).sat (fun _ S2 => Q (.p .non) (S2.take S.length)) (fun v S2 => ∃ r, frz S.length S2 v = some r ∧ Q r (S2.take S.length))) : (runFd F (d_highest ν) [market_] S).sat Q := run_sat0 rfl rfl h
theorem r_least_prices {F : FS} {ν : Nat → Nat} {S : Store} {Q : D → Store → Prop} {market_ : D} (h : (evSs F S.length [s_least_prices_0 ν, s_least_prices_1 ν] (n_least_prices (market_ := some market_)) S).sat (fun _ S2 => Q (.p .non) (S2.take S.length)) (fun v S2 => ∃ r, frz S.length S2 v = some r ∧ Q r (S2.take S.length))) : (runFd F (d_least_prices ν) [market_] S).sat Q := run_sat0 rfl rfl h
theorem r_greatest_prices {F : FS} {ν : Nat → Nat} {S : Store} {Q : D → Store → Prop} {market_ : D} (h : (evSs F S.length [s_greatest_prices_0 ν, s_greatest_prices_1 ν] (n_greatest_prices (market_ := some market_)) S).sat (fun _ S2 => Q (.p .non) (S2.take S.length)) (fun v S2 => ∃ r, frz S.length S2 v = some r ∧ Q r (S2.take S.length))) : (runFd F (d_greatest_prices ν) [market_] S).sat Q := run_sat0 rfl rfl h
theorem r_stable_prices {F : FS} {ν : Nat → Nat} {S : Store} {Q : D → Store → Prop} {market_ : D} (h : (evSs F S.length [s_stable_prices_0 ν, s_stable_prices_1 ν, s_stable_prices_2 ν, s_stable_prices_3 ν, s_stable_prices_4 ν, s_stable_prices_5 ν] (n_stable_prices (market_ := some market_)) (S ++ [.nil])).sat (fun _ S2 => Q (.p .non) (S2.take S.length)) (fun v S2 => ∃ r, frz S.length S2 v = some r ∧ Q r (S2.take S.length))) : (runFd F (d_stable_prices ν) [market_] S).sat Q := run_sat rfl h
theorem r_difference_range {F : FS} {ν : Nat → Nat} {S : Store} {Q : D → Store → Prop} {market_ one_ other_ : D} (h : (evSs F S.length [s_difference_range_0 ν, s_difference_range_1 ν, s_difference_range_2 ν, s_difference_range_3 ν, s_difference_range_4 ν] (n_difference_range (market_ := some market_) (one_ := some one_) (other_ := some other_)) S).sat (fun _ S2 => Q (.p .non) (S2.take S.length)) (fun v S2 => ∃ r, frz S.length S2 v = some r ∧ Q r (S2.take S.length))) : (runFd F (d_difference_range ν) [market_, one_, other_] S).sat Q := run_sat0 rfl rfl h
theorem r_ceiling_bound {F : FS} {ν : Nat → Nat} {S : Store} {Q : D → Store → Prop} {market_ assignment_ goods_ : D} (h : (evSs F S.length [s_ceiling_bound_0 ν, s_ceiling_bound_1 ν, s_ceiling_bound_2 ν] (n_ceiling_bound (market_ := some market_) (assignment_ := some assignment_) (goods_ := some goods_)) S).sat (fun _ S2 => Q (.p .non) (S2.take S.length)) (fun v S2 => ∃ r, frz S.length S2 v = some r ∧ Q r (S2.take S.length))) : (runFd F (d_ceiling_bound ν) [market_, assignment_, goods_] S).sat Q := run_sat0 rfl rfl h
theorem r_floor_bound {F : FS} {ν : Nat → Nat} {S : Store} {Q : D → Store → Prop} {market_ assignment_ buyers_ good_ : D} (h : (evSs F S.length [s_floor_bound_0 ν, s_floor_bound_1 ν, s_floor_bound_2 ν] (n_floor_bound (market_ := some market_) (assignment_ := some assignment_) (buyers_ := some buyers_) (good_ := some good_)) S).sat (fun _ S2 => Q (.p .non) (S2.take S.length)) (fun v S2 => ∃ r, frz S.length S2 v = some r ∧ Q r (S2.take S.length))) : (runFd F (d_floor_bound ν) [market_, assignment_, buyers_, good_] S).sat Q := run_sat0 rfl rfl h
theorem r_ceiling {F : FS} {ν : Nat → Nat} {S : Store} {Q : D → Store → Prop} {market_ good_ : D} (h : (evSs F S.length [s_ceiling_0 ν, s_ceiling_1 ν, s_ceiling_2 ν, s_ceiling_3 ν, s_ceiling_4 ν, s_ceiling_5 ν] (n_ceiling (market_ := some market_) (good_ := some good_)) (S ++ [.nil])).sat (fun _ S2 => Q (.p .non) (S2.take S.length)) (fun v S2 => ∃ r, frz S.length S2 v = some r ∧ Q r (S2.take S.length))) : (runFd F (d_ceiling ν) [market_, good_] S).sat Q := run_sat rfl h
theorem r_floor {F : FS} {ν : Nat → Nat} {S : Store} {Q : D → Store → Prop} {market_ good_ : D} (h : (evSs F S.length [s_floor_0 ν, s_floor_1 ν, s_floor_2 ν, s_floor_3 ν, s_floor_4 ν, s_floor_5 ν] (n_floor (market_ := some market_) (good_ := some good_)) (S ++ [.nil])).sat (fun _ S2 => Q (.p .non) (S2.take S.length)) (fun v S2 => ∃ r, frz S.length S2 v = some r ∧ Q r (S2.take S.length))) : (runFd F (d_floor ν) [market_, good_] S).sat Q := run_sat rfl h
theorem r_are_floor {F : FS} {ν : Nat → Nat} {S : Store} {Q : D → Store → Prop} {market_ assignment_ buyers_ good_ : D} (h : (evSs F S.length [s_are_floor_0 ν, s_are_floor_1 ν, s_are_floor_2 ν] (n_are_floor (market_ := some market_) (assignment_ := some assignment_) (buyers_ := some buyers_) (good_ := some good_)) S).sat (fun _ S2 => Q (.p .non) (S2.take S.length)) (fun v S2 => ∃ r, frz S.length S2 v = some r ∧ Q r (S2.take S.length))) : (runFd F (d_are_floor ν) [market_, assignment_, buyers_, good_] S).sat Q := run_sat0 rfl rfl h
theorem r_is_best {F : FS} {ν : Nat → Nat} {S : Store} {Q : D → Store → Prop} {market_ value_ : D} (h : (evSs F S.length [s_is_best_0 ν] (n_is_best (market_ := some market_) (value_ := some value_)) S).sat (fun _ S2 => Q (.p .non) (S2.take S.length)) (fun v S2 => ∃ r, frz S.length S2 v = some r ∧ Q r (S2.take S.length))) : (runFd F (d_is_best ν) [market_, value_] S).sat Q := run_sat0 rfl rfl h
theorem r_are_numbers {F : FS} {ν : Nat → Nat} {S : Store} {Q : D → Store → Prop} {value_ size_ : D} (h : (evSs F S.length [s_are_numbers_0 ν, s_are_numbers_1 ν] (n_are_numbers (value_ := some value_) (size_ := some size_)) S).sat (fun _ S2 => Q (.p .non) (S2.take S.length)) (fun v S2 => ∃ r, frz S.length S2 v = some r ∧ Q r (S2.take S.length))) : (runFd F (d_are_numbers ν) [value_, size_] S).sat Q := run_sat0 rfl rfl h
theorem r_is_ceiling {F : FS} {ν : Nat → Nat} {S : Store} {Q : D → Store → Prop} {market_ good_ value_ : D} (h : (evSs F S.length [s_is_ceiling_0 ν, s_is_ceiling_1 ν, s_is_ceiling_2 ν, s_is_ceiling_3 ν, s_is_ceiling_4 ν, s_is_ceiling_5 ν, s_is_ceiling_6 ν] (n_is_ceiling (market_ := some market_) (good_ := some good_) (value_ := some value_)) S).sat (fun _ S2 => Q (.p .non) (S2.take S.length)) (fun v S2 => ∃ r, frz S.length S2 v = some r ∧ Q r (S2.take S.length))) : (runFd F (d_is_ceiling ν) [market_, good_, value_] S).sat Q := run_sat0 rfl rfl h
theorem r_is_floor {F : FS} {ν : Nat → Nat} {S : Store} {Q : D → Store → Prop} {market_ good_ value_ : D} (h : (evSs F S.length [s_is_floor_0 ν, s_is_floor_1 ν, s_is_floor_2 ν, s_is_floor_3 ν, s_is_floor_4 ν, s_is_floor_5 ν] (n_is_floor (market_ := some market_) (good_ := some good_) (value_ := some value_)) S).sat (fun _ S2 => Q (.p .non) (S2.take S.length)) (fun v S2 => ∃ r, frz S.length S2 v = some r ∧ Q r (S2.take S.length))) : (runFd F (d_is_floor ν) [market_, good_, value_] S).sat Q := run_sat0 rfl rfl h
theorem r_moved {F : FS} {ν : Nat → Nat} {S : Store} {Q : D → Store → Prop} {prices_ goods_ step_ : D} (h : (evSs F S.length [s_moved_0 ν] (n_moved (prices_ := some prices_) (goods_ := some goods_) (step_ := some step_)) S).sat (fun _ S2 => Q (.p .non) (S2.take S.length)) (fun v S2 => ∃ r, frz S.length S2 v = some r ∧ Q r (S2.take S.length))) : (runFd F (d_moved ν) [prices_, goods_, step_] S).sat Q := run_sat0 rfl rfl h
theorem r_rising {F : FS} {ν : Nat → Nat} {S : Store} {Q : D → Store → Prop} {market_ : D} (h : (evSs F S.length [s_rising_0 ν, s_rising_1 ν, s_rising_2 ν, s_rising_3 ν] (n_rising (market_ := some market_)) (S ++ [.nil])).sat (fun _ S2 => Q (.p .non) (S2.take S.length)) (fun v S2 => ∃ r, frz S.length S2 v = some r ∧ Q r (S2.take S.length))) : (runFd F (d_rising ν) [market_] S).sat Q := run_sat rfl h
theorem r_falling {F : FS} {ν : Nat → Nat} {S : Store} {Q : D → Store → Prop} {market_ : D} (h : (evSs F S.length [s_falling_0 ν, s_falling_1 ν, s_falling_2 ν, s_falling_3 ν] (n_falling (market_ := some market_)) (S ++ [.nil])).sat (fun _ S2 => Q (.p .non) (S2.take S.length)) (fun v S2 => ∃ r, frz S.length S2 v = some r ∧ Q r (S2.take S.length))) : (runFd F (d_falling ν) [market_] S).sat Q := run_sat rfl h
theorem r_greatest_gain {F : FS} {ν : Nat → Nat} {S : Store} {Q : D → Store → Prop} {market_ buyer_ : D} (h : (evSs F S.length [s_greatest_gain_0 ν, s_greatest_gain_1 ν, s_greatest_gain_2 ν] (n_greatest_gain (market_ := some market_) (buyer_ := some buyer_)) S).sat (fun _ S2 => Q (.p .non) (S2.take S.length)) (fun v S2 => ∃ r, frz S.length S2 v = some r ∧ Q r (S2.take S.length))) : (runFd F (d_greatest_gain ν) [market_, buyer_] S).sat Q := run_sat0 rfl rfl h
theorem r_least_gain {F : FS} {ν : Nat → Nat} {S : Store} {Q : D → Store → Prop} {market_ buyer_ : D} (h : (evSs F S.length [s_least_gain_0 ν, s_least_gain_1 ν, s_least_gain_2 ν] (n_least_gain (market_ := some market_) (buyer_ := some buyer_)) S).sat (fun _ S2 => Q (.p .non) (S2.take S.length)) (fun v S2 => ∃ r, frz S.length S2 v = some r ∧ Q r (S2.take S.length))) : (runFd F (d_least_gain ν) [market_, buyer_] S).sat Q := run_sat0 rfl rfl h
theorem r_rest_of {F : FS} {ν : Nat → Nat} {S : Store} {Q : D → Store → Prop} {market_ buyer_ : D} (h : (evSs F S.length [s_rest_of_0 ν] (n_rest_of (market_ := some market_) (buyer_ := some buyer_)) S).sat (fun _ S2 => Q (.p .non) (S2.take S.length)) (fun v S2 => ∃ r, frz S.length S2 v = some r ∧ Q r (S2.take S.length))) : (runFd F (d_rest_of ν) [market_, buyer_] S).sat Q := run_sat0 rfl rfl h
theorem r_added_value {F : FS} {ν : Nat → Nat} {S : Store} {Q : D → Store → Prop} {market_ buyer_ : D} (h : (evSs F S.length [s_added_value_0 ν, s_added_value_1 ν, s_added_value_2 ν] (n_added_value (market_ := some market_) (buyer_ := some buyer_)) S).sat (fun _ S2 => Q (.p .non) (S2.take S.length)) (fun v S2 => ∃ r, frz S.length S2 v = some r ∧ Q r (S2.take S.length))) : (runFd F (d_added_value ν) [market_, buyer_] S).sat Q := run_sat0 rfl rfl h
theorem r_told {F : FS} {ν : Nat → Nat} {S : Store} {Q : D → Store → Prop} {market_ buyer_ row_ : D} (h : (evSs F S.length [s_told_0 ν, s_told_1 ν, s_told_2 ν, s_told_3 ν] (n_told (market_ := some market_) (buyer_ := some buyer_) (row_ := some row_)) S).sat (fun _ S2 => Q (.p .non) (S2.take S.length)) (fun v S2 => ∃ r, frz S.length S2 v = some r ∧ Q r (S2.take S.length))) : (runFd F (d_told ν) [market_, buyer_, row_] S).sat Q := run_sat0 rfl rfl h
theorem r_without_buyer {F : FS} {ν : Nat → Nat} {S : Store} {Q : D → Store → Prop} {market_ buyer_ : D} (h : (evSs F S.length [s_without_buyer_0 ν, s_without_buyer_1 ν, s_without_buyer_2 ν, s_without_buyer_3 ν] (n_without_buyer (market_ := some market_) (buyer_ := some buyer_)) S).sat (fun _ S2 => Q (.p .non) (S2.take S.length)) (fun v S2 => ∃ r, frz S.length S2 v = some r ∧ Q r (S2.take S.length))) : (runFd F (d_without_buyer ν) [market_, buyer_] S).sat Q := run_sat0 rfl rfl h
theorem r_without_good {F : FS} {ν : Nat → Nat} {S : Store} {Q : D → Store → Prop} {market_ good_ : D} (h : (evSs F S.length [s_without_good_0 ν, s_without_good_1 ν, s_without_good_2 ν, s_without_good_3 ν] (n_without_good (market_ := some market_) (good_ := some good_)) S).sat (fun _ S2 => Q (.p .non) (S2.take S.length)) (fun v S2 => ∃ r, frz S.length S2 v = some r ∧ Q r (S2.take S.length))) : (runFd F (d_without_good ν) [market_, good_] S).sat Q := run_sat0 rfl rfl h
theorem r_with_good {F : FS} {ν : Nat → Nat} {S : Store} {Q : D → Store → Prop} {market_ column_ : D} (h : (evSs F S.length [s_with_good_0 ν, s_with_good_1 ν, s_with_good_2 ν, s_with_good_3 ν] (n_with_good (market_ := some market_) (column_ := some column_)) S).sat (fun _ S2 => Q (.p .non) (S2.take S.length)) (fun v S2 => ∃ r, frz S.length S2 v = some r ∧ Q r (S2.take S.length))) : (runFd F (d_with_good ν) [market_, column_] S).sat Q := run_sat0 rfl rfl h
theorem r_format_market {F : FS} {ν : Nat → Nat} {S : Store} {Q : D → Store → Prop} {market_ : D} (h : (evSs F S.length [s_format_market_0 ν, s_format_market_1 ν] (n_format_market (market_ := some market_)) S).sat (fun _ S2 => Q (.p .non) (S2.take S.length)) (fun v S2 => ∃ r, frz S.length S2 v = some r ∧ Q r (S2.take S.length))) : (runFd F (d_format_market ν) [market_] S).sat Q := run_sat0 rfl rfl h
theorem r__law_draw {F : FS} {ν : Nat → Nat} {S : Store} {Q : D → Store → Prop} {script_ town_ limit_ : D} (h : (evSs F S.length [s__law_draw_0 ν, s__law_draw_1 ν, s__law_draw_2 ν, s__law_draw_3 ν, s__law_draw_4 ν, s__law_draw_5 ν, s__law_draw_6 ν, s__law_draw_7 ν] (n__law_draw (script_ := some script_) (town_ := some town_) (limit_ := some limit_)) S).sat (fun _ S2 => Q (.p .non) (S2.take S.length)) (fun v S2 => ∃ r, frz S.length S2 v = some r ∧ Q r (S2.take S.length))) : (runFd F (d__law_draw ν) [script_, town_, limit_] S).sat Q := run_sat0 rfl rfl h
theorem r__law_pick {F : FS} {ν : Nat → Nat} {S : Store} {Q : D → Store → Prop} {script_ town_ choices_ : D} (h : (evSs F S.length [s__law_pick_0 ν] (n__law_pick (script_ := some script_) (town_ := some town_) (choices_ := some choices_)) S).sat (fun _ S2 => Q (.p .non) (S2.take S.length)) (fun v S2 => ∃ r, frz S.length S2 v = some r ∧ Q r (S2.take S.length))) : (runFd F (d__law_pick ν) [script_, town_, choices_] S).sat Q := run_sat0 rfl rfl h
theorem r__law_raises {F : FS} {ν : Nat → Nat} {S : Store} {Q : D → Store → Prop} {name_ : D} (h : (evSs F S.length [s__law_raises_0 ν, s__law_raises_1 ν, s__law_raises_2 ν] (n__law_raises (name_ := some name_)) S).sat (fun _ S2 => Q (.p .non) (S2.take S.length)) (fun v S2 => ∃ r, frz S.length S2 v = some r ∧ Q r (S2.take S.length))) : (runFd F (d__law_raises ν) [name_] S).sat Q := run_sat0 rfl rfl h
theorem r__law_market {F : FS} {ν : Nat → Nat} {S : Store} {Q : D → Store → Prop} {script_ town_ buyers_ goods_ : D} (h : (evSs F S.length [s__law_market_0 ν, s__law_market_1 ν, s__law_market_2 ν, s__law_market_3 ν, s__law_market_4 ν] (n__law_market (script_ := some script_) (town_ := some town_) (buyers_ := some buyers_) (goods_ := some goods_)) (S ++ [.nil])).sat (fun _ S2 => Q (.p .non) (S2.take S.length)) (fun v S2 => ∃ r, frz S.length S2 v = some r ∧ Q r (S2.take S.length))) : (runFd F (d__law_market ν) [script_, town_, buyers_, goods_] S).sat Q := run_sat rfl h
theorem r__law_bad_markets {F : FS} {ν : Nat → Nat} {S : Store} {Q : D → Store → Prop} (h : (evSs F S.length [s__law_bad_markets_0 ν, s__law_bad_markets_1 ν, s__law_bad_markets_2 ν, s__law_bad_markets_3 ν] (n__law_bad_markets ) S).sat (fun _ S2 => Q (.p .non) (S2.take S.length)) (fun v S2 => ∃ r, frz S.length S2 v = some r ∧ Q r (S2.take S.length))) : (runFd F (d__law_bad_markets ν) [] S).sat Q := run_sat0 rfl rfl h
theorem r__law_wrongs {F : FS} {ν : Nat → Nat} {S : Store} {Q : D → Store → Prop} (h : (evSs F S.length [s__law_wrongs_0 ν, s__law_wrongs_1 ν, s__law_wrongs_2 ν, s__law_wrongs_3 ν, s__law_wrongs_4 ν, s__law_wrongs_5 ν, s__law_wrongs_6 ν] (n__law_wrongs ) (S ++ [.nil])).sat (fun _ S2 => Q (.p .non) (S2.take S.length)) (fun v S2 => ∃ r, frz S.length S2 v = some r ∧ Q r (S2.take S.length))) : (runFd F (d__law_wrongs ν) [] S).sat Q := run_sat rfl h
theorem r_law_k01 {F : FS} {ν : Nat → Nat} {S : Store} {Q : D → Store → Prop} {script_ : D} (h : (evSs F S.length [s_law_k01_0 ν, s_law_k01_1 ν, s_law_k01_2 ν, s_law_k01_3 ν, s_law_k01_4 ν, s_law_k01_5 ν, s_law_k01_6 ν, s_law_k01_7 ν, s_law_k01_8 ν, s_law_k01_9 ν, s_law_k01_10 ν, s_law_k01_11 ν, s_law_k01_12 ν, s_law_k01_13 ν, s_law_k01_14 ν] (n_law_k01 (script_ := some script_)) (S ++ [.nil])).sat (fun _ S2 => Q (.p .non) (S2.take S.length)) (fun v S2 => ∃ r, frz S.length S2 v = some r ∧ Q r (S2.take S.length))) : (runFd F (d_law_k01 ν) [script_] S).sat Q := run_sat rfl h
theorem r__law_assignments {F : FS} {ν : Nat → Nat} {S : Store} {Q : D → Store → Prop} {market_ : D} (h : (evSs F S.length [s__law_assignments_0 ν, s__law_assignments_1 ν, s__law_assignments_2 ν] (n__law_assignments (market_ := some market_)) (S ++ [.nil])).sat (fun _ S2 => Q (.p .non) (S2.take S.length)) (fun v S2 => ∃ r, frz S.length S2 v = some r ∧ Q r (S2.take S.length))) : (runFd F (d__law_assignments ν) [market_] S).sat Q := run_sat rfl h
theorem r__law_total {F : FS} {ν : Nat → Nat} {S : Store} {Q : D → Store → Prop} {market_ assignment_ : D} (h : (evSs F S.length [s__law_total_0 ν, s__law_total_1 ν, s__law_total_2 ν] (n__law_total (market_ := some market_) (assignment_ := some assignment_)) S).sat (fun _ S2 => Q (.p .non) (S2.take S.length)) (fun v S2 => ∃ r, frz S.length S2 v = some r ∧ Q r (S2.take S.length))) : (runFd F (d__law_total ν) [market_, assignment_] S).sat Q := run_sat0 rfl rfl h
theorem r__law_best {F : FS} {ν : Nat → Nat} {S : Store} {Q : D → Store → Prop} {market_ : D} (h : (evSs F S.length [s__law_best_0 ν, s__law_best_1 ν, s__law_best_2 ν] (n__law_best (market_ := some market_)) S).sat (fun _ S2 => Q (.p .non) (S2.take S.length)) (fun v S2 => ∃ r, frz S.length S2 v = some r ∧ Q r (S2.take S.length))) : (runFd F (d__law_best ν) [market_] S).sat Q := run_sat0 rfl rfl h
theorem r_law_k02 {F : FS} {ν : Nat → Nat} {S : Store} {Q : D → Store → Prop} {script_ : D} (h : (evSs F S.length [s_law_k02_0 ν, s_law_k02_1 ν, s_law_k02_2 ν, s_law_k02_3 ν, s_law_k02_4 ν, s_law_k02_5 ν, s_law_k02_6 ν, s_law_k02_7 ν, s_law_k02_8 ν, s_law_k02_9 ν, s_law_k02_10 ν, s_law_k02_11 ν, s_law_k02_12 ν, s_law_k02_13 ν, s_law_k02_14 ν, s_law_k02_15 ν, s_law_k02_16 ν, s_law_k02_17 ν, s_law_k02_18 ν, s_law_k02_19 ν, s_law_k02_20 ν, s_law_k02_21 ν, s_law_k02_22 ν] (n_law_k02 (script_ := some script_)) (S ++ [.nil, .nil, .nil])).sat (fun _ S2 => Q (.p .non) (S2.take S.length)) (fun v S2 => ∃ r, frz S.length S2 v = some r ∧ Q r (S2.take S.length))) : (runFd F (d_law_k02 ν) [script_] S).sat Q := run_sat rfl h
theorem r__law_most {F : FS} {ν : Nat → Nat} {S : Store} {Q : D → Store → Prop} {market_ : D} (h : (evSs F S.length [s__law_most_0 ν, s__law_most_1 ν] (n__law_most (market_ := some market_)) S).sat (fun _ S2 => Q (.p .non) (S2.take S.length)) (fun v S2 => ∃ r, frz S.length S2 v = some r ∧ Q r (S2.take S.length))) : (runFd F (d__law_most ν) [market_] S).sat Q := run_sat0 rfl rfl h
theorem r_law_k03 {F : FS} {ν : Nat → Nat} {S : Store} {Q : D → Store → Prop} {script_ : D} (h : (evSs F S.length [s_law_k03_0 ν, s_law_k03_1 ν, s_law_k03_2 ν, s_law_k03_3 ν, s_law_k03_4 ν, s_law_k03_5 ν, s_law_k03_6 ν, s_law_k03_7 ν, s_law_k03_8 ν, s_law_k03_9 ν, s_law_k03_10 ν, s_law_k03_11 ν, s_law_k03_12 ν, s_law_k03_13 ν] (n_law_k03 (script_ := some script_)) (S ++ [.nil, .nil, .nil])).sat (fun _ S2 => Q (.p .non) (S2.take S.length)) (fun v S2 => ∃ r, frz S.length S2 v = some r ∧ Q r (S2.take S.length))) : (runFd F (d_law_k03 ν) [script_] S).sat Q := run_sat rfl h
theorem r__law_top {F : FS} {ν : Nat → Nat} {S : Store} {Q : D → Store → Prop} {row_ costs_ : D} (h : (evSs F S.length [s__law_top_0 ν, s__law_top_1 ν, s__law_top_2 ν] (n__law_top (row_ := some row_) (costs_ := some costs_)) S).sat (fun _ S2 => Q (.p .non) (S2.take S.length)) (fun v S2 => ∃ r, frz S.length S2 v = some r ∧ Q r (S2.take S.length))) : (runFd F (d__law_top ν) [row_, costs_] S).sat Q := run_sat0 rfl rfl h
theorem r__law_supports {F : FS} {ν : Nat → Nat} {S : Store} {Q : D → Store → Prop} {market_ costs_ assignment_ : D} (h : (evSs F S.length [s__law_supports_0 ν, s__law_supports_1 ν] (n__law_supports (market_ := some market_) (costs_ := some costs_) (assignment_ := some assignment_)) S).sat (fun _ S2 => Q (.p .non) (S2.take S.length)) (fun v S2 => ∃ r, frz S.length S2 v = some r ∧ Q r (S2.take S.length))) : (runFd F (d__law_supports ν) [market_, costs_, assignment_] S).sat Q := run_sat0 rfl rfl h
theorem r__law_objection {F : FS} {ν : Nat → Nat} {S : Store} {Q : D → Store → Prop} {market_ costs_ assignment_ : D} (h : (evSs F S.length [s__law_objection_0 ν, s__law_objection_1 ν, s__law_objection_2 ν, s__law_objection_3 ν, s__law_objection_4 ν, s__law_objection_5 ν, s__law_objection_6 ν] (n__law_objection (market_ := some market_) (costs_ := some costs_) (assignment_ := some assignment_)) (S ++ [.nil])).sat (fun _ S2 => Q (.p .non) (S2.take S.length)) (fun v S2 => ∃ r, frz S.length S2 v = some r ∧ Q r (S2.take S.length))) : (runFd F (d__law_objection ν) [market_, costs_, assignment_] S).sat Q := run_sat rfl h
theorem r_law_k10 {F : FS} {ν : Nat → Nat} {S : Store} {Q : D → Store → Prop} {script_ : D} (h : (evSs F S.length [s_law_k10_0 ν, s_law_k10_1 ν, s_law_k10_2 ν, s_law_k10_3 ν, s_law_k10_4 ν, s_law_k10_5 ν, s_law_k10_6 ν, s_law_k10_7 ν, s_law_k10_8 ν, s_law_k10_9 ν, s_law_k10_10 ν, s_law_k10_11 ν, s_law_k10_12 ν, s_law_k10_13 ν] (n_law_k10 (script_ := some script_)) (S ++ [.nil])).sat (fun _ S2 => Q (.p .non) (S2.take S.length)) (fun v S2 => ∃ r, frz S.length S2 v = some r ∧ Q r (S2.take S.length))) : (runFd F (d_law_k10 ν) [script_] S).sat Q := run_sat rfl h
theorem r__law_is_stable {F : FS} {ν : Nat → Nat} {S : Store} {Q : D → Store → Prop} {market_ costs_ : D} (h : (evSs F S.length [s__law_is_stable_0 ν] (n__law_is_stable (market_ := some market_) (costs_ := some costs_)) S).sat (fun _ S2 => Q (.p .non) (S2.take S.length)) (fun v S2 => ∃ r, frz S.length S2 v = some r ∧ Q r (S2.take S.length))) : (runFd F (d__law_is_stable ν) [market_, costs_] S).sat Q := run_sat0 rfl rfl h
theorem r__law_sets {F : FS} {ν : Nat → Nat} {S : Store} {Q : D → Store → Prop} {size_ : D} (h : (evSs F S.length [s__law_sets_0 ν, s__law_sets_1 ν, s__law_sets_2 ν] (n__law_sets (size_ := some size_)) (S ++ [.nil])).sat (fun _ S2 => Q (.p .non) (S2.take S.length)) (fun v S2 => ∃ r, frz S.length S2 v = some r ∧ Q r (S2.take S.length))) : (runFd F (d__law_sets ν) [size_] S).sat Q := run_sat rfl h
theorem r__law_is_crowd {F : FS} {ν : Nat → Nat} {S : Store} {Q : D → Store → Prop} {market_ costs_ some_ : D} (h : (evSs F S.length [s__law_is_crowd_0 ν, s__law_is_crowd_1 ν, s__law_is_crowd_2 ν] (n__law_is_crowd (market_ := some market_) (costs_ := some costs_) (some_ := some some_)) S).sat (fun _ S2 => Q (.p .non) (S2.take S.length)) (fun v S2 => ∃ r, frz S.length S2 v = some r ∧ Q r (S2.take S.length))) : (runFd F (d__law_is_crowd ν) [market_, costs_, some_] S).sat Q := run_sat0 rfl rfl h
theorem r__law_is_glut {F : FS} {ν : Nat → Nat} {S : Store} {Q : D → Store → Prop} {market_ costs_ some_ : D} (h : (evSs F S.length [s__law_is_glut_0 ν, s__law_is_glut_1 ν, s__law_is_glut_2 ν] (n__law_is_glut (market_ := some market_) (costs_ := some costs_) (some_ := some some_)) S).sat (fun _ S2 => Q (.p .non) (S2.take S.length)) (fun v S2 => ∃ r, frz S.length S2 v = some r ∧ Q r (S2.take S.length))) : (runFd F (d__law_is_glut ν) [market_, costs_, some_] S).sat Q := run_sat0 rfl rfl h
theorem r_law_k11 {F : FS} {ν : Nat → Nat} {S : Store} {Q : D → Store → Prop} {script_ : D} (h : (evSs F S.length [s_law_k11_0 ν, s_law_k11_1 ν, s_law_k11_2 ν, s_law_k11_3 ν, s_law_k11_4 ν, s_law_k11_5 ν, s_law_k11_6 ν, s_law_k11_7 ν, s_law_k11_8 ν, s_law_k11_9 ν, s_law_k11_10 ν, s_law_k11_11 ν, s_law_k11_12 ν, s_law_k11_13 ν, s_law_k11_14 ν, s_law_k11_15 ν, s_law_k11_16 ν] (n_law_k11 (script_ := some script_)) (S ++ [.nil])).sat (fun _ S2 => Q (.p .non) (S2.take S.length)) (fun v S2 => ∃ r, frz S.length S2 v = some r ∧ Q r (S2.take S.length))) : (runFd F (d_law_k11 ν) [script_] S).sat Q := run_sat rfl h
theorem r__law_part {F : FS} {ν : Nat → Nat} {S : Store} {Q : D → Store → Prop} {market_ buyers_ goods_ : D} (h : (evSs F S.length [s__law_part_0 ν] (n__law_part (market_ := some market_) (buyers_ := some buyers_) (goods_ := some goods_)) S).sat (fun _ S2 => Q (.p .non) (S2.take S.length)) (fun v S2 => ∃ r, frz S.length S2 v = some r ∧ Q r (S2.take S.length))) : (runFd F (d__law_part ν) [market_, buyers_, goods_] S).sat Q := run_sat0 rfl rfl h
theorem r_law_k12 {F : FS} {ν : Nat → Nat} {S : Store} {Q : D → Store → Prop} {script_ : D} (h : (evSs F S.length [s_law_k12_0 ν, s_law_k12_1 ν, s_law_k12_2 ν, s_law_k12_3 ν, s_law_k12_4 ν, s_law_k12_5 ν, s_law_k12_6 ν, s_law_k12_7 ν, s_law_k12_8 ν, s_law_k12_9 ν] (n_law_k12 (script_ := some script_)) (S ++ [.nil])).sat (fun _ S2 => Q (.p .non) (S2.take S.length)) (fun v S2 => ∃ r, frz S.length S2 v = some r ∧ Q r (S2.take S.length))) : (runFd F (d_law_k12 ν) [script_] S).sat Q := run_sat rfl h
theorem r__law_all_prices {F : FS} {ν : Nat → Nat} {S : Store} {Q : D → Store → Prop} {market_ most_ : D} (h : (evSs F S.length [s__law_all_prices_0 ν, s__law_all_prices_1 ν, s__law_all_prices_2 ν] (n__law_all_prices (market_ := some market_) (most_ := some most_)) S).sat (fun _ S2 => Q (.p .non) (S2.take S.length)) (fun v S2 => ∃ r, frz S.length S2 v = some r ∧ Q r (S2.take S.length))) : (runFd F (d__law_all_prices ν) [market_, most_] S).sat Q := run_sat0 rfl rfl h
theorem r_law_k20 {F : FS} {ν : Nat → Nat} {S : Store} {Q : D → Store → Prop} {script_ : D} (h : (evSs F S.length [s_law_k20_0 ν, s_law_k20_1 ν, s_law_k20_2 ν, s_law_k20_3 ν, s_law_k20_4 ν, s_law_k20_5 ν, s_law_k20_6 ν, s_law_k20_7 ν, s_law_k20_8 ν, s_law_k20_9 ν, s_law_k20_10 ν, s_law_k20_11 ν, s_law_k20_12 ν, s_law_k20_13 ν, s_law_k20_14 ν, s_law_k20_15 ν, s_law_k20_16 ν] (n_law_k20 (script_ := some script_)) (S ++ [.nil])).sat (fun _ S2 => Q (.p .non) (S2.take S.length)) (fun v S2 => ∃ r, frz S.length S2 v = some r ∧ Q r (S2.take S.length))) : (runFd F (d_law_k20 ν) [script_] S).sat Q := run_sat rfl h
theorem r__law_ceiling {F : FS} {ν : Nat → Nat} {S : Store} {Q : D → Store → Prop} {market_ assignment_ goods_ : D} (h : (evSs F S.length [s__law_ceiling_0 ν, s__law_ceiling_1 ν, s__law_ceiling_2 ν, s__law_ceiling_3 ν] (n__law_ceiling (market_ := some market_) (assignment_ := some assignment_) (goods_ := some goods_)) S).sat (fun _ S2 => Q (.p .non) (S2.take S.length)) (fun v S2 => ∃ r, frz S.length S2 v = some r ∧ Q r (S2.take S.length))) : (runFd F (d__law_ceiling ν) [market_, assignment_, goods_] S).sat Q := run_sat0 rfl rfl h
theorem r__law_floor {F : FS} {ν : Nat → Nat} {S : Store} {Q : D → Store → Prop} {market_ assignment_ good_ buyers_ : D} (h : (evSs F S.length [s__law_floor_0 ν, s__law_floor_1 ν, s__law_floor_2 ν, s__law_floor_3 ν, s__law_floor_4 ν] (n__law_floor (market_ := some market_) (assignment_ := some assignment_) (good_ := some good_) (buyers_ := some buyers_)) S).sat (fun _ S2 => Q (.p .non) (S2.take S.length)) (fun v S2 => ∃ r, frz S.length S2 v = some r ∧ Q r (S2.take S.length))) : (runFd F (d__law_floor ν) [market_, assignment_, good_, buyers_] S).sat Q := run_sat0 rfl rfl h
theorem r__law_some {F : FS} {ν : Nat → Nat} {S : Store} {Q : D → Store → Prop} {script_ town_ first_ size_ : D} (h : (evSs F S.length [s__law_some_0 ν, s__law_some_1 ν, s__law_some_2 ν] (n__law_some (script_ := some script_) (town_ := some town_) (first_ := some first_) (size_ := some size_)) S).sat (fun _ S2 => Q (.p .non) (S2.take S.length)) (fun v S2 => ∃ r, frz S.length S2 v = some r ∧ Q r (S2.take S.length))) : (runFd F (d__law_some ν) [script_, town_, first_, size_] S).sat Q := run_sat0 rfl rfl h
theorem r_law_k21 {F : FS} {ν : Nat → Nat} {S : Store} {Q : D → Store → Prop} {script_ : D} (h : (evSs F S.length [s_law_k21_0 ν, s_law_k21_1 ν, s_law_k21_2 ν, s_law_k21_3 ν, s_law_k21_4 ν, s_law_k21_5 ν, s_law_k21_6 ν] (n_law_k21 (script_ := some script_)) (S ++ [.nil])).sat (fun _ S2 => Q (.p .non) (S2.take S.length)) (fun v S2 => ∃ r, frz S.length S2 v = some r ∧ Q r (S2.take S.length))) : (runFd F (d_law_k21 ν) [script_] S).sat Q := run_sat rfl h
theorem r__law_is_ceiling {F : FS} {ν : Nat → Nat} {S : Store} {Q : D → Store → Prop} {market_ good_ assignment_ goods_ due_ : D} (h : (evSs F S.length [s__law_is_ceiling_0 ν, s__law_is_ceiling_1 ν, s__law_is_ceiling_2 ν, s__law_is_ceiling_3 ν, s__law_is_ceiling_4 ν] (n__law_is_ceiling (market_ := some market_) (good_ := some good_) (assignment_ := some assignment_) (goods_ := some goods_) (due_ := some due_)) S).sat (fun _ S2 => Q (.p .non) (S2.take S.length)) (fun v S2 => ∃ r, frz S.length S2 v = some r ∧ Q r (S2.take S.length))) : (runFd F (d__law_is_ceiling ν) [market_, good_, assignment_, goods_, due_] S).sat Q := run_sat0 rfl rfl h
theorem r__law_is_floor {F : FS} {ν : Nat → Nat} {S : Store} {Q : D → Store → Prop} {market_ good_ assignment_ buyers_ due_ : D} (h : (evSs F S.length [s__law_is_floor_0 ν, s__law_is_floor_1 ν, s__law_is_floor_2 ν, s__law_is_floor_3 ν, s__law_is_floor_4 ν, s__law_is_floor_5 ν] (n__law_is_floor (market_ := some market_) (good_ := some good_) (assignment_ := some assignment_) (buyers_ := some buyers_) (due_ := some due_)) S).sat (fun _ S2 => Q (.p .non) (S2.take S.length)) (fun v S2 => ∃ r, frz S.length S2 v = some r ∧ Q r (S2.take S.length))) : (runFd F (d__law_is_floor ν) [market_, good_, assignment_, buyers_, due_] S).sat Q := run_sat0 rfl rfl h
theorem r_law_k22 {F : FS} {ν : Nat → Nat} {S : Store} {Q : D → Store → Prop} {script_ : D} (h : (evSs F S.length [s_law_k22_0 ν, s_law_k22_1 ν, s_law_k22_2 ν, s_law_k22_3 ν, s_law_k22_4 ν, s_law_k22_5 ν, s_law_k22_6 ν, s_law_k22_7 ν, s_law_k22_8 ν, s_law_k22_9 ν, s_law_k22_10 ν, s_law_k22_11 ν, s_law_k22_12 ν, s_law_k22_13 ν, s_law_k22_14 ν, s_law_k22_15 ν] (n_law_k22 (script_ := some script_)) (S ++ [.nil, .nil])).sat (fun _ S2 => Q (.p .non) (S2.take S.length)) (fun v S2 => ∃ r, frz S.length S2 v = some r ∧ Q r (S2.take S.length))) : (runFd F (d_law_k22 ν) [script_] S).sat Q := run_sat rfl h
theorem r_law_k24 {F : FS} {ν : Nat → Nat} {S : Store} {Q : D → Store → Prop} {script_ : D} (h : (evSs F S.length [s_law_k24_0 ν, s_law_k24_1 ν, s_law_k24_2 ν, s_law_k24_3 ν, s_law_k24_4 ν, s_law_k24_5 ν, s_law_k24_6 ν, s_law_k24_7 ν, s_law_k24_8 ν, s_law_k24_9 ν, s_law_k24_10 ν, s_law_k24_11 ν, s_law_k24_12 ν, s_law_k24_13 ν, s_law_k24_14 ν, s_law_k24_15 ν, s_law_k24_16 ν, s_law_k24_17 ν, s_law_k24_18 ν, s_law_k24_19 ν, s_law_k24_20 ν, s_law_k24_21 ν] (n_law_k24 (script_ := some script_)) (S ++ [.nil])).sat (fun _ S2 => Q (.p .non) (S2.take S.length)) (fun v S2 => ∃ r, frz S.length S2 v = some r ∧ Q r (S2.take S.length))) : (runFd F (d_law_k24 ν) [script_] S).sat Q := run_sat rfl h
theorem r__law_moved {F : FS} {ν : Nat → Nat} {S : Store} {Q : D → Store → Prop} {costs_ some_ step_ : D} (h : (evSs F S.length [s__law_moved_0 ν] (n__law_moved (costs_ := some costs_) (some_ := some some_) (step_ := some step_)) S).sat (fun _ S2 => Q (.p .non) (S2.take S.length)) (fun v S2 => ∃ r, frz S.length S2 v = some r ∧ Q r (S2.take S.length))) : (runFd F (d__law_moved ν) [costs_, some_, step_] S).sat Q := run_sat0 rfl rfl h
theorem r_law_k30 {F : FS} {ν : Nat → Nat} {S : Store} {Q : D → Store → Prop} {script_ : D} (h : (evSs F S.length [s_law_k30_0 ν, s_law_k30_1 ν, s_law_k30_2 ν, s_law_k30_3 ν, s_law_k30_4 ν, s_law_k30_5 ν, s_law_k30_6 ν, s_law_k30_7 ν, s_law_k30_8 ν, s_law_k30_9 ν] (n_law_k30 (script_ := some script_)) (S ++ [.nil])).sat (fun _ S2 => Q (.p .non) (S2.take S.length)) (fun v S2 => ∃ r, frz S.length S2 v = some r ∧ Q r (S2.take S.length))) : (runFd F (d_law_k30 ν) [script_] S).sat Q := run_sat rfl h
theorem r__law_true_gain {F : FS} {ν : Nat → Nat} {S : Store} {Q : D → Store → Prop} {market_ buyer_ row_ : D} (h : (evSs F S.length [s__law_true_gain_0 ν, s__law_true_gain_1 ν] (n__law_true_gain (market_ := some market_) (buyer_ := some buyer_) (row_ := some row_)) S).sat (fun _ S2 => Q (.p .non) (S2.take S.length)) (fun v S2 => ∃ r, frz S.length S2 v = some r ∧ Q r (S2.take S.length))) : (runFd F (d__law_true_gain ν) [market_, buyer_, row_] S).sat Q := run_sat0 rfl rfl h
theorem r__law_at_most {F : FS} {ν : Nat → Nat} {S : Store} {Q : D → Store → Prop} {one_ other_ : D} (h : (evSs F S.length [s__law_at_most_0 ν] (n__law_at_most (one_ := some one_) (other_ := some other_)) S).sat (fun _ S2 => Q (.p .non) (S2.take S.length)) (fun v S2 => ∃ r, frz S.length S2 v = some r ∧ Q r (S2.take S.length))) : (runFd F (d__law_at_most ν) [one_, other_] S).sat Q := run_sat0 rfl rfl h
theorem r__law_newcomers_are_right {F : FS} {ν : Nat → Nat} {S : Store} {Q : D → Store → Prop} {script_ town_ market_ ends_ gains_of_ : D} (h : (evSs F S.length [s__law_newcomers_are_right_0 ν, s__law_newcomers_are_right_1 ν, s__law_newcomers_are_right_2 ν, s__law_newcomers_are_right_3 ν, s__law_newcomers_are_right_4 ν, s__law_newcomers_are_right_5 ν] (n__law_newcomers_are_right (script_ := some script_) (town_ := some town_) (market_ := some market_) (ends_ := some ends_) (gains_of_ := some gains_of_)) S).sat (fun _ S2 => Q (.p .non) (S2.take S.length)) (fun v S2 => ∃ r, frz S.length S2 v = some r ∧ Q r (S2.take S.length))) : (runFd F (d__law_newcomers_are_right ν) [script_, town_, market_, ends_, gains_of_] S).sat Q := run_sat0 rfl rfl h
theorem r_law_k40 {F : FS} {ν : Nat → Nat} {S : Store} {Q : D → Store → Prop} {script_ : D} (h : (evSs F S.length [s_law_k40_0 ν, s_law_k40_1 ν, s_law_k40_2 ν, s_law_k40_3 ν, s_law_k40_4 ν, s_law_k40_5 ν, s_law_k40_6 ν, s_law_k40_7 ν, s_law_k40_8 ν] (n_law_k40 (script_ := some script_)) (S ++ [.nil])).sat (fun _ S2 => Q (.p .non) (S2.take S.length)) (fun v S2 => ∃ r, frz S.length S2 v = some r ∧ Q r (S2.take S.length))) : (runFd F (d_law_k40 ν) [script_] S).sat Q := run_sat rfl h
theorem r__law_turned {F : FS} {ν : Nat → Nat} {S : Store} {Q : D → Store → Prop} {market_ : D} (h : (evSs F S.length [s__law_turned_0 ν] (n__law_turned (market_ := some market_)) S).sat (fun _ S2 => Q (.p .non) (S2.take S.length)) (fun v S2 => ∃ r, frz S.length S2 v = some r ∧ Q r (S2.take S.length))) : (runFd F (d__law_turned ν) [market_] S).sat Q := run_sat0 rfl rfl h
theorem r_law_k42 {F : FS} {ν : Nat → Nat} {S : Store} {Q : D → Store → Prop} {script_ : D} (h : (evSs F S.length [s_law_k42_0 ν, s_law_k42_1 ν, s_law_k42_2 ν, s_law_k42_3 ν, s_law_k42_4 ν, s_law_k42_5 ν, s_law_k42_6 ν, s_law_k42_7 ν, s_law_k42_8 ν, s_law_k42_9 ν, s_law_k42_10 ν, s_law_k42_11 ν, s_law_k42_12 ν, s_law_k42_13 ν, s_law_k42_14 ν] (n_law_k42 (script_ := some script_)) (S ++ [.nil])).sat (fun _ S2 => Q (.p .non) (S2.take S.length)) (fun v S2 => ∃ r, frz S.length S2 v = some r ∧ Q r (S2.take S.length))) : (runFd F (d_law_k42 ν) [script_] S).sat Q := run_sat rfl h
theorem r_law_k43 {F : FS} {ν : Nat → Nat} {S : Store} {Q : D → Store → Prop} {script_ : D} (h : (evSs F S.length [s_law_k43_0 ν, s_law_k43_1 ν, s_law_k43_2 ν, s_law_k43_3 ν, s_law_k43_4 ν, s_law_k43_5 ν, s_law_k43_6 ν, s_law_k43_7 ν, s_law_k43_8 ν, s_law_k43_9 ν, s_law_k43_10 ν, s_law_k43_11 ν, s_law_k43_12 ν, s_law_k43_13 ν, s_law_k43_14 ν, s_law_k43_15 ν, s_law_k43_16 ν, s_law_k43_17 ν, s_law_k43_18 ν, s_law_k43_19 ν, s_law_k43_20 ν, s_law_k43_21 ν, s_law_k43_22 ν] (n_law_k43 (script_ := some script_)) (S ++ [.nil])).sat (fun _ S2 => Q (.p .non) (S2.take S.length)) (fun v S2 => ∃ r, frz S.length S2 v = some r ∧ Q r (S2.take S.length))) : (runFd F (d_law_k43 ν) [script_] S).sat Q := run_sat rfl h
theorem r__law_edit {F : FS} {ν : Nat → Nat} {S : Store} {Q : D → Store → Prop} {script_ town_ market_ : D} (h : (evSs F S.length [s__law_edit_0 ν, s__law_edit_1 ν, s__law_edit_2 ν, s__law_edit_3 ν, s__law_edit_4 ν, s__law_edit_5 ν, s__law_edit_6 ν] (n__law_edit (script_ := some script_) (town_ := some town_) (market_ := some market_)) S).sat (fun _ S2 => Q (.p .non) (S2.take S.length)) (fun v S2 => ∃ r, frz S.length S2 v = some r ∧ Q r (S2.take S.length))) : (runFd F (d__law_edit ν) [script_, town_, market_] S).sat Q := run_sat0 rfl rfl h
theorem r__law_call_k50 {F : FS} {ν : Nat → Nat} {S : Store} {Q : D → Store → Prop} {way_ arguments_ : D} (h : (evSs F S.length [s__law_call_k50_0 ν] (n__law_call_k50 (way_ := some way_) (arguments_ := some arguments_)) S).sat (fun _ S2 => Q (.p .non) (S2.take S.length)) (fun v S2 => ∃ r, frz S.length S2 v = some r ∧ Q r (S2.take S.length))) : (runFd F (d__law_call_k50 ν) [way_, arguments_] S).sat Q := run_sat0 rfl rfl h
theorem r__law_due {F : FS} {ν : Nat → Nat} {S : Store} {Q : D → Store → Prop} {name_ arguments_ before_ now_ : D} (h : (evSs F S.length [s__law_due_0 ν, s__law_due_1 ν] (n__law_due (name_ := some name_) (arguments_ := some arguments_) (before_ := some before_) (now_ := some now_)) S).sat (fun _ S2 => Q (.p .non) (S2.take S.length)) (fun v S2 => ∃ r, frz S.length S2 v = some r ∧ Q r (S2.take S.length))) : (runFd F (d__law_due ν) [name_, arguments_, before_, now_] S).sat Q := run_sat0 rfl rfl h
theorem r_read_number {F : FS} {ν : Nat → Nat} {S : Store} {Q : D → Store → Prop} {word_ : D} (h : (evSs F S.length [s_read_number_0 ν, s_read_number_1 ν] (n_read_number (word_ := some word_)) S).sat (fun _ S2 => Q (.p .non) (S2.take S.length)) (fun v S2 => ∃ r, frz S.length S2 v = some r ∧ Q r (S2.take S.length))) : (runFd F (d_read_number ν) [word_] S).sat Q := run_sat0 rfl rfl h
theorem r__law_call_k52 {F : FS} {ν : Nat → Nat} {S : Store} {Q : D → Store → Prop} {way_ arguments_ : D} (h : (evSs F S.length [s__law_call_k52_0 ν] (n__law_call_k52 (way_ := some way_) (arguments_ := some arguments_)) S).sat (fun _ S2 => Q (.p .non) (S2.take S.length)) (fun v S2 => ∃ r, frz S.length S2 v = some r ∧ Q r (S2.take S.length))) : (runFd F (d__law_call_k52 ν) [way_, arguments_] S).sat Q := run_sat0 rfl rfl h
theorem r_operation_text {F : FS} {ν : Nat → Nat} {S : Store} {Q : D → Store → Prop} {operation_ : D} (h : (evSs F S.length [s_operation_text_0 ν] (n_operation_text (operation_ := some operation_)) S).sat (fun _ S2 => Q (.p .non) (S2.take S.length)) (fun v S2 => ∃ r, frz S.length S2 v = some r ∧ Q r (S2.take S.length))) : (runFd F (d_operation_text ν) [operation_] S).sat Q := run_sat0 rfl rfl h
theorem r__law_call_k53 {F : FS} {ν : Nat → Nat} {S : Store} {Q : D → Store → Prop} {way_ arguments_ : D} (h : (evSs F S.length [s__law_call_k53_0 ν] (n__law_call_k53 (way_ := some way_) (arguments_ := some arguments_)) S).sat (fun _ S2 => Q (.p .non) (S2.take S.length)) (fun v S2 => ∃ r, frz S.length S2 v = some r ∧ Q r (S2.take S.length))) : (runFd F (d__law_call_k53 ν) [way_, arguments_] S).sat Q := run_sat0 rfl rfl h
theorem r__law_diagonal {F : FS} {ν : Nat → Nat} {S : Store} {Q : D → Store → Prop} {size_ value_ : D} (h : (evSs F S.length [s__law_diagonal_0 ν] (n__law_diagonal (size_ := some size_) (value_ := some value_)) S).sat (fun _ S2 => Q (.p .non) (S2.take S.length)) (fun v S2 => ∃ r, frz S.length S2 v = some r ∧ Q r (S2.take S.length))) : (runFd F (d__law_diagonal ν) [size_, value_] S).sat Q := run_sat0 rfl rfl h
theorem r__law_even_ones_are_known {F : FS} {ν : Nat → Nat} {S : Store} {Q : D → Store → Prop} {size_ value_ : D} (h : (evSs F S.length [s__law_even_ones_are_known_0 ν, s__law_even_ones_are_known_1 ν, s__law_even_ones_are_known_2 ν, s__law_even_ones_are_known_3 ν, s__law_even_ones_are_known_4 ν, s__law_even_ones_are_known_5 ν, s__law_even_ones_are_known_6 ν, s__law_even_ones_are_known_7 ν, s__law_even_ones_are_known_8 ν, s__law_even_ones_are_known_9 ν, s__law_even_ones_are_known_10 ν, s__law_even_ones_are_known_11 ν, s__law_even_ones_are_known_12 ν, s__law_even_ones_are_known_13 ν] (n__law_even_ones_are_known (size_ := some size_) (value_ := some value_)) S).sat (fun _ S2 => Q (.p .non) (S2.take S.length)) (fun v S2 => ∃ r, frz S.length S2 v = some r ∧ Q r (S2.take S.length))) : (runFd F (d__law_even_ones_are_known ν) [size_, value_] S).sat Q := run_sat0 rfl rfl h
theorem r_law_k60 {F : FS} {ν : Nat → Nat} {S : Store} {Q : D → Store → Prop} {script_ : D} (h : (evSs F S.length [s_law_k60_0 ν, s_law_k60_1 ν, s_law_k60_2 ν, s_law_k60_3 ν, s_law_k60_4 ν, s_law_k60_5 ν, s_law_k60_6 ν, s_law_k60_7 ν, s_law_k60_8 ν, s_law_k60_9 ν, s_law_k60_10 ν, s_law_k60_11 ν, s_law_k60_12 ν] (n_law_k60 (script_ := some script_)) (S ++ [.nil])).sat (fun _ S2 => Q (.p .non) (S2.take S.length)) (fun v S2 => ∃ r, frz S.length S2 v = some r ∧ Q r (S2.take S.length))) : (runFd F (d_law_k60 ν) [script_] S).sat Q := run_sat rfl h
theorem r__law_results {F : FS} {ν : Nat → Nat} {S : Store} {Q : D → Store → Prop} {market_ : D} (h : (evSs F S.length [s__law_results_0 ν, s__law_results_1 ν, s__law_results_2 ν, s__law_results_3 ν, s__law_results_4 ν] (n__law_results (market_ := some market_)) S).sat (fun _ S2 => Q (.p .non) (S2.take S.length)) (fun v S2 => ∃ r, frz S.length S2 v = some r ∧ Q r (S2.take S.length))) : (runFd F (d__law_results ν) [market_] S).sat Q := run_sat0 rfl rfl h
theorem r__law_sequence {F : FS} {ν : Nat → Nat} {S : Store} {Q : D → Store → Prop} {script_ town_ size_ : D} (h : (evSs F S.length [s__law_sequence_0 ν, s__law_sequence_1 ν, s__law_sequence_2 ν] (n__law_sequence (script_ := some script_) (town_ := some town_) (size_ := some size_)) (S ++ [.nil])).sat (fun _ S2 => Q (.p .non) (S2.take S.length)) (fun v S2 => ∃ r, frz S.length S2 v = some r ∧ Q r (S2.take S.length))) : (runFd F (d__law_sequence ν) [script_, town_, size_] S).sat Q := run_sat rfl h
end G9

/-! text H1 -/
/-! G9.H1: the words of a walk through the small language; data. -/
namespace G9
open PySem (Str)
section
variable {F : FS} {ρ : Env} {S : Store} {n : Nat}
def setixR (ρ : Env) (d y x : D) (S3 : Store) : SR := match d, y, x with
    | .ref k, .p (.int q), .p z => match S3[k]? with
      | some (.lst xs) => match ix xs.length q with
        | some j => .nx ρ (S3.set k (.lst (xs.set j z)))
        | none => .bad
      | _ => .bad
    | _, _, _ => .bad
theorem q_setix {o i e : E} : evS F n (.setix o i e) ρ S = (evE F e ρ S).then fun x S1 => (evE F o ρ S1).then fun d S2 => (evE F i ρ S2).then fun y S3 => setixR ρ d y x S3 := by rw [evS]; rfl
def parR (xs : List (Nat × Str)) (ρ : Env) (ds : List D) (S : Store) : SR := match setAll xs ds ρ with
  | some ρ1 => .nx ρ1 S
  | none => .bad
theorem q_par {xs : List (Nat × Str)} {es : List E} : evS F n (.par xs es) ρ S = (evEs F es ρ S).then (parR xs ρ) := by rw [evS]; rfl
theorem q_gf {x : Str} {f : Nat} : evE F (.gf x f) ρ S = .ok (.fn f) S := by rw [evE]
theorem asg_nm {i : Nat} {x : Str} {d : D} : asgR (.nm i x) ρ d S = .nx (ρ.set i (some d)) S := rfl
theorem asg_tp {xs : List (Nat × Str)} {ys : List P} : asgR (.tp xs) ρ (.p (.tup ys)) S = parR xs ρ (ys.map .p) S := rfl
theorem par_cons {i : Nat} {x : Str} {r : List (Nat × Str)} {d : D} {ds : List D} : parR ((i, x) :: r) ρ (d :: ds) S = parR r (ρ.set i (some d)) ds S := rfl
theorem par_nil : parR [] ρ [] S = .nx ρ S := rfl
theorem lstR_map {xs : List P} (h : xs.length ≤ LIM) : lstR (xs.map .p) S = .ok (.p (.lst xs)) S := by
  unfold lstR
  rw [allP_map']
  simp only [h, if_true]
theorem lst2 {x y : P} : lstR [.p x, .p y] S = .ok (.p (.lst [x, y])) S := lstR_map (xs := [x, y]) (by simp [LIM])
theorem lst3 {x y z : P} : lstR [.p x, .p y, .p z] S = .ok (.p (.lst [x, y, z])) S := lstR_map (xs := [x, y, z]) (by simp [LIM])
theorem tup3 {x y z : P} : tupR [.p x, .p y, .p z] S = .ok (.p (.tup [x, y, z])) S := by simp [tupR, mkTup, allP, LIM]
theorem new_lst {i j : Nat} {xs : List P} (h : n + j < S.length) : newR n i j ρ (.p (.lst xs)) S = .nx ((killR (n + j) ρ).set i (some (.ref (n + j)))) (S.set (n + j) (.lst xs)) := by
  simp only [newR, h, if_true]
theorem idx_lst {xs : List P} {i : Nat} {x : P} (h : xs[i]? = some x) : idxR (.p (.lst xs)) (.p (.int (i : Int))) S = .ok (.p x) S := idx_natL h
theorem tuple_tup {xs : List P} : bi S .tuple (.p (.tup xs)) = .ok (.p (.tup xs)) S := rfl
theorem tuple_ref {k : Nat} {xs : List P} (h : S[k]? = some (.lst xs)) : bi S .tuple (.ref k) = .ok (.p (.tup xs)) S := by simp only [bi, view, h, seqOf]
theorem list_lst {xs : List P} : bi S .list (.p (.lst xs)) = .ok (.p (.lst xs)) S := rfl
theorem int_bl {b : Bool} : bi S .int (.p (.bl b)) = .ok (.p (.int (if b then 1 else 0))) S := rfl
theorem int_int {b : Int} : bi S .int (.p (.int b)) = .ok (.p (.int b)) S := rfl
theorem sum_tup {ns : List Int} : bi S .sum (.p (.tup (ns.map .int))) = .ok (.p (.int ns.sum)) S := by simp [bi, seqOf]
theorem max_lst {ns : List Int} {m : Int} (h : maxI ns = some m) : bi S .max (.p (.lst (ns.map .int))) = .ok (.p (.int m)) S := by simp [bi, seqOf, h]
theorem min_lst {ns : List Int} {m : Int} (h : minI ns = some m) : bi S .min (.p (.lst (ns.map .int))) = .ok (.p (.int m)) S := by simp [bi, seqOf, h]
theorem max_tup {ns : List Int} {m : Int} (h : maxI ns = some m) : bi S .max (.p (.tup (ns.map .int))) = .ok (.p (.int m)) S := by simp [bi, seqOf, h]
theorem min_tup {ns : List Int} {m : Int} (h : minI ns = some m) : bi S .min (.p (.tup (ns.map .int))) = .ok (.p (.int m)) S := by simp [bi, seqOf, h]
theorem idx_ref {k i : Nat} {xs : List P} {x : P} (h : S[k]? = some (.lst xs)) (hx : xs[i]? = some x) : idxR (.ref k) (.p (.int (i : Int))) S = .ok (.p x) S := by
  obtain ⟨hl, e⟩ := List.getElem?_eq_some_iff.mp hx
  have := getAt_nat (xs := xs.map D.p) (i := i) (by simpa using hl)
  simp only [idxR, items, h, this]
  simp [e]
theorem idx_scr {ns : List Int} {i : Nat} {x : Int} (hx : ns[i]? = some x) : idxR (.scr ns) (.p (.int (i : Int))) S = .ok (.p (.int x)) S := by
  obtain ⟨hl, e⟩ := List.getElem?_eq_some_iff.mp hx
  have := getAt_nat (xs := ns.map fun n => D.p (.int n)) (i := i) (by simpa using hl)
  simp only [idxR, items, this]
  simp [e]
theorem ix_nat {n i : Nat} (h : i < n) : ix n (i : Int) = some i := by
  unfold ix
  simp [h]
theorem app_ref {k : Nat} {z : P} {xs : List P} (h : S[k]? = some (.lst xs)) (hl : xs.length < LIM) : appR ρ (.ref k) (.p z) S = .nx ρ (S.set k (.lst (xs ++ [z]))) := by
  simp only [appR, h, hl, if_true]
theorem ext_ref {k : Nat} {zs : List P} {xs : List P} (h : S[k]? = some (.lst xs)) (hl : xs.length + zs.length ≤ LIM) : extR ρ (.ref k) (.p (.lst zs)) S = .nx ρ (S.set k (.lst (xs ++ zs))) := by
  simp only [extR, h, hl, if_true]
theorem setix_ref {k i : Nat} {z : P} {xs : List P} (h : S[k]? = some (.lst xs)) (hl : i < xs.length) : setixR ρ (.ref k) (.p (.int (i : Int))) (.p z) S = .nx ρ (S.set k (.lst (xs.set i z))) := by
  simp only [setixR, h, ix_nat hl]
theorem isL_ref {k : Nat} {xs : List P} (h : S[k]? = some (.lst xs)) : isL S (.ref k) = true := by simp only [isL, h]
theorem cmp_isnotN {x : P} : cmpR S .isnot (.p x) (.p .non) = .ok (.p (.bl (match x with | .non => false | _ => true))) S := by cases x <;> rfl
theorem cmp_isN {x : P} : cmpR S .is (.p x) (.p .non) = .ok (.p (.bl (match x with | .non => true | _ => false))) S := by cases x <;> rfl
theorem cmp_isB {a b : Bool} : cmpR S .is (.p (.bl a)) (.p (.bl b)) = .ok (.p (.bl (decide (a = b)))) S := rfl
theorem cmp_isnotB {a b : Bool} : cmpR S .isnot (.p (.bl a)) (.p (.bl b)) = .ok (.p (.bl (!decide (a = b)))) S := rfl
theorem cmp_neB {a b : Bool} : cmpR S .ne (.p (.bl a)) (.p (.bl b)) = .ok (.p (.bl (!decide (a = b)))) S := by cases a <;> cases b <;> rfl
theorem cmp_eqB {a b : Bool} : cmpR S .eq (.p (.bl a)) (.p (.bl b)) = .ok (.p (.bl (decide (a = b)))) S := by cases a <;> cases b <;> rfl
theorem bin_mul {i j : Int} (h : okMul i j = true) : bin S .mul (.p (.int i)) (.p (.int j)) = .ok (.p (.int (i * j))) S := by
  show (match binI .mul i j with
    | some k => R.ok (D.p (P.int k)) S
    | none => .bad) = _
  simp only [binI, h, if_true]
theorem bin_fdiv {i j : Int} (h : 0 < j) (h2 : j < 1073741824) : bin S .fdiv (.p (.int i)) (.p (.int j)) = .ok (.p (.int (i / j))) S := by
  show (match binI .fdiv i j with
    | some k => R.ok (D.p (P.int k)) S
    | none => .bad) = _
  simp only [binI, h, h2, and_self, if_true]
theorem bin_mod {i j : Int} (h : 0 < j) : bin S .mod (.p (.int i)) (.p (.int j)) = .ok (.p (.int (i % j))) S := by
  show (match binI .mod i j with
    | some k => R.ok (D.p (P.int k)) S
    | none => .bad) = _
  simp only [binI, h, if_true]
theorem bin_pow {i : Int} {j : Nat} (h1 : j ≤ 1000000) (h : i.natAbs < 18446744073709551616) : bin S .pow (.p (.int i)) (.p (.int (j : Int))) = .ok (.p (.int (i ^ j))) S := by
  show (match binI .pow i j with
    | some k => R.ok (D.p (P.int k)) S
    | none => .bad) = _
  have : (0 : Int) ≤ j ∧ (j : Int) ≤ 1000000 ∧ i.natAbs < 18446744073709551616 := ⟨by omega, by omega, h⟩
  simp only [binI, this, and_self, if_true, Int.toNat_natCast]
theorem okMul_r {i j : Int} (h : -18446744073709551616 < j ∧ j < 18446744073709551616) : okMul i j = true := by
  unfold okMul
  simp [h]
theorem okMul_l {i j : Int} (h : -18446744073709551616 < i ∧ i < 18446744073709551616) : okMul i j = true := by
  unfold okMul
  simp [h]
end
section
/-! the same equations, not by definition alone: the kernel is not to unfold what stands beside them -/
variable {α β : Type} {S : Store} {ρ : Env}
theorem z_bind_ok {a : α} {f : α → Store → R β} : (R.ok a S).bind f = f a S := id rfl
theorem z_then_ok {a : α} {f : α → Store → SR} : (R.ok a S).then f = f a S := id rfl
theorem z_nx {f : Env → Store → SR} : (SR.nx ρ S).bind f = f ρ S := id rfl
theorem z_rt {d : D} {f : Env → Store → SR} : (SR.rt d S).bind f = .rt d S := id rfl
theorem z_negR {i : Int} : negR (.p (.int i)) S = .ok (.p (.int (-i))) S := id rfl
theorem z_max2R {i j : Int} : max2R (.p (.int i)) (.p (.int j)) S = .ok (.p (.int (max i j))) S := id rfl
theorem z_min2R {i j : Int} : min2R (.p (.int i)) (.p (.int j)) S = .ok (.p (.int (min i j))) S := id rfl
theorem z_isinR {x : P} {t : Ty} : isinR (.p x) t S = .ok (.p (.bl (isTy x t))) S := id rfl
theorem z_oInt {i : Int} : oInt (.p (.int i)) S = .ok (some i) S := id rfl
theorem z_asg_nm {i : Nat} {x : Str} {d : D} : asgR (.nm i x) ρ d S = .nx (ρ.set i (some d)) S := id rfl
theorem z_asg_tp {xs : List (Nat × Str)} {ys : List P} : asgR (.tp xs) ρ (.p (.tup ys)) S = parR xs ρ (ys.map .p) S := id rfl
theorem z_par_cons {i : Nat} {x : Str} {r : List (Nat × Str)} {d : D} {ds : List D} : parR ((i, x) :: r) ρ (d :: ds) S = parR r (ρ.set i (some d)) ds S := id rfl
theorem z_par_nil : parR [] ρ [] S = .nx ρ S := id rfl
theorem z_lt {i j : Int} : cmpR S .lt (.p (.int i)) (.p (.int j)) = .ok (.p (.bl (decide (i < j)))) S := id rfl
theorem z_le {i j : Int} : cmpR S .le (.p (.int i)) (.p (.int j)) = .ok (.p (.bl (decide (i ≤ j)))) S := id rfl
theorem z_gt {i j : Int} : cmpR S .gt (.p (.int i)) (.p (.int j)) = .ok (.p (.bl (decide (j < i)))) S := id rfl
theorem z_ge {i j : Int} : cmpR S .ge (.p (.int i)) (.p (.int j)) = .ok (.p (.bl (decide (j ≤ i)))) S := id rfl
theorem z_isB {a b : Bool} : cmpR S .is (.p (.bl a)) (.p (.bl b)) = .ok (.p (.bl (decide (a = b)))) S := id rfl
theorem z_isnotB {a b : Bool} : cmpR S .isnot (.p (.bl a)) (.p (.bl b)) = .ok (.p (.bl (!decide (a = b)))) S := id rfl
theorem z_add {i j : Int} : bin S .add (.p (.int i)) (.p (.int j)) = .ok (.p (.int (i + j))) S := id rfl
theorem z_sub {i j : Int} : bin S .sub (.p (.int i)) (.p (.int j)) = .ok (.p (.int (i - j))) S := id rfl
theorem z_len_tup {xs : List P} : bi S .len (.p (.tup xs)) = .ok (.p (.int xs.length)) S := id rfl
theorem z_len_lst {xs : List P} : bi S .len (.p (.lst xs)) = .ok (.p (.int xs.length)) S := id rfl
theorem z_tuple_lst {xs : List P} : bi S .tuple (.p (.lst xs)) = .ok (.p (.tup xs)) S := id rfl
theorem z_tuple_tup {xs : List P} : bi S .tuple (.p (.tup xs)) = .ok (.p (.tup xs)) S := id rfl
theorem z_list_tup {xs : List P} : bi S .list (.p (.tup xs)) = .ok (.p (.lst xs)) S := id rfl
theorem z_list_lst {xs : List P} : bi S .list (.p (.lst xs)) = .ok (.p (.lst xs)) S := id rfl
theorem z_int_bl {b : Bool} : bi S .int (.p (.bl b)) = .ok (.p (.int (if b then 1 else 0))) S := id rfl
theorem z_int_int {b : Int} : bi S .int (.p (.int b)) = .ok (.p (.int b)) S := id rfl
theorem z_seq_tup {xs : List P} : seqR (.p (.tup xs)) S = .ok (none, xs.map .p) S := id rfl
theorem z_seq_lst {xs : List P} : seqR (.p (.lst xs)) S = .ok (none, xs.map .p) S := id rfl
theorem z_zip_tup {xs ys : List P} : zipR (.p (.tup xs)) (.p (.tup ys)) S = .ok (none, zipD (xs.map .p) (ys.map .p)) S := id rfl
theorem z_enum_tup {xs : List P} : enumR (.p (.tup xs)) S = .ok (none, enumFrom 0 (xs.map .p)) S := id rfl
theorem z_enum_lst {xs : List P} : enumR (.p (.lst xs)) S = .ok (none, enumFrom 0 (xs.map .p)) S := id rfl
theorem z_sat_nx {N : Env → Store → Prop} {T : D → Store → Prop} : (SR.nx ρ S).sat N T = N ρ S := id rfl
theorem z_sat_rt {d : D} {N : Env → Store → Prop} {T : D → Store → Prop} : (SR.rt d S).sat N T = T d S := id rfl
theorem z_sat_ok {a : α} {Q : α → Store → Prop} : (R.ok a S).sat Q = Q a S := id rfl
theorem z_eltR {x : P} : eltR (.ok (.p x) S) = .ok (some x) S := id rfl
theorem z_k1p {k : Nat} {x : P} : kill1 k (some (.p x)) = some (.p x) := id rfl
theorem z_k1s {k : Nat} {x : List Int} : kill1 k (some (.scr x)) = some (.scr x) := id rfl
theorem z_k1n {k : Nat} : kill1 k none = none := id rfl
end
/-! ### words -/
theorem zz : type_of% @q_v ∧ type_of% @q_int ∧ type_of% @q_bl ∧ type_of% @q_non ∧ type_of% @q_str ∧ type_of% @q_g ∧ type_of% @q_gf ∧ type_of% @q_bin ∧ type_of% @q_cmp ∧ type_of% @q_chain ∧ type_of% @q_and ∧ type_of% @q_or ∧ type_of% @q_not ∧ type_of% @q_neg ∧ type_of% @q_ite ∧ type_of% @q_call ∧ type_of% @q_bi ∧ type_of% @q_max2 ∧ type_of% @q_min2 ∧ type_of% @q_isin ∧ type_of% @q_idx ∧ type_of% @q_sl ∧ type_of% @q_tup ∧ type_of% @q_lst ∧ type_of% @q_nil ∧ type_of% @q_cons ∧ type_of% @q_on ∧ type_of% @q_os ∧ type_of% @q_seq ∧ type_of% @q_zip ∧ type_of% @q_enum ∧ type_of% @q_asg ∧ type_of% @q_expr ∧ type_of% @q_ret ∧ type_of% @q_iff ∧ type_of% @q_raise ∧ type_of% @q_new ∧ type_of% @q_app ∧ type_of% @q_ext ∧ type_of% @q_fz ∧ type_of% @q_par ∧ type_of% @q_parN ∧ type_of% @q_setix ∧ type_of% @q_snil ∧ type_of% @z_bind_ok ∧ type_of% @z_then_ok ∧ type_of% @z_nx ∧ type_of% @z_rt ∧ type_of% @R.bind_bind ∧ type_of% @R.bind_then ∧ type_of% @R.then_bind ∧ type_of% @onB_bl ∧ type_of% @z_negR ∧ type_of% @z_max2R ∧ type_of% @z_min2R ∧ type_of% @z_isinR ∧ type_of% @z_oInt ∧ type_of% @z_asg_nm ∧ type_of% @z_asg_tp ∧ type_of% @z_par_cons ∧ type_of% @z_par_nil ∧ type_of% @z_lt ∧ type_of% @z_le ∧ type_of% @z_gt ∧ type_of% @z_ge ∧ type_of% @cmp_eqI ∧ type_of% @cmp_neI ∧ type_of% @z_isB ∧ type_of% @z_isnotB ∧ type_of% @cmp_neB ∧ type_of% @cmp_eqB ∧ type_of% @z_add ∧ type_of% @z_sub ∧ type_of% @z_len_tup ∧ type_of% @z_len_lst ∧ type_of% @z_tuple_lst ∧ type_of% @z_tuple_tup ∧ type_of% @z_list_tup ∧ type_of% @z_list_lst ∧ type_of% @z_int_bl ∧ type_of% @z_int_int ∧ type_of% @tup0 ∧ type_of% @tup1 ∧ type_of% @tup2 ∧ type_of% @tup3 ∧ type_of% @lst0 ∧ type_of% @lst1 ∧ type_of% @lst2 ∧ type_of% @lst3 ∧ type_of% @idx2_0 ∧ type_of% @idx2_1 ∧ type_of% @z_seq_tup ∧ type_of% @z_seq_lst ∧ type_of% @z_zip_tup ∧ type_of% @z_enum_tup ∧ type_of% @z_enum_lst ∧ type_of% @z_sat_nx ∧ type_of% @z_sat_rt ∧ type_of% @z_sat_ok ∧ type_of% @z_eltR ∧ type_of% @killR_cons ∧ type_of% @killR_nil ∧ type_of% @z_k1p ∧ type_of% @z_k1n ∧ type_of% @z_k1s :=
  ⟨@q_v, @q_int, @q_bl, @q_non, @q_str, @q_g, @q_gf, @q_bin, @q_cmp, @q_chain, @q_and, @q_or, @q_not, @q_neg, @q_ite, @q_call, @q_bi, @q_max2, @q_min2, @q_isin, @q_idx, @q_sl, @q_tup, @q_lst, @q_nil, @q_cons, @q_on, @q_os, @q_seq, @q_zip, @q_enum, @q_asg, @q_expr, @q_ret, @q_iff, @q_raise, @q_new, @q_app, @q_ext, @q_fz, @q_par, @q_parN, @q_setix, @q_snil, @z_bind_ok, @z_then_ok, @z_nx, @z_rt, @R.bind_bind, @R.bind_then, @R.then_bind, @onB_bl, @z_negR, @z_max2R, @z_min2R, @z_isinR, @z_oInt, @z_asg_nm, @z_asg_tp, @z_par_cons, @z_par_nil, @z_lt, @z_le, @z_gt, @z_ge, @cmp_eqI, @cmp_neI, @z_isB, @z_isnotB, @cmp_neB, @cmp_eqB, @z_add, @z_sub, @z_len_tup, @z_len_lst, @z_tuple_lst, @z_tuple_tup, @z_list_tup, @z_list_lst, @z_int_bl, @z_int_int, @tup0, @tup1, @tup2, @tup3, @lst0, @lst1, @lst2, @lst3, @idx2_0, @idx2_1, @z_seq_tup, @z_seq_lst, @z_zip_tup, @z_enum_tup, @z_enum_lst, @z_sat_nx, @z_sat_rt, @z_sat_ok, @z_eltR, @killR_cons, @killR_nil, @z_k1p, @z_k1n, @z_k1s⟩
/-! ### data without bools: == is equality -/
mutual
def noB : P → Bool
  | .bl _ => false
  | .tup xs => noBs xs
  | .lst xs => noBs xs
  | _ => true
def noBs : List P → Bool
  | [] => true
  | x :: r => noB x && noBs r
end
mutual
theorem eqP_noB : ∀ {x y : P}, noB x = true → noB y = true → (eqP x y = true ↔ x = y)
  | .non, y, _, hy => by cases y <;> simp [eqP]
  | .bl _, _, h, _ => by simp [noB] at h
  | .int i, y, _, hy => by
    cases y with
    | bl b => simp [noB] at hy
    | _ => simp [eqP]
  | .str i, y, _, hy => by cases y <;> simp [eqP]
  | .tup xs, y, h, hy => by
    cases y with
    | tup ys =>
      rw [eqP, P.tup.injEq]
      exact eqPs_noB (by simpa [noB] using h) (by simpa [noB] using hy)
    | _ => simp [eqP]
  | .lst xs, y, h, hy => by
    cases y with
    | lst ys =>
      rw [eqP, P.lst.injEq]
      exact eqPs_noB (by simpa [noB] using h) (by simpa [noB] using hy)
    | _ => simp [eqP]
theorem eqPs_noB : ∀ {xs ys : List P}, noBs xs = true → noBs ys = true → (eqPs xs ys = true ↔ xs = ys)
  | [], ys, _, _ => by cases ys <;> simp [eqPs]
  | x :: r, [], _, _ => by simp [eqPs]
  | x :: r, y :: t, h, h' => by
    rw [noBs, Bool.and_eq_true] at h h'
    rw [eqPs, Bool.and_eq_true, eqP_noB h.1 h'.1, eqPs_noB h.2 h'.2, List.cons.injEq]
end
theorem noBs_all {xs : List P} (h : ∀ x ∈ xs, noB x = true) : noBs xs = true := by
  induction xs with
  | nil => rfl
  | cons x r ih =>
    rw [noBs, Bool.and_eq_true]
    exact ⟨h x List.mem_cons_self, ih fun y hy => h y (List.mem_cons_of_mem _ hy)⟩
theorem map_inj' {α β : Type} {f : α → β} (hf : ∀ x y, f x = f y → x = y) : ∀ {l l' : List α}, l.map f = l'.map f → l = l'
  | [], [], _ => rfl
  | [], _ :: _, h => by cases h
  | _ :: _, [], h => by cases h
  | x :: r, y :: t, h => by
    rw [List.map_cons, List.map_cons, List.cons.injEq] at h
    rw [hf x y h.1, map_inj' hf h.2]
theorem noB_row {a : List Int} : noB (rowP a) = true := by
  rw [rowP, noB]
  refine noBs_all fun x hx => ?_
  obtain ⟨i, _, rfl⟩ := List.mem_map.mp hx
  rfl
theorem noBs_rows {l : List (List Int)} : noBs (l.map rowP) = true := noBs_all fun x hx => by
  obtain ⟨i, _, rfl⟩ := List.mem_map.mp hx
  exact noB_row
theorem noBs_pairs {l : List (Int × Int)} : noBs (l.map pairP) = true := noBs_all fun x hx => by
  obtain ⟨i, _, rfl⟩ := List.mem_map.mp hx
  rfl
theorem noB_mkt {M : List (List Int)} : noB (mktP M) = true := by rw [mktP, noB]; exact noBs_rows
theorem rowP_inj {a b : List Int} : rowP a = rowP b ↔ a = b := by
  constructor
  · intro h
    rw [rowP, rowP, P.tup.injEq] at h
    exact map_inj' (fun x y e => by cases e; rfl) h
  · rintro rfl; rfl
theorem rows_inj {a b : List (List Int)} : a.map rowP = b.map rowP ↔ a = b := by
  constructor
  · exact fun h => map_inj' (fun x y e => rowP_inj.mp e) h
  · rintro rfl; rfl
theorem pairP_inj {a b : Int × Int} : pairP a = pairP b ↔ a = b := by
  obtain ⟨a, a'⟩ := a
  obtain ⟨b, b'⟩ := b
  simp [pairP]
theorem pairs_inj {a b : List (Int × Int)} : a.map pairP = b.map pairP ↔ a = b := by
  constructor
  · exact fun h => map_inj' (fun x y e => pairP_inj.mp e) h
  · rintro rfl; rfl
theorem mktP_inj {a b : List (List Int)} : mktP a = mktP b ↔ a = b := by
  rw [mktP, mktP, P.tup.injEq, rows_inj]
theorem eqP_row {a b : List Int} : eqP (rowP a) (rowP b) = decide (a = b) := by
  rw [Bool.eq_iff_iff, eqP_noB noB_row noB_row, rowP_inj, decide_eq_true_iff]
theorem eqP_mkt {a b : List (List Int)} : eqP (mktP a) (mktP b) = decide (a = b) := by
  rw [Bool.eq_iff_iff, eqP_noB noB_mkt noB_mkt, mktP_inj, decide_eq_true_iff]
theorem eqP_lrows {a b : List (List Int)} : eqP (.lst (a.map rowP)) (.lst (b.map rowP)) = decide (a = b) := by
  rw [Bool.eq_iff_iff, eqP_noB (by rw [noB]; exact noBs_rows) (by rw [noB]; exact noBs_rows), P.lst.injEq, rows_inj, decide_eq_true_iff]
theorem eqP_trows {a b : List (List Int)} : eqP (.tup (a.map rowP)) (.tup (b.map rowP)) = decide (a = b) := eqP_mkt
theorem eqP_tpairs {a b : List (Int × Int)} : eqP (.tup (a.map pairP)) (.tup (b.map pairP)) = decide (a = b) := by
  rw [Bool.eq_iff_iff, eqP_noB (by rw [noB]; exact noBs_pairs) (by rw [noB]; exact noBs_pairs), P.tup.injEq, pairs_inj, decide_eq_true_iff]
theorem eqP_pair {a b : Int × Int} : eqP (pairP a) (pairP b) = decide (a = b) := by
  rw [Bool.eq_iff_iff, eqP_noB rfl rfl, pairP_inj, decide_eq_true_iff]
theorem shp_row {n : Nat} {a : List Int} : shp (n + 1) (rowP a) = true := by simp [rowP, shp]
theorem shp_pair {n : Nat} {a : Int × Int} : shp (n + 1) (pairP a) = true := by simp [pairP, shp]
theorem shp_mkt {n : Nat} {M : List (List Int)} : shp (n + 2) (mktP M) = true := by
  rw [mktP, shp, List.all_map, List.all_eq_true]
  exact fun x _ => shp_row
theorem shp_lrows {n : Nat} {M : List (List Int)} : shp (n + 2) (.lst (M.map rowP)) = true := by
  rw [shp, List.all_map, List.all_eq_true]
  exact fun x _ => shp_row
theorem shp_trows {n : Nat} {M : List (List Int)} : shp (n + 2) (.tup (M.map rowP)) = true := shp_mkt
theorem shp_lpairs {n : Nat} {M : List (Int × Int)} : shp (n + 2) (.lst (M.map pairP)) = true := by
  rw [shp, List.all_map, List.all_eq_true]
  exact fun x _ => shp_pair
theorem shp_tpairs {n : Nat} {M : List (Int × Int)} : shp (n + 2) (.tup (M.map pairP)) = true := by
  rw [shp, List.all_map, List.all_eq_true]
  exact fun x _ => shp_pair
theorem shp_ints_l {n : Nat} {a : List Int} : shp (n + 1) (.lst (a.map .int)) = true := by simp [shp]
section
variable {S : Store}
theorem cmp_neRow {a b : List Int} : cmpR S .ne (.p (rowP a)) (.p (rowP b)) = .ok (.p (.bl (!decide (a = b)))) S := by rw [cmp_neP shp_row shp_row, eqP_row]
theorem cmp_eqRow {a b : List Int} : cmpR S .eq (.p (rowP a)) (.p (rowP b)) = .ok (.p (.bl (decide (a = b)))) S := by rw [cmp_eqP shp_row shp_row, eqP_row]
theorem cmp_neMkt {a b : List (List Int)} : cmpR S .ne (.p (mktP a)) (.p (mktP b)) = .ok (.p (.bl (!decide (a = b)))) S := by rw [cmp_neP shp_mkt shp_mkt, eqP_mkt]
theorem cmp_eqMkt {a b : List (List Int)} : cmpR S .eq (.p (mktP a)) (.p (mktP b)) = .ok (.p (.bl (decide (a = b)))) S := by rw [cmp_eqP shp_mkt shp_mkt, eqP_mkt]
theorem cmp_neTR {a b : List (List Int)} : cmpR S .ne (.p (.tup (a.map rowP))) (.p (.tup (b.map rowP))) = .ok (.p (.bl (!decide (a = b)))) S := cmp_neMkt
theorem cmp_neLR {a b : List (List Int)} : cmpR S .ne (.p (.lst (a.map rowP))) (.p (.lst (b.map rowP))) = .ok (.p (.bl (!decide (a = b)))) S := by rw [cmp_neP shp_lrows shp_lrows, eqP_lrows]
theorem cmp_eqLR {a b : List (List Int)} : cmpR S .eq (.p (.lst (a.map rowP))) (.p (.lst (b.map rowP))) = .ok (.p (.bl (decide (a = b)))) S := by rw [cmp_eqP shp_lrows shp_lrows, eqP_lrows]
theorem cmp_neTP {a b : List (Int × Int)} : cmpR S .ne (.p (.tup (a.map pairP))) (.p (.tup (b.map pairP))) = .ok (.p (.bl (!decide (a = b)))) S := by rw [cmp_neP shp_tpairs shp_tpairs, eqP_tpairs]
theorem eqPs_nil {xs : List P} : eqPs xs [] = xs.isEmpty := by cases xs <;> rfl
theorem cmp_eqL0 {xs : List P} (h : shp 9 (.lst xs) = true) : cmpR S .eq (.p (.lst xs)) (.p (.lst [])) = .ok (.p (.bl xs.isEmpty)) S := by
  rw [cmp_eqP h rfl]
  simp [eqP, eqPs_nil]
theorem cmp_neL0 {xs : List P} (h : shp 9 (.lst xs) = true) : cmpR S .ne (.p (.lst xs)) (.p (.lst [])) = .ok (.p (.bl (!xs.isEmpty))) S := by
  rw [cmp_neP h rfl]
  simp [eqP, eqPs_nil]
theorem cmp_notinI {g : Int} {a : List Int} : cmpR S .notin (.p (.int g)) (.p (.lst (a.map .int))) = .ok (.p (.bl (!decide (g ∈ a)))) S := by
  simp [cmpR, cmp, seqOf, shp, inP_int]
theorem cmp_inI {g : Int} {a : List Int} : cmpR S .in_ (.p (.int g)) (.p (.lst (a.map .int))) = .ok (.p (.bl (decide (g ∈ a)))) S := by
  simp [cmpR, cmp, seqOf, shp, inP_int]
theorem cmp_inT {g : Int} {a : List Int} : cmpR S .in_ (.p (.int g)) (.p (rowP a)) = .ok (.p (.bl (decide (g ∈ a)))) S := by
  simp [cmpR, cmp, rowP, seqOf, shp_ints, shp, inP_int]
theorem inP_row (g : List Int) (a : List (List Int)) : inP (rowP g) (a.map rowP) = decide (g ∈ a) := by
  unfold inP
  rw [List.any_map, Bool.eq_iff_iff, List.any_eq_true]
  simp only [Function.comp, eqP_row, decide_eq_true_iff]
  constructor
  · rintro ⟨x, h, rfl⟩; exact h
  · exact fun h => ⟨g, h, rfl⟩
theorem inP_pair (g : Int × Int) (a : List (Int × Int)) : inP (pairP g) (a.map pairP) = decide (g ∈ a) := by
  unfold inP
  rw [List.any_map, Bool.eq_iff_iff, List.any_eq_true]
  simp only [Function.comp, eqP_pair, decide_eq_true_iff]
  constructor
  · rintro ⟨x, h, rfl⟩; exact h
  · exact fun h => ⟨g, h, rfl⟩
theorem cmp_inLR {g : List Int} {a : List (List Int)} : cmpR S .in_ (.p (rowP g)) (.p (.lst (a.map rowP))) = .ok (.p (.bl (decide (g ∈ a)))) S := by
  simp only [cmpR, cmp, view_P, seqOf, shp_row, shp_lrows, Bool.and_self, if_true, inP_row]
theorem cmp_notinLR {g : List Int} {a : List (List Int)} : cmpR S .notin (.p (rowP g)) (.p (.lst (a.map rowP))) = .ok (.p (.bl (!decide (g ∈ a)))) S := by
  simp only [cmpR, cmp, view_P, seqOf, shp_row, shp_lrows, Bool.and_self, if_true, inP_row]
theorem cmp_inTP {g : Int × Int} {a : List (Int × Int)} : cmpR S .in_ (.p (pairP g)) (.p (.tup (a.map pairP))) = .ok (.p (.bl (decide (g ∈ a)))) S := by
  simp only [cmpR, cmp, view_P, seqOf, shp_pair, shp_tpairs, Bool.and_self, if_true, inP_pair]
end
end G9

/-! text H2 -/
/-! G9.H2: draws. -/
namespace G9
open PySem (Str)
/-- the town of a script: a counter, at most b, then a number for each of the script -/
def TwC (ns : List Int) (c : Cell) (b : Nat) : Prop := ∃ town : List Int, c = .lst (town.map .int) ∧ town.length = ns.length + 1 ∧ ∃ k : Nat, town[0]? = some (k : Int) ∧ k ≤ b
theorem TwC.mono {ns : List Int} {c : Cell} {b b' : Nat} (h : TwC ns c b) (hb : b ≤ b') : TwC ns c b' := by
  obtain ⟨t, e, l, k, hk, h⟩ := h
  exact ⟨t, e, l, k, hk, by omega⟩
def DrQ (ns : List Int) (S : Store) (j b : Nat) (lim : Int) (d : D) (S' : Store) : Prop := ∃ r c', d = .p (.int r) ∧ S' = S.set j c' ∧ 0 ≤ r ∧ r < lim ∧ TwC ns c' (b + 1)
def SpDraw (g : Fun) : Prop := ∀ ns S j c b lim, S[j]? = some c → TwC ns c b → b ≤ 1000000 → 1 ≤ lim → lim ≤ 10000 → (g [.scr ns, .ref j, .p (.int lim)] S).sat (DrQ ns S j b lim)
section
variable {F : FS} {ν : Nat → Nat}
theorem cmp_scr0 {S : Store} {ns : List Int} : cmpR S .eq (.scr ns) (.p (.lst [])) = .ok (.p (.bl ns.isEmpty)) S := by
  simp [cmpR, cmp, view, shp, eqP, eqPs_nil]
theorem len_scr {S : Store} {ns : List Int} : bi S .len (.scr ns) = .ok (.p (.int ns.length)) S := by
  simp [bi, view]
theorem take_set {S : Store} {j : Nat} {c : Cell} : (S.set j c).take S.length = S.set j c := by
  rw [List.take_of_length_le (by simp)]
theorem pow18 : ((10 : Int) ^ 18) = 1000000000000000000 := by decide
theorem ok_draw : SpDraw (runFd F (d__law_draw ν)) := fun ns S j c b lim hj ht hb h1 h2 => by
  obtain ⟨town, rfl, hl, k, hk, hkb⟩ := ht
  have hjl : j < S.length := (List.getElem?_eq_some_iff.mp hj).1
  have t0 : 0 < town.length := by omega
  have i0 : idxR (.ref j) (.p (.int 0)) S = .ok (.p (.int k)) S := idx_ref (i := 0) hj (by rw [List.getElem?_map, hk]; rfl)
  have si : ∀ z ρ, setixR ρ (.ref j) (.p (.int 0)) (.p (.int z)) S = .nx ρ (S.set j (.lst ((town.set 0 z).map .int))) := fun z ρ => by
    rw [List.map_set]
    exact setix_ref (i := 0) hj (by simpa using t0)
  refine r__law_draw ?_
  (rw [q_scons]; simp -failIfUnchanged only [zz, List.getElem?_cons_succ, List.getElem?_cons_zero, List.set_cons_succ, List.set_cons_zero, List.map_cons, List.map_nil, if_true, if_false, decide_true, decide_false, Bool.false_eq_true, Bool.not_true, Bool.not_false, reduceCtorEq, s__law_draw_0, n__law_draw, i0, si])
  generalize eS : S.set j (.lst ((town.set 0 ((k : Int) + 1)).map .int)) = S1
  have hj1 : S1[j]? = some (.lst ((town.set 0 ((k : Int) + 1)).map .int)) := by rw [← eS, List.getElem?_set_self hjl]
  have i1 : idxR (.ref j) (.p (.int 0)) S1 = .ok (.p (.int ((k : Int) + 1))) S1 := idx_ref (i := 0) hj1 (by rw [List.getElem?_map, List.getElem?_set_self t0]; rfl)
  have tk : S1.take S.length = S1 := by rw [← eS, take_set]
  have tw1 : TwC ns (.lst ((town.set 0 ((k : Int) + 1)).map .int)) (b + 1) := ⟨_, rfl, by simpa using hl, k + 1, by rw [List.getElem?_set_self t0]; rfl, by omega⟩
  have fin : ∀ r, 0 ≤ r → r < lim → ∃ v, frz S.length S1 (.p (.int r)) = some v ∧ DrQ ns S j b lim v (S1.take S.length) := fun r hr1 hr2 => by
    refine ⟨_, rfl, r, _, rfl, ?_, hr1, hr2, tw1⟩
    rw [tk, eS]
  cases ns with
  | nil =>
    have m1 : okMul ((k : Int) + 1) ((k : Int) + 1) = true := okMul_r (by omega)
    have m2 : okMul (((k : Int) + 1) * ((k : Int) + 1)) 7 = true := okMul_r (by omega)
    have f1 : ∀ x S, bin S .fdiv (.p (.int x)) (.p (.int 3)) = .ok (.p (.int (x / 3))) S := fun x S => bin_fdiv (by omega) (by omega)
    have f2 : ∀ x S, bin S .mod (.p (.int x)) (.p (.int lim)) = .ok (.p (.int (x % lim))) S := fun x S => bin_mod (by omega)
    (rw [q_scons]; simp -failIfUnchanged only [zz, List.getElem?_cons_succ, List.getElem?_cons_zero, List.set_cons_succ, List.set_cons_zero, List.map_cons, List.map_nil, if_true, if_false, decide_true, decide_false, Bool.false_eq_true, Bool.not_true, Bool.not_false, reduceCtorEq, s__law_draw_1, cmp_scr0, List.isEmpty_nil])
    (rw [q_scons]; simp -failIfUnchanged only [zz, List.getElem?_cons_succ, List.getElem?_cons_zero, List.set_cons_succ, List.set_cons_zero, List.map_cons, List.map_nil, if_true, if_false, decide_true, decide_false, Bool.false_eq_true, Bool.not_true, Bool.not_false, reduceCtorEq, s__law_draw_1_0, i1, bin_mul m1, bin_mul m2, f1, f2])
    exact fin _ (Int.emod_nonneg _ (by omega)) (Int.emod_lt_of_pos _ (by omega))
  | cons a r =>
    generalize ens : a :: r = ns at *
    have ne : ns.isEmpty = false := by rw [← ens]; rfl
    have npos : 0 < ns.length := by rw [← ens]; simp
    have f1 : ∀ x S, bin S .mod (.p (.int x)) (.p (.int ns.length)) = .ok (.p (.int (x % ns.length))) S := fun x S => bin_mod (by omega)
    (rw [q_scons]; simp -failIfUnchanged only [zz, List.getElem?_cons_succ, List.getElem?_cons_zero, List.set_cons_succ, List.set_cons_zero, List.map_cons, List.map_nil, if_true, if_false, decide_true, decide_false, Bool.false_eq_true, Bool.not_true, Bool.not_false, reduceCtorEq, s__law_draw_1, cmp_scr0, ne])
    (rw [q_scons]; simp -failIfUnchanged only [zz, List.getElem?_cons_succ, List.getElem?_cons_zero, List.set_cons_succ, List.set_cons_zero, List.map_cons, List.map_nil, if_true, if_false, decide_true, decide_false, Bool.false_eq_true, Bool.not_true, Bool.not_false, reduceCtorEq, s__law_draw_2, i1, len_scr, f1])
    obtain ⟨q, eq⟩ : ∃ q : Nat, ((k : Int) + 1) % (ns.length : Int) = q := ⟨(((k : Int) + 1) % (ns.length : Int)).toNat, by have := Int.emod_nonneg ((k : Int) + 1) (b := (ns.length : Int)) (by omega); omega⟩
    have hq : q < ns.length := by have := Int.emod_lt_of_pos ((k : Int) + 1) (b := (ns.length : Int)) (by omega); omega
    simp only [eq]
    obtain ⟨left, hleft⟩ : ∃ x, (town.set 0 ((k : Int) + 1))[1 + q]? = some x := ⟨_, List.getElem?_eq_getElem (by simp; omega)⟩
    have i2 : idxR (.ref j) (.p (.int (1 + (q : Int)))) S1 = .ok (.p (.int left)) S1 := by
      have := idx_ref (S := S1) (i := 1 + q) hj1 (by rw [List.getElem?_map, hleft]; rfl)
      rwa [Int.natCast_add] at this
    (rw [q_scons]; simp -failIfUnchanged only [zz, List.getElem?_cons_succ, List.getElem?_cons_zero, List.set_cons_succ, List.set_cons_zero, List.map_cons, List.map_nil, if_true, if_false, decide_true, decide_false, Bool.false_eq_true, Bool.not_true, Bool.not_false, reduceCtorEq, s__law_draw_3, i2])
    have i3 : idxR (.scr ns) (.p (.int (q : Int))) S1 = .ok (.p (.int ns[q])) S1 := idx_scr (List.getElem?_eq_getElem hq)
    have p18 : bin S1 .pow (.p (.int 10)) (.p (.int 18)) = .ok (.p (.int 1000000000000000000)) S1 := by
      have := bin_pow (S := S1) (i := 10) (j := 18) (by omega) (by omega)
      rwa [pow18] at this
    have f2 : ∀ x S, bin S .mod (.p (.int x)) (.p (.int lim)) = .ok (.p (.int (x % lim))) S := fun x S => bin_mod (by omega)
    have f3 : ∀ x S, bin S .fdiv (.p (.int x)) (.p (.int lim)) = .ok (.p (.int (x / lim))) S := fun x S => bin_fdiv (by omega) (by omega)
    have rest : ∀ ρ, ρ = n__law_draw (script_ := some (.scr ns)) (town_ := some (.ref j)) (limit_ := some (.p (.int lim))) (at_ := some (.p (.int q))) (left_ := some (.p (.int left))) → (evSs F S.length [s__law_draw_5 ν, s__law_draw_6 ν, s__law_draw_7 ν] ρ S1).sat (fun _ S2 => DrQ ns S j b lim (.p .non) (S2.take S.length)) (fun v S2 => ∃ r, frz S.length S2 v = some r ∧ DrQ ns S j b lim r (S2.take S.length)) := by
      rintro _ rfl
      have m1 : okMul 104729 ((k : Int) + 1) = true := okMul_l (by omega)
      have g1 : ∀ x S, bin S .mod (.p (.int x)) (.p (.int 4294967291)) = .ok (.p (.int (x % 4294967291))) S := fun x S => bin_mod (by omega)
      have g2 : ∀ x S, bin S .mod (.p (.int x)) (.p (.int 4294967279)) = .ok (.p (.int (x % 4294967279))) S := fun x S => bin_mod (by omega)
      have g3 : ∀ x S, bin S .mod (.p (.int x)) (.p (.int 4294967231)) = .ok (.p (.int (x % 4294967231))) S := fun x S => bin_mod (by omega)
      have g4 : ∀ x S, bin S .fdiv (.p (.int x)) (.p (.int 64)) = .ok (.p (.int (x / 64))) S := fun x S => bin_fdiv (by omega) (by omega)
      have g5 : ∀ x S, bin S .fdiv (.p (.int x)) (.p (.int 8)) = .ok (.p (.int (x / 8))) S := fun x S => bin_fdiv (by omega) (by omega)
      have g6 : ∀ x S, bin S .mul (.p (.int x)) (.p (.int 69621)) = .ok (.p (.int (x * 69621))) S := fun x S => bin_mul (okMul_r (by omega))
      (rw [q_scons]; simp -failIfUnchanged only [zz, List.getElem?_cons_succ, List.getElem?_cons_zero, List.set_cons_succ, List.set_cons_zero, List.map_cons, List.map_nil, if_true, if_false, decide_true, decide_false, Bool.false_eq_true, Bool.not_true, Bool.not_false, reduceCtorEq, s__law_draw_5, i1, i3, bin_mul m1, g1])
      generalize e5 : (ns[q] + 104729 * ((k : Int) + 1)) % 4294967291 = y
      have hy : y.natAbs < 18446744073709551616 := by
        have := Int.emod_nonneg (ns[q] + 104729 * ((k : Int) + 1)) (b := 4294967291) (by omega)
        have := Int.emod_lt_of_pos (ns[q] + 104729 * ((k : Int) + 1)) (b := 4294967291) (by omega)
        omega
      have p5 : bin S1 .pow (.p (.int y)) (.p (.int 5)) = .ok (.p (.int (y ^ 5))) S1 := bin_pow (j := 5) (by omega) hy
      (rw [q_scons]; simp -failIfUnchanged only [zz, List.getElem?_cons_succ, List.getElem?_cons_zero, List.set_cons_succ, List.set_cons_zero, List.map_cons, List.map_nil, if_true, if_false, decide_true, decide_false, Bool.false_eq_true, Bool.not_true, Bool.not_false, reduceCtorEq, s__law_draw_6, p5, g2])
      (rw [q_scons]; simp -failIfUnchanged only [zz, List.getElem?_cons_succ, List.getElem?_cons_zero, List.set_cons_succ, List.set_cons_zero, List.map_cons, List.map_nil, if_true, if_false, decide_true, decide_false, Bool.false_eq_true, Bool.not_true, Bool.not_false, reduceCtorEq, s__law_draw_7, g4, g6, g3, g5, f2])
      exact fin _ (Int.emod_nonneg _ (by omega)) (Int.emod_lt_of_pos _ (by omega))
    (rw [q_scons]; simp -failIfUnchanged only [zz, List.getElem?_cons_succ, List.getElem?_cons_zero, List.set_cons_succ, List.set_cons_zero, List.map_cons, List.map_nil, if_true, if_false, decide_true, decide_false, Bool.false_eq_true, Bool.not_true, Bool.not_false, reduceCtorEq, s__law_draw_4, i3, p18])
    by_cases c1 : (1000000000000000000 : Int) ≤ ns[q]
    · by_cases c2 : 0 < left
      · have si2 : ∀ z ρ, setixR ρ (.ref j) (.p (.int (1 + (q : Int)))) (.p (.int z)) S1 = .nx ρ (S1.set j (.lst (((town.set 0 ((k : Int) + 1)).set (1 + q) z).map .int))) := fun z ρ => by
          rw [List.map_set]
          have := setix_ref (ρ := ρ) (i := 1 + q) (z := .int z) hj1 (by simp; omega)
          rwa [Int.natCast_add] at this
        simp only [c1, c2, decide_true, if_true]
        simp -failIfUnchanged only [zz, List.getElem?_cons_succ, List.getElem?_cons_zero, List.set_cons_succ, List.set_cons_zero, List.map_cons, List.map_nil, if_true, if_false, decide_true, decide_false, Bool.false_eq_true, Bool.not_true, Bool.not_false, reduceCtorEq, onB_bl, decide_true, if_true]
        (rw [q_scons]; simp -failIfUnchanged only [zz, List.getElem?_cons_succ, List.getElem?_cons_zero, List.set_cons_succ, List.set_cons_zero, List.map_cons, List.map_nil, if_true, if_false, decide_true, decide_false, Bool.false_eq_true, Bool.not_true, Bool.not_false, reduceCtorEq, s__law_draw_4_0, f3, si2])
        (rw [q_scons]; simp -failIfUnchanged only [zz, List.getElem?_cons_succ, List.getElem?_cons_zero, List.set_cons_succ, List.set_cons_zero, List.map_cons, List.map_nil, if_true, if_false, decide_true, decide_false, Bool.false_eq_true, Bool.not_true, Bool.not_false, reduceCtorEq, s__law_draw_4_1, f2])
        refine ⟨_, rfl, _, _, rfl, ?_, Int.emod_nonneg _ (by omega), Int.emod_lt_of_pos _ (by omega), (⟨_, rfl, by simpa using hl, k + 1, ?_, by omega⟩ : TwC ns (.lst (((town.set 0 ((k : Int) + 1)).set (1 + q) (left / lim)).map .int)) (b + 1))⟩
        · rw [← eS, List.set_set, take_set]
        · rw [List.getElem?_set_ne (by omega), List.getElem?_set_self t0]; rfl
      · simp only [c1, c2, decide_true, decide_false, if_true]
        simp -failIfUnchanged only [zz, List.getElem?_cons_succ, List.getElem?_cons_zero, List.set_cons_succ, List.set_cons_zero, List.map_cons, List.map_nil, if_true, if_false, decide_true, decide_false, Bool.false_eq_true, Bool.not_true, Bool.not_false, reduceCtorEq]
        exact rest _ rfl
    · simp only [c1, decide_false]
      simp -failIfUnchanged only [zz, List.getElem?_cons_succ, List.getElem?_cons_zero, List.set_cons_succ, List.set_cons_zero, List.map_cons, List.map_nil, if_true, if_false, decide_true, decide_false, Bool.false_eq_true, Bool.not_true, Bool.not_false, reduceCtorEq]
      exact rest _ rfl
end
end G9

/-! text H3 -/
/-! G9.H3: what is drawn: one of some choices, lists, markets. -/
namespace G9
open PySem (Str)
/-- the goods of a market -/
def wid (M : List (List Int)) : Nat := (M.headD []).length
def IsM (M : List (List Int)) : Prop := Mkt M M.length (wid M)
theorem Mkt.wid {M : List (List Int)} {m k : Nat} (h : Mkt M m k) : wid M = k := by
  cases M with
  | nil => have := h.len; have := h.m1; simp at *; omega
  | cons r M => exact h.row r List.mem_cons_self
theorem Mkt.is {M : List (List Int)} {m k : Nat} (h : Mkt M m k) : IsM M := by
  unfold IsM
  rw [h.wid, h.len]
  exact h
section
variable {F : FS} {ν : Nat → Nat} {f : Nat} {ns : List Int} {S : Store} {j b : Nat} {c : Cell} {lim : Int}
theorem draw_then {k : D → Store → SR} {N : Env → Store → Prop} {T : D → Store → Prop} (hd : SpDraw (F f)) (hj : S[j]? = some c) (ht : TwC ns c b) (hb : b ≤ 1000000) (h1 : 1 ≤ lim) (h2 : lim ≤ 10000) (h : ∀ r c', 0 ≤ r → r < lim → TwC ns c' (b + 1) → (k (.p (.int r)) (S.set j c')).sat N T) : ((F f [.scr ns, .ref j, .p (.int lim)] S).then k).sat N T :=
  R.sat_then (hd ns S j c b lim hj ht hb h1 h2) fun d S' ⟨r, c', e1, e2, h1, h2, h3⟩ => by subst e1 e2; exact h r c' h1 h2 h3
theorem draw_bind {β : Type} {k : D → Store → R β} {Q : β → Store → Prop} (hd : SpDraw (F f)) (hj : S[j]? = some c) (ht : TwC ns c b) (hb : b ≤ 1000000) (h1 : 1 ≤ lim) (h2 : lim ≤ 10000) (h : ∀ r c', 0 ≤ r → r < lim → TwC ns c' (b + 1) → (k (.p (.int r)) (S.set j c')).sat Q) : ((F f [.scr ns, .ref j, .p (.int lim)] S).bind k).sat Q :=
  R.sat_bind (hd ns S j c b lim hj ht hb h1 h2) fun d S' ⟨r, c', e1, e2, h1, h2, h3⟩ => by subst e1 e2; exact h r c' h1 h2 h3
/-- one of some choices -/
def PkQ (ns : List Int) (S : Store) (j b : Nat) (xs : List P) (d : D) (S' : Store) : Prop := ∃ x c', d = .p x ∧ S' = S.set j c' ∧ x ∈ xs ∧ TwC ns c' (b + 1)
def SpPick (g : Fun) : Prop := ∀ ns S j c b xs, S[j]? = some c → TwC ns c b → b ≤ 1000000 → xs ≠ [] → xs.length ≤ 10000 → (g [.scr ns, .ref j, .p (.lst xs)] S).sat (PkQ ns S j b xs)
theorem ok_pick (hd : SpDraw (F (ν 75))) : SpPick (runFd F (d__law_pick ν)) := fun ns S j c b xs hj ht hb hx hl => by
  have hp : 0 < xs.length := List.length_pos_iff.mpr hx
  refine r__law_pick (sat_last ?_)
  simp -failIfUnchanged only [zz, List.getElem?_cons_succ, List.getElem?_cons_zero, List.set_cons_succ, List.set_cons_zero, List.map_cons, List.map_nil, if_true, if_false, decide_true, decide_false, Bool.false_eq_true, Bool.not_true, Bool.not_false, reduceCtorEq, s__law_pick_0, n__law_pick]
  refine draw_then hd hj ht hb (by omega) (by omega) fun r c' h1 h2 h3 => ?_
  obtain ⟨q, rfl⟩ := Int.eq_ofNat_of_zero_le h1
  have hq : q < xs.length := by omega
  simp -failIfUnchanged only [zz, List.getElem?_cons_succ, List.getElem?_cons_zero, List.set_cons_succ, List.set_cons_zero, List.map_cons, List.map_nil, if_true, if_false, decide_true, decide_false, Bool.false_eq_true, Bool.not_true, Bool.not_false, reduceCtorEq, idx_natL (xs := xs) (i := q) (S := S.set j c') (List.getElem?_eq_getElem hq)]
  exact ⟨_, rfl, _, c', rfl, take_set, List.getElem_mem _, h3⟩
theorem pick_then {k : D → Store → SR} {N : Env → Store → Prop} {T : D → Store → Prop} {xs : List P} (hd : SpPick (F f)) (hj : S[j]? = some c) (ht : TwC ns c b) (hb : b ≤ 1000000) (h1 : xs ≠ []) (h2 : xs.length ≤ 10000) (h : ∀ x c', x ∈ xs → TwC ns c' (b + 1) → (k (.p x) (S.set j c')).sat N T) : ((F f [.scr ns, .ref j, .p (.lst xs)] S).then k).sat N T :=
  R.sat_then (hd ns S j c b xs hj ht hb h1 h2) fun d S' ⟨r, c', e1, e2, h1, h2⟩ => by subst e1 e2; exact h r c' h1 h2
theorem pick_bind {β : Type} {k : D → Store → R β} {Q : β → Store → Prop} {xs : List P} (hd : SpPick (F f)) (hj : S[j]? = some c) (ht : TwC ns c b) (hb : b ≤ 1000000) (h1 : xs ≠ []) (h2 : xs.length ≤ 10000) (h : ∀ x c', x ∈ xs → TwC ns c' (b + 1) → (k (.p x) (S.set j c')).sat Q) : ((F f [.scr ns, .ref j, .p (.lst xs)] S).bind k).sat Q :=
  R.sat_bind (hd ns S j c b xs hj ht hb h1 h2) fun d S' ⟨r, c', e1, e2, h1, h2⟩ => by subst e1 e2; exact h r c' h1 h2
theorem set_self {S : Store} {j : Nat} {c : Cell} (h : S[j]? = some c) : S.set j c = S := by
  refine List.ext_getElem? fun i => ?_
  by_cases e : j = i
  · subst e
    rw [List.getElem?_set_self (List.getElem?_eq_some_iff.mp h).1, h]
  · rw [List.getElem?_set_ne e]
/-- a list whose items are drawn: what a draw makes of an item is told by h -/
theorem lc_drawn {ρ : Env} {own : List (Str × Nat)} {tg : Tg} {it : It} {elt : E} {xs : List P} (h : P → Int → Int) (hd : SpDraw (F f)) (hi : evI F it ρ S = .ok (none, xs.map .p) S) (hx : xs.length ≤ 1000) (hj : S[j]? = some c) (ht : TwC ns c b) (hb : b ≤ 990000) (h1 : 1 ≤ lim) (h2 : lim ≤ 10000)
    (he : ∀ x ∈ xs, ∀ S, ∃ k, lcQ F tg none elt (wipeE ρ own) (.p x) S = (F f [.scr ns, .ref j, .p (.int lim)] S).bind k ∧ ∀ r S', k (.p (.int r)) S' = .ok (some (.int (h x r))) S') :
    (evE F (.lc own tg it none elt) ρ S).sat fun d S' => ∃ rs c', d = .p (.lst ((xs.zip rs).map fun q => .int (h q.1 q.2))) ∧ S' = S.set j c' ∧ rs.length = xs.length ∧ (∀ r ∈ rs, 0 ≤ r ∧ r < lim) ∧ TwC ns c' (b + xs.length) := by
  have hjl : j < S.length := (List.getElem?_eq_some_iff.mp hj).1
  refine R.sat_mono (lc_sat (fun i acc S' => ∃ rs c', acc = ((xs.take i).zip rs).map (fun q => .int (h q.1 q.2)) ∧ S' = S.set j c' ∧ rs.length = i ∧ (∀ r ∈ rs, 0 ≤ r ∧ r < lim) ∧ TwC ns c' (b + i)) hi (lim6 (by omega)) ⟨[], c, by simp, ?_, rfl, by simp, ht⟩ ?_) ?_
  · rw [set_self hj]
  · rintro i x hix acc S' ⟨rs, c', rfl, rfl, hl, hr, ht'⟩
    obtain ⟨hil, eix⟩ := List.getElem?_eq_some_iff.mp hix
    obtain ⟨k, e1, e2⟩ := he x (List.mem_of_getElem? hix) (S.set j c')
    rw [e1]
    refine draw_bind hd (List.getElem?_set_self hjl) ht' (by omega) h1 h2 fun r c'' h3 h4 h5 => ?_
    rw [e2, z_sat_ok]
    refine ⟨rs ++ [r], c'', ?_, by rw [List.set_set], by simp [hl], fun q hq => ?_, h5⟩
    · rw [List.take_succ_eq_append_getElem hil, List.zip_append (by simp [hl]; omega)]
      simp [eix]
    · rcases List.mem_append.mp hq with q1 | q1
      · exact hr q q1
      · simp at q1; subst q1; exact ⟨h3, h4⟩
  · rintro d S' ⟨ps, rfl, rs, c', rfl, rfl, hl, hr, ht'⟩
    exact ⟨rs, c', by rw [List.take_length], rfl, hl, hr, ht'⟩
/-- the draws themselves -/
theorem lc_draws {ρ : Env} {own : List (Str × Nat)} {tg : Tg} {it : It} {elt : E} {xs : List P} (hd : SpDraw (F f)) (hi : evI F it ρ S = .ok (none, xs.map .p) S) (hx : xs.length ≤ 1000) (hj : S[j]? = some c) (ht : TwC ns c b) (hb : b ≤ 990000) (h1 : 1 ≤ lim) (h2 : lim ≤ 10000)
    (he : ∀ x ∈ xs, ∀ S, lcQ F tg none elt (wipeE ρ own) (.p x) S = eltR (F f [.scr ns, .ref j, .p (.int lim)] S)) :
    (evE F (.lc own tg it none elt) ρ S).sat fun d S' => ∃ (rs : List Int) (c' : Cell), d = .p (.lst (rs.map .int)) ∧ S' = S.set j c' ∧ rs.length = xs.length ∧ (∀ r ∈ rs, 0 ≤ r ∧ r < lim) ∧ TwC ns c' (b + xs.length) := by
  refine R.sat_mono (lc_drawn (fun _ r => r) hd hi hx hj ht hb h1 h2 fun x hx S => ⟨_, he x hx S, fun r S' => rfl⟩) ?_
  rintro d S' ⟨rs, c', rfl, e, hl, hr, ht'⟩
  refine ⟨rs, c', ?_, e, hl, hr, ht'⟩
  congr 2
  have : ∀ (xs : List P) (rs : List Int), rs.length = xs.length → (xs.zip rs).map (fun q => P.int q.2) = rs.map .int := by
    intro xs
    induction xs with
    | nil => intro rs h; simp at h; subst h; rfl
    | cons x r ih =>
      intro rs h
      cases rs with
      | nil => simp at h
      | cons y t => simp at h; simp [ih t h]
  exact this xs rs hl
/-! ### markets -/
def MkQ (ns : List Int) (S : Store) (j b : Nat) (mb mg : Int) (d : D) (S' : Store) : Prop := ∃ M c', d = .p (mktP M) ∧ S' = S.set j c' ∧ IsM M ∧ (M.length : Int) ≤ mb ∧ (wid M : Int) ≤ mg ∧ TwC ns c' (b + 100)
def SpMarket (g : Fun) : Prop := ∀ ns S j c b mb mg, S[j]? = some c → TwC ns c b → b ≤ 900000 → 1 ≤ mb → mb ≤ 5 → 1 ≤ mg → mg ≤ 5 → (g [.scr ns, .ref j, .p (.int mb), .p (.int mg)] S).sat (MkQ ns S j b mb mg)
theorem set_snoc {S : Store} {j : Nat} {c x : Cell} (h : j < S.length) : (S ++ [x]).set j c = S.set j c ++ [x] := by rw [List.set_append_left _ _ h]
theorem get_snocL {S : Store} {j : Nat} {x : Cell} (h : j < S.length) : (S ++ [x])[j]? = S[j]? := by rw [List.getElem?_append_left h]
theorem get_snoc {S : Store} {n : Nat} {x : Cell} (h : S.length = n) : (S ++ [x])[n]? = some x := by subst h; simp
theorem set_snocE {S : Store} {n : Nat} {c x : Cell} (h : S.length = n) : (S ++ [x]).set n c = S ++ [c] := by subst h; simp
theorem take_snoc {S : Store} {n : Nat} {x : Cell} (h : S.length = n) : (S ++ [x]).take n = S := by subst h; simp
theorem pick_int {ks : List Int} {P' : Int → Prop} {x : P} (h : x ∈ ks.map P.int) (hp : ∀ k ∈ ks, P' k) : ∃ k, x = .int k ∧ P' k := by
  obtain ⟨k, hk, rfl⟩ := List.mem_map.mp h
  exact ⟨k, rfl, hp k hk⟩
theorem kill_ref {k j : Nat} (h : j < k) : kill1 k (some (.ref j)) = some (.ref j) := by
  simp only [kill1]
  rw [if_neg (by omega)]
theorem ok_market (hd : SpDraw (F (ν 75))) (hp : SpPick (F (ν 76))) : SpMarket (runFd F (d__law_market ν)) := fun ns S j c b mb mg hj ht hb h1 h2 h3 h4 => by
  have hjl : j < S.length := (List.getElem?_eq_some_iff.mp hj).1
  refine r__law_market ?_
  (rw [q_scons]; simp -failIfUnchanged only [zz, List.getElem?_cons_succ, List.getElem?_cons_zero, List.set_cons_succ, List.set_cons_zero, List.map_cons, List.map_nil, if_true, if_false, decide_true, decide_false, Bool.false_eq_true, Bool.not_true, Bool.not_false, reduceCtorEq, s__law_market_0, n__law_market])
  refine draw_then hd (c := c) (b := b) (by rw [get_snocL hjl, hj]) ht (by omega) (by omega) (by omega) fun r0 c0 a1 a2 t0 => ?_
  rw [set_snoc hjl]
  simp -failIfUnchanged only [zz, List.getElem?_cons_succ, List.getElem?_cons_zero, List.set_cons_succ, List.set_cons_zero, List.map_cons, List.map_nil, if_true, if_false, decide_true, decide_false, Bool.false_eq_true, Bool.not_true, Bool.not_false, reduceCtorEq]
  refine draw_then hd (c := c0) (b := b + 1) (by rw [get_snocL (by simpa using hjl), List.getElem?_set_self hjl]) t0 (by omega) (by omega) (by omega) fun r1 c1 a3 a4 t1 => ?_
  rw [set_snoc (by simpa using hjl), List.set_set]
  simp -failIfUnchanged only [zz, List.getElem?_cons_succ, List.getElem?_cons_zero, List.set_cons_succ, List.set_cons_zero, List.map_cons, List.map_nil, if_true, if_false, decide_true, decide_false, Bool.false_eq_true, Bool.not_true, Bool.not_false, reduceCtorEq]
  (rw [q_scons]; simp -failIfUnchanged only [zz, List.getElem?_cons_succ, List.getElem?_cons_zero, List.set_cons_succ, List.set_cons_zero, List.map_cons, List.map_nil, if_true, if_false, decide_true, decide_false, Bool.false_eq_true, Bool.not_true, Bool.not_false, reduceCtorEq, s__law_market_1])
  refine pick_then hp (c := c1) (b := b + 2) (by rw [get_snocL (by simpa using hjl), List.getElem?_set_self hjl]) t1 (by omega) (by simp) (by simp) fun x c2 hx t2 => ?_
  rw [set_snoc (by simpa using hjl), List.set_set]
  obtain ⟨most, rfl, hm⟩ := pick_int (ks := [3, 6, 21]) (P' := fun k => 1 ≤ k ∧ k ≤ 21) hx (by simp)
  have len2 : ∀ x, (S.set j x).length = S.length := fun x => by simp
  (rw [q_scons]; simp -failIfUnchanged only [zz, List.getElem?_cons_succ, List.getElem?_cons_zero, List.set_cons_succ, List.set_cons_zero, List.map_cons, List.map_nil, if_true, if_false, decide_true, decide_false, Bool.false_eq_true, Bool.not_true, Bool.not_false, reduceCtorEq, s__law_market_2, Nat.add_zero, kill_ref hjl])
  rw [new_lst (by simp), z_nx, Nat.add_zero, set_snocE (len2 _)]
  obtain ⟨many, em⟩ : ∃ many : Nat, 1 + r0 = many := ⟨(1 + r0).toNat, by omega⟩
  obtain ⟨size, es⟩ : ∃ size : Nat, 1 + r1 = size := ⟨(1 + r1).toNat, by omega⟩
  rw [em, es]
  simp -failIfUnchanged only [zz, List.getElem?_cons_succ, List.getElem?_cons_zero, List.set_cons_succ, List.set_cons_zero, List.map_cons, List.map_nil, if_true, if_false, decide_true, decide_false, Bool.false_eq_true, Bool.not_true, Bool.not_false, reduceCtorEq, kill_ref hjl]
  refine sat_cons (fun ρ S' => ∃ (o6 o9 : Option D) (rows : List (List Int)) (c' : Cell), ρ = n__law_market (script_ := some (.scr ns)) (town_ := some (.ref j)) (buyers_ := some (.p (.int mb))) (goods_ := some (.p (.int mg))) (most_ := some (.p (.int most))) (rows_ := some (.ref S.length)) (k_ := o6) (many_ := some (.p (.int many))) (size_ := some (.p (.int size))) (j_ := o9) ∧ S' = S.set j c' ++ [.lst (rows.map rowP)] ∧ rows.length = many ∧ (∀ r ∈ rows, RowOk size r) ∧ TwC ns c' (b + 100)) (sat_rng (k := many) (fun i ρ S' => ∃ (o6 o9 : Option D) (rows : List (List Int)) (c' : Cell), ρ = n__law_market (script_ := some (.scr ns)) (town_ := some (.ref j)) (buyers_ := some (.p (.int mb))) (goods_ := some (.p (.int mg))) (most_ := some (.p (.int most))) (rows_ := some (.ref S.length)) (k_ := o6) (many_ := some (.p (.int many))) (size_ := some (.p (.int size))) (j_ := o9) ∧ S' = S.set j c' ++ [.lst (rows.map rowP)] ∧ rows.length = i ∧ (∀ r ∈ rows, RowOk size r) ∧ TwC ns c' (b + 3 + 10 * i)) (by simp -failIfUnchanged only [zz, List.getElem?_cons_succ, List.getElem?_cons_zero, List.set_cons_succ, List.set_cons_zero, List.map_cons, List.map_nil, if_true, if_false, decide_true, decide_false, Bool.false_eq_true, Bool.not_true, Bool.not_false, reduceCtorEq]) (by omega) ⟨_, _, [], c2, rfl, rfl, rfl, by simp, by simpa using t2⟩ ?_ ?_) ?_
  · rintro i hi ρ S' ⟨o6, o9, rows, c', rfl, rfl, hl, hr, ht'⟩
    have gj : ∀ x y, (S.set j x ++ [y])[j]? = some x := fun x y => by rw [get_snocL (by simpa using hjl), List.getElem?_set_self hjl]
    (rw [q_scons]; simp -failIfUnchanged only [zz, List.getElem?_cons_succ, List.getElem?_cons_zero, List.set_cons_succ, List.set_cons_zero, List.map_cons, List.map_nil, if_true, if_false, decide_true, decide_false, Bool.false_eq_true, Bool.not_true, Bool.not_false, reduceCtorEq, s__law_market_3_0, n__law_market, isL_ref (get_snoc (len2 _))])
    have hz : ∀ x, (S.set j x).length = S.length := len2
    refine R.sat_then (lc_draws (xs := (List.range size).map fun i : Nat => P.int i) (lim := most) hd (rng0 (by simp -failIfUnchanged only [zz, List.getElem?_cons_succ, List.getElem?_cons_zero, List.set_cons_succ, List.set_cons_zero, List.map_cons, List.map_nil, if_true, if_false, decide_true, decide_false, Bool.false_eq_true, Bool.not_true, Bool.not_false, reduceCtorEq]) (by omega)) (by simp; omega) (gj _ _) ht' (by omega) (by omega) (by omega) ?_) ?_
    · intro x hx S2
      simp only [lcQ, bindT, wipeE, turnR]
      simp -failIfUnchanged only [zz, List.getElem?_cons_succ, List.getElem?_cons_zero, List.set_cons_succ, List.set_cons_zero, List.map_cons, List.map_nil, if_true, if_false, decide_true, decide_false, Bool.false_eq_true, Bool.not_true, Bool.not_false, reduceCtorEq]
    · rintro d S2 ⟨rs, c3, rfl, rfl, e3, e4, e5⟩
      rw [List.length_map, List.length_range] at e3 e5
      rw [set_snoc (by simpa using hjl), List.set_set]
      have rok : RowOk size rs := ⟨e3, fun x hx => by have := e4 x hx; omega⟩
      simp -failIfUnchanged only [zz, List.getElem?_cons_succ, List.getElem?_cons_zero, List.set_cons_succ, List.set_cons_zero, List.map_cons, List.map_nil, if_true, if_false, decide_true, decide_false, Bool.false_eq_true, Bool.not_true, Bool.not_false, reduceCtorEq]
      rw [app_ref (get_snoc (len2 _)) (by simp [LIM]; omega), z_nx, set_snocE (len2 _)]
      rw [show (rows.map rowP ++ [.tup (rs.map .int)]) = (rows ++ [rs]).map rowP by simp [rowP]]
      refine sat_last ?_
      simp -failIfUnchanged only [zz, List.getElem?_cons_succ, List.getElem?_cons_zero, List.set_cons_succ, List.set_cons_zero, List.map_cons, List.map_nil, if_true, if_false, decide_true, decide_false, Bool.false_eq_true, Bool.not_true, Bool.not_false, reduceCtorEq, s__law_market_3_1]
      have rows1 : ∀ r ∈ rows ++ [rs], RowOk size r := fun r hr' => by
        rcases List.mem_append.mp hr' with q | q
        · exact hr r q
        · simp at q; subst q; exact rok
      cases i with
      | zero =>
        simp only [Int.natCast_zero, Int.lt_irrefl, decide_false]
        simp -failIfUnchanged only [zz, List.getElem?_cons_succ, List.getElem?_cons_zero, List.set_cons_succ, List.set_cons_zero, List.map_cons, List.map_nil, if_true, if_false, decide_true, decide_false, Bool.false_eq_true, Bool.not_true, Bool.not_false, reduceCtorEq]
        exact ⟨_, _, rows ++ [rs], c3, rfl, rfl, by simp [hl], rows1, e5.mono (by omega)⟩
      | succ i =>
        have : (0 : Int) < ((i + 1 : Nat) : Int) := by omega
        simp only [this, decide_true]
        simp -failIfUnchanged only [zz, List.getElem?_cons_succ, List.getElem?_cons_zero, List.set_cons_succ, List.set_cons_zero, List.map_cons, List.map_nil, if_true, if_false, decide_true, decide_false, Bool.false_eq_true, Bool.not_true, Bool.not_false, reduceCtorEq]
        refine draw_then hd (gj _ _) e5 (by omega) (by omega) (by omega) fun r5 c5 a5 a6 t5 => ?_
        rw [set_snoc (by simpa using hjl), List.set_set]
        by_cases c0 : r5 = 0
        · simp -failIfUnchanged only [zz, List.getElem?_cons_succ, List.getElem?_cons_zero, List.set_cons_succ, List.set_cons_zero, List.map_cons, List.map_nil, if_true, if_false, decide_true, decide_false, Bool.false_eq_true, Bool.not_true, Bool.not_false, reduceCtorEq, c0]
          refine sat_last ?_
          obtain ⟨rp, hrp⟩ : ∃ rp, (rows ++ [rs])[i]? = some rp := ⟨_, List.getElem?_eq_getElem (by simp; omega)⟩
          have ixp : idxR (.ref S.length) (.p (.int ((i + 1 : Nat) - 1 : Int))) (S.set j c5 ++ [.lst ((rows ++ [rs]).map rowP)]) = .ok (.p (rowP rp)) (S.set j c5 ++ [.lst ((rows ++ [rs]).map rowP)]) := by
            rw [show ((i + 1 : Nat) - 1 : Int) = (i : Nat) by omega]
            exact idx_ref (get_snoc (len2 _)) (by rw [List.getElem?_map, hrp]; rfl)
          simp -failIfUnchanged only [zz, List.getElem?_cons_succ, List.getElem?_cons_zero, List.set_cons_succ, List.set_cons_zero, List.map_cons, List.map_nil, if_true, if_false, decide_true, decide_false, Bool.false_eq_true, Bool.not_true, Bool.not_false, reduceCtorEq, s__law_market_3_1_0, ixp]
          rw [setix_ref (get_snoc (len2 _)) (by simp; omega), z_sat_nx, set_snocE (len2 _), ← List.map_set]
          refine ⟨_, _, (rows ++ [rs]).set (i + 1) rp, c5, rfl, rfl, by simp [hl], fun r hr' => ?_, t5.mono (by omega)⟩
          rcases List.mem_or_eq_of_mem_set hr' with q | rfl
          · exact rows1 r q
          · exact rows1 _ (List.mem_of_getElem? hrp)
        · simp -failIfUnchanged only [zz, List.getElem?_cons_succ, List.getElem?_cons_zero, List.set_cons_succ, List.set_cons_zero, List.map_cons, List.map_nil, if_true, if_false, decide_true, decide_false, Bool.false_eq_true, Bool.not_true, Bool.not_false, reduceCtorEq, c0]
          exact ⟨_, _, rows ++ [rs], c5, rfl, rfl, by simp [hl], rows1, t5.mono (by omega)⟩
  · rintro ρ S' ⟨o6, o9, rows, c', e, e', hl, hr, ht'⟩
    exact ⟨o6, o9, rows, c', e, e', hl, hr, ht'.mono (by omega)⟩
  · rintro ρ S' ⟨o6, o9, rows, c', rfl, rfl, hl, hr, ht'⟩
    refine sat_last ?_
    simp -failIfUnchanged only [zz, List.getElem?_cons_succ, List.getElem?_cons_zero, List.set_cons_succ, List.set_cons_zero, List.map_cons, List.map_nil, if_true, if_false, decide_true, decide_false, Bool.false_eq_true, Bool.not_true, Bool.not_false, reduceCtorEq, s__law_market_4, n__law_market, tuple_ref (get_snoc (len2 c'))]
    have mk : Mkt rows many size := ⟨hl, by omega, by omega, fun r h => (hr r h).len, by omega, by omega, fun r h => (hr r h).val⟩
    refine ⟨_, rfl, rows, c', rfl, by rw [take_snoc (len2 _)], mk.is, by omega, by rw [mk.wid]; omega, ht'⟩
end
end G9

/-! text H4 -/
/-! G9.H4: the law's own assignments, totals, best ones. -/
namespace G9
open PySem (Str)
section
variable {F : FS} {ν : Nat → Nat} {ρ : Env} {S : Store}
theorem filterMap_some {α β : Type} (f : α → β) (l : List α) : l.filterMap (fun x => some (f x)) = l.map f := by
  induction l with
  | nil => rfl
  | cons x r ih => simp
theorem filterMap_cong {α β : Type} {f g : α → Option β} {l : List α} (h : ∀ x ∈ l, f x = g x) : l.filterMap f = l.filterMap g := by
  induction l with
  | nil => rfl
  | cons x r ih => rw [List.filterMap_cons, List.filterMap_cons, h x List.mem_cons_self, ih fun y hy => h y (List.mem_cons_of_mem _ hy)]
/-- pure comprehensions over encoded values -/
theorem lc_map {α : Type} {own : List (Str × Nat)} {tg : Tg} {it : It} {elt : E} {xs : List α} (enc : α → P) (g : α → P) (hi : evI F it ρ S = .ok (none, (xs.map enc).map .p) S) (hd : xs.length ≤ LIM) (h : ∀ x ∈ xs, lcQ F tg none elt (wipeE ρ own) (.p (enc x)) S = .ok (some (g x)) S) : evE F (.lc own tg it none elt) ρ S = .ok (.p (.lst (xs.map g))) S := by
  rw [lc_A enc (fun x => some (g x)) hi hd h, filterMap_some]
theorem lc_fil {α : Type} {own : List (Str × Nat)} {tg : Tg} {it : It} {c elt : E} {xs : List α} (enc : α → P) (p : α → Bool) (g : α → P) (hi : evI F it ρ S = .ok (none, (xs.map enc).map .p) S) (hd : xs.length ≤ LIM) (h : ∀ x ∈ xs, lcQ F tg (some c) elt (wipeE ρ own) (.p (enc x)) S = if p x = true then .ok (some (g x)) S else .ok none S) : evE F (.lc own tg it (some c) elt) ρ S = .ok (.p (.lst ((xs.filter p).map g))) S := by
  rw [lc_A enc (fun x => if p x = true then some (g x) else none) hi hd fun x hx => by rw [h x hx]; split <;> rfl, filterMap_if]
theorem lstmap (xs : List P) : (xs.map fun x => D.p x) = xs.map D.p := rfl
theorem bin_refL {k : Nat} {xs ys : List P} (h : S[k]? = some (.lst xs)) (hl : xs.length + ys.length ≤ LIM) : bin S .add (.ref k) (.p (.lst ys)) = .ok (.p (.lst (xs ++ ys))) S := by
  simp [bin, view0, view, h, hl]
theorem fz_ref {n k i : Nat} {xs : List P} (hn : n ≤ k) (h : S[k]? = some (.lst xs)) : fzR n i ρ (.ref k) S = .nx ((killR k ρ).set i (some (.p (.lst xs)))) (S.set k .nil) := by
  simp only [fzR, hn, if_true, h]
/-! ### town -/
def SpTown (g : Fun) : Prop := ∀ ns S, ns.length ≤ 63 → g [.scr ns] S = .ok (.p (.lst ((0 :: ns).map .int))) S
theorem ok_town {x : Str} : SpTown (runNew F 1 [x] (.bin .add (.lst [(.int 0)]) (.bi .list (.v 0 x)))) := fun ns S h => by
  have e : bi S .list (.scr ns) = .ok (.p (.lst (ns.map .int))) S := by simp [bi, view, seqOf]
  unfold runNew
  rw [if_pos (show [D.scr ns].length = 1 from rfl)]
  simp only [List.map_cons, List.map_nil, List.length_cons, List.length_nil, Nat.sub_self, List.replicate_zero, List.append_nil]
  simp -failIfUnchanged only [zz, List.getElem?_cons_succ, List.getElem?_cons_zero, List.set_cons_succ, List.set_cons_zero, List.map_cons, List.map_nil, if_true, if_false, decide_true, decide_false, Bool.false_eq_true, Bool.not_true, Bool.not_false, reduceCtorEq, e]
  rw [bin_lst (by simp [LIM]; omega)]
  rfl
theorem tw_town {ns : List Int} : TwC ns (.lst ((0 :: ns).map .int)) 0 := ⟨0 :: ns, rfl, rfl, 0, rfl, by omega⟩
/-! ### assignments -/
theorem ext1_eq (k : Nat) (a : List Int) : ext1 k a = [a ++ [-1]] ++ ((List.range k).filter (fun g : Nat => !decide ((g : Int) ∈ a))).map fun g : Nat => a ++ [(g : Int)] := by
  have gs : goods k = -1 :: (List.range k).map fun i : Nat => (i : Int) := by
    unfold goods
    rw [List.range_succ_eq_map]
    simp only [List.map_cons, List.map_map]
    congr 1
    refine List.map_congr_left fun i _ => ?_
    simp only [Function.comp, Nat.succ_eq_add_one, Int.natCast_add, Int.natCast_one]
    omega
  unfold ext1
  rw [gs, List.filterMap_cons]
  simp only [true_or, if_true]
  rw [List.singleton_append, List.filterMap_map, ← filterMap_if]
  congr 1
  refine filterMap_cong fun g hg => ?_
  have : (g : Int) ≠ -1 := by omega
  simp only [Function.comp, this, false_or]
  by_cases c : (g : Int) ∈ a <;> simp [c]
theorem ok_lassign : SpAllA (runFd F (d__law_assignments ν)) := fun M S hM hr => R.sat_eq (r__law_assignments (by
  (rw [q_scons]; simp -failIfUnchanged only [zz, List.getElem?_cons_succ, List.getElem?_cons_zero, List.set_cons_succ, List.set_cons_zero, List.map_cons, List.map_nil, if_true, if_false, decide_true, decide_false, Bool.false_eq_true, Bool.not_true, Bool.not_false, reduceCtorEq, s__law_assignments_0, n__law_assignments])
  have allLen : ∀ i, (allFrom [[]] (M.take i)).length ≤ 7776 := fun i => by
    have h1 := allFrom_len (M := M.take i) (found := [[]]) fun r h => hr r (List.mem_of_mem_take h)
    have h2 : 6 ^ (M.take i).length ≤ 6 ^ 5 := Nat.pow_le_pow_right (by omega) (by rw [List.length_take]; omega)
    simp at h1 h2
    omega
  have memLen : ∀ i, ∀ a ∈ allFrom [[]] (M.take i), a.length ≤ 5 := fun i a ha => by
    obtain ⟨a0, h0, c, rfl, hc, _⟩ := mem_allFrom ha
    simp at h0
    subst h0
    rw [List.nil_append, hc, List.length_take]
    omega
  refine sat_cons _ (sat_forA rowP (xs := M) (fun i ρ S' => ∃ (o2 o4 : Option D) (c : Cell), ρ = n__law_assignments (market_ := some (.p (mktP M))) (found_ := some (.p (.lst ((allFrom [[]] (M.take i)).map rowP)))) (row_ := o2) (some_ := o4) ∧ S' = S ++ [c]) (by (simp -failIfUnchanged only [zz, List.getElem?_cons_succ, List.getElem?_cons_zero, List.set_cons_succ, List.set_cons_zero, List.map_cons, List.map_nil, if_true, if_false, decide_true, decide_false, Bool.false_eq_true, Bool.not_true, Bool.not_false, reduceCtorEq, mktP] <;> rfl)) ⟨none, none, .nil, rfl, rfl⟩ ?_ fun ρ S' h => h) ?_
  · rintro i r hir ρ S' ⟨o2, o4, c, rfl, rfl⟩
    obtain ⟨hi, eir⟩ := List.getElem?_eq_some_iff.mp hir
    have hr5 := hr r (List.mem_of_getElem? hir)
    generalize eF : allFrom [[]] (M.take i) = found at *
    have fl := allLen i
    have fm := memLen i
    rw [eF] at fl fm
    refine ⟨_, rfl, ?_⟩
    (rw [q_scons]; simp -failIfUnchanged only [zz, List.getElem?_cons_succ, List.getElem?_cons_zero, List.set_cons_succ, List.set_cons_zero, List.map_cons, List.map_nil, if_true, if_false, decide_true, decide_false, Bool.false_eq_true, Bool.not_true, Bool.not_false, reduceCtorEq, s__law_assignments_1_0, n__law_assignments])
    rw [new_lst (by simp), z_nx, Nat.add_zero, set_snocE rfl]
    simp -failIfUnchanged only [zz, List.getElem?_cons_succ, List.getElem?_cons_zero, List.set_cons_succ, List.set_cons_zero, List.map_cons, List.map_nil, if_true, if_false, decide_true, decide_false, Bool.false_eq_true, Bool.not_true, Bool.not_false, reduceCtorEq]
    refine sat_cons _ (sat_forA rowP (xs := found) (fun i' ρ S' => ∃ (o4 : Option D), ρ = n__law_assignments (market_ := some (.p (mktP M))) (found_ := some (.p (.lst (found.map rowP)))) (row_ := some (.p (rowP r))) (longer_ := some (.ref S.length)) (some_ := o4) ∧ S' = S ++ [.lst (((found.take i').flatMap (ext1 r.length)).map rowP)]) (by (simp -failIfUnchanged only [zz, List.getElem?_cons_succ, List.getElem?_cons_zero, List.set_cons_succ, List.set_cons_zero, List.map_cons, List.map_nil, if_true, if_false, decide_true, decide_false, Bool.false_eq_true, Bool.not_true, Bool.not_false, reduceCtorEq] <;> rfl)) ⟨_, rfl, rfl⟩ ?_ fun ρ S' h => h) ?_
    · rintro i' a hia ρ S' ⟨o4', rfl, rfl⟩
      obtain ⟨hi', eia⟩ := List.getElem?_eq_some_iff.mp hia
      have hal := fm a (List.mem_of_getElem? hia)
      generalize eT : (found.take i').flatMap (ext1 r.length) = done
      have dl : done.length ≤ 7776 * 6 := by
        rw [← eT]
        have := flat_len (f := ext1 r.length) (c := 6) (fun x => Nat.le_trans (ext1_len _ _) (by omega)) (found.take i')
        have h2 : (found.take i').length ≤ found.length := by simp; omega
        have h3 : (found.take i').length * 6 ≤ found.length * 6 := Nat.mul_le_mul_right _ h2
        omega
      refine ⟨_, rfl, ?_⟩
      have b1 : ∀ g S, bin S .add (.p (rowP a)) (.p (.tup [.int g])) = .ok (.p (rowP (a ++ [g]))) S := fun g S => by
        rw [rowP, bin_tup (by simp [LIM]; omega)]
        simp [rowP]
      (rw [q_scons]; simp -failIfUnchanged only [zz, List.getElem?_cons_succ, List.getElem?_cons_zero, List.set_cons_succ, List.set_cons_zero, List.map_cons, List.map_nil, if_true, if_false, decide_true, decide_false, Bool.false_eq_true, Bool.not_true, Bool.not_false, reduceCtorEq, s__law_assignments_1_1_0, n__law_assignments, isL_ref (get_snoc rfl), b1])
      rw [app_ref (get_snoc rfl) (by simp [LIM]; omega), z_nx, set_snocE rfl]
      refine sat_last ?_
      have lc := lc_fil (F := F) (ρ := [some (D.p (mktP M)), some (D.p (.lst (found.map rowP))), some (D.p (rowP r)), some (D.ref S.length), some (D.p (rowP a)), none]) (S := S ++ [.lst (done.map rowP ++ [rowP (a ++ [-1])])]) (own := [((PySem.Str.ofString "good"), 5)]) (tg := .nm 5 (PySem.Str.ofString "good")) (it := .rng none (.bi .len (.v 2 (PySem.Str.ofString "row")))) (c := .cmp .notin (.v 5 (PySem.Str.ofString "good")) (.v 4 (PySem.Str.ofString "some"))) (elt := .bin .add (.v 4 (PySem.Str.ofString "some")) (.tup [(.v 5 (PySem.Str.ofString "good"))])) (xs := List.range r.length) (fun g : Nat => P.int g) (fun g => !decide ((g : Int) ∈ a)) (fun g => rowP (a ++ [(g : Int)])) (rng0 (by simp -failIfUnchanged only [zz, List.getElem?_cons_succ, List.getElem?_cons_zero, List.set_cons_succ, List.set_cons_zero, List.map_cons, List.map_nil, if_true, if_false, decide_true, decide_false, Bool.false_eq_true, Bool.not_true, Bool.not_false, reduceCtorEq, rowP, List.length_map]) (by omega)) (by simp [LIM]; omega) (fun g hg => by (simp only [lcQ, bindT, setAll, wipeE, turnR, List.map_cons, List.map_nil]; simp -failIfUnchanged only [zz, List.getElem?_cons_succ, List.getElem?_cons_zero, List.set_cons_succ, List.set_cons_zero, List.map_cons, List.map_nil, if_true, if_false, decide_true, decide_false, Bool.false_eq_true, Bool.not_true, Bool.not_false, reduceCtorEq, cmp_notinT, b1]))
      simp -failIfUnchanged only [zz, List.getElem?_cons_succ, List.getElem?_cons_zero, List.set_cons_succ, List.set_cons_zero, List.map_cons, List.map_nil, if_true, if_false, decide_true, decide_false, Bool.false_eq_true, Bool.not_true, Bool.not_false, reduceCtorEq, s__law_assignments_1_1_1, lc]
      rw [bin_refL (get_snoc rfl) (by
        have := List.length_filter_le (fun g : Nat => !decide ((g : Int) ∈ a)) (List.range r.length)
        simp [LIM] at this ⊢
        omega), z_then_ok, new_lst (by simp), z_sat_nx, Nat.add_zero, set_snocE rfl]
      simp -failIfUnchanged only [zz, List.getElem?_cons_succ, List.getElem?_cons_zero, List.set_cons_succ, List.set_cons_zero, List.map_cons, List.map_nil, if_true, if_false, decide_true, decide_false, Bool.false_eq_true, Bool.not_true, Bool.not_false, reduceCtorEq, kill1_r]
      refine ⟨_, rfl, ?_⟩
      rw [List.take_succ_eq_append_getElem hi', flat_snoc, eT, eia, ext1_eq]
      simp [Function.comp_def]
    · rintro ρ S' ⟨o4', rfl, rfl⟩
      refine sat_last ?_
      simp -failIfUnchanged only [zz, List.getElem?_cons_succ, List.getElem?_cons_zero, List.set_cons_succ, List.set_cons_zero, List.map_cons, List.map_nil, if_true, if_false, decide_true, decide_false, Bool.false_eq_true, Bool.not_true, Bool.not_false, reduceCtorEq, s__law_assignments_1_2, n__law_assignments]
      rw [fz_ref (Nat.le_refl _) (get_snoc rfl), z_sat_nx, set_snocE rfl]
      simp -failIfUnchanged only [zz, List.getElem?_cons_succ, List.getElem?_cons_zero, List.set_cons_succ, List.set_cons_zero, List.map_cons, List.map_nil, if_true, if_false, decide_true, decide_false, Bool.false_eq_true, Bool.not_true, Bool.not_false, reduceCtorEq, kill1_r]
      have hh : allFrom [[]] (M.take (i + 1)) = found.flatMap (ext1 r.length) := by
        rw [List.take_succ_eq_append_getElem hi, eir, ← eF]
        unfold allFrom
        rw [List.foldl_append]
        rfl
      rw [List.take_length, hh]
      exact ⟨_, _, _, rfl, rfl⟩
  · rintro ρ S' ⟨o2, o4, c, rfl, rfl⟩
    refine sat_last ?_
    simp -failIfUnchanged only [zz, List.getElem?_cons_succ, List.getElem?_cons_zero, List.set_cons_succ, List.set_cons_zero, List.map_cons, List.map_nil, if_true, if_false, decide_true, decide_false, Bool.false_eq_true, Bool.not_true, Bool.not_false, reduceCtorEq, s__law_assignments_2, n__law_assignments]
    refine ⟨_, rfl, ?_, by rw [take_snoc rfl]⟩
    rw [List.take_length]
    rfl))
/-! ### totals -/
theorem tot_snoc : ∀ {M : List (List Int)} {a : List Int} {r : List Int} {g : Int}, M.length = a.length → tot (M ++ [r]) (a ++ [g]) = tot M a + (if 0 ≤ g then r.getD g.toNat 0 else 0)
  | [], [], r, g, _ => by simp [tot]
  | [], _ :: _, _, _, h => by simp at h
  | _ :: _, [], _, _, h => by simp at h
  | x :: M, y :: a, r, g, h => by
    rw [List.cons_append, List.cons_append, tot, tot, tot_snoc (by simpa using h)]
    omega
theorem fits_get {M : List (List Int)} {a : List Int} (h : Fits M a) {i : Nat} {r : List Int} {g : Int} (hr : M[i]? = some r) (hg : a[i]? = some g) : g < (r.length : Int) := by
  refine h.2 (r, g) (List.mem_iff_getElem?.mpr ⟨i, ?_⟩)
  rw [List.getElem?_zip_eq_some]
  exact ⟨hr, hg⟩
theorem idx_mkt {M : List (List Int)} {i : Nat} {r : List Int} (h : M[i]? = some r) : idxR (.p (mktP M)) (.p (.int i)) S = .ok (.p (rowP r)) S := by
  rw [mktP]
  exact idx_nat (by rw [List.getElem?_map, h]; rfl)
theorem idx_row {a : List Int} {i : Nat} {r : Int} (h : a[i]? = some r) : idxR (.p (rowP a)) (.p (.int i)) S = .ok (.p (.int r)) S := by
  rw [rowP]
  exact idx_nat (by rw [List.getElem?_map, h]; rfl)
theorem len_mkt {M : List (List Int)} : bi S .len (.p (mktP M)) = .ok (.p (.int M.length)) S := by rw [mktP, z_len_tup, List.length_map]
theorem len_row {a : List Int} : bi S .len (.p (rowP a)) = .ok (.p (.int a.length)) S := by rw [rowP, z_len_tup, List.length_map]
theorem ok_ltotal : SpTotalOf (runFd F (d__law_total ν)) := fun M a S hM hf => R.sat_eq (r__law_total (by
  (rw [q_scons]; simp -failIfUnchanged only [zz, List.getElem?_cons_succ, List.getElem?_cons_zero, List.set_cons_succ, List.set_cons_zero, List.map_cons, List.map_nil, if_true, if_false, decide_true, decide_false, Bool.false_eq_true, Bool.not_true, Bool.not_false, reduceCtorEq, s__law_total_0, n__law_total])
  refine sat_cons _ (sat_rng (k := M.length) (fun i ρ S' => ∃ (o : Option D), ρ = n__law_total (market_ := some (.p (mktP M))) (assignment_ := some (.p (rowP a))) (found_ := some (.p (.int (tot (M.take i) (a.take i))))) (buyer_ := o) ∧ S' = S) (by (simp -failIfUnchanged only [zz, List.getElem?_cons_succ, List.getElem?_cons_zero, List.set_cons_succ, List.set_cons_zero, List.map_cons, List.map_nil, if_true, if_false, decide_true, decide_false, Bool.false_eq_true, Bool.not_true, Bool.not_false, reduceCtorEq, len_mkt] <;> rfl)) (by omega) ⟨none, by simp [tot], rfl⟩ ?_ fun ρ S' h => h) ?_
  · rintro i hi ρ S' ⟨o, rfl, rfl⟩
    have hia : i < a.length := by rw [hf.1]; exact hi
    have e1 := List.getElem?_eq_getElem hi
    have e2 := List.getElem?_eq_getElem hia
    have lt := fits_get hf e1 e2
    refine sat_last ?_
    have step : tot (M.take (i + 1)) (a.take (i + 1)) = tot (M.take i) (a.take i) + (if 0 ≤ a[i] then M[i].getD a[i].toNat 0 else 0) := by
      rw [List.take_succ_eq_append_getElem hi, List.take_succ_eq_append_getElem hia, tot_snoc (by simp [hf.1])]
    simp -failIfUnchanged only [zz, List.getElem?_cons_succ, List.getElem?_cons_zero, List.set_cons_succ, List.set_cons_zero, List.map_cons, List.map_nil, if_true, if_false, decide_true, decide_false, Bool.false_eq_true, Bool.not_true, Bool.not_false, reduceCtorEq, s__law_total_1_0, n__law_total, idx_row e2]
    by_cases c : 0 ≤ a[i]
    · obtain ⟨q, eq⟩ := Int.eq_ofNat_of_zero_le c
      have hq : q < M[i].length := by omega
      simp only [c, decide_true, if_true]
      refine sat_last ?_
      simp -failIfUnchanged only [zz, List.getElem?_cons_succ, List.getElem?_cons_zero, List.set_cons_succ, List.set_cons_zero, List.map_cons, List.map_nil, if_true, if_false, decide_true, decide_false, Bool.false_eq_true, Bool.not_true, Bool.not_false, reduceCtorEq, s__law_total_1_0_0, idx_mkt e1, idx_row e2]
      rw [eq, idx_row (List.getElem?_eq_getElem hq)]
      simp -failIfUnchanged only [zz, List.getElem?_cons_succ, List.getElem?_cons_zero, List.set_cons_succ, List.set_cons_zero, List.map_cons, List.map_nil, if_true, if_false, decide_true, decide_false, Bool.false_eq_true, Bool.not_true, Bool.not_false, reduceCtorEq]
      refine ⟨some (.p (.int i)), ?_, trivial⟩
      rw [step, if_pos c, eq]
      simp [hq]
    · simp only [c, decide_false]
      simp -failIfUnchanged only [zz, List.getElem?_cons_succ, List.getElem?_cons_zero, List.set_cons_succ, List.set_cons_zero, List.map_cons, List.map_nil, if_true, if_false, decide_true, decide_false, Bool.false_eq_true, Bool.not_true, Bool.not_false, reduceCtorEq]
      refine ⟨some (.p (.int i)), ?_, trivial⟩
      rw [step, if_neg c, Int.add_zero]
  · rintro ρ S' ⟨o, rfl, rfl⟩
    refine sat_last ?_
    simp -failIfUnchanged only [zz, List.getElem?_cons_succ, List.getElem?_cons_zero, List.set_cons_succ, List.set_cons_zero, List.map_cons, List.map_nil, if_true, if_false, decide_true, decide_false, Bool.false_eq_true, Bool.not_true, Bool.not_false, reduceCtorEq, s__law_total_2, n__law_total]
    refine ⟨_, rfl, ?_, by simp⟩
    rw [List.take_length, ← hf.1, List.take_length]))
/-! ### the best ones -/
theorem maxI_eq {l : List Int} {m : Int} (h1 : m ∈ l) (h2 : ∀ x ∈ l, x ≤ m) : maxI l = some m := by
  have key : ∀ (l : List Int) (x : Int), (∀ y ∈ l, y ≤ m) → x ≤ m → (m ∈ l ∨ x = m) → l.foldl max x = m := by
    intro l
    induction l with
    | nil => intro x _ _ h; simpa using h
    | cons y r ih =>
      intro x hl hx hm
      rw [List.foldl_cons]
      have hy := hl y List.mem_cons_self
      refine ih _ (fun z hz => hl z (List.mem_cons_of_mem _ hz)) (by omega) ?_
      rcases hm with hm | rfl
      · rcases List.mem_cons.mp hm with rfl | hm
        · right; omega
        · left; exact hm
      · right; omega
  cases l with
  | nil => simp at h1
  | cons x r =>
    rw [maxI, key r x (fun y hy => h2 y (List.mem_cons_of_mem _ hy)) (h2 x List.mem_cons_self)]
    rcases List.mem_cons.mp h1 with rfl | h1
    · right; rfl
    · left; exact h1
theorem minI_eq {l : List Int} {m : Int} (h1 : m ∈ l) (h2 : ∀ x ∈ l, m ≤ x) : minI l = some m := by
  have key : ∀ (l : List Int) (x : Int), (∀ y ∈ l, m ≤ y) → m ≤ x → (m ∈ l ∨ x = m) → l.foldl min x = m := by
    intro l
    induction l with
    | nil => intro x _ _ h; simpa using h
    | cons y r ih =>
      intro x hl hx hm
      rw [List.foldl_cons]
      have hy := hl y List.mem_cons_self
      refine ih _ (fun z hz => hl z (List.mem_cons_of_mem _ hz)) (by omega) ?_
      rcases hm with hm | rfl
      · rcases List.mem_cons.mp hm with rfl | hm
        · right; omega
        · left; exact hm
      · right; omega
  cases l with
  | nil => simp at h1
  | cons x r =>
    rw [minI, key r x (fun y hy => h2 y (List.mem_cons_of_mem _ hy)) (h2 x List.mem_cons_self)]
    rcases List.mem_cons.mp h1 with rfl | h1
    · right; rfl
    · left; exact h1
def SpLBest (g : Fun) : Prop := ∀ M S, IsM M → g [.p (mktP M)] S = .ok (.p (.lst ((bests M).map rowP))) S
theorem IsM.nonneg {M : List (List Int)} (h : IsM M) : ∀ r ∈ M, ∀ x ∈ r, 0 ≤ x := fun r hr x hx => (h.val r hr x hx).1
theorem IsM.bne {M : List (List Int)} (h : IsM M) : bests M ≠ [] := bests_ne h.nonneg
theorem IsM.len5 {M : List (List Int)} (h : IsM M) : M.length ≤ 5 := h.m5
theorem IsM.row5 {M : List (List Int)} (h : IsM M) : ∀ r ∈ M, r.length ≤ 5 := fun r hr => by rw [h.row r hr]; exact h.k5
theorem best_max {M : List (List Int)} (h : IsM M) : maxI ((allA M).map (tot M)) = some (best M) := by
  refine maxI_eq ?_ ?_
  · cases e : bests M with
    | nil => exact absurd e h.bne
    | cons a r =>
      have := bests_mem (M := M) (a := a) (by rw [e]; exact List.mem_cons_self)
      exact List.mem_map.mpr ⟨a, this.1, this.2⟩
  · intro x hx
    obtain ⟨a, ha, rfl⟩ := List.mem_map.mp hx
    exact le_best ha
theorem ok_lbest (ha : SpAllA (F (ν 85))) (ht : SpTotalOf (F (ν 86))) : SpLBest (runFd F (d__law_best ν)) := fun M S h => R.sat_eq (r__law_best (by
  have hl5 := h.len5
  have hal : (allA M).length ≤ 7776 := allA_len h
  have tt : ∀ a ∈ allA M, ∀ S, F (ν 86) [.p (mktP M), .p (rowP a)] S = .ok (.p (.int (tot M a))) S := fun a ha S => ht M a S (by omega) (fits_all ha)
  have aa : ∀ S, F (ν 85) [.p (mktP M)] S = .ok (.p (.lst ((allA M).map rowP))) S := fun S => ha M S hl5 h.row5
  (rw [q_scons]; simp -failIfUnchanged only [zz, List.getElem?_cons_succ, List.getElem?_cons_zero, List.set_cons_succ, List.set_cons_zero, List.map_cons, List.map_nil, if_true, if_false, decide_true, decide_false, Bool.false_eq_true, Bool.not_true, Bool.not_false, reduceCtorEq, s__law_best_0, n__law_best, aa])
  rw [q_scons, s__law_best_1, q_asg, q_bi, lc_map (xs := allA M) rowP (fun a => .int (tot M a)) (by simp -failIfUnchanged only [zz, List.getElem?_cons_succ, List.getElem?_cons_zero, List.set_cons_succ, List.set_cons_zero, List.map_cons, List.map_nil, if_true, if_false, decide_true, decide_false, Bool.false_eq_true, Bool.not_true, Bool.not_false, reduceCtorEq]) (lim6 (by omega)) (fun a ha => by (simp only [lcQ, bindT, setAll, wipeE, turnR, List.map_cons, List.map_nil]; simp -failIfUnchanged only [zz, List.getElem?_cons_succ, List.getElem?_cons_zero, List.set_cons_succ, List.set_cons_zero, List.map_cons, List.map_nil, if_true, if_false, decide_true, decide_false, Bool.false_eq_true, Bool.not_true, Bool.not_false, reduceCtorEq, tt a ha]))]
  rw [z_bind_ok, show ((allA M).map fun a => P.int (tot M a)) = ((allA M).map (tot M)).map P.int by simp [Function.comp_def], max_lst (best_max h)]
  simp -failIfUnchanged only [zz, List.getElem?_cons_succ, List.getElem?_cons_zero, List.set_cons_succ, List.set_cons_zero, List.map_cons, List.map_nil, if_true, if_false, decide_true, decide_false, Bool.false_eq_true, Bool.not_true, Bool.not_false, reduceCtorEq]
  refine sat_last ?_
  rw [s__law_best_2, q_ret, lc_fil (xs := allA M) rowP (fun a => decide (tot M a = best M)) rowP (by simp -failIfUnchanged only [zz, List.getElem?_cons_succ, List.getElem?_cons_zero, List.set_cons_succ, List.set_cons_zero, List.map_cons, List.map_nil, if_true, if_false, decide_true, decide_false, Bool.false_eq_true, Bool.not_true, Bool.not_false, reduceCtorEq]) (lim6 (by omega)) (fun a ha => by (simp only [lcQ, bindT, setAll, wipeE, turnR, List.map_cons, List.map_nil]; simp -failIfUnchanged only [zz, List.getElem?_cons_succ, List.getElem?_cons_zero, List.set_cons_succ, List.set_cons_zero, List.map_cons, List.map_nil, if_true, if_false, decide_true, decide_false, Bool.false_eq_true, Bool.not_true, Bool.not_false, reduceCtorEq, tt a ha]))]
  simp -failIfUnchanged only [zz, List.getElem?_cons_succ, List.getElem?_cons_zero, List.set_cons_succ, List.set_cons_zero, List.map_cons, List.map_nil, if_true, if_false, decide_true, decide_false, Bool.false_eq_true, Bool.not_true, Bool.not_false, reduceCtorEq]
  refine ⟨_, rfl, ?_, by simp⟩
  rw [← bests_eq]))
end
end G9

/-! text M0 -/
/-! G9.M0: assignments; lists in order. -/
namespace G9
open PySem (Str)
theorem dd_mem {l : List Int} {x : Int} : x ∈ dedup l ↔ x ∈ l := by
  induction l with
  | nil => simp [dedup]
  | cons y r ih =>
    rw [dedup]
    split
    · rename_i c
      rw [ih, List.mem_cons]
      exact ⟨.inr, fun h => h.elim (fun e => e ▸ c) id⟩
    · rw [List.mem_cons, List.mem_cons, ih]
theorem dd_le {l : List Int} : (dedup l).length ≤ l.length := by
  induction l with
  | nil => simp [dedup]
  | cons y r ih =>
    rw [dedup]
    split <;> simp <;> omega
theorem dedup_iff {l : List Int} : (dedup l).length = l.length ↔ l.Nodup := by
  induction l with
  | nil => simp [dedup]
  | cons y r ih =>
    rw [dedup, List.nodup_cons]
    split
    · rename_i c
      have := dd_le (l := r)
      simp only [List.length_cons, c, not_true, false_and, iff_false]
      omega
    · rename_i c
      simp only [List.length_cons, Nat.succ_inj, c, not_false_eq_true, true_and]
      exact ih
/-- an assignment of m buyers and k goods -/
structure Asg (m k : Nat) (a : List Int) : Prop where
  len : a.length = m
  rng : ∀ g ∈ a, -1 ≤ g ∧ g < (k : Int)
  nd : (someG a).Nodup
theorem asgB_iff {m k : Nat} {a : List Int} : asgB m k a = true ↔ Asg m k a := by
  unfold asgB
  simp only [Bool.and_eq_true, decide_eq_true_eq, List.all_eq_true, dedup_iff]
  constructor
  · rintro ⟨⟨h1, h2⟩, h3⟩
    exact ⟨h1, fun g hg => by have := h2 g hg; omega, h3⟩
  · rintro ⟨h1, h2, h3⟩
    exact ⟨⟨h1, fun g hg => by have := h2 g hg; omega⟩, h3⟩
theorem someG_append {a b : List Int} : someG (a ++ b) = someG a ++ someG b := by simp [someG]
theorem mem_someG {a : List Int} {g : Int} : g ∈ someG a ↔ g ∈ a ∧ 0 ≤ g := by simp [someG]
theorem nd_snoc {a : List Int} {g : Int} (h : (someG a).Nodup) (hg : g = -1 ∨ g ∉ a) : (someG (a ++ [g])).Nodup := by
  rw [someG_append, List.nodup_append]
  refine ⟨h, ?_, ?_⟩
  · unfold someG
    by_cases c : 0 ≤ g <;> simp [c]
  · intro x hx y hy e
    subst e
    rw [mem_someG] at hx hy
    simp at hy
    obtain ⟨rfl, hy⟩ := hy
    rcases hg with hg | hg
    · omega
    · exact hg hx.1
theorem nd_left {a b : List Int} (h : (someG (a ++ b)).Nodup) : (someG a).Nodup := by
  rw [someG_append, List.nodup_append] at h
  exact h.1
theorem mem_ext1 {k : Nat} {a b : List Int} : b ∈ ext1 k a ↔ ∃ g, -1 ≤ g ∧ g < (k : Int) ∧ (g = -1 ∨ g ∉ a) ∧ b = a ++ [g] := by
  unfold ext1
  rw [List.mem_filterMap]
  constructor
  · rintro ⟨g, hg, e⟩
    unfold goods at hg
    obtain ⟨i, hi, rfl⟩ := List.mem_map.mp hg
    have := List.mem_range.mp hi
    split at e
    · rename_i c
      cases e
      exact ⟨_, by omega, by omega, c, rfl⟩
    · cases e
  · rintro ⟨g, h1, h2, h3, rfl⟩
    refine ⟨g, ?_, by rw [if_pos h3]⟩
    unfold goods
    refine List.mem_map.mpr ⟨(g + 1).toNat, ?_, by omega⟩
    rw [List.mem_range]
    omega
theorem mem_allFrom' {k : Nat} {M : List (List Int)} (hk : ∀ r ∈ M, r.length = k) : ∀ {found : List (List Int)}, (∀ a ∈ found, (someG a).Nodup ∧ ∀ g ∈ a, -1 ≤ g ∧ g < (k : Int)) → ∀ {b : List Int}, b ∈ allFrom found M ↔ ∃ a ∈ found, ∃ c : List Int, b = a ++ c ∧ c.length = M.length ∧ (∀ g ∈ b, -1 ≤ g ∧ g < (k : Int)) ∧ (someG b).Nodup := by
  induction M with
  | nil =>
    intro found hf b
    show b ∈ found ↔ _
    constructor
    · exact fun h => ⟨b, h, [], by simp, rfl, (hf b h).2, (hf b h).1⟩
    · rintro ⟨a, ha, c, rfl, hc, _, _⟩
      have : c = [] := List.length_eq_zero_iff.mp hc
      subst this
      simpa using ha
  | cons r M ih =>
    intro found hf b
    have hr : r.length = k := hk r List.mem_cons_self
    show b ∈ allFrom (found.flatMap (ext1 r.length)) M ↔ _
    rw [ih (fun r hr => hk r (List.mem_cons_of_mem _ hr)) (found := found.flatMap (ext1 r.length)) ?_]
    · constructor
      · rintro ⟨a, ha, c, rfl, hc, h1, h2⟩
        obtain ⟨a0, h0, h3⟩ := List.mem_flatMap.mp ha
        obtain ⟨g, g1, g2, g3, rfl⟩ := mem_ext1.mp h3
        exact ⟨a0, h0, g :: c, by simp, by simp [hc], h1, h2⟩
      · rintro ⟨a, ha, c, rfl, hc, h1, h2⟩
        cases c with
        | nil => simp at hc
        | cons g c =>
          refine ⟨a ++ [g], List.mem_flatMap.mpr ⟨a, ha, mem_ext1.mpr ⟨g, ?_, ?_, ?_, rfl⟩⟩, c, by simp, by simpa using hc, h1, h2⟩
          · exact (h1 g (by simp)).1
          · rw [hr]; exact (h1 g (by simp)).2
          · by_cases e : g = -1
            · exact .inl e
            · refine .inr fun hga => ?_
              have := (h1 g (by simp)).1
              rw [someG_append, List.nodup_append] at h2
              exact h2.2.2 g (mem_someG.mpr ⟨hga, by omega⟩) g (mem_someG.mpr ⟨by simp, by omega⟩) rfl
    · intro a ha
      obtain ⟨a0, h0, h3⟩ := List.mem_flatMap.mp ha
      obtain ⟨g, g1, g2, g3, rfl⟩ := mem_ext1.mp h3
      rw [hr] at g2
      refine ⟨nd_snoc (hf a0 h0).1 g3, fun x hx => ?_⟩
      rcases List.mem_append.mp hx with q | q
      · exact (hf a0 h0).2 x q
      · simp at q; subst q; exact ⟨g1, g2⟩
theorem mem_allA {M : List (List Int)} {k : Nat} (hk : ∀ r ∈ M, r.length = k) {a : List Int} : a ∈ allA M ↔ Asg M.length k a := by
  unfold allA
  rw [mem_allFrom' hk (found := [[]]) (by intro a ha; simp at ha; subst ha; simp [someG])]
  constructor
  · rintro ⟨a0, h0, c, rfl, hc, h1, h2⟩
    simp at h0
    subst h0
    exact ⟨by simpa using hc, h1, h2⟩
  · rintro ⟨h1, h2, h3⟩
    exact ⟨[], by simp, a, by simp, h1, h2, h3⟩
theorem IsM.mem_allA {M : List (List Int)} (h : IsM M) {a : List Int} : a ∈ allA M ↔ Asg M.length (wid M) a := G9.mem_allA h.row
theorem IsM.mem_bests {M : List (List Int)} (h : IsM M) {a : List Int} : a ∈ bests M ↔ Asg M.length (wid M) a ∧ tot M a = best M := by
  rw [bests_eq, List.mem_filter, h.mem_allA, decide_eq_true_iff]
/-! ### lists in order -/
theorem sorted_ext {α : Type} {lt : α → α → Prop} (irr : ∀ a, ¬ lt a a) (asy : ∀ a b, lt a b → ¬ lt b a) : ∀ {l l' : List α}, l.Pairwise lt → l'.Pairwise lt → (∀ x, x ∈ l ↔ x ∈ l') → l = l'
  | [], [], _, _, _ => rfl
  | [], y :: t, _, _, h => by have := (h y).mpr List.mem_cons_self; simp at this
  | x :: r, [], _, _, h => by have := (h x).mp List.mem_cons_self; simp at this
  | x :: r, y :: t, h1, h2, h => by
    rw [List.pairwise_cons] at h1 h2
    have e : x = y := by
      rcases List.mem_cons.mp ((h x).mp List.mem_cons_self) with e | e
      · exact e
      · rcases List.mem_cons.mp ((h y).mpr List.mem_cons_self) with e' | e'
        · exact e'.symm
        · exact absurd (h1.1 y e') (asy _ _ (h2.1 x e))
    subst e
    have ih := sorted_ext irr asy h1.2 h2.2 fun z => by
      constructor
      · intro hz
        rcases List.mem_cons.mp ((h z).mp (List.mem_cons_of_mem _ hz)) with rfl | q
        · exact absurd (h1.1 z hz) (irr z)
        · exact q
      · intro hz
        rcases List.mem_cons.mp ((h z).mpr (List.mem_cons_of_mem _ hz)) with rfl | q
        · exact absurd (h2.1 z hz) (irr z)
        · exact q
    rw [ih]
/-- pairs from the left -/
def ltQ (p q : Int × Int) : Prop := p.1 < q.1 ∨ (p.1 = q.1 ∧ p.2 < q.2)
theorem ltQ_irr (a : Int × Int) : ¬ ltQ a a := by unfold ltQ; omega
theorem ltQ_asy (a b : Int × Int) (h : ltQ a b) : ¬ ltQ b a := by unfold ltQ at *; omega
theorem ltQ_tr {a b c : Int × Int} (h : ltQ a b) (h' : ltQ b c) : ltQ a c := by unfold ltQ at *; omega
theorem ltQ_tot {a b : Int × Int} (h : a ≠ b) : ltQ a b ∨ ltQ b a := by
  unfold ltQ
  by_cases c : a.1 = b.1
  · by_cases c2 : a.2 = b.2
    · exact absurd (Prod.ext c c2) h
    · omega
  · omega
theorem ltP_q {a b : Int × Int} : ltP (pairP a) (pairP b) = true ↔ ltQ a b := by
  obtain ⟨a, a'⟩ := a
  obtain ⟨b, b'⟩ := b
  simp only [pairP, ltP, ltPs, eqP, ltQ]
  by_cases c : a = b
  · subst c
    by_cases c2 : a' = b' <;> simp [c2]
  · simp [c]
def insQ (x : Int × Int) : List (Int × Int) → List (Int × Int)
  | [] => [x]
  | y :: r => if ltP (pairP y) (pairP x) = true then y :: insQ x r else x :: y :: r
def sortQ : List (Int × Int) → List (Int × Int)
  | [] => []
  | x :: r => insQ x (sortQ r)
theorem ins_map (x : Int × Int) : ∀ l : List (Int × Int), ins (pairP x) (l.map pairP) = (insQ x l).map pairP
  | [] => rfl
  | y :: r => by
    rw [List.map_cons, ins, insQ]
    split
    · rw [ins_map x r, List.map_cons]
    · simp
theorem sortP_map : ∀ l : List (Int × Int), sortP (l.map pairP) = (sortQ l).map pairP
  | [] => rfl
  | x :: r => by rw [List.map_cons, sortP, sortP_map r, ins_map, sortQ]
theorem mem_insQ {x y : Int × Int} : ∀ {l : List (Int × Int)}, y ∈ insQ x l ↔ y = x ∨ y ∈ l
  | [] => by simp [insQ]
  | z :: r => by
    rw [insQ]
    split
    · rw [List.mem_cons, mem_insQ, List.mem_cons]
      constructor
      · rintro (h | h | h)
        · exact .inr (.inl h)
        · exact .inl h
        · exact .inr (.inr h)
      · rintro (h | h | h)
        · exact .inr (.inl h)
        · exact .inl h
        · exact .inr (.inr h)
    · rw [List.mem_cons]
theorem mem_sortQ {y : Int × Int} : ∀ {l : List (Int × Int)}, y ∈ sortQ l ↔ y ∈ l
  | [] => by simp [sortQ]
  | x :: r => by rw [sortQ, mem_insQ, mem_sortQ, List.mem_cons]
theorem insQ_sorted {x : Int × Int} : ∀ {l : List (Int × Int)}, l.Pairwise ltQ → x ∉ l → (insQ x l).Pairwise ltQ
  | [], _, _ => by simp [insQ]
  | z :: r, h, hx => by
    rw [List.pairwise_cons] at h
    rw [List.mem_cons, not_or] at hx
    rw [insQ]
    split
    · rename_i c
      rw [List.pairwise_cons]
      refine ⟨fun y hy => ?_, insQ_sorted h.2 hx.2⟩
      rcases mem_insQ.mp hy with rfl | hy
      · exact ltP_q.mp c
      · exact h.1 y hy
    · rename_i c
      rw [ltP_q] at c
      have := (ltQ_tot hx.1).resolve_right c
      rw [List.pairwise_cons]
      refine ⟨fun y hy => ?_, List.pairwise_cons.mpr h⟩
      rcases List.mem_cons.mp hy with rfl | hy
      · exact this
      · exact ltQ_tr this (h.1 y hy)
theorem sortQ_sorted : ∀ {l : List (Int × Int)}, l.Nodup → (sortQ l).Pairwise ltQ
  | [], _ => by simp [sortQ]
  | x :: r, h => by
    rw [List.nodup_cons] at h
    rw [sortQ]
    exact insQ_sorted (sortQ_sorted h.2) fun hx => h.1 (mem_sortQ.mp hx)
/-- the pairs below m, k that p picks, in order -/
def grid (p : Nat → Nat → Bool) (m k : Nat) : List (Int × Int) := (List.range m).flatMap fun b => ((List.range k).filter (p b)).map fun g : Nat => ((b : Int), (g : Int))
theorem mem_grid {p : Nat → Nat → Bool} {m k : Nat} {q : Int × Int} : q ∈ grid p m k ↔ ∃ b g : Nat, b < m ∧ g < k ∧ p b g = true ∧ q = ((b : Int), (g : Int)) := by
  unfold grid
  simp only [List.mem_flatMap, List.mem_map, List.mem_filter, List.mem_range]
  constructor
  · rintro ⟨b, hb, g, ⟨hg, hp⟩, rfl⟩
    exact ⟨b, g, hb, hg, hp, rfl⟩
  · rintro ⟨b, g, hb, hg, hp, rfl⟩
    exact ⟨b, hb, g, ⟨hg, hp⟩, rfl⟩
theorem range_sorted (n : Nat) : (List.range n).Pairwise (· < ·) := List.pairwise_lt_range
theorem grid_sorted {p : Nat → Nat → Bool} {m k : Nat} : (grid p m k).Pairwise ltQ := by
  unfold grid
  rw [List.pairwise_flatMap]
  constructor
  · intro b hb
    rw [List.pairwise_map]
    refine ((range_sorted k).filter _).imp fun {x y} h => ?_
    have h' : x < y := h
    exact .inr ⟨rfl, by show (x : Int) < y; omega⟩
  · refine (range_sorted m).imp fun {u v} h x hx y hy => ?_
    have h' : u < v := h
    obtain ⟨g, _, rfl⟩ := List.mem_map.mp hx
    obtain ⟨g', _, rfl⟩ := List.mem_map.mp hy
    unfold ltQ
    simp only
    omega
theorem pairsA_sorted {a : List Int} : (pairsA a).Pairwise ltQ := by
  unfold pairsA
  rw [List.pairwise_filterMap]
  have : a.zipIdx.Pairwise fun p q => p.2 < q.2 := by
    rw [List.pairwise_iff_getElem]
    intro i j hi hj h
    simp
    exact h
  refine this.imp fun {p q} h x hx y hy => ?_
  split at hx
  · split at hy
    · cases hx
      cases hy
      unfold ltQ
      simp only
      omega
    · cases hy
  · cases hx
theorem mem_pairs {a : List Int} {q : Int × Int} : q ∈ pairsA a ↔ ∃ i g : Nat, a[i]? = some (g : Int) ∧ q = ((i : Int), (g : Int)) := by
  constructor
  · intro h
    obtain ⟨i, e1, e2, e3⟩ := mem_pairsA h
    obtain ⟨g, eg⟩ := Int.eq_ofNat_of_zero_le e3
    exact ⟨i, g, by rw [e2, eg], Prod.ext e1 eg⟩
  · rintro ⟨i, g, h, rfl⟩
    unfold pairsA
    refine List.mem_filterMap.mpr ⟨((g : Int), i), List.mem_zipIdx_iff_getElem?.mpr h, ?_⟩
    rw [if_pos (by omega)]
end G9

/-! text H5 -/
/-! G9.H5: more words of the walk. -/
namespace G9
open PySem (Str)
section
variable {F : FS} {ν : Nat → Nat} {ρ : Env} {S S' : Store} {n : Nat} {N : Env → Store → Prop} {T : D → Store → Prop}
/-- if ..: return False -/
theorem sat_guard {c : E} {r : List Sm} (hc : evE F c ρ S = .ok (.p (.bl false)) S') (h : (evSs F n r ρ S').sat N T) : (evSs F n (.iff c [.ret (.bl false)] [] :: r) ρ S).sat N T := by
  (rw [q_scons]; simp -failIfUnchanged only [zz, List.getElem?_cons_succ, List.getElem?_cons_zero, List.set_cons_succ, List.set_cons_zero, List.map_cons, List.map_nil, if_true, if_false, decide_true, decide_false, Bool.false_eq_true, Bool.not_true, Bool.not_false, reduceCtorEq, hc])
  exact h
theorem sat_guardL {c : E} (hc : evE F c ρ S = .ok (.p (.bl false)) S') (h : N ρ S') : (evSs F n [.iff c [.ret (.bl false)] []] ρ S).sat N T := by
  (rw [q_scons]; simp -failIfUnchanged only [zz, List.getElem?_cons_succ, List.getElem?_cons_zero, List.set_cons_succ, List.set_cons_zero, List.map_cons, List.map_nil, if_true, if_false, decide_true, decide_false, Bool.false_eq_true, Bool.not_true, Bool.not_false, reduceCtorEq, hc])
  exact h
theorem bin_mulL {xs : List P} {k : Int} (h : 0 ≤ k) (h2 : k ≤ 1000) (hl : xs.length ≤ 1000) : bin S .mul (.p (.lst xs)) (.p (.int k)) = .ok (.p (.lst (rep xs k.toNat))) S := by
  simp [bin, h, h2, hl]
theorem bin_mulT {xs : List P} {k : Int} (h : 1 ≤ k) (h2 : k ≤ 1000) (hl : xs.length ≤ 1000) (hx : xs ≠ []) : bin S .mul (.p (.tup xs)) (.p (.int k)) = .ok (.p (.tup (rep xs k.toNat))) S := by
  simp [bin, h, h2, hl, hx]
theorem bin_mulS {x : Str} {k : Int} (h : 1 ≤ k) (h2 : k ≤ 1000) (hl : x.length ≤ 1000) : bin S .mul (.p (.str x)) (.p (.int k)) = .ok (.p (.str (repS x k.toNat))) S := by
  simp [bin, h, h2, hl]
theorem rep_if {α : Type} (xs : List α) (b : Bool) : rep xs (if b = true then (1 : Int) else 0).toNat = if b = true then xs else [] := by cases b <;> simp [rep]
theorem inP_bl (b : Bool) (a : List Bool) : inP (.bl b) (a.map .bl) = decide (b ∈ a) := by
  unfold inP
  rw [List.any_map, Bool.eq_iff_iff]
  simp [eqP, List.any_eq_true]
theorem cmp_inB {b : Bool} {a : List Bool} : cmpR S .in_ (.p (.bl b)) (.p (.lst (a.map .bl))) = .ok (.p (.bl (decide (b ∈ a)))) S := by
  simp [cmpR, cmp, seqOf, shp, inP_bl]
theorem cmp_notinB {b : Bool} {a : List Bool} : cmpR S .notin (.p (.bl b)) (.p (.lst (a.map .bl))) = .ok (.p (.bl (!decide (b ∈ a)))) S := by
  simp [cmpR, cmp, seqOf, shp, inP_bl]
theorem cmp_notinRef {g : Int} {k : Nat} {a : List Int} (h : S[k]? = some (.lst (a.map .int))) : cmpR S .notin (.p (.int g)) (.ref k) = .ok (.p (.bl (!decide (g ∈ a)))) S := by
  simp [cmpR, cmp, view, h, seqOf, shp, inP_int]
theorem cmp_inRef {g : Int} {k : Nat} {a : List Int} (h : S[k]? = some (.lst (a.map .int))) : cmpR S .in_ (.p (.int g)) (.ref k) = .ok (.p (.bl (decide (g ∈ a)))) S := by
  simp [cmpR, cmp, view, h, seqOf, shp, inP_int]
theorem idx_mkt0 {M : List (List Int)} (h : IsM M) : idxR (.p (mktP M)) (.p (.int 0)) S = .ok (.p (rowP (M.headD []))) S := by
  have : 0 < M.length := h.m1
  cases M with
  | nil => simp at this
  | cons r M => exact idx_mkt (i := 0) rfl
theorem mem_row0 {M : List (List Int)} (h : IsM M) : M.headD [] ∈ M := by
  have : 0 < M.length := h.m1
  cases M with
  | nil => simp at this
  | cons r M => exact List.mem_cons_self
theorem len_row0 {M : List (List Int)} : bi S .len (.p (rowP (M.headD []))) = .ok (.p (.int (wid M))) S := len_row
theorem seq_ref {k : Nat} {xs : List P} (h : S[k]? = some (.lst xs)) : seqR (.ref k) S = .ok (some k, xs.map .p) S := by
  simp [seqR, items, h]
theorem k1r {k j : Nat} : kill1 k (some (.ref j)) = if j = k then none else some (.ref j) := id rfl
theorem list_row {a : List Int} : bi S .list (.p (rowP a)) = .ok (.p (.lst (a.map .int))) S := id rfl
theorem tuple_ints {a : List Int} : bi S .tuple (.p (.lst (a.map .int))) = .ok (.p (rowP a)) S := id rfl
theorem seq_row {a : List Int} : seqR (.p (rowP a)) S = .ok (none, (a.map .int).map .p) S := id rfl
theorem seq_mkt {M : List (List Int)} : seqR (.p (mktP M)) S = .ok (none, (M.map rowP).map .p) S := id rfl
theorem enum_row {a : List Int} : enumR (.p (rowP a)) S = .ok (none, ((a.zipIdx).map fun q => P.tup [.int q.2, .int q.1]).map D.p) S := by
  rw [rowP, z_enum_tup, enum_ints]
theorem sl_row {a : List Int} {l h : Option Int} : slR (.p (rowP a)) l h S = .ok (.p (rowP (cut a l h))) S := by
  show R.ok (D.p (.tup (cut (a.map P.int) l h))) S = _
  simp only [cut, rowP, List.length_map, List.map_take, List.map_drop]
theorem sl_mkt {M : List (List Int)} {l h : Option Int} : slR (.p (mktP M)) l h S = .ok (.p (mktP (cut M l h))) S := by
  show R.ok (D.p (.tup (cut (M.map rowP) l h))) S = _
  simp only [cut, mktP, List.length_map, List.map_take, List.map_drop]
theorem bin_rows {a b : List Int} (h : a.length + b.length ≤ LIM) : bin S .add (.p (rowP a)) (.p (rowP b)) = .ok (.p (rowP (a ++ b))) S := by
  rw [rowP, rowP, bin_tup (by simpa using h), rowP, List.map_append]
theorem bin_mkts {a b : List (List Int)} (h : a.length + b.length ≤ LIM) : bin S .add (.p (mktP a)) (.p (mktP b)) = .ok (.p (mktP (a ++ b))) S := by
  rw [mktP, mktP, bin_tup (by simpa using h), mktP, List.map_append]
theorem one_row {g : Int} : P.tup [.int g] = rowP [g] := id rfl
theorem one_mkt {r : List Int} : P.tup [rowP r] = mktP [r] := id rfl
theorem lenset_ints {a : List Int} (h : a.length ≤ 60) : bi S .lenset (.p (.lst (a.map .int))) = .ok (.p (.int (dedup a).length)) S := by simp [bi, seqOf, h]
theorem lenset_row {a : List Int} (h : a.length ≤ 60) : bi S .lenset (.p (rowP a)) = .ok (.p (.int (dedup a).length)) S := by simp [bi, rowP, seqOf, h]
/-- a comprehension over a list that stands in a cell -/
theorem beq_refl : (∀ x : P, beqP x x = true) ∧ ∀ xs : List P, beqPs xs xs = true := by
  have key : ∀ n, (∀ x : P, sizeOf x < n → beqP x x = true) ∧ ∀ xs : List P, sizeOf xs < n → beqPs xs xs = true := by
    intro n
    induction n with
    | zero => exact ⟨fun x h => absurd h (by omega), fun x h => absurd h (by omega)⟩
    | succ n ih =>
      constructor
      · intro x h
        cases x with
        | tup xs => rw [beqP]; exact ih.2 xs (by simp at h; omega)
        | lst xs => rw [beqP]; exact ih.2 xs (by simp at h; omega)
        | _ => simp [beqP]
      · intro xs h
        cases xs with
        | nil => rw [beqPs]
        | cons x r =>
          rw [beqPs, ih.1 x (by simp at h; omega), ih.2 r (by simp at h; omega)]
          rfl
  exact ⟨fun x => (key _).1 x (Nat.lt_succ_self _), fun x => (key _).2 x (Nat.lt_succ_self _)⟩
theorem lc_filR {α : Type} {own : List (Str × Nat)} {tg : Tg} {e : E} {c elt : E} {xs : List α} {k : Nat} (enc : α → P) (p : α → Bool) (g : α → P) (hi : evE F e ρ S = .ok (.ref k) S) (hk : S[k]? = some (.lst (xs.map enc))) (hd : xs.length ≤ LIM) (h : ∀ x ∈ xs, lcQ F tg (some c) elt (wipeE ρ own) (.p (enc x)) S = if p x = true then .ok (some (g x)) S else .ok none S) : evE F (.lc own tg (.seq e) (some c) elt) ρ S = .ok (.p (.lst ((xs.filter p).map g))) S := by
  rw [q_lc, q_seq, hi, R.bind_ok, seq_ref hk, R.bind_ok]
  have key : ∀ l : List α, (∀ x ∈ l, lcQ F tg (some c) elt (wipeE ρ own) (.p (enc x)) S = if p x = true then .ok (some (g x)) S else .ok none S) → comp (some k) (lcQ F tg (some c) elt (wipeE ρ own)) ((l.map enc).map .p) S = .ok ((l.filter p).map g) S := by
    intro l hl
    induction l with
    | nil => rw [List.map_nil, List.map_nil, comp]; rfl
    | cons x r ih =>
      rw [List.map_cons, List.map_cons, comp, hl x List.mem_cons_self, List.filter_cons]
      have st : still (some k) S S = true := by simp only [still, hk, beq_refl.2]
      by_cases c : p x = true
      · simp only [c, if_true, R.calm, R.bind_ok, st]
        rw [ih fun y hy => hl y (List.mem_cons_of_mem _ hy)]
        rfl
      · simp only [c, Bool.false_eq_true, if_false, R.calm, R.bind_ok, st, if_true]
        rw [ih fun y hy => hl y (List.mem_cons_of_mem _ hy)]
        rfl
  rw [key xs h, R.bind_ok, if_pos]
  rw [List.length_map]
  exact Nat.le_trans (List.length_filter_le ..) hd
end
end G9

/-! text K02 -/
/-! G9.K02: the law k02. -/
namespace G9
open PySem (Str)
theorem best_snoc {M : List (List Int)} {r : List Int} (h : IsM M) (h5 : M.length ≠ 5) (hr : RowOk (wid M) r) : best M ≤ best (M ++ [r]) := by
  cases e : bests M with
  | nil => exact absurd e h.bne
  | cons a l =>
    have ha := h.mem_bests.mp (by rw [e]; exact List.mem_cons_self : a ∈ bests M)
    have h2 : Mkt (M ++ [r]) (M.length + 1) (wid M) := Mkt.snoc h h5 hr
    have ha2 : a ++ [-1] ∈ allA (M ++ [r]) := by
      rw [mem_allA h2.row]
      refine ⟨by simp [ha.1.len], fun g hg => ?_, nd_snoc ha.1.nd (.inl rfl)⟩
      rcases List.mem_append.mp hg with q | q
      · exact ha.1.rng g q
      · simp at q; subst q; omega
    have := le_best ha2
    rw [tot_snoc ha.1.len.symm, if_neg (by omega), Int.add_zero, ha.2] at this
    exact this
/-- possible pairs, in order -/
theorem poss_eq {M : List (List Int)} (h : IsM M) : sortP ((possK M).map pairP) = (grid (fun b g => decide (true ∈ (bests M).map fun a => decide (a[b]? = some (g : Int)))) M.length (wid M)).map pairP := by
  rw [sortP_map]
  congr 1
  refine sorted_ext ltQ_irr ltQ_asy (sortQ_sorted nodup_possK) grid_sorted fun q => ?_
  rw [mem_sortQ, mem_possK, mem_grid]
  simp only [decide_eq_true_iff, List.mem_map]
  constructor
  · rintro ⟨a, ha, hq⟩
    obtain ⟨i, g, e, rfl⟩ := mem_pairs.mp hq
    have ha' := (h.mem_bests.mp ha).1
    have hi : i < a.length := (List.getElem?_eq_some_iff.mp e).1
    have := ha'.rng _ (List.mem_of_getElem? e)
    exact ⟨i, g, by rw [← ha'.len]; exact hi, by omega, ⟨a, ha, e⟩, rfl⟩
  · rintro ⟨b, g, hb, hg, ⟨a, ha, e⟩, rfl⟩
    exact ⟨a, ha, mem_pairs.mpr ⟨b, g, e, rfl⟩⟩
theorem sure_eq {M : List (List Int)} (h : IsM M) : sureL M = grid (fun b g => !decide (false ∈ (bests M).map fun a => decide (a[b]? = some (g : Int)))) M.length (wid M) := by
  refine sorted_ext ltQ_irr ltQ_asy (pairsA_sorted.filter _) grid_sorted fun q => ?_
  cases e : bests M with
  | nil => exact absurd e h.bne
  | cons a l =>
    have ha : a ∈ bests M := by rw [e]; exact List.mem_cons_self
    have ha' := (h.mem_bests.mp ha).1
    rw [← e, mem_grid, sureL, List.mem_filter, e, List.headD_cons, ← e, mem_pairs]
    simp only [Bool.not_eq_true', decide_eq_false_iff_not, List.mem_map, List.all_eq_true, decide_eq_true_iff, not_exists, not_and]
    constructor
    · rintro ⟨⟨i, g, hg, rfl⟩, hall⟩
      have hi : i < a.length := (List.getElem?_eq_some_iff.mp hg).1
      have := ha'.rng _ (List.mem_of_getElem? hg)
      refine ⟨i, g, by rw [← ha'.len]; exact hi, by omega, fun b hb hf => ?_, rfl⟩
      have := hall b hb
      simp only [Int.toNat_natCast] at this
      simp [this] at hf
    · rintro ⟨b, g, hb, hg, hall, rfl⟩
      have key : ∀ c ∈ bests M, c[b]? = some (g : Int) := fun c hc => by
        have := hall c hc
        simpa using this
      exact ⟨⟨b, g, key a ha, rfl⟩, fun c hc => by simpa using key c hc⟩
theorem spoil_eq {m k : Nat} {a : List Int} (h : a.length = m) : asgB m k a = (decide ((dedup (a.filter fun g => !decide (g = -1))).length = (a.filter fun g => !decide (g = -1)).length) && ((a.filter fun g => !decide (g = -1)).filter fun g => !(decide (0 ≤ g) && decide (g < (k : Int)))).isEmpty) := by
  rw [Bool.eq_iff_iff, asgB_iff, Bool.and_eq_true, decide_eq_true_iff, dedup_iff, List.isEmpty_iff, List.filter_eq_nil_iff]
  have key : (∀ g ∈ a, -1 ≤ g ∧ g < (k : Int)) → (a.filter fun g => !decide (g = -1)) = someG a := fun hr => by
    unfold someG
    refine List.filter_congr fun x hx => ?_
    have := hr x hx
    by_cases c : x = -1 <;> simp [c]; omega
  constructor
  · rintro ⟨h1, h2, h3⟩
    rw [key h2]
    refine ⟨h3, fun g hg => ?_⟩
    have := mem_someG.mp hg
    have := h2 g this.1
    simp
    omega
  · rintro ⟨h1, h2⟩
    have hr : ∀ g ∈ a, -1 ≤ g ∧ g < (k : Int) := fun g hg => by
      by_cases c : g = -1
      · omega
      · have := h2 g (List.mem_filter.mpr ⟨hg, by simp [c]⟩)
        simp at this
        omega
    rw [key hr] at h1
    exact ⟨h, hr, h1⟩
theorem grid_snoc {p : Nat → Nat → Bool} {m k : Nat} : grid p (m + 1) k = grid p m k ++ ((List.range k).filter (p m)).map fun g : Nat => ((m : Int), (g : Int)) := by
  unfold grid
  rw [List.range_succ, flat_snoc]
section
variable {F : FS} {ν : Nat → Nat}
theorem law_k02 (hTown : SpTown (F (ν 74))) (hd : SpDraw (F (ν 75))) (hp : SpPick (F (ν 76))) (hm : SpMarket (F (ν 80))) (hlb : SpLBest (F (ν 87))) (hlt : SpTotalOf (F (ν 86))) (hbt : SpBestTotal (F (ν 14))) (hba : SpBestAsg (F (ν 15))) (ht : SpTotal (F (ν 11))) (hia : SpIsAssignment (F (ν 8))) (hbe : SpBetter (F (ν 16))) (hpo : SpPossible (F (ν 19))) (hsu : SpSurePairs (F (ν 18))) (hwb : SpWithBuyer (F (ν 68))) (ns : List Int) (hns : ns.length ≤ 63) : (runFd F (d_law_k02 ν) [.scr ns] []).sat fun d _ => d = .p (.bl true) := by
  refine r_law_k02 ?_
  simp only [List.length_nil, List.nil_append]
  (rw [q_scons]; simp -failIfUnchanged only [zz, List.getElem?_cons_succ, List.getElem?_cons_zero, List.set_cons_succ, List.set_cons_zero, List.map_cons, List.map_nil, if_true, if_false, decide_true, decide_false, Bool.false_eq_true, Bool.not_true, Bool.not_false, reduceCtorEq, s_law_k02_0, n_law_k02, hTown ns _ hns])
  rw [new_lst (by simp)]
  simp -failIfUnchanged only [zz, List.getElem?_cons_succ, List.getElem?_cons_zero, List.set_cons_succ, List.set_cons_zero, List.map_cons, List.map_nil, if_true, if_false, decide_true, decide_false, Bool.false_eq_true, Bool.not_true, Bool.not_false, reduceCtorEq, Nat.add_zero, Nat.zero_add]
  generalize eC : Cell.lst (P.int 0 :: ns.map P.int) = c0
  have t0 : TwC ns c0 0 := by rw [← eC]; exact tw_town
  (rw [q_scons]; simp -failIfUnchanged only [zz, List.getElem?_cons_succ, List.getElem?_cons_zero, List.set_cons_succ, List.set_cons_zero, List.map_cons, List.map_nil, if_true, if_false, decide_true, decide_false, Bool.false_eq_true, Bool.not_true, Bool.not_false, reduceCtorEq, s_law_k02_1])
  refine draw_then hd (c := c0) (b := 0) (by rfl) t0 (by omega) (by omega) (by omega) fun r0 c1 a1 a2 t1 => ?_
  simp -failIfUnchanged only [zz, List.getElem?_cons_succ, List.getElem?_cons_zero, List.set_cons_succ, List.set_cons_zero, List.map_cons, List.map_nil, if_true, if_false, decide_true, decide_false, Bool.false_eq_true, Bool.not_true, Bool.not_false, reduceCtorEq]
  refine R.sat_then (hm ns _ 0 c1 1 5 (4 + r0) (by rfl) t1 (by omega) (by omega) (by omega) (by omega) (by omega)) ?_
  rintro d S' ⟨M, c2, rfl, rfl, hM, hM5, hk5, t2⟩
  have hkk := hM.k5
  have hmm := hM.m5
  have hk1 := hM.k1
  have hm1 := hM.m1
  simp -failIfUnchanged only [zz, List.getElem?_cons_succ, List.getElem?_cons_zero, List.set_cons_succ, List.set_cons_zero, List.map_cons, List.map_nil, if_true, if_false, decide_true, decide_false, Bool.false_eq_true, Bool.not_true, Bool.not_false, reduceCtorEq]
  (rw [q_scons]; simp -failIfUnchanged only [zz, List.getElem?_cons_succ, List.getElem?_cons_zero, List.set_cons_succ, List.set_cons_zero, List.map_cons, List.map_nil, if_true, if_false, decide_true, decide_false, Bool.false_eq_true, Bool.not_true, Bool.not_false, reduceCtorEq, s_law_k02_2, len_mkt, idx_mkt0 hM, len_row0])
  (rw [q_scons]; simp -failIfUnchanged only [zz, List.getElem?_cons_succ, List.getElem?_cons_zero, List.set_cons_succ, List.set_cons_zero, List.map_cons, List.map_nil, if_true, if_false, decide_true, decide_false, Bool.false_eq_true, Bool.not_true, Bool.not_false, reduceCtorEq, s_law_k02_3, fun S => hlb M S hM])
  obtain ⟨b0, bs, eb⟩ : ∃ b0 bs, bests M = b0 :: bs := by
    cases e : bests M with
    | nil => exact absurd e hM.bne
    | cons a l => exact ⟨a, l, rfl⟩
  have b0m : b0 ∈ bests M := by rw [eb]; exact List.mem_cons_self
  have b0a := hM.mem_bests.mp b0m
  have i0 : ∀ S, idxR (.p (.lst ((bests M).map rowP))) (.p (.int 0)) S = .ok (.p (rowP b0)) S := fun S => idx_natL (i := 0) (by rw [eb]; rfl)
  have lt0 : ∀ S, F (ν 86) [.p (mktP M), .p (rowP b0)] S = .ok (.p (.int (best M))) S := fun S => by
    rw [hlt M b0 S (by omega) (fits_all (hM.mem_allA.mpr b0a.1)), b0a.2]
  (rw [q_scons]; simp -failIfUnchanged only [zz, List.getElem?_cons_succ, List.getElem?_cons_zero, List.set_cons_succ, List.set_cons_zero, List.map_cons, List.map_nil, if_true, if_false, decide_true, decide_false, Bool.false_eq_true, Bool.not_true, Bool.not_false, reduceCtorEq, s_law_k02_4, i0, lt0])
  refine sat_guard (by (simp -failIfUnchanged only [zz, List.getElem?_cons_succ, List.getElem?_cons_zero, List.set_cons_succ, List.set_cons_zero, List.map_cons, List.map_nil, if_true, if_false, decide_true, decide_false, Bool.false_eq_true, Bool.not_true, Bool.not_false, reduceCtorEq, fun S => hbt M _ _ S hM, fun S => hba M _ _ S hM, cmp_neTR] <;> rfl)) ?_
  (rw [q_scons]; simp -failIfUnchanged only [zz, List.getElem?_cons_succ, List.getElem?_cons_zero, List.set_cons_succ, List.set_cons_zero, List.map_cons, List.map_nil, if_true, if_false, decide_true, decide_false, Bool.false_eq_true, Bool.not_true, Bool.not_false, reduceCtorEq, s_law_k02_6])
  rw [new_lst (by simp)]
  simp -failIfUnchanged only [zz, List.getElem?_cons_succ, List.getElem?_cons_zero, List.set_cons_succ, List.set_cons_zero, List.map_cons, List.map_nil, if_true, if_false, decide_true, decide_false, Bool.false_eq_true, Bool.not_true, Bool.not_false, reduceCtorEq, Nat.add_zero, Nat.zero_add]
  refine sat_cons (fun ρ S' => ∃ (o6 o16 : Option D) (a : List Int) (c' : Cell), ρ = n_law_k02 (script_ := some (.scr ns)) (town_ := some (.ref 0)) (market_ := some (.p (mktP M))) (best_ := some (.p (.lst ((bests M).map rowP)))) (most_ := some (.p (.int (best M)))) (got_ := some (.ref 1)) (k_ := o6) (many_ := some (.p (.int M.length))) (size_ := some (.p (.int (wid M)))) (left_ := o16) ∧ S' = [c', .lst (a.map .int), .nil] ∧ a.length = M.length ∧ (∀ g ∈ a, -1 ≤ g ∧ g < (wid M : Int)) ∧ (someG a).Nodup ∧ TwC ns c' 200) (sat_rng (k := M.length) (fun i ρ S' => ∃ (o6 o16 : Option D) (a : List Int) (c' : Cell), ρ = n_law_k02 (script_ := some (.scr ns)) (town_ := some (.ref 0)) (market_ := some (.p (mktP M))) (best_ := some (.p (.lst ((bests M).map rowP)))) (most_ := some (.p (.int (best M)))) (got_ := some (.ref 1)) (k_ := o6) (many_ := some (.p (.int M.length))) (size_ := some (.p (.int (wid M)))) (left_ := o16) ∧ S' = [c', .lst (a.map .int), .nil] ∧ a.length = i ∧ (∀ g ∈ a, -1 ≤ g ∧ g < (wid M : Int)) ∧ (someG a).Nodup ∧ TwC ns c' (101 + i)) (by (simp -failIfUnchanged only [zz, List.getElem?_cons_succ, List.getElem?_cons_zero, List.set_cons_succ, List.set_cons_zero, List.map_cons, List.map_nil, if_true, if_false, decide_true, decide_false, Bool.false_eq_true, Bool.not_true, Bool.not_false, reduceCtorEq] <;> rfl)) (by omega) ⟨_, _, [], c2, rfl, rfl, rfl, by simp, by simp [someG], t2⟩ ?_ ?_) ?_
  · rintro i hi ρ S' ⟨o6, o16, a, c', rfl, rfl, hl, hr, hnd, ht'⟩
    rw [q_scons, s_law_k02_7_0, q_asg, lc_fil (xs := List.range (wid M)) (fun g : Nat => P.int g) (fun g => !decide ((g : Int) ∈ a)) (fun g => .int g) (rng0 (by (simp -failIfUnchanged only [zz, List.getElem?_cons_succ, List.getElem?_cons_zero, List.set_cons_succ, List.set_cons_zero, List.map_cons, List.map_nil, if_true, if_false, decide_true, decide_false, Bool.false_eq_true, Bool.not_true, Bool.not_false, reduceCtorEq, n_law_k02] <;> rfl)) (by omega)) (by simp [LIM]; omega) (fun g hg => by (simp only [lcQ, bindT, setAll, wipeE, turnR, List.map_cons, List.map_nil]; simp -failIfUnchanged only [zz, List.getElem?_cons_succ, List.getElem?_cons_zero, List.set_cons_succ, List.set_cons_zero, List.map_cons, List.map_nil, if_true, if_false, decide_true, decide_false, Bool.false_eq_true, Bool.not_true, Bool.not_false, reduceCtorEq, n_law_k02, cmp_notinRef (S := [c', .lst (a.map .int), .nil]) (k := 1) rfl]))]
    simp -failIfUnchanged only [zz, List.getElem?_cons_succ, List.getElem?_cons_zero, List.set_cons_succ, List.set_cons_zero, List.map_cons, List.map_nil, if_true, if_false, decide_true, decide_false, Bool.false_eq_true, Bool.not_true, Bool.not_false, reduceCtorEq, n_law_k02]
    refine sat_last ?_
    have hlen := List.length_filter_le (fun g : Nat => !decide ((g : Int) ∈ a)) (List.range (wid M))
    rw [List.length_range] at hlen
    have bl : ∀ S, bin S .add (.p (.lst (((List.range (wid M)).filter (fun g : Nat => !decide ((g : Int) ∈ a))).map fun g : Nat => .int g))) (.p (.lst [.int (-1)])) = .ok (.p (.lst ((((List.range (wid M)).filter (fun g : Nat => !decide ((g : Int) ∈ a))).map fun g : Nat => .int g) ++ [.int (-1)]))) S := fun S => bin_lst (by simp [LIM]; omega)
    simp -failIfUnchanged only [zz, List.getElem?_cons_succ, List.getElem?_cons_zero, List.set_cons_succ, List.set_cons_zero, List.map_cons, List.map_nil, if_true, if_false, decide_true, decide_false, Bool.false_eq_true, Bool.not_true, Bool.not_false, reduceCtorEq, s_law_k02_7_1, isL_ref (S := [c', .lst (a.map .int), .nil]) (k := 1) rfl, bl]
    refine pick_then hp (c := c') (b := 101 + i) rfl ht' (by omega) (by simp) (by simp; omega) fun x c'' hx t' => ?_
    simp -failIfUnchanged only [zz, List.getElem?_cons_succ, List.getElem?_cons_zero, List.set_cons_succ, List.set_cons_zero, List.map_cons, List.map_nil, if_true, if_false, decide_true, decide_false, Bool.false_eq_true, Bool.not_true, Bool.not_false, reduceCtorEq]
    obtain ⟨g, rfl, hg⟩ : ∃ g, x = .int g ∧ (-1 ≤ g ∧ g < (wid M : Int)) ∧ (g = -1 ∨ g ∉ a) := by
      rcases List.mem_append.mp hx with q | q
      · obtain ⟨g, hg, rfl⟩ := List.mem_map.mp q
        have := List.mem_filter.mp hg
        rw [List.mem_range] at this
        exact ⟨g, rfl, by omega, .inr (by simpa using this.2)⟩
      · simp at q
        exact ⟨-1, q, by omega, .inl rfl⟩
    rw [app_ref (S := [c'', .lst (a.map .int), .nil]) (k := 1) (xs := a.map .int) rfl (by simp [LIM]; omega), z_sat_nx]
    rw [show (a.map P.int ++ [.int g]) = (a ++ [g]).map P.int by simp]
    exact ⟨_, _, a ++ [g], c'', rfl, rfl, by simp [hl], fun y hy => by
      rcases List.mem_append.mp hy with q | q
      · exact hr y q
      · simp at q; subst q; exact hg.1, nd_snoc hnd hg.2, t'⟩
  · rintro ρ S' ⟨o6, o16, a, c', h1, h2, hl, hr, hnd, ht'⟩
    exact ⟨o6, o16, a, c', h1, h2, hl, hr, hnd, ht'.mono (by omega)⟩
  · rintro ρ S' ⟨o6, o16, a, c', rfl, rfl, hl, hr, hnd, t3⟩
    have aA : Asg M.length (wid M) a := ⟨hl, hr, hnd⟩
    have aB := asgB_iff.mpr aA
    (rw [q_scons]; simp -failIfUnchanged only [zz, List.getElem?_cons_succ, List.getElem?_cons_zero, List.set_cons_succ, List.set_cons_zero, List.map_cons, List.map_nil, if_true, if_false, decide_true, decide_false, Bool.false_eq_true, Bool.not_true, Bool.not_false, reduceCtorEq, s_law_k02_8, n_law_k02, tuple_ref (S := [c', .lst (a.map .int), .nil]) (k := 1) (xs := a.map .int) rfl])
    rw [show P.tup (a.map P.int) = rowP a from rfl]
    have lta : ∀ S, F (ν 86) [.p (mktP M), .p (rowP a)] S = .ok (.p (.int (tot M a))) S := fun S => hlt M a S (by omega) (fits_all (hM.mem_allA.mpr aA))
    have isa : ∀ S, F (ν 8) [.p (mktP M), .p (rowP a)] S = .ok (.p (.bl true)) S := fun S => by
      rw [hia M _ _ (rowP a) S hM (sz_row (by omega)), isAsg_row, aB]
    refine sat_guard (by (simp -failIfUnchanged only [zz, List.getElem?_cons_succ, List.getElem?_cons_zero, List.set_cons_succ, List.set_cons_zero, List.map_cons, List.map_nil, if_true, if_false, decide_true, decide_false, Bool.false_eq_true, Bool.not_true, Bool.not_false, reduceCtorEq, lta, isa, fun S => ht M _ _ a S hM aB] <;> rfl)) ?_
    refine sat_guard (S' := [c', .lst (a.map .int), .nil]) (by
      simp -failIfUnchanged only [zz, List.getElem?_cons_succ, List.getElem?_cons_zero, List.set_cons_succ, List.set_cons_zero, List.map_cons, List.map_nil, if_true, if_false, decide_true, decide_false, Bool.false_eq_true, Bool.not_true, Bool.not_false, reduceCtorEq, lta, fun S => hbe M _ _ a S hM aB, i0]
      rw [eb, List.headD_cons]
      by_cases c : tot M a < best M
      · simp -failIfUnchanged only [zz, List.getElem?_cons_succ, List.getElem?_cons_zero, List.set_cons_succ, List.set_cons_zero, List.map_cons, List.map_nil, if_true, if_false, decide_true, decide_false, Bool.false_eq_true, Bool.not_true, Bool.not_false, reduceCtorEq, c, cmp_neRow]
      · simp -failIfUnchanged only [zz, List.getElem?_cons_succ, List.getElem?_cons_zero, List.set_cons_succ, List.set_cons_zero, List.map_cons, List.map_nil, if_true, if_false, decide_true, decide_false, Bool.false_eq_true, Bool.not_true, Bool.not_false, reduceCtorEq, c]
        rfl) ?_
    (rw [q_scons]; simp -failIfUnchanged only [zz, List.getElem?_cons_succ, List.getElem?_cons_zero, List.set_cons_succ, List.set_cons_zero, List.map_cons, List.map_nil, if_true, if_false, decide_true, decide_false, Bool.false_eq_true, Bool.not_true, Bool.not_false, reduceCtorEq, s_law_k02_11])
    generalize ep : (fun (b g : Nat) => decide (true ∈ (bests M).map fun a => decide (a[b]? = some (g : Int)))) = pp
    generalize eq : (fun (b g : Nat) => !decide (false ∈ (bests M).map fun a => decide (a[b]? = some (g : Int)))) = qq
    have gl : ∀ (p : Nat → Nat → Bool) i, i ≤ M.length → (grid p i (wid M)).length ≤ 25 := fun p i hi => by
      have : ∀ i, i ≤ M.length → (grid p i (wid M)).length ≤ i * 5 := by
        intro i
        induction i with
        | zero => intro _; simp [grid]
        | succ i ih =>
          intro hi
          rw [grid_snoc, List.length_append, List.length_map]
          have h1 := ih (by omega)
          have h2 := List.length_filter_le (p i) (List.range (wid M))
          rw [List.length_range] at h2
          omega
      have := this i hi
      omega
    refine sat_cons _ (sat_rng (k := M.length) (fun i ρ S' => ∃ (o8 o19 o20 : Option D), ρ = n_law_k02 (script_ := some (.scr ns)) (town_ := some (.ref 0)) (market_ := some (.p (mktP M))) (best_ := some (.p (.lst ((bests M).map rowP)))) (most_ := some (.p (.int (best M)))) (got_ := some (.ref 1)) (k_ := o6) (some_ := some (.p (rowP a))) (many_ := some (.p (.int M.length))) (size_ := some (.p (.int (wid M)))) (left_ := o16) (buyer_ := o8) (pairs_ := some (.p (.lst ((grid pp i (wid M)).map pairP)))) (sure_ := some (.p (.lst ((grid qq i (wid M)).map pairP)))) (good_ := o19) (seen_ := o20) ∧ S' = [c', .lst (a.map .int), .nil]) (by (simp -failIfUnchanged only [zz, List.getElem?_cons_succ, List.getElem?_cons_zero, List.set_cons_succ, List.set_cons_zero, List.map_cons, List.map_nil, if_true, if_false, decide_true, decide_false, Bool.false_eq_true, Bool.not_true, Bool.not_false, reduceCtorEq] <;> rfl)) (by omega) ⟨_, _, _, rfl, rfl⟩ ?_ fun ρ S' h => h) ?_
    · rintro b hb ρ S' ⟨o8, o19, o20, rfl, rfl⟩
      refine sat_last ?_
      refine sat_rng (k := wid M) (fun j ρ S' => ∃ (o19 o20 : Option D), ρ = n_law_k02 (script_ := some (.scr ns)) (town_ := some (.ref 0)) (market_ := some (.p (mktP M))) (best_ := some (.p (.lst ((bests M).map rowP)))) (most_ := some (.p (.int (best M)))) (got_ := some (.ref 1)) (k_ := o6) (some_ := some (.p (rowP a))) (many_ := some (.p (.int M.length))) (size_ := some (.p (.int (wid M)))) (left_ := o16) (buyer_ := some (.p (.int b))) (pairs_ := some (.p (.lst ((grid pp b (wid M) ++ ((List.range j).filter (pp b)).map fun g : Nat => ((b : Int), (g : Int))).map pairP)))) (sure_ := some (.p (.lst ((grid qq b (wid M) ++ ((List.range j).filter (qq b)).map fun g : Nat => ((b : Int), (g : Int))).map pairP)))) (good_ := o19) (seen_ := o20) ∧ S' = [c', .lst (a.map .int), .nil]) (by (simp -failIfUnchanged only [zz, List.getElem?_cons_succ, List.getElem?_cons_zero, List.set_cons_succ, List.set_cons_zero, List.map_cons, List.map_nil, if_true, if_false, decide_true, decide_false, Bool.false_eq_true, Bool.not_true, Bool.not_false, reduceCtorEq, n_law_k02] <;> rfl)) (by omega) ⟨_, _, by simp -failIfUnchanged only [zz, List.getElem?_cons_succ, List.getElem?_cons_zero, List.set_cons_succ, List.set_cons_zero, List.map_cons, List.map_nil, if_true, if_false, decide_true, decide_false, Bool.false_eq_true, Bool.not_true, Bool.not_false, reduceCtorEq, n_law_k02, List.range_zero, List.filter_nil, List.append_nil]; rfl, rfl⟩ ?_ ?_
      · rintro g hg ρ S' ⟨o19, o20, rfl, rfl⟩
        have gp := gl pp b (by omega)
        have gq := gl qq b (by omega)
        have lp := List.length_filter_le (pp b) (List.range g)
        have lq := List.length_filter_le (qq b) (List.range g)
        rw [List.length_range] at lp lq
        generalize eP : grid pp b (wid M) ++ ((List.range g).filter (pp b)).map (fun g : Nat => ((b : Int), (g : Int))) = Ps
        generalize eQ : grid qq b (wid M) ++ ((List.range g).filter (qq b)).map (fun g : Nat => ((b : Int), (g : Int))) = Qs
        have lP : Ps.length ≤ 100 := by rw [← eP, List.length_append, List.length_map]; omega
        have lQ : Qs.length ≤ 100 := by rw [← eQ, List.length_append, List.length_map]; omega
        have hbl : (bests M).length ≤ 7776 := Nat.le_trans (by rw [bests_eq]; exact List.length_filter_le ..) (allA_len hM)
        rw [q_scons, s_law_k02_12_0_0, q_asg, lc_map (xs := bests M) rowP (fun x => .bl (decide (x[b]? = some (g : Int)))) (by (simp -failIfUnchanged only [zz, List.getElem?_cons_succ, List.getElem?_cons_zero, List.set_cons_succ, List.set_cons_zero, List.map_cons, List.map_nil, if_true, if_false, decide_true, decide_false, Bool.false_eq_true, Bool.not_true, Bool.not_false, reduceCtorEq, n_law_k02] <;> rfl)) (lim6 (by omega)) (fun x hx => by
          have hxl : b < x.length := by rw [(hM.mem_bests.mp hx).1.len]; exact hb
          (simp only [lcQ, bindT, setAll, wipeE, turnR, List.map_cons, List.map_nil]; simp -failIfUnchanged only [zz, List.getElem?_cons_succ, List.getElem?_cons_zero, List.set_cons_succ, List.set_cons_zero, List.map_cons, List.map_nil, if_true, if_false, decide_true, decide_false, Bool.false_eq_true, Bool.not_true, Bool.not_false, reduceCtorEq, n_law_k02, idx_row (List.getElem?_eq_getElem hxl)])
          rw [List.getElem?_eq_getElem hxl]
          simp)]
        rw [show ((bests M).map fun x => P.bl (decide (x[b]? = some (g : Int)))) = ((bests M).map fun x => decide (x[b]? = some (g : Int))).map P.bl by simp [Function.comp_def]]
        simp -failIfUnchanged only [zz, List.getElem?_cons_succ, List.getElem?_cons_zero, List.set_cons_succ, List.set_cons_zero, List.map_cons, List.map_nil, if_true, if_false, decide_true, decide_false, Bool.false_eq_true, Bool.not_true, Bool.not_false, reduceCtorEq, n_law_k02]
        (rw [q_scons]; simp -failIfUnchanged only [zz, List.getElem?_cons_succ, List.getElem?_cons_zero, List.set_cons_succ, List.set_cons_zero, List.map_cons, List.map_nil, if_true, if_false, decide_true, decide_false, Bool.false_eq_true, Bool.not_true, Bool.not_false, reduceCtorEq, s_law_k02_12_0_1, cmp_inB])
        rw [bin_mulL (by split <;> omega) (by split <;> omega) (by simp), rep_if]
        simp -failIfUnchanged only [zz, List.getElem?_cons_succ, List.getElem?_cons_zero, List.set_cons_succ, List.set_cons_zero, List.map_cons, List.map_nil, if_true, if_false, decide_true, decide_false, Bool.false_eq_true, Bool.not_true, Bool.not_false, reduceCtorEq]
        rw [bin_lst (by
          rw [List.length_map]
          split <;> simp [LIM] <;> omega)]
        simp -failIfUnchanged only [zz, List.getElem?_cons_succ, List.getElem?_cons_zero, List.set_cons_succ, List.set_cons_zero, List.map_cons, List.map_nil, if_true, if_false, decide_true, decide_false, Bool.false_eq_true, Bool.not_true, Bool.not_false, reduceCtorEq]
        refine sat_last ?_
        simp -failIfUnchanged only [zz, List.getElem?_cons_succ, List.getElem?_cons_zero, List.set_cons_succ, List.set_cons_zero, List.map_cons, List.map_nil, if_true, if_false, decide_true, decide_false, Bool.false_eq_true, Bool.not_true, Bool.not_false, reduceCtorEq, s_law_k02_12_0_2, cmp_notinB]
        rw [bin_mulL (by split <;> omega) (by split <;> omega) (by simp), rep_if]
        simp -failIfUnchanged only [zz, List.getElem?_cons_succ, List.getElem?_cons_zero, List.set_cons_succ, List.set_cons_zero, List.map_cons, List.map_nil, if_true, if_false, decide_true, decide_false, Bool.false_eq_true, Bool.not_true, Bool.not_false, reduceCtorEq]
        rw [bin_lst (by
          rw [List.length_map]
          split <;> simp [LIM] <;> omega)]
        simp -failIfUnchanged only [zz, List.getElem?_cons_succ, List.getElem?_cons_zero, List.set_cons_succ, List.set_cons_zero, List.map_cons, List.map_nil, if_true, if_false, decide_true, decide_false, Bool.false_eq_true, Bool.not_true, Bool.not_false, reduceCtorEq]
        have stp : ∀ (p : Nat → Nat → Bool) (Xs : List (Int × Int)), grid p b (wid M) ++ ((List.range g).filter (p b)).map (fun g : Nat => ((b : Int), (g : Int))) = Xs → (Xs.map pairP ++ if p b g = true then [P.tup [.int b, .int g]] else []) = (grid p b (wid M) ++ ((List.range (g + 1)).filter (p b)).map fun g : Nat => ((b : Int), (g : Int))).map pairP := by
          rintro p _ rfl
          rw [List.range_succ, List.filter_append]
          by_cases c : p b g = true
          · simp [c, pairP]
          · simp [c]
        have s1 := stp pp Ps eP
        have s2 := stp qq Qs eQ
        rw [← ep] at s1
        rw [← eq] at s2
        rw [s1, s2, ep, eq]
        exact ⟨_, _, rfl, trivial⟩
      · rintro ρ S' ⟨o19, o20, rfl, rfl⟩
        rw [← grid_snoc, ← grid_snoc]
        exact ⟨_, _, _, rfl, rfl⟩
    · rintro ρ S' ⟨o8, o19, o20, rfl, rfl⟩
      refine sat_guard (S' := [c', .lst (a.map .int), .nil]) (by
        have po : ∀ S, F (ν 19) [.p (mktP M)] S = .ok (.p (.tup ((grid pp M.length (wid M)).map pairP))) S := fun S => by rw [hpo M _ _ S hM, poss_eq hM, ep]
        have su : ∀ S, F (ν 18) [.p (mktP M)] S = .ok (.p (.tup ((grid qq M.length (wid M)).map pairP))) S := fun S => by rw [hsu M _ _ S hM, sure_eq hM, eq]
        simp -failIfUnchanged only [zz, List.getElem?_cons_succ, List.getElem?_cons_zero, List.set_cons_succ, List.set_cons_zero, List.map_cons, List.map_nil, if_true, if_false, decide_true, decide_false, Bool.false_eq_true, Bool.not_true, Bool.not_false, reduceCtorEq, n_law_k02, po, su, cmp_neTP]) ?_
      (rw [q_scons]; simp -failIfUnchanged only [zz, List.getElem?_cons_succ, List.getElem?_cons_zero, List.set_cons_succ, List.set_cons_zero, List.map_cons, List.map_nil, if_true, if_false, decide_true, decide_false, Bool.false_eq_true, Bool.not_true, Bool.not_false, reduceCtorEq, s_law_k02_14, n_law_k02, list_row])
      rw [new_lst (by simp)]
      simp -failIfUnchanged only [zz, List.getElem?_cons_succ, List.getElem?_cons_zero, List.set_cons_succ, List.set_cons_zero, List.map_cons, List.map_nil, if_true, if_false, decide_true, decide_false, Bool.false_eq_true, Bool.not_true, Bool.not_false, reduceCtorEq, Nat.add_zero, Nat.zero_add, k1r]
      (rw [q_scons]; simp -failIfUnchanged only [zz, List.getElem?_cons_succ, List.getElem?_cons_zero, List.set_cons_succ, List.set_cons_zero, List.map_cons, List.map_nil, if_true, if_false, decide_true, decide_false, Bool.false_eq_true, Bool.not_true, Bool.not_false, reduceCtorEq, s_law_k02_15])
      refine draw_then hd (c := c') (b := 200) (by rfl) t3 (by omega) (by omega) (by omega) fun r1 c3 a3 a4 t4 => ?_
      obtain ⟨q1, rfl⟩ := Int.eq_ofNat_of_zero_le a3
      simp -failIfUnchanged only [zz, List.getElem?_cons_succ, List.getElem?_cons_zero, List.set_cons_succ, List.set_cons_zero, List.map_cons, List.map_nil, if_true, if_false, decide_true, decide_false, Bool.false_eq_true, Bool.not_true, Bool.not_false, reduceCtorEq]
      (rw [q_scons]; simp -failIfUnchanged only [zz, List.getElem?_cons_succ, List.getElem?_cons_zero, List.set_cons_succ, List.set_cons_zero, List.map_cons, List.map_nil, if_true, if_false, decide_true, decide_false, Bool.false_eq_true, Bool.not_true, Bool.not_false, reduceCtorEq, s_law_k02_16])
      refine draw_then hd (c := c3) (b := 201) (by rfl) t4 (by omega) (by omega) (by omega) fun r2 c4 a5 a6 t5 => ?_
      simp -failIfUnchanged only [zz, List.getElem?_cons_succ, List.getElem?_cons_zero, List.set_cons_succ, List.set_cons_zero, List.map_cons, List.map_nil, if_true, if_false, decide_true, decide_false, Bool.false_eq_true, Bool.not_true, Bool.not_false, reduceCtorEq]
      rw [setix_ref (S := [c4, .lst (a.map .int), .lst (a.map .int)]) (k := 2) (xs := a.map .int) rfl (by simp; omega), ← List.map_set]
      generalize esp : a.set q1 (r2 - 2) = sp
      have lsp : sp.length = M.length := by rw [← esp, List.length_set, hl]
      simp -failIfUnchanged only [zz, List.getElem?_cons_succ, List.getElem?_cons_zero, List.set_cons_succ, List.set_cons_zero, List.map_cons, List.map_nil, if_true, if_false, decide_true, decide_false, Bool.false_eq_true, Bool.not_true, Bool.not_false, reduceCtorEq]
      rw [q_scons, s_law_k02_17, q_asg, lc_filR (xs := sp) (k := 2) P.int (fun g => !decide (g = -1)) P.int (by simp -failIfUnchanged only [zz, List.getElem?_cons_succ, List.getElem?_cons_zero, List.set_cons_succ, List.set_cons_zero, List.map_cons, List.map_nil, if_true, if_false, decide_true, decide_false, Bool.false_eq_true, Bool.not_true, Bool.not_false, reduceCtorEq]) (by rfl) (lim6 (by omega)) (fun g hg => by (simp only [lcQ, bindT, setAll, wipeE, turnR, List.map_cons, List.map_nil]; simp -failIfUnchanged only [zz, List.getElem?_cons_succ, List.getElem?_cons_zero, List.set_cons_succ, List.set_cons_zero, List.map_cons, List.map_nil, if_true, if_false, decide_true, decide_false, Bool.false_eq_true, Bool.not_true, Bool.not_false, reduceCtorEq]))]
      generalize eh : (sp.filter fun g => !decide (g = -1)) = held
      have lh : held.length ≤ 5 := by rw [← eh]; exact Nat.le_trans (List.length_filter_le ..) (by omega)
      simp -failIfUnchanged only [zz, List.getElem?_cons_succ, List.getElem?_cons_zero, List.set_cons_succ, List.set_cons_zero, List.map_cons, List.map_nil, if_true, if_false, decide_true, decide_false, Bool.false_eq_true, Bool.not_true, Bool.not_false, reduceCtorEq]
      rw [q_scons, s_law_k02_18, q_asg]
      have dd : ∀ (e : E) (ρ : Env) (S : Store), evE F e ρ S = .ok (.p (.lst ((held.filter fun g => !(decide (0 ≤ g) && decide (g < (wid M : Int)))).map .int))) S → ρ[11]? = some (some (.p (.lst (held.map .int)))) → evE F (.and (.cmp .eq (.bi .lenset (.v 11 (PySem.Str.ofString "held"))) (.bi .len (.v 11 (PySem.Str.ofString "held")))) (.cmp .eq e (.lst []))) ρ S = .ok (.p (.bl (asgB M.length (wid M) sp))) S := by
        intro e ρ S he h11
        rw [spoil_eq lsp, eh]
        simp -failIfUnchanged only [zz, List.getElem?_cons_succ, List.getElem?_cons_zero, List.set_cons_succ, List.set_cons_zero, List.map_cons, List.map_nil, if_true, if_false, decide_true, decide_false, Bool.false_eq_true, Bool.not_true, Bool.not_false, reduceCtorEq, h11, lenset_ints (show held.length ≤ 60 by omega), List.length_map, he, cmp_eqL0 shp_ints_l]
        by_cases c : (dedup held).length = held.length
        · simp only [c, decide_true, if_true, Bool.true_and]
          rw [List.isEmpty_map]
        · have c' : ¬ ((dedup held).length : Int) = held.length := by omega
          simp only [c, c', decide_false, Bool.false_and, Bool.false_eq_true, if_false]
      rw [dd _ _ _ (lc_fil (xs := held) P.int (fun g => !(decide (0 ≤ g) && decide (g < (wid M : Int)))) P.int (by simp -failIfUnchanged only [zz, List.getElem?_cons_succ, List.getElem?_cons_zero, List.set_cons_succ, List.set_cons_zero, List.map_cons, List.map_nil, if_true, if_false, decide_true, decide_false, Bool.false_eq_true, Bool.not_true, Bool.not_false, reduceCtorEq]) (lim6 (by omega)) (fun g hg => by
        (simp only [lcQ, bindT, setAll, wipeE, turnR, List.map_cons, List.map_nil]; simp -failIfUnchanged only [zz, List.getElem?_cons_succ, List.getElem?_cons_zero, List.set_cons_succ, List.set_cons_zero, List.map_cons, List.map_nil, if_true, if_false, decide_true, decide_false, Bool.false_eq_true, Bool.not_true, Bool.not_false, reduceCtorEq])
        by_cases c1 : 0 ≤ g
        · by_cases c2 : g < (wid M : Int) <;> simp [c1, c2, onB]
        · simp [c1, onB])) rfl]
      simp -failIfUnchanged only [zz, List.getElem?_cons_succ, List.getElem?_cons_zero, List.set_cons_succ, List.set_cons_zero, List.map_cons, List.map_nil, if_true, if_false, decide_true, decide_false, Bool.false_eq_true, Bool.not_true, Bool.not_false, reduceCtorEq]
      refine sat_guard (S' := [c4, .lst (a.map .int), .lst (sp.map .int)]) (by
        simp -failIfUnchanged only [zz, List.getElem?_cons_succ, List.getElem?_cons_zero, List.set_cons_succ, List.set_cons_zero, List.map_cons, List.map_nil, if_true, if_false, decide_true, decide_false, Bool.false_eq_true, Bool.not_true, Bool.not_false, reduceCtorEq, tuple_ref (S := [c4, .lst (a.map .int), .lst (sp.map .int)]) (k := 2) (xs := sp.map .int) rfl]
        rw [show P.tup (sp.map P.int) = rowP sp from rfl, hia M _ _ (rowP sp) _ hM (sz_row (by omega)), isAsg_row]
        simp -failIfUnchanged only [zz, List.getElem?_cons_succ, List.getElem?_cons_zero, List.set_cons_succ, List.set_cons_zero, List.map_cons, List.map_nil, if_true, if_false, decide_true, decide_false, Bool.false_eq_true, Bool.not_true, Bool.not_false, reduceCtorEq]) ?_
      have bm : ∀ x S, bin S .mul (.p (.tup [x])) (.p (.int M.length)) = .ok (.p (.tup (rep [x] M.length))) S := fun x S => by
        rw [bin_mulT (by omega) (by omega) (by simp) (by simp), Int.toNat_natCast]
      have bs' : ∀ S, bin S .mul (.p (.str (PySem.Str.ofString "0"))) (.p (.int M.length)) = .ok (.p (.str (repS (PySem.Str.ofString "0") M.length))) S := fun S => by
        rw [bin_mulS (by omega) (by omega) (by decide), Int.toNat_natCast]
      have ba : ∀ S, bin S .add (.p (rowP a)) (.p (rowP [-1])) = .ok (.p (rowP (a ++ [-1]))) S := fun S => bin_rows (by simp [LIM]; omega)
      have l8 : ∀ (xs : List P) S, xs.length = 8 → lstR (xs.map .p) S = .ok (.p (.lst xs)) S := fun xs S h => lstR_map (by simp [LIM, h])
      (rw [q_scons]; simp -failIfUnchanged only [zz, List.getElem?_cons_succ, List.getElem?_cons_zero, List.set_cons_succ, List.set_cons_zero, List.map_cons, List.map_nil, if_true, if_false, decide_true, decide_false, Bool.false_eq_true, Bool.not_true, Bool.not_false, reduceCtorEq, s_law_k02_20, list_row, one_row, ba, sl_row, bm, bs'])
      rw [show ∀ (x1 x2 x3 x4 x5 x6 x7 x8 : P), [D.p x1, D.p x2, D.p x3, D.p x4, D.p x5, D.p x6, D.p x7, D.p x8] = [x1, x2, x3, x4, x5, x6, x7, x8].map D.p from fun _ _ _ _ _ _ _ _ => rfl, l8 _ _ rfl]
      simp -failIfUnchanged only [zz, List.getElem?_cons_succ, List.getElem?_cons_zero, List.set_cons_succ, List.set_cons_zero, List.map_cons, List.map_nil, if_true, if_false, decide_true, decide_false, Bool.false_eq_true, Bool.not_true, Bool.not_false, reduceCtorEq]
      have falses : ∀ x ∈ [P.non, .int 5, .lst (a.map .int), rowP (a ++ [-1]), rowP (cut a (some 1) none), .tup (rep [P.non] M.length), .tup (rep [P.bl true] M.length), .str (repS (PySem.Str.ofString "0") M.length)], ∀ S, F (ν 8) [.p (mktP M), .p x] S = .ok (.p (.bl false)) S := by
        have rl : ∀ (x : P) n, (rep [x] n).length = n := fun x n => by
          induction n with
          | zero => rfl
          | succ n ih => rw [rep, List.length_append, ih]; simp; omega
        have ra : ∀ (x : P) n, (∀ i, x ≠ .int i) → 1 ≤ n → allInt (rep [x] n) = none := fun x n hx hn => by
          cases n with
          | zero => omega
          | succ n =>
            rw [rep]
            cases x with
            | int i => exact absurd rfl (hx i)
            | _ => rfl
        have rr : ∀ (y : List Int), y.length ≠ M.length → isAsg M.length (wid M) (rowP y) = false := fun y hy => by
          rw [isAsg_row]
          unfold asgB
          simp [hy]
        intro x hx S
        simp only [List.mem_cons, List.not_mem_nil, or_false] at hx
        rcases hx with rfl | rfl | rfl | rfl | rfl | rfl | rfl | rfl
        · rw [hia M _ _ _ S hM (by exact trivial)]; rfl
        · rw [hia M _ _ _ S hM (by exact trivial)]; rfl
        · rw [hia M _ _ _ S hM (by exact trivial)]; rfl
        · rw [hia M _ _ _ S hM (sz_row (by simp; omega)), rr _ (by simp; omega)]
        · rw [hia M _ _ _ S hM (sz_row (by simp [cut]; omega)), rr _ (by simp [cut, sIx]; omega)]
        · rw [hia M _ _ _ S hM (by show (rep _ _).length ≤ LIM; rw [rl]; exact lim6 (by omega)), isAsg, ra _ _ (by simp) hm1]
        · rw [hia M _ _ _ S hM (by show (rep _ _).length ≤ LIM; rw [rl]; exact lim6 (by omega)), isAsg, ra _ _ (by simp) hm1]
        · rw [hia M _ _ _ S hM (by exact trivial)]; rfl
      refine sat_guard (S' := [c4, .lst (a.map .int), .lst (sp.map .int)]) (by
        rw [q_cmp, lc_fil (xs := [P.non, .int 5, .lst (a.map .int), rowP (a ++ [-1]), rowP (cut a (some 1) none), .tup (rep [P.non] M.length), .tup (rep [P.bl true] M.length), .str (repS (PySem.Str.ofString "0") M.length)]) (fun x => x) (fun _ => false) (fun x => x) (by simp -failIfUnchanged only [zz, List.getElem?_cons_succ, List.getElem?_cons_zero, List.set_cons_succ, List.set_cons_zero, List.map_cons, List.map_nil, if_true, if_false, decide_true, decide_false, Bool.false_eq_true, Bool.not_true, Bool.not_false, reduceCtorEq, List.map_id_fun', id_eq]) (by simp [LIM]) (fun x hx => by
          (simp only [lcQ, bindT, setAll, wipeE, turnR, List.map_cons, List.map_nil]; simp -failIfUnchanged only [zz, List.getElem?_cons_succ, List.getElem?_cons_zero, List.set_cons_succ, List.set_cons_zero, List.map_cons, List.map_nil, if_true, if_false, decide_true, decide_false, Bool.false_eq_true, Bool.not_true, Bool.not_false, reduceCtorEq, falses x hx]))]
        rw [show ∀ l : List P, l.filter (fun _ => false) = [] by intro l; simp]
        simp -failIfUnchanged only [zz, List.getElem?_cons_succ, List.getElem?_cons_zero, List.set_cons_succ, List.set_cons_zero, List.map_cons, List.map_nil, if_true, if_false, decide_true, decide_false, Bool.false_eq_true, Bool.not_true, Bool.not_false, reduceCtorEq]
        rfl) ?_
      refine sat_last ?_
      have wb : M.length ≠ 5 → ∀ S, F (ν 68) [.p (mktP M), .p (rowP (M.headD []))] S = .ok (.p (mktP (M ++ [M.headD []]))) S := fun h5 S => hwb M _ _ _ S hM h5 ⟨rfl, fun x hx => hM.val _ (mem_row0 hM) x hx⟩
      simp -failIfUnchanged only [zz, List.getElem?_cons_succ, List.getElem?_cons_zero, List.set_cons_succ, List.set_cons_zero, List.map_cons, List.map_nil, if_true, if_false, decide_true, decide_false, Bool.false_eq_true, Bool.not_true, Bool.not_false, reduceCtorEq, s_law_k02_22, idx_mkt0 hM]
      by_cases c5 : M.length = 5
      · have : (M.length : Int) = 5 := by omega
        simp -failIfUnchanged only [zz, List.getElem?_cons_succ, List.getElem?_cons_zero, List.set_cons_succ, List.set_cons_zero, List.map_cons, List.map_nil, if_true, if_false, decide_true, decide_false, Bool.false_eq_true, Bool.not_true, Bool.not_false, reduceCtorEq, this]
        exact ⟨_, rfl, rfl⟩
      · have : ¬ (M.length : Int) = 5 := by omega
        have mk2 := Mkt.snoc hM c5 (r := M.headD []) ⟨rfl, fun x hx => hM.val _ (mem_row0 hM) x hx⟩
        have le := best_snoc hM c5 (r := M.headD []) ⟨rfl, fun x hx => hM.val _ (mem_row0 hM) x hx⟩
        simp -failIfUnchanged only [zz, List.getElem?_cons_succ, List.getElem?_cons_zero, List.set_cons_succ, List.set_cons_zero, List.map_cons, List.map_nil, if_true, if_false, decide_true, decide_false, Bool.false_eq_true, Bool.not_true, Bool.not_false, reduceCtorEq, this, wb c5, fun S => hbt _ _ _ S mk2, le]
        exact ⟨_, rfl, rfl⟩
end
end G9

set_option maxHeartbeats 0
namespace K02
open PySem PySem.Spec PyProof.Rows L2 G9
def νl : List (Nat × Nat) := [(0, 0), (1, 1), (2, 2), (3, 3), (6, 4), (7, 5), (8, 6), (9, 7), (10, 8), (11, 9), (12, 10), (13, 11), (14, 12), (15, 13), (16, 14), (17, 15), (18, 16), (19, 17), (68, 18), (74, 19), (75, 20), (76, 21), (80, 22), (85, 23), (86, 24), (87, 25), (88, 26), (1000, 0), (1001, 1), (1004, 2), (1006, 3), (1010, 4)]
def ν (g : Nat) : Nat := (νl.lookup g).getD 999
def top (i : Nat) : Stmt := PySem.Challenge.pw_goodprices_k02_whole_assignments.main.body.getD i (.Pass ⟨0, 0, 0, 0⟩)
def ds : List Dx := [⟨.ast (d_is_between ν), top 9⟩, ⟨.ast (d_is_row_of ν), top 10⟩, ⟨.ast (d_is_market ν), top 11⟩, ⟨.ast (d_check_market ν), top 12⟩, ⟨.ast (d_check_row ν), top 13⟩, ⟨.ast (d_is_assigned ν), top 14⟩, ⟨.ast (d_is_assignment ν), top 15⟩, ⟨.ast (d_check_assignment ν), top 16⟩, ⟨.ast (d_total_of ν), top 17⟩, ⟨.ast (d_total ν), top 18⟩, ⟨.ast (d_all_assignments ν), top 19⟩, ⟨.ast (d_found_best ν), top 20⟩, ⟨.ast (d_best_total ν), top 21⟩, ⟨.ast (d_best_assignments ν), top 22⟩, ⟨.ast (d_better ν), top 23⟩, ⟨.ast (d_pairs_of ν), top 24⟩, ⟨.ast (d_sure_pairs ν), top 25⟩, ⟨.ast (d_possible_pairs ν), top 26⟩, ⟨.ast (d_with_buyer ν), top 28⟩, ⟨.new (s "_law_town") 1 [s "script"] (.bin .add (.lst [(.int 0)]) (.bi .list (.v 0 (s "script")))), top 30⟩, ⟨.ast (d__law_draw ν), top 31⟩, ⟨.ast (d__law_pick ν), top 32⟩, ⟨.ast (d__law_market ν), top 33⟩, ⟨.ast (d__law_assignments ν), top 34⟩, ⟨.ast (d__law_total ν), top 35⟩, ⟨.ast (d__law_best ν), top 36⟩, ⟨.ast (d_law_k02 ν), top 37⟩]
def g : List (Str × Gv) := [(s "is_between", .fn 0 false), (s "is_row_of", .fn 1 false), (s "is_market", .fn 2 false), (s "check_market", .fn 3 false), (s "check_row", .fn 4 false), (s "is_assigned", .fn 5 false), (s "is_assignment", .fn 6 false), (s "check_assignment", .fn 7 false), (s "total_of", .fn 8 false), (s "total", .fn 9 false), (s "all_assignments", .fn 10 false), (s "found_best", .fn 11 false), (s "best_total", .fn 12 false), (s "best_assignments", .fn 13 false), (s "better", .fn 14 false), (s "pairs_of", .fn 15 false), (s "sure_pairs", .fn 16 false), (s "possible_pairs", .fn 17 false), (s "with_buyer", .fn 18 false), (s "_law_town", .fn 19 true), (s "_law_draw", .fn 20 false), (s "_law_pick", .fn 21 false), (s "_law_market", .fn 22 false), (s "_law_assignments", .fn 23 false), (s "_law_total", .fn 24 false), (s "_law_best", .fn 25 false), (s "law", .fn 26 false), (s "MOST", .int 5), (s "TOP", .int 20), (s "MarketError", .cls 0), (s "InvalidMarket", .cls 1), (s "InvalidAssignment", .cls 2), (s "InvalidRow", .cls 3), (s "TooMany", .cls 4), (s "all", .blt), (s "bool", .blt), (s "enumerate", .blt), (s "int", .blt), (s "isinstance", .blt), (s "len", .blt), (s "list", .blt), (s "max", .blt), (s "range", .blt), (s "set", .blt), (s "sorted", .blt), (s "sum", .blt), (s "tuple", .blt), (s "zip", .blt)]
def cs : List Str := [s "MarketError", s "InvalidMarket", s "InvalidAssignment", s "InvalidRow", s "TooMany"]
def t : Tx := ⟨ds, g, cs⟩
theorem ckg : ckG t.g t.cs t.ds = true := by decide +kernel
theorem ckd : t.ds.all (ckD t.g) = true := by decide +kernel
theorem bd_0 : BindsD (top 9) (s "is_between") := bindsD_of [s "value", s "low", s "high"] (by kernel_rfl) fun _ _ _ _ _ _ us hl => match us, hl with | [_, _, _], _ => rfl
theorem bd_1 : BindsD (top 10) (s "is_row_of") := bindsD_of [s "size", s "value"] (by kernel_rfl) fun _ _ _ _ _ _ us hl => match us, hl with | [_, _], _ => rfl
theorem bd_2 : BindsD (top 11) (s "is_market") := bindsD_of [s "value"] (by kernel_rfl) fun _ _ _ _ _ _ us hl => match us, hl with | [_], _ => rfl
theorem bd_3 : BindsD (top 12) (s "check_market") := bindsD_of [s "value"] (by kernel_rfl) fun _ _ _ _ _ _ us hl => match us, hl with | [_], _ => rfl
theorem bd_4 : BindsD (top 13) (s "check_row") := bindsD_of [s "market", s "row"] (by kernel_rfl) fun _ _ _ _ _ _ us hl => match us, hl with | [_, _], _ => rfl
theorem bd_5 : BindsD (top 14) (s "is_assigned") := bindsD_of [s "market", s "value"] (by kernel_rfl) fun _ _ _ _ _ _ us hl => match us, hl with | [_, _], _ => rfl
theorem bd_6 : BindsD (top 15) (s "is_assignment") := bindsD_of [s "market", s "value"] (by kernel_rfl) fun _ _ _ _ _ _ us hl => match us, hl with | [_, _], _ => rfl
theorem bd_7 : BindsD (top 16) (s "check_assignment") := bindsD_of [s "market", s "assignment"] (by kernel_rfl) fun _ _ _ _ _ _ us hl => match us, hl with | [_, _], _ => rfl
theorem bd_8 : BindsD (top 17) (s "total_of") := bindsD_of [s "market", s "assignment"] (by kernel_rfl) fun _ _ _ _ _ _ us hl => match us, hl with | [_, _], _ => rfl
theorem bd_9 : BindsD (top 18) (s "total") := bindsD_of [s "market", s "assignment"] (by kernel_rfl) fun _ _ _ _ _ _ us hl => match us, hl with | [_, _], _ => rfl
theorem bd_10 : BindsD (top 19) (s "all_assignments") := bindsD_of [s "market"] (by kernel_rfl) fun _ _ _ _ _ _ us hl => match us, hl with | [_], _ => rfl
theorem bd_11 : BindsD (top 20) (s "found_best") := bindsD_of [s "market"] (by kernel_rfl) fun _ _ _ _ _ _ us hl => match us, hl with | [_], _ => rfl
theorem bd_12 : BindsD (top 21) (s "best_total") := bindsD_of [s "market"] (by kernel_rfl) fun _ _ _ _ _ _ us hl => match us, hl with | [_], _ => rfl
theorem bd_13 : BindsD (top 22) (s "best_assignments") := bindsD_of [s "market"] (by kernel_rfl) fun _ _ _ _ _ _ us hl => match us, hl with | [_], _ => rfl
theorem bd_14 : BindsD (top 23) (s "better") := bindsD_of [s "market", s "assignment"] (by kernel_rfl) fun _ _ _ _ _ _ us hl => match us, hl with | [_, _], _ => rfl
theorem bd_15 : BindsD (top 24) (s "pairs_of") := bindsD_of [s "assignment"] (by kernel_rfl) fun _ _ _ _ _ _ us hl => match us, hl with | [_], _ => rfl
theorem bd_16 : BindsD (top 25) (s "sure_pairs") := bindsD_of [s "market"] (by kernel_rfl) fun _ _ _ _ _ _ us hl => match us, hl with | [_], _ => rfl
theorem bd_17 : BindsD (top 26) (s "possible_pairs") := bindsD_of [s "market"] (by kernel_rfl) fun _ _ _ _ _ _ us hl => match us, hl with | [_], _ => rfl
theorem bd_18 : BindsD (top 28) (s "with_buyer") := bindsD_of [s "market", s "row"] (by kernel_rfl) fun _ _ _ _ _ _ us hl => match us, hl with | [_, _], _ => rfl
theorem bd_19 : BindsD (top 30) (s "_law_town") := bindsD_of [s "script"] (by kernel_rfl) fun _ _ _ _ _ _ us hl => match us, hl with | [_], _ => rfl
theorem bd_20 : BindsD (top 31) (s "_law_draw") := bindsD_of [s "script", s "town", s "limit"] (by kernel_rfl) fun _ _ _ _ _ _ us hl => match us, hl with | [_, _, _], _ => rfl
theorem bd_21 : BindsD (top 32) (s "_law_pick") := bindsD_of [s "script", s "town", s "choices"] (by kernel_rfl) fun _ _ _ _ _ _ us hl => match us, hl with | [_, _, _], _ => rfl
theorem bd_22 : BindsD (top 33) (s "_law_market") := bindsD_of [s "script", s "town", s "buyers", s "goods"] (by kernel_rfl) fun _ _ _ _ _ _ us hl => match us, hl with | [_, _, _, _], _ => rfl
theorem bd_23 : BindsD (top 34) (s "_law_assignments") := bindsD_of [s "market"] (by kernel_rfl) fun _ _ _ _ _ _ us hl => match us, hl with | [_], _ => rfl
theorem bd_24 : BindsD (top 35) (s "_law_total") := bindsD_of [s "market", s "assignment"] (by kernel_rfl) fun _ _ _ _ _ _ us hl => match us, hl with | [_, _], _ => rfl
theorem bd_25 : BindsD (top 36) (s "_law_best") := bindsD_of [s "market"] (by kernel_rfl) fun _ _ _ _ _ _ us hl => match us, hl with | [_], _ => rfl
theorem bd_26 : BindsD (top 37) (s "law") := bindsD_of [s "script"] (by kernel_rfl) fun _ _ _ _ _ _ us hl => match us, hl with | [_], _ => rfl
theorem hB : ∀ d ∈ t.ds, BindsD d.st d.df.name := show ∀ d ∈ ds, BindsD d.st d.df.name from List.forall_mem_cons.mpr ⟨bd_0, List.forall_mem_cons.mpr ⟨bd_1, List.forall_mem_cons.mpr ⟨bd_2, List.forall_mem_cons.mpr ⟨bd_3, List.forall_mem_cons.mpr ⟨bd_4, List.forall_mem_cons.mpr ⟨bd_5, List.forall_mem_cons.mpr ⟨bd_6, List.forall_mem_cons.mpr ⟨bd_7, List.forall_mem_cons.mpr ⟨bd_8, List.forall_mem_cons.mpr ⟨bd_9, List.forall_mem_cons.mpr ⟨bd_10, List.forall_mem_cons.mpr ⟨bd_11, List.forall_mem_cons.mpr ⟨bd_12, List.forall_mem_cons.mpr ⟨bd_13, List.forall_mem_cons.mpr ⟨bd_14, List.forall_mem_cons.mpr ⟨bd_15, List.forall_mem_cons.mpr ⟨bd_16, List.forall_mem_cons.mpr ⟨bd_17, List.forall_mem_cons.mpr ⟨bd_18, List.forall_mem_cons.mpr ⟨bd_19, List.forall_mem_cons.mpr ⟨bd_20, List.forall_mem_cons.mpr ⟨bd_21, List.forall_mem_cons.mpr ⟨bd_22, List.forall_mem_cons.mpr ⟨bd_23, List.forall_mem_cons.mpr ⟨bd_24, List.forall_mem_cons.mpr ⟨bd_25, List.forall_mem_cons.mpr ⟨bd_26, (fun _ h => nomatch h)⟩⟩⟩⟩⟩⟩⟩⟩⟩⟩⟩⟩⟩⟩⟩⟩⟩⟩⟩⟩⟩⟩⟩⟩⟩⟩⟩
theorem hN : NatOk t PySem.Challenge.pw_goodprices_k02_whole_assignments := natOk_none (by decide +kernel)
abbrev R : PySem.W.OpenRow := PySem.W.OpenLaw.row PySem.Challenge.rw_goodprices_k02_whole_assignments
abbrev hk : PySem.W.Hook := He.hookD 4 t.fa t.fn
def ob (s : PySem.W.SharedT) : He.AlD := He.obsDG 4 t.fa t.fn (HandSHeadRun.getT s)
theorem ob_eq (s : PySem.W.SharedT) : ob s = hk.obs s.abs := He.obsDG_eq (HandSHeadRun.getT_eq s)
def ns0 : List Str := [s "MarketError", s "InvalidMarket", s "InvalidAssignment", s "InvalidRow", s "TooMany", s "MOST", s "TOP", s "is_between", s "is_row_of", s "is_market", s "check_market", s "check_row", s "is_assigned", s "is_assignment", s "check_assignment", s "total_of", s "total", s "all_assignments", s "found_best", s "best_total", s "best_assignments", s "better", s "pairs_of", s "sure_pairs", s "possible_pairs", s "with_buyer", s "_law_town", s "_law_draw", s "_law_pick", s "_law_market", s "_law_assignments", s "_law_total", s "_law_best"]
def ns : List Str := ns0
theorem run (w : World) : HandSHeadRun.RunEq R (PySem.W.view R.prog [37]) hk ob 6000 ns w := by
  intro os
  kernel_rfl
theorem sem_ast {T : List Df} {k i : Nat} {d : Fd} (h : T[i]? = some (.ast d)) : sem T (k + 1) i = runFd (sem T k) d := by funext a S; simp only [sem, h]
theorem sem_new {T : List Df} {k i np : Nat} {x : Str} {N : List Str} {c : G9.E} (h : T[i]? = some (.new x np N c)) : sem T (k + 1) i = runNew (sem T k) np N c := by funext a S; simp only [sem, h]
theorem p_19 (k : Nat) : SpTown (sem t.tb (k + 1) 19) := by
  rw [sem_new (k := k + 0) (i := 19) rfl]
  exact ok_town 
theorem p_20 (k : Nat) : SpDraw (sem t.tb (k + 1) 20) := by
  rw [sem_ast (k := k + 0) (i := 20) (d := d__law_draw ν) rfl]
  exact ok_draw (F := sem t.tb (k + 0)) (ν := ν) 
theorem p_21 (k : Nat) : SpPick (sem t.tb (k + 2) 21) := by
  rw [sem_ast (k := k + 1) (i := 21) (d := d__law_pick ν) rfl]
  exact ok_pick (F := sem t.tb (k + 1)) (ν := ν) (p_20 (k + 0))
theorem p_22 (k : Nat) : SpMarket (sem t.tb (k + 3) 22) := by
  rw [sem_ast (k := k + 2) (i := 22) (d := d__law_market ν) rfl]
  exact ok_market (F := sem t.tb (k + 2)) (ν := ν) (p_20 (k + 1)) (p_21 (k + 0))
theorem p_23 (k : Nat) : SpAllA (sem t.tb (k + 1) 23) := by
  rw [sem_ast (k := k + 0) (i := 23) (d := d__law_assignments ν) rfl]
  exact ok_lassign (F := sem t.tb (k + 0)) (ν := ν) 
theorem p_24 (k : Nat) : SpTotalOf (sem t.tb (k + 1) 24) := by
  rw [sem_ast (k := k + 0) (i := 24) (d := d__law_total ν) rfl]
  exact ok_ltotal (F := sem t.tb (k + 0)) (ν := ν) 
theorem p_25 (k : Nat) : SpLBest (sem t.tb (k + 2) 25) := by
  rw [sem_ast (k := k + 1) (i := 25) (d := d__law_best ν) rfl]
  exact ok_lbest (F := sem t.tb (k + 1)) (ν := ν) (p_23 (k + 0)) (p_24 (k + 0))
theorem p_0 (k : Nat) : SpBetween (sem t.tb (k + 1) 0) := by
  rw [sem_ast (k := k + 0) (i := 0) (d := d_is_between ν) rfl]
  exact ok_is_between (F := sem t.tb (k + 0)) (ν := ν) 
theorem p_1 (k : Nat) : SpRowOf (sem t.tb (k + 2) 1) := by
  rw [sem_ast (k := k + 1) (i := 1) (d := d_is_row_of ν) rfl]
  exact ok_is_row_of (F := sem t.tb (k + 1)) (ν := ν) (p_0 (k + 0))
theorem p_2 (k : Nat) : SpIsMarket (sem t.tb (k + 3) 2) := by
  rw [sem_ast (k := k + 2) (i := 2) (d := d_is_market ν) rfl]
  exact ok_is_market (F := sem t.tb (k + 2)) (ν := ν) (p_1 (k + 0))
theorem p_3 (k : Nat) : SpCheckMarket (sem t.tb (k + 4) 3) := by
  rw [sem_ast (k := k + 3) (i := 3) (d := d_check_market ν) rfl]
  exact ok_check_market (F := sem t.tb (k + 3)) (ν := ν) (p_2 (k + 0))
theorem p_10 (k : Nat) : SpAllA (sem t.tb (k + 1) 10) := by
  rw [sem_ast (k := k + 0) (i := 10) (d := d_all_assignments ν) rfl]
  exact ok_all_assignments (F := sem t.tb (k + 0)) (ν := ν) 
theorem p_8 (k : Nat) : SpTotalOf (sem t.tb (k + 1) 8) := by
  rw [sem_ast (k := k + 0) (i := 8) (d := d_total_of ν) rfl]
  exact ok_total_of (F := sem t.tb (k + 0)) (ν := ν) 
theorem p_11 (k : Nat) : SpFoundBest (sem t.tb (k + 2) 11) := by
  rw [sem_ast (k := k + 1) (i := 11) (d := d_found_best ν) rfl]
  exact ok_found_best (F := sem t.tb (k + 1)) (ν := ν) (p_10 (k + 0)) (p_8 (k + 0))
theorem p_12 (k : Nat) : SpBestTotal (sem t.tb (k + 5) 12) := by
  rw [sem_ast (k := k + 4) (i := 12) (d := d_best_total ν) rfl]
  exact ok_best_total (F := sem t.tb (k + 4)) (ν := ν) (p_3 (k + 0)) (p_11 (k + 2))
theorem p_13 (k : Nat) : SpBestAsg (sem t.tb (k + 5) 13) := by
  rw [sem_ast (k := k + 4) (i := 13) (d := d_best_assignments ν) rfl]
  exact ok_best_assignments (F := sem t.tb (k + 4)) (ν := ν) (p_3 (k + 0)) (p_11 (k + 2))
theorem p_5 (k : Nat) : SpIsAssigned (sem t.tb (k + 2) 5) := by
  rw [sem_ast (k := k + 1) (i := 5) (d := d_is_assigned ν) rfl]
  exact ok_is_assigned (F := sem t.tb (k + 1)) (ν := ν) (p_0 (k + 0))
theorem p_7 (k : Nat) : SpCheckAsg (sem t.tb (k + 3) 7) := by
  rw [sem_ast (k := k + 2) (i := 7) (d := d_check_assignment ν) rfl]
  exact ok_check_assignment (F := sem t.tb (k + 2)) (ν := ν) (p_5 (k + 0))
theorem p_9 (k : Nat) : SpTotal (sem t.tb (k + 5) 9) := by
  rw [sem_ast (k := k + 4) (i := 9) (d := d_total ν) rfl]
  exact ok_total (F := sem t.tb (k + 4)) (ν := ν) (p_3 (k + 0)) (p_7 (k + 1)) (p_8 (k + 3))
theorem p_6 (k : Nat) : SpIsAssignment (sem t.tb (k + 5) 6) := by
  rw [sem_ast (k := k + 4) (i := 6) (d := d_is_assignment ν) rfl]
  exact ok_is_assignment (F := sem t.tb (k + 4)) (ν := ν) (p_3 (k + 0)) (p_5 (k + 2))
theorem p_14 (k : Nat) : SpBetter (sem t.tb (k + 5) 14) := by
  rw [sem_ast (k := k + 4) (i := 14) (d := d_better ν) rfl]
  exact ok_better (F := sem t.tb (k + 4)) (ν := ν) (p_3 (k + 0)) (p_7 (k + 1)) (p_8 (k + 3)) (p_11 (k + 2))
theorem p_15 (k : Nat) : SpPairsOf (sem t.tb (k + 1) 15) := by
  rw [sem_ast (k := k + 0) (i := 15) (d := d_pairs_of ν) rfl]
  exact ok_pairs_of (F := sem t.tb (k + 0)) (ν := ν) 
theorem p_17 (k : Nat) : SpPossible (sem t.tb (k + 5) 17) := by
  rw [sem_ast (k := k + 4) (i := 17) (d := d_possible_pairs ν) rfl]
  exact ok_possible_pairs (F := sem t.tb (k + 4)) (ν := ν) (p_3 (k + 0)) (p_11 (k + 2)) (p_15 (k + 3))
theorem p_16 (k : Nat) : SpSurePairs (sem t.tb (k + 5) 16) := by
  rw [sem_ast (k := k + 4) (i := 16) (d := d_sure_pairs ν) rfl]
  exact ok_sure_pairs (F := sem t.tb (k + 4)) (ν := ν) (p_3 (k + 0)) (p_11 (k + 2)) (p_15 (k + 3))
theorem p_4 (k : Nat) : SpCheckRow (sem t.tb (k + 3) 4) := by
  rw [sem_ast (k := k + 2) (i := 4) (d := d_check_row ν) rfl]
  exact ok_check_row (F := sem t.tb (k + 2)) (ν := ν) (p_1 (k + 0))
theorem p_18 (k : Nat) : SpWithBuyer (sem t.tb (k + 5) 18) := by
  rw [sem_ast (k := k + 4) (i := 18) (d := d_with_buyer ν) rfl]
  exact ok_with_buyer (F := sem t.tb (k + 4)) (ν := ν) (p_3 (k + 0)) (p_4 (k + 1))
theorem pl (ns : List Int) (h : ns.length ≤ 63) : ∃ S, sem t.tb 12 26 [.scr ns] [] = .ok (.p (.bl true)) S := by
  obtain ⟨d, S, e, rfl⟩ := R.sat_elim (law_k02 (F := sem t.tb 11) (ν := ν) (p_19 10) (p_20 10) (p_21 9) (p_22 8) (p_25 9) (p_24 10) (p_12 6) (p_13 6) (p_9 6) (p_6 6) (p_14 6) (p_17 6) (p_16 6) (p_18 6) ns h)
  refine ⟨S, ?_⟩
  rw [sem_ast (k := 11) (i := 26) (d := d_law_k02 ν) rfl]
  exact e
end K02
open PySem PySem.W PySem.Calls PyProof.Rows in
theorem PySem.Challenge.cw_goodprices_k02_whole_assignments_holds : PySem.Challenge.rw_goodprices_k02_whole_assignments.Holds := by
  w_on; o_law
  refine HandSHeadRun.head_any (r := OpenLaw.row PySem.Challenge.rw_goodprices_k02_whole_assignments) (q := view (OpenLaw.row PySem.Challenge.rw_goodprices_k02_whole_assignments).prog [37]) (H := K02.hk) (ob := K02.ob) (M := 6000) (loose := K02.ns) (d := HandSHeadRun.topDef (OpenLaw.row PySem.Challenge.rw_goodprices_k02_whole_assignments).prog 37) (kwd := []) K02.ob_eq
    (by kernel_rfl) (fun s => by kernel_rfl) K02.run (by kernel_rfl) (by kernel_rfl) (by kernel_rfl) (by rfl) (by first | assumption | decide +kernel) (by decide +kernel) ⟨rfl, rfl, rfl, rfl, rfl, by decide +kernel⟩ ?hw ?hc
  case hw => w_witness2
  case hc =>
    refine L2.walk_ofE (l := PySem.Challenge.rw_goodprices_k02_whole_assignments) (n := 63) (k := 12) (x := PySem.Str.ofString "script") (CX := L2.CX0) rfl (by decide) (by kernel_rfl) ⟨rfl, by decide, by decide⟩ ?F (fun _ _ _ _ z => z)
    intro w mg fa h Y G hmg0
    obtain ⟨K, KX, c⟩ := Y
    have hmg : mg (PySem.Str.ofString "law") = some (.ref fa) := by
      have e : (HandSHeadRun.topDef (OpenLaw.row PySem.Challenge.rw_goodprices_k02_whole_assignments).prog 37).name = PySem.Str.ofString "law" := by kernel_rfl
      rw [← e]
      exact hmg0
    obtain ⟨fd, sp, h1, h2, h3⟩ := G9.Tx.law (t := K02.t) (P := (PySem.Challenge.rw_goodprices_k02_whole_assignments).prog) (w := w) (i := 26) K02.ckd K02.ckg K02.hB K02.hN KX G hmg c rfl rfl rfl (by kernel_rfl) (by kernel_rfl) (by decide) K02.pl
    exact ⟨K, fd, sp, KX, h1, h2, h3⟩
