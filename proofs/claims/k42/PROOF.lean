import PyProof.Rows.All
import Wide.All
import OpenK.AllK
import Wide.FinOn
import HandS.ForMost
import HandS.ForExc
import HandS.CallSlots
import HandS.Wide
import HandS.TupAny
import HandS.TupLe
import HandS.Style
import HandS.Deep
import HandS.IsInst
import HandS.SortRule
import KE.DataFind
import HandS.Zip
import HandS.Defaults
import HandS.HeadHook2
import HandS.Head2
import HandS.HeadEnd
import PySem.Challenge.RW_arenarules_k42_whole_both_ends
set_option Elab.async false
set_option linter.all false
set_option autoImplicit false
namespace Mini
inductive Ty where
  | int | bool | str | tuple | list
  deriving DecidableEq, Inhabited
inductive D where
  | non
  | bl (b : Bool)
  | int (i : Int)
  | str (s : List Nat)
  | tup (xs : List D)
  | lst (xs : List D)
  | scr (ns : List Int)
  | dct (ks vs : List D)
  | obj (n : Nat)
  | fn (f : Nat)
  | cls (c : Nat)
  | ty (t : Ty)
  deriving Inhabited
inductive MO where
  | lst (xs : List D)
  | dct (ks vs : List D)
  | ins (c : Nat) (fs : List (Nat × D))
  deriving Inhabited
abbrev MH := List MO
abbrev Sl := List (Option D)
def D.pure : D → Bool
  | .non => true
  | .bl _ => true
  | .int _ => true
  | .str _ => true
  | .tup xs => pureL xs
  | .lst xs => pureL xs
  | .scr _ => true
  | .dct ks vs => pureL ks && pureL vs
  | .obj _ => false
  | .fn _ => true
  | .cls _ => true
  | .ty _ => true
where pureL : List D → Bool
  | [] => true
  | x :: xs => D.pure x && pureL xs
def D.eqv : D → D → Bool
  | .non, .non => true
  | .bl a, .bl b => a == b
  | .bl a, .int j => decide ((if a then 1 else 0 : Int) = j)
  | .int i, .bl b => decide (i = (if b then 1 else 0 : Int))
  | .int i, .int j => decide (i = j)
  | .str a, .str b => decide (a = b)
  | .tup xs, .tup ys => eqvL xs ys
  | .lst xs, .lst ys => eqvL xs ys
  | _, _ => false
where eqvL : List D → List D → Bool
  | [], [] => true
  | x :: xs, y :: ys => D.eqv x y && eqvL xs ys
  | _, _ => false
def D.isDat : D → Bool
  | .non => true
  | .bl _ => true
  | .int _ => true
  | .str _ => true
  | .tup xs => datL xs
  | .lst xs => datL xs
  | _ => false
where datL : List D → Bool
  | [] => true
  | x :: xs => D.isDat x && datL xs
def ltS : List Nat → List Nat → Bool
  | [], [] => false
  | [], _ :: _ => true
  | _ :: _, [] => false
  | x :: xs, y :: ys => if x = y then ltS xs ys else decide (x < y)
def D.lt : D → D → Option Bool
  | .int i, .int j => some (decide (i < j))
  | .str a, .str b => some (ltS a b)
  | .tup xs, .tup ys => ltL xs ys
  | .lst xs, .lst ys => ltL xs ys
  | _, _ => none
where ltL : List D → List D → Option Bool
  | [], [] => some false
  | [], _ :: _ => some true
  | _ :: _, [] => some false
  | x :: xs, y :: ys => if D.eqv x y then ltL xs ys else D.lt x y
def ltP (p q : Int × Int) : Bool := if p.1 = q.1 then decide (p.2 < q.2) else decide (p.1 < q.1)
def insP (x : Int × Int) : List (Int × Int) → List (Int × Int)
  | [] => [x]
  | y :: ys => if ltP y x then y :: insP x ys else x :: y :: ys
def sortP : List (Int × Int) → List (Int × Int)
  | [] => []
  | x :: xs => insP x (sortP xs)
def insI (x : Int) : List Int → List Int
  | [] => [x]
  | y :: ys => if y < x then y :: insI x ys else x :: y :: ys
def sortI : List Int → List Int
  | [] => []
  | x :: xs => insI x (sortI xs)
def intsOf : List D → Option (List Int)
  | [] => some []
  | .int i :: r => (intsOf r).map (i :: ·)
  | _ => none
def pairsOf : List D → Option (List (Int × Int))
  | [] => some []
  | .tup [.int a, .int b] :: r => (pairsOf r).map ((a, b) :: ·)
  | _ => none
def pairD (p : Int × Int) : D := .tup [.int p.1, .int p.2]
def res : Nat → MH → D → Option D
  | _, _, .non => some .non
  | _, _, .bl b => some (.bl b)
  | _, _, .int i => some (.int i)
  | _, _, .str s => some (.str s)
  | _, _, .scr ns => some (.lst (ns.map .int))
  | _, _, .fn f => some (.fn f)
  | _, _, .cls c => some (.cls c)
  | _, _, .ty t => some (.ty t)
  | 0, _, _ => none
  | k + 1, M, .tup xs => (xs.mapM (res k M)).map .tup
  | k + 1, M, .lst xs => (xs.mapM (res k M)).map .lst
  | k + 1, M, .dct ks vs => (ks.mapM (res k M)).bind fun ks' => (vs.mapM (res k M)).map fun vs' => .dct ks' vs'
  | k + 1, M, .obj n => match M[n]? with
    | some (.lst xs) => (xs.mapM (res k M)).map .lst
    | some (.dct ks vs) => (ks.mapM (res k M)).bind fun ks' => (vs.mapM (res k M)).map fun vs' => .dct ks' vs'
    | _ => none
def items (M : MH) : D → Option (List D)
  | .tup xs => some xs
  | .lst xs => some xs
  | .obj n => match M[n]? with
    | some (.lst xs) => some xs
    | _ => none
  | _ => none
def lockOf : D → List Nat
  | .obj n => [n]
  | _ => []
def place? (n : Nat) (i : Int) : Option Nat :=
  if 0 ≤ i then (if i < (n : Int) then some i.toNat else none) else (if 0 ≤ i + n then some (i + n).toNat else none)
def get? {α : Type} (xs : List α) (i : Int) : Option α :=
  match place? xs.length i with
  | some j => xs[j]?
  | none => none
def clip (n : Nat) (i : Int) : Nat := if 0 ≤ i then min i.toNat n else (i + n).toNat
def cut {α : Type} (xs : List α) (lo hi : Option Int) : List α :=
  let a := match lo with | none => 0 | some i => clip xs.length i
  let b := match hi with | none => xs.length | some i => clip xs.length i
  (xs.drop a).take (b - a)
inductive R (α : Type) where
  | ok (a : α) (M : MH)
  | exc (c : Nat) (M : MH)
  | stuck
def R.bind {α β : Type} (r : R α) (f : α → MH → R β) : R β :=
  match r with
  | .ok a M => f a M
  | .exc c M => .exc c M
  | .stuck => .stuck
def R.ofOpt {α : Type} (o : Option α) (M : MH) : R α :=
  match o with
  | some a => .ok a M
  | none => .stuck
inductive RS where
  | nx (σ : Sl) (M : MH)
  | rt (d : D) (M : MH)
  | bk (σ : Sl) (M : MH)
  | ct (σ : Sl) (M : MH)
  | exc (c : Nat) (σ : Sl) (M : MH)
  | stuck
inductive Op where
  | add | sub | mul | fdiv | mod | pow
  deriving DecidableEq
inductive Cm where
  | eq | ne | lt | le | gt | ge | is | isnot | mem | nmem
  deriving DecidableEq
inductive Bf where
  | len | sum | all | any | min | max | abs | sorted | tuple | list | isinst | str | int
  deriving DecidableEq
inductive Mt where
  | append | extend | pop | remove | index | count | join | split | startswith
  deriving DecidableEq
inductive Tg where
  | one (i : Nat)
  | many (is : List Nat)
inductive ME where
  | never
  | c (d : D)
  | v (i : Nat)
  | g (i : Nat)
  | bin (o : Op) (a b : ME)
  | neg (a : ME)
  | not (a : ME)
  | cmp (o : Cm) (a b : ME)
  | chain (o p : Cm) (a b c : ME)
  | and (a b : ME)
  | or (a b : ME)
  | ife (c a b : ME)
  | nil
  | cons (a r : ME)
  | tup (as : ME)
  | lst (as : ME)
  | new (a : ME)
  | idx (a i : ME)
  | slc (a lo hi : ME)
  | rev (a : ME)
  | call (m : Bool) (f : Nat) (as : ME)
  | bf (f : Bf) (as : ME)
  | mt (m : Mt) (o as : ME)
  | it (a : ME)
  | rng (as : ME)
  | enum (a : ME)
  | zip (a b : ME)
  | comp (elt cond it : ME) (t : Tg) (own : List Nat)
  | comp2 (elt cond it2 : ME) (t2 : Tg) (it : ME) (t : Tg) (own : List Nat)
inductive MS where
  | never
  | skip
  | seq (a b : MS)
  | asg (t : Tg) (e : ME)
  | setix (o i e : ME)
  | aug (o : Op) (i : Nat) (e : ME)
  | augix (p : Op) (o i e : ME)
  | ife (c : ME) (a b : MS)
  | for_ (t : Tg) (it : ME) (b : MS)
  | while_ (c : ME) (b : MS)
  | ret (e : ME)
  | retN
  | raise (c : Nat)
  | expr (e : ME)
  | brk
  | cont
def itemsL (M : MH) : D → Option (List D)
  | .lst xs => some xs
  | .obj n => match M[n]? with
    | some (.lst xs) => some xs
    | _ => none
  | _ => none
def catD (a b : Option (List D)) (M : MH) : R D :=
  match a, b with
  | some a, some b => if a.length + b.length ≤ 10000 then .ok (.lst (a ++ b)) M else .stuck
  | _, _ => .stuck
def addD (x y : D) (M : MH) : R D :=
  match x, y with
  | .int i, .int j => .ok (.int (i + j)) M
  | .str a, .str b => if a.length + b.length ≤ 10000 then .ok (.str (a ++ b)) M else .stuck
  | .tup a, .tup b => if a.length + b.length ≤ 10000 then .ok (.tup (a ++ b)) M else .stuck
  | x, y => catD (itemsL M x) (itemsL M y) M
def mulD (x y : D) (M : MH) : R D :=
  match x, y with
  | .int i, .int j => if i.natAbs < 2 ^ 63 ∨ j.natAbs < 2 ^ 63 ∨ (i.natAbs < 2 ^ 1000 ∧ j.natAbs < 2 ^ 1000) then .ok (.int (i * j)) M else .stuck
  | .lst a, .int j => if a.length * j.toNat ≤ 10000 ∧ j.natAbs < 2 ^ 30 then .ok (.lst ((List.replicate j.toNat a).flatten)) M else .stuck
  | _, _ => .stuck
def binop (o : Op) (x y : D) (M : MH) : R D :=
  match o with
  | .add => addD x y M
  | .mul => mulD x y M
  | .sub => match x, y with
    | .int i, .int j => .ok (.int (i - j)) M
    | _, _ => .stuck
  | .fdiv => match x, y with
    | .int i, .int j => if 0 < j ∧ j < 1073741824 then .ok (.int (i / j)) M else .stuck
    | _, _ => .stuck
  | .mod => match x, y with
    | .int i, .int j => if 0 < j then .ok (.int (i % j)) M else .stuck
    | _, _ => .stuck
  | .pow => match x, y with
    | .int i, .int j => if 0 ≤ j ∧ j ≤ 1000 ∧ i.natAbs < 2 ^ 63 then .ok (.int (i ^ j.toNat)) M else .stuck
    | _, _ => .stuck
def eqM (M : MH) (x y : D) : Option Bool :=
  match res 20 M x, res 20 M y with
  | some a, some b => if a.isDat && b.isDat then some (D.eqv a b) else none
  | _, _ => none
def memS (x : D) (b : List Nat) : Option Bool :=
  match x with
  | .str [c] => some (decide (c ∈ b))
  | _ => none
def memM (M : MH) (x y : D) : Option Bool :=
  match y with
  | .str b => memS x b
  | y => match res 20 M x, res 20 M y with
    | some a, some (.lst bs) => if a.isDat && D.isDat.datL bs then some (bs.any fun b => D.eqv b a) else none
    | some a, some (.tup bs) => if a.isDat && D.isDat.datL bs then some (bs.any fun b => D.eqv b a) else none
    | _, _ => none
def cmpop (o : Cm) (x y : D) (M : MH) : Option Bool :=
  match o with
  | .eq => eqM M x y
  | .ne => (eqM M x y).map (!·)
  | .lt => match x, y with
    | .int i, .int j => some (decide (i < j))
    | _, _ => none
  | .le => match x, y with
    | .int i, .int j => some (decide (i ≤ j))
    | _, _ => none
  | .gt => match x, y with
    | .int i, .int j => some (decide (j < i))
    | _, _ => none
  | .ge => match x, y with
    | .int i, .int j => some (decide (j ≤ i))
    | _, _ => none
  | .is => match y with
    | .non => (match x with | .non => some true | _ => some false)
    | .bl b => (match x with | .bl a => some (a == b) | _ => none)
    | _ => none
  | .isnot => match y with
    | .non => (match x with | .non => some false | _ => some true)
    | .bl b => (match x with | .bl a => some (!(a == b)) | _ => none)
    | _ => none
  | .mem => memM M x y
  | .nmem => (memM M x y).map (!·)
def boolsOf : List D → Option (List Bool)
  | [] => some []
  | .bl b :: r => (boolsOf r).map (b :: ·)
  | _ => none
def minI : Int → List Int → Int
  | m, [] => m
  | m, x :: xs => minI (if x < m then x else m) xs
def maxI : Int → List Int → Int
  | m, [] => m
  | m, x :: xs => maxI (if m < x then x else m) xs
def tyIn (k t : Ty) : Bool := decide (k = t) || (decide (k = .bool) && decide (t = .int))
def kindD (M : MH) (x : D) : Option (Option Ty) :=
  match x with
  | .non => some none
  | .bl _ => some (some .bool)
  | .int _ => some (some .int)
  | .str _ => some (some .str)
  | .tup _ => some (some .tuple)
  | .lst _ => some (some .list)
  | .obj n => match M[n]? with
    | some (.lst _) => some (some .list)
    | _ => none
  | _ => none
def isTy (M : MH) (t : Ty) (x : D) : Option Bool :=
  match kindD M x with
  | some none => some false
  | some (some k) => some (tyIn k t)
  | none => none
def digits : Nat → Nat → List Nat
  | 0, _ => []
  | k + 1, n => if n < 10 then [48 + n] else digits k (n / 10) ++ [48 + n % 10]
def readN (s : List Nat) : Option Nat :=
  if s ≠ [] ∧ s.all (fun c => decide (48 ≤ c ∧ c ≤ 57)) then some (s.foldl (fun a c => a * 10 + (c - 48)) 0) else none
def oneD (as : List D) : Option D :=
  match as with
  | [x] => some x
  | _ => none
def lenD (x : D) (M : MH) : R D :=
  match x with
  | .str s => if s.length ≤ 10000 then .ok (.int s.length) M else .stuck
  | .scr ns => .ok (.int ns.length) M
  | x => R.ofOpt ((items M x).map fun xs => .int xs.length) M
def sumD (x : D) (M : MH) : R D := R.ofOpt (((itemsL M x).bind intsOf).map fun ns => .int ns.sum) M
def allD (x : D) (M : MH) : R D := R.ofOpt (((itemsL M x).bind boolsOf).map fun bs => .bl (bs.all id)) M
def anyD (x : D) (M : MH) : R D := R.ofOpt (((itemsL M x).bind boolsOf).map fun bs => .bl (bs.any id)) M
def minL : List Int → Option Int
  | [] => none
  | n :: ns => some (minI n ns)
def maxL : List Int → Option Int
  | [] => none
  | n :: ns => some (maxI n ns)
def minD (as : List D) (M : MH) : R D :=
  match as with
  | [.int i, .int j] => .ok (.int (if j < i then j else i)) M
  | as => R.ofOpt (((((oneD as).bind (itemsL M)).bind intsOf).bind minL).map .int) M
def maxD (as : List D) (M : MH) : R D :=
  match as with
  | [.int i, .int j] => .ok (.int (if j > i then j else i)) M
  | as => R.ofOpt (((((oneD as).bind (itemsL M)).bind intsOf).bind maxL).map .int) M
def absD (x : D) (M : MH) : R D :=
  match x with
  | .int i => .ok (.int (if i < 0 then -i else i)) M
  | _ => .stuck
def sortO (xs : List D) : Option (List D) :=
  match pairsOf xs with
  | some ps => some ((sortP ps).map pairD)
  | none => match intsOf xs with
    | some ns => if ns.length < 64 then some ((sortI ns).map .int) else none
    | none => none
def sortedD (x : D) (M : MH) : R D :=
  match x with
  | .tup xs => R.ofOpt ((pairsOf xs).map fun ps => .lst ((sortP ps).map pairD)) M
  | x => R.ofOpt (((itemsL M x).bind sortO).map .lst) M
def tupleD (x : D) (M : MH) : R D := R.ofOpt ((items M x).map .tup) M
def listD (x : D) (M : MH) : R D := R.ofOpt ((items M x).map .lst) M
def isinstD (as : List D) (M : MH) : R D :=
  match as with
  | [x, .ty t] => R.ofOpt ((isTy M t x).map .bl) M
  | _ => .stuck
def one1 (as : List D) (f : D → R D) : R D :=
  match as with
  | [x] => f x
  | _ => .stuck
def bfn (f : Bf) (as : List D) (M : MH) : R D :=
  match f with
  | .len => one1 as fun x => lenD x M
  | .sum => one1 as fun x => sumD x M
  | .all => one1 as fun x => allD x M
  | .any => one1 as fun x => anyD x M
  | .min => minD as M
  | .max => maxD as M
  | .abs => one1 as fun x => absD x M
  | .sorted => one1 as fun x => sortedD x M
  | .tuple => one1 as fun x => tupleD x M
  | .list => one1 as fun x => listD x M
  | .isinst => isinstD as M
  | .str => .stuck
  | .int => .stuck
structure Ctx where
  call : Bool → Nat → List D → Nat → List Nat → MH → R D
  gl : Nat → Option D
  fuel : Nat
  fl : Nat
  lk : List Nat
def Ctx.may (c : Ctx) (n : Nat) (d : D) : Bool := !c.lk.contains n && (decide (c.fl ≤ n) || d.pure)
def Ctx.lock (c : Ctx) (l : List Nat) : Ctx := { c with lk := l ++ c.lk }
def findD (M : MH) (xs : List D) (x : D) : Option Nat :=
  match res 20 M (.lst xs), res 20 M x with
  | some (.lst bs), some a => if a.isDat && D.isDat.datL bs then bs.findIdx? (fun b => D.eqv b a) else none
  | _, _ => none
def appendD (c : Ctx) (n : Nat) (xs : List D) (x : D) (M : MH) : R D :=
  if c.may n x && decide (xs.length < 100000) then .ok .non (M.set n (.lst (xs ++ [x]))) else .stuck
def extendD (c : Ctx) (n : Nat) (xs ys : List D) (M : MH) : R D :=
  if c.may n (.tup ys) && decide (xs.length + ys.length < 100000) then .ok .non (M.set n (.lst (xs ++ ys))) else .stuck
def popD (c : Ctx) (n : Nat) (xs : List D) (M : MH) : R D :=
  match xs[xs.length - 1]? with
  | some y => if c.may n .non then .ok y (M.set n (.lst xs.dropLast)) else .stuck
  | none => .stuck
def removeD (c : Ctx) (n : Nat) (xs : List D) (x : D) (M : MH) : R D :=
  match findD M xs x with
  | some k => if c.may n .non then .ok .non (M.set n (.lst (xs.eraseIdx k))) else .stuck
  | none => .stuck
def zero1 (as : List D) (r : R D) : R D :=
  match as with
  | [] => r
  | _ => .stuck
def objL (o : D) (M : MH) (f : Nat → List D → R D) : R D :=
  match o with
  | .obj n => match M[n]? with
    | some (.lst xs) => f n xs
    | _ => .stuck
  | _ => .stuck
def mth (c : Ctx) (m : Mt) (o : D) (as : List D) (M : MH) : R D :=
  match m with
  | .append => objL o M fun n xs => one1 as fun x => appendD c n xs x M
  | .extend => objL o M fun n xs => one1 as fun x => match itemsL M x with
    | some ys => extendD c n xs ys M
    | none => .stuck
  | .pop => objL o M fun n xs => zero1 as (popD c n xs M)
  | .remove => objL o M fun n xs => one1 as fun x => removeD c n xs x M
  | _ => .stuck
def asgs : List Nat → List D → Sl → Option Sl
  | [], [], σ => some σ
  | i :: is, d :: ds, σ => if i < σ.length then asgs is ds (σ.set i (some d)) else none
  | _, _, _ => none
def Tg.asg (t : Tg) (d : D) (σ : Sl) : Option Sl :=
  match t with
  | .one i => if i < σ.length then some (σ.set i (some d)) else none
  | .many is => match d with
    | .tup ds => asgs is ds σ
    | _ => none
def tgSlots : Tg → List Nat
  | .one i => [i]
  | .many is => is
def wipe (σ : Sl) : List Nat → Sl
  | [] => σ
  | i :: is => (wipe σ is).set i none
def rangeD (a : Int) (n : Nat) (s : Int) : List D := (List.range n).map fun (k : Nat) => D.int (a + (k : Int) * s)
def turns (a b s : Int) : Nat := if a < b then ((b - a + s - 1) / s).toNat else 0
def small (i : Int) : Bool := decide (-1000000000 < i ∧ i < 1000000000)
def rngD (as : List D) : Option (List D) :=
  match as with
  | [.int b] => if small b then some (rangeD 0 (turns 0 b 1) 1) else none
  | [.int a, .int b] => if small a && small b then some (rangeD a (turns a b 1) 1) else none
  | [.int a, .int b, .int s] => if small a && small b && decide (0 < s) && small s then some (rangeD a (turns a b s) s) else none
  | _ => none
def zipT : List D → List D → List D
  | x :: xs, y :: ys => .tup [x, y] :: zipT xs ys
  | _, _ => []
def enumT : Nat → List D → List D
  | _, [] => []
  | k, x :: xs => .tup [.int k, x] :: enumT (k + 1) xs
def walkD (xs : List D) (l : List Nat) : D := .dct xs (l.map fun (n : Nat) => D.int (n : Int))
def walkOf (M : MH) (d : D) : Option D :=
  match d with
  | .str s => some (walkD (s.map fun c => .str [c]) [])
  | d => (items M d).map fun xs => walkD xs (lockOf d)
def itemsT : D → Option (List D)
  | .tup xs => some xs
  | _ => none
def zipW (M : MH) (x y : D) : Option D :=
  match itemsL M x, itemsL M y with
  | some xs, some ys => some (walkD (zipT xs ys) (lockOf x ++ lockOf y))
  | _, _ => match itemsT x, itemsT y with
    | some xs, some ys => some (walkD (zipT xs ys) [])
    | _, _ => none
def locks (ls : List D) : List Nat := ls.map fun d => match d with
  | .int i => i.toNat
  | _ => 0
def compL (f : D → MH → R (Option D)) : List D → List D → MH → R (List D)
  | [], acc, M => .ok acc M
  | x :: xs, acc, M => match f x M with
    | .ok (some d) M' => compL f xs (acc ++ [d]) M'
    | .ok none M' => compL f xs acc M'
    | _ => .stuck
def compL2 (f : D → List D → MH → R (List D)) : List D → List D → MH → R (List D)
  | [], acc, M => .ok acc M
  | x :: xs, acc, M => match f x acc M with
    | .ok acc' M' => compL2 f xs acc' M'
    | _ => .stuck
def calmR {α : Type} : R α → R α
  | .ok a M => .ok a M
  | _ => .stuck
def idxD (x y : D) (M : MH) : R D :=
  match y with
  | .int k => match x with
    | .str s => if s.length ≤ 10000 then R.ofOpt ((get? s k).map fun ch => .str [ch]) M else .stuck
    | .scr ns => R.ofOpt ((get? ns k).map .int) M
    | x => R.ofOpt ((items M x).bind fun xs => get? xs k) M
  | _ => .stuck
def partD : D → Option (Option Int)
  | .non => some none
  | .int i => some (some i)
  | _ => none
def cutD (x : D) (l h : Option Int) (M : MH) : R D :=
  match x with
  | .str s => if s.length ≤ 10000 then .ok (.str (cut s l h)) M else .stuck
  | .tup xs => .ok (.tup (cut xs l h)) M
  | x => R.ofOpt ((itemsL M x).map fun xs => .lst (cut xs l h)) M
def partR (d : D) (f : Option Int → R D) : R D :=
  match partD d with
  | some o => f o
  | none => .stuck
def recvD (m : Mt) (x : D) (r : R D) : R D :=
  match m, x with
  | .append, .obj _ => r
  | .extend, .obj _ => r
  | .pop, .obj _ => r
  | .remove, .obj _ => r
  | _, _ => .stuck
def revD (x : D) (M : MH) : R D :=
  match x with
  | .tup xs => .ok (.tup xs.reverse) M
  | x => R.ofOpt ((itemsL M x).map fun xs => .lst xs.reverse) M
def negD (x : D) (M : MH) : R D :=
  match x with
  | .int i => .ok (.int (-i)) M
  | _ => .stuck
def boolD {α : Type} (x : D) (t f : R α) : R α :=
  match x with
  | .bl true => t
  | .bl false => f
  | _ => .stuck
def tupD {α : Type} (y : D) (f : List D → R α) : R α :=
  match y with
  | .tup ys => f ys
  | _ => .stuck
def newD (y : D) (M : MH) : R D :=
  match y with
  | .lst ys => .ok (.obj M.length) (M ++ [.lst ys])
  | _ => .stuck
def cmpD (o : Cm) (x y : D) (M : MH) : R D := R.ofOpt ((cmpop o x y M).map .bl) M
def walkR {α : Type} (w : D) (f : List D → List Nat → R α) : R α :=
  match w with
  | .dct xs ls => f xs (locks ls)
  | _ => .stuck
def isNil : ME → Bool
  | .nil => true
  | _ => false
def lstD (ds : List D) (M : MH) : R D := if ds.length ≤ 100000 then .ok (.lst ds) M else .stuck
def ev (c : Ctx) : ME → Sl → MH → R D
  | .never, _, _ => .stuck
  | .c d, _, M => .ok d M
  | .v i, σ, M => R.ofOpt (σ[i]?.join) M
  | .g i, _, M => R.ofOpt (c.gl i) M
  | .bin o a b, σ, M => (ev c a σ M).bind fun x M => (ev c b σ M).bind fun y M => binop o x y M
  | .neg a, σ, M => (ev c a σ M).bind negD
  | .not a, σ, M => (ev c a σ M).bind fun x M => boolD x (.ok (.bl false) M) (.ok (.bl true) M)
  | .cmp o a b, σ, M => (ev c a σ M).bind fun x M => (ev c b σ M).bind fun y M => cmpD o x y M
  | .chain o p a b d, σ, M => (ev c a σ M).bind fun x M => (ev c b σ M).bind fun y M => (cmpD o x y M).bind fun r M =>
    boolD r ((ev c d σ M).bind fun z M => cmpD p y z M) (.ok (.bl false) M)
  | .and a b, σ, M => (ev c a σ M).bind fun x M => boolD x (ev c b σ M) (.ok (.bl false) M)
  | .or a b, σ, M => (ev c a σ M).bind fun x M => boolD x (.ok (.bl true) M) (ev c b σ M)
  | .ife t a b, σ, M => (ev c t σ M).bind fun x M => boolD x (ev c a σ M) (ev c b σ M)
  | .nil, _, M => .ok (.tup []) M
  | .cons a r, σ, M => (ev c a σ M).bind fun x M => (ev c r σ M).bind fun y M => tupD y fun ys => .ok (.tup (x :: ys)) M
  | .tup as, σ, M => ev c as σ M
  | .lst as, σ, M => (ev c as σ M).bind fun y M => tupD y fun ys => .ok (.lst ys) M
  | .new a, σ, M => (ev c a σ M).bind newD
  | .idx a i, σ, M => (ev c a σ M).bind fun x M => (ev c i σ M).bind fun y M => idxD x y M
  | .slc a lo hi, σ, M => (ev c a σ M).bind fun x M => (ev c lo σ M).bind fun l M => partR l fun l => (ev c hi σ M).bind fun h M => partR h fun h => cutD x l h M
  | .rev a, σ, M => (ev c a σ M).bind revD
  | .call m f as, σ, M => (ev c as σ M).bind fun y M => tupD y fun ys => c.call m f ys c.fl c.lk M
  | .bf f as, σ, M => (ev c as σ M).bind fun y M => tupD y fun ys => bfn f ys M
  | .mt m o as, σ, M => (ev c o σ M).bind fun x M => recvD m x ((ev c as σ M).bind fun y M => tupD y fun ys => mth c m x ys M)
  | .it a, σ, M => (ev c a σ M).bind fun x M => R.ofOpt (walkOf M x) M
  | .rng as, σ, M => (ev c as σ M).bind fun y M => tupD y fun ys => R.ofOpt ((rngD ys).map fun xs => walkD xs []) M
  | .enum a, σ, M => (ev c a σ M).bind fun x M => R.ofOpt ((itemsL M x).map fun xs => walkD (enumT 0 xs) (lockOf x)) M
  | .zip a b, σ, M => (ev c a σ M).bind fun x M => (ev c b σ M).bind fun y M =>
    R.ofOpt (zipW M x y) M
  | .comp elt cond it t own, σ, M => (ev c it σ M).bind fun w M => walkR w fun xs l =>
    (compL (fun x M => (R.ofOpt (t.asg x (wipe σ own)) M).bind fun σ' M =>
      (calmR (if isNil cond then .ok (.bl true) M else ev (c.lock l) cond σ' M)).bind fun b M =>
        boolD b ((calmR (ev (c.lock l) elt σ' M)).bind fun d M => .ok (some d) M) (.ok none M)) xs [] M).bind lstD
  | .comp2 elt cond it2 t2 it t own, σ, M => (ev c it σ M).bind fun w M => walkR w fun xs l =>
    (compL2 (fun x acc M => (R.ofOpt (t.asg x (wipe σ own)) M).bind fun σ' M =>
      (calmR (ev (c.lock l) it2 σ' M)).bind fun w2 M => walkR w2 fun xs2 l2 =>
        compL (fun y M => (R.ofOpt (t2.asg y (wipe σ' (tgSlots t2))) M).bind fun σ'' M =>
          (calmR (if isNil cond then .ok (.bl true) M else ev (c.lock (l2 ++ l)) cond σ'' M)).bind fun b M =>
            boolD b ((calmR (ev (c.lock (l2 ++ l)) elt σ'' M)).bind fun d M => .ok (some d) M) (.ok none M)) xs2 acc M) xs [] M).bind lstD
def loopL (f : D → Sl → MH → RS) : List D → Sl → MH → RS
  | [], σ, M => .nx σ M
  | x :: xs, σ, M => match f x σ M with
    | .nx σ' M' => loopL f xs σ' M'
    | .ct σ' M' => loopL f xs σ' M'
    | .bk σ' M' => .nx σ' M'
    | r => r
def loopW (f : Sl → MH → R Bool) (g : Sl → MH → RS) : Nat → Sl → MH → RS
  | 0, _, _ => .stuck
  | k + 1, σ, M => match f σ M with
    | .ok true M' => (match g σ M' with
      | .nx σ' M' => loopW f g k σ' M'
      | .ct σ' M' => loopW f g k σ' M'
      | .bk σ' M' => .nx σ' M'
      | r => r)
    | .ok false M' => .nx σ M'
    | .exc c M' => .exc c σ M'
    | .stuck => .stuck
def R.to {α : Type} (r : R α) (σ : Sl) (f : α → MH → RS) : RS :=
  match r with
  | .ok a M => f a M
  | .exc c M => .exc c σ M
  | .stuck => .stuck
def RS.andThen (r : RS) (f : Sl → MH → RS) : RS :=
  match r with
  | .nx σ M => f σ M
  | r => r
def nxO (o : Option Sl) (M : MH) : RS :=
  match o with
  | some σ => .nx σ M
  | none => .stuck
def setD (c : Ctx) (o i d : D) (M : MH) : R D :=
  match i with
  | .int k => objL o M fun n xs => match place? xs.length k with
    | some j => if c.may n d then .ok .non (M.set n (.lst (xs.set j d))) else .stuck
    | none => .stuck
  | _ => .stuck
def idxO (x y : D) (M : MH) : R D :=
  match x, y with
  | .obj n, .int k => R.ofOpt ((itemsL M (.obj n)).bind fun xs => get? xs k) M
  | _, _ => .stuck
def iop (o : Op) (x y : D) (M : MH) : R D :=
  match o, x, y with
  | .add, .int i, .int j => .ok (.int (i + j)) M
  | .sub, .int i, .int j => .ok (.int (i - j)) M
  | .fdiv, .int i, .int j => if 0 < j ∧ j < 1073741824 then .ok (.int (i / j)) M else .stuck
  | .add, .str a, .str b => if a.length + b.length ≤ 10000 then .ok (.str (a ++ b)) M else .stuck
  | _, _, _ => .stuck
def exec (c : Ctx) : MS → Sl → MH → RS
  | .never, _, _ => .stuck
  | .skip, σ, M => .nx σ M
  | .seq a b, σ, M => (exec c a σ M).andThen (exec c b)
  | .asg t e, σ, M => (ev c e σ M).to σ fun d M => nxO (t.asg d σ) M
  | .setix o i e, σ, M => (ev c e σ M).to σ fun d M => (ev c o σ M).to σ fun x M => (ev c i σ M).to σ fun y M => (setD c x y d M).to σ fun _ M => .nx σ M
  | .aug p i e, σ, M => (R.ofOpt (σ[i]?.join) M).to σ fun x M => (ev c e σ M).to σ fun y M => (iop p x y M).to σ fun d M => nxO ((Tg.one i).asg d σ) M
  | .augix p o i e, σ, M => (ev c o σ M).to σ fun x M => (ev c i σ M).to σ fun y M => (idxO x y M).to σ fun z M => (ev c e σ M).to σ fun d M =>
    (iop p z d M).to σ fun r M => (setD c x y r M).to σ fun _ M => .nx σ M
  | .ife t a b, σ, M => (ev c t σ M).to σ fun x M => match x with
    | .bl true => exec c a σ M
    | .bl false => exec c b σ M
    | _ => .stuck
  | .for_ t it b, σ, M => (ev c it σ M).to σ fun w M => match w with
    | .dct xs ls => loopL (fun x σ M => match t.asg x σ with
      | some σ' => exec (c.lock (locks ls)) b σ' M
      | none => .stuck) xs σ M
    | _ => .stuck
  | .while_ t b, σ, M => loopW (fun σ M => (ev c t σ M).bind fun x M => boolD x (.ok true M) (.ok false M)) (exec c b) c.fuel σ M
  | .ret e, σ, M => (ev c e σ M).to σ fun d M => .rt d M
  | .retN, _, M => .rt .non M
  | .raise k, σ, M => .exc k σ M
  | .expr e, σ, M => (ev c e σ M).to σ fun _ M => .nx σ M
  | .brk, σ, M => .bk σ M
  | .cont, σ, M => .ct σ M
structure MFn where
  np : Nat
  nn : Nat
  raw : Bool
  body : MS
structure MProg where
  fns : List (Nat × MFn)
  gls : List (Nat × D)
def frz (n0 : Nat) (M : MH) : Nat → D → Option D
  | _, .non => some .non
  | _, .bl b => some (.bl b)
  | _, .int i => some (.int i)
  | _, .str s => some (.str s)
  | _, .scr ns => some (.scr ns)
  | _, .fn f => some (.fn f)
  | _, .cls c => some (.cls c)
  | _, .ty t => some (.ty t)
  | 0, _ => none
  | k + 1, .tup xs => (xs.mapM (frz n0 M k)).map .tup
  | k + 1, .lst xs => (xs.mapM (frz n0 M k)).map .lst
  | k + 1, .dct ks vs => (ks.mapM (frz n0 M k)).bind fun ks' => (vs.mapM (frz n0 M k)).map fun vs' => .dct ks' vs'
  | k + 1, .obj n => if n < n0 then some (.obj n) else match M[n]? with
    | some (.lst xs) => (xs.mapM (frz n0 M k)).map .lst
    | some (.dct ks vs) => (ks.mapM (frz n0 M k)).bind fun ks' => (vs.mapM (frz n0 M k)).map fun vs' => .dct ks' vs'
    | _ => none
def leave (m : Bool) (n0 : Nat) (d : D) (M : MH) : R D :=
  match m, d with
  | true, .obj n => if n < n0 then .ok (.obj n) (M.take n0) else match M[n]? with
    | some (.lst xs) => (match xs.mapM (frz n0 (M.set n (.ins 0 [])) 20) with
      | some ys => .ok (.obj n0) (M.take n0 ++ [.lst ys])
      | none => .stuck)
    | _ => .stuck
  | _, d => R.ofOpt (frz n0 M 20 d) (M.take n0)
def callN (P : MProg) (W : Nat) : Nat → Bool → Nat → List D → Nat → List Nat → MH → R D
  | 0, _, _, _, _, _, _ => .stuck
  | k + 1, m, f, as, fl, lk, M => match P.fns.lookup f with
    | none => .stuck
    | some d => if as.length = d.np then
        match d.raw, exec ⟨callN P W k, fun i => P.gls.lookup i, W, if d.raw then fl else M.length, lk⟩ d.body (as.map some ++ List.replicate (d.nn - d.np) none) M with
        | false, .rt v M' => leave m M.length v M'
        | false, .nx _ M' => leave m M.length .non M'
        | false, .exc c _ M' => .exc c (M'.take M.length)
        | true, .rt v M' => .ok v M'
        | true, .nx _ M' => .ok .non M'
        | true, .exc c _ M' => .exc c M'
        | _, _ => .stuck
      else .stuck
end Mini
set_option autoImplicit false
set_option maxRecDepth 100000
set_option maxHeartbeats 4000000
namespace MiniS
open PySem PySem.Spec PyProof.Rows L2 Mini
structure Gi where
  K : PySem.W.Frag
  fa : Nat → Addr
  ca : Nat → Addr
  hid : List Addr
abbrev Gi.hide (G : Gi) (hid : List Addr) : Gi := ⟨G.K, G.fa, G.ca, hid⟩
def KL (K : PySem.W.Frag) (a : Addr) (xs : List V) : Prop :=
  ∃ (o : Obj) (its : Array Value) (n : Nat), K.lookup a = some o ∧ o.cls = .type "list" ∧ o.dict = none ∧ o.data = .seq its n ∧ its.size ≤ sizeLine ∧ Vals xs its.toList
def tyName : Ty → String
  | .int => "int"
  | .bool => "bool"
  | .str => "str"
  | .tuple => "tuple"
  | .list => "list"
def Fz (K : PySem.W.Frag) (H : Hp) (a : Addr) (vs : List V) : Prop := (∃ o, H a = some (.frz o (.lst vs))) ∨ KL K a vs
theorem Fz.sq {K : PySem.W.Frag} {H : Hp} {a : Addr} {vs : List V} (h : Fz K H a vs) : SqL K H a vs := h.imp (fun q => .inr q) id
def mkS (s : List Nat) : Str := ⟨s.toArray⟩
def Rep (G : Gi) (ρ : List Addr) (H : Hp) : D → V → Prop
  | .non, v => v = .non
  | .bl b, v => v = .bl b
  | .int i, v => v = .int i
  | .str s, v => v = .str (mkS s) ∧ PyData.strOk (mkS s) = true
  | .tup xs, v => ∃ a vs, v = .ref a ∧ SqT G.K H a vs ∧ go xs vs
  | .lst xs, v => ∃ a vs, v = .ref a ∧ (H a = some (.lst vs) ∧ a ∉ ρ ∧ a ∉ G.hid) ∧ go xs vs
  | .scr ns, v => ∃ a, v = .ref a ∧ Fz G.K H a (ns.map V.int)
  | .dct _ _, _ => False
  | .obj n, v => ∃ a, v = .ref a ∧ ρ[n]? = some a
  | .fn f, v => v = .ref (G.fa f)
  | .cls c, v => v = .ref (G.ca c)
  | .ty t, v => v = .ty (tyName t)
where go : List D → List V → Prop
  | [], vs => vs = []
  | x :: xs, vs => ∃ v r, vs = v :: r ∧ Rep G ρ H x v ∧ go xs r
abbrev Reps (G : Gi) (ρ : List Addr) (H : Hp) : List D → List V → Prop := Paired (Rep G ρ H)
theorem go_iff {G : Gi} {ρ : List Addr} {H : Hp} : ∀ {xs : List D} {vs : List V}, Rep.go G ρ H xs vs ↔ Reps G ρ H xs vs
  | [], vs => by
    constructor
    · intro h
      have h : vs = [] := h
      subst h
      exact .nil
    · intro h
      cases h
      rfl
  | x :: xs, vs => by
    constructor
    · intro h
      obtain ⟨v, r, rfl, h1, h2⟩ := h
      exact .cons h1 (go_iff.mp h2)
    · intro h
      cases h with
      | cons h1 h2 => exact ⟨_, _, rfl, h1, go_iff.mpr h2⟩
section
variable {G : Gi} {ρ : List Addr} {H : Hp} {v : V}
theorem Rep.tup_iff {xs : List D} : Rep G ρ H (.tup xs) v ↔ ∃ a vs, v = .ref a ∧ SqT G.K H a vs ∧ Reps G ρ H xs vs :=
  ⟨fun ⟨a, vs, e, h, g⟩ => ⟨a, vs, e, h, go_iff.mp g⟩, fun ⟨a, vs, e, h, g⟩ => ⟨a, vs, e, h, go_iff.mpr g⟩⟩
theorem Rep.lst_iff {xs : List D} : Rep G ρ H (.lst xs) v ↔ ∃ a vs, v = .ref a ∧ (H a = some (.lst vs) ∧ a ∉ ρ ∧ a ∉ G.hid) ∧ Reps G ρ H xs vs :=
  ⟨fun ⟨a, vs, e, h, g⟩ => ⟨a, vs, e, h, go_iff.mp g⟩, fun ⟨a, vs, e, h, g⟩ => ⟨a, vs, e, h, go_iff.mpr g⟩⟩
end
structure Le (G : Gi) (ρ : List Addr) (H : Hp) (ρ' : List Addr) (H' : Hp) : Prop where
  tup : ∀ a vs, SqT G.K H a vs → SqT G.K H' a vs
  lst : ∀ a vs, H a = some (.lst vs) → a ∉ ρ → H' a = some (.lst vs) ∧ a ∉ ρ'
  frz : ∀ a o u, H a = some (.frz o u) → H' a = some (.frz o u)
  pre : ∀ (n : Nat) a, ρ[n]? = some a → ρ'[n]? = some a
  dom : ∀ a, H' a = none → H a = none
section
variable {G : Gi} {ρ ρ' ρ'' : List Addr} {H H' H'' : Hp}
theorem Le.refl : Le G ρ H ρ H := ⟨fun _ _ h => h, fun _ _ h n => ⟨h, n⟩, fun _ _ _ h => h, fun _ _ h => h, fun _ h => h⟩
theorem Le.trans (a : Le G ρ H ρ' H') (b : Le G ρ' H' ρ'' H'') : Le G ρ H ρ'' H'' :=
  ⟨fun x vs h => b.tup x vs (a.tup x vs h), fun x vs h n => let ⟨h1, n1⟩ := a.lst x vs h n; b.lst x vs h1 n1, fun x o u h => b.frz x o u (a.frz x o u h), fun n x h => b.pre n x (a.pre n x h), fun x h => a.dom x (b.dom x h)⟩
structure LeW (G G' : Gi) (ρ : List Addr) (H : Hp) (ρ' : List Addr) (H' : Hp) : Prop where
  K : G'.K = G.K
  fa : G'.fa = G.fa
  ca : G'.ca = G.ca
  tup : ∀ a vs, SqT G.K H a vs → SqT G.K H' a vs
  lst : ∀ a vs, H a = some (.lst vs) → a ∉ ρ → a ∉ G.hid → H' a = some (.lst vs) ∧ a ∉ ρ' ∧ a ∉ G'.hid
  frz : ∀ a o u, H a = some (.frz o u) → H' a = some (.frz o u)
  pre : ∀ (n : Nat) a, ρ[n]? = some a → ρ'[n]? = some a
theorem Le.w (l : Le G ρ H ρ' H') : LeW G G ρ H ρ' H' := ⟨rfl, rfl, rfl, l.tup, fun a vs h1 h2 h3 => ⟨(l.lst a vs h1 h2).1, (l.lst a vs h1 h2).2, h3⟩, l.frz, l.pre⟩
mutual
theorem Rep.monoW {G' : Gi} (l : LeW G G' ρ H ρ' H') : ∀ (d : D) (v : V), Rep G ρ H d v → Rep G' ρ' H' d v
  | .non, _, h => h
  | .bl _, _, h => h
  | .int _, _, h => h
  | .str _, _, h => h
  | .tup xs, _, ⟨a, vs, e, h, g⟩ => ⟨a, vs, e, by rw [l.K]; exact l.tup _ _ h, Rep.monoWL l xs vs g⟩
  | .lst xs, _, ⟨a, vs, e, h, g⟩ => ⟨a, vs, e, l.lst a vs h.1 h.2.1 h.2.2, Rep.monoWL l xs vs g⟩
  | .scr ns, _, ⟨a, e, h⟩ => ⟨a, e, by rw [l.K]; exact h.imp (fun ⟨o, q⟩ => ⟨o, l.frz a o _ q⟩) id⟩
  | .dct _ _, _, h => h
  | .obj n, _, ⟨a, e, h⟩ => ⟨a, e, l.pre n a h⟩
  | .fn f, v, h => by show v = .ref (G'.fa f); rw [l.fa]; exact h
  | .cls f, v, h => by show v = .ref (G'.ca f); rw [l.ca]; exact h
  | .ty _, _, h => h
theorem Rep.monoWL {G' : Gi} (l : LeW G G' ρ H ρ' H') : ∀ (xs : List D) (vs : List V), Rep.go G ρ H xs vs → Rep.go G' ρ' H' xs vs
  | [], _, h => h
  | x :: xs, _, ⟨v, r, e, h1, h2⟩ => ⟨v, r, e, Rep.monoW l x v h1, Rep.monoWL l xs r h2⟩
end
theorem Rep.mono (l : Le G ρ H ρ' H') (d : D) (v : V) (h : Rep G ρ H d v) : Rep G ρ' H' d v := Rep.monoW l.w d v h
theorem Reps.monoW {G' : Gi} (l : LeW G G' ρ H ρ' H') {xs : List D} {vs : List V} (h : Reps G ρ H xs vs) : Reps G' ρ' H' xs vs := go_iff.mp (Rep.monoWL l xs vs (go_iff.mpr h))
theorem Reps.mono (l : Le G ρ H ρ' H') {xs : List D} {vs : List V} (h : Reps G ρ H xs vs) : Reps G ρ' H' xs vs := Reps.monoW l.w h
theorem SqT.upd {K : PySem.W.Frag} {H : Hp} {a p : Addr} {vs : List V} {o : HO} (h : SqT K H a vs) (hp : (∀ xs, H p ≠ some (.tup xs)) ∧ ∀ ob u, H p ≠ some (.frz ob u)) : SqT K (upd H p o) a vs := by
  rcases h with h | h
  · left
    rcases h with h | ⟨ob, h⟩
    · left
      have ne : a ≠ p := fun e => hp.1 vs (e ▸ h)
      rw [upd_ne ne]; exact h
    · right
      refine ⟨ob, ?_⟩
      have ne : a ≠ p := fun e => hp.2 ob _ (e ▸ h)
      rw [upd_ne ne]; exact h
  · exact .inr h
theorem upd_dom {H : Hp} {a p : Addr} {o : HO} (h : upd H p o a = none) : H a = none := by
  by_cases e : a = p
  · subst e; rw [upd_same] at h; cases h
  · rw [L2.upd_ne e] at h; exact h
theorem Le.laid {p : Addr} {o : HO} (hp : H p = none) : Le G ρ H ρ (upd H p o) where
  tup := fun a vs h => SqT.upd h ⟨fun xs z => (by rw [hp] at z; cases z), fun _ _ z => (by rw [hp] at z; cases z)⟩
  lst := fun a vs h n => ⟨by rw [upd_ne (ne_of_none h hp)]; exact h, n⟩
  frz := fun a o u h => by rw [upd_ne (ne_of_none h hp)]; exact h
  pre := fun _ _ h => h
  dom := fun _ h => upd_dom h
theorem Le.set {p : Addr} {o : HO} {vs : List V} (hp : H p = some (.lst vs)) (hm : p ∈ ρ) : Le G ρ H ρ (upd H p o) where
  tup := fun a vs h => SqT.upd h ⟨fun xs z => (by rw [hp] at z; cases z), fun _ _ z => (by rw [hp] at z; cases z)⟩
  lst := fun a vs h n => ⟨by rw [upd_ne (show a ≠ p from fun e => n (by rw [e]; exact hm))]; exact h, n⟩
  frz := fun a o u h => by rw [upd_ne (ne_of h hp (fun z => nomatch z))]; exact h
  pre := fun _ _ h => h
  dom := fun _ h => upd_dom h
theorem Le.own {p : Addr} (l : Le G ρ H ρ' H') (hp : H p = none) (hn : p ∉ ρ') : Le G ρ H (ρ' ++ [p]) H' where
  tup := l.tup
  lst := fun a vs h n => by
    obtain ⟨h1, n1⟩ := l.lst a vs h n
    refine ⟨h1, fun z => ?_⟩
    rcases List.mem_append.mp z with z | z
    · exact n1 z
    · have e : a = p := by simpa using z
      rw [e, hp] at h
      cases h
  frz := l.frz
  pre := fun n a h => by
    have q := l.pre n a h
    rw [List.getElem?_append_left (List.getElem?_eq_some_iff.mp q).1]
    exact q
  dom := l.dom
end
def RepO (G : Gi) (ρ : List Addr) (H : Hp) (a : Addr) : MO → Prop
  | .lst xs => ∃ vs, H a = some (.lst vs) ∧ Reps G ρ H xs vs
  | _ => False
structure RepH (G : Gi) (ρ : List Addr) (M : MH) (H : Hp) : Prop where
  len : ρ.length = M.length
  nd : ρ.Nodup
  ob : ∀ (n : Nat) a mo, ρ[n]? = some a → M[n]? = some mo → RepO G ρ H a mo
  hid : ∀ a ∈ G.hid, a ∉ ρ ∧ H a ≠ none
def RepS (G : Gi) (ρ : List Addr) (H : Hp) (σd : Sl) (σ : L2.St) : Prop := σd.length = σ.length ∧ ∀ (i : Nat) d, σd[i]? = some (some d) → ∃ v, σ[i]? = some (some v) ∧ Rep G ρ H d v
section
variable {G : Gi} {ρ ρ' : List Addr} {H H' : Hp} {M : MH} {σd : Sl} {σ : L2.St}
theorem RepS.mono (l : Le G ρ H ρ' H') (h : RepS G ρ H σd σ) : RepS G ρ' H' σd σ := ⟨h.1, fun i d e => let ⟨v, h1, h2⟩ := h.2 i d e; ⟨v, h1, Rep.mono l d v h2⟩⟩
theorem RepS.set {i : Nat} {d : D} {v : V} (h : RepS G ρ H σd σ) (r : Rep G ρ H d v) : RepS G ρ H (σd.set i (some d)) (σ.set i (some v)) := by
  refine ⟨by simpa using h.1, fun j e hj => ?_⟩
  by_cases hij : i = j
  · subst hij
    by_cases hl : i < σd.length
    · rw [List.getElem?_set_self hl] at hj
      cases hj
      exact ⟨v, by rw [List.getElem?_set_self (by rw [← h.1]; exact hl)], r⟩
    · rw [List.getElem?_eq_none (by simpa using hl)] at hj; cases hj
  · rw [List.getElem?_set_ne hij] at hj
    obtain ⟨w, h1, h2⟩ := h.2 j e hj
    exact ⟨w, by rw [List.getElem?_set_ne hij]; exact h1, h2⟩
theorem RepS.wipe (h : RepS G ρ H σd σ) : ∀ l : List Nat, RepS G ρ H (Mini.wipe σd l) (L2.wipe σ l)
  | [] => h
  | i :: l => by
    have ih := RepS.wipe h l
    refine ⟨by show ((Mini.wipe σd l).set i none).length = ((L2.wipe σ l).set i none).length; simpa using ih.1, fun j e hj => ?_⟩
    have hj : ((Mini.wipe σd l).set i none)[j]? = some (some e) := hj
    show ∃ v, ((L2.wipe σ l).set i none)[j]? = some (some v) ∧ _
    by_cases hij : i = j
    · subst hij
      by_cases hl : i < (Mini.wipe σd l).length
      · rw [List.getElem?_set_self hl] at hj; cases hj
      · rw [List.getElem?_eq_none (by simpa using hl)] at hj; cases hj
    · rw [List.getElem?_set_ne hij] at hj ⊢
      exact ih.2 j e hj
theorem RepO.mono (l : Le G ρ H ρ' H') {a : Addr} {mo : MO} (h : RepO G ρ H a mo) (ha : H' a = H a) : RepO G ρ' H' a mo := by
  cases mo with
  | lst xs =>
    obtain ⟨vs, h1, h2⟩ := h
    exact ⟨vs, ha.trans h1, Reps.mono l h2⟩
  | dct ks vs => exact h
  | ins c fs => exact h
theorem RepH.at (r : RepH G ρ M H) {n : Nat} {mo : MO} (h : M[n]? = some mo) : ∃ a, ρ[n]? = some a ∧ RepO G ρ H a mo := by
  have hn : n < ρ.length := by rw [r.len]; exact (List.getElem?_eq_some_iff.mp h).1
  exact ⟨ρ[n], List.getElem?_eq_getElem hn, r.ob n _ mo (List.getElem?_eq_getElem hn) h⟩
theorem RepH.tell (r : RepH G ρ M H) {n : Nat} {a : Addr} (h : ρ[n]? = some a) : ∃ mo, M[n]? = some mo ∧ RepO G ρ H a mo := by
  have hn : n < M.length := by rw [← r.len]; exact (List.getElem?_eq_some_iff.mp h).1
  exact ⟨M[n], List.getElem?_eq_getElem hn, r.ob n a _ h (List.getElem?_eq_getElem hn)⟩
theorem RepO.there {a : Addr} {mo : MO} (h : RepO G ρ H a mo) : ∃ vs, H a = some (.lst vs) := by
  cases mo with
  | lst xs => obtain ⟨vs, h1, _⟩ := h; exact ⟨vs, h1⟩
  | dct ks vs => exact h.elim
  | ins c fs => exact h.elim
theorem RepH.mem_some (r : RepH G ρ M H) {a : Addr} (h : a ∈ ρ) : ∃ vs, H a = some (.lst vs) := by
  obtain ⟨n, hn, e⟩ := List.mem_iff_getElem.mp h
  obtain ⟨mo, _, q⟩ := r.tell (n := n) (a := a) (by rw [List.getElem?_eq_getElem hn, e])
  exact q.there
theorem RepH.laid (r : RepH G ρ M H) {p : Addr} {o : HO} (hp : H p = none) : RepH G ρ M (upd H p o) where
  len := r.len
  nd := r.nd
  ob := fun n a mo h1 h2 => (r.ob n a mo h1 h2).mono (Le.laid hp) (by
    obtain ⟨vs, e⟩ := (r.ob n a mo h1 h2).there
    rw [upd_ne (fun z => by rw [z, hp] at e; cases e)])
  hid := fun a ha => ⟨(r.hid a ha).1, fun z => (r.hid a ha).2 (upd_dom z)⟩
theorem nodup_ixA {l : List Addr} (h : l.Nodup) {i j : Nat} {x : Addr} (a : l[i]? = some x) (b : l[j]? = some x) : i = j := by
  obtain ⟨h1, e1⟩ := List.getElem?_eq_some_iff.mp a
  obtain ⟨h2, e2⟩ := List.getElem?_eq_some_iff.mp b
  exact (List.getElem_inj h).mp (e1.trans e2.symm)
theorem RepH.set (r : RepH G ρ M H) {n : Nat} {p : Addr} {xs : List D} {vs vs' : List V} (hn : ρ[n]? = some p) (hp : H p = some (.lst vs)) (h : Reps G ρ H xs vs') : RepH G ρ (M.set n (.lst xs)) (upd H p (.lst vs')) := by
  have hm : p ∈ ρ := List.mem_of_getElem? hn
  have L : Le G ρ H ρ (upd H p (.lst vs')) := Le.set hp hm
  refine ⟨by simpa using r.len, r.nd, fun k a mo h1 h2 => ?_, fun a ha => ⟨(r.hid a ha).1, fun z => (r.hid a ha).2 (upd_dom z)⟩⟩
  by_cases hk : n = k
  · subst hk
    rw [hn] at h1
    cases h1
    have hl : n < M.length := by rw [← r.len]; exact (List.getElem?_eq_some_iff.mp hn).1
    rw [List.getElem?_set_self hl] at h2
    cases h2
    exact ⟨vs', upd_same, Reps.mono L h⟩
  · rw [List.getElem?_set_ne hk] at h2
    refine (r.ob k a mo h1 h2).mono L ?_
    have ne : a ≠ p := fun e => by
      subst e
      exact hk (nodup_ixA r.nd hn h1)
    rw [upd_ne ne]
theorem RepH.own (r : RepH G ρ M H) {p : Addr} {xs : List D} {vs : List V} (hp : H' p = some (.lst vs)) (hn : p ∉ ρ) (hh : p ∉ G.hid) (h : Reps G ρ H xs vs) (hk : ∀ a ∈ ρ, H' a = H a) (L : Le G ρ H (ρ ++ [p]) H') : RepH G (ρ ++ [p]) (M ++ [.lst xs]) H' := by
  refine ⟨by simp [r.len], ?_, fun n a mo h1 h2 => ?_, fun a ha => ⟨fun z => ?_, fun z => (r.hid a ha).2 (L.dom a z)⟩⟩
  rotate_left 2
  · rcases List.mem_append.mp z with z | z
    · exact (r.hid a ha).1 z
    · have e : a = p := by simpa using z
      exact hh (e ▸ ha)
  · rw [List.nodup_append]
    refine ⟨r.nd, by simp, fun a ha b hb e => ?_⟩
    have : b = p := by simpa using hb
    exact hn (by rw [← this, ← e]; exact ha)
  · by_cases hl : n < M.length
    · rw [List.getElem?_append_left hl] at h2
      rw [List.getElem?_append_left (by rw [r.len]; exact hl)] at h1
      exact (r.ob n a mo h1 h2).mono L (hk a (List.mem_of_getElem? h1))
    · rw [List.getElem?_append_right (by rw [r.len]; omega)] at h1
      rw [List.getElem?_append_right (by omega)] at h2
      have e0 : n - M.length = 0 := by
        cases q : n - M.length with
        | zero => rfl
        | succ k => rw [q] at h2; simp at h2
      rw [r.len, e0] at h1
      rw [e0] at h2
      simp at h1 h2
      subst h1; subst h2
      exact ⟨vs, hp, Reps.mono L h⟩
end
end MiniS
set_option autoImplicit false
set_option maxRecDepth 100000
set_option maxHeartbeats 4000000
namespace MiniS
open PySem PySem.Spec PyProof.Rows L2 Mini
def PostE (G : Gi) (ρ : List Addr) (H : Hp) (r : R D) (Q : VK) (E : Nat → Hp → Prop) : Prop :=
  match r with
  | .ok d M' => ∀ v ρ' H', Le G ρ H ρ' H' → RepH G ρ' M' H' → Rep G ρ' H' d v → Q v H'
  | .exc k M' => ∀ ρ' H', Le G ρ H ρ' H' → RepH G ρ' M' H' → E k H'
  | .stuck => False
section
variable {G : Gi} {ρ ρ' : List Addr} {H H' : Hp} {M : MH}
theorem PostE.mono {r : R D} {Q : VK} {E : Nat → Hp → Prop} (l : Le G ρ H ρ' H') (p : PostE G ρ H r Q E) : PostE G ρ' H' r Q E := by
  cases r with
  | ok d M' => exact fun v ρ2 H2 l2 => p v ρ2 H2 (l.trans l2)
  | exc k M' => exact fun ρ2 H2 l2 => p ρ2 H2 (l.trans l2)
  | stuck => exact p
theorem PostE.here {d : D} {Q : VK} {E : Nat → Hp → Prop} {v : V} (p : PostE G ρ H (.ok d M) Q E) (r : RepH G ρ M H) (h : Rep G ρ H d v) : Q v H := p v ρ H Le.refl r h
theorem PostE.new {d : D} {Q : VK} {E : Nat → Hp → Prop} {a : Addr} {o : HO} (p : PostE G ρ H (.ok d M) Q E) (r : RepH G ρ M H) (hn : H a = none) (h : Rep G ρ (upd H a o) d (.ref a)) : Q (.ref a) (upd H a o) :=
  p (.ref a) ρ (upd H a o) (Le.laid hn) (r.laid hn) h
end
section
variable {α β : Type} {F : α → β → Prop}
theorem pd_length : ∀ {xs : List α} {ys : List β}, Paired F xs ys → xs.length = ys.length
  | _, _, .nil => rfl
  | _, _, .cons _ t => by rw [List.length_cons, List.length_cons, pd_length t]
theorem pd_get : ∀ {xs : List α} {ys : List β} {i : Nat} {x : α}, Paired F xs ys → xs[i]? = some x → ∃ y, ys[i]? = some y ∧ F x y
  | _, _, _, _, .nil, e => by simp at e
  | _, _, 0, _, .cons r _, e => by simp at e; subst e; exact ⟨_, rfl, r⟩
  | _, _, i + 1, x, .cons _ t, e => by
    obtain ⟨u, h1, h2⟩ := pd_get (i := i) (x := x) t (by simpa using e)
    exact ⟨u, by simpa using h1, h2⟩
theorem pd_append : ∀ {xs xs' : List α} {ys ys' : List β}, Paired F xs ys → Paired F xs' ys' → Paired F (xs ++ xs') (ys ++ ys')
  | _, _, _, _, .nil, s => s
  | _, _, _, _, .cons r t, s => .cons r (pd_append t s)
theorem pd_take : ∀ {xs : List α} {ys : List β} (n : Nat), Paired F xs ys → Paired F (xs.take n) (ys.take n)
  | _, _, 0, _ => .nil
  | _, _, _ + 1, .nil => .nil
  | _, _, n + 1, .cons r t => .cons r (pd_take n t)
theorem pd_drop : ∀ {xs : List α} {ys : List β} (n : Nat), Paired F xs ys → Paired F (xs.drop n) (ys.drop n)
  | _, _, 0, r => r
  | _, _, _ + 1, .nil => .nil
  | _, _, n + 1, .cons _ t => pd_drop n t
theorem pd_set {x : α} {y : β} (r : F x y) : ∀ {xs : List α} {ys : List β} (i : Nat), Paired F xs ys → Paired F (xs.set i x) (ys.set i y)
  | _, _, _, .nil => .nil
  | _, _, 0, .cons _ t => .cons r t
  | _, _, i + 1, .cons q t => .cons q (pd_set r i t)
theorem pd_reverse {xs : List α} {ys : List β} (h : Paired F xs ys) : Paired F xs.reverse ys.reverse := by
  induction h with
  | nil => exact .nil
  | cons r t ih =>
    rw [List.reverse_cons, List.reverse_cons]
    exact pd_append ih (.cons r .nil)
theorem pd_rep {xs : List α} {ys : List β} (h : Paired F xs ys) : ∀ k : Nat, Paired F (List.replicate k xs).flatten (List.replicate k ys).flatten
  | 0 => .nil
  | k + 1 => by
    rw [List.replicate_succ, List.replicate_succ, List.flatten_cons, List.flatten_cons]
    exact pd_append h (pd_rep h k)
theorem pd_nil_iff {xs : List α} {ys : List β} (h : Paired F xs ys) : xs = [] ↔ ys = [] := by
  cases h <;> simp
theorem pd_dropLast {xs : List α} {ys : List β} (h : Paired F xs ys) : Paired F xs.dropLast ys.dropLast := by
  rw [List.dropLast_eq_take, List.dropLast_eq_take, pd_length h]
  exact pd_take _ h
theorem pd_erase : ∀ {xs : List α} {ys : List β} (i : Nat), Paired F xs ys → Paired F (xs.eraseIdx i) (ys.eraseIdx i)
  | _, _, _, .nil => .nil
  | _, _, 0, .cons _ t => t
  | _, _, i + 1, .cons q t => .cons q (pd_erase i t)
theorem pd_imp {F' : α → β → Prop} (hf : ∀ x y, F x y → F' x y) : ∀ {xs : List α} {ys : List β}, Paired F xs ys → Paired F' xs ys
  | _, _, .nil => .nil
  | _, _, .cons r t => .cons (hf _ _ r) (pd_imp hf t)
end
section
variable {G : Gi} {ρ : List Addr} {H : Hp} {M : MH} {v : V} {d : D} {xs : List D}
theorem items_rep (rh : RepH G ρ M H) (r : Rep G ρ H d v) (h : items M d = some xs) : ∃ a vs, v = .ref a ∧ Reps G ρ H xs vs ∧ ((H a = some (.lst vs) ∧ ∀ ys, d ≠ .tup ys) ∨ (SqT G.K H a vs ∧ d = .tup xs)) := by
  cases d with
  | tup ys =>
    have e : ys = xs := Option.some.inj h
    subst e
    obtain ⟨a, vs, rfl, q, g⟩ := Rep.tup_iff.mp r
    exact ⟨a, vs, rfl, g, .inr ⟨q, rfl⟩⟩
  | lst ys =>
    have e : ys = xs := Option.some.inj h
    subst e
    obtain ⟨a, vs, rfl, q, g⟩ := Rep.lst_iff.mp r
    exact ⟨a, vs, rfl, g, .inl ⟨q.1, fun _ z => nomatch z⟩⟩
  | obj n =>
    obtain ⟨a, rfl, ha⟩ := r
    obtain ⟨mo, hm, ho⟩ := rh.tell ha
    have h2 : (match M[n]? with | some (.lst xs) => some xs | _ => none) = some xs := h
    rw [hm] at h2
    cases mo with
    | lst zs =>
      have e : zs = xs := Option.some.inj h2
      subst e
      obtain ⟨vs, h1, g⟩ := ho
      exact ⟨a, vs, rfl, g, .inl ⟨h1, fun _ z => nomatch z⟩⟩
    | dct ks vs => cases h2
    | ins c fs => cases h2
  | _ => cases h
theorem itemsL_rep (rh : RepH G ρ M H) (r : Rep G ρ H d v) (h : itemsL M d = some xs) : ∃ a vs, v = .ref a ∧ Reps G ρ H xs vs ∧ H a = some (.lst vs) := by
  have hi : items M d = some xs ∧ ∀ ys, d ≠ .tup ys := by
    cases d with
    | lst ys => exact ⟨h, fun _ z => nomatch z⟩
    | obj n => exact ⟨h, fun _ z => nomatch z⟩
    | _ => cases h
  obtain ⟨a, vs, e, g, q⟩ := items_rep rh r hi.1
  rcases q with q | q
  · exact ⟨a, vs, e, g, q.1⟩
  · exact absurd q.2 (hi.2 _)
theorem items_sq (rh : RepH G ρ M H) (r : Rep G ρ H d v) (h : items M d = some xs) : ∃ a vs, v = .ref a ∧ Reps G ρ H xs vs ∧ (SqL G.K H a vs ∨ SqT G.K H a vs) := by
  obtain ⟨a, vs, e, g, q⟩ := items_rep rh r h
  exact ⟨a, vs, e, g, q.imp (fun z => .of z.1) fun z => z.1⟩
end
theorem sz4 {n : Nat} (h : n ≤ 10000) : n ≤ sizeLine := by rw [sizeLine_eq]; omega
theorem sz5 {n : Nat} (h : n ≤ 100000) : n ≤ sizeLine := by rw [sizeLine_eq]; omega
theorem mkS_append (a b : List Nat) : mkS (a ++ b) = mkS a ++ mkS b := by
  show (⟨(a ++ b).toArray⟩ : Str) = ⟨a.toArray ++ b.toArray⟩
  simp
theorem mkS_length (a : List Nat) : (mkS a).length = a.length := by
  show a.toArray.size = a.length
  simp
theorem strOk_iff (a : List Nat) : PyData.strOk (mkS a) = true ↔ ∀ c ∈ a, c < 0x110000 := by
  unfold PyData.strOk mkS
  rw [Array.all_eq_true_iff_forall_mem]
  simp
def fin (m : Bool) (d : D) (M : MH) : R D := if m then newD d M else .ok d M
section
variable {G : Gi} {ρ : List Addr} {H : Hp} {M : MH} {Q : VK} {E : Nat → Hp → Prop}
theorem not_mem_of_none {q : Addr} (rh : RepH G ρ M H) (hq : H q = none) : q ∉ ρ := fun z => by
  obtain ⟨vs, e⟩ := rh.mem_some z
  rw [hq] at e; cases e
theorem PostE.val {m : Bool} {d : D} {v : V} (p : PostE G ρ H (fin m d M) Q E) (rh : RepH G ρ M H) (h : Rep G ρ H d v) (hd : ∀ xs, d ≠ .lst xs) : Q v H := by
  cases m with
  | false => exact PostE.here (d := d) p rh h
  | true =>
    cases d with
    | lst xs => exact absurd rfl (hd xs)
    | _ => exact False.elim p
theorem PostE.valN {m : Bool} {d : D} {a : Addr} {o : HO} (p : PostE G ρ H (fin m d M) Q E) (rh : RepH G ρ M H) (hn : H a = none) (h : Rep G ρ (upd H a o) d (.ref a)) (hd : ∀ xs, d ≠ .lst xs) : Q (.ref a) (upd H a o) := by
  cases m with
  | false => exact PostE.new (d := d) p rh hn h
  | true =>
    cases d with
    | lst xs => exact absurd rfl (hd xs)
    | _ => exact False.elim p
theorem PostE.newL {m : Bool} {ds : List D} {vs : List V} {q : Addr} (p : PostE G ρ H (fin m (.lst ds) M) Q E) (rh : RepH G ρ M H) (hq : H q = none) (g : Reps G ρ H ds vs) : Q (.ref q) (upd H q (.lst vs)) := by
  have L : Le G ρ H ρ (upd H q (.lst vs)) := Le.laid hq
  have hn : q ∉ ρ := not_mem_of_none rh hq
  have hh : q ∉ G.hid := fun z => (rh.hid q z).2 hq
  cases m with
  | false => exact PostE.new (d := .lst ds) p rh hq (Rep.lst_iff.mpr ⟨q, vs, rfl, ⟨upd_same, hn, hh⟩, Reps.mono L g⟩)
  | true =>
    have p : PostE G ρ H (.ok (.obj M.length) (M ++ [.lst ds])) Q E := p
    have L1 : Le G ρ H (ρ ++ [q]) (upd H q (.lst vs)) := Le.own L hq hn
    refine p (.ref q) (ρ ++ [q]) _ L1 (rh.own upd_same hn hh g (fun a ha => upd_ne (fun z => hn (by rw [← z]; exact ha))) L1) ⟨q, rfl, ?_⟩
    rw [← rh.len, List.getElem?_append_right (Nat.le_refl _)]
    simp
end
def opOf : Op → Operator
  | .add => .Add
  | .sub => .Sub
  | .mul => .Mult
  | .fdiv => .FloorDiv
  | .mod => .Mod
  | .pow => .Pow
def OpS (X : Cx) (G : Gi) (f : Value → Value → Sem Value) (g : D → D → MH → R D) : Prop :=
  ∃ r : R2, OpR X f r ∧ ∀ (ρ : List Addr) (M : MH) (H : Hp) (dx dy : D) (x y : V) (Q : VK) (E : Nat → Hp → Prop), RepH G ρ M H → Rep G ρ H dx x → Rep G ρ H dy y → PostE G ρ H (g dx dy M) Q E → r x y H Q
section
variable {X : Cx} {G : Gi}
theorem natAbs_lt {i : Int} (h : i.natAbs < 2 ^ 63) : -(2 ^ 64) < i ∧ i < 2 ^ 64 := by omega
theorem ops_add (hK : X.K = G.K) (m : Bool) : OpS X G (binaryOp .Add) (fun x y M => (addD x y M).bind (fin m)) := by
  refine ⟨_, (op_add.or (op_add_str.or (op_catA.or op_cat))), fun ρ M H dx dy x y Q E rh rx ry p => ?_⟩
  have lists : ∀ a b, itemsL M dx = some a → itemsL M dy = some b → PostE G ρ H ((catD (some a) (some b) M).bind (fin m)) Q E → rCat x y H Q := fun a b ha hb p => by
    obtain ⟨la, va, rfl, ga, qa⟩ := itemsL_rep rh rx ha
    obtain ⟨lb, vb, rfl, gb, qb⟩ := itemsL_rep rh ry hb
    have p : PostE G ρ H ((if a.length + b.length ≤ 10000 then R.ok (D.lst (a ++ b)) M else .stuck).bind (fin m)) Q E := p
    by_cases hz : a.length + b.length ≤ 10000
    · rw [if_pos hz] at p
      have l1 := pd_length ga
      have l2 := pd_length gb
      exact ⟨la, lb, va, vb, rfl, rfl, qa, qb, sz4 (by omega), fun q hq => PostE.newL p rh hq (pd_append ga gb)⟩
    · rw [if_neg hz] at p; exact p.elim
  have other : PostE G ρ H ((catD (itemsL M dx) (itemsL M dy) M).bind (fin m)) Q E → rCat x y H Q := fun p => by
    cases ha : itemsL M dx with
    | none => rw [ha] at p; exact False.elim p
    | some a =>
      cases hb : itemsL M dy with
      | none => rw [ha, hb] at p; exact False.elim p
      | some b => rw [ha, hb] at p; exact lists a b ha hb p
  cases dx with
  | int i =>
    cases dy with
    | int j =>
      obtain rfl := rx
      obtain rfl := ry
      exact .inl ⟨i, j, rfl, rfl, PostE.val (d := .int (i + j)) p rh rfl (fun _ z => nomatch z)⟩
    | _ => exact False.elim p
  | str a =>
    cases dy with
    | str b =>
      obtain ⟨rfl, ha⟩ := rx
      obtain ⟨rfl, hb⟩ := ry
      have p : PostE G ρ H ((if a.length + b.length ≤ 10000 then R.ok (D.str (a ++ b)) M else .stuck).bind (fin m)) Q E := p
      by_cases hz : a.length + b.length ≤ 10000
      · rw [if_pos hz] at p
        refine .inr (.inl ⟨_, _, rfl, rfl, by rw [mkS_length, mkS_length]; exact sz4 hz, ?_⟩)
        rw [← mkS_append]
        refine PostE.val (d := .str (a ++ b)) p rh ⟨rfl, ?_⟩ (fun _ z => nomatch z)
        rw [strOk_iff] at ha hb ⊢
        intro c hc
        rcases List.mem_append.mp hc with hc | hc
        · exact ha c hc
        · exact hb c hc
      · rw [if_neg hz] at p; exact p.elim
    | _ => exact False.elim p
  | tup a =>
    cases dy with
    | tup b =>
      obtain ⟨la, va, rfl, qa, ga⟩ := Rep.tup_iff.mp rx
      obtain ⟨lb, vb, rfl, qb, gb⟩ := Rep.tup_iff.mp ry
      have p : PostE G ρ H ((if a.length + b.length ≤ 10000 then R.ok (D.tup (a ++ b)) M else .stuck).bind (fin m)) Q E := p
      by_cases hz : a.length + b.length ≤ 10000
      · rw [if_pos hz] at p
        have l1 := pd_length ga
        have l2 := pd_length gb
        refine .inr (.inr (.inl ⟨la, lb, va, vb, rfl, rfl, by rw [hK]; exact qa, by rw [hK]; exact qb, sz4 (by omega), fun e => ?_, fun _ e => ?_, fun _ _ q hq => ?_⟩))
        · have ea : a = [] := (pd_nil_iff ga).mpr e
          subst ea
          exact PostE.val (d := .tup b) p rh ry (fun _ z => nomatch z)
        · have eb : b = [] := (pd_nil_iff gb).mpr e
          subst eb
          rw [List.append_nil] at p
          exact PostE.val (d := .tup a) p rh rx (fun _ z => nomatch z)
        · exact PostE.valN (d := .tup (a ++ b)) p rh hq (Rep.tup_iff.mpr ⟨q, _, rfl, .of upd_same, Reps.mono (Le.laid hq) (pd_append ga gb)⟩) (fun _ z => nomatch z)
      · rw [if_neg hz] at p; exact p.elim
    | _ => exact False.elim p
  | lst a => exact .inr (.inr (.inr (other p)))
  | obj n => exact .inr (.inr (.inr (other p)))
  | _ => exact False.elim p
theorem ops_int {f : Value → Value → Sem Value} {C : Int → Int → Prop} {g : Int → Int → Int} {h : D → D → MH → R D} (m : Bool) (ho : OpR X f (rI C fun i j => .int (g i j)))
    (hh : ∀ dx dy M, (∃ i j, dx = .int i ∧ dy = .int j ∧ C i j ∧ h dx dy M = .ok (.int (g i j)) M) ∨ h dx dy M = .stuck) : OpS X G f (fun x y M => (h x y M).bind (fin m)) := by
  refine ⟨_, ho, fun ρ M H dx dy x y Q E rh rx ry p => ?_⟩
  rcases hh dx dy M with ⟨i, j, rfl, rfl, hc, e⟩ | e
  · obtain rfl := rx
    obtain rfl := ry
    simp only [e] at p
    exact ⟨i, j, rfl, rfl, hc, PostE.val (d := .int (g i j)) p rh rfl (fun _ z => nomatch z)⟩
  · simp only [e] at p; exact p.elim
theorem ops_sub (m : Bool) : OpS X G (binaryOp .Sub) (fun x y M => (binop .sub x y M).bind (fin m)) := by
  refine ops_int m (C := fun _ _ => True) (g := fun i j => i - j) ?_ fun dx dy M => ?_
  · intro pins s σ H x y v u Q I rx ry ⟨i, j, e1, e2, _, q⟩
    exact op_sub pins s σ H x y v u Q I rx ry ⟨i, j, e1, e2, q⟩
  · cases dx <;> first | (cases dy <;> first | exact .inl ⟨_, _, rfl, rfl, trivial, rfl⟩ | exact .inr rfl) | exact .inr rfl
theorem ops_fdiv (m : Bool) : OpS X G (binaryOp .FloorDiv) (fun x y M => (binop .fdiv x y M).bind (fin m)) := by
  refine ops_int m op_fdiv fun dx dy M => ?_
  cases dx with
  | int i =>
    cases dy with
    | int j =>
      by_cases h : 0 < j ∧ j < 1073741824
      · exact .inl ⟨i, j, rfl, rfl, h, if_pos h⟩
      · exact .inr (if_neg h)
    | _ => exact .inr rfl
  | _ => exact .inr rfl
theorem ops_mod (m : Bool) : OpS X G (binaryOp .Mod) (fun x y M => (binop .mod x y M).bind (fin m)) := by
  refine ops_int m op_mod fun dx dy M => ?_
  cases dx with
  | int i =>
    cases dy with
    | int j =>
      by_cases h : 0 < j
      · exact .inl ⟨i, j, rfl, rfl, h, if_pos h⟩
      · exact .inr (if_neg h)
    | _ => exact .inr rfl
  | _ => exact .inr rfl
theorem ops_pow (m : Bool) : OpS X G (binaryOp .Pow) (fun x y M => (binop .pow x y M).bind (fin m)) := by
  refine ops_int m op_pow fun dx dy M => ?_
  cases dx with
  | int i =>
    cases dy with
    | int j =>
      by_cases h : 0 ≤ j ∧ j ≤ 1000 ∧ i.natAbs < 2 ^ 63
      · exact .inl ⟨i, j, rfl, rfl, ⟨h.1, by omega, by omega⟩, if_pos h⟩
      · exact .inr (if_neg h)
    | _ => exact .inr rfl
  | _ => exact .inr rfl
theorem ops_mul (m : Bool) : OpS X G (binaryOp .Mult) (fun x y M => (mulD x y M).bind (fin m)) := by
  refine ⟨_, (op_mul.or (op_mulW.or op_rep)), fun ρ M H dx dy x y Q E rh rx ry p => ?_⟩
  cases dx with
  | int i =>
    cases dy with
    | int j =>
      obtain rfl := rx
      obtain rfl := ry
      have p : PostE G ρ H ((if i.natAbs < 2 ^ 63 ∨ j.natAbs < 2 ^ 63 ∨ (i.natAbs < 2 ^ 1000 ∧ j.natAbs < 2 ^ 1000) then R.ok (D.int (i * j)) M else .stuck).bind (fin m)) Q E := p
      by_cases h : i.natAbs < 2 ^ 63 ∨ j.natAbs < 2 ^ 63 ∨ (i.natAbs < 2 ^ 1000 ∧ j.natAbs < 2 ^ 1000)
      · rw [if_pos h] at p
        rcases h with h | h | h
        · exact .inl ⟨i, j, rfl, rfl, .inl (natAbs_lt h), PostE.val (d := .int (i * j)) p rh rfl (fun _ z => nomatch z)⟩
        · exact .inl ⟨i, j, rfl, rfl, .inr (natAbs_lt h), PostE.val (d := .int (i * j)) p rh rfl (fun _ z => nomatch z)⟩
        · exact .inr (.inl ⟨i, j, rfl, rfl, wide_mul h.1 h.2 (by decide) (by decide) (by decide), PostE.val (d := .int (i * j)) p rh rfl (fun _ z => nomatch z)⟩)
      · rw [if_neg h] at p; exact p.elim
    | _ => exact False.elim p
  | lst a =>
    cases dy with
    | int j =>
      obtain rfl := ry
      obtain ⟨la, va, rfl, qa, ga⟩ := Rep.lst_iff.mp rx
      have p : PostE G ρ H ((if a.length * j.toNat ≤ 10000 ∧ j.natAbs < 2 ^ 30 then R.ok (D.lst ((List.replicate j.toNat a).flatten)) M else .stuck).bind (fin m)) Q E := p
      by_cases h : a.length * j.toNat ≤ 10000 ∧ j.natAbs < 2 ^ 30
      · rw [if_pos h] at p
        refine .inr (.inr ⟨la, j, va, rfl, rfl, qa.1, by omega, by omega, sz4 (by rw [← pd_length ga]; exact h.1), fun q hq => PostE.newL p rh hq (pd_rep ga _)⟩)
      · rw [if_neg h] at p; exact p.elim
    | _ => exact False.elim p
  | _ => exact False.elim p
theorem snd_bin (hK : X.K = G.K) (m : Bool) (o : Op) : OpS X G (binaryOp (opOf o)) (fun x y M => (binop o x y M).bind (fin m)) := by
  cases o with
  | add => exact ops_add hK m
  | sub => exact ops_sub m
  | mul => exact ops_mul m
  | fdiv => exact ops_fdiv m
  | mod => exact ops_mod m
  | pow => exact ops_pow m
end
def toP : D → PyData
  | .non => .none
  | .bl b => .bool b
  | .int i => .int i
  | .str s => .str (mkS s)
  | .tup xs => .tuple (toPL xs)
  | .lst xs => .list (toPL xs)
  | _ => .none
where toPL : List D → List PyData
  | [] => []
  | x :: xs => toP x :: toPL xs
theorem mkS_inj {a b : List Nat} : mkS a = mkS b ↔ a = b := by
  constructor
  · intro h
    have h2 : a.toArray = b.toArray := congrArg Str.cps h
    simpa using congrArg Array.toList h2
  · intro h; rw [h]
mutual
theorem eqv_toP : ∀ (a b : D), a.isDat = true → b.isDat = true → PyData.eqv (toP a) (toP b) = D.eqv a b
  | .non, b, _, hb => by cases b <;> first | rfl | cases hb
  | .bl x, b, _, hb => by
    cases b with
    | int j =>
      show ((if x then 1 else 0 : Int) == j) = decide ((if x then 1 else 0 : Int) = j)
      exact Bool.beq_eq_decide_eq _ _
    | _ => first | rfl | cases hb
  | .int i, b, _, hb => by
    cases b with
    | int j => exact Bool.beq_eq_decide_eq _ _
    | bl x =>
      show (i == (if x then 1 else 0 : Int)) = decide (i = (if x then 1 else 0 : Int))
      exact Bool.beq_eq_decide_eq _ _
    | _ => first | rfl | cases hb
  | .str x, b, _, hb => by
    cases b with
    | str y =>
      show (mkS x == mkS y) = decide (x = y)
      rw [Bool.beq_eq_decide_eq]
      exact decide_eq_decide.mpr mkS_inj
    | _ => first | rfl | cases hb
  | .tup xs, b, ha, hb => by
    cases b with
    | tup ys => exact eqv_toPL xs ys ha hb
    | _ => first | rfl | cases hb
  | .lst xs, b, ha, hb => by
    cases b with
    | lst ys => exact eqv_toPL xs ys ha hb
    | _ => first | rfl | cases hb
  | .scr _, _, ha, _ => by cases ha
  | .dct _ _, _, ha, _ => by cases ha
  | .obj _, _, ha, _ => by cases ha
  | .fn _, _, ha, _ => by cases ha
  | .cls _, _, ha, _ => by cases ha
  | .ty _, _, ha, _ => by cases ha
theorem eqv_toPL : ∀ (xs ys : List D), D.isDat.datL xs = true → D.isDat.datL ys = true → PyData.eqvAll (toP.toPL xs) (toP.toPL ys) = D.eqv.eqvL xs ys
  | [], ys, _, _ => by cases ys <;> rfl
  | x :: xs, [], _, _ => rfl
  | x :: xs, y :: ys, ha, hb => by
    have ha : (D.isDat x && D.isDat.datL xs) = true := ha
    have hb : (D.isDat y && D.isDat.datL ys) = true := hb
    rw [Bool.and_eq_true] at ha hb
    show (PyData.eqv (toP x) (toP y) && PyData.eqvAll (toP.toPL xs) (toP.toPL ys)) = (D.eqv x y && D.eqv.eqvL xs ys)
    rw [eqv_toP x y ha.1 hb.1, eqv_toPL xs ys ha.2 hb.2]
end
theorem toPL_map : ∀ xs : List D, toP.toPL xs = xs.map toP
  | [] => rfl
  | x :: xs => by show toP x :: toP.toPL xs = _; rw [toPL_map xs]; rfl
theorem datL_all : ∀ xs : List D, D.isDat.datL xs = xs.all D.isDat
  | [] => rfl
  | x :: xs => by show (D.isDat x && D.isDat.datL xs) = _; rw [datL_all xs]; rfl
theorem mapM_cons_some {f : D → Option D} {x : D} {xs ys : List D} (h : (x :: xs).mapM f = some ys) : ∃ y r, f x = some y ∧ xs.mapM f = some r ∧ ys = y :: r := by
  rw [List.mapM_cons] at h
  cases e : f x with
  | none => rw [e] at h; cases h
  | some y =>
    rw [e] at h
    cases e2 : xs.mapM f with
    | none => rw [e2] at h; cases h
    | some r =>
      rw [e2] at h
      exact ⟨y, r, rfl, rfl, (Option.some.inj h).symm⟩
theorem depthAll_le {k : Nat} : ∀ {ds : List PyData}, (∀ d ∈ ds, d.depth ≤ k) → PyData.depthAll ds ≤ k
  | [], _ => Nat.zero_le _
  | d :: ds, h => by
    show max d.depth (PyData.depthAll ds) ≤ k
    have h1 := h d List.mem_cons_self
    have h2 := depthAll_le (ds := ds) fun e he => h e (List.mem_cons_of_mem _ he)
    omega
def Tells (G : Gi) (H : Hp) (k : Nat) (a : D) (v : V) : Prop := Dp G.K H v (toP a) ∧ (toP a).canLay0 = true ∧ (toP a).depth ≤ k
section
variable {G : Gi} {ρ : List Addr} {H : Hp} {M : MH}
theorem tells_list {k : Nat} {f : D → Option D} (ih : ∀ d a v, Rep G ρ H d v → f d = some a → a.isDat = true → Tells G H k a v) : ∀ {xs : List D} {vs : List V} {as : List D}, Reps G ρ H xs vs → xs.mapM f = some as → D.isDat.datL as = true →
    DpAll G.K H vs (toP.toPL as) ∧ PyData.canLayAll0 (toP.toPL as) = true ∧ PyData.depthAll (toP.toPL as) ≤ k := by
  intro xs
  induction xs with
  | nil =>
    intro vs as r h hd
    cases r
    have e : as = [] := (Option.some.inj h).symm
    subst e
    exact ⟨.nil, rfl, Nat.zero_le _⟩
  | cons x xs ihx =>
    intro vs as r h hd
    cases r with
    | cons r1 r2 =>
      obtain ⟨y, q, h1, h2, rfl⟩ := mapM_cons_some h
      have hd : (D.isDat y && D.isDat.datL q) = true := hd
      rw [Bool.and_eq_true] at hd
      obtain ⟨a1, a2, a3⟩ := ih x y _ r1 h1 hd.1
      obtain ⟨b1, b2, b3⟩ := ihx r2 h2 hd.2
      refine ⟨.cons a1 b1, ?_, ?_⟩
      · show (PyData.canLay0 (toP y) && PyData.canLayAll0 (toP.toPL q)) = true
        rw [a2, b2]; rfl
      · show max (toP y).depth (PyData.depthAll (toP.toPL q)) ≤ k
        omega
theorem dp_ints (H : Hp) : ∀ ns : List Int, DpAll G.K H (ns.map V.int) (toP.toPL (ns.map D.int)) ∧ PyData.canLayAll0 (toP.toPL (ns.map D.int)) = true ∧ PyData.depthAll (toP.toPL (ns.map D.int)) ≤ 0
  | [] => ⟨.nil, rfl, Nat.le_refl _⟩
  | n :: ns => by
    obtain ⟨a, b, c⟩ := dp_ints H ns
    refine ⟨.cons (.int n) a, ?_, ?_⟩
    · show (true && PyData.canLayAll0 (toP.toPL (ns.map D.int))) = true
      rw [b]; rfl
    · show max 0 (PyData.depthAll (toP.toPL (ns.map D.int))) ≤ 0
      omega
theorem tells (rh : RepH G ρ M H) : ∀ (k : Nat) (d a : D) (v : V), Rep G ρ H d v → res k M d = some a → a.isDat = true → Tells G H (k + 1) a v := by
  have lstI : ∀ (k : Nat) (ds : List D) (vs : List V) (a : Addr), SqL G.K H a vs → DpAll G.K H vs (toP.toPL ds) ∧ PyData.canLayAll0 (toP.toPL ds) = true ∧ PyData.depthAll (toP.toPL ds) ≤ k → Tells G H (k + 1) (.lst ds) (.ref a) := fun k ds vs a hs h =>
    ⟨.lst hs h.1, h.2.1, by show PyData.depthAll (toP.toPL ds) + 1 ≤ k + 1; omega⟩
  intro k
  induction k with
  | zero =>
    intro d a v r h hd
    cases d with
    | non => cases h; cases r; exact ⟨.non, rfl, Nat.zero_le _⟩
    | bl b => cases h; cases r; exact ⟨.bl b, rfl, Nat.zero_le _⟩
    | int i => cases h; cases r; exact ⟨.int i, rfl, Nat.zero_le _⟩
    | str s => cases h; obtain ⟨rfl, ok⟩ := r; exact ⟨.str _, ok, Nat.zero_le _⟩
    | scr ns =>
      cases h
      obtain ⟨b, rfl, hz⟩ := r
      exact lstI 0 _ _ b hz.sq (dp_ints H ns)
    | fn f => cases h; cases hd
    | cls f => cases h; cases hd
    | ty f => cases h; cases hd
    | tup xs => cases h
    | lst xs => cases h
    | dct ks vs => cases h
    | obj n => cases h
  | succ k ih =>
    intro d a v r h hd
    cases d with
    | non => cases h; cases r; exact ⟨.non, rfl, Nat.zero_le _⟩
    | bl b => cases h; cases r; exact ⟨.bl b, rfl, Nat.zero_le _⟩
    | int i => cases h; cases r; exact ⟨.int i, rfl, Nat.zero_le _⟩
    | str s => cases h; obtain ⟨rfl, ok⟩ := r; exact ⟨.str _, ok, Nat.zero_le _⟩
    | scr ns =>
      cases h
      obtain ⟨b, rfl, hz⟩ := r
      obtain ⟨x, y, z⟩ := dp_ints (G := G) H ns
      exact lstI (k + 1) _ _ b hz.sq ⟨x, y, by omega⟩
    | fn f => cases h; cases hd
    | cls f => cases h; cases hd
    | ty f => cases h; cases hd
    | dct ks vs => exact r.elim
    | tup xs =>
      obtain ⟨b, vs, rfl, hs, g⟩ := Rep.tup_iff.mp r
      have h : (xs.mapM (res k M)).map D.tup = some a := h
      cases e : xs.mapM (res k M) with
      | none => rw [e] at h; cases h
      | some as =>
        rw [e] at h
        cases h
        obtain ⟨x, y, z⟩ := tells_list ih g e hd
        exact ⟨.tup hs x, y, by show PyData.depthAll (toP.toPL as) + 1 ≤ k + 1 + 1; omega⟩
    | lst xs =>
      obtain ⟨b, vs, rfl, hs, g⟩ := Rep.lst_iff.mp r
      have h : (xs.mapM (res k M)).map D.lst = some a := h
      cases e : xs.mapM (res k M) with
      | none => rw [e] at h; cases h
      | some as =>
        rw [e] at h
        cases h
        exact lstI (k + 1) _ _ b (.of hs.1) (tells_list ih g e hd)
    | obj n =>
      obtain ⟨b, rfl, hb⟩ := r
      obtain ⟨mo, hm, ho⟩ := rh.tell hb
      cases mo with
      | lst xs =>
        obtain ⟨vs, h1, g⟩ := ho
        have h : (match M[n]? with
          | some (.lst xs) => (xs.mapM (res k M)).map D.lst
          | some (.dct ks vs) => (ks.mapM (res k M)).bind fun ks' => (vs.mapM (res k M)).map fun vs' => D.dct ks' vs'
          | _ => none) = some a := h
        rw [hm] at h
        have h : (xs.mapM (res k M)).map D.lst = some a := h
        cases e : xs.mapM (res k M) with
        | none => rw [e] at h; cases h
        | some as =>
          rw [e] at h
          cases h
          exact lstI (k + 1) _ _ b (.of h1) (tells_list ih g e hd)
      | dct ks vs => exact ho.elim
      | ins c fs => exact ho.elim
theorem Tells.shaped {k : Nat} {a : D} {v : V} (t : Tells G H k a v) (hk : k ≤ 64) : SeqAt.shaped (toP a) = true := by
  unfold SeqAt.shaped
  rw [t.2.1]
  exact decide_eq_true (Nat.le_trans t.2.2 hk)
end
end MiniS
set_option autoImplicit false
set_option maxRecDepth 100000
set_option maxHeartbeats 4000000
namespace MiniS
open PySem PySem.Spec PyProof.Rows L2 Mini
def cmOf : Cm → CmpOp
  | .eq => .Eq
  | .ne => .NotEq
  | .lt => .Lt
  | .le => .LtE
  | .gt => .Gt
  | .ge => .GtE
  | .is => .Is
  | .isnot => .IsNot
  | .mem => .In
  | .nmem => .NotIn
section
variable {X : Cx} {G : Gi}
def rInT (K : PySem.W.Frag) : R2 := fun x y H Q => ∃ d ds, Dp K H x d ∧ Dp K H y (.tuple ds) ∧ SeqAt.shaped d = true ∧ SeqAt.shaped (.tuple ds) = true ∧ Q (.bl (ds.any fun z => PyData.eqv z d)) H
def rNotInT (K : PySem.W.Frag) : R2 := fun x y H Q => ∃ d ds, Dp K H x d ∧ Dp K H y (.tuple ds) ∧ SeqAt.shaped d = true ∧ SeqAt.shaped (.tuple ds) = true ∧ Q (.bl (!ds.any fun z => PyData.eqv z d)) H
theorem op_inTD (hu : X.A.units + 65 < cLine) : OpR X (compareOp .In) (rInT X.K) := by
  intro pins s σ H x y v u Q I rx ry h
  obtain ⟨d, ds, hd, he, sd, se, q⟩ := h
  obtain ⟨as, r1⟩ := Dp.reads I d x v hd rx
  obtain ⟨bs, r2⟩ := Dp.reads I (.tuple ds) y u he ry
  exact SeqAt.in_tuple_reads r2 r1 (SeqAt.canLay_of_shaped se) (SeqAt.canLay_of_shaped sd) (room_in_shaped sd hu) ⟨.bl _, H, I, rfl, q⟩
theorem op_notInTD (hu : X.A.units + 65 < cLine) : OpR X (compareOp .NotIn) (rNotInT X.K) := by
  intro pins s σ H x y v u Q I rx ry h
  obtain ⟨d, ds, hd, he, sd, se, q⟩ := h
  obtain ⟨as, r1⟩ := Dp.reads I d x v hd rx
  obtain ⟨bs, r2⟩ := Dp.reads I (.tuple ds) y u he ry
  exact SeqAt.notIn_tuple_reads r2 r1 (SeqAt.canLay_of_shaped se) (SeqAt.canLay_of_shaped sd) (room_in_shaped sd hu) ⟨.bl _, H, I, rfl, q⟩
theorem any_toP (a : D) (ha : a.isDat = true) : ∀ bs : List D, D.isDat.datL bs = true → ((toP.toPL bs).any fun z => PyData.eqv z (toP a)) = bs.any fun b => D.eqv b a
  | [], _ => rfl
  | b :: bs, h => by
    have h : (D.isDat b && D.isDat.datL bs) = true := h
    rw [Bool.and_eq_true] at h
    show (PyData.eqv (toP b) (toP a) || (toP.toPL bs).any fun z => PyData.eqv z (toP a)) = (D.eqv b a || bs.any fun b => D.eqv b a)
    rw [eqv_toP b a h.1 ha, any_toP a ha bs h.2]
theorem opS_of {f : Value → Value → Sem Value} {g : D → D → MH → Option Bool} {r : R2} (ho : OpR X f r)
    (h : ∀ (ρ : List Addr) (M : MH) (H : Hp) (dx dy : D) (x y : V) (Q : VK) (b : Bool), RepH G ρ M H → Rep G ρ H dx x → Rep G ρ H dy y → g dx dy M = some b → Q (.bl b) H → r x y H Q) :
    OpS X G f (fun x y M => R.ofOpt ((g x y M).map .bl) M) := by
  refine ⟨r, ho, fun ρ M H dx dy x y Q E rh rx ry p => ?_⟩
  cases e : g dx dy M with
  | none =>
    have p : PostE G ρ H (R.ofOpt ((g dx dy M).map .bl) M) Q E := p
    rw [e] at p; exact p.elim
  | some b =>
    have p : PostE G ρ H (R.ofOpt ((g dx dy M).map .bl) M) Q E := p
    rw [e] at p
    exact h ρ M H dx dy x y Q b rh rx ry e (p.here rh rfl)
section
variable {ρ : List Addr} {M : MH} {H : Hp} {dx dy : D} {x y : V} {b : Bool}
theorem eqM_some (rh : RepH G ρ M H) (rx : Rep G ρ H dx x) (ry : Rep G ρ H dy y) (h : eqM M dx dy = some b) : ∃ d e, Dp G.K H x d ∧ Dp G.K H y e ∧ SeqAt.shaped d = true ∧ SeqAt.shaped e = true ∧ PyData.eqv d e = b := by
  unfold eqM at h
  split at h
  · rename_i a c ha hc
    split at h
    · rename_i hd
      rw [Bool.and_eq_true] at hd
      have t1 := tells rh 20 dx a x rx ha hd.1
      have t2 := tells rh 20 dy c y ry hc hd.2
      refine ⟨toP a, toP c, t1.1, t2.1, t1.shaped (by decide), t2.shaped (by decide), ?_⟩
      rw [eqv_toP a c hd.1 hd.2]
      exact Option.some.inj h
    · cases h
  · cases h
theorem memM_some (rh : RepH G ρ M H) (rx : Rep G ρ H dx x) (ry : Rep G ρ H dy y) (h : memM M dx dy = some b) :
    (∃ (c : Nat) (z : PySem.Str), x = .str ⟨#[c]⟩ ∧ y = .str z ∧ decide (c ∈ z.cps.toList) = b) ∨
    (∃ d ds, Dp G.K H x d ∧ Dp G.K H y (.list ds) ∧ SeqAt.shaped d = true ∧ SeqAt.shaped (.list ds) = true ∧ (ds.any fun z => PyData.eqv z d) = b) ∨
    (∃ d ds, Dp G.K H x d ∧ Dp G.K H y (.tuple ds) ∧ SeqAt.shaped d = true ∧ SeqAt.shaped (.tuple ds) = true ∧ (ds.any fun z => PyData.eqv z d) = b) := by
  have other : (match res 20 M dx, res 20 M dy with
    | some a, some (.lst bs) => if a.isDat && D.isDat.datL bs then some (bs.any fun b => D.eqv b a) else none
    | some a, some (.tup bs) => if a.isDat && D.isDat.datL bs then some (bs.any fun b => D.eqv b a) else none
    | _, _ => none) = some b → (∃ d ds, Dp G.K H x d ∧ Dp G.K H y (.list ds) ∧ SeqAt.shaped d = true ∧ SeqAt.shaped (.list ds) = true ∧ (ds.any fun z => PyData.eqv z d) = b) ∨
    (∃ d ds, Dp G.K H x d ∧ Dp G.K H y (.tuple ds) ∧ SeqAt.shaped d = true ∧ SeqAt.shaped (.tuple ds) = true ∧ (ds.any fun z => PyData.eqv z d) = b) := fun h => by
    split at h
    · rename_i a bs ha hb
      split at h
      · rename_i hd
        rw [Bool.and_eq_true] at hd
        have t1 := tells rh 20 dx a x rx ha hd.1
        have t2 := tells rh 20 dy (.lst bs) y ry hb hd.2
        refine .inl ⟨toP a, toP.toPL bs, t1.1, t2.1, t1.shaped (by decide), t2.shaped (by decide), ?_⟩
        rw [any_toP a hd.1 bs hd.2]
        exact Option.some.inj h
      · cases h
    · rename_i a bs ha hb
      split at h
      · rename_i hd
        rw [Bool.and_eq_true] at hd
        have t1 := tells rh 20 dx a x rx ha hd.1
        have t2 := tells rh 20 dy (.tup bs) y ry hb hd.2
        refine .inr ⟨toP a, toP.toPL bs, t1.1, t2.1, t1.shaped (by decide), t2.shaped (by decide), ?_⟩
        rw [any_toP a hd.1 bs hd.2]
        exact Option.some.inj h
      · cases h
    · cases h
  cases dy with
  | str s =>
    have h : memS dx s = some b := h
    unfold memS at h
    split at h
    · obtain ⟨rfl, _⟩ := rx
      obtain ⟨rfl, _⟩ := ry
      refine .inl ⟨_, _, rfl, rfl, ?_⟩
      have e : (mkS s).cps.toList = s := by unfold mkS; simp
      rw [e]
      exact Option.some.inj h
    · cases h
  | _ => exact .inr (other h)
end
theorem snd_cmp (hK : X.K = G.K) (hu : X.A.units + 65 < cLine) (o : Cm) : OpS X G (compareOp (cmOf o)) (cmpD o) := by
  cases o with
  | eq =>
    refine opS_of (op_eqD (by omega)) fun ρ M H dx dy x y Q b rh rx ry h q => ?_
    obtain ⟨d, e, h1, h2, h3, h4, h5⟩ := eqM_some rh rx ry h
    rw [← hK] at h1 h2
    exact ⟨d, e, h1, h2, h3, h4, by rw [h5]; exact q⟩
  | ne =>
    refine opS_of (op_neD (by omega)) fun ρ M H dx dy x y Q b rh rx ry h q => ?_
    have h : (eqM M dx dy).map (!·) = some b := h
    cases he : eqM M dx dy with
    | none => rw [he] at h; cases h
    | some c =>
      rw [he] at h
      have hb : (!c) = b := Option.some.inj h
      obtain ⟨d, e, h1, h2, h3, h4, h5⟩ := eqM_some rh rx ry he
      rw [← hK] at h1 h2
      exact ⟨d, e, h1, h2, h3, h4, by rw [h5, hb]; exact q⟩
  | lt =>
    refine opS_of op_lt fun ρ M H dx dy x y Q b rh rx ry h q => ?_
    cases dx <;> first | cases h | (cases dy <;> first | cases h | skip)
    cases rx; cases ry
    exact ⟨_, _, rfl, rfl, q⟩
  | le =>
    refine opS_of op_le fun ρ M H dx dy x y Q b rh rx ry h q => ?_
    cases dx <;> first | cases h | (cases dy <;> first | cases h | skip)
    cases rx; cases ry
    exact ⟨_, _, rfl, rfl, q⟩
  | gt =>
    refine opS_of op_gt fun ρ M H dx dy x y Q b rh rx ry h q => ?_
    cases dx <;> first | cases h | (cases dy <;> first | cases h | skip)
    cases rx; cases ry
    exact ⟨_, _, rfl, rfl, q⟩
  | ge =>
    refine opS_of op_ge fun ρ M H dx dy x y Q b rh rx ry h q => ?_
    cases dx <;> first | cases h | (cases dy <;> first | cases h | skip)
    cases rx; cases ry
    exact ⟨_, _, rfl, rfl, q⟩
  | is =>
    refine opS_of (op_isN.or op_isBl) fun ρ M H dx dy x y Q b rh rx ry h q => ?_
    cases dy with
    | non =>
      cases ry
      refine .inl ⟨rfl, ?_⟩
      have nn : ∀ {d : D} {v : V}, Rep G ρ H d v → (match d with | .non => some true | _ => some false) = some b → decide (v = V.non) = b := fun {d v} r h => by
        cases d with
        | non => cases r; cases h; rfl
        | bl _ => cases r; cases h; rfl
        | int _ => cases r; cases h; rfl
        | str _ => obtain ⟨rfl, _⟩ := r; cases h; rfl
        | tup _ => obtain ⟨_, _, rfl, _⟩ := r; cases h; rfl
        | lst _ => obtain ⟨_, _, rfl, _⟩ := r; cases h; rfl
        | scr _ => obtain ⟨_, rfl, _⟩ := r; cases h; rfl
        | dct _ _ => exact r.elim
        | obj _ => obtain ⟨_, rfl, _⟩ := r; cases h; rfl
        | fn _ => cases r; cases h; rfl
        | cls _ => cases r; cases h; rfl
        | ty _ => cases r; cases h; rfl
      rw [nn rx h]
      exact q
    | bl c =>
      cases dx <;> first | cases h | skip
      cases rx; cases ry
      refine .inr ⟨_, c, rfl, rfl, ?_⟩
      rw [← Bool.beq_eq_decide_eq]
      exact q
    | _ => cases h
  | isnot =>
    refine opS_of (op_notN.or op_notBl) fun ρ M H dx dy x y Q b rh rx ry h q => ?_
    cases dy with
    | non =>
      cases ry
      refine .inl ⟨rfl, ?_⟩
      have nn : ∀ {d : D} {v : V}, Rep G ρ H d v → (match d with | .non => some false | _ => some true) = some b → (!decide (v = V.non)) = b := fun {d v} r h => by
        cases d with
        | non => cases r; cases h; rfl
        | bl _ => cases r; cases h; rfl
        | int _ => cases r; cases h; rfl
        | str _ => obtain ⟨rfl, _⟩ := r; cases h; rfl
        | tup _ => obtain ⟨_, _, rfl, _⟩ := r; cases h; rfl
        | lst _ => obtain ⟨_, _, rfl, _⟩ := r; cases h; rfl
        | scr _ => obtain ⟨_, rfl, _⟩ := r; cases h; rfl
        | dct _ _ => exact r.elim
        | obj _ => obtain ⟨_, rfl, _⟩ := r; cases h; rfl
        | fn _ => cases r; cases h; rfl
        | cls _ => cases r; cases h; rfl
        | ty _ => cases r; cases h; rfl
      rw [nn rx h]
      exact q
    | bl c =>
      cases dx <;> first | cases h | skip
      cases rx; cases ry
      refine .inr ⟨_, c, rfl, rfl, ?_⟩
      rw [← Bool.beq_eq_decide_eq]
      exact q
    | _ => cases h
  | mem =>
    refine opS_of (op_in_sign.or ((op_inD hu).or (op_inTD hu))) fun ρ M H dx dy x y Q b rh rx ry h q => ?_
    rcases memM_some rh rx ry h with ⟨c, z, h1, h2, h3⟩ | ⟨d, ds, h1, h2, h3, h4, h5⟩ | ⟨d, ds, h1, h2, h3, h4, h5⟩
    · exact .inl ⟨c, z, h1, h2, by rw [h3]; exact q⟩
    · rw [← hK] at h1 h2
      exact .inr (.inl ⟨d, ds, h1, h2, h3, h4, by rw [h5]; exact q⟩)
    · rw [← hK] at h1 h2
      exact .inr (.inr ⟨d, ds, h1, h2, h3, h4, by rw [h5]; exact q⟩)
  | nmem =>
    refine opS_of (op_notIn_sign.or ((op_notInD hu).or (op_notInTD hu))) fun ρ M H dx dy x y Q b rh rx ry h q => ?_
    have h : (memM M dx dy).map (!·) = some b := h
    cases he : memM M dx dy with
    | none => rw [he] at h; cases h
    | some c =>
      rw [he] at h
      have hb : (!c) = b := Option.some.inj h
      rcases memM_some rh rx ry he with ⟨c', z, h1, h2, h3⟩ | ⟨d, ds, h1, h2, h3, h4, h5⟩ | ⟨d, ds, h1, h2, h3, h4, h5⟩
      · exact .inl ⟨c', z, h1, h2, by rw [h3, hb]; exact q⟩
      · rw [← hK] at h1 h2
        exact .inr (.inl ⟨d, ds, h1, h2, h3, h4, by rw [h5, hb]; exact q⟩)
      · rw [← hK] at h1 h2
        exact .inr (.inr ⟨d, ds, h1, h2, h3, h4, by rw [h5, hb]; exact q⟩)
end
end MiniS
set_option autoImplicit false
set_option maxRecDepth 100000
set_option maxHeartbeats 4000000
namespace MiniS
open PySem PySem.Spec PyProof.Rows L2 Mini
def CallS (X : Cx) (G : Gi) (f : Value) (g : List D → MH → R D) : Prop :=
  ∃ r : List V → Hp → VK → Prop, CallR X f r ∧ ∀ (ρ : List Addr) (M : MH) (H : Hp) (ds : List D) (vs : List V) (Q : VK) (E : Nat → Hp → Prop), RepH G ρ M H → Reps G ρ H ds vs → PostE G ρ H (g ds M) Q E → r vs H Q
section
variable {X : Cx} {G : Gi} {ρ : List Addr} {M : MH} {H : Hp}
theorem reps1 {ds : List D} {vs : List V} {d : D} (h : Reps G ρ H ds vs) (e : ds = [d]) : ∃ v, vs = [v] ∧ Rep G ρ H d v := by
  subst e
  cases h with
  | cons a t => cases t; exact ⟨_, rfl, a⟩
theorem reps2 {ds : List D} {vs : List V} {d e : D} (h : Reps G ρ H ds vs) (q : ds = [d, e]) : ∃ v w, vs = [v, w] ∧ Rep G ρ H d v ∧ Rep G ρ H e w := by
  subst q
  cases h with
  | cons a t =>
    cases t with
    | cons b u => cases u; exact ⟨_, _, rfl, a, b⟩
theorem callS_one {f : Value} {g : D → MH → R D} {r : List V → Hp → VK → Prop} (ho : CallR X f r)
    (h : ∀ (ρ : List Addr) (M : MH) (H : Hp) (d : D) (v : V) (Q : VK) (E : Nat → Hp → Prop), RepH G ρ M H → Rep G ρ H d v → PostE G ρ H (g d M) Q E → r [v] H Q) : CallS X G f (fun as M => one1 as fun x => g x M) := by
  refine ⟨r, ho, fun ρ M H ds vs Q E rh rs p => ?_⟩
  match ds, rs, p with
  | [], _, p => exact False.elim p
  | [d], rs, p =>
    obtain ⟨v, rfl, rv⟩ := reps1 rs rfl
    exact h ρ M H d v Q E rh rv p
  | _ :: _ :: _, _, p => exact False.elim p
theorem callS_oneM {f : Value} {g : D → MH → R D} {r : List V → Hp → VK → Prop} (m : Bool) (ho : CallR X f r)
    (h : ∀ (ρ : List Addr) (M : MH) (H : Hp) (d : D) (v : V) (Q : VK) (E : Nat → Hp → Prop), RepH G ρ M H → Rep G ρ H d v → PostE G ρ H ((g d M).bind (fin m)) Q E → r [v] H Q) : CallS X G f (fun as M => (one1 as fun x => g x M).bind (fin m)) := by
  refine ⟨r, ho, fun ρ M H ds vs Q E rh rs p => ?_⟩
  match ds, rs, p with
  | [], _, p => exact False.elim p
  | [d], rs, p =>
    obtain ⟨v, rfl, rv⟩ := reps1 rs rfl
    exact h ρ M H d v Q E rh rv p
  | _ :: _ :: _, _, p => exact False.elim p
theorem bind_false (r : R D) : r.bind (fin false) = r := by cases r <;> rfl
theorem callS_false {f : Value} {g : List D → MH → R D} (h : CallS X G f g) : CallS X G f (fun as M => (g as M).bind (fin false)) := by
  obtain ⟨r, h1, h2⟩ := h
  refine ⟨r, h1, fun ρ M H ds vs Q E rh rs p => h2 ρ M H ds vs Q E rh rs ?_⟩
  have p : PostE G ρ H ((g ds M).bind (fin false)) Q E := p
  rw [bind_false] at p
  exact p
theorem PostE.optM {o : Option D} {m : Bool} {Q : VK} {E : Nat → Hp → Prop} (p : PostE G ρ H ((R.ofOpt o M).bind (fin m)) Q E) : ∃ d, o = some d ∧ PostE G ρ H (fin m d M) Q E := by
  cases o with
  | none => exact False.elim p
  | some d => exact ⟨d, rfl, p⟩
theorem PostE.opt {o : Option D} {Q : VK} {E : Nat → Hp → Prop} (p : PostE G ρ H (R.ofOpt o M) Q E) : ∃ d, o = some d ∧ PostE G ρ H (.ok d M) Q E := by
  cases o with
  | none => exact False.elim p
  | some d => exact ⟨d, rfl, p⟩
theorem ints_rep : ∀ {xs : List D} {vs : List V} {ns : List Int}, Reps G ρ H xs vs → intsOf xs = some ns → vs = ns.map V.int
  | [], _, ns, r, h => by
    cases r
    cases h
    rfl
  | .int i :: xs, _, ns, r, h => by
    cases r with
    | cons a t =>
      have h : (intsOf xs).map (i :: ·) = some ns := h
      cases e : intsOf xs with
      | none => rw [e] at h; cases h
      | some ms =>
        rw [e] at h
        cases h
        rw [ints_rep t e]
        cases a
        rfl
  | .non :: _, _, _, _, h => by cases h
  | .bl _ :: _, _, _, _, h => by cases h
  | .str _ :: _, _, _, _, h => by cases h
  | .tup _ :: _, _, _, _, h => by cases h
  | .lst _ :: _, _, _, _, h => by cases h
  | .scr _ :: _, _, _, _, h => by cases h
  | .dct _ _ :: _, _, _, _, h => by cases h
  | .obj _ :: _, _, _, _, h => by cases h
  | .fn _ :: _, _, _, _, h => by cases h
  | .cls _ :: _, _, _, _, h => by cases h
  | .ty _ :: _, _, _, _, h => by cases h
theorem bools_rep : ∀ {xs : List D} {vs : List V} {ns : List Bool}, Reps G ρ H xs vs → boolsOf xs = some ns → vs = ns.map V.bl
  | [], _, ns, r, h => by
    cases r
    cases h
    rfl
  | .bl i :: xs, _, ns, r, h => by
    cases r with
    | cons a t =>
      have h : (boolsOf xs).map (i :: ·) = some ns := h
      cases e : boolsOf xs with
      | none => rw [e] at h; cases h
      | some ms =>
        rw [e] at h
        cases h
        rw [bools_rep t e]
        cases a
        rfl
  | .non :: _, _, _, _, h => by cases h
  | .int _ :: _, _, _, _, h => by cases h
  | .str _ :: _, _, _, _, h => by cases h
  | .tup _ :: _, _, _, _, h => by cases h
  | .lst _ :: _, _, _, _, h => by cases h
  | .scr _ :: _, _, _, _, h => by cases h
  | .dct _ _ :: _, _, _, _, h => by cases h
  | .obj _ :: _, _, _, _, h => by cases h
  | .fn _ :: _, _, _, _, h => by cases h
  | .cls _ :: _, _, _, _, h => by cases h
  | .ty _ :: _, _, _, _, h => by cases h
theorem intsL {d : D} {v : V} {ns : List Int} (rh : RepH G ρ M H) (rv : Rep G ρ H d v) (h : (itemsL M d).bind intsOf = some ns) : ∃ a, v = .ref a ∧ H a = some (.lst (ns.map V.int)) := by
  cases e : itemsL M d with
  | none => rw [e] at h; cases h
  | some xs =>
    rw [e] at h
    obtain ⟨a, vs, rfl, g, q⟩ := itemsL_rep rh rv e
    rw [ints_rep g h] at q
    exact ⟨a, rfl, q⟩
theorem boolsL {d : D} {v : V} {ns : List Bool} (rh : RepH G ρ M H) (rv : Rep G ρ H d v) (h : (itemsL M d).bind boolsOf = some ns) : ∃ a, v = .ref a ∧ H a = some (.lst (ns.map V.bl)) := by
  cases e : itemsL M d with
  | none => rw [e] at h; cases h
  | some xs =>
    rw [e] at h
    obtain ⟨a, vs, rfl, g, q⟩ := itemsL_rep rh rv e
    rw [bools_rep g h] at q
    exact ⟨a, rfl, q⟩
theorem mapSome {α β : Type} {o : Option α} {f : α → β} {b : β} (h : o.map f = some b) : ∃ a, o = some a ∧ f a = b := Option.map_eq_some_iff.mp h
theorem cs_len (hK : X.K = G.K) : CallS X G (.builtin "len") (bfn .len) := by
  refine callS_one (call_len_seq.or call_len_str) fun ρ M H d v Q E rh rv p => ?_
  have seq : PostE G ρ H (R.ofOpt ((items M d).map fun xs => D.int xs.length) M) Q E → (∃ p ys, [v] = [V.ref p] ∧ (SqL X.K H p ys ∨ SqT X.K H p ys) ∧ Q (.int ys.length) H) := fun p => by
    obtain ⟨x, e, p⟩ := p.opt
    obtain ⟨xs, e1, rfl⟩ := mapSome e
    obtain ⟨a, vs, rfl, g, q⟩ := items_sq rh rv e1
    refine ⟨a, vs, rfl, by rw [hK]; exact q, ?_⟩
    rw [← pd_length g]
    exact p.here rh rfl
  cases d with
  | str s =>
    obtain ⟨rfl, ok⟩ := rv
    have p : PostE G ρ H (if s.length ≤ 10000 then .ok (.int s.length) M else .stuck) Q E := p
    by_cases hz : s.length ≤ 10000
    · rw [if_pos hz] at p
      refine .inr ⟨mkS s, rfl, by rw [mkS_length]; exact sz4 hz, ?_⟩
      rw [mkS_length]
      exact p.here rh rfl
    · rw [if_neg hz] at p; exact p.elim
  | scr ns =>
    obtain ⟨a, rfl, hz⟩ := rv
    refine .inl ⟨a, ns.map V.int, rfl, .inl (by rw [hK]; exact hz.sq), ?_⟩
    rw [List.length_map]
    exact PostE.here (d := .int ns.length) p rh rfl
  | tup xs => exact .inl (seq p)
  | lst xs => exact .inl (seq p)
  | obj n => exact .inl (seq p)
  | _ => exact False.elim p
theorem cs_sum (hK : X.K = G.K) (hc : X.calm = true) : CallS X G (.builtin "sum") (bfn .sum) := by
  refine callS_one (cr_sum hc) fun ρ M H d v Q E rh rv p => ?_
  obtain ⟨x, e, p⟩ := PostE.opt p
  obtain ⟨ns, e1, rfl⟩ := mapSome e
  obtain ⟨a, rfl, q⟩ := intsL rh rv e1
  exact ⟨a, ns, rfl, .of q, p.here rh rfl⟩
theorem cs_all (hK : X.K = G.K) (hc : X.calm = true) : CallS X G (.builtin "all") (bfn .all) := by
  refine callS_one (cr_all hc) fun ρ M H d v Q E rh rv p => ?_
  obtain ⟨x, e, p⟩ := PostE.opt p
  obtain ⟨ns, e1, rfl⟩ := mapSome e
  obtain ⟨a, rfl, q⟩ := boolsL rh rv e1
  exact ⟨a, ns, rfl, .of q, p.here rh rfl⟩
theorem cs_any (hK : X.K = G.K) (hc : X.calm = true) : CallS X G (.builtin "any") (bfn .any) := by
  refine callS_one (cr_any hc) fun ρ M H d v Q E rh rv p => ?_
  obtain ⟨x, e, p⟩ := PostE.opt p
  obtain ⟨ns, e1, rfl⟩ := mapSome e
  obtain ⟨a, rfl, q⟩ := boolsL rh rv e1
  exact ⟨a, ns, rfl, .of q, p.here rh rfl⟩
theorem cs_abs : CallS X G (.builtin "abs") (bfn .abs) := by
  refine callS_one call_abs fun ρ M H d v Q E rh rv p => ?_
  cases d with
  | int i =>
    cases rv
    exact ⟨i, rfl, PostE.here p rh rfl⟩
  | _ => exact False.elim p
theorem minI_spec : ∀ (ns : List Int) (m : Int), (minI m ns ∈ m :: ns) ∧ ∀ y ∈ m :: ns, minI m ns ≤ y
  | [], m => ⟨List.mem_cons_self, fun y hy => by
    have e : y = m := by simpa using hy
    rw [e]
    exact Int.le_refl m⟩
  | x :: ns, m => by
    obtain ⟨h1, h2⟩ := minI_spec ns (if x < m then x else m)
    show minI (if x < m then x else m) ns ∈ m :: x :: ns ∧ ∀ y ∈ m :: x :: ns, minI (if x < m then x else m) ns ≤ y
    have h3 := h2 _ List.mem_cons_self
    refine ⟨?_, fun y hy => ?_⟩
    · rcases List.mem_cons.mp h1 with e | e
      · rw [e]
        split
        · exact List.mem_cons_of_mem _ List.mem_cons_self
        · exact List.mem_cons_self
      · exact List.mem_cons_of_mem _ (List.mem_cons_of_mem _ e)
    · rcases List.mem_cons.mp hy with e | e
      · subst e
        split at h3 <;> split <;> omega
      · rcases List.mem_cons.mp e with e | e
        · subst e
          split at h3 <;> split <;> omega
        · exact h2 y (List.mem_cons_of_mem _ e)
theorem maxI_spec : ∀ (ns : List Int) (m : Int), (maxI m ns ∈ m :: ns) ∧ ∀ y ∈ m :: ns, y ≤ maxI m ns
  | [], m => ⟨List.mem_cons_self, fun y hy => by
    have e : y = m := by simpa using hy
    rw [e]
    exact Int.le_refl m⟩
  | x :: ns, m => by
    obtain ⟨h1, h2⟩ := maxI_spec ns (if m < x then x else m)
    show maxI (if m < x then x else m) ns ∈ m :: x :: ns ∧ ∀ y ∈ m :: x :: ns, y ≤ maxI (if m < x then x else m) ns
    have h3 := h2 _ List.mem_cons_self
    refine ⟨?_, fun y hy => ?_⟩
    · rcases List.mem_cons.mp h1 with e | e
      · rw [e]
        split
        · exact List.mem_cons_of_mem _ List.mem_cons_self
        · exact List.mem_cons_self
      · exact List.mem_cons_of_mem _ (List.mem_cons_of_mem _ e)
    · rcases List.mem_cons.mp hy with e | e
      · subst e
        split at h3 <;> split <;> omega
      · rcases List.mem_cons.mp e with e | e
        · subst e
          split at h3 <;> split <;> omega
        · exact h2 y (List.mem_cons_of_mem _ e)
theorem bindSome {α β : Type} {o : Option α} {f : α → Option β} {b : β} (h : o.bind f = some b) : ∃ a, o = some a ∧ f a = some b := Option.bind_eq_some_iff.mp h
theorem oneD_some {as : List D} {d : D} (h : oneD as = some d) : as = [d] := by
  match as, h with
  | [x], h => cases h; rfl
theorem cs_min (hK : X.K = G.K) (hc : X.calm = true) : CallS X G (.builtin "min") (bfn .min) := by
  refine ⟨_, (call_min2 hc).or (cr_min hc), fun ρ M H ds vs Q E rh rs p => ?_⟩
  change PostE G ρ H (minD ds M) Q E at p
  unfold minD at p
  split at p
  · rename_i i j
    obtain ⟨v, w, rfl, r1, r2⟩ := reps2 rs rfl
    cases r1; cases r2
    exact .inl ⟨i, j, rfl, p.here rh rfl⟩
  · obtain ⟨x, e, p⟩ := p.opt
    obtain ⟨m, e1, rfl⟩ := mapSome e
    obtain ⟨ns, e2, e3⟩ := bindSome e1
    obtain ⟨xs, e4, e5⟩ := bindSome e2
    obtain ⟨d, e6, e7⟩ := bindSome e4
    obtain ⟨v, rfl, rv⟩ := reps1 rs (oneD_some e6)
    obtain ⟨a, rfl, q⟩ := intsL (ns := ns) rh rv (by rw [e7]; exact e5)
    cases ns with
    | nil => cases e3
    | cons n ns =>
      have em : minI n ns = m := Option.some.inj e3
      obtain ⟨s1, s2⟩ := minI_spec ns n
      rw [em] at s1 s2
      refine .inr ⟨a, n :: ns, rfl, .of q, by simp, fun z hz hl => ?_⟩
      have ez : z = m := Int.le_antisymm (hl m s1) (s2 z hz)
      rw [ez]
      exact p.here rh rfl
theorem cs_max (hK : X.K = G.K) (hc : X.calm = true) : CallS X G (.builtin "max") (bfn .max) := by
  refine ⟨_, (call_max2 hc).or (cr_max hc), fun ρ M H ds vs Q E rh rs p => ?_⟩
  change PostE G ρ H (maxD ds M) Q E at p
  unfold maxD at p
  split at p
  · rename_i i j
    obtain ⟨v, w, rfl, r1, r2⟩ := reps2 rs rfl
    cases r1; cases r2
    exact .inl ⟨i, j, rfl, p.here rh rfl⟩
  · obtain ⟨x, e, p⟩ := p.opt
    obtain ⟨m, e1, rfl⟩ := mapSome e
    obtain ⟨ns, e2, e3⟩ := bindSome e1
    obtain ⟨xs, e4, e5⟩ := bindSome e2
    obtain ⟨d, e6, e7⟩ := bindSome e4
    obtain ⟨v, rfl, rv⟩ := reps1 rs (oneD_some e6)
    obtain ⟨a, rfl, q⟩ := intsL (ns := ns) rh rv (by rw [e7]; exact e5)
    cases ns with
    | nil => cases e3
    | cons n ns =>
      have em : maxI n ns = m := Option.some.inj e3
      obtain ⟨s1, s2⟩ := maxI_spec ns n
      rw [em] at s1 s2
      refine .inr ⟨a, n :: ns, rfl, .of q, by simp, fun z hz hl => ?_⟩
      have ez : z = m := Int.le_antisymm (s2 z hz) (hl m s1)
      rw [ez]
      exact p.here rh rfl
theorem cs_tuple (hK : X.K = G.K) : CallS X G (.type "tuple") (bfn .tuple) := by
  refine callS_one call_tuple_of fun ρ M H d v Q E rh rv p => ?_
  obtain ⟨x, e, p⟩ := PostE.opt p
  obtain ⟨xs, e1, rfl⟩ := mapSome e
  obtain ⟨a, vs, rfl, g, q⟩ := items_rep rh rv e1
  rcases q with ⟨q, _⟩ | ⟨q, rfl⟩
  · refine ⟨a, vs, rfl, .inl ⟨.of q, fun l hl => ?_⟩⟩
    exact p.new rh hl (Rep.tup_iff.mpr ⟨l, vs, rfl, .of upd_same, Reps.mono (Le.laid hl) g⟩)
  · exact ⟨a, vs, rfl, .inr ⟨by rw [hK]; exact q, p.here rh rv⟩⟩
theorem cs_list (hK : X.K = G.K) (m : Bool) : CallS X G (.type "list") (fun as M => (bfn .list as M).bind (fin m)) := by
  refine callS_oneM m call_list_of fun ρ M H d v Q E rh rv p => ?_
  obtain ⟨x, e, p⟩ := PostE.optM p
  obtain ⟨xs, e1, rfl⟩ := mapSome e
  obtain ⟨a, vs, rfl, g, q⟩ := items_sq rh rv e1
  exact ⟨a, vs, rfl, by rw [hK]; exact q, fun l hl => PostE.newL p rh hl g⟩
theorem tup_ty {K : PySem.W.Frag} {a : Addr} {vs : List V} (h : SqT K H a vs) : TyX K H (.ref a) (.type "tuple") := by
  rcases h with (h | ⟨o, h⟩) | ⟨o, its, n, h1, h2, _⟩
  · exact .base (.tup h)
  · exact .fTuple h
  · exact .kTuple h1 h2
theorem scr_ty {K : PySem.W.Frag} {a : Addr} {vs : List V} (h : Fz K H a vs) : TyX K H (.ref a) (.type "list") := by
  rcases h with ⟨o, h⟩ | ⟨o, its, n, h1, h2, _⟩
  · exact .base (.frz h)
  · exact .kList h1 h2
theorem kit_all (a : String) (t : Ty) (b : Bool) (h : kitB a (tyName t) = some b) {K : PySem.W.Frag} : PySem.W.kitOne K (.type a) (.type (tyName t)) = some b := kit_ty h
theorem cs_isi (hK : X.K = G.K) : CallS X G (.builtin "isinstance") (bfn .isinst) := by
  refine ⟨_, call_isi, fun ρ M H ds vs Q E rh rs p => ?_⟩
  change PostE G ρ H (isinstD ds M) Q E at p
  unfold isinstD at p
  split at p
  · rename_i x t
    obtain ⟨v, w, rfl, rx, rt⟩ := reps2 rs rfl
    cases rt
    obtain ⟨y, e, p⟩ := p.opt
    obtain ⟨b, e1, rfl⟩ := mapSome e
    have q : Q (.bl b) H := p.here rh rfl
    have fin : ∀ (a : String), TyX X.K H v (.type a) → kitB a (tyName t) = some b → rIsi X.K [v, .ty (tyName t)] H Q := fun a ty hk => ⟨v, .ty (tyName t), .type a, .type (tyName t), b, rfl, .ty _, ty, kit_ty hk, q⟩
    unfold isTy at e1
    cases x with
    | non => cases rx; refine fin "NoneType" (.base .non) ?_; cases t <;> (cases e1; decide +kernel)
    | bl c => cases rx; refine fin "bool" (.base (.bl c)) ?_; cases t <;> (cases e1; decide +kernel)
    | int c => cases rx; refine fin "int" (.base (.int c)) ?_; cases t <;> (cases e1; decide +kernel)
    | str c => obtain ⟨rfl, _⟩ := rx; refine fin "str" (.base (.str _)) ?_; cases t <;> (cases e1; decide +kernel)
    | tup xs => obtain ⟨a, vs, rfl, h, _⟩ := rx; refine fin "tuple" (tup_ty (by rw [hK]; exact h)) ?_; cases t <;> (cases e1; decide +kernel)
    | lst xs => obtain ⟨a, vs, rfl, h, _⟩ := rx; refine fin "list" (.base (.lst h.1)) ?_; cases t <;> (cases e1; decide +kernel)
    | scr ns => cases e1
    | dct ks vs => exact rx.elim
    | obj n =>
      obtain ⟨a, rfl, h⟩ := rx
      obtain ⟨mo, hm, ho⟩ := rh.tell h
      obtain ⟨vs, hv⟩ := ho.there
      unfold kindD at e1
      simp only [hm] at e1
      cases mo with
      | lst zs => refine fin "list" (.base (.lst hv)) ?_; cases t <;> (cases e1; decide +kernel)
      | dct ks ws => cases e1
      | ins c fs => cases e1
    | fn f => cases e1
    | cls c => cases e1
    | ty c => cases e1
  · exact False.elim p
end
end MiniS
set_option autoImplicit false
set_option maxRecDepth 100000
set_option maxHeartbeats 4000000
namespace MiniS
open PySem PySem.Spec PyProof.Rows L2 Mini
section
variable {prog : Program} {w : World} {A : Around} {E : Value → Shared → Prop} {s : Shared}
theorem coll_tup {t : Addr} {vs : List Value} {Q : List Value → Shared → Prop} (ht : IsTup s.heap t vs.toArray)
    (h : Q vs { s with heap := (s.heap.push (seqObj "list" #[] 0)).update s.heap.objs.size (Obj.mapSeq (· ++ vs.toArray)) }) (hz : vs.length ≤ sizeLine) : wpAny (model prog w) A (collect (.ref t)) Q E s := by
  obtain ⟨o, ho, hc, n, hd⟩ := id ht
  unfold collect
  refine wpAny_bind (wpAny_runValue (codeAny_builtin entry_proto_collect' ?_))
  show wpAny _ _ (do again (.builtin "list.__iadd__" ⟨[← newList [], .ref t], []⟩)) _ _ s
  refine wpAny_bind (wpAny_newList (wpAny_pure ⟨Code.quiet_builtin _ (by decide +kernel), codeAny_builtin entry_list_iadd' ?_⟩))
  show wpAny _ _ (Builtin.List.listExtendWith (.ref s.heap.objs.size) (.ref t) (.ref s.heap.objs.size)) _ _ { s with heap := s.heap.push (seqObj "list" #[] 0) }
  unfold Builtin.List.listExtendWith
  have ho' : (s.heap.push (seqObj "list" #[] 0)).get? t = some o := Heap.get?_push_of_some _ ho
  refine wpAny_bind (wpAny_typeOf (T := "tuple") ⟨o, ho', hc⟩ ?_)
  have ht2 : (Value.type "tuple" == Value.type "tuple") = true := by rfl
  rw [if_pos (by rw [ht2]; simp)]
  refine wpAny_bind (listItems_at ho' hd ?_)
  refine wpAny_bind (listItems_at (xs := #[]) (n := 0) (Heap.get?_push_size _ rfl) rfl ?_)
  rw [if_neg (by simp)]
  refine wpAny_bind (listUpdate_at (xs := #[]) (n := 0) (Heap.get?_push_size _ rfl) rfl ?_ (Nat.zero_le _) (by show (#[] ++ vs.toArray).size ≤ sizeLine + 1; simp only [Array.size_append, List.size_toArray, List.length_nil]; omega))
  refine wpAny_pure ?_
  show wpAny (model prog w) A (do
      let o ← load s.heap.objs.size
      match o.data with
      | .seq xs _ => pure xs.toList
      | _ => unsupported "internal:collect") Q E { s with heap := (s.heap.push (seqObj "list" #[] 0)).update s.heap.objs.size (Obj.mapSeq (· ++ vs.toArray)) }
  refine wpAny_bind (wpAny_load (get?_update_seq (Heap.get?_push_size _ rfl) _) ?_)
  show wpAny _ _ (pure ((#[] : Array Value) ++ vs.toArray).toList) Q E _
  rw [show ((#[] : Array Value) ++ vs.toArray).toList = vs by simp]
  exact wpAny_pure h
theorem srt_tup {t : Addr} {vs : List Value} {k : Value → Int × Int} {Q : Value → Shared → Prop} (hl : IsTup s.heap t vs.toArray) (hz : vs.length ≤ sizeLine) (hp : ∀ v ∈ vs, Srt.IsPair s.heap v (k v).1 (k v).2)
    (h : ∀ (h' : Heap) (d : Addr) (out : List Value), SrtO.Srtd (fun v u => SrtO.lexB (k v) (k u)) out → SrtO.Stb (fun v u => SrtO.lexB (k v) (k u)) out vs → (∀ b o, s.heap.get? b = some o → h'.get? b = some o) → s.heap.objs.size ≤ d → (∃ n, h'.get? d = some (seqObj "list" out.toArray n)) → Q (.ref d) { s with heap := h' }) :
    wpAny (model prog w) A (call (.builtin "sorted") [.ref t]) Q E s := by
  refine Calls.call_function_entry kind_sorted plain_sorted entry_sorted (args_sorted1 _) ?_
  unfold Builtin.«sorted»
  refine wpAny_bind (m := checkCount "sorted" 1 1 _) (wpAny_pure ?_)
  refine wpAny_bind (coll_tup hl ?_ hz)
  refine wpAny_bind (wpAny_newList ?_ hz)
  have hsz : ((s.heap.push (seqObj "list" #[] 0)).update s.heap.objs.size (Obj.mapSeq (· ++ vs.toArray))).objs.size = s.heap.objs.size + 1 := by
    rw [Heap.size_update, size_push']
  have hoL : (((s.heap.push (seqObj "list" #[] 0)).update s.heap.objs.size (Obj.mapSeq (· ++ vs.toArray))).push (seqObj "list" vs.toArray 0)).get? (s.heap.objs.size + 1) = some (seqObj "list" vs.toArray 0) := by
    rw [← hsz]; exact Heap.get?_push_size _ rfl
  have keep : ∀ b o, s.heap.get? b = some o → b ≠ s.heap.objs.size + 1 ∧ (((s.heap.push (seqObj "list" #[] 0)).update s.heap.objs.size (Obj.mapSeq (· ++ vs.toArray))).push (seqObj "list" vs.toArray 0)).get? b = some o := fun b o q => by
    have hlt : b < s.heap.objs.size := Heap.lt_size q
    refine ⟨Nat.ne_of_lt (Nat.lt_succ_of_lt hlt), Heap.get?_push_of_some _ ?_⟩
    rw [Heap.get?_update_ne _ _ _ _ (Nat.ne_of_lt hlt)]
    exact Heap.get?_push_of_some _ q
  show wpAny _ _ _ _ _ { s with heap := ((s.heap.push (seqObj "list" #[] 0)).update s.heap.objs.size (Obj.mapSeq (· ++ vs.toArray))).push (seqObj "list" vs.toArray 0) }
  rw [hsz]
  refine wpAny_bind (wpAny_holding (wpAny_call_entry slot_list_sort ⟨_, hoL, rfl⟩ entry_list_sort (SrtO.list_sort_ord (SrtO.swo_lex k) hoL hz (fun h2 => ?_) fun out hs hb => ⟨_, rfl, ?_⟩) (args_list_sort _)))
  · refine SrtO.pairs_sortableO (by omega) (fun v hm => (hp v hm).keeps fun b o e _ => (keep b o e).2) fun o e => ?_
    have e' : some o = some (seqObj "list" vs.toArray 0) := e.symm.trans hoL
    cases e'
    intro c
    exact absurd (Value.type.inj c) (by decide)
  · exact wpAny_pure ⟨_, rfl, h _ _ out hs hb (fun b o e => sortedAll_old e) (Nat.le_succ _) (sortedAll_at s.heap vs out.toArray)⟩
end
end MiniS
set_option autoImplicit false
set_option maxRecDepth 100000
set_option maxHeartbeats 4000000
namespace MiniS
open PySem PySem.Spec PyProof.Rows L2 Mini
theorem ltP_eq (p q : Int × Int) : Mini.ltP p q = SrtO.lexB p q := rfl
theorem insP_perm (x : Int × Int) : ∀ l : List (Int × Int), (insP x l).Perm (x :: l)
  | [] => List.Perm.refl _
  | y :: ys => by
    unfold insP
    split
    · exact ((insP_perm x ys).cons y).trans (List.Perm.swap x y ys)
    · exact List.Perm.refl _
theorem sortP_perm : ∀ l : List (Int × Int), (sortP l).Perm l
  | [] => List.Perm.refl _
  | x :: xs => (insP_perm x (sortP xs)).trans ((sortP_perm xs).cons x)
def leP (p q : Int × Int) : Prop := SrtO.lexB q p = false
theorem leP_iff {p q : Int × Int} : leP p q ↔ p.1 < q.1 ∨ (p.1 = q.1 ∧ p.2 ≤ q.2) := by
  unfold leP
  rw [SrtO.lexB_no]
  constructor
  · intro h
    omega
  · intro h
    omega
theorem leP_anti {p q : Int × Int} (h1 : leP p q) (h2 : leP q p) : p = q := by
  rw [leP_iff] at h1 h2
  exact Prod.ext (by omega) (by omega)
theorem insP_srt (x : Int × Int) : ∀ l : List (Int × Int), l.Pairwise leP → (insP x l).Pairwise leP
  | [], _ => List.pairwise_singleton _ _
  | y :: ys, h => by
    obtain ⟨h1, h2⟩ := List.pairwise_cons.mp h
    unfold insP
    split
    · rename_i hl
      refine List.pairwise_cons.mpr ⟨fun z hz => ?_, insP_srt x ys h2⟩
      rcases List.mem_cons.mp ((insP_perm x ys).mem_iff.mp hz) with e | hz
      · subst e
        have q := SrtO.lexB_iff.mp hl
        rw [leP_iff]
        omega
      · exact h1 z hz
    · rename_i hl
      have hxy : leP x y := by
        unfold leP
        rw [← ltP_eq]
        exact Bool.eq_false_iff.mpr hl
      refine List.pairwise_cons.mpr ⟨fun z hz => ?_, h⟩
      rcases List.mem_cons.mp hz with e | hz
      · subst e; exact hxy
      · have q := h1 z hz
        rw [leP_iff] at hxy q ⊢
        omega
theorem sortP_srt : ∀ l : List (Int × Int), (sortP l).Pairwise leP
  | [] => List.Pairwise.nil
  | x :: xs => insP_srt x _ (sortP_srt xs)
theorem sortP_of {l m : List (Int × Int)} (hp : l.Perm m) (hs : l.Pairwise leP) : l = sortP m :=
  List.Perm.eq_of_pairwise (fun a b _ _ h1 h2 => leP_anti h1 h2) hs (sortP_srt m) (hp.trans (sortP_perm m).symm)
theorem insI_perm (x : Int) : ∀ l : List Int, (insI x l).Perm (x :: l)
  | [] => List.Perm.refl _
  | y :: ys => by
    unfold insI
    split
    · exact ((insI_perm x ys).cons y).trans (List.Perm.swap x y ys)
    · exact List.Perm.refl _
theorem sortI_perm : ∀ l : List Int, (sortI l).Perm l
  | [] => List.Perm.refl _
  | x :: xs => (insI_perm x (sortI xs)).trans ((sortI_perm xs).cons x)
theorem insI_srt (x : Int) : ∀ l : List Int, l.Pairwise (· ≤ ·) → (insI x l).Pairwise (· ≤ ·)
  | [], _ => List.pairwise_singleton _ _
  | y :: ys, h => by
    obtain ⟨h1, h2⟩ := List.pairwise_cons.mp h
    unfold insI
    split
    · rename_i hl
      refine List.pairwise_cons.mpr ⟨fun z hz => ?_, insI_srt x ys h2⟩
      rcases List.mem_cons.mp ((insI_perm x ys).mem_iff.mp hz) with e | hz
      · subst e; omega
      · exact h1 z hz
    · rename_i hl
      refine List.pairwise_cons.mpr ⟨fun z hz => ?_, h⟩
      rcases List.mem_cons.mp hz with e | hz
      · subst e; omega
      · have q := h1 z hz
        omega
theorem sortI_srt : ∀ l : List Int, (sortI l).Pairwise (· ≤ ·)
  | [] => List.Pairwise.nil
  | x :: xs => insI_srt x _ (sortI_srt xs)
theorem sortI_of {l m : List Int} (hp : l.Perm m) (hs : l.Pairwise (· ≤ ·)) : l = sortI m :=
  List.Perm.eq_of_pairwise (fun a b _ _ h1 h2 => Int.le_antisymm h1 h2) hs (sortI_srt m) (hp.trans (sortI_perm m).symm)
def PairAt (K : PySem.W.Frag) (H : Hp) (x : V) (p : Int × Int) : Prop := ∃ t, x = .ref t ∧ SqT K H t [.int p.1, .int p.2]
def rSrtP (K : PySem.W.Frag) : List V → Hp → VK → Prop := fun vs H Q => ∃ (a : Addr) (xs : List V) (ps : List (Int × Int)), vs = [V.ref a] ∧ (SqL K H a xs ∨ SqT K H a xs) ∧ Paired (PairAt K H) xs ps ∧
  ∀ ys q, Paired (PairAt K H) ys (sortP ps) → H q = none → Q (.ref q) (upd H q (.lst ys))
theorem pairAt_map {K : PySem.W.Frag} {H : Hp} {k : V → Int × Int} : ∀ {ys : List V}, (∀ y ∈ ys, PairAt K H y (k y)) → Paired (PairAt K H) ys (ys.map k)
  | [], _ => .nil
  | y :: ys, h => .cons (h y List.mem_cons_self) (pairAt_map fun z hz => h z (List.mem_cons_of_mem _ hz))
theorem mem_pd {α β : Type} {F : α → β → Prop} : ∀ {xs : List α} {ys : List β}, Paired F xs ys → ∀ x ∈ xs, ∃ y, y ∈ ys ∧ F x y
  | _, _, .nil, _, h => by cases h
  | _, _, .cons r t, x, h => by
    rcases List.mem_cons.mp h with e | h
    · subst e; exact ⟨_, List.mem_cons_self, r⟩
    · obtain ⟨y, h1, h2⟩ := mem_pd t x h
      exact ⟨y, List.mem_cons_of_mem _ h1, h2⟩
section
variable {X : Cx} {G : Gi}
open Classical in
theorem cr_srtP : CallR X (.builtin "sorted") (rSrtP X.K) := by
  intro pins s σ H vs us Q I r h
  obtain ⟨a, xs, ps, rfl, hs, hx, q⟩ := h
  have uni : ∀ {x : V} {p p' : Int × Int}, PairAt X.K H x p → PairAt X.K H x p' → p = p' := fun {x p p'} ⟨t, e, h1⟩ ⟨t', e', h2⟩ => by
    have et : t = t' := V.ref.inj (e.symm.trans e')
    subst et
    have z := I.tuple_inj h1 h2
    injection z with z1 z2
    injection z2 with z2 _
    exact Prod.ext (V.int.inj z1) (V.int.inj z2)
  let k : V → Int × Int := fun x => if hh : ∃ p, PairAt X.K H x p then hh.choose else (0, 0)
  have kat : ∀ {x : V} {p : Int × Int}, PairAt X.K H x p → PairAt X.K H x (k x) := fun {x p} hh => by
    have e : k x = (⟨p, hh⟩ : ∃ p, PairAt X.K H x p).choose := dif_pos ⟨p, hh⟩
    rw [e]
    exact (⟨p, hh⟩ : ∃ p, PairAt X.K H x p).choose_spec
  have kx : ∀ x ∈ xs, PairAt X.K H x (k x) := fun x hm => by
    obtain ⟨p, _, hp⟩ := mem_pd hx x hm
    exact kat hp
  have kmap : xs.map k = ps := by
    clear q
    induction hx with
    | nil => rfl
    | cons r t ih =>
      rename_i x p xs' ps'
      show k x :: xs'.map k = p :: ps'
      have e1 : k x = p := uni (kat r) r
      have kk : ∀ z ∈ xs', PairAt X.K H z (k z) := fun z hm => by
        obtain ⟨p', _, hp'⟩ := mem_pd t z hm
        exact kat hp'
      have e2 : xs'.map k = ps' := by
        clear ih hs kx
        revert kk
        induction t with
        | nil => intro _; rfl
        | cons r' t' ih' =>
          intro kk
          rename_i x2 p2 xs2 ps2
          show k x2 :: xs2.map k = p2 :: ps2
          rw [uni (kat r') r', ih' fun z hz => kk z (List.mem_cons_of_mem _ hz)]
      rw [e1, e2]
  obtain ⟨its, rv, hl, hz⟩ : ∃ its, Vals xs its ∧ (s.heap.IsList a its.toArray ∨ IsTup s.heap a its.toArray) ∧ xs.length ≤ sizeLine := by
    rcases hs with hs | hs
    · obtain ⟨its, rv, hl, hz⟩ := I.list hs
      exact ⟨its, rv, .inl hl.isList, hz⟩
    · obtain ⟨its, rv, hl, hz⟩ := I.tuple hs
      exact ⟨its, rv, .inr hl, hz⟩
  obtain ⟨u, rfl, ru⟩ := vals1 r
  obtain rfl : u = Value.ref a := ru
  obtain ⟨e1, e2⟩ := refs_back rv fun x m => by
    obtain ⟨t, e, _⟩ := kx x m
    exact ⟨t, e⟩
  have step : ∀ (Q' : Value → Shared → Prop), (∀ (h' : Heap) (d : Addr) (out : List Value), SrtO.Srtd (fun v u => SrtO.lexB (k (backV v)) (k (backV u))) out → SrtO.Stb (fun v u => SrtO.lexB (k (backV v)) (k (backV u))) out its → (∀ b o, s.heap.get? b = some o → h'.get? b = some o) → s.heap.objs.size ≤ d → (∃ n, h'.get? d = some (seqObj "list" out.toArray n)) → Q' (.ref d) { s with heap := h' }) →
      (∀ v ∈ its, Srt.IsPair s.heap v (k (backV v)).1 (k (backV v)).2) → wpAny (model X.prog X.w) X.A (call (.builtin "sorted") [.ref a]) Q' X.xe s := fun Q' h hp => by
    rcases hl with hl | hl
    · exact SrtO.sorted_pairsO (k := fun u => k (backV u)) hl (by rw [← rv.length]; exact hz) hp h
    · exact srt_tup (k := fun u => k (backV u)) hl (by rw [← rv.length]; exact hz) hp h
  refine step _ (fun h' d out h1 h2 kp hd hn => ?_) (fun v hv => ?_)
  rotate_left
  · obtain ⟨t, rfl⟩ := e2 v hv
    have hm : V.ref t ∈ xs := by rw [e1]; exact List.mem_map.mpr ⟨_, hv, rfl⟩
    obtain ⟨t', e, ht⟩ := kx _ hm
    cases e
    obtain ⟨its2, r2, ⟨o, ho, hc, n, hd⟩, _⟩ := I.tuple ht
    obtain ⟨u1, u2, rfl, ri, rj⟩ := vals2 r2
    obtain ⟨t1, rfl⟩ := ri
    obtain ⟨t2, rfl⟩ := rj
    exact ⟨t, o, t1, t2, n, rfl, ho, hc, hd⟩
  · have h3 : ∀ u ∈ out, ∃ a, u = Value.ref a := fun u hu => e2 u (h2.perm.mem_iff.mp hu)
    obtain ⟨n, hn⟩ := hn
    have hb : SrtO.Stb (L2.ltP k) (out.map backV) xs := by
      rw [e1]
      exact SrtO.Stb.map (ltP_swo k) backV h2
    have hs1 : SrtO.Srtd (L2.ltP k) (out.map backV) := SrtO.srtd_map h1
    have hy : ∀ y ∈ out.map backV, PairAt X.K H y (k y) := fun y hy => kx y (hb.perm.mem_iff.mp hy)
    have hsort : (out.map backV).map k = sortP ps := by
      refine sortP_of ?_ ?_
      · rw [← kmap]
        exact hb.perm.map k
      · rw [List.pairwise_map]
        exact hs1
    have hpd := pairAt_map hy
    rw [hsort] at hpd
    refine ⟨.ref d, upd H d (.lst (out.map backV)), I.laid (t' := s.toks) kp hd ⟨?_, out, n, vals_back h3, hn⟩, rfl, q _ d hpd (I.hok.fresh hd)⟩
    rw [hb.len]
    exact hz
section
variable {ρ : List Addr} {M : MH} {H : Hp}
theorem pairs_rep : ∀ {xs : List D} {vs : List V} {ps : List (Int × Int)}, Reps G ρ H xs vs → Mini.pairsOf xs = some ps → Paired (PairAt G.K H) vs ps
  | [], _, _, r, h => by
    cases r
    cases h
    exact .nil
  | .tup [.int i, .int j] :: xs, _, ps, r, h => by
    cases r with
    | cons a t =>
      have h : (Mini.pairsOf xs).map ((i, j) :: ·) = some ps := h
      cases e : Mini.pairsOf xs with
      | none => rw [e] at h; cases h
      | some ms =>
        rw [e] at h
        cases h
        obtain ⟨b, vs, rfl, hs, g⟩ := Rep.tup_iff.mp a
        obtain ⟨v, w, rfl, r1, r2⟩ := reps2 g rfl
        cases r1; cases r2
        exact .cons ⟨b, rfl, hs⟩ (pairs_rep t e)
  | .non :: _, _, _, _, h => by cases h
  | .int _ :: _, _, _, _, h => by cases h
  | .bl _ :: _, _, _, _, h => by cases h
  | .str _ :: _, _, _, _, h => by cases h
  | .lst _ :: _, _, _, _, h => by cases h
  | .scr _ :: _, _, _, _, h => by cases h
  | .dct _ _ :: _, _, _, _, h => by cases h
  | .obj _ :: _, _, _, _, h => by cases h
  | .fn _ :: _, _, _, _, h => by cases h
  | .cls _ :: _, _, _, _, h => by cases h
  | .ty _ :: _, _, _, _, h => by cases h
  | .tup [] :: _, _, _, _, h => by cases h
  | .tup [x] :: _, _, _, _, h => by cases x <;> cases h
  | .tup (x :: y :: z :: r) :: _, _, _, _, h => by cases x <;> cases y <;> cases h
  | .tup [.non, _] :: _, _, _, _, h => by cases h
  | .tup [.bl _, _] :: _, _, _, _, h => by cases h
  | .tup [.str _, _] :: _, _, _, _, h => by cases h
  | .tup [.tup _, _] :: _, _, _, _, h => by cases h
  | .tup [.lst _, _] :: _, _, _, _, h => by cases h
  | .tup [.scr _, _] :: _, _, _, _, h => by cases h
  | .tup [.dct _ _, _] :: _, _, _, _, h => by cases h
  | .tup [.obj _, _] :: _, _, _, _, h => by cases h
  | .tup [.fn _, _] :: _, _, _, _, h => by cases h
  | .tup [.cls _, _] :: _, _, _, _, h => by cases h
  | .tup [.ty _, _] :: _, _, _, _, h => by cases h
  | .tup [.int _, .non] :: _, _, _, _, h => by cases h
  | .tup [.int _, .bl _] :: _, _, _, _, h => by cases h
  | .tup [.int _, .str _] :: _, _, _, _, h => by cases h
  | .tup [.int _, .tup _] :: _, _, _, _, h => by cases h
  | .tup [.int _, .lst _] :: _, _, _, _, h => by cases h
  | .tup [.int _, .scr _] :: _, _, _, _, h => by cases h
  | .tup [.int _, .dct _ _] :: _, _, _, _, h => by cases h
  | .tup [.int _, .obj _] :: _, _, _, _, h => by cases h
  | .tup [.int _, .fn _] :: _, _, _, _, h => by cases h
  | .tup [.int _, .cls _] :: _, _, _, _, h => by cases h
  | .tup [.int _, .ty _] :: _, _, _, _, h => by cases h
theorem rep_pairs (H' : Hp) (ρ' : List Addr) (hk : ∀ a vs, SqT G.K H a vs → SqT G.K H' a vs) : ∀ {vs : List V} {ps : List (Int × Int)}, Paired (PairAt G.K H) vs ps → Reps G ρ' H' (ps.map pairD) vs
  | _, _, .nil => .nil
  | _, _, .cons r t => by
    obtain ⟨b, rfl, hs⟩ := r
    exact .cons (Rep.tup_iff.mpr ⟨b, _, rfl, hk _ _ hs, .cons rfl (.cons rfl .nil)⟩) (rep_pairs H' ρ' hk t)
theorem rep_ints (H' : Hp) (ρ' : List Addr) : ∀ ns : List Int, Reps G ρ' H' (ns.map D.int) (ns.map V.int)
  | [] => .nil
  | n :: ns => .cons rfl (rep_ints H' ρ' ns)
end
theorem cs_sorted (hK : X.K = G.K) (m : Bool) : CallS X G (.builtin "sorted") (fun as M => (bfn .sorted as M).bind (fin m)) := by
  refine callS_oneM m (cr_srtP.or cr_sorted) fun ρ M H d v Q E rh rv p => ?_
  have lst : PostE G ρ H ((R.ofOpt (((itemsL M d).bind sortO).map D.lst) M).bind (fin m)) Q E → rSrtP X.K [v] H Q ∨ rSorted X.K [v] H Q := fun p => by
    obtain ⟨x, e, p⟩ := PostE.optM p
    obtain ⟨ys, e1, rfl⟩ := mapSome e
    obtain ⟨xs, e2, e3⟩ := bindSome e1
    obtain ⟨a, vs, rfl, g, q⟩ := itemsL_rep rh rv e2
    unfold sortO at e3
    split at e3
    · rename_i ps hp
      cases e3
      refine .inl ⟨a, vs, ps, rfl, .inl (.of q), by rw [hK]; exact pairs_rep g hp, fun ys b hy hb => ?_⟩
      rw [hK] at hy
      exact PostE.newL p rh hb (rep_pairs _ _ (fun a vs h => h) hy)
    · split at e3
      · rename_i ns hn
        split at e3
        · rename_i hz
          cases e3
          rw [ints_rep g hn] at q
          refine .inr ⟨a, ns, rfl, .of q, hz, fun ns' b hp hs hb => ?_⟩
          rw [sortI_of hp hs]
          exact PostE.newL p rh hb (rep_ints _ _ _)
        · cases e3
      · cases e3
  cases d with
  | tup xs =>
    change PostE G ρ H ((R.ofOpt ((pairsOf xs).map fun ps => D.lst ((sortP ps).map pairD)) M).bind (fin m)) Q E at p
    obtain ⟨x, e, p⟩ := PostE.optM p
    obtain ⟨ps, e1, rfl⟩ := mapSome e
    obtain ⟨a, vs, rfl, q, g⟩ := Rep.tup_iff.mp rv
    refine .inl ⟨a, vs, ps, rfl, .inr (by rw [hK]; exact q), by rw [hK]; exact pairs_rep g e1, fun ys b hy hb => ?_⟩
    rw [hK] at hy
    exact PostE.newL p rh hb (rep_pairs _ _ (fun a vs h => h) hy)
  | lst xs => exact lst p
  | obj n => exact lst p
  | _ => exact p.elim
end
end MiniS
set_option autoImplicit false
set_option maxRecDepth 100000
set_option maxHeartbeats 4000000
namespace MiniS
open PySem PySem.Spec PyProof.Rows L2 Mini
theorem place_ixN (n : Nat) (i : Int) : place? n i = ixN n i := by
  unfold place? ixN
  split
  · rfl
  · by_cases h : -(n : Int) ≤ i
    · rw [if_pos (show 0 ≤ i + n by omega), if_pos h]
    · rw [if_neg (show ¬ 0 ≤ i + n by omega), if_neg h]
theorem get_atI {α : Type} (xs : List α) (i : Int) : Mini.get? xs i = atI xs i := by
  unfold Mini.get? atI
  rw [place_ixN]
  cases ixN xs.length i <;> rfl
theorem clip_sIx (n d : Nat) (i : Int) : clip n i = HT.sIx n d (some i) := by
  show (if 0 ≤ i then min i.toNat n else (i + n).toNat) = (if i < 0 then (i + (n : Int)).toNat else min i.toNat n)
  by_cases h : 0 ≤ i
  · rw [if_pos h, if_neg (by omega)]
  · rw [if_neg h, if_pos (by omega)]
def sIxL (n : Nat) (lo : Option Int) : Nat := match lo with | none => 0 | some i => clip n i
def sIxH (n : Nat) (hi : Option Int) : Nat := match hi with | none => n | some i => clip n i
theorem cut_eq {α : Type} (xs : List α) (lo hi : Option Int) : cut xs lo hi = (xs.drop (HT.sIx xs.length 0 lo)).take (HT.sIx xs.length xs.length hi - HT.sIx xs.length 0 lo) := by
  have e1 : sIxL xs.length lo = HT.sIx xs.length 0 lo := by cases lo with | none => rfl | some i => exact clip_sIx _ _ i
  have e2 : sIxH xs.length hi = HT.sIx xs.length xs.length hi := by cases hi with | none => rfl | some i => exact clip_sIx _ _ i
  rw [← e1, ← e2]
  cases lo <;> cases hi <;> rfl
section
variable {X : Cx} {G : Gi}
theorem snd_idx (hK : X.K = G.K) : ∃ r : R2, IxR X r ∧ ∀ (ρ : List Addr) (M : MH) (H : Hp) (dx dy : D) (x y : V) (Q : VK) (E : Nat → Hp → Prop), RepH G ρ M H → Rep G ρ H dx x → Rep G ρ H dy y → PostE G ρ H (idxD dx dy M) Q E → r x y H Q := by
  refine ⟨_, ix_seq, fun ρ M H dx dy x y Q E rh rx ry p => ?_⟩
  cases dy with
  | int k =>
    cases ry
    have seq : PostE G ρ H (R.ofOpt ((items M dx).bind fun xs => Mini.get? xs k) M) Q E → rIx X.K x (.int k) H Q := fun p => by
      obtain ⟨d, e, p⟩ := p.opt
      obtain ⟨xs, e1, e2⟩ := bindSome e
      obtain ⟨a, vs, rfl, g, q⟩ := items_rep rh rx e1
      rw [get_atI] at e2
      have e3 : ∃ v, atI vs k = some v ∧ Rep G ρ H d v := by
        unfold atI at e2 ⊢
        rw [← pd_length g]
        obtain ⟨j, h1, h2⟩ := bindSome e2
        obtain ⟨v, h3, h4⟩ := pd_get g h2
        exact ⟨v, by rw [h1]; exact h3, h4⟩
      obtain ⟨v, h1, h2⟩ := e3
      rcases q with ⟨q, _⟩ | ⟨q, _⟩
      · exact .inl ⟨a, vs, k, v, rfl, rfl, .of q, h1, p.here rh h2⟩
      · exact .inr (.inl ⟨a, vs, k, v, rfl, rfl, by rw [hK]; exact q, h1, p.here rh h2⟩)
    cases dx with
    | str s =>
      obtain ⟨rfl, ok⟩ := rx
      have p : PostE G ρ H (if s.length ≤ 10000 then R.ofOpt ((Mini.get? s k).map fun ch => D.str [ch]) M else .stuck) Q E := p
      by_cases hz : s.length ≤ 10000
      case neg => rw [if_neg hz] at p; exact p.elim
      rw [if_pos hz] at p
      obtain ⟨d, e, p⟩ := PostE.opt p
      obtain ⟨ch, e1, rfl⟩ := mapSome e
      rw [get_atI] at e1
      have el : (mkS s).cps.toList = s := by unfold mkS; simp
      obtain ⟨j, h1, h2, h3, _⟩ := atI_get e1
      refine .inr (.inr ⟨mkS s, k, ch, rfl, rfl, ?_, by rw [el]; exact e1, ?_⟩)
      · rw [mkS_length]; exact sz4 hz
      · refine p.here rh ⟨rfl, ?_⟩
        rw [strOk_iff] at ok ⊢
        intro c hc
        have ec : c = ch := by simpa using hc
        rw [ec]
        exact ok ch (List.mem_of_getElem? h2)
    | scr ns =>
      obtain ⟨a, rfl, hz⟩ := rx
      obtain ⟨d, e, p⟩ := PostE.opt p
      obtain ⟨n, e1, rfl⟩ := mapSome e
      rw [get_atI] at e1
      refine .inl ⟨a, ns.map V.int, k, .int n, rfl, rfl, by rw [hK]; exact hz.sq, ?_, p.here rh rfl⟩
      unfold atI at e1 ⊢
      rw [List.length_map]
      obtain ⟨j, h1, h2⟩ := bindSome e1
      rw [h1]
      show (ns.map V.int)[j]? = some (.int n)
      rw [List.getElem?_map, h2]
      rfl
    | tup xs => exact seq p
    | lst xs => exact seq p
    | obj n => exact seq p
    | _ => exact False.elim p
  | _ => exact False.elim p
theorem snd_cut (hK : X.K = G.K) (m : Bool) : ∃ r : V → Option Int → Option Int → Hp → VK → Prop, SlR X r ∧ ∀ (ρ : List Addr) (M : MH) (H : Hp) (dx : D) (x : V) (l h : Option Int) (Q : VK) (E : Nat → Hp → Prop), RepH G ρ M H → Rep G ρ H dx x → PostE G ρ H ((cutD dx l h M).bind (fin m)) Q E → r x l h H Q := by
  refine ⟨_, sl_str.or (sl_tupA.or sl_list), fun ρ M H dx x l h Q E rh rx p => ?_⟩
  have lst : PostE G ρ H ((R.ofOpt ((itemsL M dx).map fun xs => D.lst (cut xs l h)) M).bind (fin m)) Q E → rSlL X.K x l h H Q := fun p => by
    obtain ⟨d, e, p⟩ := PostE.optM p
    obtain ⟨xs, e1, rfl⟩ := mapSome e
    obtain ⟨a, vs, rfl, g, q⟩ := itemsL_rep rh rx e1
    refine ⟨a, vs, rfl, .of q, fun b hb => PostE.newL p rh hb ?_⟩
    rw [cut_eq, pd_length g]
    exact pd_take _ (pd_drop _ g)
  cases dx with
  | str s =>
    obtain ⟨rfl, ok⟩ := rx
    have p : PostE G ρ H ((if s.length ≤ 10000 then R.ok (D.str (cut s l h)) M else .stuck).bind (fin m)) Q E := p
    by_cases hz : s.length ≤ 10000
    · rw [if_pos hz] at p
      refine .inl ⟨mkS s, rfl, by rw [mkS_length]; exact sz4 hz, ?_⟩
      have ec : cutS (mkS s) l h = mkS (cut s l h) := by
        show (⟨(((mkS s).cps.toList.drop (HT.sIx (mkS s).length 0 l)).take (HT.sIx (mkS s).length (mkS s).length h - HT.sIx (mkS s).length 0 l)).toArray⟩ : PySem.Str) = ⟨(cut s l h).toArray⟩
        rw [mkS_length, cut_eq]
        have el : (mkS s).cps.toList = s := by unfold mkS; simp
        rw [el]
      rw [ec]
      refine PostE.val (d := .str (cut s l h)) p rh ⟨rfl, ?_⟩ (fun _ z => nomatch z)
      rw [strOk_iff] at ok ⊢
      intro c hc
      rw [cut_eq] at hc
      exact ok c (List.mem_of_mem_drop (List.mem_of_mem_take hc))
    · rw [if_neg hz] at p; exact p.elim
  | tup xs =>
    obtain ⟨a, vs, rfl, q, g⟩ := Rep.tup_iff.mp rx
    have p : PostE G ρ H (fin m (.tup (cut xs l h)) M) Q E := p
    have gc : Reps G ρ H (cut xs l h) (cutV vs l h) := by
      rw [cut_eq]
      unfold cutV
      rw [pd_length g]
      exact pd_take _ (pd_drop _ g)
    refine .inr (.inl ⟨a, vs, rfl, by rw [hK]; exact q, fun hw => ?_, fun _ b hb => ?_⟩)
    · have ew : cutV vs l h = vs := by
        unfold cutV
        rw [hw.1, hw.2]
        simp
      rw [ew] at gc
      exact PostE.val p rh (Rep.tup_iff.mpr ⟨a, vs, rfl, q, gc⟩) (fun _ z => nomatch z)
    · exact PostE.valN p rh hb (Rep.tup_iff.mpr ⟨b, _, rfl, .of upd_same, Reps.mono (Le.laid hb) gc⟩) (fun _ z => nomatch z)
  | lst xs => exact .inr (.inr (lst p))
  | obj n => exact .inr (.inr (lst p))
  | _ => exact False.elim p
def MtS (X : Cx) (G : Gi) (id : String) (c : Mini.Ctx) (g : D → List D → MH → R D) : Prop :=
  ∃ r : V → List V → Hp → VK → Prop, MtR X id r ∧ ∀ (ρ : List Addr) (M : MH) (H : Hp) (d : D) (ds : List D) (v : V) (vs : List V) (Q : VK) (E : Nat → Hp → Prop), RepH G ρ M H → Rep G ρ H d v → Reps G ρ H ds vs → PostE G ρ H (g d ds M) Q E → r v vs H Q
section
variable {ρ : List Addr} {M : MH} {H : Hp} {c : Mini.Ctx}
theorem PostE.objL {o : D} {f : Nat → List D → R D} {Q : VK} {E : Nat → Hp → Prop} {v : V} (rh : RepH G ρ M H) (rv : Rep G ρ H o v) (p : PostE G ρ H (Mini.objL o M f) Q E) :
    ∃ n xs a vs, o = .obj n ∧ v = .ref a ∧ ρ[n]? = some a ∧ M[n]? = some (.lst xs) ∧ H a = some (.lst vs) ∧ Reps G ρ H xs vs ∧ PostE G ρ H (f n xs) Q E := by
  cases o with
  | obj n =>
    obtain ⟨a, rfl, ha⟩ := rv
    obtain ⟨mo, hm, ho⟩ := rh.tell ha
    have p : PostE G ρ H (match M[n]? with | some (.lst xs) => f n xs | _ => .stuck) Q E := p
    rw [hm] at p
    cases mo with
    | lst xs =>
      obtain ⟨vs, h1, g⟩ := ho
      exact ⟨n, xs, a, vs, rfl, rfl, ha, hm, h1, g, p⟩
    | dct ks ws => exact False.elim p
    | ins k fs => exact False.elim p
  | _ => exact False.elim p
theorem PostE.one1 {as : List D} {f : D → R D} {Q : VK} {E : Nat → Hp → Prop} {vs : List V} (rs : Reps G ρ H as vs) (p : PostE G ρ H (Mini.one1 as f) Q E) : ∃ d v, as = [d] ∧ vs = [v] ∧ Rep G ρ H d v ∧ PostE G ρ H (f d) Q E := by
  match as, rs, p with
  | [], _, p => exact False.elim p
  | [d], rs, p =>
    obtain ⟨v, rfl, rv⟩ := reps1 rs rfl
    exact ⟨d, v, rfl, rfl, rv, p⟩
  | _ :: _ :: _, _, p => exact False.elim p
theorem PostE.ite {b : Bool} {r : R D} {Q : VK} {E : Nat → Hp → Prop} (p : PostE G ρ H (if b = true then r else .stuck) Q E) : b = true ∧ PostE G ρ H r Q E := by
  cases b with
  | true => exact ⟨rfl, p⟩
  | false => exact False.elim p
theorem PostE.set {n : Nat} {a : Addr} {xs : List D} {vs vs' : List V} {d : D} {Q : VK} {E : Nat → Hp → Prop} {v : V} (rh : RepH G ρ M H) (ha : ρ[n]? = some a) (h1 : H a = some (.lst vs)) (g : Reps G ρ H xs vs') (p : PostE G ρ H (.ok d (M.set n (.lst xs))) Q E)
    (hd : Rep G ρ H d v) : Q v (upd H a (.lst vs')) := by
  have L : Le G ρ H ρ (upd H a (.lst vs')) := Le.set h1 (List.mem_of_getElem? ha)
  exact p v ρ _ L (rh.set ha h1 g) (Rep.mono L d v hd)
theorem sz_lt {n : Nat} (h : n < 100000) : n < sizeLine := by rw [sizeLine_eq]; omega
theorem ms_append : MtS X G "list.append" c (mth c .append) := by
  refine ⟨_, mt_append, fun ρ M H d ds v vs Q E rh rv rs p => ?_⟩
  obtain ⟨n, xs, a, ws, rfl, rfl, ha, hm, h1, g, p⟩ := PostE.objL rh rv p
  obtain ⟨x, y, rfl, rfl, ry, p⟩ := PostE.one1 rs p
  obtain ⟨hb, p⟩ := PostE.ite p
  rw [Bool.and_eq_true] at hb
  refine ⟨a, ws, y, rfl, rfl, h1, ?_, ?_⟩
  · rw [← pd_length g]
    exact sz_lt (of_decide_eq_true hb.2)
  · exact PostE.set rh ha h1 (pd_append g (.cons ry .nil)) p rfl
theorem ms_extend : MtS X G "list.extend" c (mth c .extend) := by
  refine ⟨_, mt_extend, fun ρ M H d ds v vs Q E rh rv rs p => ?_⟩
  obtain ⟨n, xs, a, ws, rfl, rfl, ha, hm, h1, g, p⟩ := PostE.objL rh rv p
  obtain ⟨x, y, rfl, rfl, ry, p⟩ := PostE.one1 rs p
  cases e : itemsL M x with
  | none => simp only [e] at p; exact False.elim p
  | some ys =>
    simp only [e] at p
    obtain ⟨b, zs, rfl, g2, q2⟩ := itemsL_rep rh ry e
    obtain ⟨hb, p⟩ := PostE.ite p
    rw [Bool.and_eq_true] at hb
    refine ⟨a, b, ws, zs, rfl, rfl, h1, q2, ?_, ?_⟩
    · rw [← pd_length g, ← pd_length g2]
      exact Nat.le_of_lt (sz_lt (of_decide_eq_true hb.2))
    · exact PostE.set rh ha h1 (pd_append g g2) p rfl
theorem ms_pop : MtS X G "list.pop" c (mth c .pop) := by
  refine ⟨_, mt_pop, fun ρ M H d ds v vs Q E rh rv rs p => ?_⟩
  obtain ⟨n, xs, a, ws, rfl, rfl, ha, hm, h1, g, p⟩ := PostE.objL rh rv p
  cases ds with
  | cons _ _ => exact False.elim p
  | nil =>
    cases rs
    have p : PostE G ρ H (popD c n xs M) Q E := p
    unfold popD at p
    cases e : xs[xs.length - 1]? with
    | none => rw [e] at p; exact False.elim p
    | some y =>
      simp only [e] at p
      obtain ⟨hb, p⟩ := PostE.ite p
      obtain ⟨u, hu, ru⟩ := pd_get g e
      refine ⟨a, ws, u, rfl, rfl, h1, by rw [← pd_length g]; exact hu, ?_⟩
      exact PostE.set rh ha h1 (pd_dropLast g) p ru
def rRemD (K : PySem.W.Frag) : V → List V → Hp → VK → Prop := fun x xs H Q => ∃ (l : Addr) (ws : List V) (y : V) (d : PyData) (ds : List PyData) (j : Nat), x = .ref l ∧ xs = [y] ∧ H l = some (.lst ws) ∧ DpAll K H ws ds ∧ Dp K H y d ∧
  SeqAt.shaped (.list ds) = true ∧ SeqAt.shaped d = true ∧ (ds.findIdx? fun z => PyData.eqv z d) = some j ∧ Q .non (upd H l (.lst (ws.eraseIdx j)))
theorem mt_remD (hu : X.A.units + 65 < cLine) : MtR X "list.remove" (rRemD X.K) := by
  intro pins s σ H x xs v us Q I rx rxs h
  obtain ⟨a, ws, y, d, ds, j, rfl, rfl, hH, hl, hy, sl, sd, hf, q⟩ := h
  cases rx
  obtain ⟨uy, rfl, ry⟩ := Vals.one rxs
  obtain ⟨z, its, n, rv, hlen, ho⟩ := I.lstM hH
  obtain ⟨bs, r1⟩ := Dp.reads I d y uy hy ry
  obtain ⟨as, h4⟩ := Dp.readsAll I ds _ its hl rv
  have hxs : PyData.canLayAll0 ds = true := SeqAt.canLay_of_shaped sl
  have hroom : X.A.units + 1 + min (PyData.depthAll ds) d.depth < cLine := room_in_shaped sd hu
  have hn : its.length = ds.length := SeqAt.ReadsAll.length ds its as h4
  have hmap : its.map (SeqAt.readOf s.heap) = ds := SeqAt.readsAll_map ds its as hxs h4
  obtain ⟨hjd, hzj, hno⟩ := List.findIdx?_eq_some_iff_getElem.mp hf
  have hjl : j < its.toArray.size := by rw [List.size_toArray]; omega
  have at_ : ∀ (m : Nat) (hm : m < its.toArray.size) (hd : m < ds.length), SeqAt.readOf s.heap its.toArray[m] = ds[m] := by
    intro m hm hd
    have hml : m < its.length := by simpa using hm
    have e1 : ds[m]? = some (SeqAt.readOf s.heap its[m]) := by
      rw [← hmap, List.getElem?_map, List.getElem?_eq_getElem hml]
      rfl
    rw [List.getElem?_eq_getElem hd] at e1
    have e2 := Option.some.inj e1
    rw [e2]
    simp
  refine call_meets PySem.F.slot_list_remove ⟨_, ho, rfl⟩ PySem.F.entry_list_remove (PySem.F.args_list_remove_2 _ _)
    (SeqAt.list_removeAt a its.toArray n none #[] uy (fun u => PyData.eqv (SeqAt.readOf s.heap u) d) j hjl ?_ ?_ (by rw [List.size_toArray]; omega)) ⟨ho, SeqAt.items_eqAt (vs := its.toArray) (show ReadsAll s.heap its.toArray.toList ds as from h4) r1 hxs (SeqAt.canLay_of_shaped sd) hroom, ?_⟩
  · show PyData.eqv (SeqAt.readOf s.heap its.toArray[j]) d = true
    rw [at_ j hjl hjd]
    exact hzj
  · intro m hm hmj
    show PyData.eqv (SeqAt.readOf s.heap its.toArray[m]) d = false
    rw [at_ m hm (by omega)]
    exact Bool.eq_false_iff.mpr (hno m hmj)
  · refine ⟨.non, _, I.lset (its' := its.eraseIdx j) (t' := s.toks) hH ho ?_ (rv.eraseIdx j) ?_, rfl, q⟩
    · show its.toArray.eraseIdxIfInBounds j = (its.eraseIdx j).toArray
      rw [List.eraseIdxIfInBounds_toArray]
    · have z2 := len_erase ws j
      omega
theorem find_toP (a : D) (ha : a.isDat = true) : ∀ bs : List D, D.isDat.datL bs = true → ((toP.toPL bs).findIdx? fun z => PyData.eqv z (toP a)) = bs.findIdx? fun b => D.eqv b a
  | [], _ => rfl
  | b :: bs, h => by
    have h : (D.isDat b && D.isDat.datL bs) = true := h
    rw [Bool.and_eq_true] at h
    show (toP b :: toP.toPL bs).findIdx? _ = _
    rw [List.findIdx?_cons, List.findIdx?_cons, eqv_toP b a h.1 ha, find_toP a ha bs h.2]
theorem findD_some (rh : RepH G ρ M H) {xs : List D} {ws : List V} {x : D} {y : V} {k : Nat} {b : Addr} (hb : H b = some (.lst ws)) (hn : b ∈ ρ) (g : Reps G ρ H xs ws) (ry : Rep G ρ H x y) (h : findD M xs x = some k) :
    ∃ d ds, DpAll G.K H ws ds ∧ Dp G.K H y d ∧ SeqAt.shaped (.list ds) = true ∧ SeqAt.shaped d = true ∧ (ds.findIdx? fun z => PyData.eqv z d) = some k := by
  unfold findD at h
  split at h
  · rename_i bs a h1 h2
    split at h
    · rename_i hd
      rw [Bool.and_eq_true] at hd
      have t2 := tells rh 20 x a y ry h2 hd.1
      have h1 : (xs.mapM (res 19 M)).map D.lst = some (.lst bs) := h1
      obtain ⟨cs, e1, e2⟩ := mapSome h1
      cases e2
      obtain ⟨z1, z2, z3⟩ := tells_list (G := G) (tells rh 19) g e1 hd.2
      refine ⟨toP a, toP.toPL bs, z1, t2.1, ?_, t2.shaped (by decide), ?_⟩
      · unfold SeqAt.shaped
        show (PyData.canLayAll0 (toP.toPL bs) && decide (PyData.depthAll (toP.toPL bs) + 1 ≤ 64)) = true
        rw [z2]
        exact decide_eq_true (by omega)
      · rw [find_toP a hd.1 bs hd.2]
        exact h
    · cases h
  · cases h
theorem ms_remove (hK : X.K = G.K) (hu : X.A.units + 65 < cLine) : MtS X G "list.remove" c (mth c .remove) := by
  refine ⟨_, mt_remD hu, fun ρ M H d ds v vs Q E rh rv rs p => ?_⟩
  obtain ⟨n, xs, a, ws, rfl, rfl, ha, hm, h1, g, p⟩ := PostE.objL rh rv p
  obtain ⟨x, y, rfl, rfl, ry, p⟩ := PostE.one1 rs p
  have p : PostE G ρ H (removeD c n xs x M) Q E := p
  unfold removeD at p
  cases e : findD M xs x with
  | none => rw [e] at p; exact False.elim p
  | some k =>
    simp only [e] at p
    obtain ⟨hb, p⟩ := PostE.ite p
    obtain ⟨d, ds, d1, d2, d3, d4, d5⟩ := findD_some rh h1 (List.mem_of_getElem? ha) g ry e
    rw [← hK] at d1 d2
    exact ⟨a, ws, y, d, ds, k, rfl, rfl, h1, d1, d2, d3, d4, d5, PostE.set rh ha h1 (pd_erase k g) p rfl⟩
theorem snd_set : ∃ t : TSet, PSet X t ∧ ∀ (ρ : List Addr) (M : MH) (H : Hp) (dx di dv : D) (x i v : V) (Q : VK) (E : Nat → Hp → Prop), RepH G ρ M H → Rep G ρ H dx x → Rep G ρ H di i → Rep G ρ H dv v → PostE G ρ H (setD c dx di dv M) Q E → t x i v H (fun H' => Q .non H') := by
  refine ⟨_, set_list, fun ρ M H dx di dv x i v Q E rh rx ri rv p => ?_⟩
  cases di with
  | int k =>
    cases ri
    obtain ⟨n, xs, a, ws, rfl, rfl, ha, hm, h1, g, p⟩ := PostE.objL rh rx p
    cases e : place? xs.length k with
    | none => simp only [e] at p; exact False.elim p
    | some j =>
      simp only [e] at p
      obtain ⟨hb, p⟩ := PostE.ite p
      refine ⟨a, ws, k, j, rfl, rfl, h1, by rw [← pd_length g, ← place_ixN]; exact e, ?_⟩
      exact PostE.set rh ha h1 (pd_set rv j g) p rfl
  | _ => exact False.elim p
end
end
end MiniS
set_option autoImplicit false
namespace Mini
def D.bnd (f : Nat) : D → Bool
  | .tup xs => go xs
  | .lst xs => go xs
  | .dct ks vs => go ks && go vs
  | .obj n => decide (n < f)
  | _ => true
where go : List D → Bool
  | [] => true
  | x :: xs => D.bnd f x && go xs
def MO.bnd (f : Nat) : MO → Bool
  | .lst xs => D.bnd.go f xs
  | .dct ks vs => D.bnd.go f ks && D.bnd.go f vs
  | .ins _ fs => fs.all fun p => D.bnd f p.2
theorem bnd_all (f : Nat) : ∀ xs : List D, D.bnd.go f xs = xs.all (D.bnd f)
  | [] => rfl
  | x :: xs => by show (D.bnd f x && D.bnd.go f xs) = _; rw [bnd_all f xs]; rfl
mutual
theorem bnd_pure (f : Nat) : ∀ d : D, d.pure = true → D.bnd f d = true
  | .non, _ => rfl
  | .bl _, _ => rfl
  | .int _, _ => rfl
  | .str _, _ => rfl
  | .tup xs, h => bnd_pureL f xs h
  | .lst xs, h => bnd_pureL f xs h
  | .scr _, _ => rfl
  | .dct ks vs, h => by
    have h : (D.pure.pureL ks && D.pure.pureL vs) = true := h
    rw [Bool.and_eq_true] at h
    show (D.bnd.go f ks && D.bnd.go f vs) = true
    rw [bnd_pureL f ks h.1, bnd_pureL f vs h.2]
    rfl
  | .obj _, h => by cases h
  | .fn _, _ => rfl
  | .cls _, _ => rfl
  | .ty _, _ => rfl
theorem bnd_pureL (f : Nat) : ∀ xs : List D, D.pure.pureL xs = true → D.bnd.go f xs = true
  | [], _ => rfl
  | x :: xs, h => by
    have h : (D.pure x && D.pure.pureL xs) = true := h
    rw [Bool.and_eq_true] at h
    show (D.bnd f x && D.bnd.go f xs) = true
    rw [bnd_pure f x h.1, bnd_pureL f xs h.2]
    rfl
end
def Wf (f : Nat) (M : MH) : Prop := f ≤ M.length ∧ ∀ (n : Nat) mo, n < f → M[n]? = some mo → mo.bnd f = true
structure MLe (fl : Nat) (lk : List Nat) (M M' : MH) : Prop where
  len : M.length ≤ M'.length
  lock : ∀ n, n ∈ lk → n < M.length → M'[n]? = M[n]?
  wf : ∀ f, f ≤ fl → Wf f M → Wf f M'
section
variable {fl : Nat} {lk lk' : List Nat} {M M' M'' : MH}
theorem MLe.refl : MLe fl lk M M := ⟨Nat.le_refl _, fun _ _ _ => rfl, fun _ _ h => h⟩
theorem MLe.trans (a : MLe fl lk M M') (b : MLe fl lk M' M'') : MLe fl lk M M'' :=
  ⟨Nat.le_trans a.len b.len, fun n h1 h2 => (b.lock n h1 (Nat.lt_of_lt_of_le h2 a.len)).trans (a.lock n h1 h2), fun f h1 h2 => b.wf f h1 (a.wf f h1 h2)⟩
theorem MLe.less (a : MLe fl lk' M M') (h : ∀ n ∈ lk, n ∈ lk') : MLe fl lk M M' := ⟨a.len, fun n h1 h2 => a.lock n (h n h1) h2, a.wf⟩
theorem MLe.push (mo : MO) : MLe fl lk M (M ++ [mo]) :=
  ⟨by simp, fun n _ h => by rw [List.getElem?_append_left h], fun f _ h => ⟨by have := h.1; simp; omega, fun n m h1 h2 => by
    rw [List.getElem?_append_left (Nat.lt_of_lt_of_le h1 h.1)] at h2
    exact h.2 n m h1 h2⟩⟩
theorem MLe.set {n : Nat} {mo : MO} (hl : n ∉ lk) (h : ∀ f, f ≤ fl → n < f → Wf f M → mo.bnd f = true) : MLe fl lk M (M.set n mo) :=
  ⟨by simp, fun k h1 _ => by rw [List.getElem?_set_ne (show n ≠ k from fun e => hl (by rw [e]; exact h1))], fun f h1 w => ⟨by simpa using w.1, fun k m h2 h3 => by
    by_cases e : n = k
    · subst e
      rw [List.getElem?_set_self (Nat.lt_of_lt_of_le h2 w.1)] at h3
      cases h3
      exact h f h1 h2 w
    · rw [List.getElem?_set_ne e] at h3
      exact w.2 k m h2 h3⟩⟩
end
def MR {α : Type} (fl : Nat) (lk : List Nat) (M : MH) : R α → Prop
  | .ok _ M' => MLe fl lk M M'
  | .exc _ M' => MLe fl lk M M'
  | .stuck => True
def MRS (fl : Nat) (lk : List Nat) (M : MH) : RS → Prop
  | .nx _ M' => MLe fl lk M M'
  | .rt _ M' => MLe fl lk M M'
  | .bk _ M' => MLe fl lk M M'
  | .ct _ M' => MLe fl lk M M'
  | .exc _ _ M' => MLe fl lk M M'
  | .stuck => True
section
variable {α β : Type} {fl : Nat} {lk lk' : List Nat} {M M0 : MH}
theorem MR.bind {r : R α} {f : α → MH → R β} (h : MR fl lk M r) (hf : ∀ a M', MR fl lk M' (f a M')) : MR fl lk M (r.bind f) := by
  cases r with
  | ok a M' =>
    have h2 := hf a M'
    show MR fl lk M (f a M')
    cases e : f a M' with
    | ok b M2 => rw [e] at h2; exact h.trans h2
    | exc k M2 => rw [e] at h2; exact h.trans h2
    | stuck => trivial
  | exc k M' => exact h
  | stuck => trivial
theorem MR.ofOpt {o : Option α} : MR fl lk M (R.ofOpt o M) := by
  cases o with
  | none => trivial
  | some a => exact MLe.refl
theorem MR.less {r : R α} (h : MR fl lk' M r) (hl : ∀ n ∈ lk, n ∈ lk') : MR fl lk M r := by
  cases r with
  | ok a M' => exact MLe.less h hl
  | exc k M' => exact MLe.less h hl
  | stuck => trivial
theorem MRS.less {r : RS} (h : MRS fl lk' M r) (hl : ∀ n ∈ lk, n ∈ lk') : MRS fl lk M r := by
  cases r with
  | stuck => trivial
  | _ => exact MLe.less h hl
theorem MR.boolD {d : D} {t f : R α} (ht : MR fl lk M t) (hf : MR fl lk M f) : MR fl lk M (Mini.boolD d t f) := by
  unfold Mini.boolD
  split
  · exact ht
  · exact hf
  · trivial
theorem MR.tupD {d : D} {f : List D → R α} (h : ∀ ys, MR fl lk M (f ys)) : MR fl lk M (Mini.tupD d f) := by
  unfold Mini.tupD
  split
  · exact h _
  · trivial
theorem MR.walkR {d : D} {f : List D → List Nat → R α} (h : ∀ xs l, MR fl lk M (f xs l)) : MR fl lk M (Mini.walkR d f) := by
  unfold Mini.walkR
  split
  · exact h _ _
  · trivial
theorem MR.one1 {as : List D} {f : D → R D} (h : ∀ x, MR fl lk M (f x)) : MR fl lk M (Mini.one1 as f) := by
  unfold Mini.one1
  split
  · exact h _
  · trivial
theorem MR.objL {o : D} {f : Nat → List D → R D} (h : ∀ n xs, M[n]? = some (.lst xs) → MR fl lk M (f n xs)) : MR fl lk M (Mini.objL o M f) := by
  unfold Mini.objL
  split
  · split
    · rename_i e; exact h _ _ e
    · trivial
  · trivial
theorem MR.calm {r : R α} (h : MR fl lk M r) : MR fl lk M (calmR r) := by
  cases r with
  | ok a M' => exact h
  | _ => trivial
end
section
variable {c : Ctx} {M : MH}
theorem mr_binop (fl : Nat) (lk : List Nat) (o : Op) (x y : D) : MR fl lk M (binop o x y M) := by
  have hc : ∀ a b, MR fl lk M (catD a b M) := fun a b => by
    unfold catD
    split
    · split
      · exact MLe.refl
      · trivial
    · trivial
  cases o
  · unfold binop addD
    dsimp only
    split
    · exact MLe.refl
    · split
      · exact MLe.refl
      · trivial
    · split
      · exact MLe.refl
      · trivial
    · exact hc _ _
  · unfold binop
    dsimp only
    split
    · exact MLe.refl
    · trivial
  · unfold binop mulD
    dsimp only
    split
    · split
      · exact MLe.refl
      · trivial
    · split
      · exact MLe.refl
      · trivial
    · trivial
  all_goals
    unfold binop
    dsimp only
    split
    · split
      · exact MLe.refl
      · trivial
    · trivial
theorem mr_bfn (fl : Nat) (lk : List Nat) (f : Bf) (as : List D) : MR fl lk M (bfn f as M) := by
  cases f
  · refine MR.one1 fun x => ?_
    unfold lenD
    split
    · split
      · exact MLe.refl
      · trivial
    · exact MLe.refl
    · exact MR.ofOpt
  · exact MR.one1 fun x => MR.ofOpt
  · exact MR.one1 fun x => MR.ofOpt
  · exact MR.one1 fun x => MR.ofOpt
  · show MR fl lk M (minD as M)
    unfold minD
    split
    · exact MLe.refl
    · exact MR.ofOpt
  · show MR fl lk M (maxD as M)
    unfold maxD
    split
    · exact MLe.refl
    · exact MR.ofOpt
  · refine MR.one1 fun x => ?_
    unfold absD
    split
    · exact MLe.refl
    · trivial
  · refine MR.one1 fun x => ?_
    unfold sortedD
    split
    · exact MR.ofOpt
    · exact MR.ofOpt
  · exact MR.one1 fun x => MR.ofOpt
  · exact MR.one1 fun x => MR.ofOpt
  · show MR fl lk M (isinstD as M)
    unfold isinstD
    split
    · exact MR.ofOpt
    · trivial
  · trivial
  · trivial
theorem mr_idx (fl : Nat) (lk : List Nat) (x y : D) : MR fl lk M (idxD x y M) := by
  unfold idxD
  split
  · split
    · split
      · exact MR.ofOpt
      · trivial
    · exact MR.ofOpt
    · exact MR.ofOpt
  · trivial
theorem mr_cut (fl : Nat) (lk : List Nat) (x : D) (l h : Option Int) : MR fl lk M (cutD x l h M) := by
  unfold cutD
  split
  · split
    · exact MLe.refl
    · trivial
  · exact MLe.refl
  · exact MR.ofOpt
theorem mr_part {fl : Nat} {lk : List Nat} {d : D} {f : Option Int → R D} (h : ∀ o, MR fl lk M (f o)) : MR fl lk M (partR d f) := by
  unfold partR
  split
  · exact h _
  · trivial
theorem mr_recv {fl : Nat} {lk : List Nat} {m : Mt} {d : D} {r : R D} (h : MR fl lk M r) : MR fl lk M (recvD m d r) := by
  unfold recvD
  split <;> first | exact h | trivial
theorem mr_rev (fl : Nat) (lk : List Nat) (x : D) : MR fl lk M (revD x M) := by
  unfold revD
  split
  · exact MLe.refl
  · exact MR.ofOpt
theorem mr_idxO (fl : Nat) (lk : List Nat) (x y : D) : MR fl lk M (idxO x y M) := by
  unfold idxO
  split
  · exact MR.ofOpt
  · trivial
theorem mr_iop (fl : Nat) (lk : List Nat) (o : Op) (x y : D) : MR fl lk M (iop o x y M) := by
  unfold iop
  split
  · exact MLe.refl
  · exact MLe.refl
  · split
    · exact MLe.refl
    · trivial
  · split
    · exact MLe.refl
    · trivial
  · trivial
theorem may_set {n : Nat} {d : D} {xs : List D} (h : c.may n d = true) (hn : M[n]? = some (.lst xs)) {ys : List D} (hy : ∀ y ∈ ys, y ∈ xs ∨ (d.pure = true → D.pure y = true)) : MLe c.fl c.lk M (M.set n (.lst ys)) := by
  unfold Ctx.may at h
  rw [Bool.and_eq_true] at h
  refine MLe.set (fun z => ?_) fun f hf hlt w => ?_
  · have h1 := h.1
    rw [List.contains_iff_mem.mpr z] at h1
    cases h1
  · have hp : d.pure = true := by
      have h2 := h.2
      rw [Bool.or_eq_true] at h2
      rcases h2 with h2 | h2
      · have := of_decide_eq_true h2
        omega
      · exact h2
    have hb : D.bnd.go f xs = true := w.2 n _ hlt hn
    show D.bnd.go f ys = true
    rw [bnd_all, List.all_eq_true] at hb ⊢
    intro y hy'
    rcases hy y hy' with z | z
    · exact hb y z
    · exact bnd_pure f y (z hp)
theorem pureL_mem : ∀ {ys : List D}, D.pure.pureL ys = true → ∀ y ∈ ys, D.pure y = true
  | [], _, y, h => by cases h
  | x :: xs, h, y, hy => by
    have h : (D.pure x && D.pure.pureL xs) = true := h
    rw [Bool.and_eq_true] at h
    rcases List.mem_cons.mp hy with e | e
    · subst e; exact h.1
    · exact pureL_mem h.2 y e
theorem mr_mth (m : Mt) (o : D) (as : List D) : MR c.fl c.lk M (mth c m o as M) := by
  cases m
  · refine MR.objL fun n xs hn => MR.one1 fun x => ?_
    unfold appendD
    split
    · rename_i h
      rw [Bool.and_eq_true] at h
      refine may_set h.1 hn fun y hy => ?_
      rcases List.mem_append.mp hy with z | z
      · exact .inl z
      · have e : y = x := by simpa using z
        exact .inr fun hp => e ▸ hp
    · trivial
  · refine MR.objL fun n xs hn => MR.one1 fun x => ?_
    split
    · unfold extendD
      split
      · rename_i h
        rw [Bool.and_eq_true] at h
        refine may_set h.1 hn fun y hy => ?_
        rcases List.mem_append.mp hy with z | z
        · exact .inl z
        · exact .inr fun hp => pureL_mem hp y z
      · trivial
    · trivial
  · refine MR.objL fun n xs hn => ?_
    unfold zero1
    split
    · unfold popD
      split
      · split
        · rename_i h
          exact may_set h hn fun y hy => .inl (List.dropLast_subset _ hy)
        · trivial
      · trivial
    · trivial
  · refine MR.objL fun n xs hn => MR.one1 fun x => ?_
    unfold removeD
    split
    · split
      · rename_i h
        exact may_set h hn fun y hy => .inl (List.mem_of_mem_eraseIdx hy)
      · trivial
    · trivial
  all_goals trivial
theorem mr_set (o i d : D) : MR c.fl c.lk M (setD c o i d M) := by
  unfold setD
  split
  · refine MR.objL fun n xs hn => ?_
    split
    · split
      · rename_i h
        refine may_set h hn fun y hy => ?_
        rcases List.mem_or_eq_of_mem_set hy with z | z
        · exact .inl z
        · exact .inr fun hp => z ▸ hp
      · trivial
    · trivial
  · trivial
theorem MR.after {α : Type} {fl : Nat} {lk : List Nat} {M M' : MH} {r : R α} (h : MLe fl lk M M') (z : MR fl lk M' r) : MR fl lk M r := by
  cases r with
  | ok b M2 => exact h.trans z
  | exc k M2 => exact h.trans z
  | stuck => trivial
theorem MRS.after {fl : Nat} {lk : List Nat} {M M' : MH} {r : RS} (h : MLe fl lk M M') (z : MRS fl lk M' r) : MRS fl lk M r := by
  cases r with
  | stuck => trivial
  | _ => exact h.trans z
theorem mr_compL {fl : Nat} {lk : List Nat} {f : D → MH → R (Option D)} (h : ∀ x M, MR fl lk M (f x M)) : ∀ (xs acc : List D) (M : MH), MR fl lk M (compL f xs acc M)
  | [], _, _ => MLe.refl
  | x :: xs, acc, M => by
    have hx := h x M
    unfold compL
    cases e : f x M with
    | ok o M' =>
      rw [e] at hx
      cases o with
      | some d => exact MR.after hx (mr_compL h xs _ M')
      | none => exact MR.after hx (mr_compL h xs _ M')
    | exc k M' => trivial
    | stuck => trivial
theorem mr_compL2 {fl : Nat} {lk : List Nat} {f : D → List D → MH → R (List D)} (h : ∀ x acc M, MR fl lk M (f x acc M)) : ∀ (xs acc : List D) (M : MH), MR fl lk M (compL2 f xs acc M)
  | [], _, _ => MLe.refl
  | x :: xs, acc, M => by
    have hx := h x acc M
    unfold compL2
    cases e : f x acc M with
    | ok o M' =>
      rw [e] at hx
      exact MR.after hx (mr_compL2 h xs _ M')
    | exc k M' => trivial
    | stuck => trivial
def CallOk (call : Bool → Nat → List D → Nat → List Nat → MH → R D) : Prop := ∀ m f as fl lk M, MR fl lk M (call m f as fl lk M)
theorem lock_sub (c : Ctx) (l : List Nat) : ∀ n ∈ c.lk, n ∈ (c.lock l).lk := fun n h => List.mem_append_right _ h
theorem mr_ev : ∀ (e : ME) (c : Ctx), CallOk c.call → ∀ (σ : Sl) (M : MH), MR c.fl c.lk M (ev c e σ M) := by
  intro e
  induction e with
  | never => intro c hc σ M; trivial
  | c d => intro c hc σ M; exact MLe.refl
  | v i => intro c hc σ M; exact MR.ofOpt
  | g i => intro c hc σ M; exact MR.ofOpt
  | bin o a b iha ihb => intro c hc σ M; exact MR.bind (iha c hc σ M) fun x M => MR.bind (ihb c hc σ M) fun y M => mr_binop _ _ o x y
  | neg a iha =>
    intro c hc σ M
    refine MR.bind (iha c hc σ M) fun x M => ?_
    unfold negD
    split
    · exact MLe.refl
    · trivial
  | not a iha => intro c hc σ M; exact MR.bind (iha c hc σ M) fun x M => MR.boolD MLe.refl MLe.refl
  | cmp o a b iha ihb => intro c hc σ M; exact MR.bind (iha c hc σ M) fun x M => MR.bind (ihb c hc σ M) fun y M => MR.ofOpt
  | chain o p a b d iha ihb ihd =>
    intro c hc σ M
    exact MR.bind (iha c hc σ M) fun x M => MR.bind (ihb c hc σ M) fun y M => MR.bind MR.ofOpt fun r M => MR.boolD (MR.bind (ihd c hc σ M) fun z M => MR.ofOpt) MLe.refl
  | and a b iha ihb => intro c hc σ M; exact MR.bind (iha c hc σ M) fun x M => MR.boolD (ihb c hc σ M) MLe.refl
  | or a b iha ihb => intro c hc σ M; exact MR.bind (iha c hc σ M) fun x M => MR.boolD MLe.refl (ihb c hc σ M)
  | ife t a b iht iha ihb => intro c hc σ M; exact MR.bind (iht c hc σ M) fun x M => MR.boolD (iha c hc σ M) (ihb c hc σ M)
  | nil => intro c hc σ M; exact MLe.refl
  | cons a r iha ihr => intro c hc σ M; exact MR.bind (iha c hc σ M) fun x M => MR.bind (ihr c hc σ M) fun y M => MR.tupD fun ys => MLe.refl
  | tup as ih => intro c hc σ M; exact ih c hc σ M
  | lst as ih => intro c hc σ M; exact MR.bind (ih c hc σ M) fun y M => MR.tupD fun ys => MLe.refl
  | new a ih =>
    intro c hc σ M
    refine MR.bind (ih c hc σ M) fun y M => ?_
    unfold newD
    split
    · exact MLe.push _
    · trivial
  | idx a i iha ihi => intro c hc σ M; exact MR.bind (iha c hc σ M) fun x M => MR.bind (ihi c hc σ M) fun y M => mr_idx _ _ x y
  | slc a lo hi iha ihl ihh => intro c hc σ M; exact MR.bind (iha c hc σ M) fun x M => MR.bind (ihl c hc σ M) fun l M => mr_part fun l => MR.bind (ihh c hc σ M) fun h M => mr_part fun h => mr_cut _ _ x l h
  | rev a ih => intro c hc σ M; exact MR.bind (ih c hc σ M) fun x M => mr_rev _ _ x
  | call m f as ih => intro c hc σ M; exact MR.bind (ih c hc σ M) fun y M => MR.tupD fun ys => hc m f ys c.fl c.lk M
  | bf f as ih => intro c hc σ M; exact MR.bind (ih c hc σ M) fun y M => MR.tupD fun ys => mr_bfn _ _ f ys
  | mt m o as iho iha => intro c hc σ M; exact MR.bind (iho c hc σ M) fun x M => mr_recv (MR.bind (iha c hc σ M) fun y M => MR.tupD fun ys => mr_mth m x ys)
  | it a ih => intro c hc σ M; exact MR.bind (ih c hc σ M) fun x M => MR.ofOpt
  | rng as ih => intro c hc σ M; exact MR.bind (ih c hc σ M) fun y M => MR.tupD fun ys => MR.ofOpt
  | enum a ih => intro c hc σ M; exact MR.bind (ih c hc σ M) fun x M => MR.ofOpt
  | zip a b iha ihb => intro c hc σ M; exact MR.bind (iha c hc σ M) fun x M => MR.bind (ihb c hc σ M) fun y M => MR.ofOpt
  | comp elt cond it t own ihe ihc ihi =>
    intro c hc σ M
    refine MR.bind (ihi c hc σ M) fun w M => MR.walkR fun xs l => MR.bind (mr_compL (fun x M => ?_) xs [] M) fun ds M => ?_
    · refine MR.bind MR.ofOpt fun σ' M => MR.bind (MR.calm ?_) fun b M => MR.boolD (MR.bind (MR.calm ?_) fun d M => MLe.refl) MLe.refl
      · split
        · exact MLe.refl
        · exact MR.less (ihc (c.lock l) hc σ' M) (lock_sub c l)
      · exact MR.less (ihe (c.lock l) hc σ' M) (lock_sub c l)
    · unfold lstD
      split
      · exact MLe.refl
      · trivial
  | comp2 elt cond it2 t2 it t own ihe ihc ihi2 ihi =>
    intro c hc σ M
    refine MR.bind (ihi c hc σ M) fun w M => MR.walkR fun xs l => MR.bind (mr_compL2 (fun x acc M => ?_) xs [] M) fun ds M => ?_
    · refine MR.bind MR.ofOpt fun σ' M => MR.bind (MR.calm (MR.less (ihi2 (c.lock l) hc σ' M) (lock_sub c l))) fun w2 M => MR.walkR fun xs2 l2 => mr_compL (fun y M => ?_) xs2 acc M
      refine MR.bind MR.ofOpt fun σ'' M => MR.bind (MR.calm ?_) fun b M => MR.boolD (MR.bind (MR.calm ?_) fun d M => MLe.refl) MLe.refl
      · split
        · exact MLe.refl
        · exact MR.less (ihc (c.lock (l2 ++ l)) hc σ'' M) (lock_sub c _)
      · exact MR.less (ihe (c.lock (l2 ++ l)) hc σ'' M) (lock_sub c _)
    · unfold lstD
      split
      · exact MLe.refl
      · trivial
theorem MRS.to {α : Type} {fl : Nat} {lk : List Nat} {M : MH} {r : R α} {σ : Sl} {f : α → MH → RS} (h : MR fl lk M r) (hf : ∀ a M', MRS fl lk M' (f a M')) : MRS fl lk M (r.to σ f) := by
  cases r with
  | ok a M' => exact MRS.after h (hf a M')
  | exc k M' => exact h
  | stuck => trivial
theorem MRS.nxO {fl : Nat} {lk : List Nat} {M : MH} {o : Option Sl} : MRS fl lk M (Mini.nxO o M) := by
  cases o with
  | none => trivial
  | some σ => exact MLe.refl
theorem mrs_loopL {fl : Nat} {lk : List Nat} {f : D → Sl → MH → RS} (h : ∀ x σ M, MRS fl lk M (f x σ M)) : ∀ (xs : List D) (σ : Sl) (M : MH), MRS fl lk M (loopL f xs σ M)
  | [], _, _ => MLe.refl
  | x :: xs, σ, M => by
    have hx := h x σ M
    unfold loopL
    cases e : f x σ M with
    | nx σ' M' => rw [e] at hx; exact MRS.after hx (mrs_loopL h xs σ' M')
    | ct σ' M' => rw [e] at hx; exact MRS.after hx (mrs_loopL h xs σ' M')
    | bk σ' M' => rw [e] at hx; exact hx
    | rt d M' => rw [e] at hx; exact hx
    | exc k σ' M' => rw [e] at hx; exact hx
    | stuck => trivial
theorem mrs_loopW {fl : Nat} {lk : List Nat} {f : Sl → MH → R Bool} {g : Sl → MH → RS} (hf : ∀ σ M, MR fl lk M (f σ M)) (hg : ∀ σ M, MRS fl lk M (g σ M)) : ∀ (k : Nat) (σ : Sl) (M : MH), MRS fl lk M (loopW f g k σ M)
  | 0, _, _ => trivial
  | k + 1, σ, M => by
    have h1 := hf σ M
    unfold loopW
    cases e : f σ M with
    | ok b M' =>
      rw [e] at h1
      cases b with
      | false => exact h1
      | true =>
        have h2 := hg σ M'
        show MRS fl lk M (match g σ M' with
          | .nx σ' M' => loopW f g k σ' M'
          | .ct σ' M' => loopW f g k σ' M'
          | .bk σ' M' => .nx σ' M'
          | r => r)
        cases e2 : g σ M' with
        | nx σ' M2 => rw [e2] at h2; exact MRS.after (h1.trans h2) (mrs_loopW hf hg k σ' M2)
        | ct σ' M2 => rw [e2] at h2; exact MRS.after (h1.trans h2) (mrs_loopW hf hg k σ' M2)
        | bk σ' M2 => rw [e2] at h2; exact h1.trans h2
        | rt d M2 => rw [e2] at h2; exact h1.trans h2
        | exc k σ' M2 => rw [e2] at h2; exact h1.trans h2
        | stuck => trivial
    | exc k M' => rw [e] at h1; exact h1
    | stuck => trivial
theorem mrs_exec : ∀ (s : MS) (c : Ctx), CallOk c.call → ∀ (σ : Sl) (M : MH), MRS c.fl c.lk M (exec c s σ M) := by
  intro s
  induction s with
  | never => intro c hc σ M; trivial
  | skip => intro c hc σ M; exact MLe.refl
  | seq a b iha ihb =>
    intro c hc σ M
    have h1 := iha c hc σ M
    show MRS c.fl c.lk M ((exec c a σ M).andThen (exec c b))
    cases e : exec c a σ M with
    | nx σ' M' => rw [e] at h1; exact MRS.after h1 (ihb c hc σ' M')
    | stuck => trivial
    | _ => rw [e] at h1; exact h1
  | asg t e => intro c hc σ M; exact MRS.to (mr_ev e c hc σ M) fun d M => MRS.nxO
  | setix o i e => intro c hc σ M; exact MRS.to (mr_ev e c hc σ M) fun d M => MRS.to (mr_ev o c hc σ M) fun x M => MRS.to (mr_ev i c hc σ M) fun y M => MRS.to (mr_set x y d) fun _ M => MLe.refl
  | aug p i e => intro c hc σ M; exact MRS.to MR.ofOpt fun x M => MRS.to (mr_ev e c hc σ M) fun y M => MRS.to (mr_iop _ _ p x y) fun d M => MRS.nxO
  | augix p o i e =>
    intro c hc σ M
    exact MRS.to (mr_ev o c hc σ M) fun x M => MRS.to (mr_ev i c hc σ M) fun y M => MRS.to (mr_idxO _ _ x y) fun z M => MRS.to (mr_ev e c hc σ M) fun d M => MRS.to (mr_iop _ _ p z d) fun r M => MRS.to (mr_set x y r) fun _ M => MLe.refl
  | ife t a b iha ihb =>
    intro c hc σ M
    refine MRS.to (mr_ev t c hc σ M) fun x M => ?_
    split
    · exact iha c hc σ M
    · exact ihb c hc σ M
    · trivial
  | for_ t it b ih =>
    intro c hc σ M
    refine MRS.to (mr_ev it c hc σ M) fun w M => ?_
    split
    · rename_i xs ls
      refine mrs_loopL (fun x σ M => ?_) xs σ M
      split
      · exact MRS.less (ih (c.lock (locks ls)) hc _ M) (lock_sub c _)
      · trivial
    · trivial
  | while_ t b ih =>
    intro c hc σ M
    have h1 : ∀ σ M, MR c.fl c.lk M ((ev c t σ M).bind fun x M => boolD x (R.ok true M) (R.ok false M)) := fun σ M =>
      MR.bind (mr_ev t c hc σ M) fun x M => MR.boolD (t := R.ok true M) (f := R.ok false M) MLe.refl MLe.refl
    exact mrs_loopW h1 (fun σ M => ih c hc σ M) _ σ M
  | ret e => intro c hc σ M; exact MRS.to (mr_ev e c hc σ M) fun d M => MLe.refl
  | retN => intro c hc σ M; exact MLe.refl
  | raise k => intro c hc σ M; exact MLe.refl
  | expr e => intro c hc σ M; exact MRS.to (mr_ev e c hc σ M) fun d M => MLe.refl
  | brk => intro c hc σ M; exact MLe.refl
  | cont => intro c hc σ M; exact MLe.refl
end
theorem mle_take {fl : Nat} {lk : List Nat} {M M' : MH} (h : MLe M.length lk M M') : MLe fl lk M (M'.take M.length) where
  len := by rw [List.length_take]; have := h.len; omega
  lock := fun n h1 h2 => by rw [List.getElem?_take_of_lt h2]; exact h.lock n h1 h2
  wf := fun f _ w => by
    have w2 := h.wf f w.1 w
    refine ⟨by rw [List.length_take]; have := h.len; have := w.1; omega, fun n mo h1 h2 => ?_⟩
    rw [List.getElem?_take_of_lt (Nat.lt_of_lt_of_le h1 w.1)] at h2
    exact w2.2 n mo h1 h2
theorem mr_leave {fl : Nat} {lk : List Nat} {M M' : MH} (h : MLe M.length lk M M') (m : Bool) (d : D) : MR fl lk M (leave m M.length d M') := by
  have ht : MLe fl lk M (M'.take M.length) := mle_take h
  unfold leave
  split
  · split
    · exact ht
    · split
      · split
        · exact ht.trans (MLe.push _)
        · trivial
      · trivial
  · cases frz M.length M' 20 d with
    | none => trivial
    | some x => exact ht
theorem callOk_callN (P : MProg) (W : Nat) : ∀ k, CallOk (callN P W k) := by
  intro k
  induction k with
  | zero => intro m f as fl lk M; trivial
  | succ k ih =>
    intro m f as fl lk M
    unfold callN
    split
    · trivial
    · rename_i d _
      split
      · have h := mrs_exec d.body ⟨callN P W k, fun i => P.gls.lookup i, W, if d.raw then fl else M.length, lk⟩ ih (as.map some ++ List.replicate (d.nn - d.np) none) M
        cases hr : d.raw with
        | false =>
          rw [hr] at h
          simp only [Bool.false_eq_true, if_false] at h ⊢
          cases e : exec ⟨callN P W k, fun i => P.gls.lookup i, W, M.length, lk⟩ d.body (as.map some ++ List.replicate (d.nn - d.np) none) M with
          | nx σ M' => rw [e] at h; exact mr_leave h m _
          | rt v M' => rw [e] at h; exact mr_leave h m _
          | exc k σ M' => rw [e] at h; exact mle_take h
          | _ => trivial
        | true =>
          rw [hr] at h
          simp only [if_true] at h ⊢
          cases e : exec ⟨callN P W k, fun i => P.gls.lookup i, W, fl, lk⟩ d.body (as.map some ++ List.replicate (d.nn - d.np) none) M with
          | nx σ M' => rw [e] at h; exact h
          | rt v M' => rw [e] at h; exact h
          | exc k σ M' => rw [e] at h; exact h
          | _ => trivial
      · trivial
end Mini
set_option autoImplicit false
set_option maxRecDepth 100000
set_option maxHeartbeats 4000000
namespace MiniS
open PySem PySem.Spec PyProof.Rows L2 Mini
structure Tab where
  fn : Nat → Option PySem.Str
  gl : Nat → Option PySem.Str
  cls : Nat → Option PySem.Str
  free : PySem.Str → Bool
inductive Kd where
  | E | A | I
  deriving DecidableEq
def visB (sc : Scope) (x : PySem.Str) : Bool :=
  match sc.names.lookup x with
  | some .local => true
  | some .cell => true
  | some .free => true
  | _ => false
def locB (sc : Scope) (x : PySem.Str) : Bool :=
  match sc.names.lookup x with
  | some .local => true
  | some .cell => true
  | _ => false
def glB (sc : Scope) (x : PySem.Str) : Bool :=
  match sc.names.lookup x with
  | some .globalImplicit => true
  | _ => false
def nameB (x : PySem.Str) : Bool := !(x == ("__debug__" : PySem.Str)) && !(x == ("__classdict__" : PySem.Str)) && !decide (x = ("__name__" : PySem.Str))
def asName : Expr → Option PySem.Str
  | .Name x _ => some x
  | _ => none
def asBin : Expr → Option (Expr × Operator × Expr)
  | .BinOp a o b _ => some (a, o, b)
  | _ => none
def asUn : Expr → Option (UnaryOp × Expr)
  | .UnaryOp o a _ => some (o, a)
  | _ => none
def asCmp : Expr → Option (Expr × CmpOp × Expr)
  | .Compare a [o] [b] _ => some (a, o, b)
  | _ => none
def asChain : Expr → Option (Expr × CmpOp × Expr × CmpOp × Expr)
  | .Compare a [o, p] [b, c] _ => some (a, o, b, p, c)
  | _ => none
def asBool (o : BoolOp) : Expr → Option (Expr × Expr)
  | .BoolOp q (a :: b :: r) pos => if q = o then some (a, match r with | [] => b | _ => .BoolOp q (b :: r) pos) else none
  | _ => none
def asIf : Expr → Option (Expr × Expr × Expr)
  | .IfExp c a b _ => some (c, a, b)
  | _ => none
def asArgs : Expr → Option (Option (Expr × Expr))
  | .Tuple [] _ _ => some none
  | .Tuple (e :: es) k p => some (some (e, .Tuple es k p))
  | _ => none
def asTup : Expr → Option (List Expr)
  | .Tuple es _ _ => some es
  | _ => none
def asLst : Expr → Option (List Expr)
  | .List es _ => some es
  | _ => none
def asIdx : Expr → Option (Expr × Expr)
  | .Subscript _ (.Slice ..) _ => none
  | .Subscript a i _ => some (a, i)
  | _ => none
def asSlc : Expr → Option (Expr × Option Expr × Option Expr)
  | .Subscript a (.Slice l u none _) _ => some (a, l, u)
  | _ => none
def asRev : Expr → Option Expr
  | .Subscript a (.Slice none none (some (.UnaryOp .USub (.Constant (.int 1) _ _) _)) _) _ => some a
  | _ => none
def asCall : Expr → Option (PySem.Str × List Expr)
  | .Call (.Name x _) es [] _ => some (x, es)
  | _ => none
def asMeth : Expr → Option (Expr × PySem.Str × List Expr)
  | .Call (.Attribute (.Call _ [] _ _) _ _) _ _ _ => none
  | .Call (.Attribute o x ap) es [] cp => if ap.endLine == cp.line then some (o, x, es) else none
  | _ => none
def asComp : Expr → Option (Expr × Expr × Expr × Option Expr × Scope)
  | .ListComp e [⟨t, i, [], 0⟩] sc _ => some (e, t, i, none, sc)
  | .ListComp e [⟨t, i, [c], 0⟩] sc _ => some (e, t, i, some c, sc)
  | _ => none
def asComp2 : Expr → Option (Expr × Expr × Expr × Expr × Expr × Option Expr × Scope)
  | .ListComp e [⟨t, i, [], 0⟩, ⟨t1, i1, [], 0⟩] sc _ => some (e, t, i, t1, i1, none, sc)
  | .ListComp e [⟨t, i, [], 0⟩, ⟨t1, i1, [c], 0⟩] sc _ => some (e, t, i, t1, i1, some c, sc)
  | _ => none
def args (es : List Expr) : Expr := .Tuple es 0 ⟨0, 0, 0, 0⟩
def plainB : Expr → Bool
  | .BoolOp .. => true
  | .BinOp .. => true
  | .UnaryOp .. => true
  | .IfExp .. => true
  | .ListComp .. => true
  | .Compare .. => true
  | .Call .. => true
  | .Constant .. => true
  | .Subscript .. => true
  | .Name .. => true
  | .List .. => true
  | .Tuple .. => true
  | _ => false
def bfName : Bf → PySem.Str
  | .len => "len"
  | .sum => "sum"
  | .all => "all"
  | .any => "any"
  | .min => "min"
  | .max => "max"
  | .abs => "abs"
  | .sorted => "sorted"
  | .tuple => "tuple"
  | .list => "list"
  | .isinst => "isinstance"
  | .str => "str"
  | .int => "int"
def mtOk : Mt → Bool
  | .append => true
  | .extend => true
  | .pop => true
  | .remove => true
  | _ => false
def mtName : Mt → PySem.Str
  | .append => "append"
  | .extend => "extend"
  | .pop => "pop"
  | .remove => "remove"
  | .index => "index"
  | .count => "count"
  | .join => "join"
  | .split => "split"
  | .startswith => "startswith"
def tyStr : Ty → PySem.Str
  | .int => "int"
  | .bool => "bool"
  | .str => "str"
  | .tuple => "tuple"
  | .list => "list"
def mC (T : Tab) (sc : Scope) (d : D) (e : Expr) : Bool :=
  match d, e with
  | .int i, .Constant (.int j) _ _ => decide (i = j)
  | .bl b, .Constant (.bool c) _ _ => b == c
  | .non, .Constant .none _ _ => true
  | .str s, .Constant (.str x) _ _ => decide (mkS s = x) && PyData.strOk x
  | .ty t, .Name x _ => decide (x = tyStr t) && glB sc x && T.free x
  | _, _ => false
def namesB (N : List PySem.Str) (sc : Scope) : List Nat → List Expr → Bool
  | [], [] => true
  | i :: is, .Name x _ :: es => decide (N[i]? = some x) && locB sc x && namesB N sc is es
  | _, _ => false
def mT (N : List PySem.Str) (sc : Scope) (t : Tg) (e : Expr) : Bool :=
  match t, e with
  | .one i, .Name x _ => decide (N[i]? = some x) && locB sc x
  | .many is, .Tuple es _ _ => namesB N sc is es
  | _, _ => false
def freshB : ME → Bool
  | .lst _ => true
  | .comp2 _ _ _ _ _ _ _ => true
  | .bin _ _ _ => true
  | .slc _ _ _ => true
  | .rev _ => true
  | .comp _ _ _ _ _ => true
  | .bf .list _ => true
  | .bf .sorted _ => true
  | _ => false
def ownB (N : List PySem.Str) (own : List Nat) : List (PySem.Str × Nat) := own.map fun i => (N.getD i "", i)
def isE : Kd → Bool
  | .E => true
  | _ => false
def isA : Kd → Bool
  | .A => true
  | _ => false
def isI : Kd → Bool
  | .I => true
  | _ => false
def isTupE : Expr → Bool
  | .Tuple _ _ _ => true
  | _ => false
def mE (T : Tab) (N : List PySem.Str) : ME → Kd → Scope → Expr → Bool
  | .never, k, _, e => isE k && plainB e
  | .c d, k, sc, e => isE k && mC T sc d e
  | .v i, k, sc, e => isE k && (asName e).any fun x => decide (N[i]? = some x) && visB sc x && nameB x
  | .g i, k, sc, e => isE k && (asName e).any fun x => decide (T.gl i = some x) && glB sc x && nameB x
  | .bin o a b, k, sc, e => isE k && (asBin e).any fun p => decide (opOf o = p.2.1) && mE T N a .E sc p.1 && mE T N b .E sc p.2.2
  | .neg a, k, sc, e => isE k && (asUn e).any fun p => decide (p.1 = .USub) && mE T N a .E sc p.2
  | .not a, k, sc, e => isE k && (asUn e).any fun p => decide (p.1 = .Not) && mE T N a .E sc p.2
  | .cmp o a b, k, sc, e => isE k && (asCmp e).any fun p => decide (cmOf o = p.2.1) && mE T N a .E sc p.1 && mE T N b .E sc p.2.2
  | .chain o q a b d, k, sc, e => isE k && (asChain e).any fun p => decide (cmOf o = p.2.1) && decide (cmOf q = p.2.2.2.1) && mE T N a .E sc p.1 && mE T N b .E sc p.2.2.1 && mE T N d .E sc p.2.2.2.2
  | .and a b, k, sc, e => isE k && (asBool .And e).any fun p => mE T N a .E sc p.1 && mE T N b .E sc p.2
  | .or a b, k, sc, e => isE k && (asBool .Or e).any fun p => mE T N a .E sc p.1 && mE T N b .E sc p.2
  | .ife t a b, k, sc, e => isE k && (asIf e).any fun p => mE T N t .E sc p.1 && mE T N a .E sc p.2.1 && mE T N b .E sc p.2.2
  | .nil, k, _, e => isA k && (asArgs e).any fun p => p.isNone
  | .cons a r, k, sc, e => isA k && (asArgs e).any fun p => p.any fun q => mE T N a .E sc q.1 && mE T N r .A sc q.2
  | .tup as, k, sc, e => isE k && (asTup e).any fun es => decide (es.length ≤ 1000) && mE T N as .A sc (args es)
  | .lst as, k, sc, e => isE k && (asLst e).any fun es => decide (es.length ≤ 1000) && mE T N as .A sc (args es)
  | .new a, k, sc, e => isE k && freshB a && mE T N a .E sc e
  | .idx a i, k, sc, e => isE k && (asIdx e).any fun p => mE T N a .E sc p.1 && mE T N i .E sc p.2
  | .slc a lo hi, k, sc, e => isE k && (asSlc e).any fun p => mE T N a .E sc p.1 &&
      (match p.2.1 with | none => isNon lo | some l => !isNon lo && mE T N lo .E sc l) && (match p.2.2 with | none => isNon hi | some h => !isNon hi && mE T N hi .E sc h)
  | .rev a, k, sc, e => isE k && (asRev e).any fun x => mE T N a .E sc x
  | .call _ f as, k, sc, e => isE k && (asCall e).any fun p => decide (T.fn f = some p.1) && glB sc p.1 && nameB p.1 && mE T N as .A sc (args p.2)
  | .bf f as, k, sc, e => isE k && (asCall e).any fun p => decide (p.1 = bfName f) && glB sc p.1 && T.free p.1 && !p.2.isEmpty && mE T N as .A sc (args p.2)
  | .mt m o as, k, sc, e => isE k && (asMeth e).any fun p => mtOk m && decide (p.2.1 = mtName m) && decide (p.2.2.length < 10) && mE T N o .E sc p.1 && mE T N as .A sc (args p.2.2)
  | .it a, k, sc, e => isI k && mE T N a .E sc e
  | .rng as, k, sc, e => isI k && (asCall e).any fun p => decide (p.1 = ("range" : PySem.Str)) && glB sc p.1 && T.free p.1 && decide (1 ≤ p.2.length ∧ p.2.length ≤ 3) && mE T N as .A sc (args p.2)
  | .enum a, k, sc, e => isI k && (asCall e).any fun p => decide (p.1 = ("enumerate" : PySem.Str)) && glB sc p.1 && T.free p.1 && (match p.2 with | [x] => mE T N a .E sc x | _ => false)
  | .zip a b, k, sc, e => isI k && (asCall e).any fun p => decide (p.1 = ("zip" : PySem.Str)) && glB sc p.1 && T.free p.1 && (match p.2 with | [x, y] => mE T N a .E sc x && mE T N b .E sc y | _ => false)
  | .comp elt cond it t own, k, sc, e => isE k && (asComp e).any fun p =>
      mE T N it .I sc p.2.2.1 && blkC N sc p.2.2.2.2 (ownB N own) && mT N p.2.2.2.2 t p.2.1 && (tgSlots t).all (fun i => own.contains i) && (itPlain it || isTupE p.2.1) &&
      (match p.2.2.2.1 with | none => isNil cond | some c => !isNil cond && mE T N cond .E (relS p.2.2.2.2 sc) c) && mE T N elt .E (relS p.2.2.2.2 sc) p.1
  | .comp2 elt cond it2 t2 it t own, k, sc, e => isE k && (asComp2 e).any fun p =>
      mE T N it .I sc p.2.2.1 && blkC N sc p.2.2.2.2.2.2 (ownB N own) && mT N p.2.2.2.2.2.2 t p.2.1 && mT N p.2.2.2.2.2.2 t2 p.2.2.2.1 && (tgSlots t).all (fun i => own.contains i) && (tgSlots t2).all (fun i => own.contains i) &&
      (itPlain it || isTupE p.2.1) && (itPlain it2 || isTupE p.2.2.2.1) && mE T N it2 .I (relS p.2.2.2.2.2.2 sc) p.2.2.2.2.1 &&
      (match p.2.2.2.2.2.1 with | none => isNil cond | some c => !isNil cond && mE T N cond .E (relS p.2.2.2.2.2.2 sc) c) && mE T N elt .E (relS p.2.2.2.2.2.2 sc) p.1
where
  isNon : ME → Bool
    | .c .non => true
    | _ => false
  itPlain : ME → Bool
    | .it _ => true
    | .rng _ => true
    | _ => false
theorem any_some {α : Type} {o : Option α} {p : α → Bool} (h : o.any p = true) : ∃ a, o = some a ∧ p a = true := by
  cases o with
  | none => cases h
  | some a => exact ⟨a, rfl, h⟩
end MiniS
set_option autoImplicit false
set_option maxRecDepth 100000
set_option maxHeartbeats 4000000
namespace MiniS
open PySem PySem.Spec PyProof.Rows L2 Mini
section
variable {T : Tab} {N : List PySem.Str} {sc : Scope} {e : Expr} {x : PySem.Str}
theorem asName_eq (h : asName e = some x) : ∃ p, e = .Name x p := by
  cases e <;> first | (cases h; exact ⟨_, rfl⟩) | cases h
theorem asBin_eq {p : Expr × Operator × Expr} (h : asBin e = some p) : ∃ q, e = .BinOp p.1 p.2.1 p.2.2 q := by
  cases e <;> first | (cases h; exact ⟨_, rfl⟩) | cases h
theorem asUn_eq {p : UnaryOp × Expr} (h : asUn e = some p) : ∃ q, e = .UnaryOp p.1 p.2 q := by
  cases e <;> first | (cases h; exact ⟨_, rfl⟩) | cases h
theorem asCmp_eq {p : Expr × CmpOp × Expr} (h : asCmp e = some p) : ∃ q, e = .Compare p.1 [p.2.1] [p.2.2] q := by
  unfold asCmp at h
  split at h
  · cases h; exact ⟨_, rfl⟩
  · cases h
theorem asChain_eq {p : Expr × CmpOp × Expr × CmpOp × Expr} (h : asChain e = some p) : ∃ q, e = .Compare p.1 [p.2.1, p.2.2.2.1] [p.2.2.1, p.2.2.2.2] q := by
  unfold asChain at h
  split at h
  · cases h; exact ⟨_, rfl⟩
  · cases h
theorem asBool_eq {o : BoolOp} {p : Expr × Expr} (h : asBool o e = some p) : (∃ q, e = .BoolOp o [p.1, p.2] q) ∨ ∃ b c r q, e = .BoolOp o (p.1 :: b :: c :: r) q ∧ p.2 = .BoolOp o (b :: c :: r) q := by
  unfold asBool at h
  split at h
  · rename_i q a b r pos
    split at h
    · rename_i hq
      subst hq
      cases r with
      | nil => cases h; exact .inl ⟨_, rfl⟩
      | cons c r => cases h; exact .inr ⟨b, c, r, pos, rfl, rfl⟩
    · cases h
  · cases h
theorem asIf_eq {p : Expr × Expr × Expr} (h : asIf e = some p) : ∃ q, e = .IfExp p.1 p.2.1 p.2.2 q := by
  cases e <;> first | (cases h; exact ⟨_, rfl⟩) | cases h
theorem asTup_eq {es : List Expr} (h : asTup e = some es) : ∃ k q, e = .Tuple es k q := by
  cases e <;> first | (cases h; exact ⟨_, _, rfl⟩) | cases h
theorem asLst_eq {es : List Expr} (h : asLst e = some es) : ∃ q, e = .List es q := by
  cases e <;> first | (cases h; exact ⟨_, rfl⟩) | cases h
theorem asArgs_args {es : List Expr} {p : Option (Expr × Expr)} (h : asArgs (args es) = some p) : (es = [] ∧ p = none) ∨ ∃ a r, es = a :: r ∧ p = some (a, args r) := by
  cases es with
  | nil => cases h; exact .inl ⟨rfl, rfl⟩
  | cons a r => cases h; exact .inr ⟨a, r, rfl, rfl⟩
theorem asIdx_eq {p : Expr × Expr} (h : asIdx e = some p) : ∃ q, e = .Subscript p.1 p.2 q := by
  unfold asIdx at h
  split at h
  · cases h
  · cases h; exact ⟨_, rfl⟩
  · cases h
theorem asSlc_eq {p : Expr × Option Expr × Option Expr} (h : asSlc e = some p) : ∃ q1 q2, e = .Subscript p.1 (.Slice p.2.1 p.2.2 none q1) q2 := by
  unfold asSlc at h
  split at h
  · cases h; exact ⟨_, _, rfl⟩
  · cases h
theorem asRev_eq {a : Expr} (h : asRev e = some a) : ∃ k p1 p2 p3 q, e = .Subscript a (.Slice none none (some (.UnaryOp .USub (.Constant (.int 1) k p1) p2)) p3) q := by
  unfold asRev at h
  split at h
  · cases h; exact ⟨_, _, _, _, _, rfl⟩
  · cases h
theorem asCall_eq {p : PySem.Str × List Expr} (h : asCall e = some p) : ∃ q1 q2, e = .Call (.Name p.1 q1) p.2 [] q2 := by
  unfold asCall at h
  split at h
  · cases h; exact ⟨_, _, rfl⟩
  · cases h
theorem asMeth_eq {p : Expr × PySem.Str × List Expr} (h : asMeth e = some p) : ∃ ap cp, e = .Call (.Attribute p.1 p.2.1 ap) p.2.2 [] cp ∧ (ap.endLine == cp.line) = true ∧ ∀ f k q, p.1 ≠ .Call f [] k q := by
  unfold asMeth at h
  split at h
  · cases h
  · rename_i o x ap es cp hn
    split at h
    · rename_i hl
      cases h
      exact ⟨ap, cp, rfl, hl, fun f k q z => hn f k q z⟩
    · cases h
  · cases h
theorem asComp_eq {p : Expr × Expr × Expr × Option Expr × Scope} (h : asComp e = some p) : ∃ q, e = .ListComp p.1 [⟨p.2.1, p.2.2.1, p.2.2.2.1.toList, 0⟩] p.2.2.2.2 q := by
  unfold asComp at h
  split at h
  · cases h; exact ⟨_, rfl⟩
  · cases h; exact ⟨_, rfl⟩
  · cases h
theorem asComp2_eq {p : Expr × Expr × Expr × Expr × Expr × Option Expr × Scope} (h : asComp2 e = some p) : ∃ q, e = .ListComp p.1 [⟨p.2.1, p.2.2.1, [], 0⟩, ⟨p.2.2.2.1, p.2.2.2.2.1, p.2.2.2.2.2.1.toList, 0⟩] p.2.2.2.2.2.2 q := by
  unfold asComp2 at h
  split at h
  · cases h; exact ⟨_, rfl⟩
  · cases h; exact ⟨_, rfl⟩
  · cases h
theorem and_t {a b : Bool} (h : (a && b) = true) : a = true ∧ b = true := Bool.and_eq_true_iff.mp h
theorem mC_plain {d : D} (h : mC T sc d e = true) : plainB e = true := by
  unfold mC at h
  split at h <;> first | rfl | cases h
theorem mE_plain : ∀ {me : ME}, mE T N me .E sc e = true → plainB e = true := by
  intro me
  cases me with
  | never => intro h; exact (and_t h).2
  | c d => intro h; exact mC_plain (and_t h).2
  | v i => intro h; obtain ⟨x, h1, _⟩ := any_some (and_t h).2; obtain ⟨p, rfl⟩ := asName_eq h1; rfl
  | g i => intro h; obtain ⟨x, h1, _⟩ := any_some (and_t h).2; obtain ⟨p, rfl⟩ := asName_eq h1; rfl
  | bin o a b => intro h; obtain ⟨x, h1, _⟩ := any_some (and_t h).2; obtain ⟨p, rfl⟩ := asBin_eq h1; rfl
  | neg a => intro h; obtain ⟨x, h1, _⟩ := any_some (and_t h).2; obtain ⟨p, rfl⟩ := asUn_eq h1; rfl
  | not a => intro h; obtain ⟨x, h1, _⟩ := any_some (and_t h).2; obtain ⟨p, rfl⟩ := asUn_eq h1; rfl
  | cmp o a b => intro h; obtain ⟨x, h1, _⟩ := any_some (and_t h).2; obtain ⟨p, rfl⟩ := asCmp_eq h1; rfl
  | chain o p a b d => intro h; obtain ⟨x, h1, _⟩ := any_some (and_t h).2; obtain ⟨p, rfl⟩ := asChain_eq h1; rfl
  | and a b =>
    intro h
    obtain ⟨x, h1, _⟩ := any_some (and_t h).2
    rcases asBool_eq h1 with ⟨q, rfl⟩ | ⟨b', c, r, q, rfl, _⟩ <;> rfl
  | or a b =>
    intro h
    obtain ⟨x, h1, _⟩ := any_some (and_t h).2
    rcases asBool_eq h1 with ⟨q, rfl⟩ | ⟨b', c, r, q, rfl, _⟩ <;> rfl
  | ife t a b => intro h; obtain ⟨x, h1, _⟩ := any_some (and_t h).2; obtain ⟨p, rfl⟩ := asIf_eq h1; rfl
  | nil => intro h; cases (and_t h).1
  | cons a r => intro h; cases (and_t h).1
  | tup as => intro h; obtain ⟨x, h1, _⟩ := any_some (and_t h).2; obtain ⟨k, p, rfl⟩ := asTup_eq h1; rfl
  | lst as => intro h; obtain ⟨x, h1, _⟩ := any_some (and_t h).2; obtain ⟨p, rfl⟩ := asLst_eq h1; rfl
  | new a =>
    intro h
    have h2 := (and_t h).2
    cases a with
    | lst as => obtain ⟨x, h1, _⟩ := any_some (and_t h2).2; obtain ⟨p, rfl⟩ := asLst_eq h1; rfl
    | bin o a b => obtain ⟨x, h1, _⟩ := any_some (and_t h2).2; obtain ⟨p, rfl⟩ := asBin_eq h1; rfl
    | slc a b c => obtain ⟨x, h1, _⟩ := any_some (and_t h2).2; obtain ⟨p, q, rfl⟩ := asSlc_eq h1; rfl
    | rev a => obtain ⟨x, h1, _⟩ := any_some (and_t h2).2; obtain ⟨_, _, _, _, _, rfl⟩ := asRev_eq h1; rfl
    | comp a b c d f => obtain ⟨x, h1, _⟩ := any_some (and_t h2).2; obtain ⟨p, rfl⟩ := asComp_eq h1; rfl
    | comp2 a b c d e f g => obtain ⟨x, h1, _⟩ := any_some (and_t h2).2; obtain ⟨p, rfl⟩ := asComp2_eq h1; rfl
    | bf f as => obtain ⟨x, h1, _⟩ := any_some (and_t h2).2; obtain ⟨p, q, rfl⟩ := asCall_eq h1; rfl
    | _ => cases (and_t (and_t h).1).2
  | idx a i => intro h; obtain ⟨x, h1, _⟩ := any_some (and_t h).2; obtain ⟨p, rfl⟩ := asIdx_eq h1; rfl
  | slc a b c => intro h; obtain ⟨x, h1, _⟩ := any_some (and_t h).2; obtain ⟨p, q, rfl⟩ := asSlc_eq h1; rfl
  | rev a => intro h; obtain ⟨x, h1, _⟩ := any_some (and_t h).2; obtain ⟨_, _, _, _, _, rfl⟩ := asRev_eq h1; rfl
  | call m f as => intro h; obtain ⟨x, h1, _⟩ := any_some (and_t h).2; obtain ⟨p, q, rfl⟩ := asCall_eq h1; rfl
  | bf f as => intro h; obtain ⟨x, h1, _⟩ := any_some (and_t h).2; obtain ⟨p, q, rfl⟩ := asCall_eq h1; rfl
  | mt m o as => intro h; obtain ⟨x, h1, _⟩ := any_some (and_t h).2; obtain ⟨p, q, rfl, _⟩ := asMeth_eq h1; rfl
  | it a => intro h; cases (and_t h).1
  | rng as => intro h; cases (and_t h).1
  | enum a => intro h; cases (and_t h).1
  | zip a b => intro h; cases (and_t h).1
  | comp a b c d f => intro h; obtain ⟨x, h1, _⟩ := any_some (and_t h).2; obtain ⟨p, rfl⟩ := asComp_eq h1; rfl
  | comp2 a b c d e f g => intro h; obtain ⟨x, h1, _⟩ := any_some (and_t h).2; obtain ⟨p, rfl⟩ := asComp2_eq h1; rfl
end
section
variable {e : Expr} (h : plainB e = true)
include h
theorem plain_star (es : List Expr) (env : Env) : starEach (e :: es) env = (false, eval e env) :: starEach es env := by
  cases e <;> first | rfl | cases h
theorem plain_fold (env : Env) (x : Value) : foldedSetIterable e env x = pure x := by
  cases e <;> first | rfl | cases h
theorem plain_marks (op : CmpOp) : behindInMarks op e = false := by
  cases e <;> first | rfl | cases h
theorem plain_ix (hs : ∀ a b c d, e ≠ .Slice a b c d) : PlainIx e := by
  intro o i
  cases e <;> first | rfl | cases h
end
def spF (G : Gi) (call : Bool → Nat → List D → Nat → List Nat → MH → R D) (f np : Nat) : Sp := fun vs H Q E =>
  ∃ (hid : List Addr) (m : Bool) (ρ : List Addr) (M : MH) (ds : List D) (fl : Nat) (lk : List Nat), RepH (G.hide hid) ρ M H ∧ Reps (G.hide hid) ρ H ds vs ∧ ds.length = np ∧ PostE (G.hide hid) ρ H (call m f ds fl lk M) Q fun k H' => E (.ref (G.ca k)) none H'
structure TOk (T : Tab) (P : Program) (w : World) (K : PySem.W.Frag) (mg : PySem.Str → Option Value) (base : Heap) (G : Gi) (call : Bool → Nat → List D → Nat → List Nat → MH → R D) (gl : Nat → Option D) (k : Nat) : Prop where
  free : ∀ x, T.free x = true → mg x = none
  gl : ∀ i x d, T.gl i = some x → gl i = some d → ∃ u v, mg x = some u ∧ RelV v u ∧ ∀ hid ρ H, Rep (G.hide hid) ρ H d v
  fn : ∀ f x, T.fn f = some x → ∃ np fd ps, mg x = some (.ref (G.fa f)) ∧ PySem.W.keepIn K (.ref (G.fa f)) = true ∧ Binds K fd ps [] ∧ FnOk P w K mg base (L2.CX P w) k (G.fa f) fd ps (spF G call f np) ∧
    ∀ m ds fl lk M, call m f ds fl lk M ≠ .stuck → ds.length = np
theorem TOk.hide {T : Tab} {P : Program} {w : World} {K : PySem.W.Frag} {mg : PySem.Str → Option Value} {base : Heap} {G : Gi} {call : Bool → Nat → List D → Nat → List Nat → MH → R D} {gl : Nat → Option D} {k : Nat} (h : TOk T P w K mg base G call gl k) (hid : List Addr) :
    TOk T P w K mg base (G.hide hid) call gl k := ⟨h.free, h.gl, h.fn⟩
structure Here (X : Cx) (T : Tab) (G : Gi) (c : Mini.Ctx) (sc : Scope) (N : List PySem.Str) (W : WX) (k : Nat) : Prop where
  sc : X.env.scope = sc
  N : X.N = N
  calm : X.calm = true
  nd : X.N.Nodup
  K : X.K = G.K
  room : Room k X.A
  tk : Takes X W
  tok : TOk T X.prog X.w X.K X.mg X.base G c.call c.gl k
  cok : CallOk c.call
  kind : X.env.scope.kind = .function
def GoodE (G : Gi) (c : Mini.Ctx) (W : WX) (me : ME) (t : TE) : Prop :=
  ∀ (ρ : List Addr) (M : MH) (H : Hp) (σd : Sl) (σ : L2.St) (Q : VK), RepH G ρ M H → RepS G ρ H σd σ → PostE G ρ H (ev c me σd M) Q (fun k H' => W (.ref (G.ca k)) none σ H') → t σ H Q
def PostT (G : Gi) (ρ : List Addr) (H : Hp) (r : R D) (Q : Bool → Hp → Prop) (E : Nat → Hp → Prop) : Prop :=
  match r with
  | .ok (.bl b) M' => ∀ ρ' H', Le G ρ H ρ' H' → RepH G ρ' M' H' → Q b H'
  | .ok _ _ => False
  | .exc k M' => ∀ ρ' H', Le G ρ H ρ' H' → RepH G ρ' M' H' → E k H'
  | .stuck => False
def GoodT (G : Gi) (c : Mini.Ctx) (W : WX) (me : ME) (t : TT) : Prop :=
  ∀ (ρ : List Addr) (M : MH) (H : Hp) (σd : Sl) (σ : L2.St) (Q : Bool → Hp → Prop), RepH G ρ M H → RepS G ρ H σd σ → PostT G ρ H (ev c me σd M) Q (fun k H' => W (.ref (G.ca k)) none σ H') → t σ H Q
def PostA (G : Gi) (ρ : List Addr) (H : Hp) (r : R D) (Q : List V → Hp → Prop) (E : Nat → Hp → Prop) : Prop :=
  match r with
  | .ok d M' => ∃ ds, d = .tup ds ∧ ∀ vs ρ' H', Le G ρ H ρ' H' → RepH G ρ' M' H' → Reps G ρ' H' ds vs → Q vs H'
  | .exc k M' => ∀ ρ' H', Le G ρ H ρ' H' → RepH G ρ' M' H' → E k H'
  | .stuck => False
def GoodA (G : Gi) (c : Mini.Ctx) (W : WX) (me : ME) (t : TA) : Prop :=
  ∀ (ρ : List Addr) (M : MH) (H : Hp) (σd : Sl) (σ : L2.St) (Q : List V → Hp → Prop), RepH G ρ M H → RepS G ρ H σd σ → PostA G ρ H (ev c me σd M) Q (fun k H' => W (.ref (G.ca k)) none σ H') → t σ H Q
section
variable {X : Cx} {T : Tab} {G : Gi} {c : Mini.Ctx} {sc : Scope} {N : List PySem.Str} {W : WX} {k : Nat} {e : Expr}
def SndE (X : Cx) (G : Gi) (c : Mini.Ctx) (W : WX) (me : ME) (e : Expr) : Prop := (∃ t, PE X e t ∧ GoodE G c W me t) ∧ ∃ t, PT X e t ∧ GoodT G c W me t
def SndA (X : Cx) (G : Gi) (c : Mini.Ctx) (W : WX) (me : ME) (es : List Expr) : Prop := ∃ t, PA X es t ∧ GoodA G c W me t
theorem PostE.bind {ρ : List Addr} {H : Hp} {r : R D} {f : D → MH → R D} {Q : VK} {E : Nat → Hp → Prop} (p : PostE G ρ H (r.bind f) Q E) :
    PostE G ρ H r (fun v H' => ∀ d M' ρ', r = .ok d M' → Le G ρ H ρ' H' → RepH G ρ' M' H' → Rep G ρ' H' d v → PostE G ρ' H' (f d M') Q E) E := by
  cases r with
  | ok d M' =>
    intro v ρ' H' l rh rv d2 M2 ρ2 e l2 rh2 rv2
    cases e
    exact PostE.mono l2 p
  | exc k M' => exact p
  | stuck => exact p
theorem GoodE.run {me : ME} {t : TE} (g : GoodE G c W me t) {ρ : List Addr} {M : MH} {H : Hp} {σd : Sl} {σ : L2.St} {f : D → MH → R D} {Q Q' : VK} (rh : RepH G ρ M H) (rs : RepS G ρ H σd σ)
    (p : PostE G ρ H ((ev c me σd M).bind f) Q fun k H' => W (.ref (G.ca k)) none σ H')
    (h : ∀ d M' v ρ' H', ev c me σd M = .ok d M' → Le G ρ H ρ' H' → RepH G ρ' M' H' → RepS G ρ' H' σd σ → Rep G ρ' H' d v → PostE G ρ' H' (f d M') Q (fun k H' => W (.ref (G.ca k)) none σ H') → Q' v H') : t σ H Q' := by
  refine g ρ M H σd σ Q' rh rs ?_
  cases e : ev c me σd M with
  | ok d M' =>
    rw [e] at p
    exact fun v ρ' H' l rh' rv => h d M' v ρ' H' e l rh' (rs.mono l) rv (PostE.mono l p)
  | exc k M' => rw [e] at p; exact p
  | stuck => rw [e] at p; exact p
theorem PostT.bindE {ρ : List Addr} {H : Hp} {r : R D} {f : D → MH → R D} {Q : Bool → Hp → Prop} {E : Nat → Hp → Prop} {M' : MH} {d : D} (e : r = .ok d M') (p : PostT G ρ H (r.bind f) Q E) : PostT G ρ H (f d M') Q E := by
  subst e; exact p
theorem PostT.mono {ρ ρ' : List Addr} {H H' : Hp} {r : R D} {Q : Bool → Hp → Prop} {E : Nat → Hp → Prop} (l : Le G ρ H ρ' H') (p : PostT G ρ H r Q E) : PostT G ρ' H' r Q E := by
  cases r with
  | ok d M' =>
    cases d with
    | bl b => exact fun ρ2 H2 l2 => p ρ2 H2 (l.trans l2)
    | _ => exact p
  | exc k M' => exact fun ρ2 H2 l2 => p ρ2 H2 (l.trans l2)
  | stuck => exact p
theorem PostA.mono {ρ ρ' : List Addr} {H H' : Hp} {r : R D} {Q : List V → Hp → Prop} {E : Nat → Hp → Prop} (l : Le G ρ H ρ' H') (p : PostA G ρ H r Q E) : PostA G ρ' H' r Q E := by
  cases r with
  | ok d M' =>
    obtain ⟨ds, e, p⟩ := p
    exact ⟨ds, e, fun v ρ2 H2 l2 => p v ρ2 H2 (l.trans l2)⟩
  | exc k M' => exact fun ρ2 H2 l2 => p ρ2 H2 (l.trans l2)
  | stuck => exact p
theorem GoodT.ofE {me : ME} {t : TE} (g : GoodE G c W me t) : GoodT G c W me (tB t) := by
  intro ρ M H σd σ Q rh rs p
  refine g ρ M H σd σ _ rh rs ?_
  cases e : ev c me σd M with
  | ok d M' =>
    rw [e] at p
    intro v ρ' H' l rh' rv
    cases d with
    | bl b =>
      cases rv
      exact ⟨b, rfl, p ρ' H' l rh'⟩
    | _ => exact False.elim p
  | exc k M' => rw [e] at p; exact p
  | stuck => rw [e] at p; exact p
theorem SndE.plain {me : ME} {t : TE} (h : PE X e t) (g : GoodE G c W me t) (he : ∀ whole, isTrue e X.env whole = (do let v ← whole; standAt e.pos; holding [v] (truthy v))) : SndE X G c W me e :=
  ⟨⟨t, h, g⟩, tB t, pt_val h he, GoodT.ofE g⟩
end
end MiniS
set_option autoImplicit false
set_option maxRecDepth 100000
set_option maxHeartbeats 4000000
namespace MiniS
open PySem PySem.Spec PyProof.Rows L2 Mini
section
variable {prog : Program} {w : World} {A : Around} {E : Value → Shared → Prop} {s : Shared}
theorem back_places (n : Nat) : Builtin.Slice.slicePlaces ((n : Int) - 1) (-1) (-1) = n := by
  unfold Builtin.Slice.slicePlaces
  rw [if_neg (by decide)]
  show (if (n : Int) - 1 > -1 then ((n : Int) - 1 - -1 - 1) / (- -1) + 1 else 0).toNat = n
  rw [show (- -1 : Int) = 1 from rfl, Int.ediv_one]
  split <;> omega
theorem fm_map {α β : Type} (f : α → Option β) (g : α → β) : ∀ l : List α, (∀ x ∈ l, f x = some (g x)) → l.filterMap f = l.map g
  | [], _ => rfl
  | x :: l, h => by rw [List.filterMap_cons, h x List.mem_cons_self, List.map_cons, fm_map f g l fun y hy => h y (List.mem_cons_of_mem _ hy)]
theorem back_pick (xs : Array Value) : ((List.range xs.size).filterMap fun (k : Nat) => xs[((xs.size : Int) - 1 + (k : Int) * (-1)).toNat]?).toArray = xs.toList.reverse.toArray := by
  congr 1
  apply List.ext_getElem?
  intro i
  have e1 : ((List.range xs.size).filterMap fun (k : Nat) => xs[((xs.size : Int) - 1 + (k : Int) * (-1)).toNat]?) = (List.range xs.size).map fun k => xs.toList.reverse.getD k Value.none := by
    refine fm_map _ _ _ fun k hk => ?_
    have hk : k < xs.size := List.mem_range.mp hk
    have e2 : ((xs.size : Int) - 1 + (k : Int) * (-1)).toNat = xs.size - 1 - k := by omega
    rw [e2]
    have h1 : xs.size - 1 - k < xs.size := by omega
    show xs[xs.size - 1 - k]? = some (xs.toList.reverse.getD k Value.none)
    rw [List.getD_eq_getElem?_getD, List.getElem?_reverse (by simpa using hk)]
    simp [h1]
  rw [e1]
  by_cases hi : i < xs.size
  · rw [List.getElem?_map, List.getElem?_range hi]
    show some (xs.toList.reverse.getD i Value.none) = _
    rw [List.getD_eq_getElem?_getD, List.getElem?_eq_getElem (by simpa using hi)]
    rfl
  · rw [List.getElem?_eq_none (by simpa using hi), List.getElem?_eq_none (by simpa using hi)]
theorem back_tuple {t sl : Addr} {items : Array Value} {vl vu vs : Value} {Q : Value → Shared → Prop} (ht : IsTup s.heap t items) (hs : s.heap.IsSliceOf sl vl vu vs) (pl : IsPart vl none) (pu : IsPart vu none) (ps : IsPart vs (some (-1)))
    (h : Q (.ref s.heap.objs.size) { s with heap := s.heap.push { cls := .type "tuple", data := .seq items.toList.reverse.toArray } }) (hsz : items.size ≤ sizeLine) : wpAny (model prog w) A (getItem (.ref t) (.ref sl)) Q E s := by
  have htake : sizeOk (.seq items.toList.reverse.toArray) := by
    show items.toList.reverse.toArray.size ≤ sizeLine
    simpa using hsz
  obtain ⟨os, hos, hcs, hds⟩ := id hs
  have hTs : s.TypeIs (.ref sl) "slice" := ⟨os, hos, hcs⟩
  unfold getItem
  try with_reducible refine wpAny_holding ?_
  first | refine wpAny_bind (wpAny_pure ?_) | skip
  refine wpAny_bind (wpAny_sequenceKey ht.typeIs (by decide) ?_)
  refine wpAny_bind (wpAny_callSpecial?_slot (name := PySem.Str.ofString "__getitem__") ht.typeIs PyProof.Rows.slot_tuple_getitem
    (wpAny_call_entry PyProof.Rows.slot_tuple_getitem ht.typeIs entry_tuple_getitem ?_ (args_tuple_getitem _ _)))
  show wpAny _ _ (Builtin.Tuple.tupleItemsOf (.ref t) >>= _) _ _ s
  refine wpAny_bind (tupleItemsOf_ ht ?_)
  refine wpAny_bind (wpAny_typeOf hTs ?_)
  rw [if_pos (by decide)]
  refine wpAny_bind (Q := _) ?_
  unfold Builtin.Slice.sliceApplied Builtin.Slice.sliceFields
  refine wpAny_bind (wpAny_bind (wpAny_field hos hds (x := vl) rfl (wpAny_bind (wpAny_field hos hds (x := vu) rfl (wpAny_bind (wpAny_field hos hds (x := vs) rfl (wpAny_pure ?_)))))))
  refine wpAny_bind (HT.slicePart_ ps ?_)
  show wpAny _ _ (if ((-1 : Int) == 0) = true then _ else _) _ _ s
  rw [if_neg (by decide)]
  refine wpAny_bind (HT.slicePart_ pl (wpAny_bind (HT.slicePart_ pu (wpAny_bind (wpAny_pure ?_)))))
  show wpAny _ _ (pure (((items.size : Nat) : Int) - 1, (-1 : Int), Builtin.Slice.slicePlaces (((items.size : Nat) : Int) - 1) (-1) (-1))) _ _ s
  rw [back_places]
  refine wpAny_pure ?_
  have hno : ¬ (((((items.size : Nat) : Int) - 1) == 0 && (-1 : Int) == 1 && items.size == items.size) = true) := by
    intro q
    rw [Bool.and_eq_true, Bool.and_eq_true] at q
    exact absurd q.1.2 (by decide)
  show wpAny _ _ (if ((((items.size : Nat) : Int) - 1) == 0 && (-1 : Int) == 1 && items.size == items.size) = true then _ else _) _ _ s
  rw [if_neg hno, back_pick]
  first
    | exact wpAny_bind (m := Builtin.Tuple.tupleExact _) (wpAny_newObj_type (wpAny_pure ⟨_, rfl, wpAny_pure h⟩) htake)
    | exact wpAny_bind (m := Builtin.Tuple.tupleExact _) (wpAny_newObj_type (wpAny_bind (wpAny_pure (wpAny_pure ⟨_, rfl, wpAny_pure h⟩))) htake)
    | exact wpAny_bind (wpAny_bind (m := Builtin.Tuple.tupleExact _) (wpAny_newObj_type (wpAny_pure (wpAny_pure ⟨_, rfl, wpAny_pure h⟩)) htake))
    | exact wpAny_bind (wpAny_bind (m := Builtin.Tuple.tupleExact _) (wpAny_newObj_type (wpAny_pure ⟨_, rfl, wpAny_pure h⟩) htake))
end
section
variable {X : Cx}
def tRevA (K : PySem.W.Frag) (te : TE) : TE := fun σ H Q => te σ H fun x H1 => ∃ a xs, x = .ref a ∧ ((SqL K H1 a xs ∧ ∀ p, H1 p = none → Q (.ref p) (upd H1 p (.lst xs.reverse))) ∨ (SqT K H1 a xs ∧ ∀ p, H1 p = none → Q (.ref p) (upd H1 p (.tup xs.reverse))))
theorem pe_revA {e : Expr} {te : TE} {k : Nat} {p1 p2 p3 pos : Pos} (he : PE X e te) : PE X (.Subscript e (.Slice none none (some (.UnaryOp .USub (.Constant (.int 1) k p1) p2)) p3) pos) (tRevA X.K te) := by
  refine ⟨fun pins s σ H Q I h => ?_⟩
  refine Subscript_ (thn (he.run pins s σ H _ I h) fun v s1 ⟨x, H1, I1, r1, q1⟩ => ?_)
  obtain ⟨a, xs, ex, hx⟩ := q1
  subst ex
  cases r1
  have hst : PO X (some (.UnaryOp .USub (.Constant (.int 1) k p1) p2)) (tPart (tUn (rU fun i => .int (-i)) (tC (.int 1)))) := po_some (pe_un un_neg pe_int)
  refine wpAny_Slice (thn (po_none.run pins s1 σ H1 (fun o H2 => o = none ∧ H2 = H1) I1 ⟨rfl, rfl⟩) fun vl s2 ⟨l, H2, I2, pl, el, e2⟩ => ?_)
  subst el e2
  refine thn (po_none.run pins s2 σ H2 (fun o H3 => o = none ∧ H3 = H2) I2 ⟨rfl, rfl⟩) fun vu s3 ⟨u, H3, I3, pu, eu, e3⟩ => ?_
  subst eu e3
  refine thn (hst.run pins s3 σ H3 (fun o H4 => o = some (-1) ∧ H4 = H3) I3 ⟨1, rfl, -1, rfl, rfl, rfl⟩) fun vs s4 ⟨o, H4, I4, ps, eo, e4⟩ => ?_
  subst eo e4
  have I5 : Inv X pins σ H4 { s4 with heap := s4.heap.push { cls := .type "slice", data := .fields #[vl, vu, vs] } } := I4.kept (t' := s4.toks) fun b ob q => Heap.get?_push_of_some _ q
  show wpAny (model X.prog X.w) X.A (subscriptTail e (.Slice none none (some (.UnaryOp .USub (.Constant (.int 1) k p1) p2)) p3) (.ref a) (.ref s4.heap.objs.size)) (EP X pins σ Q) X.xe { s4 with heap := s4.heap.push { cls := .type "slice", data := .fields #[vl, vu, vs] } }
  rcases hx with ⟨hx, q⟩ | ⟨hx, q⟩
  · obtain ⟨its, r, ht, hz⟩ := I5.list hx
    have hlen := r.length
    refine tail_any (ops := [.ref a, .ref s4.heap.objs.size]) ht.isList.typeIs (PySem.slot_list_getitem.lookup) ?_ (by with_unfolding_all rfl)
    refine wpAny_getItem_list_slice ht.isList (Heap.IsSliceOf.new _ vl vu vs) pl pu ps (by decide) ?_ (by rw [List.size_toArray]; omega)
    rw [PySem.W.krv_pick]
    refine ⟨.ref _, _, I5.laid (t' := s4.toks) (o := .lst xs.reverse) (fun b ob q => Heap.get?_push_of_some _ q) (Nat.le_refl _) ?_, rfl, q _ (I5.hok.fresh (Nat.le_refl _))⟩
    exact ⟨by rw [List.length_reverse]; exact hz, _, 0, r.reverse, Heap.get?_push_size _ rfl⟩
  · obtain ⟨its, r, ht, hz⟩ := I5.tuple hx
    have hlen := r.length
    refine tail_any (ops := [.ref a, .ref s4.heap.objs.size]) ht.typeIs (PyProof.Rows.slot_tuple_getitem.lookup) ?_ (by with_unfolding_all rfl)
    refine back_tuple ht (Heap.IsSliceOf.new _ vl vu vs) pl pu ps ?_ (by rw [List.size_toArray]; omega)
    refine ⟨.ref _, _, I5.laid (t' := s4.toks) (o := .tup xs.reverse) (fun b ob q => Heap.get?_push_of_some _ q) (Nat.le_refl _) ?_, rfl, q _ (I5.hok.fresh (Nat.le_refl _))⟩
    exact ⟨by rw [List.length_reverse]; exact hz, _, r.reverse, IsTup.new _ _⟩
end
end MiniS
set_option autoImplicit false
set_option maxRecDepth 100000
set_option maxHeartbeats 4000000
namespace MiniS
open PySem PySem.Spec PyProof.Rows L2 Mini
theorem bind_assoc {α β γ : Type} (r : R α) (f : α → MH → R β) (g : β → MH → R γ) : (r.bind f).bind g = r.bind fun a M => (f a M).bind g := by cases r <;> rfl
section
variable {X : Cx} {T : Tab} {G : Gi} {c : Mini.Ctx} {sc : Scope} {N : List PySem.Str} {W : WX} {k : Nat} {e : Expr}
def GoodM (m : Bool) (G : Gi) (c : Mini.Ctx) (W : WX) (me : ME) (t : TE) : Prop :=
  ∀ (ρ : List Addr) (M : MH) (H : Hp) (σd : Sl) (σ : L2.St) (Q : VK), RepH G ρ M H → RepS G ρ H σd σ → PostE G ρ H ((ev c me σd M).bind (fin m)) Q (fun k H' => W (.ref (G.ca k)) none σ H') → t σ H Q
theorem GoodM.ev {me : ME} {t : TE} (g : GoodM false G c W me t) : GoodE G c W me t := fun ρ M H σd σ Q rh rs p => g ρ M H σd σ Q rh rs (by rw [bind_false]; exact p)
theorem GoodM.new {me : ME} {t : TE} (g : GoodM true G c W me t) : GoodE G c W (.new me) t := fun ρ M H σd σ Q rh rs p => g ρ M H σd σ Q rh rs p
def SndN (X : Cx) (G : Gi) (c : Mini.Ctx) (W : WX) (me : ME) (e : Expr) : Prop := ∃ t, PE X e t ∧ ∀ m, GoodM m G c W me t
theorem vis_of (h : Here X T G c sc N W k) {x : PySem.Str} (hv : visB sc x = true) : Vis X.env.scope x := by
  rw [h.sc]
  unfold visB at hv
  split at hv
  · exact .inl (by assumption)
  · exact .inr (.inl (by assumption))
  · exact .inr (.inr (by assumption))
  · cases hv
theorem gl_of (h : Here X T G c sc N W k) {x : PySem.Str} (hv : glB sc x = true) : Gl X x := by
  show X.env.scope.names.lookup x = some .globalImplicit
  rw [h.sc]
  unfold glB at hv
  split at hv
  · assumption
  · cases hv
theorem name_of {x : PySem.Str} (h : nameB x = true) : (x == ("__debug__" : PySem.Str)) = false ∧ (x == ("__classdict__" : PySem.Str)) = false ∧ x ≠ ("__name__" : PySem.Str) := by
  unfold nameB at h
  obtain ⟨h1, h3⟩ := and_t h
  obtain ⟨h1, h2⟩ := and_t h1
  exact ⟨by simpa using h1, by simpa using h2, by simpa using h3⟩
theorem boot_ty (t : Mini.Ty) : bootBuiltins (tyStr t) = some (.type (tyName t)) := by cases t <;> decide +kernel
theorem tyStr_ok (t : Mini.Ty) : tyStr t ≠ ("__name__" : PySem.Str) ∧ (tyStr t == ("__debug__" : PySem.Str)) = false := by cases t <;> exact ⟨by decide +kernel, by decide +kernel⟩
theorem snd_c (h : Here X T G c sc N W k) {d : D} (hm : mC T sc d e = true) : SndE X G c W (.c d) e := by
  have good : ∀ v, (∀ ρ H, Rep G ρ H d v) → GoodE G c W (.c d) (tC v) := fun v hv ρ M H σd σ Q rh rs p => PostE.here (d := d) p rh (hv ρ H)
  unfold mC at hm
  split at hm
  · have e1 := of_decide_eq_true hm
    subst e1
    exact .plain pe_int (good _ fun _ _ => rfl) fun _ => rfl
  · have e1 := eq_of_beq hm
    subst e1
    exact .plain pe_bl (good _ fun _ _ => rfl) fun _ => rfl
  · exact .plain pe_non (good _ fun _ _ => rfl) fun _ => rfl
  · obtain ⟨h1, h2⟩ := and_t hm
    have e1 := of_decide_eq_true h1
    subst e1
    exact .plain pe_str (good _ fun _ _ => ⟨rfl, h2⟩) fun _ => rfl
  · rename_i t x p
    obtain ⟨h1, h3⟩ := and_t hm
    obtain ⟨h1, h2⟩ := and_t h1
    have e1 := of_decide_eq_true h1
    subst e1
    exact .plain (pe_bltn (v := .ty (tyName t)) (gl_of h h2) (h.tok.free _ h3) (boot_ty t) rfl (tyStr_ok t).1 (tyStr_ok t).2) (good _ fun _ _ => rfl) fun _ => rfl
  · cases hm
theorem snd_v (h : Here X T G c sc N W k) {i : Nat} (hm : mE T N (.v i) .E sc e = true) : SndE X G c W (.v i) e := by
  obtain ⟨x, h1, h2⟩ := any_some (and_t hm).2
  obtain ⟨p, rfl⟩ := asName_eq h1
  obtain ⟨h2, h4⟩ := and_t h2
  obtain ⟨h2, h3⟩ := and_t h2
  obtain ⟨n1, n2, n3⟩ := name_of h4
  refine .plain (pe_var (i := i) (by rw [h.N]; exact of_decide_eq_true h2) (vis_of h h3) n1 n2) (fun ρ M H σd σ Q rh rs p => ?_) fun _ => rfl
  obtain ⟨d, e1, p⟩ := PostE.opt p
  have e2 : σd[i]? = some (some d) := by
    cases e3 : σd[i]? with
    | none => rw [e3] at e1; cases e1
    | some o => rw [e3] at e1; cases o with
      | none => cases e1
      | some d' => cases e1; rfl
  obtain ⟨v, h5, h6⟩ := rs.2 i d e2
  exact ⟨v, h5, p.here rh h6⟩
theorem snd_g (h : Here X T G c sc N W k) {i : Nat} (hm : mE T N (.g i) .E sc e = true) : SndE X G c W (.g i) e := by
  obtain ⟨x, h1, h2⟩ := any_some (and_t hm).2
  obtain ⟨p, rfl⟩ := asName_eq h1
  obtain ⟨h2, h4⟩ := and_t h2
  obtain ⟨h2, h3⟩ := and_t h2
  obtain ⟨n1, n2, n3⟩ := name_of h4
  cases hg : c.gl i with
  | none =>
    have bad : ∀ t, GoodE G c W (.g i) t := fun t ρ M H σd σ Q rh rs p => by
      have p : PostE G ρ H (R.ofOpt (c.gl i) M) Q _ := p
      rw [hg] at p
      exact p.elim
    exact ⟨⟨fun _ _ _ => False, ⟨fun _ _ _ _ _ _ z => z.elim⟩, bad _⟩, fun _ _ _ => False, ⟨fun _ _ _ _ _ _ z => z.elim⟩, fun ρ M H σd σ Q rh rs p => by
      have p : PostT G ρ H (R.ofOpt (c.gl i) M) Q _ := p
      rw [hg] at p
      exact p.elim⟩
  | some d =>
    obtain ⟨u, v, g1, g2, g3⟩ := h.tok.gl i x d (of_decide_eq_true h2) hg
    refine .plain (pe_glob (gl_of h h3) g1 g2 n1) (fun ρ M H σd σ Q rh rs p => ?_) fun _ => rfl
    have p : PostE G ρ H (R.ofOpt (c.gl i) M) Q _ := p
    rw [hg] at p
    exact PostE.here (d := d) p rh (g3 G.hid ρ H)
theorem snd_binN (h : Here X T G c sc N W k) {o : Op} {a b : ME} {l r : Expr} {q : Pos} (ha : SndE X G c W a l) (hb : SndE X G c W b r) : SndN X G c W (.bin o a b) (.BinOp l (opOf o) r q) := by
  obtain ⟨ta, pa, ga⟩ := ha.1
  obtain ⟨tb, pb, gb⟩ := hb.1
  obtain ⟨r1, o1, s1⟩ := snd_bin (X := X) (G := G) h.K true o
  obtain ⟨r2, o2, s2⟩ := snd_bin (X := X) (G := G) h.K false o
  refine ⟨tOp (fun x y H Q => r1 x y H Q ∨ r2 x y H Q) ta tb, pe_op (o1.or o2) pa pb, fun m ρ M H σd σ Q rh rs p => ?_⟩
  have p : PostE G ρ H (((ev c a σd M).bind fun x M => (ev c b σd M).bind fun y M => binop o x y M).bind (fin m)) Q _ := p
  rw [bind_assoc] at p
  refine ga.run rh rs p fun d M1 v ρ1 H1 e1 l1 rh1 rs1 rv1 p1 => ?_
  rw [bind_assoc] at p1
  refine gb.run rh1 rs1 p1 fun d2 M2 v2 ρ2 H2 e2 l2 rh2 rs2 rv2 p2 => ?_
  cases m with
  | true => exact .inl (s1 ρ2 M2 H2 d d2 v v2 Q _ rh2 (Rep.mono l2 _ _ rv1) rv2 p2)
  | false => exact .inr (s2 ρ2 M2 H2 d d2 v v2 Q _ rh2 (Rep.mono l2 _ _ rv1) rv2 p2)
theorem SndN.ev {me : ME} (h : SndN X G c W me e) (he : ∀ whole, isTrue e X.env whole = (do let v ← whole; standAt e.pos; holding [v] (truthy v))) : SndE X G c W me e := by
  obtain ⟨t, p, g⟩ := h
  exact .plain p (g false).ev he
theorem SndN.new {me : ME} (h : SndN X G c W me e) (he : ∀ whole, isTrue e X.env whole = (do let v ← whole; standAt e.pos; holding [v] (truthy v))) : SndE X G c W (.new me) e := by
  obtain ⟨t, p, g⟩ := h
  exact .plain p (g true).new he
theorem snd_neg {a : ME} {x : Expr} {q : Pos} (ha : SndE X G c W a x) : SndE X G c W (.neg a) (.UnaryOp .USub x q) := by
  obtain ⟨ta, pa, ga⟩ := ha.1
  refine .plain (pe_un un_neg pa) (fun ρ M H σd σ Q rh rs p => ?_) fun _ => rfl
  refine ga.run rh rs p fun d M1 v ρ1 H1 e1 l1 rh1 rs1 rv1 p1 => ?_
  cases d with
  | int i => cases rv1; exact ⟨i, rfl, PostE.here (d := .int (-i)) p1 rh1 rfl⟩
  | _ => exact False.elim p1
theorem GoodT.run {me : ME} {t : TT} (g : GoodT G c W me t) {ρ : List Addr} {M : MH} {H : Hp} {σd : Sl} {σ : L2.St} {Q' : Bool → Hp → Prop} (rh : RepH G ρ M H) (rs : RepS G ρ H σd σ)
    (h0 : ∀ d M', ev c me σd M = .ok d M' → (∃ b, d = .bl b) ∧ ∀ b, d = .bl b → ∀ ρ' H', Le G ρ H ρ' H' → RepH G ρ' M' H' → RepS G ρ' H' σd σ → Q' b H')
    (h1 : ∀ j M', ev c me σd M = .exc j M' → ∀ ρ' H', Le G ρ H ρ' H' → RepH G ρ' M' H' → W (.ref (G.ca j)) none σ H') (h2 : ev c me σd M ≠ .stuck) : t σ H Q' := by
  refine g ρ M H σd σ Q' rh rs ?_
  cases e : ev c me σd M with
  | ok d M' =>
    obtain ⟨⟨b, hb⟩, hq⟩ := h0 d M' e
    subst hb
    exact fun ρ' H' l rh' => hq b rfl ρ' H' l rh' (rs.mono l)
  | exc j M' => exact h1 j M' e
  | stuck => exact absurd e h2
theorem boolD_cases {α : Type} {d : D} {t f : R α} : (∃ b, d = .bl b ∧ boolD d t f = if b = true then t else f) ∨ boolD d t f = .stuck := by
  cases d with
  | bl b => cases b <;> exact .inl ⟨_, rfl, rfl⟩
  | _ => exact .inr rfl
theorem GoodT.branch {me : ME} {t : TT} (g : GoodT G c W me t) {ρ : List Addr} {M : MH} {H : Hp} {σd : Sl} {σ : L2.St} {tt ff : MH → R D} {Q : VK} {Q' : Bool → Hp → Prop} (rh : RepH G ρ M H) (rs : RepS G ρ H σd σ)
    (p : PostE G ρ H ((ev c me σd M).bind fun x M => boolD x (tt M) (ff M)) Q fun k H' => W (.ref (G.ca k)) none σ H')
    (h : ∀ b M' ρ' H', Le G ρ H ρ' H' → RepH G ρ' M' H' → RepS G ρ' H' σd σ → PostE G ρ' H' (if b = true then tt M' else ff M') Q (fun k H' => W (.ref (G.ca k)) none σ H') → Q' b H') : t σ H Q' := by
  refine g.run rh rs (fun d M' e => ?_) (fun j M' e => ?_) fun e => ?_
  · rw [e] at p
    have p : PostE G ρ H (boolD d (tt M') (ff M')) Q _ := p
    rcases boolD_cases (d := d) (t := tt M') (f := ff M') with ⟨b, hb, hz⟩ | hz
    · rw [hz] at p
      refine ⟨⟨b, hb⟩, fun b' hb' ρ' H' l rh' rs' => ?_⟩
      rw [hb] at hb'
      cases hb'
      exact h b M' ρ' H' l rh' rs' (PostE.mono l p)
    · rw [hz] at p; exact p.elim
  · rw [e] at p; exact p
  · rw [e] at p; exact p
theorem GoodT.branchT {me : ME} {t : TT} (g : GoodT G c W me t) {ρ : List Addr} {M : MH} {H : Hp} {σd : Sl} {σ : L2.St} {tt ff : MH → R D} {Q Q' : Bool → Hp → Prop} (rh : RepH G ρ M H) (rs : RepS G ρ H σd σ)
    (p : PostT G ρ H ((ev c me σd M).bind fun x M => boolD x (tt M) (ff M)) Q fun k H' => W (.ref (G.ca k)) none σ H')
    (h : ∀ b M' ρ' H', Le G ρ H ρ' H' → RepH G ρ' M' H' → RepS G ρ' H' σd σ → PostT G ρ' H' (if b = true then tt M' else ff M') Q (fun k H' => W (.ref (G.ca k)) none σ H') → Q' b H') : t σ H Q' := by
  refine g.run rh rs (fun d M' e => ?_) (fun j M' e => ?_) fun e => ?_
  · rw [e] at p
    have p : PostT G ρ H (boolD d (tt M') (ff M')) Q _ := p
    rcases boolD_cases (d := d) (t := tt M') (f := ff M') with ⟨b, hb, hz⟩ | hz
    · rw [hz] at p
      refine ⟨⟨b, hb⟩, fun b' hb' ρ' H' l rh' rs' => ?_⟩
      rw [hb] at hb'
      cases hb'
      exact h b M' ρ' H' l rh' rs' (PostT.mono l p)
    · rw [hz] at p; exact p.elim
  · rw [e] at p; exact p
  · rw [e] at p; exact p
theorem snd_not {a : ME} {x : Expr} {q : Pos} (ha : SndE X G c W a x) : SndE X G c W (.not a) (.UnaryOp .Not x q) := by
  obtain ⟨ta, pa, ga⟩ := ha.1
  obtain ⟨tt, pt, gt⟩ := ha.2
  refine ⟨⟨_, pe_not pa, fun ρ M H σd σ Q rh rs p => ?_⟩, _, pt_not pt, fun ρ M H σd σ Q rh rs p => ?_⟩
  · refine ga.run rh rs p fun d M1 v ρ1 H1 e1 l1 rh1 rs1 rv1 p1 => ?_
    cases d with
    | bl b =>
      cases rv1
      refine ⟨b, rfl, ?_⟩
      cases b with
      | true => exact PostE.here (d := .bl false) p1 rh1 rfl
      | false => exact PostE.here (d := .bl true) p1 rh1 rfl
    | _ => exact False.elim p1
  · refine gt.branchT rh rs p fun b M' ρ' H' l rh' rs' p' => ?_
    cases b with
    | true => exact p' ρ' H' Le.refl rh'
    | false => exact p' ρ' H' Le.refl rh'
theorem hu65 (h : Here X T G c sc N W k) : X.A.units + 65 < cLine := by have := h.room.un; omega
theorem snd_cmpE (h : Here X T G c sc N W k) {o : Cm} {a b : ME} {l r : Expr} {q : Pos} (ha : SndE X G c W a l) (hb : SndE X G c W b r) (hp : plainB r = true) : SndE X G c W (.cmp o a b) (.Compare l [cmOf o] [r] q) := by
  obtain ⟨ta, pa, ga⟩ := ha.1
  obtain ⟨tb, pb, gb⟩ := hb.1
  obtain ⟨r1, o1, s1⟩ := snd_cmp (X := X) (G := G) h.K (hu65 h) o
  have good : GoodE G c W (.cmp o a b) (tOp r1 ta tb) := fun ρ M H σd σ Q rh rs p => by
    refine ga.run rh rs p fun d M1 v ρ1 H1 e1 l1 rh1 rs1 rv1 p1 => ?_
    refine gb.run rh1 rs1 p1 fun d2 M2 v2 ρ2 H2 e2 l2 rh2 rs2 rv2 p2 => ?_
    exact s1 ρ2 M2 H2 d d2 v v2 Q _ rh2 (Rep.mono l2 _ _ rv1) rv2 p2
  exact ⟨⟨_, pe_cmpR o1 pa pb (plain_marks hp _), good⟩, _, pt_cmpR o1 pa pb (plain_marks hp _), GoodT.ofE good⟩
theorem snd_chainE (h : Here X T G c sc N W k) {o q : Cm} {a b d : ME} {l r z : Expr} {ps : Pos} (ha : SndE X G c W a l) (hb : SndE X G c W b r) (hd : SndE X G c W d z) (hp : plainB r = true) (hq : plainB z = true) :
    SndE X G c W (.chain o q a b d) (.Compare l [cmOf o, cmOf q] [r, z] ps) := by
  obtain ⟨ta, pa, ga⟩ := ha.1
  obtain ⟨tb, pb, gb⟩ := hb.1
  obtain ⟨td, pd, gd⟩ := hd.1
  obtain ⟨r1, o1, s1⟩ := snd_cmp (X := X) (G := G) h.K (hu65 h) o
  obtain ⟨r2, o2, s2⟩ := snd_cmp (X := X) (G := G) h.K (hu65 h) q
  have good : GoodE G c W (.chain o q a b d) (tChain r1 r2 ta tb td) := fun ρ M H σd σ Q rh rs p => by
    refine ga.run rh rs p fun dx M1 v ρ1 H1 e1 l1 rh1 rs1 rv1 p1 => ?_
    refine gb.run rh1 rs1 p1 fun dy M2 v2 ρ2 H2 e2 l2 rh2 rs2 rv2 p2 => ?_
    refine s1 ρ2 M2 H2 dx dy v v2 _ (fun k H' => W (.ref (G.ca k)) none σ H') rh2 (Rep.mono l2 _ _ rv1) rv2 ?_
    have p2 : PostE G ρ2 H2 ((cmpD o dx dy M2).bind fun r M => boolD r ((ev c d σd M).bind fun z M => cmpD q dy z M) (.ok (.bl false) M)) Q _ := p2
    unfold cmpD at p2 ⊢
    cases hc : cmpop o dx dy M2 with
    | none => rw [hc] at p2; exact False.elim p2
    | some bb =>
      rw [hc] at p2
      intro w ρ3 H3 l3 rh3 rw3
      cases rw3
      refine ⟨bb, rfl, ?_⟩
      cases bb with
      | true =>
        have p2 : PostE G ρ2 H2 ((ev c d σd M2).bind fun z M => cmpD q dy z M) Q _ := p2
        rw [if_pos rfl]
        refine gd.run rh3 (rs2.mono l3) (PostE.mono l3 p2) fun dz M4 v4 ρ4 H4 e4 l4 rh4 rs4 rv4 p4 => ?_
        exact s2 ρ4 M4 H4 dy dz v2 v4 Q _ rh4 (Rep.mono (l3.trans l4) _ _ rv2) rv4 p4
      | false =>
        rw [if_neg Bool.false_ne_true]
        exact PostE.here (d := .bl false) (PostE.mono l3 p2) rh3 rfl
  exact ⟨⟨_, pe_chain o1 o2 pa pb pd (plain_marks hq _), good⟩, _, pt_chain o1 o2 pa pb pd (plain_marks hq _), GoodT.ofE good⟩
theorem pw_of {o : BoolOp} {vs : List Expr} {q : Pos} {t : TT} (h : PT X (.BoolOp o vs q) t) : PW X (.BoolOp o vs q) t := ⟨fun whole pins s σ H Q I ht => by
  have z := h.run pins s σ H Q I ht
  have e1 : isTrue (.BoolOp o vs q) X.env whole = isTrue (.BoolOp o vs q) X.env (eval (.BoolOp o vs q) X.env) := by
    rw [PySem.isTrue, PySem.isTrue]
  rw [e1]
  exact z⟩
theorem snd_andE {a b : ME} {p : Expr × Expr} (hm : asBool .And e = some p) (ha : SndE X G c W a p.1) (hb : SndE X G c W b p.2) : SndE X G c W (.and a b) e := by
  obtain ⟨ta, pa, ga⟩ := ha.1
  obtain ⟨sa, qa, fa⟩ := ha.2
  obtain ⟨tb, pb, gb⟩ := hb.1
  obtain ⟨sb, qb, fb⟩ := hb.2
  have good : GoodE G c W (.and a b) (tAndV ta tb) := fun ρ M H σd σ Q rh rs p => by
    refine ga.run rh rs p fun d M1 v ρ1 H1 e1 l1 rh1 rs1 rv1 p1 => ?_
    cases d with
    | bl x =>
      cases rv1
      refine ⟨x, rfl, ?_⟩
      cases x with
      | true => rw [if_pos rfl]; exact gb ρ1 M1 H1 σd σ Q rh1 rs1 p1
      | false => rw [if_neg Bool.false_ne_true]; exact PostE.here (d := .bl false) p1 rh1 rfl
    | _ => exact False.elim p1
  have goodT : GoodT G c W (.and a b) (tAnd sa sb) := fun ρ M H σd σ Q rh rs p => by
    refine fa.branchT (tt := fun M => ev c b σd M) (ff := fun M => .ok (.bl false) M) rh rs p fun x M' ρ' H' l rh' rs' p' => ?_
    cases x with
    | true => rw [if_pos rfl]; exact fb ρ' M' H' σd σ Q rh' rs' p'
    | false => rw [if_neg Bool.false_ne_true]; exact p' ρ' H' Le.refl rh'
  rcases asBool_eq hm with ⟨q, rfl⟩ | ⟨b', c', r, q, rfl, hp⟩
  · exact ⟨⟨_, pe_and pa (pe_one pb), good⟩, _, (pw_and qa (pw_and1 qb)).pt, goodT⟩
  · rw [hp] at pb qb
    exact ⟨⟨_, pe_and pa pb, good⟩, _, (pw_and qa (pw_of qb)).pt, goodT⟩
theorem snd_orE {a b : ME} {p : Expr × Expr} (hm : asBool .Or e = some p) (ha : SndE X G c W a p.1) (hb : SndE X G c W b p.2) : SndE X G c W (.or a b) e := by
  obtain ⟨ta, pa, ga⟩ := ha.1
  obtain ⟨sa, qa, fa⟩ := ha.2
  obtain ⟨tb, pb, gb⟩ := hb.1
  obtain ⟨sb, qb, fb⟩ := hb.2
  have good : GoodE G c W (.or a b) (tOrV ta tb) := fun ρ M H σd σ Q rh rs p => by
    refine ga.run rh rs p fun d M1 v ρ1 H1 e1 l1 rh1 rs1 rv1 p1 => ?_
    cases d with
    | bl x =>
      cases rv1
      refine ⟨x, rfl, ?_⟩
      cases x with
      | true => rw [if_pos rfl]; exact PostE.here (d := .bl true) p1 rh1 rfl
      | false => rw [if_neg Bool.false_ne_true]; exact gb ρ1 M1 H1 σd σ Q rh1 rs1 p1
    | _ => exact False.elim p1
  have goodT : GoodT G c W (.or a b) (tOr sa sb) := fun ρ M H σd σ Q rh rs p => by
    refine fa.branchT (tt := fun M => .ok (.bl true) M) (ff := fun M => ev c b σd M) rh rs p fun x M' ρ' H' l rh' rs' p' => ?_
    cases x with
    | true => rw [if_pos rfl]; exact p' ρ' H' Le.refl rh'
    | false => rw [if_neg Bool.false_ne_true]; exact fb ρ' M' H' σd σ Q rh' rs' p'
  rcases asBool_eq hm with ⟨q, rfl⟩ | ⟨b', c', r, q, rfl, hp⟩
  · exact ⟨⟨_, pe_or pa (pe_one pb), good⟩, _, (pw_or qa (pw_or1 qb)).pt, goodT⟩
  · rw [hp] at pb qb
    exact ⟨⟨_, pe_or pa pb, good⟩, _, (pw_or qa (pw_of qb)).pt, goodT⟩
def tIfT (t : TT) (ta tb : TT) : TT := fun σ H Q => t σ H fun c H1 => if c = true then ta σ H1 Q else tb σ H1 Q
theorem pt_ife {t x y : Expr} {q : Pos} {tt ta tb : TT} (ht : PT X t tt) (ha : PT X x ta) (hb : PT X y tb) : PT X (.IfExp t x y q) (tIfT tt ta tb) := ⟨fun pins s σ H Q I h => by
  have e1 : isTrue (.IfExp t x y q) X.env (eval (.IfExp t x y q) X.env) = (do if ← isTrue t X.env (eval t X.env) then isTrue x X.env (eval x X.env) else isTrue y X.env (eval y X.env)) := by
    rw [PySem.isTrue]
  rw [e1]
  refine wpAny_bind (thn (ht.run pins s σ H _ I h) fun d s1 ⟨H1, I1, q1⟩ => ?_)
  cases d with
  | true => exact ha.run pins s1 σ H1 Q I1 q1
  | false => exact hb.run pins s1 σ H1 Q I1 q1⟩
theorem snd_ifeE {t a b : ME} {x y z : Expr} {q : Pos} (ht : SndE X G c W t x) (ha : SndE X G c W a y) (hb : SndE X G c W b z) : SndE X G c W (.ife t a b) (.IfExp x y z q) := by
  obtain ⟨st, qt, ft⟩ := ht.2
  obtain ⟨ta, pa, ga⟩ := ha.1
  obtain ⟨sa, qa, fa⟩ := ha.2
  obtain ⟨tb, pb, gb⟩ := hb.1
  obtain ⟨sb, qb, fb⟩ := hb.2
  refine ⟨⟨_, pe_ifExp qt pa pb, fun ρ M H σd σ Q rh rs p => ?_⟩, _, pt_ife qt qa qb, fun ρ M H σd σ Q rh rs p => ?_⟩
  · refine ft.branch (tt := fun M => ev c a σd M) (ff := fun M => ev c b σd M) rh rs p fun x M' ρ' H' l rh' rs' p' => ?_
    cases x with
    | true => exact ga ρ' M' H' σd σ Q rh' rs' p'
    | false => exact gb ρ' M' H' σd σ Q rh' rs' p'
  · refine ft.branchT (tt := fun M => ev c a σd M) (ff := fun M => ev c b σd M) rh rs p fun x M' ρ' H' l rh' rs' p' => ?_
    cases x with
    | true => exact fa ρ' M' H' σd σ Q rh' rs' p'
    | false => exact fb ρ' M' H' σd σ Q rh' rs' p'
theorem snd_nil : SndA X G c W .nil [] := ⟨_, pa_nil, fun ρ M H σd σ Q rh rs p => by
  obtain ⟨ds, e1, p⟩ := p
  cases e1
  exact p [] ρ H Le.refl rh .nil⟩
theorem snd_cons {a r : ME} {x : Expr} {es : List Expr} (ha : SndE X G c W a x) (hr : SndA X G c W r es) (hp : plainB x = true) : SndA X G c W (.cons a r) (x :: es) := by
  obtain ⟨ta, pa, ga⟩ := ha.1
  obtain ⟨tr, pr, gr⟩ := hr
  refine ⟨_, pa_cons pa pr (plain_star hp es X.env), fun ρ M H σd σ Q rh rs p => ?_⟩
  have p : PostA G ρ H ((ev c a σd M).bind fun x M => (ev c r σd M).bind fun y M => tupD y fun ys => .ok (.tup (x :: ys)) M) Q _ := p
  refine ga ρ M H σd σ _ rh rs ?_
  cases ea : ev c a σd M with
  | stuck => rw [ea] at p; exact p
  | exc j M' => rw [ea] at p; exact p
  | ok d M1 =>
    rw [ea] at p
    intro v ρ1 H1 l1 rh1 rv1
    have p : PostA G ρ H ((ev c r σd M1).bind fun y M => tupD y fun ys => .ok (.tup (d :: ys)) M) Q _ := p
    have p := PostA.mono l1 p
    refine gr ρ1 M1 H1 σd σ _ rh1 (rs.mono l1) ?_
    cases er : ev c r σd M1 with
    | stuck => rw [er] at p; exact p
    | exc j M' => rw [er] at p; exact p
    | ok d2 M2 =>
      rw [er] at p
      cases d2 with
      | tup ys =>
        obtain ⟨ds, e1, p⟩ := p
        cases e1
        exact ⟨ys, rfl, fun vs ρ2 H2 l2 rh2 rv2 => p (v :: vs) ρ2 H2 l2 rh2 (.cons (Rep.mono l2 _ _ rv1) rv2)⟩
      | _ => exact (show False by obtain ⟨ds, e1, p⟩ := p).elim
theorem len_args : ∀ (as : ME) (es : List Expr) (σd : Sl) (M M' : MH) (d : D), mE T N as .A sc (args es) = true → ev c as σd M = .ok d M' → ∃ ds, d = .tup ds ∧ ds.length = es.length := by
  intro as
  induction as with
  | nil =>
    intro es σd M M' d hm he
    cases he
    obtain ⟨p, h1, h2⟩ := any_some (and_t hm).2
    rcases asArgs_args h1 with ⟨rfl, rfl⟩ | ⟨a, r, rfl, rfl⟩
    · exact ⟨[], rfl, rfl⟩
    · cases h2
  | cons a r iha ihr =>
    intro es σd M M' d hm he
    obtain ⟨p, h1, h2⟩ := any_some (and_t hm).2
    rcases asArgs_args h1 with ⟨rfl, rfl⟩ | ⟨x, rr, rfl, rfl⟩
    · cases h2
    · have h3 : mE T N r .A sc (args rr) = true := (and_t h2).2
      have he : ((ev c a σd M).bind fun x M => (ev c r σd M).bind fun y M => tupD y fun ys => R.ok (D.tup (x :: ys)) M) = .ok d M' := he
      cases ea : ev c a σd M with
      | stuck => rw [ea] at he; cases he
      | exc j M1 => rw [ea] at he; cases he
      | ok d1 M1 =>
        rw [ea] at he
        have he : ((ev c r σd M1).bind fun y M => tupD y fun ys => R.ok (D.tup (d1 :: ys)) M) = .ok d M' := he
        cases er : ev c r σd M1 with
        | stuck => rw [er] at he; cases he
        | exc j M2 => rw [er] at he; cases he
        | ok d2 M2 =>
          obtain ⟨ys, e1, e2⟩ := ihr rr σd M1 M2 d2 h3 er
          subst e1
          rw [er] at he
          cases he
          exact ⟨d1 :: ys, rfl, by simp [e2]⟩
  | _ => intro es σd M M' d hm he; cases (and_t hm).1
theorem GoodA.run {as : ME} {t : TA} (g : GoodA G c W as t) {es : List Expr} (hm : mE T N as .A sc (args es) = true) {ρ : List Addr} {M : MH} {H : Hp} {σd : Sl} {σ : L2.St} {f : D → MH → R D} {Q : VK} {Q' : List V → Hp → Prop} (rh : RepH G ρ M H) (rs : RepS G ρ H σd σ)
    (p : PostE G ρ H ((ev c as σd M).bind f) Q fun k H' => W (.ref (G.ca k)) none σ H')
    (h : ∀ ds M' vs ρ' H', ds.length = es.length → Le G ρ H ρ' H' → RepH G ρ' M' H' → RepS G ρ' H' σd σ → Reps G ρ' H' ds vs → PostE G ρ' H' (f (.tup ds) M') Q (fun k H' => W (.ref (G.ca k)) none σ H') → Q' vs H') : t σ H Q' := by
  refine g ρ M H σd σ Q' rh rs ?_
  cases ea : ev c as σd M with
  | stuck => rw [ea] at p; exact p
  | exc j M' => rw [ea] at p; exact p
  | ok d M' =>
    obtain ⟨ds, e1, e2⟩ := len_args as es σd M M' d hm ea
    subst e1
    rw [ea] at p
    exact ⟨ds, rfl, fun vs ρ' H' l rh' rv => h ds M' vs ρ' H' e2 l rh' (rs.mono l) rv (PostE.mono l p)⟩
theorem snd_tupE {as : ME} {es : List Expr} {j : Nat} {q : Pos} (hm : mE T N as .A sc (args es) = true) (hl : es.length ≤ 1000) (h : SndA X G c W as es) : SndE X G c W (.tup as) (.Tuple es j q) := by
  obtain ⟨t, pa, ga⟩ := h
  refine .plain (pe_tup pa) (fun ρ M H σd σ Q rh rs p => ?_) fun _ => rfl
  have p : PostE G ρ H ((ev c as σd M).bind fun d M => .ok d M) Q (fun k H' => W (.ref (G.ca k)) none σ H') := by
    have e1 : (ev c as σd M).bind (fun d M => R.ok d M) = ev c as σd M := by cases ev c as σd M <;> rfl
    rw [e1]; exact p
  refine ga.run hm rh rs p fun ds M' vs ρ' H' hn l rh' rs' rv p' => ?_
  refine ⟨by rw [← pd_length rv, hn]; exact sz4 (by omega), fun b hb => ?_⟩
  exact PostE.new (d := .tup ds) p' rh' hb (Rep.tup_iff.mpr ⟨b, vs, rfl, .of upd_same, Reps.mono (Le.laid hb) rv⟩)
theorem snd_lstN {as : ME} {es : List Expr} {q : Pos} (hm : mE T N as .A sc (args es) = true) (hl : es.length ≤ 1000) (h : SndA X G c W as es) : SndN X G c W (.lst as) (.List es q) := by
  obtain ⟨t, pa, ga⟩ := h
  refine ⟨_, pe_lst pa, fun m ρ M H σd σ Q rh rs p => ?_⟩
  have p : PostE G ρ H (((ev c as σd M).bind fun y M => tupD y fun ys => .ok (.lst ys) M).bind (fin m)) Q _ := p
  rw [bind_assoc] at p
  refine ga.run hm rh rs p fun ds M' vs ρ' H' hn l rh' rs' rv p' => ?_
  exact ⟨by rw [← pd_length rv, hn]; exact sz4 (by omega), fun b hb => PostE.newL p' rh' hb rv⟩
theorem snd_idxE (h : Here X T G c sc N W k) {a i : ME} {x y : Expr} {q : Pos} (ha : SndE X G c W a x) (hi : SndE X G c W i y) (hp : plainB y = true) : SndE X G c W (.idx a i) (.Subscript x y q) := by
  obtain ⟨ta, pa, ga⟩ := ha.1
  obtain ⟨ti, pi, gi⟩ := hi.1
  obtain ⟨r1, o1, s1⟩ := snd_idx (X := X) (G := G) h.K
  refine .plain (pe_ix o1 pa pi (plain_ix hp fun _ _ _ _ z => by rw [z] at hp; cases hp)) (fun ρ M H σd σ Q rh rs p => ?_) fun _ => rfl
  refine ga.run rh rs p fun d M1 v ρ1 H1 e1 l1 rh1 rs1 rv1 p1 => ?_
  refine gi.run rh1 rs1 p1 fun d2 M2 v2 ρ2 H2 e2 l2 rh2 rs2 rv2 p2 => ?_
  exact s1 ρ2 M2 H2 d d2 v v2 Q _ rh2 (Rep.mono l2 _ _ rv1) rv2 p2
def SndO (X : Cx) (G : Gi) (c : Mini.Ctx) (W : WX) (me : ME) (e : Option Expr) : Prop :=
  ∃ t : TO, PO X e t ∧ ∀ (ρ : List Addr) (M : MH) (H : Hp) (σd : Sl) (σ : L2.St) (f : D → MH → R D) (g : Option Int → MH → R D) (Q : VK) (Q' : Option Int → Hp → Prop), RepH G ρ M H → RepS G ρ H σd σ →
    (∀ d M, f d M = partR d fun o => g o M) → PostE G ρ H ((ev c me σd M).bind f) Q (fun k H' => W (.ref (G.ca k)) none σ H') →
    (∀ o M' ρ' H', Le G ρ H ρ' H' → RepH G ρ' M' H' → RepS G ρ' H' σd σ → PostE G ρ' H' (g o M') Q (fun k H' => W (.ref (G.ca k)) none σ H') → Q' o H') → t σ H Q'
theorem snd_noPart : SndO X G c W (.c .non) none := ⟨_, po_none, fun ρ M H σd σ f g Q Q' rh rs hf p h => h none M ρ H Le.refl rh rs (by
  change PostE G ρ H (f .non M) Q _ at p
  rw [hf] at p
  exact p)⟩
def tPartN (t : TE) : TO := fun σ H Q => t σ H fun x H1 => (∃ i, x = .int i ∧ Q (some i) H1) ∨ (x = .non ∧ Q none H1)
theorem po_any {te : TE} (h : PE X e te) : PO X (some e) (tPartN te) := by
  refine ⟨fun pins s σ H Q I hw => ?_⟩
  rw [evalPart_some]
  refine thn (h.run pins s σ H _ I hw) fun u s1 ⟨x, H1, I1, r1, q1⟩ => ?_
  rcases q1 with ⟨i, rfl, q⟩ | ⟨rfl, q⟩
  · obtain ⟨t, rfl⟩ := r1
    exact ⟨some i, H1, I1, .int i t, q⟩
  · cases r1
    exact ⟨none, H1, I1, .none, q⟩
theorem snd_part {me : ME} {x : Expr} (h : SndE X G c W me x) : SndO X G c W me (some x) := by
  obtain ⟨t, pe, g⟩ := h.1
  refine ⟨_, po_any pe, fun ρ M H σd σ f g' Q Q' rh rs hf p h => ?_⟩
  refine g.run rh rs p fun d M1 v ρ1 H1 e1 l1 rh1 rs1 rv1 p1 => ?_
  rw [hf] at p1
  cases d with
  | int i => cases rv1; exact .inl ⟨i, rfl, h (some i) M1 ρ1 H1 l1 rh1 rs1 p1⟩
  | non => cases rv1; exact .inr ⟨rfl, h none M1 ρ1 H1 l1 rh1 rs1 p1⟩
  | _ => exact False.elim p1
theorem partR_bind (d : D) (f : Option Int → R D) (g : D → MH → R D) : (partR d f).bind g = partR d fun o => (f o).bind g := by
  unfold partR
  cases partD d <;> rfl
theorem snd_slcN (h : Here X T G c sc N W k) {a lo hi : ME} {x : Expr} {l u : Option Expr} {q1 q2 : Pos} (ha : SndE X G c W a x) (hl : SndO X G c W lo l) (hu : SndO X G c W hi u) : SndN X G c W (.slc a lo hi) (.Subscript x (.Slice l u none q1) q2) := by
  obtain ⟨ta, pa, ga⟩ := ha.1
  obtain ⟨tl, pl, gl⟩ := hl
  obtain ⟨tu, pu, gu⟩ := hu
  obtain ⟨r1, o1, s1⟩ := snd_cut (X := X) (G := G) h.K true
  obtain ⟨r2, o2, s2⟩ := snd_cut (X := X) (G := G) h.K false
  refine ⟨_, pe_slice (o1.or o2) pa pl pu, fun m ρ M H σd σ Q rh rs p => ?_⟩
  change PostE G ρ H (((ev c a σd M).bind fun x M => (ev c lo σd M).bind fun l M => partR l fun l => (ev c hi σd M).bind fun h M => partR h fun h => cutD x l h M).bind (fin m)) Q _ at p
  rw [bind_assoc] at p
  refine ga.run rh rs p fun d M1 v ρ1 H1 e1 l1 rh1 rs1 rv1 p1 => ?_
  rw [bind_assoc] at p1
  refine gl ρ1 M1 H1 σd σ _ (fun o M => ((ev c hi σd M).bind fun h M => partR h fun h => cutD d o h M).bind (fin m)) Q _ rh1 rs1 (fun d M => partR_bind _ _ _) p1 fun o M2 ρ2 H2 l2 rh2 rs2 p2 => ?_
  change PostE G ρ2 H2 (((ev c hi σd M2).bind fun h M => partR h fun h => cutD d o h M).bind (fin m)) Q _ at p2
  rw [bind_assoc] at p2
  refine gu ρ2 M2 H2 σd σ _ (fun o2 M => (cutD d o o2 M).bind (fin m)) Q _ rh2 rs2 (fun d M => partR_bind _ _ _) p2 fun o2 M3 ρ3 H3 l3 rh3 rs3 p3 => ?_
  cases m with
  | true => exact .inl (s1 ρ3 M3 H3 d v o o2 Q _ rh3 (Rep.mono (l2.trans l3) _ _ rv1) p3)
  | false => exact .inr (s2 ρ3 M3 H3 d v o o2 Q _ rh3 (Rep.mono (l2.trans l3) _ _ rv1) p3)
theorem snd_revN (h : Here X T G c sc N W k) {a : ME} {x : Expr} {j : Nat} {p1 p2 p3 q : Pos} (ha : SndE X G c W a x) : SndN X G c W (.rev a) (.Subscript x (.Slice none none (some (.UnaryOp .USub (.Constant (.int 1) j p1) p2)) p3) q) := by
  obtain ⟨ta, pa, ga⟩ := ha.1
  refine ⟨_, pe_revA pa, fun m ρ M H σd σ Q rh rs p => ?_⟩
  change PostE G ρ H (((ev c a σd M).bind revD).bind (fin m)) Q _ at p
  rw [bind_assoc] at p
  refine ga.run rh rs p fun d M1 v ρ1 H1 e1 l1 rh1 rs1 rv1 p1 => ?_
  have lst : PostE G ρ1 H1 ((R.ofOpt ((itemsL M1 d).map fun xs => D.lst xs.reverse) M1).bind (fin m)) Q (fun k H' => W (.ref (G.ca k)) none σ H') → ∃ a xs, v = .ref a ∧ ((SqL X.K H1 a xs ∧ ∀ p, H1 p = none → Q (.ref p) (upd H1 p (.lst xs.reverse))) ∨ (SqT X.K H1 a xs ∧ ∀ p, H1 p = none → Q (.ref p) (upd H1 p (.tup xs.reverse)))) := fun p1 => by
    obtain ⟨d1, e2, p1⟩ := PostE.optM p1
    obtain ⟨xs, e3, rfl⟩ := mapSome e2
    obtain ⟨b, vs, rfl, g, q⟩ := itemsL_rep rh1 rv1 e3
    exact ⟨b, vs, rfl, .inl ⟨.of q, fun b hb => PostE.newL p1 rh1 hb (pd_reverse g)⟩⟩
  cases d with
  | tup xs =>
    change PostE G ρ1 H1 (fin m (.tup xs.reverse) M1) Q _ at p1
    obtain ⟨b, vs, rfl, q, g⟩ := Rep.tup_iff.mp rv1
    refine ⟨b, vs, rfl, .inr ⟨by rw [h.K]; exact q, fun b hb => ?_⟩⟩
    exact PostE.valN p1 rh1 hb (Rep.tup_iff.mpr ⟨b, _, rfl, .of upd_same, Reps.mono (Le.laid hb) (pd_reverse g)⟩) (fun _ z => nomatch z)
  | lst xs => exact lst p1
  | obj n => exact lst p1
  | _ => exact p1.elim
theorem starEach_any (pos : Pos) (env : Env) : ∀ {es : List Expr}, es.all plainB = true → (backTo pos (starEach es env)).any (·.1) = false
  | [], _ => rfl
  | e :: es, h => by
    obtain ⟨h1, h2⟩ := and_t (show (plainB e && es.all plainB) = true from h)
    rw [plain_star h1]
    show (false || (backTo pos (starEach es env)).any (·.1)) = false
    rw [starEach_any pos env h2]
    rfl
theorem starEach_all (pos : Pos) (env : Env) : ∀ {es : List Expr}, es.all plainB = true → (backTo pos (starEach es env)).all (fun x => !x.1) = true
  | [], _ => rfl
  | e :: es, h => by
    obtain ⟨h1, h2⟩ := and_t (show (plainB e && es.all plainB) = true from h)
    rw [plain_star h1]
    show (true && (backTo pos (starEach es env)).all (fun x => !x.1)) = true
    rw [starEach_all pos env h2]
    rfl
theorem args_plain : ∀ {as : ME} {es : List Expr}, mE T N as .A sc (args es) = true → es.all plainB = true := by
  intro as
  induction as with
  | nil =>
    intro es hm
    obtain ⟨p, h1, h2⟩ := any_some (and_t hm).2
    rcases asArgs_args h1 with ⟨rfl, rfl⟩ | ⟨a, r, rfl, rfl⟩
    · rfl
    · cases h2
  | cons a r iha ihr =>
    intro es hm
    obtain ⟨p, h1, h2⟩ := any_some (and_t hm).2
    rcases asArgs_args h1 with ⟨rfl, rfl⟩ | ⟨x, rr, rfl, rfl⟩
    · cases h2
    · obtain ⟨h3, h4⟩ := and_t h2
      show (plainB x && rr.all plainB) = true
      rw [mE_plain h3, ihr h4]
      rfl
  | _ => intro es hm; cases (and_t hm).1
theorem snd_bad {me : ME} (h : ∀ σd M, ev c me σd M = .stuck) : SndE X G c W me e :=
  ⟨⟨fun _ _ _ => False, ⟨fun _ _ _ _ _ _ z => z.elim⟩, fun ρ M H σd σ Q rh rs p => by rw [h] at p; exact p⟩, fun _ _ _ => False, ⟨fun _ _ _ _ _ _ z => z.elim⟩, fun ρ M H σd σ Q rh rs p => by rw [h] at p; exact p⟩
theorem pe_callS0 {CX : CXT} {k : Nat} {f : Addr} {fd : FuncData} {ps : List PySem.Str} {sp : Sp} {E : L2.St → XK} {x : PySem.Str} {p pos : Pos} (F : FnOk X.prog X.w X.K X.mg X.base CX k f fd ps sp) (hr : Room k X.A) (hg : Gl X x) (hm : X.mg x = some (.ref f)) (hk : PySem.W.keepIn X.K (.ref f) = true) (hb : Binds X.K fd ps []) (hx : ∀ σ, PassesAt CX X σ (E σ))
    (hdb : (x == ("__debug__" : PySem.Str)) = false) : PE X (.Call (.Name x p) [] [] pos) (tCallS sp E tNil) := by
  refine ⟨fun pins s σ H Q I h => ?_⟩
  refine wpAny_Call_Name_kw (ld_glob I hg hm ?_ hdb)
  exact PySem.W.callWith_K0 I.kIn hk (run_fnS F hr hb (hx σ) I .nil h)
theorem args_nil : ∀ {as : ME}, mE T N as .A sc (args []) = true → as = .nil := by
  intro as hm
  cases as with
  | nil => rfl
  | cons a r =>
    obtain ⟨p, h1, h2⟩ := any_some (and_t hm).2
    rcases asArgs_args h1 with ⟨_, rfl⟩ | ⟨x, rr, e1, rfl⟩
    · cases h2
    · cases e1
  | _ => cases (and_t hm).1
theorem snd_callE (h : Here X T G c sc N W k) {m : Bool} {f : Nat} {as : ME} {x : PySem.Str} {es : List Expr} {q1 q2 : Pos} (hf : T.fn f = some x) (hg : glB sc x = true) (hn : nameB x = true) (hm : mE T N as .A sc (args es) = true) (ha : SndA X G c W as es) : SndE X G c W (.call m f as) (.Call (.Name x q1) es [] q2) := by
  obtain ⟨np, fd, ps, g1, g2, g3, g4, g5⟩ := h.tok.fn f x hf
  have hpl := args_plain hm
  have good : ∀ ta, GoodA G c W as ta → GoodE G c W (.call m f as) (tCallS (spF G c.call f np) (WE W) ta) := fun ta ga ρ M H σd σ Q rh rs p => by
    refine ga.run hm rh rs p fun ds M' vs ρ' H' hn l rh' rs' rv p' => ?_
    refine ⟨G.hid, m, ρ', M', ds, c.fl, c.lk, rh', rv, g5 m ds c.fl c.lk M' (fun z => ?_), p'⟩
    change PostE G ρ' H' (c.call m f ds c.fl c.lk M') Q _ at p'
    rw [z] at p'
    exact p'
  cases es with
  | nil =>
    cases args_nil hm
    refine .plain (pe_callS0 g4 h.room (gl_of h hg) g1 g2 g3 (passAt h.tk) (name_of hn).1) (good tNil fun ρ M H σd σ Q rh rs p => ?_) fun _ => rfl
    obtain ⟨ds, e1, p⟩ := p
    cases e1
    exact p [] ρ H Le.refl rh .nil
  | cons e es =>
    obtain ⟨ta, pa, ga⟩ := ha
    obtain ⟨h1, h2⟩ := and_t (show (plainB e && es.all plainB) = true from hpl)
    exact .plain (pe_callS g4 h.room (gl_of h hg) g1 g2 g3 (passAt h.tk) pa (name_of hn).1 (plain_star h1 es X.env) (starEach_any q2 X.env h2)) (good ta ga) fun _ => rfl
end
end MiniS
set_option autoImplicit false
set_option maxRecDepth 100000
set_option maxHeartbeats 4000000
namespace MiniS
open PySem PySem.Spec PyProof.Rows L2 Mini
section
variable {X : Cx} {T : Tab} {G : Gi} {c : Mini.Ctx} {sc : Scope} {N : List PySem.Str} {W : WX} {k : Nat} {e : Expr}
def bfVal : Bf → Value
  | .tuple => .type "tuple"
  | .list => .type "list"
  | .str => .type "str"
  | .int => .type "int"
  | .isinst => .builtin "isinstance"
  | .len => .builtin "len"
  | .sum => .builtin "sum"
  | .all => .builtin "all"
  | .any => .builtin "any"
  | .min => .builtin "min"
  | .max => .builtin "max"
  | .abs => .builtin "abs"
  | .sorted => .builtin "sorted"
theorem bf_boot (f : Bf) : bootBuiltins (bfName f) = some (bfVal f) := by cases f <;> decide +kernel
theorem bf_name (f : Bf) : bfName f ≠ ("__name__" : PySem.Str) ∧ (bfName f == ("__debug__" : PySem.Str)) = false := by cases f <;> exact ⟨by decide +kernel, by decide +kernel⟩
theorem snd_bfG (h : Here X T G c sc N W k) {f : Bf} {as : ME} {es : List Expr} {q1 q2 : Pos} {fv : Value} (hb : bootBuiltins (bfName f) = some fv) (hv : (∃ id, fv = .builtin id) ∨ ∃ t, fv = .type t)
    (hg : glB sc (bfName f) = true) (hfr : T.free (bfName f) = true) (hne : es.isEmpty = false) (hm : mE T N as .A sc (args es) = true) (ha : SndA X G c W as es)
    (cs : ∀ m : Bool, (m = true → f = .list ∨ f = .sorted) → CallS X G fv (fun as M => (bfn f as M).bind (fin m))) :
    ∃ t, PE X (.Call (.Name (bfName f) q1) es [] q2) t ∧ ∀ m : Bool, (m = true → f = .list ∨ f = .sorted) → GoodM m G c W (.bf f as) t := by
  obtain ⟨ta, pa, ga⟩ := ha
  have hpl := args_plain hm
  have key : ∃ r : List V → Hp → VK → Prop, CallR X fv r ∧ ∀ m : Bool, (m = true → f = .list ∨ f = .sorted) → ∀ (ρ : List Addr) (M : MH) (H : Hp) (ds : List D) (vs : List V) (Q : VK) (E : Nat → Hp → Prop), RepH G ρ M H → Reps G ρ H ds vs → PostE G ρ H ((bfn f ds M).bind (fin m)) Q E → r vs H Q := by
    obtain ⟨r2, c2, s2⟩ := cs false (fun z => nomatch z)
    by_cases hm2 : f = .list ∨ f = .sorted
    · obtain ⟨r1, c1, s1⟩ := cs true (fun _ => hm2)
      refine ⟨_, c1.or c2, fun m _ ρ M H ds vs Q E rh rs p => ?_⟩
      cases m with
      | true => exact .inl (s1 ρ M H ds vs Q E rh rs p)
      | false => exact .inr (s2 ρ M H ds vs Q E rh rs p)
    · refine ⟨r2, c2, fun m h1 ρ M H ds vs Q E rh rs p => ?_⟩
      cases m with
      | true => exact absurd (h1 rfl) hm2
      | false => exact s2 ρ M H ds vs Q E rh rs p
  obtain ⟨r, cr, sr⟩ := key
  refine ⟨tCB r ta, ?_, fun m h1 ρ M H σd σ Q rh rs p => ?_⟩
  · cases es with
    | nil => cases hne
    | cons e es =>
      obtain ⟨h1, h2⟩ := and_t (show (plainB e && es.all plainB) = true from hpl)
      rcases hv with ⟨id, rfl⟩ | ⟨t, rfl⟩
      · exact pe_callB cr (gl_of h hg) (h.tok.free _ hfr) hb pa (bf_name f).1 (bf_name f).2 (plain_star h1 es X.env) (starEach_any q2 X.env h2)
      · exact pe_callTy cr (gl_of h hg) (h.tok.free _ hfr) hb pa (bf_name f).1 (bf_name f).2 (plain_star h1 es X.env) (starEach_any q2 X.env h2)
  · change PostE G ρ H (((ev c as σd M).bind fun y M => tupD y fun ys => bfn f ys M).bind (fin m)) Q _ at p
    rw [bind_assoc] at p
    refine ga.run hm rh rs p fun ds M' vs ρ' H' hn l rh' rs' rv p' => ?_
    exact sr m h1 ρ' M' H' ds vs Q _ rh' rv p'
theorem cs_of {f : Bf} {fv : Value} (h : CallS X G fv (bfn f)) (hf : ¬ (f = .list ∨ f = .sorted)) : ∀ m : Bool, (m = true → f = .list ∨ f = .sorted) → CallS X G fv (fun as M => (bfn f as M).bind (fin m)) := fun m h1 => by
  cases m with
  | true => exact absurd (h1 rfl) hf
  | false => exact callS_false h
theorem snd_bf (h : Here X T G c sc N W k) {f : Bf} {as : ME} {es : List Expr} {q1 q2 : Pos}
    (hg : glB sc (bfName f) = true) (hfr : T.free (bfName f) = true) (hne : es.isEmpty = false) (hm : mE T N as .A sc (args es) = true) (ha : SndA X G c W as es) :
    ∃ t, PE X (.Call (.Name (bfName f) q1) es [] q2) t ∧ ∀ m : Bool, (m = true → f = .list ∨ f = .sorted) → GoodM m G c W (.bf f as) t := by
  have no : ∀ fv, (∀ ys M, bfn f ys M = .stuck) → CallS X G fv (bfn f) := fun fv st => ⟨fun _ _ _ => False, fun _ _ _ _ _ _ _ _ _ z => z.elim, fun ρ M H ds vs Q E rh rs p => by rw [st] at p; exact p⟩
  have hK := h.K
  have hc := h.calm
  have hb := bf_boot f
  cases f with
  | len => exact snd_bfG h hb (.inl ⟨_, rfl⟩) hg hfr hne hm ha (cs_of (cs_len hK) (by decide))
  | sum => exact snd_bfG h hb (.inl ⟨_, rfl⟩) hg hfr hne hm ha (cs_of (cs_sum hK hc) (by decide))
  | all => exact snd_bfG h hb (.inl ⟨_, rfl⟩) hg hfr hne hm ha (cs_of (cs_all hK hc) (by decide))
  | any => exact snd_bfG h hb (.inl ⟨_, rfl⟩) hg hfr hne hm ha (cs_of (cs_any hK hc) (by decide))
  | min => exact snd_bfG h hb (.inl ⟨_, rfl⟩) hg hfr hne hm ha (cs_of (cs_min hK hc) (by decide))
  | max => exact snd_bfG h hb (.inl ⟨_, rfl⟩) hg hfr hne hm ha (cs_of (cs_max hK hc) (by decide))
  | abs => exact snd_bfG h hb (.inl ⟨_, rfl⟩) hg hfr hne hm ha (cs_of cs_abs (by decide))
  | sorted => exact snd_bfG h hb (.inl ⟨_, rfl⟩) hg hfr hne hm ha fun m _ => cs_sorted hK m
  | tuple => exact snd_bfG h hb (.inr ⟨_, rfl⟩) hg hfr hne hm ha (cs_of (cs_tuple hK) (by decide))
  | list => exact snd_bfG h hb (.inr ⟨_, rfl⟩) hg hfr hne hm ha fun m _ => cs_list hK m
  | isinst => exact snd_bfG h hb (.inl ⟨_, rfl⟩) hg hfr hne hm ha (cs_of (cs_isi hK) (by decide))
  | str => exact snd_bfG h hb (.inr ⟨_, rfl⟩) hg hfr hne hm ha (cs_of (no _ fun _ _ => rfl) (by decide))
  | int => exact snd_bfG h hb (.inr ⟨_, rfl⟩) hg hfr hne hm ha (cs_of (no _ fun _ _ => rfl) (by decide))
theorem base_of {o : Expr} (hp : plainB o = true) (hn : ∀ f k q, o ≠ .Call f [] k q) (x : PySem.Str) (env : Env) (w : Sem Value) : attributeBase o x env w = w := by
  unfold attributeBase
  split
  · rename_i id p1 pos heq
    exact absurd rfl (hn _ _ _)
  · rfl
theorem snd_mtG (h : Here X T G c sc N W k) {m : Mt} {o as : ME} {x : Expr} {es : List Expr} {ap cp : Pos} {id : String} (slot : Slot "list" (mtName m) id) (hty : typeOf (.builtin id) = pure (.type "method_descriptor"))
    (hr : ∀ d r, recvD m d r ≠ .stuck → ∃ n, d = .obj n) (hr2 : ∀ n r, recvD m (.obj n) r = r) (ms : MtS X G id c (mth c m)) (ho : SndE X G c W o x) (hp : plainB x = true) (hn : ∀ f k q, x ≠ .Call f [] k q) (hl : (ap.endLine == cp.line) = true) (hlen : es.length < 10)
    (hm : mE T N as .A sc (args es) = true) (ha : SndA X G c W as es) : SndE X G c W (.mt m o as) (.Call (.Attribute x (mtName m) ap) es [] cp) := by
  obtain ⟨to, po, go⟩ := ho.1
  obtain ⟨r, cr, sr⟩ := ms
  have hpl := args_plain hm
  have tyv : ∀ {ρ : List Addr} {M : MH} {H : Hp} {n : Nat} {v : V}, RepH G ρ M H → Rep G ρ H (.obj n) v → tyV X.K "list" v H := fun {ρ M H n v} rh rv => by
    obtain ⟨a, rfl, hq⟩ := rv
    obtain ⟨mo, _, ro⟩ := rh.tell hq
    obtain ⟨vs, q⟩ := ro.there
    exact .inl ⟨rfl, vs, .of q⟩
  have step : ∀ (ta : TA), GoodA G c W as ta → GoodE G c W (.mt m o as) (fun σ H Q => to σ H fun x H1 => tyV X.K "list" x H1 ∧ ta σ H1 fun xs H2 => r x xs H2 Q) := fun ta ga ρ M H σd σ Q rh rs p => by
    refine go.run rh rs p fun d M1 v ρ1 H1 e1 l1 rh1 rs1 rv1 p1 => ?_
    have hd : ∃ n, d = .obj n := hr d _ fun z => by rw [z] at p1; exact p1
    obtain ⟨n, rfl⟩ := hd
    rw [hr2] at p1
    refine ⟨tyv rh1 rv1, ?_⟩
    refine ga.run hm rh1 rs1 p1 fun ds M' vs ρ' H' hn l rh' rs' rv p' => ?_
    exact sr ρ' M' H' (.obj n) ds v vs Q _ rh' (Rep.mono l _ _ rv1) rv p'
  cases es with
  | nil =>
    cases args_nil hm
    refine .plain (pe_bm0 PySem.F.plainAttrs_list slot hty cr po (base_of hp hn _ _ _) hl) (step tNil fun ρ M H σd σ Q rh rs p => ?_) fun _ => rfl
    obtain ⟨ds, e1, p⟩ := p
    cases e1
    exact p [] ρ H Le.refl rh .nil
  | cons e es =>
    obtain ⟨ta, pa, ga⟩ := ha
    obtain ⟨h1, h2⟩ := and_t (show (plainB e && es.all plainB) = true from hpl)
    refine .plain (pe_bm PySem.F.plainAttrs_list slot hty cr po pa (base_of hp hn _ _ _) ?_ hl (plain_star h1 es X.env) (starEach_any cp X.env h2)) (step ta ga) fun _ => rfl
    rw [starEach_all cp X.env hpl]
    show (decide ((e :: es).length + 0 + 0 < 30)) = true
    exact decide_eq_true (by omega)
theorem snd_mt (h : Here X T G c sc N W k) {m : Mt} {o as : ME} {x : Expr} {es : List Expr} {ap cp : Pos} (ho : SndE X G c W o x) (hp : plainB x = true) (hn : ∀ f k q, x ≠ .Call f [] k q) (hl : (ap.endLine == cp.line) = true) (hlen : es.length < 10) (hok : mtOk m = true)
    (hm : mE T N as .A sc (args es) = true) (ha : SndA X G c W as es) : SndE X G c W (.mt m o as) (.Call (.Attribute x (mtName m) ap) es [] cp) := by
  have rc : ∀ m, (m = .append ∨ m = .extend ∨ m = .pop ∨ m = .remove) → ∀ d r, recvD m d r ≠ .stuck → ∃ n, d = .obj n := by
    intro m hm d r z
    rcases hm with rfl | rfl | rfl | rfl <;> cases d <;> first | exact ⟨_, rfl⟩ | exact absurd rfl z
  cases m with
  | append => exact snd_mtG h PySem.F.slot_list_append PySem.F.type_list_append (rc _ (.inl rfl)) (fun _ _ => rfl) ms_append ho hp hn hl hlen hm ha
  | extend => exact snd_mtG h PySem.F.slot_list_extend PySem.F.type_list_extend (rc _ (.inr (.inl rfl))) (fun _ _ => rfl) ms_extend ho hp hn hl hlen hm ha
  | pop => exact snd_mtG h PySem.F.slot_list_pop PySem.F.type_list_pop (rc _ (.inr (.inr (.inl rfl)))) (fun _ _ => rfl) ms_pop ho hp hn hl hlen hm ha
  | remove => exact snd_mtG h PySem.F.slot_list_remove PySem.F.type_list_remove (rc _ (.inr (.inr (.inr rfl)))) (fun _ _ => rfl) (ms_remove h.K (hu65 h)) ho hp hn hl hlen hm ha
  | _ => cases hok
end
end MiniS
set_option autoImplicit false
set_option maxRecDepth 100000
set_option maxHeartbeats 4000000
namespace MiniS
open PySem PySem.Spec PyProof.Rows L2 Mini
section
variable {X : Cx} {T : Tab} {G : Gi} {c : Mini.Ctx} {sc : Scope} {N : List PySem.Str} {W : WX} {k : Nat} {e tg : Expr}
theorem GoodE.go {me : ME} {t : TE} (g : GoodE G c W me t) {ρ : List Addr} {M : MH} {H : Hp} {σd : Sl} {σ : L2.St} {Q' : VK} (rh : RepH G ρ M H) (rs : RepS G ρ H σd σ)
    (h0 : ∀ d M', ev c me σd M = .ok d M' → ∀ v ρ' H', Le G ρ H ρ' H' → RepH G ρ' M' H' → RepS G ρ' H' σd σ → Rep G ρ' H' d v → Q' v H')
    (h1 : ∀ j M', ev c me σd M = .exc j M' → ∀ ρ' H', Le G ρ H ρ' H' → RepH G ρ' M' H' → W (.ref (G.ca j)) none σ H') (h2 : ev c me σd M ≠ .stuck) : t σ H Q' := by
  refine g ρ M H σd σ Q' rh rs ?_
  cases e : ev c me σd M with
  | ok d M' => exact fun v ρ' H' l rh' rv => h0 d M' e v ρ' H' l rh' (rs.mono l) rv
  | exc j M' => exact h1 j M' e
  | stuck => exact absurd e h2
theorem GoodA.go {as : ME} {t : TA} (g : GoodA G c W as t) {es : List Expr} (hm : mE T N as .A sc (args es) = true) {ρ : List Addr} {M : MH} {H : Hp} {σd : Sl} {σ : L2.St} {Q' : List V → Hp → Prop} (rh : RepH G ρ M H) (rs : RepS G ρ H σd σ)
    (h0 : ∀ ds M', ev c as σd M = .ok (.tup ds) M' → ds.length = es.length → ∀ vs ρ' H', Le G ρ H ρ' H' → RepH G ρ' M' H' → RepS G ρ' H' σd σ → Reps G ρ' H' ds vs → Q' vs H')
    (h1 : ∀ j M', ev c as σd M = .exc j M' → ∀ ρ' H', Le G ρ H ρ' H' → RepH G ρ' M' H' → W (.ref (G.ca j)) none σ H') (h2 : ev c as σd M ≠ .stuck) : t σ H Q' := by
  refine g ρ M H σd σ Q' rh rs ?_
  cases e : ev c as σd M with
  | ok d M' =>
    obtain ⟨ds, e1, e2⟩ := len_args as es σd M M' d hm e
    subst e1
    exact ⟨ds, rfl, fun vs ρ' H' l rh' rv => h0 ds M' e e2 vs ρ' H' l rh' (rs.mono l) rv⟩
  | exc j M' => exact h1 j M' e
  | stuck => exact absurd e h2
theorem Le.hide {ρ ρ' : List Addr} {H H' : Hp} (hid : List Addr) (l : Le G ρ H ρ' H') : Le (G.hide hid) ρ H ρ' H' := ⟨l.tup, l.lst, l.frz, l.pre, l.dom⟩
theorem Le.unhide {ρ ρ' : List Addr} {H H' : Hp} {hid : List Addr} (l : Le (G.hide hid) ρ H ρ' H') : Le G ρ H ρ' H' := ⟨l.tup, l.lst, l.frz, l.pre, l.dom⟩
theorem Le.toW {ρ ρ' : List Addr} {H H' : Hp} {hid : List Addr} (l : Le G ρ H ρ' H') (h : ∀ a ∈ hid, a ∈ G.hid ∨ H a = none) : LeW G (G.hide hid) ρ H ρ' H' :=
  ⟨rfl, rfl, rfl, l.tup, fun a vs h1 h2 h3 => ⟨(l.lst a vs h1 h2).1, (l.lst a vs h1 h2).2, fun z => (h a z).elim h3 (fun z => by rw [h1] at z; cases z)⟩, l.frz, l.pre⟩
theorem LeW.trans {G' G'' : Gi} {ρ ρ' ρ'' : List Addr} {H H' H'' : Hp} (a : LeW G G' ρ H ρ' H') (b : LeW G' G'' ρ' H' ρ'' H'') : LeW G G'' ρ H ρ'' H'' :=
  ⟨b.K.trans a.K, b.fa.trans a.fa, b.ca.trans a.ca, fun x vs h => by have z := a.tup x vs h; rw [← a.K] at z ⊢; exact b.tup x vs z, fun x vs h1 h2 h3 => let ⟨z1, z2, z3⟩ := a.lst x vs h1 h2 h3; b.lst x vs z1 z2 z3, fun x o u h => b.frz x o u (a.frz x o u h), fun n x h => b.pre n x (a.pre n x h)⟩
def ItOk (G : Gi) (ρ0 : List Addr) (M0 : MH) (H0 : Hp) (J : It) (xs : List D) (l : List Nat) : Prop :=
  ∀ (hid : List Addr) (ρ : List Addr) (M : MH) (H : Hp), LeW G (G.hide hid) ρ0 H0 ρ H → RepH (G.hide hid) ρ M H → (∀ n ∈ l, n < M0.length → M[n]? = M0[n]?) → ∀ i,
    (∀ d, xs[i]? = some d → J.go i H ∧ ∀ x H', J.yld i H x H' → Le G ρ H ρ H' ∧ RepH (G.hide hid) ρ M H' ∧ Rep (G.hide hid) ρ H' d x) ∧ (xs[i]? = none → J.stop i H)
def PostI (G : Gi) (ρ : List Addr) (H : Hp) (r : R D) (Q : It → Hp → Prop) (E : Nat → Hp → Prop) : Prop :=
  match r with
  | .ok d M' => ∃ xs ls, d = .dct xs ls ∧ ∀ J ρ' H', Le G ρ H ρ' H' → RepH G ρ' M' H' → ItOk G ρ' M' H' J xs (locks ls) → Q J H'
  | .exc k M' => ∀ ρ' H', Le G ρ H ρ' H' → RepH G ρ' M' H' → E k H'
  | .stuck => False
def GoodI (G : Gi) (c : Mini.Ctx) (W : WX) (me : ME) (t : TI) : Prop :=
  ∀ (ρ : List Addr) (M : MH) (H : Hp) (σd : Sl) (σ : L2.St) (Q : It → Hp → Prop), RepH G ρ M H → RepS G ρ H σd σ → PostI G ρ H (ev c me σd M) Q (fun k H' => W (.ref (G.ca k)) none σ H') → t σ H Q
def SndI (X : Cx) (G : Gi) (c : Mini.Ctx) (W : WX) (me : ME) (tg e : Expr) : Prop := ∃ t, PI X tg e t ∧ GoodI G c W me t
theorem locks_walk (l : List Nat) : locks (l.map fun (n : Nat) => D.int (n : Int)) = l := by
  unfold locks
  rw [List.map_map]
  conv => rhs; rw [← List.map_id l]
  apply List.map_congr_left
  intro n _
  show (n : Int).toNat = n
  omega
theorem items_stay {ρ0 : List Addr} {M0 : MH} {H0 : Hp} {d : D} {v : V} {xs : List D} (rh0 : RepH G ρ0 M0 H0) (rv : Rep G ρ0 H0 d v) (hi : items M0 d = some xs) :
    ∃ a, v = .ref a ∧ ((∀ ys, d = .tup ys → ∀ (hid : List Addr) (ρ : List Addr) (M : MH) (H : Hp), LeW G (G.hide hid) ρ0 H0 ρ H → RepH (G.hide hid) ρ M H → (∀ n ∈ lockOf d, n < M0.length → M[n]? = M0[n]?) → ∃ vs, SqT G.K H a vs ∧ Reps (G.hide hid) ρ H xs vs) ∧
      ((∀ ys, d ≠ .tup ys) → ∀ (hid : List Addr) (ρ : List Addr) (M : MH) (H : Hp), LeW G (G.hide hid) ρ0 H0 ρ H → RepH (G.hide hid) ρ M H → (∀ n ∈ lockOf d, n < M0.length → M[n]? = M0[n]?) → ∃ vs, H a = some (.lst vs) ∧ Reps (G.hide hid) ρ H xs vs)) := by
  cases d with
  | tup ys =>
    have e : ys = xs := Option.some.inj hi
    subst e
    obtain ⟨a, vs, rfl, q, g⟩ := Rep.tup_iff.mp rv
    refine ⟨a, rfl, fun _ _ hid ρ M H l rh hl => ⟨vs, l.tup a vs q, Reps.monoW l g⟩, fun z => absurd rfl (z _)⟩
  | lst ys =>
    have e : ys = xs := Option.some.inj hi
    subst e
    obtain ⟨a, vs, rfl, q, g⟩ := Rep.lst_iff.mp rv
    refine ⟨a, rfl, (fun _ z => nomatch z), fun _ hid ρ M H l rh hl => ⟨vs, (l.lst a vs q.1 q.2.1 q.2.2).1, Reps.monoW l g⟩⟩
  | obj n =>
    obtain ⟨a, rfl, ha⟩ := rv
    refine ⟨a, rfl, (fun _ z => nomatch z), fun _ hid ρ M H l rh hl => ?_⟩
    obtain ⟨mo, h1, h2⟩ := rh.tell (l.pre n a ha)
    have h3 : (match M0[n]? with | some (.lst xs) => some xs | _ => none) = some xs := hi
    have hlt : n < M0.length := by
      cases q : M0[n]? with
      | none => rw [q] at h3; cases h3
      | some _ => exact (List.getElem?_eq_some_iff.mp q).1
    have e1 : M0[n]? = some mo := by rw [← hl n (by simp [lockOf]) hlt]; exact h1
    rw [e1] at h3
    cases mo with
    | lst zs => cases h3; exact h2
    | dct _ _ => cases h3
    | ins _ _ => cases h3
  | _ => cases hi
theorem itOk_list {ρ0 : List Addr} {M0 : MH} {H0 : Hp} {a : Addr} {xs : List D} {l : List Nat}
    (h : ∀ (hid : List Addr) (ρ : List Addr) (M : MH) (H : Hp), LeW G (G.hide hid) ρ0 H0 ρ H → RepH (G.hide hid) ρ M H → (∀ n ∈ l, n < M0.length → M[n]? = M0[n]?) → ∃ vs, H a = some (.lst vs) ∧ Reps (G.hide hid) ρ H xs vs) : ItOk G ρ0 M0 H0 (Itl G.K a) xs l := by
  intro hid ρ M H le rh hl i
  obtain ⟨vs, h1, g⟩ := h hid ρ M H le rh hl
  refine ⟨fun d hd => ?_, fun hn => ?_⟩
  · obtain ⟨v, hv, rv⟩ := pd_get g hd
    refine ⟨⟨vs, v, .of h1, hv⟩, fun x H' y => ?_⟩
    obtain ⟨rfl, y⟩ := y
    have e := y vs (.of h1)
    rw [hv] at e
    cases e
    exact ⟨Le.refl, rh, rv⟩
  · refine ⟨vs, .of h1, ?_⟩
    rw [← pd_length g]
    exact List.getElem?_eq_none_iff.mp hn
theorem itOk_tup {ρ0 : List Addr} {M0 : MH} {H0 : Hp} {a : Addr} {xs : List D} {l : List Nat}
    (h : ∀ (hid : List Addr) (ρ : List Addr) (M : MH) (H : Hp), LeW G (G.hide hid) ρ0 H0 ρ H → RepH (G.hide hid) ρ M H → (∀ n ∈ l, n < M0.length → M[n]? = M0[n]?) → ∃ vs, SqT G.K H a vs ∧ Reps (G.hide hid) ρ H xs vs) : ItOk G ρ0 M0 H0 (Itt G.K a) xs l := by
  intro hid ρ M H le rh hl i
  obtain ⟨vs, h1, g⟩ := h hid ρ M H le rh hl
  refine ⟨fun d hd => ?_, fun hn => ?_⟩
  · obtain ⟨v, hv, rv⟩ := pd_get g hd
    refine ⟨⟨vs, v, h1, hv⟩, fun x H' y => ?_⟩
    obtain ⟨rfl, y⟩ := y
    have e := y vs h1
    rw [hv] at e
    cases e
    exact ⟨Le.refl, rh, rv⟩
  · refine ⟨vs, h1, ?_⟩
    rw [← pd_length g]
    exact List.getElem?_eq_none_iff.mp hn
def iAny (K : PySem.W.Frag) (te : TE) : TI := fun σ H R => te σ H fun x H1 => (∃ a, x = .ref a ∧ (∃ xs, SqL K H1 a xs) ∧ R (Itl K a) H1) ∨ (∃ a, x = .ref a ∧ (∃ xs, SqT K H1 a xs) ∧ R (Itt K a) H1) ∨ ∃ y, x = .str y ∧ R (Its y) H1
theorem pi_any {te : TE} (he : PE X e te) : PI X tg e (iAny X.K te) := by
  refine ⟨fun pins s σ H R I h => ?_⟩
  refine thn (he.run pins s σ H _ I h) fun v s1 ⟨x, H1, I1, r1, q1⟩ => ?_
  rcases q1 with ⟨a, rfl, ⟨xs, hq⟩, q⟩ | ⟨a, rfl, ⟨xs, hq⟩, q⟩ | ⟨y, rfl, q⟩
  · cases r1
    obtain ⟨its, rv, p, hz⟩ := I1.list hq
    refine wpAny_pyIter_list p.isList ?_
    exact pi_one (tk := s1.toks) I1 _ (turn_list a _) ⟨_, Heap.get?_push_size _ rfl, rfl, rfl⟩ q
  · cases r1
    obtain ⟨its, rv, p, hz⟩ := I1.tuple hq
    refine wpAny_pyIter_tuple (show s1.heap.IsTuple a its.toArray from p) ?_
    exact pi_one (tk := s1.toks) I1 _ (turn_tuple a _) ⟨_, Heap.get?_push_size _ rfl, rfl, rfl⟩ q
  · obtain ⟨t, rfl⟩ := r1
    cases ha : y.cps.all (· < 128)
    · exact wpAny_pyIter_wide ha (pi_one (tk := s1.toks) I1 _ (turn_str _ y t "str_iterator" (.inr rfl)) ⟨_, Heap.get?_push_size _ rfl, rfl, rfl⟩ q)
    · exact wpAny_pyIter_ascii ha (pi_one (tk := s1.toks) I1 _ (turn_str _ y t "str_ascii_iterator" (.inl rfl)) ⟨_, Heap.get?_push_size _ rfl, rfl, rfl⟩ q)
theorem itOk_str {ρ0 : List Addr} {M0 : MH} {H0 : Hp} {s : List Nat} {l : List Nat} (ok : PyData.strOk (mkS s) = true) : ItOk G ρ0 M0 H0 (Its (mkS s)) (s.map fun c => D.str [c]) l := by
  intro hid ρ M H le rh hl i
  have sz : (mkS s).cps.size = s.length := by unfold mkS; simp
  refine ⟨fun d hd => ?_, fun hn => ?_⟩
  · rw [List.getElem?_map] at hd
    obtain ⟨ch, h1, rfl⟩ := mapSome hd
    have hi := (List.getElem?_eq_some_iff.mp h1).1
    refine ⟨by show i < (mkS s).cps.size; rw [sz]; exact hi, fun x H' y => ?_⟩
    obtain ⟨rfl, ch', h2, rfl⟩ := y
    have e1 : (mkS s).cps[i]? = some ch := by unfold mkS; simpa using h1
    rw [e1] at h2
    cases h2
    refine ⟨Le.refl, rh, rfl, ?_⟩
    rw [strOk_iff] at ok ⊢
    intro c hc
    have : c = ch := by simpa using hc
    rw [this]
    exact ok ch (List.mem_of_getElem? h1)
  · show (mkS s).cps.size ≤ i
    rw [sz]
    have := List.getElem?_eq_none_iff.mp hn
    simpa using this
theorem snd_itI (h : Here X T G c sc N W k) {a : ME} (ha : SndE X G c W a e) : SndI X G c W (.it a) tg e := by
  obtain ⟨ta, pa, ga⟩ := ha.1
  refine ⟨_, pi_any pa, fun ρ M H σd σ Q rh rs p => ?_⟩
  change PostI G ρ H ((ev c a σd M).bind fun x M => R.ofOpt (walkOf M x) M) Q _ at p
  refine ga.go rh rs (fun d M' e1 v ρ' H' l rh' rs' rv => ?_) (fun j M' e1 => ?_) fun e1 => ?_
  · rw [e1] at p
    change PostI G ρ H (R.ofOpt (walkOf M' d) M') Q _ at p
    cases hw : walkOf M' d with
    | none => rw [hw] at p; exact p.elim
    | some w =>
      rw [hw] at p
      obtain ⟨xs, ls, e2, p⟩ := p
      have gen : (∀ s, d ≠ .str s) → items M' d = some xs ∧ locks ls = lockOf d := fun hs => by
        have e3 : walkOf M' d = (items M' d).map fun xs => walkD xs (lockOf d) := by
          unfold walkOf
          split
          · exact absurd rfl (hs _)
          · rfl
        rw [e3] at hw
        obtain ⟨ys, e4, e5⟩ := mapSome hw
        rw [e2] at e5
        unfold walkD at e5
        cases e5
        exact ⟨e4, locks_walk _⟩
      by_cases hs : ∃ s, d = .str s
      · obtain ⟨s, rfl⟩ := hs
        obtain ⟨rfl, ok⟩ := rv
        have hw : some (walkD (s.map fun c => D.str [c]) []) = some w := hw
        cases hw
        unfold walkD at e2
        cases e2
        exact .inr (.inr ⟨_, rfl, p _ ρ' H' l rh' (itOk_str ok)⟩)
      · obtain ⟨g1, g2⟩ := gen fun s z => hs ⟨s, z⟩
        obtain ⟨b, rfl, b1, b2⟩ := items_stay rh' rv g1
        rw [g2] at p
        by_cases ht : ∃ ys, d = .tup ys
        · obtain ⟨ys, rfl⟩ := ht
          have st := b1 ys rfl
          obtain ⟨vs, q, _⟩ := st G.hid ρ' M' H' Le.refl.w rh' (fun _ _ _ => rfl)
          refine .inr (.inl ⟨b, rfl, ⟨vs, by rw [h.K]; exact q⟩, ?_⟩)
          rw [h.K]
          exact p _ ρ' H' l rh' (itOk_tup st)
        · have st := b2 fun ys z => ht ⟨ys, z⟩
          obtain ⟨vs, q, _⟩ := st G.hid ρ' M' H' Le.refl.w rh' (fun _ _ _ => rfl)
          refine .inl ⟨b, rfl, ⟨vs, .of q⟩, ?_⟩
          rw [h.K]
          exact p _ ρ' H' l rh' (itOk_list st)
  · rw [e1] at p; exact p
  · rw [e1] at p; exact p
end
end MiniS
set_option autoImplicit false
set_option maxRecDepth 100000
set_option maxHeartbeats 4000000
namespace MiniS
open PySem PySem.Spec PyProof.Rows L2 Mini
section
variable {X : Cx} {T : Tab} {G : Gi} {c : Mini.Ctx} {sc : Scope} {N : List PySem.Str} {W : WX} {k : Nat} {e tg : Expr}
theorem itOk_rng {ρ0 : List Addr} {M0 : MH} {H0 : Hp} {lo : Int} {n : Nat} {l : List Nat} : ItOk G ρ0 M0 H0 (Itr lo n) (rangeD lo n 1) l := by
  intro hid ρ M H le rh hl i
  unfold rangeD
  refine ⟨fun d hd => ?_, fun hn => ?_⟩
  · rw [List.getElem?_map] at hd
    obtain ⟨j, h1, rfl⟩ := mapSome hd
    have hi := (List.getElem?_eq_some_iff.mp h1)
    obtain ⟨h2, h3⟩ := hi
    have h2 : i < n := by simpa using h2
    have h3 : i = j := by simpa using h3
    subst h3
    refine ⟨h2, fun x H' y => ?_⟩
    obtain ⟨rfl, rfl⟩ := y
    exact ⟨Le.refl, rh, by show V.int _ = V.int _; rw [Int.mul_one]⟩
  · have := List.getElem?_eq_none_iff.mp hn
    exact (show n ≤ i by simpa using this)
theorem itOk_rngC {ρ0 : List Addr} {M0 : MH} {H0 : Hp} {lo s : Int} {n : Nat} {l : List Nat} : ItOk G ρ0 M0 H0 (Itc lo s n) (rangeD lo n s) l := by
  intro hid ρ M H le rh hl i
  unfold rangeD
  refine ⟨fun d hd => ?_, fun hn => ?_⟩
  · rw [List.getElem?_map] at hd
    obtain ⟨j, h1, rfl⟩ := mapSome hd
    have hi := (List.getElem?_eq_some_iff.mp h1)
    obtain ⟨h2, h3⟩ := hi
    have h2 : i < n := by simpa using h2
    have h3 : i = j := by simpa using h3
    subst h3
    refine ⟨h2, fun x H' y => ?_⟩
    obtain ⟨rfl, rfl⟩ := y
    exact ⟨Le.refl, rh, rfl⟩
  · have := List.getElem?_eq_none_iff.mp hn
    exact (show n ≤ i by simpa using this)
theorem turns_one (a b : Int) : turns a b 1 = (b - a).toNat := by
  unfold turns
  split
  · rw [Int.ediv_one]
    omega
  · omega
theorem small_iff {i : Int} (h : small i = true) : -1000000000 < i ∧ i < 1000000000 := of_decide_eq_true h
theorem rgC_of {a b s : Int} (ha : small a = true) (hb : small b = true) (hs : 0 < s) (hs' : small s = true) : RgC a b s (turns a b s) := by
  have h1 := small_iff ha
  have h2 := small_iff hb
  have h3 := small_iff hs'
  have key : Builtin.Range.rangeSize a b s = (turns a b s : Int) ∧ 0 ≤ Builtin.Range.rangeSize a b s ∧ Builtin.Range.rangeSize a b s ≤ 2000000000 := by
    unfold Builtin.Range.rangeSize turns
    rw [if_pos hs]
    by_cases h : a < b
    · rw [if_pos h, if_pos h]
      have e1 : (b - a + s - 1) / s = (b - a - 1) / s + 1 := by
        have : b - a + s - 1 = (b - a - 1) + s := by omega
        rw [this, Int.add_ediv_of_dvd_right (Int.dvd_refl s), Int.ediv_self (by omega)]
      have e2 : 0 ≤ (b - a - 1) / s := Int.ediv_nonneg (by omega) (by omega)
      have e3 : (b - a - 1) / s ≤ b - a - 1 := Int.ediv_le_self _ (by omega)
      rw [e1]
      omega
    · rw [if_neg h, if_neg h]
      omega
  refine ⟨by omega, by omega, ?_, key.1⟩
  unfold Builtin.Range.small
  simp only [Builtin.Range.rangeFitsLong, Bool.and_eq_true, Bool.or_eq_true, decide_eq_true_eq, beq_iff_eq, show s > 0 from hs, if_true]
  obtain ⟨_, k2, k3⟩ := key
  generalize Builtin.Range.rangeSize a b s = n at *
  omega
theorem snd_rngI (h : Here X T G c sc N W k) {as : ME} {es : List Expr} {q1 q2 : Pos} (hg : glB sc ("range" : PySem.Str) = true) (hfr : T.free ("range" : PySem.Str) = true) (hl : 1 ≤ es.length ∧ es.length ≤ 3) (hm : mE T N as .A sc (args es) = true) (ha : SndA X G c W as es) :
    SndI X G c W (.rng as) tg (.Call (.Name ("range" : PySem.Str) q1) es [] q2) := by
  obtain ⟨ta, pa, ga⟩ := ha
  have hpl := args_plain hm
  have go : ∀ (wi : TI), (∀ (ρ : List Addr) (M : MH) (H : Hp) (σ : L2.St) (Q : It → Hp → Prop) (Qa : List V → Hp → Prop), True → True) → True := fun _ _ => trivial
  have step : ∀ (Rr : List V → Hp → (It → Hp → Prop) → Prop) (t : TI), (∀ σ H Q, t σ H Q = ta σ H fun vs H1 => Rr vs H1 Q) →
      (∀ (ρ : List Addr) (M : MH) (H : Hp) (ds : List D) (vs : List V) (xs : List D) (Q : It → Hp → Prop), ds.length = es.length → Reps G ρ H ds vs → rngD ds = some xs → (∀ J, ItOk G ρ M H J xs [] → Q J H) → Rr vs H Q) → GoodI G c W (.rng as) t := by
    intro Rr t ht hR ρ M H σd σ Q rh rs p
    rw [ht]
    change PostI G ρ H ((ev c as σd M).bind fun y M => tupD y fun ys => R.ofOpt ((rngD ys).map fun xs => walkD xs []) M) Q _ at p
    refine ga.go hm rh rs (fun ds M' e1 hn vs ρ' H' l rh' rs' rv => ?_) (fun j M' e1 => ?_) fun e1 => ?_
    · rw [e1] at p
      change PostI G ρ H (R.ofOpt ((rngD ds).map fun xs => walkD xs []) M') Q _ at p
      cases hr : rngD ds with
      | none => rw [hr] at p; exact p.elim
      | some xs =>
        rw [hr] at p
        obtain ⟨ys, ls, e2, p⟩ := p
        unfold walkD at e2
        cases e2
        exact hR ρ' M' H' ds vs xs Q hn rv hr fun J ok => p J ρ' H' l rh' ok
    · rw [e1] at p; exact p
    · rw [e1] at p; exact p
  have reps0 : ∀ {ρ : List Addr} {H : Hp} {d : D} {ds : List D} {vs : List V}, Reps G ρ H (d :: ds) vs → ∃ v r, vs = v :: r ∧ Rep G ρ H d v ∧ Reps G ρ H ds r := fun h => by cases h with | cons a b => exact ⟨_, _, rfl, a, b⟩
  match es, hl, pa, hpl, step with
  | [a], _, pa, hpl, step =>
    obtain ⟨h1, _⟩ := and_t (show (plainB a && true) = true from hpl)
    refine ⟨_, pi_range1 (gl_of h hg) (h.tok.free _ hfr) pa (plain_star h1 [] X.env), step _ _ (fun _ _ _ => rfl) fun ρ M H ds vs xs Q hn rv hr p => ?_⟩
    match ds, hn, rv, hr with
    | [.int b], _, rv, hr =>
      obtain ⟨v, r, rfl, r1, r2⟩ := reps0 rv
      cases r1
      cases r2
      have hr : (if small b then some (rangeD 0 (turns 0 b 1) 1) else none) = some xs := hr
      by_cases hb : small b = true
      · rw [if_pos hb] at hr
        cases hr
        have hbb := small_iff hb
        rw [turns_one, Int.sub_zero] at p
        exact ⟨b, rfl, by omega, by omega, p _ itOk_rng⟩
      · rw [if_neg hb] at hr; cases hr
    | [.non], _, _, hr => cases hr
    | [.bl _], _, _, hr => cases hr
    | [.str _], _, _, hr => cases hr
    | [.tup _], _, _, hr => cases hr
    | [.lst _], _, _, hr => cases hr
    | [.scr _], _, _, hr => cases hr
    | [.dct _ _], _, _, hr => cases hr
    | [.obj _], _, _, hr => cases hr
    | [.fn _], _, _, hr => cases hr
    | [.cls _], _, _, hr => cases hr
    | [.ty _], _, _, hr => cases hr
  | [a, b], _, pa, hpl, step =>
    obtain ⟨h1, h2⟩ := and_t (show (plainB a && (plainB b && true)) = true from hpl)
    obtain ⟨h2, _⟩ := and_t h2
    have e2 := plain_star h2 [] X.env
    refine ⟨_, pi_range2 (gl_of h hg) (h.tok.free _ hfr) pa (by rw [plain_star h1, e2]; rfl) e2, step _ _ (fun _ _ _ => rfl) fun ρ M H ds vs xs Q hn rv hr p => ?_⟩
    unfold rngD at hr
    split at hr
    · cases hn
    · rename_i i j
      obtain ⟨v, r, rfl, r1, r2⟩ := reps0 rv
      obtain ⟨v, r, rfl, r3, r4⟩ := reps0 r2
      cases r1
      cases r3
      cases r4
      by_cases hb : (small i && small j) = true
      · rw [if_pos hb] at hr
        cases hr
        obtain ⟨hb1, hb2⟩ := and_t hb
        have h3 := small_iff hb1
        have h4 := small_iff hb2
        rw [turns_one] at p
        exact ⟨i, j, rfl, ⟨by omega, by omega, by omega, by omega⟩, p _ itOk_rng⟩
      · rw [if_neg hb] at hr; cases hr
    · cases hn
    · cases hr
  | [a, b, d], _, pa, hpl, step =>
    obtain ⟨h1, h2⟩ := and_t (show (plainB a && [b, d].all plainB) = true from hpl)
    refine ⟨_, pi_range3 (gl_of h hg) (h.tok.free _ hfr) pa (plain_star h1 _ X.env) (starEach_any q2 X.env h2), step _ _ (fun _ _ _ => rfl) fun ρ M H ds vs xs Q hn rv hr p => ?_⟩
    unfold rngD at hr
    split at hr
    · cases hn
    · cases hn
    · rename_i i j s
      obtain ⟨v, r, rfl, r1, r2⟩ := reps0 rv
      obtain ⟨v, r, rfl, r3, r4⟩ := reps0 r2
      obtain ⟨v, r, rfl, r5, r6⟩ := reps0 r4
      cases r1
      cases r3
      cases r5
      cases r6
      by_cases hb : (small i && small j && decide (0 < s) && small s) = true
      · rw [if_pos hb] at hr
        cases hr
        obtain ⟨hb1, hb4⟩ := and_t hb
        obtain ⟨hb1, hb3⟩ := and_t hb1
        obtain ⟨hb1, hb2⟩ := and_t hb1
        exact ⟨i, j, s, _, rfl, rgC_of hb1 hb2 (of_decide_eq_true hb3) hb4, p _ itOk_rngC⟩
      · rw [if_neg hb] at hr; cases hr
    · cases hr
  | [], hl, _, _, _ => exact absurd hl.1 (by decide)
  | _ :: _ :: _ :: _ :: _, hl, _, _, _ => exact absurd hl.2 (by simp)
theorem enumT_get (xs : List D) : ∀ (k i : Nat), (enumT k xs)[i]? = (xs[i]?).map fun d => D.tup [.int ((k + i : Nat) : Int), d] := by
  induction xs with
  | nil => intro k i; simp [enumT]
  | cons x xs ih =>
    intro k i
    cases i with
    | zero => simp [enumT]
    | succ i =>
      show (enumT (k + 1) xs)[i]? = _
      rw [ih]
      have : k + 1 + i = k + (i + 1) := by omega
      rw [this]
      simp
theorem zipT_get (xs : List D) : ∀ (ys : List D) (i : Nat), (zipT xs ys)[i]? = match xs[i]?, ys[i]? with | some a, some b => some (D.tup [a, b]) | _, _ => none := by
  induction xs with
  | nil => intro ys i; simp [zipT]
  | cons x xs ih =>
    intro ys i
    cases ys with
    | nil => cases i <;> simp [zipT]
    | cons y ys =>
      cases i with
      | zero => simp [zipT]
      | succ i =>
        show (zipT xs ys)[i]? = _
        rw [ih]
        simp
theorem pair_laid {ρ : List Addr} {M : MH} {H : Hp} {p : Addr} {d1 d2 : D} {x y : V} (rh : RepH G ρ M H) (hp : H p = none) (r1 : Rep G ρ H d1 x) (r2 : Rep G ρ H d2 y) :
    Le G ρ H ρ (upd H p (.tup [x, y])) ∧ RepH G ρ M (upd H p (.tup [x, y])) ∧ Rep G ρ (upd H p (.tup [x, y])) (.tup [d1, d2]) (.ref p) := by
  have L : Le G ρ H ρ (upd H p (.tup [x, y])) := Le.laid hp
  exact ⟨L, rh.laid hp, Rep.tup_iff.mpr ⟨p, [x, y], rfl, .of upd_same, .cons (Rep.mono L _ _ r1) (.cons (Rep.mono L _ _ r2) .nil)⟩⟩
theorem snd_enumI (h : Here X T G c sc N W k) {a : ME} {x : Expr} {q1 q2 tp : Pos} {elts : List Expr} {kk : Nat} (hg : glB sc ("enumerate" : PySem.Str) = true) (hfr : T.free ("enumerate" : PySem.Str) = true) (ha : SndE X G c W a x) (hp : plainB x = true) :
    SndI X G c W (.enum a) (.Tuple elts kk tp) (.Call (.Name ("enumerate" : PySem.Str) q1) [x] [] q2) := by
  obtain ⟨ta, pa, ga⟩ := ha.1
  have es := plain_star hp [] X.env
  refine ⟨_, pi_enum (gl_of h hg) (h.tok.free _ hfr) (pa_cons pa pa_nil es) es, fun ρ M H σd σ Q rh rs p => ?_⟩
  change PostI G ρ H ((ev c a σd M).bind fun x M => R.ofOpt ((itemsL M x).map fun xs => walkD (enumT 0 xs) (lockOf x)) M) Q _ at p
  refine ga.go rh rs (fun d M' e1 v ρ' H' l rh' rs' rv => ?_) (fun j M' e1 => ?_) fun e1 => ?_
  · rw [e1] at p
    change PostI G ρ H (R.ofOpt ((itemsL M' d).map fun xs => walkD (enumT 0 xs) (lockOf d)) M') Q _ at p
    cases hw : itemsL M' d with
    | none => rw [hw] at p; exact p.elim
    | some xs =>
      rw [hw] at p
      obtain ⟨ys, ls, e2, p⟩ := p
      unfold walkD at e2
      cases e2
      have hi : items M' d = some xs ∧ ∀ ys, d ≠ .tup ys := by
        cases d with
        | lst ys => exact ⟨hw, fun _ z => nomatch z⟩
        | obj n => exact ⟨hw, fun _ z => nomatch z⟩
        | _ => cases hw
      obtain ⟨b, rfl, _, b2⟩ := items_stay rh' rv hi.1
      have st := b2 hi.2
      obtain ⟨vs, q, _⟩ := st G.hid ρ' M' H' Le.refl.w rh' (fun _ _ _ => rfl)
      refine ⟨b, vs, rfl, .of q, p _ ρ' H' l rh' ?_⟩
      rw [locks_walk, h.K]
      intro hid ρ2 M2 H2 le rh2 hl i
      obtain ⟨ws, w1, wg⟩ := st hid ρ2 M2 H2 le rh2 hl
      refine ⟨fun d hd => ?_, fun hn => ?_⟩
      · rw [enumT_get] at hd
        obtain ⟨d', e3, rfl⟩ := mapSome hd
        obtain ⟨u, hu, ru⟩ := pd_get wg e3
        refine ⟨⟨ws, u, .of w1, hu⟩, fun y H3 yl => ?_⟩
        obtain ⟨p', u', rfl, hp', rfl, yl⟩ := yl
        have e4 := yl ws (.of w1)
        rw [hu] at e4
        cases e4
        obtain ⟨z1, z2, z3⟩ := pair_laid (d1 := .int ((0 + i : Nat) : Int)) rh2 hp' (by rw [Nat.zero_add]; rfl) ru
        exact ⟨z1.unhide, z2, z3⟩
      · rw [enumT_get] at hn
        refine ⟨ws, .of w1, ?_⟩
        rw [← pd_length wg]
        refine List.getElem?_eq_none_iff.mp ?_
        cases e5 : xs[i]? with
        | none => rfl
        | some _ => rw [e5] at hn; cases hn
  · rw [e1] at p; exact p
  · rw [e1] at p; exact p
theorem snd_zipI (h : Here X T G c sc N W k) {a b : ME} {x y : Expr} {q1 q2 tp : Pos} {elts : List Expr} {kk : Nat} (hg : glB sc ("zip" : PySem.Str) = true) (hfr : T.free ("zip" : PySem.Str) = true) (ha : SndE X G c W a x) (hb : SndE X G c W b y) (hp : plainB x = true) (hp2 : plainB y = true) :
    SndI X G c W (.zip a b) (.Tuple elts kk tp) (.Call (.Name ("zip" : PySem.Str) q1) [x, y] [] q2) := by
  obtain ⟨ta, pa, ga⟩ := ha.1
  obtain ⟨tb, pb, gb⟩ := hb.1
  have es2 := plain_star hp2 [] X.env
  have es := plain_star hp [y] X.env
  refine ⟨_, RZ.pi_zipA (gl_of h hg) (h.tok.free _ hfr) (pa_cons pa (pa_cons pb pa_nil es2) es) es (starEach_any q2 X.env (show [y].all plainB = true by simp [hp2])), fun ρ M H σd σ Q rh rs p => ?_⟩
  change PostI G ρ H ((ev c a σd M).bind fun x M => (ev c b σd M).bind fun y M => R.ofOpt (zipW M x y) M) Q _ at p
  refine ga.go rh rs (fun d M' e1 v ρ' H' l rh' rs' rv => ?_) (fun j M' e1 => ?_) fun e1 => ?_
  · rw [e1] at p
    change PostI G ρ H ((ev c b σd M').bind fun y M => R.ofOpt (zipW M d y) M) Q _ at p
    refine gb.go rh' rs' (fun d2 M2 e2 v2 ρ2 H2 l2 rh2 rs2 rv2 => ?_) (fun j M2 e2 => ?_) fun e2 => ?_
    · rw [e2] at p
      change PostI G ρ H (R.ofOpt (zipW M2 d d2) M2) Q _ at p
      have rv1 := Rep.mono l2 _ _ rv
      have isl : ∀ {d : D} {xs : List D}, itemsL M2 d = some xs → items M2 d = some xs ∧ ∀ ys, d ≠ .tup ys := fun {d xs} hw => by
        cases d with
        | lst ys => exact ⟨hw, fun _ z => nomatch z⟩
        | obj n => exact ⟨hw, fun _ z => nomatch z⟩
        | _ => cases hw
      unfold zipW at p
      split at p
      · rename_i xs ys hx hy
        obtain ⟨us, ls, e3, p⟩ := p
        unfold walkD at e3
        cases e3
        obtain ⟨ba, rfl, _, st1⟩ := items_stay rh2 rv1 (isl hx).1
        obtain ⟨bb, rfl, _, st2⟩ := items_stay rh2 rv2 (isl hy).1
        have st1 := st1 (isl hx).2
        have st2 := st2 (isl hy).2
        obtain ⟨vs, q, _⟩ := st1 G.hid ρ2 M2 H2 Le.refl.w rh2 (fun _ _ _ => rfl)
        obtain ⟨ws, q2, _⟩ := st2 G.hid ρ2 M2 H2 Le.refl.w rh2 (fun _ _ _ => rfl)
        refine ⟨ba, bb, vs, ws, rfl, .inl ⟨.of q, .of q2, p _ ρ2 H2 (l.trans l2) rh2 ?_⟩⟩
        rw [locks_walk, h.K]
        intro hid ρ3 M3 H3 le rh3 hl i
        obtain ⟨vs, w1, wg⟩ := st1 hid ρ3 M3 H3 le rh3 fun n hn => hl n (List.mem_append_left _ hn)
        obtain ⟨ws, w2, wg2⟩ := st2 hid ρ3 M3 H3 le rh3 fun n hn => hl n (List.mem_append_right _ hn)
        rw [zipT_get]
        refine ⟨fun d hd => ?_, fun hn => ?_⟩
        · split at hd
          · rename_i da db h1 h2
            cases hd
            obtain ⟨u, hu, ru⟩ := pd_get wg h1
            obtain ⟨u2, hu2, ru2⟩ := pd_get wg2 h2
            refine ⟨⟨vs, ws, u, u2, .of w1, .of w2, hu, hu2⟩, fun y H4 yl => ?_⟩
            obtain ⟨p', x', y', rfl, hp', rfl, yl1, yl2⟩ := yl
            have e4 := yl1 vs (.of w1)
            have e5 := yl2 ws (.of w2)
            rw [hu] at e4
            rw [hu2] at e5
            cases e4
            cases e5
            obtain ⟨z1, z2, z3⟩ := pair_laid rh3 hp' ru ru2
            exact ⟨z1.unhide, z2, z3⟩
          · cases hd
        · refine ⟨vs, ws, .of w1, .of w2, ?_⟩
          rw [← pd_length wg, ← pd_length wg2]
          split at hn
          · cases hn
          · rename_i hne
            by_cases hx : xs.length ≤ i
            · exact .inl hx
            · by_cases hy : ys.length ≤ i
              · exact .inr hy
              · exact absurd (List.getElem?_eq_getElem (by omega)) (fun z => hne _ _ z (List.getElem?_eq_getElem (by omega)))
      · split at p
        · rename_i xs ys hx hy
          obtain ⟨us, ls, e3, p⟩ := p
          unfold walkD at e3
          cases e3
          have d1 : d = .tup xs := by cases d <;> first | cases hx; rfl | cases hx
          have d3 : d2 = .tup ys := by cases d2 <;> first | cases hy; rfl | cases hy
          subst d1 d3
          obtain ⟨ba, rfl, st1, _⟩ := items_stay rh2 rv1 (show items M2 (.tup xs) = some xs from rfl)
          obtain ⟨bb, rfl, st2, _⟩ := items_stay rh2 rv2 (show items M2 (.tup ys) = some ys from rfl)
          have st1 := st1 xs rfl
          have st2 := st2 ys rfl
          obtain ⟨vs, q, _⟩ := st1 G.hid ρ2 M2 H2 Le.refl.w rh2 (fun _ _ _ => rfl)
          obtain ⟨ws, q2, _⟩ := st2 G.hid ρ2 M2 H2 Le.refl.w rh2 (fun _ _ _ => rfl)
          rw [← h.K] at q q2
          refine ⟨ba, bb, vs, ws, rfl, .inr ⟨q, q2, p _ ρ2 H2 (l.trans l2) rh2 ?_⟩⟩
          rw [h.K]
          intro hid ρ3 M3 H3 le rh3 hl i
          obtain ⟨vs, w1, wg⟩ := st1 hid ρ3 M3 H3 le rh3 fun n hn => nomatch hn
          obtain ⟨ws, w2, wg2⟩ := st2 hid ρ3 M3 H3 le rh3 fun n hn => nomatch hn
          rw [zipT_get]
          refine ⟨fun d hd => ?_, fun hn => ?_⟩
          · split at hd
            · rename_i da db h1 h2
              cases hd
              obtain ⟨u, hu, ru⟩ := pd_get wg h1
              obtain ⟨u2, hu2, ru2⟩ := pd_get wg2 h2
              refine ⟨⟨vs, ws, u, u2, w1, w2, hu, hu2⟩, fun y H4 yl => ?_⟩
              obtain ⟨p', x', y', rfl, hp', rfl, yl1, yl2⟩ := yl
              have e4 := yl1 vs w1
              have e5 := yl2 ws w2
              rw [hu] at e4
              rw [hu2] at e5
              cases e4
              cases e5
              obtain ⟨z1, z2, z3⟩ := pair_laid rh3 hp' ru ru2
              exact ⟨z1.unhide, z2, z3⟩
            · cases hd
          · refine ⟨vs, ws, w1, w2, ?_⟩
            rw [← pd_length wg, ← pd_length wg2]
            split at hn
            · cases hn
            · rename_i hne
              by_cases hx : xs.length ≤ i
              · exact .inl hx
              · by_cases hy : ys.length ≤ i
                · exact .inr hy
                · exact absurd (List.getElem?_eq_getElem (by omega)) (fun z => hne _ _ z (List.getElem?_eq_getElem (by omega)))
        · exact p.elim
    · rw [e2] at p; exact fun ρ3 H3 l3 => p ρ3 H3 (l.trans l3)
    · rw [e2] at p; exact p
  · rw [e1] at p; exact p
  · rw [e1] at p; exact p
end
end MiniS
set_option autoImplicit false
set_option maxRecDepth 100000
set_option maxHeartbeats 4000000
namespace MiniS
open PySem PySem.Spec PyProof.Rows L2 Mini
theorem wipe_get (σ : L2.St) : ∀ (vs : List Nat) (j : Nat), (L2.wipe σ vs)[j]? = if j ∈ vs ∧ j < σ.length then some none else σ[j]?
  | [], j => by simp [L2.wipe]
  | v :: vs, j => by
    show ((L2.wipe σ vs).set v none)[j]? = _
    have ih := wipe_get σ vs j
    by_cases hv : v = j
    · subst hv
      by_cases hl : v < σ.length
      · rw [List.getElem?_set_self (by rw [wipe_length]; exact hl), if_pos ⟨List.mem_cons_self, hl⟩]
      · rw [List.getElem?_eq_none (by rw [List.length_set, wipe_length]; omega), if_neg (fun z => hl z.2), List.getElem?_eq_none (by omega)]
    · rw [List.getElem?_set_ne hv, ih]
      by_cases hm : j ∈ vs ∧ j < σ.length
      · rw [if_pos hm, if_pos ⟨List.mem_cons_of_mem _ hm.1, hm.2⟩]
      · rw [if_neg hm, if_neg (fun z => hm ⟨(List.mem_cons.mp z.1).elim (fun e => absurd e.symm hv) id, z.2⟩)]
theorem wipe_wipe (σ : L2.St) (vs : List Nat) : L2.wipe (L2.wipe σ vs) vs = L2.wipe σ vs := by
  apply List.ext_getElem?
  intro j
  rw [wipe_get, wipe_length]
  by_cases hm : j ∈ vs ∧ j < σ.length
  · rw [if_pos hm, wipe_get, if_pos hm]
  · rw [if_neg hm]
theorem wipe_set {σ : L2.St} {vs : List Nat} {i : Nat} {v : Option V} (h : i ∈ vs) : L2.wipe (σ.set i v) vs = L2.wipe σ vs := by
  apply List.ext_getElem?
  intro j
  rw [wipe_get, wipe_get, List.length_set]
  by_cases hm : j ∈ vs ∧ j < σ.length
  · rw [if_pos hm, if_pos hm]
  · rw [if_neg hm, if_neg hm]
    by_cases hij : i = j
    · subst hij
      have hl : σ.length ≤ i := Nat.le_of_not_lt fun z => hm ⟨h, z⟩
      rw [List.getElem?_eq_none (by rw [List.length_set]; exact hl), List.getElem?_eq_none hl]
    · rw [List.getElem?_set_ne hij]
section
variable {X : Cx} {T : Tab} {G : Gi} {c : Mini.Ctx} {sc : Scope} {N : List PySem.Str} {W : WX} {k : Nat} {e tg : Expr}
def GoodG (G : Gi) (t : Tg) (g : TG) : Prop := ∀ (hid : List Addr) (ρ : List Addr) (H : Hp) (σd : Sl) (σ : L2.St) (d : D) (v : V) (σd' : Sl) (Q : L2.St → Hp → Prop), RepS (G.hide hid) ρ H σd σ → Rep (G.hide hid) ρ H d v → t.asg d σd = some σd' →
  (∀ σ', RepS (G.hide hid) ρ H σd' σ' → (∀ vs, (∀ i ∈ tgSlots t, i ∈ vs) → L2.wipe σ' vs = L2.wipe σ vs) → Q σ' H) → g v σ H Q
def LocOk (X : Cx) (sc : Scope) : Prop := ∀ x, locB sc x = true → Loc X.env.scope x ∧ (X.fn x = true ∨ X.env.scope.names.lookup x = some .local)
theorem snd_names (hN : X.N = N) (hnd : X.N.Nodup) (hl : LocOk X sc) : ∀ (is : List Nat) (es : List Expr), namesB N sc is es = true → (assignEach es X.env).length = is.length ∧ (assignEach es X.env).findIdx? (·.1) = none ∧
    ∃ t : TGs, PGs X es t ∧ ∀ (hid : List Addr) (ρ : List Addr) (H : Hp) (σd : Sl) (σ : L2.St) (ds : List D) (vs : List V) (σd' : Sl) (Q : L2.St → Hp → Prop), RepS (G.hide hid) ρ H σd σ → Reps (G.hide hid) ρ H ds vs → asgs is ds σd = some σd' →
      (∀ σ', RepS (G.hide hid) ρ H σd' σ' → (∀ ws, (∀ i ∈ is, i ∈ ws) → L2.wipe σ' ws = L2.wipe σ ws) → Q σ' H) → t vs σ H Q
  | [], [], _ => ⟨rfl, rfl, _, pgs_nil, fun hid ρ H σd σ ds vs σd' Q rs rv ha h => by
    cases ds with
    | nil =>
      cases rv
      cases ha
      exact ⟨rfl, h σ rs fun _ _ => rfl⟩
    | cons _ _ => cases ha⟩
  | i :: is, .Name x p :: es, hm => by
    obtain ⟨hm, h3⟩ := and_t (show (decide (N[i]? = some x) && locB sc x && namesB N sc is es) = true from hm)
    obtain ⟨h1, h2⟩ := and_t hm
    obtain ⟨l1, l2, t, pt, gt⟩ := snd_names hN hnd hl is es h3
    obtain ⟨lx, fx⟩ := hl x h2
    refine ⟨by show (assignEach es X.env).length + 1 = is.length + 1; rw [l1], ?_, _, pgs_cons (pg_name hnd (by rw [hN]; exact of_decide_eq_true h1) lx fx) pt rfl, fun hid ρ H σd σ ds vs σd' Q rs rv ha h => ?_⟩
    · show ((false, assign (.Name x p) X.env) :: assignEach es X.env).findIdx? (·.1) = none
      rw [List.findIdx?_cons, l2]
      rfl
    · cases ds with
      | nil => cases ha
      | cons d ds =>
        cases rv with
        | cons r1 r2 =>
          have ha : (if i < σd.length then asgs is ds (σd.set i (some d)) else none) = some σd' := ha
          split at ha
          · refine ⟨_, _, rfl, gt hid ρ H _ _ ds _ σd' Q (rs.set r1) r2 ha fun σ' rs' hw => h σ' rs' fun ws hws => ?_⟩
            rw [hw ws fun j hj => hws j (List.mem_cons_of_mem _ hj), wipe_set (hws i List.mem_cons_self)]
          · cases ha
  | [], _ :: _, hm => by cases hm
  | _ :: _, [], hm => by cases hm
  | i :: is, e :: es, hm => by
    cases e with
    | Name x p =>
      obtain ⟨hm, h3⟩ := and_t (show (decide (N[i]? = some x) && locB sc x && namesB N sc is es) = true from hm)
      obtain ⟨h1, h2⟩ := and_t hm
      obtain ⟨l1, l2, t, pt, gt⟩ := snd_names hN hnd hl is es h3
      obtain ⟨lx, fx⟩ := hl x h2
      refine ⟨by show (assignEach es X.env).length + 1 = is.length + 1; rw [l1], ?_, _, pgs_cons (pg_name hnd (by rw [hN]; exact of_decide_eq_true h1) lx fx) pt rfl, fun hid ρ H σd σ ds vs σd' Q rs rv ha h => ?_⟩
      · show ((false, assign (.Name x p) X.env) :: assignEach es X.env).findIdx? (·.1) = none
        rw [List.findIdx?_cons, l2]
        rfl
      · cases ds with
        | nil => cases ha
        | cons d ds =>
          cases rv with
          | cons r1 r2 =>
            have ha : (if i < σd.length then asgs is ds (σd.set i (some d)) else none) = some σd' := ha
            split at ha
            · refine ⟨_, _, rfl, gt hid ρ H _ _ ds _ σd' Q (rs.set r1) r2 ha fun σ' rs' hw => h σ' rs' fun ws hws => ?_⟩
              rw [hw ws fun j hj => hws j (List.mem_cons_of_mem _ hj), wipe_set (hws i List.mem_cons_self)]
            · cases ha
    | _ => cases hm
theorem snd_tg (hN : X.N = N) (hnd : X.N.Nodup) (hc : X.calm = true) (hK : X.K = G.K) (hl : LocOk X sc) {t : Tg} (hm : mT N sc t e = true) : ∃ g, PG X e g ∧ GoodG G t g := by
  unfold mT at hm
  split at hm
  · rename_i i x p
    obtain ⟨h1, h2⟩ := and_t hm
    obtain ⟨lx, fx⟩ := hl x h2
    refine ⟨_, pg_name hnd (by rw [hN]; exact of_decide_eq_true h1) lx fx, fun hid ρ H σd σ d v σd' Q rs rv ha h => ?_⟩
    have ha : (if i < σd.length then some (σd.set i (some d)) else none) = some σd' := ha
    split at ha
    · cases ha
      exact h _ (rs.set rv) fun vs hv => wipe_set (hv i (by simp [tgSlots]))
    · cases ha
  · rename_i is es kk p
    obtain ⟨l1, l2, t, pt, gt⟩ := snd_names (G := G) hN hnd hl is es hm
    refine ⟨_, pg_tup hc pt l1 l2, fun hid ρ H σd σ d v σd' Q rs rv ha h => ?_⟩
    cases d with
    | tup ds =>
      obtain ⟨a, vs, rfl, q, g⟩ := Rep.tup_iff.mp rv
      have ha : asgs is ds σd = some σd' := ha
      have hlen : ∀ (is : List Nat) (ds : List D) (σd : Sl), asgs is ds σd = some σd' → ds.length = is.length := by
        intro is
        induction is with
        | nil => intro ds σd ha; cases ds with | nil => rfl | cons _ _ => cases ha
        | cons i is ih =>
          intro ds σd ha
          cases ds with
          | nil => cases ha
          | cons d ds =>
            have ha : (if i < σd.length then asgs is ds (σd.set i (some d)) else none) = some σd' := ha
            split at ha
            · rw [List.length_cons, List.length_cons, ih ds _ ha]
            · cases ha
      refine ⟨a, vs, rfl, by rw [hK]; exact q, by rw [← pd_length g, hlen is ds σd ha], gt hid ρ H σd σ ds vs σd' Q rs g ha h⟩
    | _ => cases ha
  · cases hm
theorem GoodI.go {me : ME} {t : TI} (g : GoodI G c W me t) {ρ : List Addr} {M : MH} {H : Hp} {σd : Sl} {σ : L2.St} {Q' : It → Hp → Prop} (rh : RepH G ρ M H) (rs : RepS G ρ H σd σ)
    (h0 : ∀ d M', ev c me σd M = .ok d M' → ∃ xs ls, d = .dct xs ls ∧ ∀ J ρ' H', Le G ρ H ρ' H' → RepH G ρ' M' H' → RepS G ρ' H' σd σ → ItOk G ρ' M' H' J xs (locks ls) → Q' J H')
    (h1 : ∀ j M', ev c me σd M = .exc j M' → ∀ ρ' H', Le G ρ H ρ' H' → RepH G ρ' M' H' → W (.ref (G.ca j)) none σ H') (h2 : ev c me σd M ≠ .stuck) : t σ H Q' := by
  refine g ρ M H σd σ Q' rh rs ?_
  cases e : ev c me σd M with
  | ok d M' =>
    obtain ⟨xs, ls, e1, q⟩ := h0 d M' e
    exact ⟨xs, ls, e1, fun J ρ' H' l rh' ok => q J ρ' H' l rh' (rs.mono l) ok⟩
  | exc j M' => exact h1 j M' e
  | stuck => exact absurd e h2
theorem RepS.monoW {G' : Gi} {ρ ρ' : List Addr} {H H' : Hp} {σd : Sl} {σ : L2.St} (l : LeW G G' ρ H ρ' H') (h : RepS G ρ H σd σ) : RepS G' ρ' H' σd σ := ⟨h.1, fun i d e => let ⟨v, h1, h2⟩ := h.2 i d e; ⟨v, h1, Rep.monoW l d v h2⟩⟩
theorem RepO.monoW {G' : Gi} {ρ ρ' : List Addr} {H H' : Hp} (l : LeW G G' ρ H ρ' H') {a : Addr} {mo : MO} (h : RepO G ρ H a mo) (ha : H' a = H a) : RepO G' ρ' H' a mo := by
  cases mo with
  | lst xs =>
    obtain ⟨vs, h1, h2⟩ := h
    exact ⟨vs, ha.trans h1, Reps.monoW l h2⟩
  | dct ks vs => exact h
  | ins c fs => exact h
theorem RepH.start {ρ : List Addr} {M : MH} {H : Hp} {p : Addr} {o : HO} (rh : RepH G ρ M H) (hp : H p = none) : RepH (G.hide (p :: G.hid)) ρ M (upd H p o) := by
  have L : LeW G (G.hide (p :: G.hid)) ρ H ρ (upd H p o) := (Le.laid hp).toW fun a ha => (List.mem_cons.mp ha).elim (fun z => .inr (by rw [z]; exact hp)) .inl
  refine ⟨rh.len, rh.nd, fun n a mo h1 h2 => (rh.ob n a mo h1 h2).monoW L ?_, fun a ha => ?_⟩
  · obtain ⟨vs, e⟩ := (rh.ob n a mo h1 h2).there
    rw [upd_ne (fun z => by rw [z, hp] at e; cases e)]
  · rcases List.mem_cons.mp ha with rfl | ha
    · exact ⟨not_mem_of_none rh hp, by rw [upd_same]; exact fun z => nomatch z⟩
    · exact ⟨(rh.hid a ha).1, fun z => (rh.hid a ha).2 (upd_dom z)⟩
theorem LeW.put {hid : List Addr} {ρ : List Addr} {H : Hp} {p : Addr} {vs : List V} {o : HO} (hp : H p = some (.lst vs)) (hh : p ∈ hid) : LeW (G.hide hid) (G.hide hid) ρ H ρ (upd H p o) :=
  ⟨rfl, rfl, rfl, fun a vs h => SqT.upd h ⟨fun xs z => (by rw [hp] at z; cases z), fun _ _ z => (by rw [hp] at z; cases z)⟩,
    fun a vs h1 h2 h3 => ⟨by rw [upd_ne (fun z => h3 (by rw [z]; exact hh))]; exact h1, h2, h3⟩, fun a o u h => by rw [upd_ne (ne_of h hp (fun z => nomatch z))]; exact h, fun _ _ h => h⟩
theorem RepH.put {hid : List Addr} {ρ : List Addr} {M : MH} {H : Hp} {p : Addr} {vs : List V} {o : HO} (rh : RepH (G.hide hid) ρ M H) (hp : H p = some (.lst vs)) (hh : p ∈ hid) : RepH (G.hide hid) ρ M (upd H p o) := by
  refine ⟨rh.len, rh.nd, fun n a mo h1 h2 => (rh.ob n a mo h1 h2).monoW (LeW.put hp hh) ?_, fun a ha => ⟨(rh.hid a ha).1, fun z => (rh.hid a ha).2 (upd_dom z)⟩⟩
  rw [upd_ne (fun z => (rh.hid p hh).1 (by rw [← z]; exact List.mem_of_getElem? h1))]
theorem Le.over {ρ ρ' : List Addr} {H H' : Hp} {p : Addr} {o : HO} (l : Le G ρ H ρ' H') (hp : H p = none) (hq : ∀ a o u, H' a = some (.frz o u) → a ≠ p) (ht : ∀ a vs, SqT G.K H' a vs → SqT G.K (upd H' p o) a vs) : Le G ρ H ρ' (upd H' p o) where
  tup := fun a vs h => ht a vs (l.tup a vs h)
  lst := fun a vs h n => ⟨by rw [upd_ne (ne_of_none h hp)]; exact (l.lst a vs h n).1, (l.lst a vs h n).2⟩
  frz := fun a o u h => by rw [upd_ne (ne_of_none h hp)]; exact l.frz a o u h
  pre := l.pre
  dom := fun a h => l.dom a (upd_dom h)
theorem LeW.show {hid : List Addr} {ρ : List Addr} {H : Hp} (h : ∀ a ∈ G.hid, a ∈ hid) : LeW (G.hide hid) G ρ H ρ H :=
  ⟨rfl, rfl, rfl, fun _ _ h => h, fun a vs h1 h2 h3 => ⟨h1, h2, fun z => h3 (h a z)⟩, fun _ _ _ h => h, fun _ _ h => h⟩
theorem RepH.show {hid : List Addr} {ρ : List Addr} {M : MH} {H : Hp} (rh : RepH (G.hide hid) ρ M H) (h : ∀ a ∈ G.hid, a ∈ hid) : RepH G ρ M H :=
  ⟨rh.len, rh.nd, fun n a mo h1 h2 => (rh.ob n a mo h1 h2).monoW (LeW.show h) rfl, fun a ha => rh.hid a (h a ha)⟩
theorem RepH.keep {hid : List Addr} {ρ : List Addr} {M : MH} {H : Hp} {p : Addr} {xs : List D} {vs : List V} (rh : RepH (G.hide hid) ρ M H) (h : ∀ a ∈ G.hid, a ∈ hid) (hh : p ∈ hid) (hg : p ∉ G.hid) (hp : H p = some (.lst vs)) (g : Reps (G.hide hid) ρ H xs vs) :
    RepH G (ρ ++ [p]) (M ++ [.lst xs]) H := by
  have hn : p ∉ ρ := (rh.hid p hh).1
  have L : LeW (G.hide hid) G ρ H (ρ ++ [p]) H := ⟨rfl, rfl, rfl, fun _ _ h => h, fun a vs h1 h2 h3 => ⟨h1, fun z => (List.mem_append.mp z).elim h2 (fun z => h3 (by rw [show a = p by simpa using z]; exact hh)), fun z => h3 (h a z)⟩, fun _ _ _ h => h,
    fun n a h => by rw [List.getElem?_append_left (List.getElem?_eq_some_iff.mp h).1]; exact h⟩
  refine ⟨by simp [rh.len], ?_, fun n a mo h1 h2 => ?_, fun a ha => ⟨fun z => ?_, (rh.hid a (h a ha)).2⟩⟩
  · rw [List.nodup_append]
    refine ⟨rh.nd, by simp, fun a ha b hb e => ?_⟩
    have : b = p := by simpa using hb
    exact hn (by rw [← this, ← e]; exact ha)
  · by_cases hl : n < M.length
    · rw [List.getElem?_append_left hl] at h2
      rw [List.getElem?_append_left (by rw [rh.len]; exact hl)] at h1
      exact (rh.ob n a mo h1 h2).monoW L rfl
    · rw [List.getElem?_append_right (by rw [rh.len]; omega)] at h1
      rw [List.getElem?_append_right (by omega)] at h2
      have e0 : n - M.length = 0 := by
        cases q : n - M.length with
        | zero => rfl
        | succ k => rw [q] at h2; simp at h2
      rw [rh.len, e0] at h1
      rw [e0] at h2
      simp at h1 h2
      subst h1; subst h2
      exact ⟨vs, hp, Reps.monoW L g⟩
  · rcases List.mem_append.mp z with z | z
    · exact (rh.hid a (h a ha)).1 z
    · exact hg (by rw [← show a = p by simpa using z]; exact ha)
def W0 : WX := fun _ _ _ _ => False
def tSem (G : Gi) (c : Mini.Ctx) (me : ME) : TE := fun σ H Q => ∃ (hid : List Addr) (l : List Nat) (ρ : List Addr) (M : MH) (σd : Sl), RepH (G.hide hid) ρ M H ∧ RepS (G.hide hid) ρ H σd σ ∧ PostE (G.hide hid) ρ H (ev (c.lock l) me σd M) Q (fun _ _ => False)
def tSemT (G : Gi) (c : Mini.Ctx) (me : ME) : TT := fun σ H Q => ∃ (hid : List Addr) (l : List Nat) (ρ : List Addr) (M : MH) (σd : Sl), RepH (G.hide hid) ρ M H ∧ RepS (G.hide hid) ρ H σd σ ∧ PostT (G.hide hid) ρ H (ev (c.lock l) me σd M) Q (fun _ _ => False)
theorem pe_sem {me : ME} (h : ∀ hid l, SndE X (G.hide hid) (c.lock l) W0 me e) : PE X e (tSem G c me) := ⟨fun pins s σ H Q I hw => by
  obtain ⟨hid, l, ρ, M, σd, rh, rs, p⟩ := hw
  obtain ⟨t, pe, g⟩ := (h hid l).1
  exact pe.run pins s σ H Q I (g ρ M H σd σ Q rh rs p)⟩
theorem pt_sem {me : ME} (h : ∀ hid l, SndE X (G.hide hid) (c.lock l) W0 me e) : PT X e (tSemT G c me) := ⟨fun pins s σ H Q I hw => by
  obtain ⟨hid, l, ρ, M, σd, rh, rs, p⟩ := hw
  obtain ⟨t, pe, g⟩ := (h hid l).2
  exact pe.run pins s σ H Q I (g ρ M H σd σ Q rh rs p)⟩
def compF (c : Mini.Ctx) (elt cond : ME) (t : Tg) (σ0 : Sl) (l : List Nat) (x : D) (M : MH) : R (Option D) :=
  (R.ofOpt (t.asg x σ0) M).bind fun σ' M =>
    (calmR (if isNil cond then .ok (.bl true) M else ev (c.lock l) cond σ' M)).bind fun b M =>
      boolD b ((calmR (ev (c.lock l) elt σ' M)).bind fun d M => .ok (some d) M) (.ok none M)
theorem compL_len {f : D → MH → R (Option D)} : ∀ (xs acc : List D) (M : MH), (∃ r M', compL f xs acc M = .ok r M' ∧ acc.length ≤ r.length) ∨ compL f xs acc M = .stuck
  | [], acc, M => .inl ⟨acc, M, rfl, Nat.le_refl _⟩
  | x :: xs, acc, M => by
    unfold compL
    split
    · rename_i d M' h
      rcases compL_len xs (acc ++ [d]) M' with ⟨r, M2, e1, e2⟩ | e1
      · exact .inl ⟨r, M2, e1, by rw [List.length_append] at e2; simp at e2; omega⟩
      · exact .inr e1
    · exact compL_len xs acc _
    · exact .inr rfl
theorem mle_lock {me : ME} {σd : Sl} {M M' : MH} {d : D} {l : List Nat} (hc : CallOk c.call) (h : ev (c.lock l) me σd M = .ok d M') : (M.length ≤ M'.length) ∧ ∀ n ∈ l, n < M.length → M'[n]? = M[n]? := by
  have z := mr_ev me (c.lock l) hc σd M
  rw [h] at z
  exact ⟨z.len, fun n hn hl => z.lock n (List.mem_append_left _ hn) hl⟩
def SndC (X : Cx) (G : Gi) (c : Mini.Ctx) (W : WX) (me : ME) (e : Expr) : Prop := ∃ t, PE X e t ∧ (∀ (i : Nat) (y : PySem.Str) (py spos : Pos), X.N[i]? = some y → X.env.scope.names.lookup y = some .local → swapsWith e (some (.Name y py)) spos.line X.env = pure true → PS X (.Assign [.Name y py] e spos) (tAsg t (gName i))) ∧ ∀ m, GoodM m G c W me t
theorem SndC.n {me : ME} (h : SndC X G c W me e) : SndN X G c W me e := let ⟨t, p, _, g⟩ := h; ⟨t, p, g⟩
theorem snd_compC (h : Here X T G c sc N W k) {elt cond it : ME} {t : Tg} {own : List Nat} {x iter : Expr} {co : Option Expr} {scope : Scope} {q : Pos} (hi : SndI X G c W it tg iter) (hf : ∀ v, foldedSetIterable iter X.env v = pure v)
    (ok : blkC N sc scope (ownB N own) = true) (ht : mT N scope t tg = true) (hs : ∀ i ∈ tgSlots t, i ∈ own) (hco : (co = none ∧ isNil cond = true) ∨ (∃ z, co = some z ∧ isNil cond = false ∧ ∀ (X' : Cx) (hid : List Addr) (l : List Nat), Here X' T (G.hide hid) (c.lock l) (relS scope sc) N W0 k → SndE X' (G.hide hid) (c.lock l) W0 cond z))
    (he : ∀ (X' : Cx) (hid : List Addr) (l : List Nat), Here X' T (G.hide hid) (c.lock l) (relS scope sc) N W0 k → SndE X' (G.hide hid) (c.lock l) W0 elt x) : SndC X G c W (.comp elt cond it t own) (.ListComp x [⟨tg, iter, co.toList, 0⟩] scope q) := by
  obtain ⟨wi, pi, gi⟩ := hi
  have okb : BlkOk X.N X.env.scope scope (ownB N own) := by rw [h.N, h.sc]; exact blkOk_by ok
  have hB : ∀ (s : Shared) (H : Hp) (C : Addr) (cl : List (PySem.Str × Addr)) (fp : List Addr) (hid : List Addr) (l : List Nat), Here (X.blk s H scope (compEnvC scope cl C X.env) fp) T (G.hide hid) (c.lock l) (relS scope sc) N W0 k := fun s H C cl fp hid l =>
    ⟨by show relS scope X.env.scope = relS scope sc; rw [h.sc], h.N, h.calm, h.nd, h.K, h.room, fun u s' z => by
      obtain ⟨a, B, sI, pins, σ, H, cls, d, e1, I, nb, up, sky, na, os, ag, w⟩ := z
      exact w, h.tok.hide hid, h.cok, okb.kind⟩
  have hown : (ownB N own).map (·.2) = own := by
    unfold ownB
    rw [List.map_map]
    exact List.map_id own
  have hg : ∃ g, (∀ (s : Shared) (H : Hp) (C : Addr) (cl : List (PySem.Str × Addr)) (fp : List Addr), PG (X.blk s H scope (compEnvC scope cl C X.env) fp) tg g) ∧ GoodG G t g := by
    have loc : ∀ (s : Shared) (H : Hp) (C : Addr) (cl : List (PySem.Str × Addr)) (fp : List Addr), LocOk (X.blk s H scope (compEnvC scope cl C X.env) fp) scope := fun s H C cl fp y hy => by
      unfold locB at hy
      split at hy
      · rename_i hl
        have z : (relS scope X.env.scope).names.lookup y = some .local := lookup_relS_keep (sc := X.env.scope) (fun z => nomatch z) hl
        exact ⟨.inl z, .inr z⟩
      · rename_i hl
        have z : (relS scope X.env.scope).names.lookup y = some .cell := lookup_relS_keep (sc := X.env.scope) (fun z => nomatch z) hl
        exact ⟨.inr z, .inl (by show (scope.names.lookup y == some .cell) = true; rw [hl]; rfl)⟩
      · cases hy
    refine ⟨fun v σ H Q => ∃ (hid : List Addr) (ρ : List Addr) (σd : Sl) (d : D) (σd' : Sl), RepS (G.hide hid) ρ H σd σ ∧ Rep (G.hide hid) ρ H d v ∧ t.asg d σd = some σd' ∧ ∀ σ', RepS (G.hide hid) ρ H σd' σ' → (∀ vs, (∀ i ∈ tgSlots t, i ∈ vs) → L2.wipe σ' vs = L2.wipe σ vs) → Q σ' H,
      fun s H C cl fp => ⟨fun pins s1 σ H1 v u Q I r hq => ?_⟩, fun hid ρ H σd σ d v σd' Q r1 r2 r3 r4 => ⟨hid, ρ, σd, d, σd', r1, r2, r3, r4⟩⟩
    obtain ⟨hid, ρ, σd, d, σd', r1, r2, r3, r4⟩ := hq
    obtain ⟨g, pg, gg⟩ := snd_tg (X := X.blk s H scope (compEnvC scope cl C X.env) fp) (G := G) h.N h.nd h.calm h.K (loc s H C cl fp) ht
    exact pg.run pins s1 σ H1 v u Q I r (gg hid ρ H1 σd σ d v σd' Q r1 r2 r3 r4)
  obtain ⟨g, pg, gg⟩ := hg
  have htt : ∃ tt : TT, (∀ (s : Shared) (H : Hp) (C : Addr) (cl : List (PySem.Str × Addr)) (fp : List Addr), PTs (X.blk s H scope (compEnvC scope cl C X.env) fp) co.toList tt) ∧
      ∀ (hid : List Addr) (l : List Nat) (ρ : List Addr) (M : MH) (H : Hp) (σd : Sl) (σ : L2.St) (Q : Bool → Hp → Prop), RepH (G.hide hid) ρ M H → RepS (G.hide hid) ρ H σd σ →
        (∃ b M', (if isNil cond then R.ok (.bl true) M else ev (c.lock l) cond σd M) = .ok (.bl b) M' ∧ ∀ ρ' H', Le (G.hide hid) ρ H ρ' H' → RepH (G.hide hid) ρ' M' H' → Q b H') → tt σ H Q := by
    rcases hco with ⟨rfl, hn⟩ | ⟨z, rfl, hn, hz⟩
    · refine ⟨_, fun s H C cl fp => pts_nil, fun hid l ρ M H σd σ Q rh rs hq => ?_⟩
      obtain ⟨b, M', e1, hq⟩ := hq
      rw [if_pos hn] at e1
      cases e1
      exact hq ρ H Le.refl rh
    · refine ⟨_, fun s H C cl fp => pts_one (pt_sem (G := G) (c := c) fun hid l => hz _ hid l (hB s H C cl fp hid l)), fun hid l ρ M H σd σ Q rh rs hq => ⟨hid, l, ρ, M, σd, rh, rs, ?_⟩⟩
      obtain ⟨b, M', e1, hq⟩ := hq
      rw [if_neg (by rw [hn]; exact Bool.false_ne_true)] at e1
      rw [e1]
      exact hq
  obtain ⟨tt, ptt, gtt⟩ := htt
  have hel := fun (s : Shared) (H : Hp) (C : Addr) (cl : List (PySem.Str × Addr)) (fp : List Addr) => pe_sem (X := X.blk s H scope (compEnvC scope cl C X.env) fp) (G := G) (c := c) fun hid l => he _ hid l (hB s H C cl fp hid l)
  refine ⟨_, pe_lc h.calm h.nd pi okb pg ptt hel hf, fun i y py spos h1 h2 h3 => ps_setLc h.calm h.nd h1 h2 h3 pi okb pg ptt hel hf, fun m ρ M H σd σ Q rh rs p => ?_⟩
  change PostE G ρ H (((ev c it σd M).bind fun w M => walkR w fun xs l => (compL (compF c elt cond t (Mini.wipe σd own) l) xs [] M).bind lstD).bind (fin m)) Q _ at p
  rw [hown]
  refine gi.go rh rs (fun d M1 e1 => ?_) (fun j M' e1 => ?_) fun e1 => ?_
  rotate_left
  · rw [e1] at p; exact p
  · rw [e1] at p; exact p
  rw [e1] at p
  change PostE G ρ H ((walkR d fun xs l => (compL (compF c elt cond t (Mini.wipe σd own) l) xs [] M1).bind lstD).bind (fin m)) Q _ at p
  cases d with
  | dct xs ls =>
    change PostE G ρ H (((compL (compF c elt cond t (Mini.wipe σd own) (locks ls)) xs [] M1).bind lstD).bind (fin m)) Q _ at p
    refine ⟨xs, ls, rfl, fun J ρ1 H1 l1 rh1 rs1 itok D hD => ?_⟩
    have p := PostE.mono l1 p
    generalize hf' : compF c elt cond t (Mini.wipe σd own) (locks ls) = f at p
    have hDg : D ∉ G.hid := fun z => (rh1.hid D z).2 hD
    have hsub : ∀ a ∈ G.hid, a ∈ D :: G.hid := fun a ha => List.mem_cons_of_mem _ ha
    have hnew : ∀ a ∈ D :: G.hid, a ∈ G.hid ∨ H1 a = none := fun a ha => (List.mem_cons.mp ha).elim (fun z => .inr (by rw [z]; exact hD)) .inl
    refine ⟨fun i m' H => m' = xs.length - i ∧ i ≤ xs.length ∧ ∃ ρ M acc vs, Le G ρ1 H1 ρ H ∧ RepH (G.hide (D :: G.hid)) ρ M H ∧ H D = some (.lst vs) ∧ Reps (G.hide (D :: G.hid)) ρ H acc vs ∧ M1.length ≤ M.length ∧ (∀ n ∈ locks ls, n < M1.length → M[n]? = M1[n]?) ∧
      PostE G ρ1 H1 (((compL f (xs.drop i) acc M).bind lstD).bind (fin m)) Q (fun k H' => W (.ref (G.ca k)) none σ H'), ⟨xs.length, by simp, Nat.zero_le _, ρ1, M1, [], [], Le.laid hD, rh1.start hD, upd_same, .nil, Nat.le_refl _, fun _ _ _ => rfl, p⟩, ?_⟩
    rintro i m' H2 ⟨rfl, hin, ρ2, M2, acc, vs, l2, rh2, hD2, g2, hlen2, hlk2, p2⟩
    have hDρ : D ∉ ρ2 := (rh2.hid D List.mem_cons_self).1
    obtain ⟨it1, it2⟩ := itok (D :: G.hid) ρ2 M2 H2 (l2.toW hnew) rh2 hlk2 i
    cases hx : xs[i]? with
    | none =>
      have hii : xs.length ≤ i := List.getElem?_eq_none_iff.mp hx
      refine .inl ⟨it2 hx, ?_⟩
      rw [List.drop_eq_nil_of_le hii] at p2
      change PostE G ρ1 H1 ((lstD acc M2).bind (fin m)) Q _ at p2
      unfold lstD at p2
      by_cases hz : acc.length ≤ 100000
      · rw [if_pos hz] at p2
        change PostE G ρ1 H1 (fin m (.lst acc) M2) Q _ at p2
        cases m with
        | false =>
          change PostE G ρ1 H1 (.ok (.lst acc) M2) Q _ at p2
          exact p2 (.ref D) ρ2 H2 l2 (rh2.show hsub) (Rep.lst_iff.mpr ⟨D, vs, rfl, ⟨hD2, hDρ, hDg⟩, Reps.monoW (LeW.show hsub) g2⟩)
        | true =>
          change PostE G ρ1 H1 (.ok (.obj M2.length) (M2 ++ [.lst acc])) Q _ at p2
          refine p2 (.ref D) (ρ2 ++ [D]) H2 (Le.own l2 hD hDρ) (rh2.keep hsub List.mem_cons_self hDg hD2 g2) ⟨D, rfl, ?_⟩
          rw [← rh2.len, List.getElem?_append_right (Nat.le_refl _)]
          simp
      · rw [if_neg hz] at p2; exact p2.elim
    | some d =>
      obtain ⟨go, yl⟩ := it1 d hx
      have hi : i < xs.length := (List.getElem?_eq_some_iff.mp hx).1
      refine .inr ⟨go, fun H' => _, fun H' z => ⟨xs.length - (i + 1), by omega, z⟩, fun v H3 y => ?_⟩
      obtain ⟨l3, rh3, rv3⟩ := yl v H3 y
      have ed : xs.drop i = d :: xs.drop (i + 1) := by
        rw [List.drop_eq_getElem_cons hi]
        have : xs[i] = d := by
          rw [List.getElem?_eq_getElem hi] at hx
          exact Option.some.inj hx
        rw [this]
      rw [ed] at p2
      have hD3 := (l3.lst D vs hD2 hDρ).1
      have ls3 : RepS (G.hide (D :: G.hid)) ρ2 H3 σd σ := RepS.monoW ((l2.trans l3).toW hnew) rs1
      have w3 := ls3.wipe own
      have g3 : Reps (G.hide (D :: G.hid)) ρ2 H3 acc vs := Reps.mono (l3.hide _) g2
      have l13 : Le G ρ1 H1 ρ2 H3 := l2.trans l3
      have fx : f d M2 = compF c elt cond t (Mini.wipe σd own) (locks ls) d M2 := by rw [hf']
      have stepNone : ∀ M', f d M2 = .ok none M' → PostE G ρ1 H1 (((compL f (xs.drop (i + 1)) acc M').bind lstD).bind (fin m)) Q (fun k H' => W (.ref (G.ca k)) none σ H') := fun M' z => by
        have p3 := p2
        unfold compL at p3
        rw [z] at p3
        exact p3
      have stepSome : ∀ d' M', f d M2 = .ok (some d') M' → PostE G ρ1 H1 (((compL f (xs.drop (i + 1)) (acc ++ [d']) M').bind lstD).bind (fin m)) Q (fun k H' => W (.ref (G.ca k)) none σ H') := fun d' M' z => by
        have p3 := p2
        unfold compL at p3
        rw [z] at p3
        exact p3
      have notBad : (∀ o M', f d M2 ≠ .ok o M') → False := fun z => by
        have p3 := p2
        unfold compL at p3
        split at p3
        · rename_i z'; exact z _ _ z'
        · rename_i z'; exact z _ _ z'
        · exact p3
      cases ha : t.asg d (Mini.wipe σd own) with
      | none =>
        refine (notBad fun o M' z => ?_).elim
        rw [fx] at z
        unfold compF at z
        rw [ha] at z
        cases z
      | some σd' =>
        refine gg _ ρ2 H3 _ _ d v σd' _ w3 rv3 ha fun σ2 rs2 hw => ⟨by rw [hw own hs, wipe_wipe], ?_⟩
        have f2 : f d M2 = (calmR (if isNil cond then .ok (.bl true) M2 else ev (c.lock (locks ls)) cond σd' M2)).bind fun b M => boolD b ((calmR (ev (c.lock (locks ls)) elt σd' M)).bind fun d M => .ok (some d) M) (.ok none M) := by
          rw [fx]
          unfold compF
          rw [ha]
          rfl
        cases hb : (if isNil cond then R.ok (.bl true) M2 else ev (c.lock (locks ls)) cond σd' M2) with
        | stuck => exact (notBad fun o M' z => by rw [f2, hb] at z; cases z).elim
        | exc j M' => exact (notBad fun o M' z => by rw [f2, hb] at z; cases z).elim
        | ok bd M3 =>
          rw [hb] at f2
          change f d M2 = boolD bd ((calmR (ev (c.lock (locks ls)) elt σd' M3)).bind fun d M => .ok (some d) M) (.ok none M3) at f2
          have lk3 : M2.length ≤ M3.length ∧ ∀ n ∈ locks ls, n < M2.length → M3[n]? = M2[n]? := by
            by_cases hn : isNil cond = true
            · rw [if_pos hn] at hb; cases hb; exact ⟨Nat.le_refl _, fun _ _ _ => rfl⟩
            · rw [if_neg hn] at hb; exact mle_lock h.cok hb
          have lk13 : ∀ n ∈ locks ls, n < M1.length → M3[n]? = M1[n]? := fun n h1 h2 => (lk3.2 n h1 (Nat.lt_of_lt_of_le h2 hlen2)).trans (hlk2 n h1 h2)
          rcases boolD_cases (d := bd) (t := (calmR (ev (c.lock (locks ls)) elt σd' M3)).bind fun d M => R.ok (some d) M) (f := R.ok none M3) with ⟨b, rfl, hz⟩ | hz
          · rw [hz] at f2
            refine gtt (D :: G.hid) (locks ls) ρ2 M2 H3 σd' σ2 _ rh3 rs2 ⟨b, M3, hb, fun ρ4 H4 l4 rh4 => ?_⟩
            have l14 : Le G ρ1 H1 ρ4 H4 := l13.trans l4.unhide
            have hD4 := l4.lst D vs hD3 hDρ
            cases b with
            | false =>
              rw [if_neg Bool.false_ne_true] at f2 ⊢
              exact ⟨rfl, hi, ρ4, M3, acc, vs, l14, rh4, hD4.1, Reps.mono l4 g3, Nat.le_trans hlen2 lk3.1, lk13, stepNone M3 f2⟩
            | true =>
              rw [if_pos rfl] at f2 ⊢
              cases hev : ev (c.lock (locks ls)) elt σd' M3 with
              | stuck => exact (notBad fun o M' z => by rw [f2, hev] at z; cases z).elim
              | exc j M' => exact (notBad fun o M' z => by rw [f2, hev] at z; cases z).elim
              | ok d' M5 =>
                rw [hev] at f2
                change f d M2 = .ok (some d') M5 at f2
                have p5 := stepSome d' M5 f2
                refine ⟨D :: G.hid, locks ls, ρ4, M3, σd', rh4, rs2.mono l4, ?_⟩
                rw [hev]
                intro y' ρ5 H5 l5 rh5 rv5
                have hD5 := l5.lst D vs hD4.1 hD4.2
                have lk5 := mle_lock h.cok hev
                have hacc : acc.length < 100000 := by
                  rcases compL_len (f := f) (xs.drop (i + 1)) (acc ++ [d']) M5 with ⟨r, M6, e6, e7⟩ | e6
                  · rw [e6] at p5
                    change PostE G ρ1 H1 ((lstD r M6).bind (fin m)) Q _ at p5
                    unfold lstD at p5
                    by_cases hz : r.length ≤ 100000
                    · rw [List.length_append] at e7
                      simp at e7
                      omega
                    · rw [if_neg hz] at p5; exact p5.elim
                  · rw [e6] at p5; exact p5.elim
                have g5 : Reps (G.hide (D :: G.hid)) ρ5 H5 acc vs := Reps.mono l5 (Reps.mono l4 g3)
                refine ⟨vs, hD5.1, by rw [← pd_length g5]; exact sz_lt hacc, rfl, hi, ρ5, M5, acc ++ [d'], vs ++ [y'], ?_, rh5.put hD5.1 List.mem_cons_self, upd_same, Reps.monoW (LeW.put hD5.1 List.mem_cons_self) (pd_append g5 (.cons rv5 .nil)), Nat.le_trans (Nat.le_trans hlen2 lk3.1) lk5.1, fun n h1 h2 => (lk5.2 n h1 (Nat.lt_of_lt_of_le h2 (Nat.le_trans hlen2 lk3.1))).trans (lk13 n h1 h2), p5⟩
                refine Le.over (l14.trans l5.unhide) hD (fun a o u z e => by rw [e, hD5.1] at z; cases z) fun a ws hs => SqT.upd hs ⟨fun xs z => (by rw [hD5.1] at z; cases z), fun _ _ z => (by rw [hD5.1] at z; cases z)⟩
          · exact (notBad fun o M' z => by rw [f2, hz] at z; cases z).elim
  | _ => exact p.elim
end
end MiniS
set_option autoImplicit false
set_option maxRecDepth 100000
set_option maxHeartbeats 4000000
namespace MiniS
open PySem PySem.Spec PyProof.Rows L2 Mini
section
variable {X : Cx} {T : Tab} {G : Gi} {c : Mini.Ctx} {sc : Scope} {N : List PySem.Str} {W : WX} {k : Nat} {e tg tg1 : Expr}
def tSemI (G : Gi) (c : Mini.Ctx) (me : ME) : TI := fun σ H Q => ∃ (hid : List Addr) (l : List Nat) (ρ : List Addr) (M : MH) (σd : Sl), RepH (G.hide hid) ρ M H ∧ RepS (G.hide hid) ρ H σd σ ∧ PostI (G.hide hid) ρ H (ev (c.lock l) me σd M) Q (fun _ _ => False)
theorem pi_sem {me : ME} (h : ∀ hid l, SndI X (G.hide hid) (c.lock l) W0 me tg e) : PI X tg e (tSemI G c me) := ⟨fun pins s σ H Q I hw => by
  obtain ⟨hid, l, ρ, M, σd, rh, rs, p⟩ := hw
  obtain ⟨t, pe, g⟩ := h hid l
  exact pe.run pins s σ H Q I (g ρ M H σd σ Q rh rs p)⟩
theorem here_blk (h : Here X T G c sc N W k) {scope : Scope} {own : List Nat} (ok : blkC N sc scope (ownB N own) = true) (s : Shared) (H : Hp) (C : Addr) (cl : List (PySem.Str × Addr)) (fp : List Addr) (hid : List Addr) (l : List Nat) :
    Here (X.blk s H scope (compEnvC scope cl C X.env) fp) T (G.hide hid) (c.lock l) (relS scope sc) N W0 k :=
  ⟨by show relS scope X.env.scope = relS scope sc; rw [h.sc], h.N, h.calm, h.nd, h.K, h.room, fun u s' z => by
    obtain ⟨a, B, sI, pins, σ, H, cls, d, e1, I, nb, up, sky, na, os, ag, w⟩ := z
    exact w, h.tok.hide hid, h.cok, (blkOk_by ok).kind⟩
theorem tg_blk (h : Here X T G c sc N W k) {scope : Scope} {t : Tg} (ht : mT N scope t tg = true) : ∃ g, (∀ (s : Shared) (H : Hp) (C : Addr) (cl : List (PySem.Str × Addr)) (fp : List Addr), PG (X.blk s H scope (compEnvC scope cl C X.env) fp) tg g) ∧ GoodG G t g := by
  have loc : ∀ (s : Shared) (H : Hp) (C : Addr) (cl : List (PySem.Str × Addr)) (fp : List Addr), LocOk (X.blk s H scope (compEnvC scope cl C X.env) fp) scope := fun s H C cl fp y hy => by
    unfold locB at hy
    split at hy
    · rename_i hl
      have z : (relS scope X.env.scope).names.lookup y = some .local := lookup_relS_keep (sc := X.env.scope) (fun z => nomatch z) hl
      exact ⟨.inl z, .inr z⟩
    · rename_i hl
      have z : (relS scope X.env.scope).names.lookup y = some .cell := lookup_relS_keep (sc := X.env.scope) (fun z => nomatch z) hl
      exact ⟨.inr z, .inl (by show (scope.names.lookup y == some .cell) = true; rw [hl]; rfl)⟩
    · cases hy
  refine ⟨fun v σ H Q => ∃ (hid : List Addr) (ρ : List Addr) (σd : Sl) (d : D) (σd' : Sl), RepS (G.hide hid) ρ H σd σ ∧ Rep (G.hide hid) ρ H d v ∧ t.asg d σd = some σd' ∧ ∀ σ', RepS (G.hide hid) ρ H σd' σ' → (∀ vs, (∀ i ∈ tgSlots t, i ∈ vs) → L2.wipe σ' vs = L2.wipe σ vs) → Q σ' H,
    fun s H C cl fp => ⟨fun pins s1 σ H1 v u Q I r hq => ?_⟩, fun hid ρ H σd σ d v σd' Q r1 r2 r3 r4 => ⟨hid, ρ, σd, d, σd', r1, r2, r3, r4⟩⟩
  obtain ⟨hid, ρ, σd, d, σd', r1, r2, r3, r4⟩ := hq
  obtain ⟨g, pg, gg⟩ := snd_tg (X := X.blk s H scope (compEnvC scope cl C X.env) fp) (G := G) h.N h.nd h.calm h.K (loc s H C cl fp) ht
  exact pg.run pins s1 σ H1 v u Q I r (gg hid ρ H1 σd σ d v σd' Q r1 r2 r3 r4)
def compF2 (c : Mini.Ctx) (elt cond it2 : ME) (t2 t : Tg) (σ0 : Sl) (l : List Nat) (x : D) (acc : List D) (M : MH) : R (List D) :=
  (R.ofOpt (t.asg x σ0) M).bind fun σ' M => (calmR (ev (c.lock l) it2 σ' M)).bind fun w2 M => walkR w2 fun xs2 l2 =>
    compL (fun y M => (R.ofOpt (t2.asg y (Mini.wipe σ' (tgSlots t2))) M).bind fun σ'' M =>
      (calmR (if isNil cond then .ok (.bl true) M else ev (c.lock (l2 ++ l)) cond σ'' M)).bind fun b M =>
        boolD b ((calmR (ev (c.lock (l2 ++ l)) elt σ'' M)).bind fun d M => .ok (some d) M) (.ok none M)) xs2 acc M
theorem compF2_eq (c : Mini.Ctx) (elt cond it2 : ME) (t2 t : Tg) (σ0 : Sl) (l : List Nat) (x : D) (acc : List D) (M : MH) : compF2 c elt cond it2 t2 t σ0 l x acc M =
    (R.ofOpt (t.asg x σ0) M).bind fun σ' M => (calmR (ev (c.lock l) it2 σ' M)).bind fun w2 M => walkR w2 fun xs2 l2 => compL (compF c elt cond t2 (Mini.wipe σ' (tgSlots t2)) (l2 ++ l)) xs2 acc M := rfl
theorem compL2_len {f : D → List D → MH → R (List D)} (hf : ∀ x acc M r M', f x acc M = .ok r M' → acc.length ≤ r.length) : ∀ (xs acc : List D) (M : MH), (∃ r M', compL2 f xs acc M = .ok r M' ∧ acc.length ≤ r.length) ∨ compL2 f xs acc M = .stuck
  | [], acc, M => .inl ⟨acc, M, rfl, Nat.le_refl _⟩
  | x :: xs, acc, M => by
    unfold compL2
    split
    · rename_i acc' M' h
      rcases compL2_len hf xs acc' M' with ⟨r, M2, e1, e2⟩ | e1
      · exact .inl ⟨r, M2, e1, Nat.le_trans (hf x acc M acc' M' h) e2⟩
      · exact .inr e1
    · exact .inr rfl
theorem compF2_len (c : Mini.Ctx) (elt cond it2 : ME) (t2 t : Tg) (σ0 : Sl) (l : List Nat) (x : D) (acc : List D) (M : MH) (r : List D) (M' : MH) (h : compF2 c elt cond it2 t2 t σ0 l x acc M = .ok r M') : acc.length ≤ r.length := by
  rw [compF2_eq] at h
  cases ha : t.asg x σ0 with
  | none => rw [ha] at h; cases h
  | some σ' =>
    rw [ha] at h
    have h : ((calmR (ev (c.lock l) it2 σ' M)).bind fun w2 M => walkR w2 fun xs2 l2 => compL (compF c elt cond t2 (Mini.wipe σ' (tgSlots t2)) (l2 ++ l)) xs2 acc M) = .ok r M' := h
    cases he : ev (c.lock l) it2 σ' M with
    | stuck => rw [he] at h; cases h
    | exc j M1 => rw [he] at h; cases h
    | ok w M1 =>
      rw [he] at h
      have h : (walkR w fun xs2 l2 => compL (compF c elt cond t2 (Mini.wipe σ' (tgSlots t2)) (l2 ++ l)) xs2 acc M1) = .ok r M' := h
      cases w with
      | dct xs2 ls2 =>
        have h : compL (compF c elt cond t2 (Mini.wipe σ' (tgSlots t2)) (locks ls2 ++ l)) xs2 acc M1 = .ok r M' := h
        rcases compL_len (f := compF c elt cond t2 (Mini.wipe σ' (tgSlots t2)) (locks ls2 ++ l)) xs2 acc M1 with ⟨r', M2, e1, e2⟩ | e1
        · rw [e1] at h
          cases h
          exact e2
        · rw [e1] at h; cases h
      | _ => cases h
theorem snd_comp2C (h : Here X T G c sc N W k) {elt cond it2 it : ME} {t2 t : Tg} {own : List Nat} {x iter iter1 : Expr} {co : Option Expr} {scope : Scope} {q : Pos} (hi : SndI X G c W it tg iter) (hf : ∀ v, foldedSetIterable iter X.env v = pure v)
    (ok : blkC N sc scope (ownB N own) = true) (ht : mT N scope t tg = true) (ht2 : mT N scope t2 tg1 = true) (hs : ∀ i ∈ tgSlots t, i ∈ own) (hs2 : ∀ i ∈ tgSlots t2, i ∈ own)
    (hi2 : ∀ (X' : Cx) (hid : List Addr) (l : List Nat), Here X' T (G.hide hid) (c.lock l) (relS scope sc) N W0 k → SndI X' (G.hide hid) (c.lock l) W0 it2 tg1 iter1) (hf2 : ∀ env v, foldedSetIterable iter1 env v = pure v)
    (hco : (co = none ∧ isNil cond = true) ∨ (∃ z, co = some z ∧ isNil cond = false ∧ ∀ (X' : Cx) (hid : List Addr) (l : List Nat), Here X' T (G.hide hid) (c.lock l) (relS scope sc) N W0 k → SndE X' (G.hide hid) (c.lock l) W0 cond z))
    (he : ∀ (X' : Cx) (hid : List Addr) (l : List Nat), Here X' T (G.hide hid) (c.lock l) (relS scope sc) N W0 k → SndE X' (G.hide hid) (c.lock l) W0 elt x) : SndC X G c W (.comp2 elt cond it2 t2 it t own) (.ListComp x [⟨tg, iter, [], 0⟩, ⟨tg1, iter1, co.toList, 0⟩] scope q) := by
  obtain ⟨wi, pi, gi⟩ := hi
  have okb : BlkOk X.N X.env.scope scope (ownB N own) := by rw [h.N, h.sc]; exact blkOk_by ok
  have hB := here_blk h ok
  have hown : (ownB N own).map (·.2) = own := by
    unfold ownB
    rw [List.map_map]
    exact List.map_id own
  obtain ⟨g, pg, gg⟩ := tg_blk h ht
  obtain ⟨g1, pg1, gg1⟩ := tg_blk h ht2
  have htt : ∃ tt : TT, (∀ (s : Shared) (H : Hp) (C : Addr) (cl : List (PySem.Str × Addr)) (fp : List Addr), PTs (X.blk s H scope (compEnvC scope cl C X.env) fp) co.toList tt) ∧
      ∀ (hid : List Addr) (l : List Nat) (ρ : List Addr) (M : MH) (H : Hp) (σd : Sl) (σ : L2.St) (Q : Bool → Hp → Prop), RepH (G.hide hid) ρ M H → RepS (G.hide hid) ρ H σd σ →
        (∃ b M', (if isNil cond then R.ok (.bl true) M else ev (c.lock l) cond σd M) = .ok (.bl b) M' ∧ ∀ ρ' H', Le (G.hide hid) ρ H ρ' H' → RepH (G.hide hid) ρ' M' H' → Q b H') → tt σ H Q := by
    rcases hco with ⟨rfl, hn⟩ | ⟨z, rfl, hn, hz⟩
    · refine ⟨_, fun s H C cl fp => pts_nil, fun hid l ρ M H σd σ Q rh rs hq => ?_⟩
      obtain ⟨b, M', e1, hq⟩ := hq
      rw [if_pos hn] at e1
      cases e1
      exact hq ρ H Le.refl rh
    · refine ⟨_, fun s H C cl fp => pts_one (pt_sem (G := G) (c := c) fun hid l => hz _ hid l (hB s H C cl fp hid l)), fun hid l ρ M H σd σ Q rh rs hq => ⟨hid, l, ρ, M, σd, rh, rs, ?_⟩⟩
      obtain ⟨b, M', e1, hq⟩ := hq
      rw [if_neg (by rw [hn]; exact Bool.false_ne_true)] at e1
      rw [e1]
      exact hq
  obtain ⟨tt, ptt, gtt⟩ := htt
  have hel := fun (s : Shared) (H : Hp) (C : Addr) (cl : List (PySem.Str × Addr)) (fp : List Addr) => pe_sem (X := X.blk s H scope (compEnvC scope cl C X.env) fp) (G := G) (c := c) fun hid l => he _ hid l (hB s H C cl fp hid l)
  have hit1 := fun (s : Shared) (H : Hp) (C : Addr) (cl : List (PySem.Str × Addr)) (fp : List Addr) => pi_sem (X := X.blk s H scope (compEnvC scope cl C X.env) fp) (G := G) (c := c) fun hid l => hi2 _ hid l (hB s H C cl fp hid l)
  have hv1 : ∀ i ∈ tgSlots t2, i ∈ (ownB N own).map (·.2) := by rw [hown]; exact hs2
  refine ⟨_, pe_lc2 h.calm h.nd pi okb hv1 pg (fun _ _ _ _ _ => pts_nil) hit1 pg1 ptt hel hf hf2, fun i y py spos h1 h2 h3 => ps_setLc2 h.calm h.nd h1 h2 h3 pi okb hv1 pg (fun _ _ _ _ _ => pts_nil) hit1 pg1 ptt hel hf hf2, fun m ρ M H σd σ Q rh rs p => ?_⟩
  change PostE G ρ H (((ev c it σd M).bind fun w M => walkR w fun xs l => (compL2 (compF2 c elt cond it2 t2 t (Mini.wipe σd own) l) xs [] M).bind lstD).bind (fin m)) Q _ at p
  rw [hown]
  refine gi.go rh rs (fun d M1 e1 => ?_) (fun j M' e1 => ?_) fun e1 => ?_
  rotate_left
  · rw [e1] at p; exact p
  · rw [e1] at p; exact p
  rw [e1] at p
  change PostE G ρ H ((walkR d fun xs l => (compL2 (compF2 c elt cond it2 t2 t (Mini.wipe σd own) l) xs [] M1).bind lstD).bind (fin m)) Q _ at p
  cases d with
  | dct xs ls =>
    change PostE G ρ H (((compL2 (compF2 c elt cond it2 t2 t (Mini.wipe σd own) (locks ls)) xs [] M1).bind lstD).bind (fin m)) Q _ at p
    refine ⟨xs, ls, rfl, fun J ρ1 H1 l1 rh1 rs1 itok D hD => ?_⟩
    have p := PostE.mono l1 p
    have flen : ∀ x acc M r M', compF2 c elt cond it2 t2 t (Mini.wipe σd own) (locks ls) x acc M = .ok r M' → acc.length ≤ r.length := fun x acc M r M' z => compF2_len c elt cond it2 t2 t _ _ x acc M r M' z
    have hDg : D ∉ G.hid := fun z => (rh1.hid D z).2 hD
    have hsub : ∀ a ∈ G.hid, a ∈ D :: G.hid := fun a ha => List.mem_cons_of_mem _ ha
    have hnew : ∀ a ∈ D :: G.hid, a ∈ G.hid ∨ H1 a = none := fun a ha => (List.mem_cons.mp ha).elim (fun z => .inr (by rw [z]; exact hD)) .inl
    generalize hf' : compF2 c elt cond it2 t2 t (Mini.wipe σd own) (locks ls) = f at p flen
    refine ⟨fun i m' H => m' = xs.length - i ∧ i ≤ xs.length ∧ ∃ ρ M acc vs, Le G ρ1 H1 ρ H ∧ RepH (G.hide (D :: G.hid)) ρ M H ∧ H D = some (.lst vs) ∧ Reps (G.hide (D :: G.hid)) ρ H acc vs ∧ M1.length ≤ M.length ∧ (∀ n ∈ locks ls, n < M1.length → M[n]? = M1[n]?) ∧
      PostE G ρ1 H1 (((compL2 f (xs.drop i) acc M).bind lstD).bind (fin m)) Q (fun k H' => W (.ref (G.ca k)) none σ H'), ⟨xs.length, by simp, Nat.zero_le _, ρ1, M1, [], [], Le.laid hD, rh1.start hD, upd_same, .nil, Nat.le_refl _, fun _ _ _ => rfl, p⟩, ?_⟩
    rintro i m' H2 ⟨rfl, hin, ρ2, M2, acc, vs, l2, rh2, hD2, g2, hlen2, hlk2, p2⟩
    have hDρ : D ∉ ρ2 := (rh2.hid D List.mem_cons_self).1
    obtain ⟨it1, it2'⟩ := itok (D :: G.hid) ρ2 M2 H2 (l2.toW hnew) rh2 hlk2 i
    cases hx : xs[i]? with
    | none =>
      have hii : xs.length ≤ i := List.getElem?_eq_none_iff.mp hx
      refine .inl ⟨it2' hx, ?_⟩
      rw [List.drop_eq_nil_of_le hii] at p2
      change PostE G ρ1 H1 ((lstD acc M2).bind (fin m)) Q _ at p2
      unfold lstD at p2
      by_cases hz : acc.length ≤ 100000
      · rw [if_pos hz] at p2
        change PostE G ρ1 H1 (fin m (.lst acc) M2) Q _ at p2
        cases m with
        | false =>
          change PostE G ρ1 H1 (.ok (.lst acc) M2) Q _ at p2
          exact p2 (.ref D) ρ2 H2 l2 (rh2.show hsub) (Rep.lst_iff.mpr ⟨D, vs, rfl, ⟨hD2, hDρ, hDg⟩, Reps.monoW (LeW.show hsub) g2⟩)
        | true =>
          change PostE G ρ1 H1 (.ok (.obj M2.length) (M2 ++ [.lst acc])) Q _ at p2
          refine p2 (.ref D) (ρ2 ++ [D]) H2 (Le.own l2 hD hDρ) (rh2.keep hsub List.mem_cons_self hDg hD2 g2) ⟨D, rfl, ?_⟩
          rw [← rh2.len, List.getElem?_append_right (Nat.le_refl _)]
          simp
      · rw [if_neg hz] at p2; exact p2.elim
    | some d =>
      obtain ⟨go, yl⟩ := it1 d hx
      have hi : i < xs.length := (List.getElem?_eq_some_iff.mp hx).1
      refine .inr ⟨go, fun H' => _, fun H' z => ⟨xs.length - (i + 1), by omega, z⟩, fun v H3 y => ?_⟩
      obtain ⟨l3, rh3, rv3⟩ := yl v H3 y
      have ed : xs.drop i = d :: xs.drop (i + 1) := by
        rw [List.drop_eq_getElem_cons hi]
        have : xs[i] = d := by
          rw [List.getElem?_eq_getElem hi] at hx
          exact Option.some.inj hx
        rw [this]
      rw [ed] at p2
      have hD3 := (l3.lst D vs hD2 hDρ).1
      have ls3 : RepS (G.hide (D :: G.hid)) ρ2 H3 σd σ := RepS.monoW ((l2.trans l3).toW hnew) rs1
      have w3 := ls3.wipe own
      have g3 : Reps (G.hide (D :: G.hid)) ρ2 H3 acc vs := Reps.mono (l3.hide _) g2
      have l13 : Le G ρ1 H1 ρ2 H3 := l2.trans l3
      have fx : f d acc M2 = compF2 c elt cond it2 t2 t (Mini.wipe σd own) (locks ls) d acc M2 := by rw [hf']
      rw [compF2_eq] at fx
      have step : ∀ acc' M', f d acc M2 = .ok acc' M' → PostE G ρ1 H1 (((compL2 f (xs.drop (i + 1)) acc' M').bind lstD).bind (fin m)) Q (fun k H' => W (.ref (G.ca k)) none σ H') := fun acc' M' z => by
        have p3 := p2
        unfold compL2 at p3
        rw [z] at p3
        exact p3
      have notBad : (∀ o M', f d acc M2 ≠ .ok o M') → False := fun z => by
        have p3 := p2
        unfold compL2 at p3
        split at p3
        · rename_i z'; exact z _ _ z'
        · exact p3
      cases ha : t.asg d (Mini.wipe σd own) with
      | none => exact (notBad fun o M' z => by rw [fx, ha] at z; cases z).elim
      | some σd' =>
        rw [ha] at fx
        change f d acc M2 = (calmR (ev (c.lock (locks ls)) it2 σd' M2)).bind fun w2 M => walkR w2 fun xs2 l2 => compL (compF c elt cond t2 (Mini.wipe σd' (tgSlots t2)) (l2 ++ locks ls)) xs2 acc M at fx
        refine gg _ ρ2 H3 _ _ d v σd' _ w3 rv3 ha fun σ2 rs2 hw => ⟨by rw [hw own hs, wipe_wipe], ?_⟩
        unfold tYes
        dsimp only
        rw [if_pos rfl]
        refine ⟨D :: G.hid, locks ls, ρ2, M2, σd', rh3, rs2, ?_⟩
        cases hev : ev (c.lock (locks ls)) it2 σd' M2 with
        | stuck => exact (notBad fun o M' z => by rw [fx, hev] at z; cases z).elim
        | exc j M' => exact (notBad fun o M' z => by rw [fx, hev] at z; cases z).elim
        | ok w2 M4 =>
          rw [hev] at fx
          change f d acc M2 = walkR w2 fun xs2 l2 => compL (compF c elt cond t2 (Mini.wipe σd' (tgSlots t2)) (l2 ++ locks ls)) xs2 acc M4 at fx
          cases w2 with
          | dct xs2 ls2 =>
            change f d acc M2 = compL (compF c elt cond t2 (Mini.wipe σd' (tgSlots t2)) (locks ls2 ++ locks ls)) xs2 acc M4 at fx
            have lk4 := mle_lock h.cok hev
            have lk14 : ∀ n ∈ locks ls, n < M1.length → M4[n]? = M1[n]? := fun n h1 h2 => (lk4.2 n h1 (Nat.lt_of_lt_of_le h2 hlen2)).trans (hlk2 n h1 h2)
            refine ⟨xs2, ls2, rfl, fun J1 ρ4 H4 l4 rh4 itok1 => ?_⟩
            have l14 : Le G ρ1 H1 ρ4 H4 := l13.trans l4.unhide
            have hD4 := l4.lst D vs hD3 hDρ
            generalize hf2' : compF c elt cond t2 (Mini.wipe σd' (tgSlots t2)) (locks ls2 ++ locks ls) = f2 at fx
            refine ⟨fun j k' H => k' = xs2.length - j ∧ j ≤ xs2.length ∧ ∃ ρ M acc' vs', Le G ρ1 H1 ρ H ∧ LeW (G.hide (D :: G.hid)) (G.hide (D :: G.hid)) ρ4 H4 ρ H ∧ RepH (G.hide (D :: G.hid)) ρ M H ∧ H D = some (.lst vs') ∧ Reps (G.hide (D :: G.hid)) ρ H acc' vs' ∧ M1.length ≤ M.length ∧ M4.length ≤ M.length ∧
              (∀ n ∈ locks ls, n < M1.length → M[n]? = M1[n]?) ∧ (∀ n ∈ locks ls2, n < M4.length → M[n]? = M4[n]?) ∧ f d acc M2 = compL f2 (xs2.drop j) acc' M,
              ⟨xs2.length, by simp, Nat.zero_le _, ρ4, M4, acc, vs, l14, Le.refl.w, rh4, hD4.1, Reps.mono l4 g3, Nat.le_trans hlen2 lk4.1, Nat.le_refl _, lk14, fun _ _ _ => rfl, fx⟩, ?_⟩
            rintro j k' H5 ⟨rfl, hjn, ρ5, M5, acc5, vs5, l5, lw5, rh5, hD5, g5, hlen5, hlen5', hlk5, hlk5', fx5⟩
            have hDρ5 : D ∉ ρ5 := (rh5.hid D List.mem_cons_self).1
            obtain ⟨jt1, jt2⟩ := itok1 (D :: G.hid) ρ5 M5 H5 lw5 rh5 hlk5' j
            cases hx2 : xs2[j]? with
            | none =>
              have hjj : xs2.length ≤ j := List.getElem?_eq_none_iff.mp hx2
              rw [List.drop_eq_nil_of_le hjj] at fx5
              have fx5 : f d acc M2 = .ok acc5 M5 := fx5
              exact .inl ⟨jt2 hx2, rfl, hi, ρ5, M5, acc5, vs5, l5, rh5, hD5, g5, hlen5, hlk5, step acc5 M5 fx5⟩
            | some d2 =>
              obtain ⟨go2, yl2⟩ := jt1 d2 hx2
              have hj : j < xs2.length := (List.getElem?_eq_some_iff.mp hx2).1
              refine .inr ⟨go2, fun H' => _, fun H' z => ⟨xs2.length - (j + 1), by omega, z⟩, fun v2 H6 y2 => ?_⟩
              obtain ⟨l6, rh6, rv6⟩ := yl2 v2 H6 y2
              have ed2 : xs2.drop j = d2 :: xs2.drop (j + 1) := by
                rw [List.drop_eq_getElem_cons hj]
                have : xs2[j] = d2 := by
                  rw [List.getElem?_eq_getElem hj] at hx2
                  exact Option.some.inj hx2
                rw [this]
              rw [ed2] at fx5
              have hD6 := (l6.lst D vs5 hD5 hDρ5).1
              have rs6 : RepS (G.hide (D :: G.hid)) ρ5 H6 σd' σ2 := RepS.monoW (LeW.trans (LeW.trans l4.w lw5) (l6.w)) rs2
              have w6 := rs6.wipe (tgSlots t2)
              have g6 : Reps (G.hide (D :: G.hid)) ρ5 H6 acc5 vs5 := Reps.mono l6 g5
              have l16 : Le G ρ1 H1 ρ5 H6 := l5.trans l6.unhide
              have lw6 : LeW (G.hide (D :: G.hid)) (G.hide (D :: G.hid)) ρ4 H4 ρ5 H6 := lw5.trans l6.w
              unfold compL at fx5
              have fy : f2 d2 M5 = compF c elt cond t2 (Mini.wipe σd' (tgSlots t2)) (locks ls2 ++ locks ls) d2 M5 := by rw [hf2']
              have notBad2 : (∀ o M', f2 d2 M5 ≠ .ok o M') → False := fun z => by
                refine notBad fun o M' z' => ?_
                rw [fx5] at z'
                split at z'
                · rename_i q'; exact z _ _ q'
                · rename_i q'; exact z _ _ q'
                · cases z'
              cases ha2 : t2.asg d2 (Mini.wipe σd' (tgSlots t2)) with
              | none =>
                refine (notBad2 fun o M' z => ?_).elim
                rw [fy] at z
                unfold compF at z
                rw [ha2] at z
                cases z
              | some σd2 =>
                refine gg1 _ ρ5 H6 _ _ d2 v2 σd2 _ w6 rv6 ha2 fun σ3 rs3 hw3 => ⟨by rw [hw3 (tgSlots t2) fun _ z => z, wipe_wipe], ?_⟩
                have fz : f2 d2 M5 = (calmR (if isNil cond then .ok (.bl true) M5 else ev (c.lock (locks ls2 ++ locks ls)) cond σd2 M5)).bind fun b M => boolD b ((calmR (ev (c.lock (locks ls2 ++ locks ls)) elt σd2 M)).bind fun d M => .ok (some d) M) (.ok none M) := by
                  rw [fy]
                  unfold compF
                  rw [ha2]
                  rfl
                cases hb : (if isNil cond then R.ok (.bl true) M5 else ev (c.lock (locks ls2 ++ locks ls)) cond σd2 M5) with
                | stuck => exact (notBad2 fun o M' z => by rw [fz, hb] at z; cases z).elim
                | exc jj M' => exact (notBad2 fun o M' z => by rw [fz, hb] at z; cases z).elim
                | ok bd M7 =>
                  rw [hb] at fz
                  change f2 d2 M5 = boolD bd ((calmR (ev (c.lock (locks ls2 ++ locks ls)) elt σd2 M7)).bind fun d M => .ok (some d) M) (.ok none M7) at fz
                  have lk7 : M5.length ≤ M7.length ∧ ∀ n ∈ locks ls2 ++ locks ls, n < M5.length → M7[n]? = M5[n]? := by
                    by_cases hn : isNil cond = true
                    · rw [if_pos hn] at hb; cases hb; exact ⟨Nat.le_refl _, fun _ _ _ => rfl⟩
                    · rw [if_neg hn] at hb; exact mle_lock h.cok hb
                  have lk17 : ∀ n ∈ locks ls, n < M1.length → M7[n]? = M1[n]? := fun n h1 h2 => (lk7.2 n (List.mem_append_right _ h1) (Nat.lt_of_lt_of_le h2 hlen5)).trans (hlk5 n h1 h2)
                  have lk47 : ∀ n ∈ locks ls2, n < M4.length → M7[n]? = M4[n]? := fun n h1 h2 => (lk7.2 n (List.mem_append_left _ h1) (Nat.lt_of_lt_of_le h2 hlen5')).trans (hlk5' n h1 h2)
                  rcases boolD_cases (d := bd) (t := (calmR (ev (c.lock (locks ls2 ++ locks ls)) elt σd2 M7)).bind fun d M => R.ok (some d) M) (f := R.ok none M7) with ⟨b, rfl, hz⟩ | hz
                  · rw [hz] at fz
                    refine gtt (D :: G.hid) (locks ls2 ++ locks ls) ρ5 M5 H6 σd2 σ3 _ rh6 rs3 ⟨b, M7, hb, fun ρ7 H7 l7 rh7 => ?_⟩
                    have l17 : Le G ρ1 H1 ρ7 H7 := l16.trans l7.unhide
                    have lw7 := lw6.trans l7.w
                    have hD7 := l7.lst D vs5 hD6 hDρ5
                    cases b with
                    | false =>
                      rw [if_neg Bool.false_ne_true] at fz ⊢
                      rw [fz] at fx5
                      exact ⟨rfl, hj, ρ7, M7, acc5, vs5, l17, lw7, rh7, hD7.1, Reps.mono l7 g6, Nat.le_trans hlen5 lk7.1, Nat.le_trans hlen5' lk7.1, lk17, lk47, fx5⟩
                    | true =>
                      rw [if_pos rfl] at fz ⊢
                      cases hel' : ev (c.lock (locks ls2 ++ locks ls)) elt σd2 M7 with
                      | stuck => exact (notBad2 fun o M' z => by rw [fz, hel'] at z; cases z).elim
                      | exc jj M' => exact (notBad2 fun o M' z => by rw [fz, hel'] at z; cases z).elim
                      | ok d' M8 =>
                        rw [hel'] at fz
                        change f2 d2 M5 = .ok (some d') M8 at fz
                        rw [fz] at fx5
                        dsimp only at fx5
                        refine ⟨D :: G.hid, locks ls2 ++ locks ls, ρ7, M7, σd2, rh7, rs3.mono l7, ?_⟩
                        rw [hel']
                        intro y' ρ8 H8 l8 rh8 rv8
                        have hD8 := l8.lst D vs5 hD7.1 hD7.2
                        have lk8 := mle_lock h.cok hel'
                        have hacc : acc5.length < 100000 := by
                          rcases compL_len (f := f2) (xs2.drop (j + 1)) (acc5 ++ [d']) M8 with ⟨r, M9, e9, e10⟩ | e9
                          · rw [e9] at fx5
                            have p5 := step r M9 fx5
                            rcases compL2_len flen (xs.drop (i + 1)) r M9 with ⟨r2, M10, e11, e12⟩ | e11
                            · rw [e11] at p5
                              change PostE G ρ1 H1 ((lstD r2 M10).bind (fin m)) Q _ at p5
                              unfold lstD at p5
                              by_cases hz : r2.length ≤ 100000
                              · rw [List.length_append] at e10
                                simp at e10
                                omega
                              · rw [if_neg hz] at p5; exact p5.elim
                            · rw [e11] at p5; exact p5.elim
                          · exact (notBad fun o M' z => by rw [fx5, e9] at z; cases z).elim
                        have g8 : Reps (G.hide (D :: G.hid)) ρ8 H8 acc5 vs5 := Reps.mono l8 (Reps.mono l7 g6)
                        refine ⟨vs5, hD8.1, by rw [← pd_length g8]; exact sz_lt hacc, rfl, hj, ρ8, M8, acc5 ++ [d'], vs5 ++ [y'], ?_, (lw7.trans l8.w).trans (LeW.put hD8.1 List.mem_cons_self), rh8.put hD8.1 List.mem_cons_self, upd_same, Reps.monoW (LeW.put hD8.1 List.mem_cons_self) (pd_append g8 (.cons rv8 .nil)),
                          Nat.le_trans (Nat.le_trans hlen5 lk7.1) lk8.1, Nat.le_trans (Nat.le_trans hlen5' lk7.1) lk8.1, fun n h1 h2 => (lk8.2 n (List.mem_append_right _ h1) (Nat.lt_of_lt_of_le h2 (Nat.le_trans hlen5 lk7.1))).trans (lk17 n h1 h2), fun n h1 h2 => (lk8.2 n (List.mem_append_left _ h1) (Nat.lt_of_lt_of_le h2 (Nat.le_trans hlen5' lk7.1))).trans (lk47 n h1 h2), fx5⟩
                        refine Le.over (l17.trans l8.unhide) hD (fun a o u z e => by rw [e, hD8.1] at z; cases z) fun a ws hs => SqT.upd hs ⟨fun xs z => (by rw [hD8.1] at z; cases z), fun _ _ z => (by rw [hD8.1] at z; cases z)⟩
                  · exact (notBad2 fun o M' z => by rw [fz, hz] at z; cases z).elim
          | _ => exact (notBad fun o M' z => by rw [fx] at z; cases z).elim
  | _ => exact p.elim
end
end MiniS
set_option autoImplicit false
set_option maxRecDepth 100000
set_option maxHeartbeats 4000000
namespace MiniS
open PySem PySem.Spec PyProof.Rows L2 Mini
section
variable {T : Tab} {N : List PySem.Str}
theorem mI_plain {me : ME} {sc : Scope} {e : Expr} (h : mE T N me .I sc e = true) : plainB e = true := by
  cases me with
  | it a => exact mE_plain (and_t h).2
  | rng as => obtain ⟨x, h1, _⟩ := any_some (and_t h).2; obtain ⟨p, q, rfl⟩ := asCall_eq h1; rfl
  | enum a => obtain ⟨x, h1, _⟩ := any_some (and_t h).2; obtain ⟨p, q, rfl⟩ := asCall_eq h1; rfl
  | zip a b => obtain ⟨x, h1, _⟩ := any_some (and_t h).2; obtain ⟨p, q, rfl⟩ := asCall_eq h1; rfl
  | _ => cases (and_t h).1
theorem isTup_eq {e : Expr} (h : isTupE e = true) : ∃ es k p, e = .Tuple es k p := by
  cases e <;> first | exact ⟨_, _, _, rfl⟩ | cases h
structure SndAll (T : Tab) (N : List PySem.Str) (me : ME) : Prop where
  E : ∀ (X : Cx) (G : Gi) (c : Mini.Ctx) (sc : Scope) (W : WX) (k : Nat) (e : Expr), Here X T G c sc N W k → mE T N me .E sc e = true → SndE X G c W me e
  A : ∀ (X : Cx) (G : Gi) (c : Mini.Ctx) (sc : Scope) (W : WX) (k : Nat) (es : List Expr), Here X T G c sc N W k → mE T N me .A sc (args es) = true → SndA X G c W me es
  I : ∀ (X : Cx) (G : Gi) (c : Mini.Ctx) (sc : Scope) (W : WX) (k : Nat) (tg e : Expr), Here X T G c sc N W k → mE T N me .I sc e = true → (mE.itPlain me || isTupE tg) = true → SndI X G c W me tg e
  F : ∀ (X : Cx) (G : Gi) (c : Mini.Ctx) (sc : Scope) (W : WX) (k : Nat) (e : Expr), Here X T G c sc N W k → freshB me = true → mE T N me .E sc e = true → SndN X G c W me e
theorem SndAll.ofE {me : ME} (h : ∀ (X : Cx) (G : Gi) (c : Mini.Ctx) (sc : Scope) (W : WX) (k : Nat) (e : Expr), Here X T G c sc N W k → mE T N me .E sc e = true → SndE X G c W me e) (hf : freshB me = false)
    (ha : ∀ sc e, mE T N me .A sc e = false) (hi : ∀ sc e, mE T N me .I sc e = false) : SndAll T N me :=
  ⟨h, fun X G c sc W k es _ hm => (by rw [ha] at hm; cases hm), fun X G c sc W k tg e _ hm => (by rw [hi] at hm; cases hm), fun X G c sc W k e _ hm => (by rw [hf] at hm; cases hm)⟩
theorem SndAll.ofF {me : ME} (h : ∀ (X : Cx) (G : Gi) (c : Mini.Ctx) (sc : Scope) (W : WX) (k : Nat) (e : Expr), Here X T G c sc N W k → mE T N me .E sc e = true → SndN X G c W me e) (hp : ∀ sc e, mE T N me .E sc e = true → ∀ env whole, PySem.isTrue e env whole = (do let v ← whole; standAt e.pos; holding [v] (truthy v)))
    (ha : ∀ sc e, mE T N me .A sc e = false) (hi : ∀ sc e, mE T N me .I sc e = false) : SndAll T N me :=
  ⟨fun X G c sc W k e hh hm => (h X G c sc W k e hh hm).ev fun w => hp sc e hm X.env w, fun X G c sc W k es _ hm => (by rw [ha] at hm; cases hm), fun X G c sc W k tg e _ hm => (by rw [hi] at hm; cases hm), fun X G c sc W k e hh _ hm => h X G c sc W k e hh hm⟩
theorem SndAll.ofA {me : ME} (h : ∀ (X : Cx) (G : Gi) (c : Mini.Ctx) (sc : Scope) (W : WX) (k : Nat) (es : List Expr), Here X T G c sc N W k → mE T N me .A sc (args es) = true → SndA X G c W me es) (hf : freshB me = false)
    (he : ∀ sc e, mE T N me .E sc e = false) (hi : ∀ sc e, mE T N me .I sc e = false) : SndAll T N me :=
  ⟨fun X G c sc W k e _ hm => (by rw [he] at hm; cases hm), h, fun X G c sc W k tg e _ hm => (by rw [hi] at hm; cases hm), fun X G c sc W k e _ hm => (by rw [hf] at hm; cases hm)⟩
theorem SndAll.ofI {me : ME} (h : ∀ (X : Cx) (G : Gi) (c : Mini.Ctx) (sc : Scope) (W : WX) (k : Nat) (tg e : Expr), Here X T G c sc N W k → mE T N me .I sc e = true → (mE.itPlain me || isTupE tg) = true → SndI X G c W me tg e) (hf : freshB me = false)
    (he : ∀ sc e, mE T N me .E sc e = false) (ha : ∀ sc e, mE T N me .A sc e = false) : SndAll T N me :=
  ⟨fun X G c sc W k e _ hm => (by rw [he] at hm; cases hm), fun X G c sc W k es _ hm => (by rw [ha] at hm; cases hm), h, fun X G c sc W k e _ hm => (by rw [hf] at hm; cases hm)⟩
theorem snd_compA {elt cond it : ME} {t : Tg} {own : List Nat} (ihe : SndAll T N elt) (ihc : SndAll T N cond) (ihi : SndAll T N it) {X : Cx} {G : Gi} {c : Mini.Ctx} {sc : Scope} {W : WX} {k : Nat} {e : Expr} (h : Here X T G c sc N W k)
    (hm : mE T N (.comp elt cond it t own) .E sc e = true) : SndC X G c W (.comp elt cond it t own) e := by
  obtain ⟨⟨x, tg, iter, co, scope⟩, h1, h2⟩ := any_some (and_t hm).2
  obtain ⟨q, rfl⟩ := asComp_eq h1
  obtain ⟨h2, h8⟩ := and_t h2
  obtain ⟨h2, h7⟩ := and_t h2
  obtain ⟨h2, h6⟩ := and_t h2
  obtain ⟨h2, h5⟩ := and_t h2
  obtain ⟨h2, h4⟩ := and_t h2
  obtain ⟨h2, h3⟩ := and_t h2
  refine snd_compC h (ihi.I X G c sc W k tg iter h h2 h6) (fun v => plain_fold (mI_plain h2) X.env v) h3 h4 (fun i hi => ?_) ?_ fun X' hid l hh => ihe.E X' _ _ _ _ k x hh h8
  · have z := List.all_eq_true.mp h5 i hi
    simpa using z
  · cases co with
    | none => exact .inl ⟨rfl, h7⟩
    | some z =>
      obtain ⟨h9, h10⟩ := and_t h7
      exact .inr ⟨z, rfl, by simpa using h9, fun X' hid l hh => ihc.E X' _ _ _ _ k z hh h10⟩
theorem snd_comp2A {elt cond it2 it : ME} {t2 t : Tg} {own : List Nat} (ihe : SndAll T N elt) (ihc : SndAll T N cond) (ihi2 : SndAll T N it2) (ihi : SndAll T N it) {X : Cx} {G : Gi} {c : Mini.Ctx} {sc : Scope} {W : WX} {k : Nat} {e : Expr} (h : Here X T G c sc N W k)
    (hm : mE T N (.comp2 elt cond it2 t2 it t own) .E sc e = true) : SndC X G c W (.comp2 elt cond it2 t2 it t own) e := by
  obtain ⟨⟨x, tg, iter, tg1, iter1, co, scope⟩, h1, h2⟩ := any_some (and_t hm).2
  obtain ⟨q, rfl⟩ := asComp2_eq h1
  obtain ⟨h2, h12⟩ := and_t h2
  obtain ⟨h2, h11⟩ := and_t h2
  obtain ⟨h2, h10⟩ := and_t h2
  obtain ⟨h2, h9⟩ := and_t h2
  obtain ⟨h2, h8⟩ := and_t h2
  obtain ⟨h2, h7⟩ := and_t h2
  obtain ⟨h2, h6⟩ := and_t h2
  obtain ⟨h2, h5⟩ := and_t h2
  obtain ⟨h2, h4⟩ := and_t h2
  obtain ⟨h2, h3⟩ := and_t h2
  have sub : ∀ t : Tg, (tgSlots t).all (fun i => own.contains i) = true → ∀ i ∈ tgSlots t, i ∈ own := fun t ht i hi => by
    have z := List.all_eq_true.mp ht i hi
    simpa using z
  refine snd_comp2C h (ihi.I X G c sc W k tg iter h h2 h8) (fun v => plain_fold (mI_plain h2) X.env v) h3 h4 h5 (sub t h6) (sub t2 h7) (fun X' hid l hh => ihi2.I X' _ _ _ _ k tg1 iter1 hh h10 h9) (fun env v => plain_fold (mI_plain h10) env v) ?_ fun X' hid l hh => ihe.E X' _ _ _ _ k x hh h12
  cases co with
  | none => exact .inl ⟨rfl, h11⟩
  | some z =>
    obtain ⟨h13, h14⟩ := and_t h11
    exact .inr ⟨z, rfl, by simpa using h13, fun X' hid l hh => ihc.E X' _ _ _ _ k z hh h14⟩
theorem snd_all (me : ME) : SndAll T N me := by
  induction me with
  | never => exact .ofE (fun X G c sc W k e h hm => snd_bad fun _ _ => rfl) rfl (fun _ _ => rfl) (fun _ _ => rfl)
  | c d => exact .ofE (fun X G c sc W k e h hm => snd_c h (and_t hm).2) rfl (fun _ _ => rfl) (fun _ _ => rfl)
  | v i => exact .ofE (fun X G c sc W k e h hm => snd_v h hm) rfl (fun _ _ => rfl) (fun _ _ => rfl)
  | g i => exact .ofE (fun X G c sc W k e h hm => snd_g h hm) rfl (fun _ _ => rfl) (fun _ _ => rfl)
  | bin o a b iha ihb =>
    refine .ofF (fun X G c sc W k e h hm => ?_) (fun sc e hm env w => ?_) (fun _ _ => rfl) (fun _ _ => rfl)
    · obtain ⟨p, h1, h2⟩ := any_some (and_t hm).2
      obtain ⟨q, rfl⟩ := asBin_eq h1
      obtain ⟨h2, h4⟩ := and_t h2
      obtain ⟨h2, h3⟩ := and_t h2
      rw [← of_decide_eq_true h2]
      exact snd_binN h (iha.E X G c sc W k _ h h3) (ihb.E X G c sc W k _ h h4)
    · obtain ⟨p, h1, h2⟩ := any_some (and_t hm).2
      obtain ⟨q, rfl⟩ := asBin_eq h1
      rfl
  | neg a iha =>
    refine .ofE (fun X G c sc W k e h hm => ?_) rfl (fun _ _ => rfl) (fun _ _ => rfl)
    obtain ⟨p, h1, h2⟩ := any_some (and_t hm).2
    obtain ⟨q, rfl⟩ := asUn_eq h1
    obtain ⟨h2, h3⟩ := and_t h2
    rw [of_decide_eq_true h2]
    exact snd_neg (iha.E X G c sc W k _ h h3)
  | not a iha =>
    refine .ofE (fun X G c sc W k e h hm => ?_) rfl (fun _ _ => rfl) (fun _ _ => rfl)
    obtain ⟨p, h1, h2⟩ := any_some (and_t hm).2
    obtain ⟨q, rfl⟩ := asUn_eq h1
    obtain ⟨h2, h3⟩ := and_t h2
    rw [of_decide_eq_true h2]
    exact snd_not (iha.E X G c sc W k _ h h3)
  | cmp o a b iha ihb =>
    refine .ofE (fun X G c sc W k e h hm => ?_) rfl (fun _ _ => rfl) (fun _ _ => rfl)
    obtain ⟨p, h1, h2⟩ := any_some (and_t hm).2
    obtain ⟨q, rfl⟩ := asCmp_eq h1
    obtain ⟨h2, h4⟩ := and_t h2
    obtain ⟨h2, h3⟩ := and_t h2
    rw [← of_decide_eq_true h2]
    exact snd_cmpE h (iha.E X G c sc W k _ h h3) (ihb.E X G c sc W k _ h h4) (mE_plain h4)
  | chain o r a b d iha ihb ihd =>
    refine .ofE (fun X G c sc W k e h hm => ?_) rfl (fun _ _ => rfl) (fun _ _ => rfl)
    obtain ⟨p, h1, h2⟩ := any_some (and_t hm).2
    obtain ⟨q, rfl⟩ := asChain_eq h1
    obtain ⟨h2, h6⟩ := and_t h2
    obtain ⟨h2, h5⟩ := and_t h2
    obtain ⟨h2, h4⟩ := and_t h2
    obtain ⟨h2, h3⟩ := and_t h2
    rw [← of_decide_eq_true h2, ← of_decide_eq_true h3]
    exact snd_chainE h (iha.E X G c sc W k _ h h4) (ihb.E X G c sc W k _ h h5) (ihd.E X G c sc W k _ h h6) (mE_plain h5) (mE_plain h6)
  | and a b iha ihb =>
    refine .ofE (fun X G c sc W k e h hm => ?_) rfl (fun _ _ => rfl) (fun _ _ => rfl)
    obtain ⟨p, h1, h2⟩ := any_some (and_t hm).2
    obtain ⟨h2, h3⟩ := and_t h2
    exact snd_andE h1 (iha.E X G c sc W k _ h h2) (ihb.E X G c sc W k _ h h3)
  | or a b iha ihb =>
    refine .ofE (fun X G c sc W k e h hm => ?_) rfl (fun _ _ => rfl) (fun _ _ => rfl)
    obtain ⟨p, h1, h2⟩ := any_some (and_t hm).2
    obtain ⟨h2, h3⟩ := and_t h2
    exact snd_orE h1 (iha.E X G c sc W k _ h h2) (ihb.E X G c sc W k _ h h3)
  | ife t a b iht iha ihb =>
    refine .ofE (fun X G c sc W k e h hm => ?_) rfl (fun _ _ => rfl) (fun _ _ => rfl)
    obtain ⟨p, h1, h2⟩ := any_some (and_t hm).2
    obtain ⟨q, rfl⟩ := asIf_eq h1
    obtain ⟨h2, h4⟩ := and_t h2
    obtain ⟨h2, h3⟩ := and_t h2
    exact snd_ifeE (iht.E X G c sc W k _ h h2) (iha.E X G c sc W k _ h h3) (ihb.E X G c sc W k _ h h4)
  | nil =>
    refine .ofA (fun X G c sc W k es h hm => ?_) rfl (fun _ _ => rfl) (fun _ _ => rfl)
    obtain ⟨p, h1, h2⟩ := any_some (and_t hm).2
    rcases asArgs_args h1 with ⟨rfl, rfl⟩ | ⟨a, r, rfl, rfl⟩
    · exact snd_nil
    · cases h2
  | cons a r iha ihr =>
    refine .ofA (fun X G c sc W k es h hm => ?_) rfl (fun _ _ => rfl) (fun _ _ => rfl)
    obtain ⟨p, h1, h2⟩ := any_some (and_t hm).2
    rcases asArgs_args h1 with ⟨rfl, rfl⟩ | ⟨x, rr, rfl, rfl⟩
    · cases h2
    · obtain ⟨h3, h4⟩ := and_t h2
      exact snd_cons (iha.E X G c sc W k _ h h3) (ihr.A X G c sc W k _ h h4) (mE_plain h3)
  | tup as ih =>
    refine .ofE (fun X G c sc W k e h hm => ?_) rfl (fun _ _ => rfl) (fun _ _ => rfl)
    obtain ⟨p, h1, h2⟩ := any_some (and_t hm).2
    obtain ⟨j, q, rfl⟩ := asTup_eq h1
    obtain ⟨h2, h3⟩ := and_t h2
    exact snd_tupE h3 (of_decide_eq_true h2) (ih.A X G c sc W k _ h h3)
  | lst as ih =>
    refine .ofF (fun X G c sc W k e h hm => ?_) (fun sc e hm env w => ?_) (fun _ _ => rfl) (fun _ _ => rfl)
    · obtain ⟨p, h1, h2⟩ := any_some (and_t hm).2
      obtain ⟨q, rfl⟩ := asLst_eq h1
      obtain ⟨h2, h3⟩ := and_t h2
      exact snd_lstN h3 (of_decide_eq_true h2) (ih.A X G c sc W k _ h h3)
    · obtain ⟨p, h1, h2⟩ := any_some (and_t hm).2
      obtain ⟨q, rfl⟩ := asLst_eq h1
      rfl
  | new a ih =>
    refine .ofE (fun X G c sc W k e h hm => ?_) rfl (fun _ _ => rfl) (fun _ _ => rfl)
    obtain ⟨hm, h3⟩ := and_t hm
    obtain ⟨_, h2⟩ := and_t hm
    refine (ih.F X G c sc W k e h h2 h3).new fun w => ?_
    cases a with
    | lst as => obtain ⟨x, h1, _⟩ := any_some (and_t h3).2; obtain ⟨p, rfl⟩ := asLst_eq h1; rfl
    | bin o a b => obtain ⟨x, h1, _⟩ := any_some (and_t h3).2; obtain ⟨p, rfl⟩ := asBin_eq h1; rfl
    | slc a b c => obtain ⟨x, h1, _⟩ := any_some (and_t h3).2; obtain ⟨p, q, rfl⟩ := asSlc_eq h1; rfl
    | rev a => obtain ⟨x, h1, _⟩ := any_some (and_t h3).2; obtain ⟨_, _, _, _, _, rfl⟩ := asRev_eq h1; rfl
    | comp a b c d f => obtain ⟨x, h1, _⟩ := any_some (and_t h3).2; obtain ⟨p, rfl⟩ := asComp_eq h1; rfl
    | comp2 a b c d e f g => obtain ⟨x, h1, _⟩ := any_some (and_t h3).2; obtain ⟨p, rfl⟩ := asComp2_eq h1; rfl
    | bf f as => obtain ⟨x, h1, _⟩ := any_some (and_t h3).2; obtain ⟨p, q, rfl⟩ := asCall_eq h1; rfl
    | _ => cases h2
  | idx a i iha ihi =>
    refine .ofE (fun X G c sc W k e h hm => ?_) rfl (fun _ _ => rfl) (fun _ _ => rfl)
    obtain ⟨p, h1, h2⟩ := any_some (and_t hm).2
    obtain ⟨q, rfl⟩ := asIdx_eq h1
    obtain ⟨h2, h3⟩ := and_t h2
    exact snd_idxE h (iha.E X G c sc W k _ h h2) (ihi.E X G c sc W k _ h h3) (mE_plain h3)
  | slc a lo hi iha ihl ihh =>
    refine .ofF (fun X G c sc W k e h hm => ?_) (fun sc e hm env w => ?_) (fun _ _ => rfl) (fun _ _ => rfl)
    · obtain ⟨⟨x, l, u⟩, h1, h2⟩ := any_some (and_t hm).2
      obtain ⟨q1, q2, rfl⟩ := asSlc_eq h1
      obtain ⟨h2, h4⟩ := and_t h2
      obtain ⟨h2, h3⟩ := and_t h2
      have part : ∀ (me : ME) (o : Option Expr), SndAll T N me → (match o with | none => mE.isNon me | some l => !mE.isNon me && mE T N me .E sc l) = true → SndO X G c W me o := by
        intro me o ih hq
        cases o with
        | none =>
          have hq : mE.isNon me = true := hq
          unfold mE.isNon at hq
          split at hq
          · exact snd_noPart
          · cases hq
        | some l => exact snd_part (ih.E X G c sc W k _ h (and_t hq).2)
      exact snd_slcN h (iha.E X G c sc W k _ h h2) (part lo l ihl h3) (part hi u ihh h4)
    · obtain ⟨p, h1, h2⟩ := any_some (and_t hm).2
      obtain ⟨q1, q2, rfl⟩ := asSlc_eq h1
      rfl
  | rev a ih =>
    refine .ofF (fun X G c sc W k e h hm => ?_) (fun sc e hm env w => ?_) (fun _ _ => rfl) (fun _ _ => rfl)
    · obtain ⟨p, h1, h2⟩ := any_some (and_t hm).2
      obtain ⟨_, _, _, _, _, rfl⟩ := asRev_eq h1
      exact snd_revN h (ih.E X G c sc W k _ h h2)
    · obtain ⟨p, h1, h2⟩ := any_some (and_t hm).2
      obtain ⟨_, _, _, _, _, rfl⟩ := asRev_eq h1
      rfl
  | call m f as ih =>
    refine .ofE (fun X G c sc W k e h hm => ?_) rfl (fun _ _ => rfl) (fun _ _ => rfl)
    obtain ⟨p, h1, h2⟩ := any_some (and_t hm).2
    obtain ⟨q1, q2, rfl⟩ := asCall_eq h1
    obtain ⟨h2, h5⟩ := and_t h2
    obtain ⟨h2, h4⟩ := and_t h2
    obtain ⟨h2, h3⟩ := and_t h2
    exact snd_callE h (of_decide_eq_true h2) h3 h4 h5 (ih.A X G c sc W k _ h h5)
  | bf f as ih =>
    have key : ∀ (X : Cx) (G : Gi) (c : Mini.Ctx) (sc : Scope) (W : WX) (k : Nat) (e : Expr), Here X T G c sc N W k → mE T N (.bf f as) .E sc e = true → (∃ t, PE X e t ∧ ∀ m : Bool, (m = true → f = .list ∨ f = .sorted) → GoodM m G c W (.bf f as) t) ∧ ∀ env whole, PySem.isTrue e env whole = (do let v ← whole; standAt e.pos; holding [v] (truthy v)) := fun X G c sc W k e h hm => by
      obtain ⟨p, h1, h2⟩ := any_some (and_t hm).2
      obtain ⟨q1, q2, rfl⟩ := asCall_eq h1
      obtain ⟨h2, h6⟩ := and_t h2
      obtain ⟨h2, h5⟩ := and_t h2
      obtain ⟨h2, h4⟩ := and_t h2
      obtain ⟨h2, h3⟩ := and_t h2
      have e1 := of_decide_eq_true h2
      rw [e1] at h3 h4 ⊢
      exact ⟨snd_bf h h3 h4 (by simpa using h5) h6 (ih.A X G c sc W k _ h h6), fun _ _ => rfl⟩
    refine ⟨fun X G c sc W k e h hm => ?_, fun X G c sc W k es h hm => (by cases (and_t hm).1), fun X G c sc W k tg e h hm => (by cases (and_t hm).1), fun X G c sc W k e h hf hm => ?_⟩
    · obtain ⟨⟨t, pe, g⟩, ht⟩ := key X G c sc W k e h hm
      exact .plain pe (g false fun z => nomatch z).ev fun w => ht X.env w
    · obtain ⟨⟨t, pe, g⟩, ht⟩ := key X G c sc W k e h hm
      refine ⟨t, pe, fun m => g m fun _ => ?_⟩
      cases f <;> first | exact .inl rfl | exact .inr rfl | cases hf
  | mt m o as iho iha =>
    refine .ofE (fun X G c sc W k e h hm => ?_) rfl (fun _ _ => rfl) (fun _ _ => rfl)
    obtain ⟨⟨x, nm, es⟩, h1, h2⟩ := any_some (and_t hm).2
    obtain ⟨ap, cp, rfl, hl, hn⟩ := asMeth_eq h1
    obtain ⟨h2, h6⟩ := and_t h2
    obtain ⟨h2, h5⟩ := and_t h2
    obtain ⟨h2, h4⟩ := and_t h2
    obtain ⟨h0, h3⟩ := and_t h2
    have e1 : nm = mtName m := of_decide_eq_true h3
    subst e1
    exact snd_mt h (iho.E X G c sc W k _ h h5) (mE_plain h5) hn hl (of_decide_eq_true h4) h0 h6 (iha.A X G c sc W k _ h h6)
  | it a ih =>
    refine .ofI (fun X G c sc W k tg e h hm _ => ?_) rfl (fun _ _ => rfl) (fun _ _ => rfl)
    exact snd_itI h (ih.E X G c sc W k _ h (and_t hm).2)
  | rng as ih =>
    refine .ofI (fun X G c sc W k tg e h hm _ => ?_) rfl (fun _ _ => rfl) (fun _ _ => rfl)
    obtain ⟨⟨x, es⟩, h1, h2⟩ := any_some (and_t hm).2
    obtain ⟨q1, q2, rfl⟩ := asCall_eq h1
    obtain ⟨h2, h6⟩ := and_t h2
    obtain ⟨h2, h5⟩ := and_t h2
    obtain ⟨h2, h4⟩ := and_t h2
    obtain ⟨h2, h3⟩ := and_t h2
    have e1 : x = _ := of_decide_eq_true h2
    subst e1
    exact snd_rngI h h3 h4 (of_decide_eq_true h5) h6 (ih.A X G c sc W k _ h h6)
  | enum a ih =>
    refine .ofI (fun X G c sc W k tg e h hm ht => ?_) rfl (fun _ _ => rfl) (fun _ _ => rfl)
    obtain ⟨⟨x, es⟩, h1, h2⟩ := any_some (and_t hm).2
    obtain ⟨q1, q2, rfl⟩ := asCall_eq h1
    obtain ⟨h2, h6⟩ := and_t h2
    obtain ⟨h2, h4⟩ := and_t h2
    obtain ⟨h2, h3⟩ := and_t h2
    have e1 : x = _ := of_decide_eq_true h2
    subst e1
    obtain ⟨ts, kk, tp, rfl⟩ := isTup_eq (show isTupE tg = true from ht)
    match es, h6 with
    | [z], h6 => exact snd_enumI h h3 h4 (ih.E X G c sc W k _ h h6) (mE_plain h6)
    | [], h6 => cases h6
    | _ :: _ :: _, h6 => cases h6
  | zip a b iha ihb =>
    refine .ofI (fun X G c sc W k tg e h hm ht => ?_) rfl (fun _ _ => rfl) (fun _ _ => rfl)
    obtain ⟨⟨x, es⟩, h1, h2⟩ := any_some (and_t hm).2
    obtain ⟨q1, q2, rfl⟩ := asCall_eq h1
    obtain ⟨h2, h6⟩ := and_t h2
    obtain ⟨h2, h4⟩ := and_t h2
    obtain ⟨h2, h3⟩ := and_t h2
    have e1 : x = _ := of_decide_eq_true h2
    subst e1
    obtain ⟨ts, kk, tp, rfl⟩ := isTup_eq (show isTupE tg = true from ht)
    match es, h6 with
    | [z, z2], h6 =>
      obtain ⟨h6, h7⟩ := and_t h6
      exact snd_zipI h h3 h4 (iha.E X G c sc W k _ h h6) (ihb.E X G c sc W k _ h h7) (mE_plain h6) (mE_plain h7)
    | [], h6 => cases h6
    | [_], h6 => cases h6
    | _ :: _ :: _ :: _, h6 => cases h6
  | comp elt cond it t own ihe ihc ihi =>
    refine .ofF (fun X G c sc W k e h hm => (snd_compA ihe ihc ihi h hm).n) (fun sc e hm env w => ?_) (fun _ _ => rfl) (fun _ _ => rfl)
    obtain ⟨p, h1, h2⟩ := any_some (and_t hm).2
    obtain ⟨q, rfl⟩ := asComp_eq h1
    rfl
  | comp2 elt cond it2 t2 it t own ihe ihc ihi2 ihi =>
    refine .ofF (fun X G c sc W k e h hm => (snd_comp2A ihe ihc ihi2 ihi h hm).n) (fun sc e hm env w => ?_) (fun _ _ => rfl) (fun _ _ => rfl)
    obtain ⟨p, h1, h2⟩ := any_some (and_t hm).2
    obtain ⟨q, rfl⟩ := asComp2_eq h1
    rfl
end
end MiniS
set_option autoImplicit false
set_option maxRecDepth 100000
set_option maxHeartbeats 4000000
namespace MiniS
open PySem PySem.Spec PyProof.Rows L2 Mini
def isLC : Expr → Bool
  | .ListComp .. => true
  | _ => false
def swB (sc : Scope) (y : PySem.Str) (py : Pos) : Expr → Bool
  | .ListComp _ _ scope pos => (sc.names.lookup y == some .local) && py.line == pos.line && !(scope.names.any fun (n, k) => n == y && (k == .local || k == .cell))
  | _ => false
def swPlan (sc : Scope) (ts vs : List Expr) : Option (Option (List PySem.Str)) :=
  if (!(ts.length == 2 || ts.length == 3) || vs.length != ts.length) = true then some none
  else if (vs.any fun | .Starred .. => true | _ => false) = true then some none
  else
    let line := (ts.head?.map (·.pos.line)).getD 0
    let names := ts.filterMap fun
      | .Name id pos => if (sc.names.lookup id == some .local && pos.line == line) = true then some id else none
      | _ => none
    if (names.length != ts.length || names.eraseDups.length != names.length) = true then some none
    else if vs.all (foldedForSure 8) = true then some none
    else if vs.all (constantsAlone 8) = true then none
    else some (some names)
def swPlanE (env : Env) (ts vs : List Expr) : Option (Option (List PySem.Str)) :=
  if (!(ts.length == 2 || ts.length == 3) || vs.length != ts.length) = true then some none
  else if (vs.any fun | .Starred .. => true | _ => false) = true then some none
  else
    let line := (ts.head?.map (·.pos.line)).getD 0
    let names := ts.filterMap fun
      | .Name id pos => if (env.kindOf id == some .local && pos.line == line) = true then some id else none
      | _ => none
    if (names.length != ts.length || names.eraseDups.length != names.length) = true then some none
    else if vs.all (foldedForSure 8) = true then some none
    else if vs.all (constantsAlone 8) = true then none
    else some (some names)
def asTupE : Expr → Option (List Expr)
  | .Tuple es _ _ => some es
  | _ => none
def isCompM : ME → Bool
  | .comp _ _ _ _ _ => true
  | .new (.comp _ _ _ _ _) => true
  | .comp2 _ _ _ _ _ _ _ => true
  | .new (.comp2 _ _ _ _ _ _ _) => true
  | _ => false
def distB : List Nat → Bool
  | [] => true
  | i :: is => !is.contains i && distB is
def tupArgs : ME → Option ME
  | .tup as => some as
  | _ => none
def isRaise : Stmt → Bool
  | .Raise .. => true
  | _ => false
def mPar (sc : Scope) (ts : List Expr) (me : ME) (e : Expr) : Bool :=
  match asTupE e with
  | none => true
  | some vs => match swPlan sc ts vs with
    | none => false
    | some none => true
    | some (some _) => (tupArgs me).isSome
def asNone : List Stmt → Bool
  | [] => true
  | [.Pass _] => true
  | _ => false
def asOne : List Stmt → Bool
  | [_] => true
  | _ => false
def asSeq : List Stmt → Option (Stmt × List Stmt)
  | s :: t :: r => some (s, t :: r)
  | _ => none
def asSet1 : List Stmt → Option (PySem.Str × Pos × Expr × Pos)
  | [.Assign [.Name x p] e q] => some (x, p, e, q)
  | _ => none
def asSetM : List Stmt → Option (List Expr × Nat × Pos × Expr × Pos)
  | [.Assign [.Tuple ts j p] e q] => some (ts, j, p, e, q)
  | _ => none
def asSetI : List Stmt → Option (Expr × Expr × Pos × Expr × Pos)
  | [.Assign [.Subscript o i p] e q] => some (o, i, p, e, q)
  | _ => none
def asAug : List Stmt → Option (PySem.Str × Pos × Operator × Expr × Pos)
  | [.AugAssign (.Name x p) op e q] => some (x, p, op, e, q)
  | _ => none
def asAugI : List Stmt → Option (Expr × Expr × Pos × Operator × Expr × Pos)
  | [.AugAssign (.Subscript o i p) op e q] => some (o, i, p, op, e, q)
  | _ => none
def asIfS : List Stmt → Option (Expr × List Stmt × List Stmt × Pos)
  | [.If c p q pos] => some (c, p, q, pos)
  | _ => none
def asFor : List Stmt → Option (Expr × Expr × List Stmt × Pos)
  | [.For t i b [] pos] => some (t, i, b, pos)
  | _ => none
def asWhile : List Stmt → Option (Expr × List Stmt × Pos)
  | [.While c b [] pos] => some (c, b, pos)
  | _ => none
def asRet : List Stmt → Option (Option Expr × Pos)
  | [.Return e pos] => some (e, pos)
  | _ => none
def asExprS : List Stmt → Option (Expr × Pos)
  | [.Expr e pos] => some (e, pos)
  | _ => none
def asBrk : List Stmt → Bool
  | [.Break _] => true
  | _ => false
def asCont : List Stmt → Bool
  | [.Continue _] => true
  | _ => false
def mAsg (T : Tab) (N : List PySem.Str) (sc : Scope) (t : Tg) (me : ME) (ss : List Stmt) : Bool :=
  match t with
  | .one i => (asSet1 ss).any fun p => decide (N[i]? = some p.1) && locB sc p.1 && mE T N me .E sc p.2.2.1 && (!swB sc p.1 p.2.1 p.2.2.1 || isCompM me)
  | .many is => (asSetM ss).any fun p => namesB N sc is p.1 && distB is && mE T N me .E sc p.2.2.2.1 && mPar sc p.1 me p.2.2.2.1
def mS (T : Tab) (N : List PySem.Str) (sc : Scope) : MS → List Stmt → Bool
  | .never, ss => asOne ss
  | .skip, ss => asNone ss
  | .seq a b, ss => (asSeq ss).any fun p => mS T N sc a [p.1] && mS T N sc b p.2
  | .asg t me, ss => mAsg T N sc t me ss
  | .setix o i me, ss => (asSetI ss).any fun p => mE T N o .E sc p.1 && mE T N i .E sc p.2.1 && mE T N me .E sc p.2.2.2.1
  | .aug o i me, ss => (asAug ss).any fun p => decide (N[i]? = some p.1) && locB sc p.1 && decide (opOf o = p.2.2.1) && mE T N me .E sc p.2.2.2.1
  | .augix op o i me, ss => (asAugI ss).any fun p => mE T N o .E sc p.1 && mE T N i .E sc p.2.1 && decide (opOf op = p.2.2.2.1) && mE T N me .E sc p.2.2.2.2.1
  | .ife t a b, ss => (asIfS ss).any fun p => mE T N t .E sc p.1 && mS T N sc a p.2.1 && mS T N sc b p.2.2.1
  | .for_ t it b, ss => (asFor ss).any fun p => mT N sc t p.1 && mE T N it .I sc p.2.1 && (mE.itPlain it || isTupE p.1) && mS T N sc b p.2.2.1
  | .while_ t b, ss => (asWhile ss).any fun p => mE T N t .E sc p.1 && mS T N sc b p.2.1
  | .ret me, ss => (asRet ss).any fun p => p.1.any fun e => mE T N me .E sc e
  | .retN, ss => (asRet ss).any fun p => p.1.isNone
  | .raise _, _ => false
  | .expr me, ss => (asExprS ss).any fun p => mE T N me .E sc p.1 && !isLC p.1
  | .brk, ss => asBrk ss
  | .cont, ss => asCont ss
def PostS (G : Gi) (ρ : List Addr) (H : Hp) (r : RS) (D : Ends) (W : WX) : Prop :=
  match r with
  | .nx σd M' => ∀ σ' ρ' H', Le G ρ H ρ' H' → RepH G ρ' M' H' → RepS G ρ' H' σd σ' → D.nx σ' H'
  | .rt d M' => ∀ v ρ' H', Le G ρ H ρ' H' → RepH G ρ' M' H' → Rep G ρ' H' d v → D.rt v H'
  | .bk σd M' => ∀ σ' ρ' H', Le G ρ H ρ' H' → RepH G ρ' M' H' → RepS G ρ' H' σd σ' → D.bk σ' H'
  | .ct σd M' => ∀ σ' ρ' H', Le G ρ H ρ' H' → RepH G ρ' M' H' → RepS G ρ' H' σd σ' → D.ct σ' H'
  | .exc k σd M' => ∀ σ' ρ' H', Le G ρ H ρ' H' → RepH G ρ' M' H' → RepS G ρ' H' σd σ' → W (.ref (G.ca k)) none σ' H'
  | .stuck => False
def GoodS (G : Gi) (c : Mini.Ctx) (W : WX) (ms : MS) (t : TS) : Prop :=
  ∀ (ρ : List Addr) (M : MH) (H : Hp) (σd : Sl) (σ : L2.St) (D : Ends), RepH G ρ M H → RepS G ρ H σd σ → PostS G ρ H (exec c ms σd M) D W → t D σ H
def SndS (X : Cx) (G : Gi) (c : Mini.Ctx) (W : WX) (ms : MS) (ss : List Stmt) : Prop := ∃ t, PSs X ss t ∧ GoodS G c W ms t
def SndS1 (X : Cx) (G : Gi) (c : Mini.Ctx) (W : WX) (ms : MS) (s : Stmt) : Prop := ∃ t, PS X s t ∧ GoodS G c W ms t
structure HereS (X : Cx) (T : Tab) (G : Gi) (c : Mini.Ctx) (sc : Scope) (N : List PySem.Str) (W : WX) (k : Nat) : Prop where
  h : Here X T G c sc N W k
  own : PassesOwn (model X.prog X.w) X.A X.env X.xe
  loc : LocOk X sc
section
variable {X : Cx} {T : Tab} {G : Gi} {c : Mini.Ctx} {sc : Scope} {N : List PySem.Str} {W : WX} {k : Nat} {e tg : Expr}
theorem PostS.mono {ρ ρ' : List Addr} {H H' : Hp} {r : RS} {D : Ends} (l : Le G ρ H ρ' H') (p : PostS G ρ H r D W) : PostS G ρ' H' r D W := by
  cases r with
  | nx σd M' => exact fun σ' ρ2 H2 l2 => p σ' ρ2 H2 (l.trans l2)
  | rt d M' => exact fun v ρ2 H2 l2 => p v ρ2 H2 (l.trans l2)
  | bk σd M' => exact fun σ' ρ2 H2 l2 => p σ' ρ2 H2 (l.trans l2)
  | ct σd M' => exact fun σ' ρ2 H2 l2 => p σ' ρ2 H2 (l.trans l2)
  | exc j σd M' => exact fun σ' ρ2 H2 l2 => p σ' ρ2 H2 (l.trans l2)
  | stuck => exact p
theorem SndS1.s {ms : MS} {s : Stmt} (h : SndS1 X G c W ms s) : SndS X G c W ms [s] := let ⟨t, p, g⟩ := h; ⟨t, pss_one p, g⟩
theorem GoodE.runS {me : ME} {t : TE} (g : GoodE G c W me t) {ρ : List Addr} {M : MH} {H : Hp} {σd : Sl} {σ : L2.St} {f : D → MH → RS} {D : Ends} {Q' : VK} (rh : RepH G ρ M H) (rs : RepS G ρ H σd σ) (p : PostS G ρ H ((ev c me σd M).to σd f) D W)
    (h : ∀ d M' v ρ' H', ev c me σd M = .ok d M' → Le G ρ H ρ' H' → RepH G ρ' M' H' → RepS G ρ' H' σd σ → Rep G ρ' H' d v → PostS G ρ' H' (f d M') D W → Q' v H') : t σ H Q' := by
  refine g.go rh rs (fun d M' e1 v ρ' H' l rh' rs' rv => ?_) (fun j M' e1 => ?_) fun e1 => ?_
  · rw [e1] at p; exact h d M' v ρ' H' e1 l rh' rs' rv (PostS.mono l p)
  · rw [e1] at p; exact fun ρ' H' l rh' => p σ ρ' H' l rh' (rs.mono l)
  · rw [e1] at p; exact p
theorem GoodA.runS {as : ME} {t : TA} (g : GoodA G c W as t) {es : List Expr} (hm : mE T N as .A sc (args es) = true) {ρ : List Addr} {M : MH} {H : Hp} {σd : Sl} {σ : L2.St} {f : D → MH → RS} {D : Ends} {Q' : List V → Hp → Prop} (rh : RepH G ρ M H) (rs : RepS G ρ H σd σ) (p : PostS G ρ H ((ev c as σd M).to σd f) D W)
    (h : ∀ ds M' vs ρ' H', ds.length = es.length → Le G ρ H ρ' H' → RepH G ρ' M' H' → RepS G ρ' H' σd σ → Reps G ρ' H' ds vs → PostS G ρ' H' (f (.tup ds) M') D W → Q' vs H') : t σ H Q' := by
  refine g.go hm rh rs (fun ds M' e1 hn vs ρ' H' l rh' rs' rv => ?_) (fun j M' e1 => ?_) fun e1 => ?_
  · rw [e1] at p; exact h ds M' vs ρ' H' hn l rh' rs' rv (PostS.mono l p)
  · rw [e1] at p; exact fun ρ' H' l rh' => p σ ρ' H' l rh' (rs.mono l)
  · rw [e1] at p; exact p
theorem block_fn {env : Env} (hk : env.scope.kind = .function) : env.blockKind = .function := by unfold Env.blockKind; rw [hk]; rfl
theorem sw_plain {env : Env} {l : Nat} {t : Option Expr} (h : plainB e = true) (hl : isLC e = false) : swapsWith e t l env = pure false := by
  cases e <;> first | rfl | (cases h; done) | (cases hl; done)
theorem sw_comp {env : Env} {y : PySem.Str} {py : Pos} {l : Nat} (hk : env.scope.kind = .function) (h : plainB e = true) : swapsWith e (some (.Name y py)) l env = pure (swB env.scope y py e) := by
  cases e <;> first | rfl | (cases h; done) | skip
  rename_i elt gs scope pos
  have hb := block_fn hk
  unfold swapsWith swB
  simp only [hb, Env.kindOf, Expr.pos]
  rfl
theorem sw_tup {env : Env} {ts : List Expr} {j : Nat} {p : Pos} {l : Nat} (h : plainB e = true) : swapsWithSole [.Tuple ts j p] e l env = pure false := by
  cases e <;> first | rfl | (cases h; done)
theorem sw_sub {env : Env} {o i : Expr} {p : Pos} {l : Nat} (h : plainB e = true) : swapsWithSole [.Subscript o i p] e l env = pure false := by
  cases e <;> first | rfl | (cases h; done)
theorem st_sub {env : Env} {o i : Expr} {p : Pos} : swappedStores [.Subscript o i p] e env = pure none := by
  cases e <;> rfl
theorem st_plan {env : Env} {ts vs : List Expr} {j j2 : Nat} {p p2 : Pos} (hk : env.scope.kind = .function) {o : Option (List PySem.Str)} (h : swPlan env.scope ts vs = some o) : swappedStores [.Tuple ts j p] (.Tuple vs j2 p2) env = pure o := by
  have hb := block_fn hk
  change swPlanE env ts vs = some o at h
  unfold swPlanE at h
  unfold swappedStores
  rw [hb]
  split at h
  · rename_i h1
    cases h
    show (if (_ || (ScopeKind.function != ScopeKind.function)) = true then _ else _) = _
    rw [if_pos (by rw [h1]; rfl)]
  · rename_i h1
    show (if (_ || (ScopeKind.function != ScopeKind.function)) = true then _ else _) = _
    rw [if_neg (by rw [Bool.eq_false_iff.mpr h1]; exact fun z => nomatch z)]
    split at h
    · rename_i h2
      cases h
      exact if_pos h2
    · rename_i h2
      refine (if_neg h2).trans ?_
      dsimp only at h ⊢
      split at h
      · rename_i h3
        cases h
        exact if_pos h3
      · rename_i h3
        refine (if_neg h3).trans ?_
        split at h
        · rename_i h4
          cases h
          exact if_pos h4
        · rename_i h4
          refine (if_neg h4).trans ?_
          split at h
          · cases h
          · rename_i h5
            cases h
            exact if_neg h5
theorem st_other {env : Env} {ts : List Expr} {j : Nat} {p : Pos} (h : asTupE e = none) : swappedStores [.Tuple ts j p] e env = pure none := by
  cases e <;> first | rfl | (cases h; done)
end
end MiniS
set_option autoImplicit false
set_option maxRecDepth 100000
set_option maxHeartbeats 4000000
namespace MiniS
open PySem PySem.Spec PyProof.Rows L2 Mini
section
variable {X : Cx} {T : Tab} {G : Gi} {c : Mini.Ctx} {sc : Scope} {N : List PySem.Str} {W : WX} {k : Nat} {e tg : Expr}
theorem PostS.toE {ρ : List Addr} {H : Hp} {r : R D} {f : D → MH → RS} {D : Ends} {σd : Sl} {σ : L2.St} (rs : RepS G ρ H σd σ) (p : PostS G ρ H (r.to σd f) D W) :
    PostE G ρ H r (fun v H' => ∃ d M' ρ', r = .ok d M' ∧ Le G ρ H ρ' H' ∧ RepH G ρ' M' H' ∧ Rep G ρ' H' d v ∧ PostS G ρ' H' (f d M') D W) (fun k H' => W (.ref (G.ca k)) none σ H') := by
  cases r with
  | ok d M' => exact fun v ρ' H' l rh' rv => ⟨d, M', ρ', rfl, l, rh', rv, PostS.mono l p⟩
  | exc j M' => exact fun ρ' H' l rh' => p σ ρ' H' l rh' (rs.mono l)
  | stuck => exact p
theorem snd_iop (o : Op) : ∃ t : TIp, PIp X (opOf o) t ∧ ∀ (ρ : List Addr) (M : MH) (H : Hp) (dx dy : D) (x y : V) (Q : VK) (E : Nat → Hp → Prop), RepH G ρ M H → Rep G ρ H dx x → Rep G ρ H dy y → PostE G ρ H (iop o dx dy M) Q E → t x y H Q := by
  have none_ : (∀ dx dy M, iop o dx dy M = .stuck) → ∃ t : TIp, PIp X (opOf o) t ∧ ∀ (ρ : List Addr) (M : MH) (H : Hp) (dx dy : D) (x y : V) (Q : VK) (E : Nat → Hp → Prop), RepH G ρ M H → Rep G ρ H dx x → Rep G ρ H dy y → PostE G ρ H (iop o dx dy M) Q E → t x y H Q := fun h =>
    ⟨fun _ _ _ _ => False, fun _ _ _ _ _ _ _ _ _ _ _ _ z => z.elim, fun ρ M H dx dy x y Q E _ _ _ p => by rw [h] at p; exact p⟩
  cases o with
  | add =>
    refine ⟨fun x y H Q => (∃ i j, x = .int i ∧ y = .int j ∧ Q (.int (i + j)) H) ∨ (∃ i j, x = .str i ∧ y = .str j ∧ i.length + j.length ≤ sizeLine ∧ Q (.str (i ++ j)) H), fun pins s σ H x y v u Q I rx ry h => ?_, fun ρ M H dx dy x y Q E rh rx ry p => ?_⟩
    · rcases h with h | h
      · exact ip_add pins s σ H x y v u Q I rx ry h
      · exact iop_add_str pins s σ H x y v u Q I rx ry h
    · cases dx with
      | int i =>
        cases dy with
        | int j => cases rx; cases ry; exact .inl ⟨i, j, rfl, rfl, PostE.here (d := .int (i + j)) p rh rfl⟩
        | _ => exact p.elim
      | str a =>
        cases dy with
        | str b =>
          obtain ⟨rfl, oka⟩ := rx
          obtain ⟨rfl, okb⟩ := ry
          change PostE G ρ H (if a.length + b.length ≤ 10000 then .ok (.str (a ++ b)) M else .stuck) Q E at p
          by_cases hz : a.length + b.length ≤ 10000
          · rw [if_pos hz] at p
            refine .inr ⟨mkS a, mkS b, rfl, rfl, by rw [mkS_length, mkS_length]; exact sz4 hz, ?_⟩
            rw [← mkS_append]
            refine PostE.here (d := .str (a ++ b)) p rh ⟨rfl, ?_⟩
            rw [strOk_iff] at oka okb ⊢
            intro c hc
            rcases List.mem_append.mp hc with hc | hc
            · exact oka c hc
            · exact okb c hc
          · rw [if_neg hz] at p; exact p.elim
        | _ => exact p.elim
      | _ => exact p.elim
  | sub =>
    refine ⟨_, ip_sub, fun ρ M H dx dy x y Q E rh rx ry p => ?_⟩
    cases dx with
    | int i =>
      cases dy with
      | int j => cases rx; cases ry; exact ⟨i, j, rfl, rfl, PostE.here (d := .int (i - j)) p rh rfl⟩
      | _ => exact p.elim
    | _ => exact p.elim
  | fdiv =>
    refine ⟨_, iop_fdiv, fun ρ M H dx dy x y Q E rh rx ry p => ?_⟩
    cases dx with
    | int i =>
      cases dy with
      | int j =>
        cases rx; cases ry
        change PostE G ρ H (if 0 < j ∧ j < 1073741824 then .ok (.int (i / j)) M else .stuck) Q E at p
        by_cases hz : 0 < j ∧ j < 1073741824
        · rw [if_pos hz] at p
          exact ⟨i, j, rfl, rfl, hz, PostE.here (d := .int (i / j)) p rh rfl⟩
        · rw [if_neg hz] at p; exact p.elim
      | _ => exact p.elim
    | _ => exact p.elim
  | mul => exact none_ fun dx dy M => by cases dx <;> cases dy <;> rfl
  | mod => exact none_ fun dx dy M => by cases dx <;> cases dy <;> rfl
  | pow => exact none_ fun dx dy M => by cases dx <;> cases dy <;> rfl
theorem get_any : PGet X (fun x y H Q => ∃ p xs i v, x = .ref p ∧ y = .int i ∧ H p = some (.lst xs) ∧ atI xs i = some v ∧ Q v H) := by
  intro pins s σ H o i ov iv Q I ro ri h
  obtain ⟨p, xs, i, z, rfl, rfl, hq, he, q⟩ := h
  cases ro
  obtain ⟨t, rfl⟩ := ri
  obtain ⟨its, r, pl, hz⟩ := I.list (xs := xs) (.of hq)
  obtain ⟨j, h1, h2, h3, h4, h5⟩ := atI_get he
  obtain ⟨w, ew, rw'⟩ := r.get h2
  have hl := r.length
  have hn := line63
  have fin : EP X pins σ Q w s := ⟨z, H, I, rw', q⟩
  by_cases h0 : 0 ≤ i
  · have hj : i.toNat = j := by
      rw [seqIndex_of h0 h5] at h1
      exact Option.some.inj h1
    exact wpAny_getItem_list pl.isList h0 (by omega) (by rw [hj]; simpa using ew) fin
  · have hj : (i + (its.toArray.size : Int)).toNat = j := by
      rw [seqIndex_neg (by omega) h4] at h1
      rw [List.size_toArray, ← hl]
      exact Option.some.inj h1
    exact wpAny_getItem_list_neg pl.isList (by omega) (by rw [List.size_toArray] <;> omega) (by omega) (by rw [hj]; simpa using ew) fin
theorem reps3 {ρ : List Addr} {H : Hp} {d1 d2 d3 : D} {vs : List V} (h : Reps G ρ H [d1, d2, d3] vs) : ∃ v1 v2 v3, vs = [v1, v2, v3] ∧ Rep G ρ H d1 v1 ∧ Rep G ρ H d2 v2 ∧ Rep G ρ H d3 v3 := by
  cases h with
  | cons a t =>
    obtain ⟨v, w, e, b, c⟩ := reps2 t rfl
    subst e
    exact ⟨_, _, _, rfl, a, b, c⟩
theorem snd_set1 (h : HereS X T G c sc N W k) {i : Nat} {me : ME} {x : PySem.Str} {p q : Pos} (hi : N[i]? = some x) (hl : locB sc x = true) (hm : mE T N me .E sc e = true) (hsw : swB sc x p e = false ∨ isCompM me = true) : SndS1 X G c W (.asg (.one i) me) (.Assign [.Name x p] e q) := by
  obtain ⟨lx, fx⟩ := h.loc x hl
  have good : ∀ te, GoodE G c W me te → GoodS G c W (.asg (.one i) me) (tAsg te (gName i)) := fun te g ρ M H σd σ D rh rs p => by
    change PostS G ρ H ((ev c me σd M).to σd fun d M => nxO ((Tg.one i).asg d σd) M) D W at p
    refine g.runS rh rs p fun d M' v ρ' H' e1 l rh' rs' rv p' => ?_
    change PostS G ρ' H' (nxO (if i < σd.length then some (σd.set i (some d)) else none) M') D W at p'
    split at p'
    · exact p' _ ρ' H' Le.refl rh' (rs'.set rv)
    · exact p'.elim
  have hx : X.N[i]? = some x := by rw [h.h.N]; exact hi
  have hpl := mE_plain hm
  have sw := sw_comp (env := X.env) (y := x) (py := p) (l := q.line) h.h.kind hpl
  rw [h.h.sc] at sw
  cases hb : swB sc x p e with
  | false =>
    obtain ⟨te, pe, g⟩ := ((snd_all me).E X G c sc W k e h.h hm).1
    exact ⟨_, ps_set h.h.nd hx lx pe (by rw [sw, hb]) fx, good te g⟩
  | true =>
    have hlocal : X.env.scope.names.lookup x = some .local := by
      rw [h.h.sc]
      unfold swB at hb
      split at hb
      · obtain ⟨hb, _⟩ := and_t hb
        obtain ⟨hb, _⟩ := and_t hb
        exact eq_of_beq hb
      · cases hb
    rcases hsw with z | z
    · rw [z] at hb; cases hb
    · have key : ∀ {elt cond it : ME} {t : Tg} {own : List Nat}, mE T N (.comp elt cond it t own) .E sc e = true → SndC X G c W (.comp elt cond it t own) e := fun hm => snd_compA (snd_all _) (snd_all _) (snd_all _) h.h hm
      unfold isCompM at z
      split at z
      · obtain ⟨te, pe, ps, g⟩ := key hm
        exact ⟨_, ps i x p q hx hlocal (by rw [sw, hb]), good te (g false).ev⟩
      · obtain ⟨te, pe, ps, g⟩ := key (and_t hm).2
        exact ⟨_, ps i x p q hx hlocal (by rw [sw, hb]), good _ (g true).new⟩
      · obtain ⟨te, pe, ps, g⟩ := snd_comp2A (snd_all _) (snd_all _) (snd_all _) (snd_all _) h.h hm
        exact ⟨_, ps i x p q hx hlocal (by rw [sw, hb]), good te (g false).ev⟩
      · obtain ⟨te, pe, ps, g⟩ := snd_comp2A (snd_all _) (snd_all _) (snd_all _) (snd_all _) h.h (and_t hm).2
        exact ⟨_, ps i x p q hx hlocal (by rw [sw, hb]), good _ (g true).new⟩
      · cases z
theorem namesB_eq : ∀ {is : List Nat} {ts : List Expr}, namesB N sc is ts = true → is.length = ts.length ∧ ∀ (j : Nat) (t : Expr), ts[j]? = some t → ∃ i x p, t = .Name x p ∧ is[j]? = some i ∧ N[i]? = some x ∧ locB sc x = true
  | [], [], _ => ⟨rfl, fun j t h => by simp at h⟩
  | [], _ :: _, h => by cases h
  | _ :: _, [], h => by cases h
  | i :: is, t :: ts, h => by
    cases t with
    | Name x p =>
      obtain ⟨h, h3⟩ := and_t (show (decide (N[i]? = some x) && locB sc x && namesB N sc is ts) = true from h)
      obtain ⟨h1, h2⟩ := and_t h
      obtain ⟨l, f⟩ := namesB_eq h3
      refine ⟨by simp [l], fun j t ht => ?_⟩
      cases j with
      | zero => simp at ht; subst ht; exact ⟨i, x, p, rfl, rfl, of_decide_eq_true h1, h2⟩
      | succ j =>
        obtain ⟨i', x', p', a, b, cc, d⟩ := f j t (by simpa using ht)
        exact ⟨i', x', p', a, by simpa using b, cc, d⟩
    | _ => cases h
theorem snd_setM (h : HereS X T G c sc N W k) {is : List Nat} {me : ME} {ts : List Expr} {j : Nat} {p q : Pos} (hn : namesB N sc is ts = true) (hd : distB is = true) (hm : mE T N me .E sc e = true) (hp : mPar sc ts me e = true) : SndS1 X G c W (.asg (.many is) me) (.Assign [.Tuple ts j p] e q) := by
  have hpl := mE_plain hm
  have usual : swappedStores [.Tuple ts j p] e X.env = pure none → SndS1 X G c W (.asg (.many is) me) (.Assign [.Tuple ts j p] e q) := fun hs => by
    obtain ⟨te, pe, g⟩ := ((snd_all me).E X G c sc W k e h.h hm).1
    obtain ⟨tg, pg, gg⟩ := snd_tg (X := X) (G := G) (e := .Tuple ts j p) (t := .many is) h.h.N h.h.nd h.h.calm h.h.K h.loc hn
    refine ⟨_, ps_asg pe pg (sw_tup hpl) hs rfl, fun ρ M H σd σ D rh rs p => ?_⟩
    change PostS G ρ H ((ev c me σd M).to σd fun d M => nxO ((Tg.many is).asg d σd) M) D W at p
    refine g.runS rh rs p fun d M' v ρ' H' e1 l rh' rs' rv p' => ?_
    cases ha : (Tg.many is).asg d σd with
    | none => rw [ha] at p'; exact p'.elim
    | some σd' =>
      rw [ha] at p'
      exact gg G.hid ρ' H' σd σ d v σd' _ rs' rv ha fun σ' rs2 _ => p' σ' ρ' H' Le.refl rh' rs2
  unfold mPar at hp
  cases ht : asTupE e with
  | none => exact usual (st_other ht)
  | some vs =>
    rw [ht] at hp
    have ee : ∃ j2 p2, e = .Tuple vs j2 p2 := by cases e <;> first | (cases ht; exact ⟨_, _, rfl⟩) | cases ht
    obtain ⟨j2, p2, rfl⟩ := ee
    dsimp only at hp
    cases hs : swPlan sc ts vs with
    | none => rw [hs] at hp; cases hp
    | some o =>
      rw [hs] at hp
      have st := st_plan (env := X.env) (j := j) (j2 := j2) (p := p) (p2 := p2) h.h.kind (by rw [h.h.sc]; exact hs)
      cases o with
      | none => exact usual st
      | some names =>
        have hmt : ∃ as, me = .tup as := by
          cases me <;> first | exact ⟨_, rfl⟩ | cases hp
        obtain ⟨as, rfl⟩ := hmt
        obtain ⟨es', h1, h2⟩ := any_some (and_t hm).2
        have h1 : some vs = some es' := h1
        cases h1
        obtain ⟨_, hA⟩ := and_t h2
        have ha := (snd_all as).A X G c sc W k vs h.h hA
        obtain ⟨ta, pa, ga⟩ := ha
        obtain ⟨ln, fn⟩ := namesB_eq hn
        unfold swPlan at hs
        split at hs
        · cases hs
        · rename_i c1
          split at hs
          · cases hs
          · dsimp only at hs
            split at hs
            · cases hs
            · rename_i c3
              split at hs
              · cases hs
              · split at hs
                · cases hs
                · cases hs
                  simp only [Bool.or_eq_true, Bool.not_eq_true', bne_iff_ne, ne_eq, not_or, Decidable.not_not, beq_iff_eq, Bool.not_eq_false] at c1 c3
                  obtain ⟨cl, cv⟩ := c1
                  have all : ∀ (l : List Expr) (f : Expr → Option PySem.Str), (l.filterMap f).length = l.length → ∀ t ∈ l, (f t).isSome = true := by
                    intro l f
                    induction l with
                    | nil => intro _ t ht; cases ht
                    | cons a l ih =>
                      intro hl t ht
                      rw [List.filterMap_cons] at hl
                      have le := List.length_filterMap_le f l
                      cases ha : f a with
                      | none => rw [ha] at hl; simp at hl; omega
                      | some b =>
                        rw [ha] at hl
                        rcases List.mem_cons.mp ht with rfl | ht
                        · rw [ha]; rfl
                        · exact ih (by simpa using hl) t ht
                  have allOk := all ts _ c3.1
                  have loc : ∀ (x : PySem.Str) (px : Pos), Expr.Name x px ∈ ts → X.env.scope.names.lookup x = some .local := fun x px hx => by
                    have z := allOk _ hx
                    dsimp only at z
                    rw [h.h.sc]
                    split at z
                    · rename_i hc
                      exact eq_of_beq (and_t hc).1
                    · cases z
                  rcases cl with hl2 | hl3
                  · match ts, is, ln, hl2, fn, loc, st, hd, cv, allOk, c3 with
                    | [t1, t2], [i1, i2], _, _, fn, loc, st, hd, cv, allOk, c3 =>
                      obtain ⟨i, x, px, rfl, e1, e2, e3⟩ := fn 0 t1 rfl
                      obtain ⟨i', y, py, rfl, e1', e2', e3'⟩ := fn 1 t2 rfl
                      cases e1
                      cases e1'
                      match vs, cv, pa, st, hA with
                      | [a, b], _, pa, st, hA =>
                        have hne : i1 ≠ i2 := fun z => by
                          subst z
                          simp [distB] at hd
                        have lx := loc x px (by simp)
                        have ly := loc y py (by simp)
                        have st2 : swappedStores [.Tuple [.Name x px, .Name y py] j p] (.Tuple [a, b] j2 p2) X.env = pure (some [x, y]) := by
                          rw [st]
                          have z1 := allOk (.Name x px) (by simp)
                          have z2 := allOk (.Name y py) (by simp)
                          dsimp only at z1 z2
                          split at z1
                          · split at z2
                            · rename_i q1 q2
                              simp only [List.filterMap_cons, List.filterMap_nil, q1, q2, if_true]
                            · cases z2
                          · cases z1
                        refine ⟨_, ps_par h.h.calm h.h.nd (by rw [h.h.N]; exact e2) (by rw [h.h.N]; exact e2') hne lx ly pa st2 rfl, fun ρ M H σd σ D rh rs p => ?_⟩
                        change PostS G ρ H ((ev c as σd M).to σd fun d M => nxO ((Tg.many [i1, i2]).asg d σd) M) D W at p
                        refine ga.runS hA rh rs p fun ds M' vs ρ' H' hn l rh' rs' rv p' => ?_
                        match ds, hn, rv, p' with
                        | [d1, d2], _, rv, p' =>
                          obtain ⟨v, w, rfl, r1, r2⟩ := reps2 rv rfl
                          refine ⟨v, w, rfl, ?_⟩
                          change PostS G ρ' H' (nxO (if i1 < σd.length then (if i2 < (σd.set i1 (some d1)).length then some ((σd.set i1 (some d1)).set i2 (some d2)) else none) else none) M') D W at p'
                          split at p'
                          · split at p'
                            · exact p' _ ρ' H' Le.refl rh' ((rs'.set r1).set r2)
                            · exact p'.elim
                          · exact p'.elim
                  · match ts, is, ln, hl3, fn, loc, st, hd, cv, allOk, c3 with
                    | [t1, t2, t3], [i1, i2, i3], _, _, fn, loc, st, hd, cv, allOk, c3 =>
                      obtain ⟨i, x, px, rfl, e1, e2, e3⟩ := fn 0 t1 rfl
                      obtain ⟨i', y, py, rfl, e1', e2', e3'⟩ := fn 1 t2 rfl
                      obtain ⟨i'', z, pz, rfl, e1'', e2'', e3''⟩ := fn 2 t3 rfl
                      cases e1
                      cases e1'
                      cases e1''
                      match vs, cv, pa, st, hA with
                      | [a, b, b3], _, pa, st, hA =>
                        have hne : i1 ≠ i2 ∧ i1 ≠ i3 ∧ i2 ≠ i3 := by
                          simp [distB] at hd
                          exact ⟨hd.1.1, hd.1.2, hd.2⟩
                        have lx := loc x px (by simp)
                        have ly := loc y py (by simp)
                        have lz := loc z pz (by simp)
                        have st2 : swappedStores [.Tuple [.Name x px, .Name y py, .Name z pz] j p] (.Tuple [a, b, b3] j2 p2) X.env = pure (some [x, y, z]) := by
                          rw [st]
                          have z1 := allOk (.Name x px) (by simp)
                          have z2 := allOk (.Name y py) (by simp)
                          have z3 := allOk (.Name z pz) (by simp)
                          dsimp only at z1 z2 z3
                          split at z1
                          · split at z2
                            · split at z3
                              · rename_i q1 q2 q3
                                simp only [List.filterMap_cons, List.filterMap_nil, q1, q2, q3, if_true]
                              · cases z3
                            · cases z2
                          · cases z1
                        refine ⟨_, ps_par3 h.h.calm h.h.nd (by rw [h.h.N]; exact e2) (by rw [h.h.N]; exact e2') (by rw [h.h.N]; exact e2'') hne.1 hne.2.1 hne.2.2 lx ly lz pa st2 rfl, fun ρ M H σd σ D rh rs p => ?_⟩
                        change PostS G ρ H ((ev c as σd M).to σd fun d M => nxO ((Tg.many [i1, i2, i3]).asg d σd) M) D W at p
                        refine ga.runS hA rh rs p fun ds M' vs ρ' H' hn l rh' rs' rv p' => ?_
                        match ds, hn, rv, p' with
                        | [d1, d2, d3], _, rv, p' =>
                          obtain ⟨v1, v2, v3, rfl, r1, r2, r3⟩ := reps3 rv
                          refine ⟨v1, v2, v3, rfl, ?_⟩
                          change PostS G ρ' H' (nxO (if i1 < σd.length then (if i2 < (σd.set i1 (some d1)).length then (if i3 < ((σd.set i1 (some d1)).set i2 (some d2)).length then some (((σd.set i1 (some d1)).set i2 (some d2)).set i3 (some d3)) else none) else none) else none) M') D W at p'
                          split at p'
                          · split at p'
                            · split at p'
                              · exact p' _ ρ' H' Le.refl rh' (((rs'.set r1).set r2).set r3)
                              · exact p'.elim
                            · exact p'.elim
                          · exact p'.elim
end
end MiniS
set_option autoImplicit false
set_option maxRecDepth 100000
set_option maxHeartbeats 4000000
namespace MiniS
open PySem PySem.Spec PyProof.Rows L2 Mini
section
variable {X : Cx} {T : Tab} {G : Gi} {c : Mini.Ctx} {sc : Scope} {N : List PySem.Str} {W : WX} {k : Nat} {e tg : Expr}
theorem asg_sub {env : Env} {o i : Expr} {pos : Pos} (hp : plainB i = true) (v : Value) : assign (.Subscript o i pos) env v = (do
      let ov ← holding [v] (eval o env)
      let iv ← holding [v, ov] (eval i env)
      standAt pos
      holding [v, ov, iv] (setItem ov iv v)
      release [v, ov, iv] []) := by
  cases i <;> first | rfl | (cases hp; done)
theorem aug_sub {i : Expr} (hp : plainB i = true) (ov iv new : Value) : augStore i ov iv new = (do holding [new, ov, iv] (setItem ov iv new); release [new, ov, iv] []; pure .next) := by
  cases i <;> first | rfl | (cases hp; done)
theorem snd_setix (h : HereS X T G c sc N W k) {o i me : ME} {o' i' : Expr} {p q : Pos} (ho : mE T N o .E sc o' = true) (hi : mE T N i .E sc i' = true) (hm : mE T N me .E sc e = true) : SndS1 X G c W (.setix o i me) (.Assign [.Subscript o' i' p] e q) := by
  obtain ⟨to, po, go⟩ := ((snd_all o).E X G c sc W k o' h.h ho).1
  obtain ⟨ti, pi, gi⟩ := ((snd_all i).E X G c sc W k i' h.h hi).1
  obtain ⟨te, pe, ge⟩ := ((snd_all me).E X G c sc W k e h.h hm).1
  obtain ⟨ts, ps, gs⟩ := snd_set (X := X) (G := G) (c := c)
  refine ⟨_, ps_asg pe (pg_sub po pi ps (asg_sub (mE_plain hi))) (sw_sub (mE_plain hm)) st_sub rfl, fun ρ M H σd σ D rh rs p => ?_⟩
  change PostS G ρ H ((ev c me σd M).to σd fun d M => (ev c o σd M).to σd fun x M => (ev c i σd M).to σd fun y M => (setD c x y d M).to σd fun _ M => .nx σd M) D W at p
  refine ge.runS rh rs p fun d M1 v ρ1 H1 e1 l1 rh1 rs1 rv1 p1 => ?_
  refine go.runS rh1 rs1 p1 fun x M2 vx ρ2 H2 e2 l2 rh2 rs2 rv2 p2 => ?_
  refine gi.runS rh2 rs2 p2 fun y M3 vy ρ3 H3 e3 l3 rh3 rs3 rv3 p3 => ?_
  refine gs ρ3 M3 H3 x y d vx vy v (fun _ H' => D.nx σ H') (fun k H' => W (.ref (G.ca k)) none σ H') rh3 (Rep.mono l3 _ _ rv2) rv3 (Rep.mono (l2.trans l3) _ _ rv1) ?_
  have z := PostS.toE (G := G) rs3 p3
  cases hs : setD c x y d M3 with
  | ok d' M4 =>
    rw [hs] at z
    intro w ρ4 H4 l4 rh4 rv4
    obtain ⟨d2, M5, ρ5, q1, q2, q3, q4, q5⟩ := z w ρ4 H4 l4 rh4 rv4
    exact q5 σ ρ5 H4 Le.refl q3 (rs3.mono q2)
  | exc j M4 => rw [hs] at z; exact z
  | stuck => rw [hs] at z; exact z
theorem snd_aug (h : HereS X T G c sc N W k) {o : Op} {i : Nat} {me : ME} {x : PySem.Str} {p q : Pos} (hi : N[i]? = some x) (hl : locB sc x = true) (hm : mE T N me .E sc e = true) : SndS1 X G c W (.aug o i me) (.AugAssign (.Name x p) (opOf o) e q) := by
  obtain ⟨te, pe, ge⟩ := ((snd_all me).E X G c sc W k e h.h hm).1
  obtain ⟨tp, pp, gp⟩ := snd_iop (X := X) (G := G) o
  obtain ⟨lx, fx⟩ := h.loc x hl
  refine ⟨_, ps_aug h.h.nd (by rw [h.h.N]; exact hi) lx pe pp fx, fun ρ M H σd σ D rh rs p => ?_⟩
  change PostS G ρ H ((R.ofOpt (σd[i]?.join) M).to σd fun x M => (ev c me σd M).to σd fun y M => (iop o x y M).to σd fun d M => nxO ((Tg.one i).asg d σd) M) D W at p
  cases hj : σd[i]?.join with
  | none => rw [hj] at p; exact p.elim
  | some d =>
    rw [hj] at p
    have e2 : σd[i]? = some (some d) := by
      cases e3 : σd[i]? with
      | none => rw [e3] at hj; cases hj
      | some o => rw [e3] at hj; cases o with
        | none => cases hj
        | some d' => cases hj; rfl
    obtain ⟨v, h5, h6⟩ := rs.2 i d e2
    refine ⟨v, h5, ?_⟩
    change PostS G ρ H ((ev c me σd M).to σd fun y M => (iop o d y M).to σd fun d M => nxO ((Tg.one i).asg d σd) M) D W at p
    refine ge.runS rh rs p fun y M1 vy ρ1 H1 e1 l1 rh1 rs1 rv1 p1 => ?_
    refine gp ρ1 M1 H1 d y v vy _ (fun k H' => W (.ref (G.ca k)) none σ H') rh1 (Rep.mono l1 _ _ h6) rv1 ?_
    have z := PostS.toE (G := G) rs1 p1
    cases hs : iop o d y M1 with
    | ok d' M4 =>
      rw [hs] at z
      intro w ρ4 H4 l4 rh4 rv4
      obtain ⟨d2, M5, ρ5, q1, q2, q3, q4, q5⟩ := z w ρ4 H4 l4 rh4 rv4
      cases q1
      change PostS G ρ5 H4 (nxO (if i < σd.length then some (σd.set i (some d')) else none) M4) D W at q5
      split at q5
      · exact q5 _ ρ5 H4 Le.refl q3 ((rs1.mono q2).set q4)
      · exact q5.elim
    | exc j M4 => rw [hs] at z; exact z
    | stuck => rw [hs] at z; exact z
theorem snd_augix (h : HereS X T G c sc N W k) {op : Op} {o i me : ME} {o' i' : Expr} {p q : Pos} (ho : mE T N o .E sc o' = true) (hi : mE T N i .E sc i' = true) (hm : mE T N me .E sc e = true) : SndS1 X G c W (.augix op o i me) (.AugAssign (.Subscript o' i' p) (opOf op) e q) := by
  obtain ⟨to, po, go⟩ := ((snd_all o).E X G c sc W k o' h.h ho).1
  obtain ⟨ti, pi, gi⟩ := ((snd_all i).E X G c sc W k i' h.h hi).1
  obtain ⟨te, pe, ge⟩ := ((snd_all me).E X G c sc W k e h.h hm).1
  obtain ⟨ts, ps, gs⟩ := snd_set (X := X) (G := G) (c := c)
  obtain ⟨tp, pp, gp⟩ := snd_iop (X := X) (G := G) op
  refine ⟨_, ps_augS po pi get_any pe pp ps (aug_sub (mE_plain hi)), fun ρ M H σd σ D rh rs p => ?_⟩
  change PostS G ρ H ((ev c o σd M).to σd fun x M => (ev c i σd M).to σd fun y M => (idxO x y M).to σd fun z M => (ev c me σd M).to σd fun d M => (iop op z d M).to σd fun r M => (setD c x y r M).to σd fun _ M => .nx σd M) D W at p
  refine go.runS rh rs p fun x M1 vx ρ1 H1 e1 l1 rh1 rs1 rv1 p1 => ?_
  refine gi.runS rh1 rs1 p1 fun y M2 vy ρ2 H2 e2 l2 rh2 rs2 rv2 p2 => ?_
  have rx2 := Rep.mono l2 _ _ rv1
  cases x with
  | obj n =>
    cases y with
    | int kk =>
      change PostS G ρ2 H2 ((R.ofOpt ((itemsL M2 (.obj n)).bind fun xs => Mini.get? xs kk) M2).to σd _) D W at p2
      cases hx : itemsL M2 (.obj n) with
      | none => rw [hx] at p2; exact p2.elim
      | some xs =>
        rw [hx] at p2
        change PostS G ρ2 H2 ((R.ofOpt (Mini.get? xs kk) M2).to σd _) D W at p2
        cases hg : Mini.get? xs kk with
        | none => rw [hg] at p2; exact p2.elim
        | some dz =>
          rw [hg] at p2
          obtain ⟨a, vs, rfl, g, q⟩ := itemsL_rep rh2 rx2 hx
          cases rv2
          rw [get_atI] at hg
          have hv : ∃ z, atI vs kk = some z ∧ Rep G ρ2 H2 dz z := by
            unfold atI at hg ⊢
            rw [← pd_length g]
            cases hix : ixN xs.length kk with
            | none => rw [hix] at hg; cases hg
            | some j =>
              rw [hix] at hg
              exact pd_get g hg
          obtain ⟨z, hz, rz⟩ := hv
          refine ⟨a, vs, kk, z, rfl, rfl, q, hz, ?_⟩
          change PostS G ρ2 H2 ((ev c me σd M2).to σd fun d M => (iop op dz d M).to σd fun r M => (setD c (.obj n) (.int kk) r M).to σd fun _ M => .nx σd M) D W at p2
          refine ge.runS rh2 rs2 p2 fun d M3 v ρ3 H3 e3 l3 rh3 rs3 rv3 p3 => ?_
          refine gp ρ3 M3 H3 dz d z v _ (fun k H' => W (.ref (G.ca k)) none σ H') rh3 (Rep.mono l3 _ _ rz) rv3 ?_
          have w := PostS.toE (G := G) rs3 p3
          cases hs : iop op dz d M3 with
          | ok d' M4 =>
            rw [hs] at w
            intro vw ρ4 H4 l4 rh4 rv4
            obtain ⟨d2, M5, ρ5, q1, q2, q3, q4, q5⟩ := w vw ρ4 H4 l4 rh4 rv4
            cases q1
            refine gs ρ5 M4 H4 (.obj n) (.int kk) d' _ _ vw (fun _ H' => D.nx σ H') (fun k H' => W (.ref (G.ca k)) none σ H') q3 (Rep.mono (l3.trans q2) _ _ rx2) rfl q4 ?_
            have rs5 := rs3.mono q2
            have w2 := PostS.toE (G := G) rs5 q5
            cases hs2 : setD c (.obj n) (.int kk) d' M4 with
            | ok d6 M6 =>
              rw [hs2] at w2
              intro vw6 ρ6 H6 l6 rh6 rv6
              obtain ⟨d2, M7, ρ7, q1, q2', q3, q4, q5⟩ := w2 vw6 ρ6 H6 l6 rh6 rv6
              exact q5 σ ρ7 H6 Le.refl q3 (rs5.mono q2')
            | exc j M6 => rw [hs2] at w2; exact w2
            | stuck => rw [hs2] at w2; exact w2
          | exc j M4 => rw [hs] at w; exact w
          | stuck => rw [hs] at w; exact w
    | _ => exact p2.elim
  | _ =>
    cases y <;> exact p2.elim
theorem snd_if {t : ME} {a b : MS} {x : Expr} {ss rr : List Stmt} {q : Pos} (ht : SndE X G c W t x) (ha : SndS X G c W a ss) (hb : SndS X G c W b rr) : SndS1 X G c W (.ife t a b) (.If x ss rr q) := by
  obtain ⟨tt, pt, gt⟩ := ht.2
  obtain ⟨ta, pa, ga⟩ := ha
  obtain ⟨tb, pb, gb⟩ := hb
  refine ⟨_, ps_if pt pa pb, fun ρ M H σd σ D rh rs p => ?_⟩
  change PostS G ρ H ((ev c t σd M).to σd fun x M => match x with | .bl true => exec c a σd M | .bl false => exec c b σd M | _ => .stuck) D W at p
  refine gt.run rh rs (fun d M' e1 => ?_) (fun j M' e1 => ?_) fun e1 => ?_
  · rw [e1] at p
    cases d with
    | bl z =>
      refine ⟨⟨z, rfl⟩, fun b' hb' ρ' H' l rh' rs' => ?_⟩
      cases hb'
      cases z with
      | true => exact ga ρ' M' H' σd σ D rh' rs' (PostS.mono l p)
      | false => exact gb ρ' M' H' σd σ D rh' rs' (PostS.mono l p)
    | _ => exact p.elim
  · rw [e1] at p; exact fun ρ' H' l rh' => p σ ρ' H' l rh' (rs.mono l)
  · rw [e1] at p; exact p
theorem mle_exec {ms : MS} {σd : Sl} {M M' : MH} {l : List Nat} (hc : CallOk c.call) (h : MRS c.fl (l ++ c.lk) M (exec (c.lock l) ms σd M) → MLe c.fl (l ++ c.lk) M M') : (M.length ≤ M'.length) ∧ ∀ n ∈ l, n < M.length → M'[n]? = M[n]? := by
  have z := h (mrs_exec ms (c.lock l) hc σd M)
  exact ⟨z.len, fun n hn hl => z.lock n (List.mem_append_left _ hn) hl⟩
theorem snd_for (h : HereS X T G c sc N W k) {t : Tg} {it : ME} {b : MS} {iter : Expr} {ss : List Stmt} {q : Pos} (ht : mT N sc t tg = true) (hi : SndI X G c W it tg iter) (hf : ∀ v, foldedSetIterable iter X.env v = pure v) (hb : ∀ l, SndS X G (c.lock l) W b ss) : SndS1 X G c W (.for_ t it b) (.For tg iter ss [] q) := by
  obtain ⟨wi, pi, gi⟩ := hi
  obtain ⟨g, pg, gg⟩ := snd_tg (X := X) (G := G) h.h.N h.h.nd h.h.calm h.h.K h.loc ht
  have hbody : PSs X ss (fun D σ H => ∃ l ρ M σd, RepH G ρ M H ∧ RepS G ρ H σd σ ∧ PostS G ρ H (exec (c.lock l) b σd M) D W) := ⟨fun pins s σ H D I hw => by
    obtain ⟨l, ρ, M, σd, rh, rs, p⟩ := hw
    obtain ⟨tb, pb, gb⟩ := hb l
    exact pb.run pins s σ H D I (gb ρ M H σd σ D rh rs p)⟩
  refine ⟨_, ps_for h.own h.h.calm pi pg hbody hf, fun ρ M H σd σ D rh rs p => ?_⟩
  change PostS G ρ H ((ev c it σd M).to σd fun w M => match w with
    | .dct xs ls => loopL (fun x σ M => match t.asg x σ with
      | some σ' => exec (c.lock (locks ls)) b σ' M
      | none => .stuck) xs σd M
    | _ => .stuck) D W at p
  refine gi.go rh rs (fun d M1 e1 => ?_) (fun j M' e1 => ?_) fun e1 => ?_
  rotate_left
  · rw [e1] at p; exact fun ρ' H' l rh' => p σ ρ' H' l rh' (rs.mono l)
  · rw [e1] at p; exact p
  rw [e1] at p
  cases d with
  | dct xs ls =>
    change PostS G ρ H (loopL (fun x σ M => match t.asg x σ with
      | some σ' => exec (c.lock (locks ls)) b σ' M
      | none => .stuck) xs σd M1) D W at p
    refine ⟨xs, ls, rfl, fun J ρ1 H1 l1 rh1 rs1 itok => ?_⟩
    have p := PostS.mono l1 p
    generalize hf' : (fun x σ M => match t.asg x σ with
      | some σ' => exec (c.lock (locks ls)) b σ' M
      | none => .stuck : Mini.D → Sl → MH → RS) = f at p
    refine ⟨fun i m' σ H => m' = xs.length - i ∧ i ≤ xs.length ∧ ∃ ρ M σd, Le G ρ1 H1 ρ H ∧ RepH G ρ M H ∧ RepS G ρ H σd σ ∧ M1.length ≤ M.length ∧ (∀ n ∈ locks ls, n < M1.length → M[n]? = M1[n]?) ∧ PostS G ρ H (loopL f (xs.drop i) σd M) D W,
      ⟨xs.length, by simp, Nat.zero_le _, ρ1, M1, σd, Le.refl, rh1, rs1, Nat.le_refl _, fun _ _ _ => rfl, p⟩, ?_⟩
    rintro i m' σ2 H2 ⟨rfl, hin, ρ2, M2, σd2, l2, rh2, rs2, hlen2, hlk2, p2⟩
    obtain ⟨it1, it2⟩ := itok G.hid ρ2 M2 H2 l2.w rh2 hlk2 i
    cases hx : xs[i]? with
    | none =>
      have hii : xs.length ≤ i := List.getElem?_eq_none_iff.mp hx
      rw [List.drop_eq_nil_of_le hii] at p2
      exact .inl ⟨it2 hx, p2 σ2 ρ2 H2 Le.refl rh2 rs2⟩
    | some d =>
      obtain ⟨go, yl⟩ := it1 d hx
      have hi : i < xs.length := (List.getElem?_eq_some_iff.mp hx).1
      refine .inr ⟨go, fun σ' H' => _, fun σ' H' z => ⟨xs.length - (i + 1), by omega, z⟩, fun v H3 y => ?_⟩
      obtain ⟨l3, rh3, rv3⟩ := yl v H3 y
      have ed : xs.drop i = d :: xs.drop (i + 1) := by
        rw [List.drop_eq_getElem_cons hi]
        have : xs[i] = d := by
          rw [List.getElem?_eq_getElem hi] at hx
          exact Option.some.inj hx
        rw [this]
      rw [ed] at p2
      have p3 := PostS.mono l3 p2
      have rs3 := rs2.mono l3
      have l13 := l2.trans l3
      unfold loopL at p3
      have fx : f d σd2 M2 = match t.asg d σd2 with | some σ' => exec (c.lock (locks ls)) b σ' M2 | none => .stuck := by rw [← hf']
      cases ha : t.asg d σd2 with
      | none =>
        rw [ha] at fx
        rw [fx] at p3
        exact p3.elim
      | some σd3 =>
        rw [ha] at fx
        dsimp only at fx
        refine gg G.hid ρ2 H3 σd2 σ2 d v σd3 _ rs3 rv3 ha fun σ3 rs3' _ => ⟨locks ls, ρ2, M2, σd3, rh3, rs3', ?_⟩
        rw [fx] at p3
        have lk : ∀ {M' : MH}, (MRS c.fl (locks ls ++ c.lk) M2 (exec (c.lock (locks ls)) b σd3 M2) → MLe c.fl (locks ls ++ c.lk) M2 M') → (M1.length ≤ M'.length) ∧ ∀ n ∈ locks ls, n < M1.length → M'[n]? = M1[n]? := fun {M'} hm => by
          obtain ⟨z1, z2⟩ := mle_exec (c := c) h.h.cok hm
          exact ⟨Nat.le_trans hlen2 z1, fun n h1 h2 => (z2 n h1 (Nat.lt_of_lt_of_le h2 hlen2)).trans (hlk2 n h1 h2)⟩
        cases hex : exec (c.lock (locks ls)) b σd3 M2 with
        | stuck => rw [hex] at p3; exact p3
        | nx σd4 M4 =>
          rw [hex] at p3
          intro σ4 ρ4 H4 l4 rh4 rs4
          obtain ⟨z1, z2⟩ := lk (M' := M4) fun hm => by rw [hex] at hm; exact hm
          exact ⟨rfl, hi, ρ4, M4, σd4, l13.trans l4, rh4, rs4, z1, z2, PostS.mono l4 p3⟩
        | ct σd4 M4 =>
          rw [hex] at p3
          intro σ4 ρ4 H4 l4 rh4 rs4
          obtain ⟨z1, z2⟩ := lk (M' := M4) fun hm => by rw [hex] at hm; exact hm
          exact ⟨rfl, hi, ρ4, M4, σd4, l13.trans l4, rh4, rs4, z1, z2, PostS.mono l4 p3⟩
        | bk σd4 M4 => rw [hex] at p3; exact p3
        | rt d4 M4 => rw [hex] at p3; exact p3
        | exc j σd4 M4 => rw [hex] at p3; exact p3
  | _ => exact p.elim
theorem snd_while (h : HereS X T G c sc N W k) {t : ME} {b : MS} {x : Expr} {ss : List Stmt} {q : Pos} (ht : SndE X G c W t x) (hb : SndS X G c W b ss) : SndS1 X G c W (.while_ t b) (.While x ss [] q) := by
  obtain ⟨tt, pt, gt⟩ := ht.2
  obtain ⟨tb, pb, gb⟩ := hb
  refine ⟨_, ps_while h.own pt pb, fun ρ M H σd σ D rh rs p => ?_⟩
  change PostS G ρ H (loopW (fun σ M => (ev c t σ M).bind fun x M => boolD x (.ok true M) (.ok false M)) (exec c b) c.fuel σd M) D W at p
  generalize hf' : (fun σ M => (ev c t σ M).bind fun x M => boolD x (.ok true M) (.ok false M) : Sl → MH → R Bool) = f at p
  refine ⟨fun m σ H => ∃ ρ M σd, RepH G ρ M H ∧ RepS G ρ H σd σ ∧ PostS G ρ H (loopW f (exec c b) m σd M) D W, ⟨c.fuel, ρ, M, σd, rh, rs, p⟩, ?_⟩
  rintro m σ2 H2 ⟨ρ2, M2, σd2, rh2, rs2, p2⟩
  cases m with
  | zero => exact p2.elim
  | succ m =>
    unfold loopW at p2
    have fx : f σd2 M2 = (ev c t σd2 M2).bind fun x M => boolD x (.ok true M) (.ok false M) := by rw [← hf']
    rw [fx] at p2
    refine gt.run rh2 rs2 (fun d M' e1 => ?_) (fun j M' e1 => ?_) fun e1 => ?_
    · rw [e1] at p2
      cases d with
      | bl z =>
        refine ⟨⟨z, rfl⟩, fun b' hb' ρ' H' l rh' rs' => ?_⟩
        cases hb'
        cases z with
        | false =>
          rw [if_neg Bool.false_ne_true]
          exact PostS.mono l p2 σ2 ρ' H' Le.refl rh' rs'
        | true =>
          rw [if_pos rfl]
          have p3 := PostS.mono l p2
          refine ⟨fun σ' H' => ∃ ρ M σd, RepH G ρ M H' ∧ RepS G ρ H' σd σ' ∧ PostS G ρ H' (loopW f (exec c b) m σd M) D W, fun σ' H' z => ⟨m, Nat.lt_succ_self _, z⟩, gb ρ' M' H' σd2 σ2 _ rh' rs' ?_⟩
          cases hex : exec c b σd2 M' with
          | stuck => simp only [Mini.R.bind, boolD, hex] at p3; exact p3
          | nx σd4 M4 =>
            simp only [Mini.R.bind, boolD, hex] at p3
            exact fun σ4 ρ4 H4 l4 rh4 rs4 => ⟨ρ4, M4, σd4, rh4, rs4, PostS.mono l4 p3⟩
          | ct σd4 M4 =>
            simp only [Mini.R.bind, boolD, hex] at p3
            exact fun σ4 ρ4 H4 l4 rh4 rs4 => ⟨ρ4, M4, σd4, rh4, rs4, PostS.mono l4 p3⟩
          | bk σd4 M4 => simp only [Mini.R.bind, boolD, hex] at p3; exact p3
          | rt d4 M4 => simp only [Mini.R.bind, boolD, hex] at p3; exact p3
          | exc j σd4 M4 => simp only [Mini.R.bind, boolD, hex] at p3; exact p3
      | _ => exact p2.elim
    · rw [e1] at p2; exact fun ρ' H' l rh' => p2 σ2 ρ' H' l rh' (rs2.mono l)
    · rw [e1] at p2; exact p2
end
end MiniS
set_option autoImplicit false
set_option maxRecDepth 100000
set_option maxHeartbeats 4000000
namespace MiniS
open PySem PySem.Spec PyProof.Rows L2 Mini
theorem HereS.lock {X : Cx} {T : Tab} {G : Gi} {c : Mini.Ctx} {sc : Scope} {N : List PySem.Str} {W : WX} {k : Nat} (h : HereS X T G c sc N W k) (l : List Nat) : HereS X T G (c.lock l) sc N W k :=
  ⟨⟨h.h.sc, h.h.N, h.h.calm, h.h.nd, h.h.K, h.h.room, h.h.tk, h.h.tok, h.h.cok, h.h.kind⟩, h.own, h.loc⟩
def SndB (X : Cx) (G : Gi) (c : Mini.Ctx) (W : WX) (ms : MS) (ss : List Stmt) : Prop := SndS X G c W ms ss ∧ ∀ s, ss = [s] → SndS1 X G c W ms s
theorem SndS1.b {X : Cx} {G : Gi} {c : Mini.Ctx} {W : WX} {ms : MS} {s : Stmt} (h : SndS1 X G c W ms s) : SndB X G c W ms [s] := ⟨h.s, fun s' e => by cases e; exact h⟩
theorem snd_stmt {T : Tab} {N : List PySem.Str} {sc : Scope} (ms : MS) : ∀ (X : Cx) (G : Gi) (c : Mini.Ctx) (W : WX) (k : Nat) (ss : List Stmt), HereS X T G c sc N W k → mS T N sc ms ss = true → SndB X G c W ms ss := by
  induction ms with
  | never =>
    intro X G c W k ss h hm
    exact ⟨⟨_, pss_never, fun ρ M H σd σ D rh rs p => p⟩, fun s _ => ⟨_, ps_never, fun ρ M H σd σ D rh rs p => p⟩⟩
  | skip =>
    intro X G c W k ss h hm
    have hm : asNone ss = true := hm
    unfold asNone at hm
    split at hm
    · exact ⟨⟨_, pss_nil, fun ρ M H σd σ D rh rs p => p σ ρ H Le.refl rh rs⟩, fun s e => by cases e⟩
    · exact SndS1.b ⟨_, ps_pass, fun ρ M H σd σ D rh rs p => p σ ρ H Le.refl rh rs⟩
    · cases hm
  | seq a b iha ihb =>
    intro X G c W k ss h hm
    obtain ⟨p, h1, h2⟩ := any_some hm
    have e1 : ss = p.1 :: p.2 := by
      unfold asSeq at h1
      split at h1
      · cases h1; rfl
      · cases h1
    subst e1
    obtain ⟨h2, h3⟩ := and_t h2
    obtain ⟨ta, pa, ga⟩ := (iha X G c W k [p.1] h h2).2 p.1 rfl
    obtain ⟨tb, pb, gb⟩ := (ihb X G c W k p.2 h h3).1
    refine ⟨⟨_, pss_cons pa pb, fun ρ M H σd σ D rh rs p => ?_⟩, fun s e => ?_⟩
    rotate_left
    · have h1 : asSeq (p.1 :: p.2) = some p := h1
      rw [e] at h1
      cases h1
    · change PostS G ρ H ((Mini.exec c a σd M).andThen (Mini.exec c b)) D W at p
      refine ga ρ M H σd σ _ rh rs ?_
      cases hx : Mini.exec c a σd M with
      | nx σd2 M2 =>
        rw [hx] at p
        exact fun σ2 ρ2 H2 l2 rh2 rs2 => gb ρ2 M2 H2 σd2 σ2 D rh2 rs2 (PostS.mono l2 p)
      | rt d M2 => rw [hx] at p; exact p
      | bk σd2 M2 => rw [hx] at p; exact p
      | ct σd2 M2 => rw [hx] at p; exact p
      | exc j σd2 M2 => rw [hx] at p; exact p
      | stuck => rw [hx] at p; exact p
  | asg t me =>
    intro X G c W k ss h hm
    cases t with
    | one i =>
      obtain ⟨⟨x, p, e, q⟩, h1, h2⟩ := any_some hm
      have e1 : ss = [.Assign [.Name x p] e q] := by
        unfold asSet1 at h1
        split at h1
        · cases h1; rfl
        · cases h1
      subst e1
      obtain ⟨h2, h5⟩ := and_t h2
      obtain ⟨h2, h4⟩ := and_t h2
      obtain ⟨h2, h3⟩ := and_t h2
      refine SndS1.b (snd_set1 h (of_decide_eq_true h2) h3 h4 ?_)
      rcases Bool.or_eq_true_iff.mp h5 with z | z
      · exact .inl (by simpa using z)
      · exact .inr z
    | many is =>
      obtain ⟨⟨ts, j, p, e, q⟩, h1, h2⟩ := any_some hm
      have e1 : ss = [.Assign [.Tuple ts j p] e q] := by
        unfold asSetM at h1
        split at h1
        · cases h1; rfl
        · cases h1
      subst e1
      obtain ⟨h2, h5⟩ := and_t h2
      obtain ⟨h2, h4⟩ := and_t h2
      obtain ⟨h2, h3⟩ := and_t h2
      exact (snd_setM h h2 h3 h4 h5).b
  | setix o i me =>
    intro X G c W k ss h hm
    obtain ⟨⟨o', i', p, e, q⟩, h1, h2⟩ := any_some hm
    have e1 : ss = [.Assign [.Subscript o' i' p] e q] := by
      unfold asSetI at h1
      split at h1
      · cases h1; rfl
      · cases h1
    subst e1
    obtain ⟨h2, h4⟩ := and_t h2
    obtain ⟨h2, h3⟩ := and_t h2
    exact (snd_setix h h2 h3 h4).b
  | aug o i me =>
    intro X G c W k ss h hm
    obtain ⟨⟨x, p, op, e, q⟩, h1, h2⟩ := any_some hm
    have e1 : ss = [.AugAssign (.Name x p) op e q] := by
      unfold asAug at h1
      split at h1
      · cases h1; rfl
      · cases h1
    subst e1
    obtain ⟨h2, h5⟩ := and_t h2
    obtain ⟨h2, h4⟩ := and_t h2
    obtain ⟨h2, h3⟩ := and_t h2
    have e2 : opOf o = op := of_decide_eq_true h4
    subst e2
    exact (snd_aug h (of_decide_eq_true h2) h3 h5).b
  | augix op o i me =>
    intro X G c W k ss h hm
    obtain ⟨⟨o', i', p, op', e, q⟩, h1, h2⟩ := any_some hm
    have e1 : ss = [.AugAssign (.Subscript o' i' p) op' e q] := by
      unfold asAugI at h1
      split at h1
      · cases h1; rfl
      · cases h1
    subst e1
    obtain ⟨h2, h5⟩ := and_t h2
    obtain ⟨h2, h4⟩ := and_t h2
    obtain ⟨h2, h3⟩ := and_t h2
    have e2 : opOf op = op' := of_decide_eq_true h4
    subst e2
    exact (snd_augix h h2 h3 h5).b
  | ife t a b iha ihb =>
    intro X G c W k ss h hm
    obtain ⟨⟨x, p, q, pos⟩, h1, h2⟩ := any_some hm
    have e1 : ss = [.If x p q pos] := by
      unfold asIfS at h1
      split at h1
      · cases h1; rfl
      · cases h1
    subst e1
    obtain ⟨h2, h4⟩ := and_t h2
    obtain ⟨h2, h3⟩ := and_t h2
    exact (snd_if ((snd_all t).E X G c sc W k x h.h h2) (iha X G c W k p h h3).1 (ihb X G c W k q h h4).1).b
  | for_ t it b ihb =>
    intro X G c W k ss h hm
    obtain ⟨⟨tg, iter, body, pos⟩, h1, h2⟩ := any_some hm
    have e1 : ss = [.For tg iter body [] pos] := by
      unfold asFor at h1
      split at h1
      · cases h1; rfl
      · cases h1
    subst e1
    obtain ⟨h2, h5⟩ := and_t h2
    obtain ⟨h2, h4⟩ := and_t h2
    obtain ⟨h2, h3⟩ := and_t h2
    exact (snd_for h h2 ((snd_all it).I X G c sc W k tg iter h.h h3 h4) (fun v => plain_fold (mI_plain h3) X.env v) fun l => (ihb X G (c.lock l) W k body (h.lock l) h5).1).b
  | while_ t b ihb =>
    intro X G c W k ss h hm
    obtain ⟨⟨x, body, pos⟩, h1, h2⟩ := any_some hm
    have e1 : ss = [.While x body [] pos] := by
      unfold asWhile at h1
      split at h1
      · cases h1; rfl
      · cases h1
    subst e1
    obtain ⟨h2, h3⟩ := and_t h2
    exact (snd_while h ((snd_all t).E X G c sc W k x h.h h2) (ihb X G c W k body h h3).1).b
  | ret me =>
    intro X G c W k ss h hm
    obtain ⟨⟨o, pos⟩, h1, h2⟩ := any_some hm
    obtain ⟨e, h3, h4⟩ := any_some h2
    have h3 : o = some e := h3
    subst h3
    have e1 : ss = [.Return (some e) pos] := by
      unfold asRet at h1
      split at h1
      · cases h1; rfl
      · cases h1
    subst e1
    obtain ⟨te, pe, ge⟩ := ((snd_all me).E X G c sc W k e h.h h4).1
    refine SndS1.b ⟨_, ps_ret pe, fun ρ M H σd σ D rh rs p => ?_⟩
    change PostS G ρ H ((ev c me σd M).to σd fun d M => .rt d M) D W at p
    exact ge.runS rh rs p fun d M' v ρ' H' e1 l rh' rs' rv p' => p' v ρ' H' Le.refl rh' rv
  | retN =>
    intro X G c W k ss h hm
    obtain ⟨⟨o, pos⟩, h1, h2⟩ := any_some hm
    have h3 : o = none := by
      cases o with
      | none => rfl
      | some _ => cases h2
    subst h3
    have e1 : ss = [.Return none pos] := by
      unfold asRet at h1
      split at h1
      · cases h1; rfl
      · cases h1
    subst e1
    exact SndS1.b ⟨_, ps_retN, fun ρ M H σd σ D rh rs p => p .non ρ H Le.refl rh rfl⟩
  | raise j =>
    intro X G c W k ss h hm
    cases hm
  | expr me =>
    intro X G c W k ss h hm
    obtain ⟨⟨e, pos⟩, h1, h2⟩ := any_some hm
    have e1 : ss = [.Expr e pos] := by
      unfold asExprS at h1
      split at h1
      · cases h1; rfl
      · cases h1
    subst e1
    obtain ⟨h2, h3⟩ := and_t h2
    obtain ⟨te, pe, ge⟩ := ((snd_all me).E X G c sc W k e h.h h2).1
    refine SndS1.b ⟨_, ps_expr pe (sw_plain (mE_plain h2) (by simpa using h3)), fun ρ M H σd σ D rh rs p => ?_⟩
    change PostS G ρ H ((ev c me σd M).to σd fun _ M => .nx σd M) D W at p
    exact ge.runS rh rs p fun d M' v ρ' H' e1 l rh' rs' rv p' => p' σ ρ' H' Le.refl rh' rs'
  | brk =>
    intro X G c W k ss h hm
    have hm : asBrk ss = true := hm
    unfold asBrk at hm
    split at hm
    · exact SndS1.b ⟨_, ps_break, fun ρ M H σd σ D rh rs p => p σ ρ H Le.refl rh rs⟩
    · cases hm
  | cont =>
    intro X G c W k ss h hm
    have hm : asCont ss = true := hm
    unfold asCont at hm
    split at hm
    · exact SndS1.b ⟨_, ps_continue, fun ρ M H σd σ D rh rs p => p σ ρ H Le.refl rh rs⟩
    · cases hm
end MiniS
set_option autoImplicit false
set_option maxRecDepth 100000
set_option maxHeartbeats 4000000
namespace MiniS
open PySem PySem.Spec PyProof.Rows L2 Mini
theorem zip_lookup_some : ∀ {ps : List PySem.Str} {us : List Value}, us.length = ps.length → ∀ n ∈ ps, ((ps.zip us).lookup n).isSome = true
  | [], _, _, n, h => by cases h
  | p :: ps, [], hl, n, h => by cases hl
  | p :: ps, u :: us, hl, n, h => by
    show ((((p, u) :: ps.zip us) : List (PySem.Str × Value)).lookup n).isSome = true
    rw [List.lookup_cons]
    cases e : n == p with
    | true => rfl
    | false =>
      rcases List.mem_cons.mp h with rfl | h
      · rw [beq_self_eq_true] at e; cases e
      · exact zip_lookup_some (by simpa using hl) n h
theorem zip_filterMap : ∀ {ps : List PySem.Str} {us : List Value}, us.length = ps.length → ps.Nodup → (ps.filterMap fun n => ((ps.zip us).lookup n).map (n, ·)) = ps.zip us := by
  have key : ∀ (ps : List PySem.Str) (us : List Value) (g : PySem.Str → Option Value), us.length = ps.length → ps.Nodup → (∀ (i : Nat) (n : PySem.Str) (u : Value), ps[i]? = some n → us[i]? = some u → g n = some u) → (ps.filterMap fun n => (g n).map (n, ·)) = ps.zip us := by
    intro ps
    induction ps with
    | nil => intro us g hl _ _; rfl
    | cons p ps ih =>
      intro us g hl nd hg
      cases us with
      | nil => cases hl
      | cons u us =>
        rw [List.filterMap_cons, hg 0 p u rfl rfl]
        show (p, u) :: _ = (p, u) :: _
        rw [ih us g (by simpa using hl) (List.nodup_cons.mp nd).2 fun i n u h1 h2 => hg (i + 1) n u (by simpa using h1) (by simpa using h2)]
        rfl
  intro ps us hl nd
  refine key ps us _ hl nd ?_
  clear key
  induction ps generalizing us with
  | nil => intro i n u h; simp at h
  | cons p ps ih =>
    intro i n u h1 h2
    cases us with
    | nil => cases hl
    | cons w us =>
      show ((((p, w) :: ps.zip us) : List (PySem.Str × Value)).lookup n) = some u
      rw [List.lookup_cons]
      cases i with
      | zero => simp at h1 h2; subst h1 h2; rw [beq_self_eq_true]
      | succ i =>
        have h1 : ps[i]? = some n := by simpa using h1
        have hne : (n == p) = false := by
          rw [beq_eq_false_iff_ne]
          rintro rfl
          exact (List.nodup_cons.mp nd).1 (List.mem_of_getElem? h1)
        rw [hne]
        exact ih (by simpa using hl) (List.nodup_cons.mp nd).2 i n u h1 (by simpa using h2)
theorem bind_plain {fd : FuncData} {as : List Arg} {us : List Value} {kwd : List (Option Expr)} {dfs : List Expr} (hp : fd.params = ⟨[], as, none, [], kwd, none, dfs⟩) (hd : fd.defaults = .none) (hl : us.length = as.length) (nd : (as.map (·.arg)).Nodup) :
    bindArgs fd ⟨us, []⟩ = pure ((as.map (·.arg)).zip us) := by
  have hl2 : us.length = (as.map (·.arg)).length := by rw [List.length_map]; exact hl
  unfold bindArgs
  rw [hp, hd]
  have e1 : seqItems? Value.none = pure none := rfl
  simp only [List.map_nil, List.nil_append, List.forIn_nil, pure_bind, e1, Option.getD_none, List.drop_nil, List.length_nil, Nat.sub_zero, List.length_map]
  have e2 : decide (us.length > as.length) = false := decide_eq_false (by omega)
  have e3 : (((as.map (·.arg)).take as.length).filter fun n => (((as.map (·.arg)).zip us).lookup n).isNone) = [] := by
    rw [List.filter_eq_nil_iff]
    intro n hn
    have z := zip_lookup_some hl2 n (List.mem_of_mem_take hn)
    intro q
    rw [Option.isNone_iff_eq_none] at q
    rw [q] at z
    cases z
  rw [if_neg (by rw [e2]; exact fun z => nomatch z), if_neg (by rw [e3]; exact fun z => nomatch z), List.zip_nil_right, List.forIn_nil, pure_bind]
  show (if false = true then _ else _) = _
  rw [if_neg Bool.false_ne_true, List.append_nil, zip_filterMap hl2 nd]
section
variable {G : Gi} {ρ ρ' : List Addr} {H : Hp} {M : MH}
mutual
theorem rep_bnd : ∀ (d : D) (v : V), Rep G ρ H d v → D.bnd ρ.length d = true
  | .non, _, _ => rfl
  | .bl _, _, _ => rfl
  | .int _, _, _ => rfl
  | .str _, _, _ => rfl
  | .tup xs, _, ⟨a, vs, e, h, g⟩ => rep_bndL xs vs g
  | .lst xs, _, ⟨a, vs, e, h, g⟩ => rep_bndL xs vs g
  | .scr _, _, _ => rfl
  | .dct _ _, _, h => h.elim
  | .obj n, _, ⟨a, e, h⟩ => decide_eq_true (List.getElem?_eq_some_iff.mp h).1
  | .fn _, _, _ => rfl
  | .cls _, _, _ => rfl
  | .ty _, _, _ => rfl
theorem rep_bndL : ∀ (xs : List D) (vs : List V), Rep.go G ρ H xs vs → D.bnd.go ρ.length xs = true
  | [], _, _ => rfl
  | x :: xs, _, ⟨v, r, e, h1, h2⟩ => by
    show (D.bnd ρ.length x && D.bnd.go ρ.length xs) = true
    rw [rep_bnd x v h1, rep_bndL xs r h2]
    rfl
end
theorem repH_wf (rh : RepH G ρ M H) : Wf M.length M := by
  refine ⟨Nat.le_refl _, fun n mo hn hm => ?_⟩
  obtain ⟨a, ha, ho⟩ := rh.at hm
  cases mo with
  | lst xs =>
    obtain ⟨vs, h1, g⟩ := ho
    show D.bnd.go M.length xs = true
    rw [← rh.len]
    exact rep_bndL xs vs (go_iff.mpr g)
  | dct ks vs => exact ho.elim
  | ins c fs => exact ho.elim
mutual
theorem rep_cut {n0 : Nat} (hρ : ∀ a, a ∉ ρ → a ∉ ρ') (hpre : ∀ (n : Nat) a, n < n0 → ρ[n]? = some a → ρ'[n]? = some a) : ∀ (d : D) (v : V), Rep G ρ H d v → D.bnd n0 d = true → Rep G ρ' H d v
  | .non, _, h, _ => h
  | .bl _, _, h, _ => h
  | .int _, _, h, _ => h
  | .str _, _, h, _ => h
  | .tup xs, _, ⟨a, vs, e, h, g⟩, b => ⟨a, vs, e, h, rep_cutL hρ hpre xs vs g b⟩
  | .lst xs, _, ⟨a, vs, e, h, g⟩, b => ⟨a, vs, e, ⟨h.1, hρ a h.2.1, h.2.2⟩, rep_cutL hρ hpre xs vs g b⟩
  | .scr _, _, h, _ => h
  | .dct _ _, _, h, _ => h
  | .obj n, _, ⟨a, e, h⟩, b => ⟨a, e, hpre n a (of_decide_eq_true b) h⟩
  | .fn _, _, h, _ => h
  | .cls _, _, h, _ => h
  | .ty _, _, h, _ => h
theorem rep_cutL {n0 : Nat} (hρ : ∀ a, a ∉ ρ → a ∉ ρ') (hpre : ∀ (n : Nat) a, n < n0 → ρ[n]? = some a → ρ'[n]? = some a) : ∀ (xs : List D) (vs : List V), Rep.go G ρ H xs vs → D.bnd.go n0 xs = true → Rep.go G ρ' H xs vs
  | [], _, h, _ => h
  | x :: xs, _, ⟨v, r, e, h1, h2⟩, b => by
    obtain ⟨b1, b2⟩ := and_t (show (D.bnd n0 x && D.bnd.go n0 xs) = true from b)
    exact ⟨v, r, e, rep_cut hρ hpre x v h1 b1, rep_cutL hρ hpre xs r h2 b2⟩
end
theorem rep_takeL {n0 : Nat} (xs : List D) (vs : List V) (h : Rep.go G ρ H xs vs) (b : D.bnd.go n0 xs = true) : Rep.go G (ρ.take n0) H xs vs :=
  rep_cutL (fun a z y => z (List.mem_of_mem_take y)) (fun n a hn ha => by rw [List.getElem?_take_of_lt hn]; exact ha) xs vs h b
theorem mem_take_ix {l : List Addr} {n0 n : Nat} {a : Addr} (nd : l.Nodup) (h : l[n]? = some a) (hn : n0 ≤ n) : a ∉ l.take n0 := fun z => by
  obtain ⟨i, hi, e⟩ := List.mem_iff_getElem.mp z
  have h1 : i < n0 := by rw [List.length_take] at hi; omega
  have h2 : l[i]? = some a := by
    rw [← List.getElem?_take_of_lt h1, List.getElem?_eq_getElem hi, e]
  have := nodup_ixA nd h2 h
  omega
theorem repH_take {n0 : Nat} (rh : RepH G ρ M H) (hw : Wf n0 M) : RepH G (ρ.take n0) (M.take n0) H := by
  refine ⟨by rw [List.length_take, List.length_take, rh.len], rh.nd.sublist (List.take_sublist _ _), fun n a mo h1 h2 => ?_, fun a ha => ⟨fun z => (rh.hid a ha).1 (List.mem_of_mem_take z), (rh.hid a ha).2⟩⟩
  have hn : n < n0 := by
    have := (List.getElem?_eq_some_iff.mp h1).1
    rw [List.length_take] at this
    omega
  rw [List.getElem?_take_of_lt hn] at h1 h2
  have ho := rh.ob n a mo h1 h2
  have hb := hw.2 n mo hn h2
  cases mo with
  | lst xs =>
    obtain ⟨vs, q, g⟩ := ho
    exact ⟨vs, q, go_iff.mp (rep_takeL xs vs (go_iff.mpr g) hb)⟩
  | dct ks vs => exact ho
  | ins c fs => exact ho
theorem le_take {H0 : Hp} {ρ0 : List Addr} (l : Le G ρ0 H0 ρ H) : Le G ρ0 H0 (ρ.take ρ0.length) H :=
  ⟨l.tup, fun a vs h n => ⟨(l.lst a vs h n).1, fun z => (l.lst a vs h n).2 (List.mem_of_mem_take z)⟩, l.frz, fun n a h => by rw [List.getElem?_take_of_lt (List.getElem?_eq_some_iff.mp h).1]; exact l.pre n a h, l.dom⟩
theorem mapM_rep {f : D → Option D} (ih : ∀ d a v, Rep G ρ H d v → f d = some a → Rep G ρ' H a v) : ∀ {xs : List D} {vs : List V} {as : List D}, Reps G ρ H xs vs → xs.mapM f = some as → Reps G ρ' H as vs := by
  intro xs
  induction xs with
  | nil =>
    intro vs as r h
    cases r
    have e : as = [] := (Option.some.inj h).symm
    subst e
    exact .nil
  | cons x xs ihx =>
    intro vs as r h
    cases r with
    | cons r1 r2 =>
      obtain ⟨y, q, h1, h2, rfl⟩ := mapM_cons_some h
      exact .cons (ih x y _ r1 h1) (ihx r2 h2)
theorem frz_rep {n0 : Nat} {M2 : MH} (hM : ∀ (n : Nat) (xs : List D), n0 ≤ n → M2[n]? = some (.lst xs) → ∀ a, ρ[n]? = some a → a ∉ ρ' ∧ a ∉ G.hid ∧ ∃ vs, H a = some (.lst vs) ∧ Reps G ρ H xs vs)
    (hD : ∀ (n : Nat) ks vs a, n0 ≤ n → ρ[n]? = some a → M2[n]? ≠ some (.dct ks vs))
    (hρ : ∀ a, a ∉ ρ → a ∉ ρ') (hpre : ∀ (n : Nat) a, n < n0 → ρ[n]? = some a → ρ'[n]? = some a) : ∀ (k : Nat) (d d' : D) (v : V), Rep G ρ H d v → frz n0 M2 k d = some d' → Rep G ρ' H d' v := by
  intro k
  induction k with
  | zero =>
    intro d d' v r h
    cases d with
    | non => cases h; exact r
    | bl _ => cases h; exact r
    | int _ => cases h; exact r
    | str _ => cases h; exact r
    | scr _ => cases h; exact r
    | fn _ => cases h; exact r
    | cls _ => cases h; exact r
    | ty _ => cases h; exact r
    | tup _ => cases h
    | lst _ => cases h
    | dct _ _ => cases h
    | obj _ => cases h
  | succ k ih =>
    intro d d' v r h
    cases d with
    | non => cases h; exact r
    | bl _ => cases h; exact r
    | int _ => cases h; exact r
    | str _ => cases h; exact r
    | scr _ => cases h; exact r
    | fn _ => cases h; exact r
    | cls _ => cases h; exact r
    | ty _ => cases h; exact r
    | tup xs =>
      have h : (xs.mapM (frz n0 M2 k)).map D.tup = some d' := h
      obtain ⟨ys, e1, rfl⟩ := mapSome h
      obtain ⟨a, vs, rfl, q, g⟩ := Rep.tup_iff.mp r
      exact Rep.tup_iff.mpr ⟨a, vs, rfl, q, mapM_rep (fun d a v r e => ih d a v r e) g e1⟩
    | lst xs =>
      have h : (xs.mapM (frz n0 M2 k)).map D.lst = some d' := h
      obtain ⟨ys, e1, rfl⟩ := mapSome h
      obtain ⟨a, vs, rfl, q, g⟩ := Rep.lst_iff.mp r
      exact Rep.lst_iff.mpr ⟨a, vs, rfl, ⟨q.1, hρ a q.2.1, q.2.2⟩, mapM_rep (fun d a v r e => ih d a v r e) g e1⟩
    | dct ks vs => exact r.elim
    | obj n =>
      have h : (if n < n0 then some (.obj n) else match M2[n]? with
        | some (.lst xs) => (xs.mapM (frz n0 M2 k)).map D.lst
        | some (.dct ks vs) => (ks.mapM (frz n0 M2 k)).bind fun ks' => (vs.mapM (frz n0 M2 k)).map fun vs' => .dct ks' vs'
        | _ => none) = some d' := h
      obtain ⟨a, rfl, ha⟩ := r
      by_cases hn : n < n0
      · rw [if_pos hn] at h
        cases h
        exact ⟨a, rfl, hpre n a hn ha⟩
      · rw [if_neg hn] at h
        cases hm : M2[n]? with
        | none => rw [hm] at h; cases h
        | some mo =>
          rw [hm] at h
          cases mo with
          | lst xs =>
            dsimp only at h
            obtain ⟨ys, e1, rfl⟩ := mapSome h
            obtain ⟨h1, h2, vs, q, g⟩ := hM n xs (by omega) hm a ha
            exact Rep.lst_iff.mpr ⟨a, vs, rfl, ⟨q, h1, h2⟩, mapM_rep (fun d a v r e => ih d a v r e) g e1⟩
          | dct ks vs => exact absurd hm (hD n ks vs a (by omega) ha)
          | ins c fs => cases h
theorem post_leave {m : Bool} {H0 : Hp} {ρ0 : List Addr} {M0 M' : MH} {d : D} {Q : VK} {E : Nat → Hp → Prop} {v : V} (rh0 : RepH G ρ0 M0 H0) (p : PostE G ρ0 H0 (leave m M0.length d M') Q E) (hw : Wf M0.length M') (l : Le G ρ0 H0 ρ H) (rh : RepH G ρ M' H) (rv : Rep G ρ H d v) : Q v H := by
  have hl0 : ρ0.length = M0.length := rh0.len
  have L := le_take l
  rw [hl0] at L
  have RH := repH_take rh hw
  have noD : ∀ (n : Nat) ks vs a, M0.length ≤ n → ρ[n]? = some a → M'[n]? ≠ some (.dct ks vs) := fun n ks vs a _ ha z => rh.ob n a _ ha z
  have at_ : ∀ (n : Nat) (xs : List D), M0.length ≤ n → M'[n]? = some (.lst xs) → ∀ a, ρ[n]? = some a → a ∉ ρ.take M0.length ∧ a ∉ G.hid ∧ ∃ vs, H a = some (.lst vs) ∧ Reps G ρ H xs vs := fun n xs hn hm a ha =>
    ⟨mem_take_ix rh.nd ha hn, fun z => (rh.hid a z).1 (List.mem_of_getElem? ha), rh.ob n a _ ha hm⟩
  have usual : PostE G ρ0 H0 (R.ofOpt (frz M0.length M' 20 d) (M'.take M0.length)) Q E → Q v H := fun p => by
    obtain ⟨d', e1, p⟩ := PostE.opt p
    exact p v (ρ.take M0.length) H L RH (frz_rep at_ noD (fun a z y => z (List.mem_of_mem_take y)) (fun n a hn ha => by rw [List.getElem?_take_of_lt hn]; exact ha) 20 d d' v rv e1)
  unfold leave at p
  split at p
  · rename_i n
    split at p
    · rename_i hn
      obtain ⟨a, rfl, ha⟩ := rv
      exact p _ (ρ.take M0.length) H L RH ⟨a, rfl, by rw [List.getElem?_take_of_lt hn]; exact ha⟩
    · rename_i hn
      split at p
      · rename_i xs hm
        split at p
        · rename_i ys hys
          obtain ⟨a, rfl, ha⟩ := rv
          obtain ⟨h1, h2, vs, q, g⟩ := at_ n xs (by omega) hm a ha
          have hlen : (ρ.take M0.length).length = M0.length := by rw [List.length_take, Nat.min_eq_left]; rw [rh.len]; exact hw.1
          have L2' : Le G ρ0 H0 (ρ.take M0.length ++ [a]) H := ⟨L.tup, fun b ws hb nb => ⟨(L.lst b ws hb nb).1, fun z => (List.mem_append.mp z).elim (L.lst b ws hb nb).2 fun z => by
              have e : b = a := by simpa using z
              exact (l.lst b ws hb nb).2 (by rw [e]; exact List.mem_of_getElem? ha)⟩, L.frz, fun n b hb => by
              have := L.pre n b hb
              rw [List.getElem?_append_left (List.getElem?_eq_some_iff.mp this).1]; exact this, L.dom⟩
          have g2 : Reps G (ρ.take M0.length ++ [a]) H ys vs := by
            refine mapM_rep (f := frz M0.length (M'.set n (.ins 0 [])) 20) (fun d d' v r e => frz_rep (M2 := M'.set n (.ins 0 [])) (fun n' xs' hn' hm' a' ha' => ?_) (fun n' ks ws a' hn' ha' z => ?_) (fun b z y => ?_) (fun n' b hn' hb => ?_) 20 d d' v r e) g hys
            · by_cases hnn : n = n'
              · subst hnn
                by_cases hlt : n < M'.length
                · rw [List.getElem?_set_self hlt] at hm'; cases hm'
                · rw [List.getElem?_eq_none (by rw [List.length_set]; omega)] at hm'; cases hm'
              · rw [List.getElem?_set_ne hnn] at hm'
                obtain ⟨z1, z2, z3⟩ := at_ n' xs' hn' hm' a' ha'
                refine ⟨fun z => (List.mem_append.mp z).elim z1 fun z => ?_, z2, z3⟩
                have e : a' = a := by simpa using z
                rw [e] at ha'
                exact hnn (nodup_ixA rh.nd ha ha')
            · by_cases hnn : n = n'
              · subst hnn
                by_cases hlt : n < M'.length
                · rw [List.getElem?_set_self hlt] at z; cases z
                · rw [List.getElem?_eq_none (by rw [List.length_set]; omega)] at z; cases z
              · rw [List.getElem?_set_ne hnn] at z
                exact noD n' ks ws a' hn' ha' z
            · rcases List.mem_append.mp y with y | y
              · exact z (List.mem_of_mem_take y)
              · have e : b = a := by simpa using y
                exact z (by rw [e]; exact List.mem_of_getElem? ha)
            · have hq : (ρ.take M0.length)[n']? = some b := by rw [List.getElem?_take_of_lt hn']; exact hb
              rw [List.getElem?_append_left (List.getElem?_eq_some_iff.mp hq).1]
              exact hq
          refine p (.ref a) (ρ.take M0.length ++ [a]) H L2' ?_ ⟨a, rfl, ?_⟩
          · -- the store
            refine ⟨by rw [List.length_append, List.length_append, hlen, List.length_take, Nat.min_eq_left hw.1]; rfl, ?_, fun n' b mo hb hm' => ?_, fun b hb => ⟨fun z => ?_, (rh.hid b hb).2⟩⟩
            · rw [List.nodup_append]
              refine ⟨RH.nd, by simp, fun b hb c hc e => ?_⟩
              have : c = a := by simpa using hc
              exact h1 (by rw [← this, ← e]; exact hb)
            · by_cases hlt : n' < M0.length
              · rw [List.getElem?_append_left (by rw [hlen]; exact hlt)] at hb
                rw [List.getElem?_append_left (by rw [List.length_take, Nat.min_eq_left hw.1]; exact hlt)] at hm'
                have ho := RH.ob n' b mo hb hm'
                rw [List.getElem?_take_of_lt hlt] at hb hm'
                have hbd := hw.2 n' mo hlt hm'
                cases mo with
                | lst zs =>
                  obtain ⟨ws, q', g'⟩ := rh.ob n' b _ hb hm'
                  refine ⟨ws, q', ?_⟩
                  refine go_iff.mp (rep_cutL (n0 := M0.length) (fun b z y => ?_) (fun n' b hn' hb => ?_) zs ws (go_iff.mpr g') hbd)
                  · rcases List.mem_append.mp y with y | y
                    · exact z (List.mem_of_mem_take y)
                    · have e : b = a := by simpa using y
                      exact z (by rw [e]; exact List.mem_of_getElem? ha)
                  · have hq : (ρ.take M0.length)[n']? = some b := by rw [List.getElem?_take_of_lt hn']; exact hb
                    rw [List.getElem?_append_left (List.getElem?_eq_some_iff.mp hq).1]
                    exact hq
                | dct ks ws => exact ho
                | ins c fs => exact ho
              · have hb' := (List.getElem?_eq_some_iff.mp hb).1
                rw [List.length_append, hlen] at hb'
                simp at hb'
                have e0 : n' = M0.length := by omega
                subst e0
                rw [List.getElem?_append_right (by rw [hlen]; exact Nat.le_refl _), hlen] at hb
                rw [List.getElem?_append_right (by rw [List.length_take, Nat.min_eq_left hw.1]; exact Nat.le_refl _), List.length_take, Nat.min_eq_left hw.1] at hm'
                simp at hb hm'
                subst hb hm'
                exact ⟨vs, q, g2⟩
            · rcases List.mem_append.mp z with z | z
              · exact (rh.hid b hb).1 (List.mem_of_mem_take z)
              · have e : b = a := by simpa using z
                exact h2 (e ▸ hb)
          · rw [List.getElem?_append_right (by rw [hlen]; exact Nat.le_refl _), hlen]
            simp
        · exact p.elim
      · exact p.elim
  · exact usual p
end
structure DefI where
  id : Nat
  d : He.DefD
  N : List PySem.Str
  m : MFn
def strip : List Stmt → List Stmt
  | .Expr (.Constant (.str _) _ _) _ :: r => r
  | ss => ss
theorem pss_strip {X : Cx} {t : TS} : ∀ {ss : List Stmt}, PSs X (strip ss) t → PSs X ss t := by
  intro ss h
  unfold strip at h
  split at h
  · exact ⟨fun pins s σ H D I hw => (pss_cons ps_doc h).run pins s σ H D I hw⟩
  · exact h
def parsOf : Arguments → Option (List Arg)
  | ⟨[], as, none, [], _, none, []⟩ => some as
  | _ => none
theorem parsOf_eq {p : Arguments} {as : List Arg} (h : parsOf p = some as) : ∃ kwd, p = ⟨[], as, none, [], kwd, none, []⟩ := by
  unfold parsOf at h
  split at h
  · cases h; exact ⟨_, rfl⟩
  · cases h
def scopeB (N ps : List PySem.Str) (sc : Scope) : Bool :=
  (match sc.kind with | .function => true | _ => false) && !sc.isCoroutine && !sc.isGenerator && decide N.Nodup && decide (N.take ps.length = ps) && (ps.all fun x => locB sc x) &&
    (sc.names.all fun y => match y.2 with | .free => false | _ => true)
theorem scopeB_ok {N ps : List PySem.Str} {sc : Scope} (h : scopeB N ps sc = true) : FnScope N ps sc := by
  unfold scopeB at h
  obtain ⟨h, h7⟩ := and_t h
  obtain ⟨h, h6⟩ := and_t h
  obtain ⟨h, h5⟩ := and_t h
  obtain ⟨h, h4⟩ := and_t h
  obtain ⟨h, h3⟩ := and_t h
  obtain ⟨h1, h2⟩ := and_t h
  refine ⟨?_, by simpa using h2, by simpa using h3, of_decide_eq_true h4, of_decide_eq_true h5, fun x hx => ?_, fun y hy z => ?_⟩
  · split at h1
    · assumption
    · cases h1
  · have q := List.all_eq_true.mp h6 x hx
    unfold locB at q
    split at q
    · exact .inl (by assumption)
    · exact .inr (by assumption)
    · cases q
  · have q := List.all_eq_true.mp h7 y hy
    rw [z] at q
    cases q
def defOk (T : Tab) (q : DefI) : Bool := (parsOf q.d.params).any fun as =>
  scopeB q.N (as.map (·.arg)) q.d.scope && decide (q.m.np = as.length) && decide (q.m.nn = q.N.length) && q.d.dfl.isEmpty && q.d.kwd.isEmpty && mS T q.N q.d.scope q.m.body (strip q.d.body)
section
variable {T : Tab} {P : Program} {w : World} {K : PySem.W.Frag} {mg : PySem.Str → Option Value} {base : Heap} {G : Gi} {Pm : MProg} {Wf' k : Nat} {q : DefI} {f : Addr} {fd : FuncData}
theorem def_ok (hK : K = G.K) (tok : TOk T P w K mg base G (callN Pm Wf' k) (fun i => Pm.gls.lookup i) k) (hq : defOk T q = true) (hlk : Pm.fns.lookup q.id = some q.m) {as : List Arg} (ha : parsOf q.d.params = some as) (F : FunD K q.d.name q.d.qual q.d.params q.d.body q.d.scope [] [] f fd) :
    FnOk P w K mg base (L2.CX P w) (k + 1) f fd (as.map (·.arg)) (spF G (callN Pm Wf' (k + 1)) q.id q.m.np) := by
  obtain ⟨as', h1, h2⟩ := any_some hq
  rw [ha] at h1
  cases h1
  obtain ⟨h2, h8⟩ := and_t h2
  obtain ⟨h2, h7⟩ := and_t h2
  obtain ⟨h2, h6⟩ := and_t h2
  obtain ⟨h2, h5⟩ := and_t h2
  obtain ⟨h3, h4⟩ := and_t h2
  have S := scopeB_ok h3
  have e4 : q.m.np = as.length := of_decide_eq_true h4
  have e5 : q.m.nn = q.N.length := of_decide_eq_true h5
  refine F.ok S (fun vs H Q E h => ?_) (fun cdv A outer s H vs Q E hr h => ?_)
  · obtain ⟨hid, m, ρ, M, ds, fl, lk, _, rv, hl, _⟩ := h
    rw [← pd_length rv, hl, e4, List.length_map]
  · obtain ⟨hid, m, ρ, M, ds, fl, lk, rh, rv, hl, p⟩ := h
    generalize hX : cxOf (L2.CX P w) P w K mg base q.N q.d.qual q.d.scope f cdv A outer s H E = X
    have hc : Mini.Ctx := ⟨callN Pm Wf' k, fun i => Pm.gls.lookup i, Wf', if q.m.raw then fl else M.length, lk⟩
    have here : HereS X T (G.hide hid) ⟨callN Pm Wf' k, fun i => Pm.gls.lookup i, Wf', if q.m.raw then fl else M.length, lk⟩ q.d.scope q.N (fun cls d _ H' => E cls d H') k := by
      subst hX
      refine ⟨⟨rfl, rfl, rfl, S.nd, hK, hr, takes_of rfl rfl rfl rfl, tok.hide hid, callOk_callN Pm Wf' k, S.kind⟩, passes_of rfl, fun x hx => ?_⟩
      unfold locB at hx
      split at hx
      · rename_i hl; exact ⟨.inl hl, .inl rfl⟩
      · rename_i hl; exact ⟨.inr hl, .inl rfl⟩
      · cases hx
    obtain ⟨t, pt, gt⟩ := (snd_stmt q.m.body X (G.hide hid) _ _ k _ here h8).1
    refine ⟨t, pss_strip pt, gt ρ M H (ds.map some ++ List.replicate (q.m.nn - q.m.np) none) (L2.start q.N vs) _ rh ?_ ?_⟩
    · -- the slots at the entry
      have hlen := pd_length rv
      unfold L2.start
      refine ⟨by simp only [List.length_append, List.length_map, List.length_replicate]; omega, fun i d hd => ?_⟩
      by_cases hi : i < ds.length
      · rw [List.getElem?_append_left (by simpa using hi), List.getElem?_map] at hd
        obtain ⟨d', h9, h10⟩ := mapSome hd
        cases h10
        obtain ⟨v, hv, rv'⟩ := pd_get rv h9
        exact ⟨v, by rw [List.getElem?_append_left (by simp; omega), List.getElem?_map, hv]; rfl, rv'⟩
      · rw [List.getElem?_append_right (by simpa using hi), List.getElem?_replicate] at hd
        split at hd <;> cases hd
    · -- what the call gives back
      unfold callN at p
      rw [hlk] at p
      dsimp only at p
      rw [if_pos hl] at p
      have hx := mrs_exec q.m.body ⟨callN Pm Wf' k, fun i => Pm.gls.lookup i, Wf', if q.m.raw then fl else M.length, lk⟩ (callOk_callN Pm Wf' k) (ds.map some ++ List.replicate (q.m.nn - q.m.np) none) M
      generalize Mini.exec ⟨callN Pm Wf' k, fun i => Pm.gls.lookup i, Wf', if q.m.raw then fl else M.length, lk⟩ q.m.body (ds.map some ++ List.replicate (q.m.nn - q.m.np) none) M = r at p hx ⊢
      have wf0 := repH_wf rh
      cases hraw : q.m.raw with
      | false =>
        rw [hraw] at p hx
        have wfM : ∀ {M' : MH}, MLe M.length lk M M' → Wf M.length M' := fun ml => ml.wf M.length (Nat.le_refl _) wf0
        cases r with
        | nx σd M' => exact fun σ' ρ' H' l rh' _ => post_leave (m := m) rh p (wfM hx) l rh' (show Rep _ _ _ .non .non from rfl)
        | rt d M' => exact fun v ρ' H' l rh' rv' => post_leave (m := m) rh p (wfM hx) l rh' rv'
        | bk σd M' => exact p.elim
        | ct σd M' => exact p.elim
        | exc j σd M' =>
          intro σ' ρ' H' l rh' _
          have L := le_take l
          rw [rh.len] at L
          exact p _ H' L (repH_take rh' (wfM hx))
        | stuck => exact p
      | true =>
        rw [hraw] at p hx
        cases r with
        | nx σd M' => exact fun σ' ρ' H' l rh' _ => p .non ρ' H' l rh' rfl
        | rt d M' => exact p
        | bk σd M' => exact p.elim
        | ct σd M' => exact p.elim
        | exc j σd M' => exact fun σ' ρ' H' l rh' _ => p ρ' H' l rh'
        | stuck => exact p
theorem def_binds {as : List Arg} (hq : defOk T q = true) (ha : parsOf q.d.params = some as) (F : FunD K q.d.name q.d.qual q.d.params q.d.body q.d.scope [] [] f fd) : Binds K fd (as.map (·.arg)) [] := by
  obtain ⟨as', h1, h2⟩ := any_some hq
  rw [ha] at h1
  cases h1
  obtain ⟨h2, h8⟩ := and_t h2
  obtain ⟨h2, h7⟩ := and_t h2
  obtain ⟨h2, h6⟩ := and_t h2
  obtain ⟨h2, h5⟩ := and_t h2
  obtain ⟨h3, h4⟩ := and_t h2
  have S := scopeB_ok h3
  obtain ⟨kwd, hp⟩ := parsOf_eq ha
  have nd : (as.map (·.arg)).Nodup := by rw [← S.pre]; exact S.nd.sublist (List.take_sublist _ _)
  exact F.bindsN fun kV doc pm an cdv ct us hl => bind_plain (fd := PySem.W.fnOf q.d.name q.d.qual q.d.params q.d.body q.d.scope .none kV doc pm an cdv ct) hp rfl (by rw [hl, List.length_map]) nd
end
end MiniS
set_option autoImplicit false
set_option maxRecDepth 100000
set_option maxHeartbeats 4000000
namespace MiniS
open PySem PySem.Spec PyProof.Rows L2 Mini
mutual
def valB (K : PySem.W.Frag) : D → Value → Bool
  | .int i, u => (match u with | .int j _ => decide (i = j) | _ => false)
  | .bl b, u => (match u with | .bool c => b == c | _ => false)
  | .non, u => (match u with | .none => true | _ => false)
  | .str s, u => (match u with | .str x _ => decide (mkS s = x) && PyData.strOk x | _ => false)
  | .tup xs, u => (match u with
    | .ref a => (match K.lookup a with
      | some ⟨.type c, _, .seq its _, _⟩ => decide (c = "tuple") && (decide (its.size ≤ sizeLine) && valBL K xs its.toList)
      | _ => false)
    | _ => false)
  | _, _ => false
def valBL (K : PySem.W.Frag) : List D → List Value → Bool
  | [], us => us.isEmpty
  | x :: xs, us => (match us with
    | u :: us => valB K x u && valBL K xs us
    | [] => false)
end
mutual
theorem valB_ok {K : PySem.W.Frag} {G : Gi} (hK : G.K = K) : ∀ (d : D) (u : Value), valB K d u = true → ∃ v, RelV v u ∧ ∀ hid ρ H, Rep (G.hide hid) ρ H d v
  | .int i, u, h => by
    cases u with
    | int j t =>
      have e : i = j := of_decide_eq_true h
      exact ⟨.int i, ⟨t, by rw [e]⟩, fun _ _ _ => rfl⟩
    | _ => cases h
  | .bl b, u, h => by
    cases u with
    | bool c =>
      have e : b = c := eq_of_beq h
      exact ⟨.bl b, by rw [e]; rfl, fun _ _ _ => rfl⟩
    | _ => cases h
  | .non, u, h => by
    cases u with
    | none => exact ⟨.non, rfl, fun _ _ _ => rfl⟩
    | _ => cases h
  | .str s, u, h => by
    cases u with
    | str x t =>
      obtain ⟨h1, h2⟩ := and_t h
      have e : mkS s = x := of_decide_eq_true h1
      exact ⟨.str (mkS s), ⟨t, by rw [e]⟩, fun _ _ _ => ⟨rfl, by rw [e]; exact h2⟩⟩
    | _ => cases h
  | .tup xs, u, h => by
    cases u with
    | ref a =>
      have h : (match K.lookup a with
        | some ⟨.type c, _, .seq its _, _⟩ => decide (c = "tuple") && (decide (its.size ≤ sizeLine) && valBL K xs its.toList)
        | _ => false) = true := h
      cases q : K.lookup a with
      | none => rw [q] at h; cases h
      | some o =>
        obtain ⟨oc, od, dt, osl⟩ := o
        rw [q] at h
        cases oc with
        | type c =>
          cases dt with
          | seq its n =>
            obtain ⟨h1, h2⟩ := and_t (show (decide (c = "tuple") && (decide (its.size ≤ sizeLine) && valBL K xs its.toList)) = true from h)
            obtain ⟨h3, h4⟩ := and_t h2
            obtain ⟨vs, r, g⟩ := valBL_ok (G := G) hK xs its.toList h4
            refine ⟨.ref a, rfl, fun hid ρ H => Rep.tup_iff.mpr ⟨a, vs, rfl, ?_, g hid ρ H⟩⟩
            show SqT G.K H a vs
            rw [hK]
            exact .inr ⟨_, its, n, q, congrArg Value.type (of_decide_eq_true h1), rfl, of_decide_eq_true h3, r⟩
          | _ => cases h
        | _ => cases dt <;> cases h
    | _ => cases h
  | .lst _, u, h => by cases h
  | .scr _, u, h => by cases h
  | .dct _ _, u, h => by cases h
  | .obj _, u, h => by cases h
  | .fn _, u, h => by cases h
  | .cls _, u, h => by cases h
  | .ty _, u, h => by cases h
theorem valBL_ok {K : PySem.W.Frag} {G : Gi} (hK : G.K = K) : ∀ (ds : List D) (us : List Value), valBL K ds us = true → ∃ vs, Vals vs us ∧ ∀ hid ρ H, Reps (G.hide hid) ρ H ds vs
  | [], us, h => by
    cases us with
    | nil => exact ⟨[], .nil, fun _ _ _ => .nil⟩
    | cons _ _ => cases h
  | x :: xs, us, h => by
    cases us with
    | nil => cases h
    | cons u us =>
      obtain ⟨h1, h2⟩ := and_t (show (valB K x u && valBL K xs us) = true from h)
      obtain ⟨v, r, g⟩ := valB_ok hK x u h1
      obtain ⟨vs, r2, g2⟩ := valBL_ok hK xs us h2
      exact ⟨v :: vs, .cons r r2, fun hid ρ H => .cons (g hid ρ H) (g2 hid ρ H)⟩
end
def gloB (x : PySem.Str) (d : D) (K : PySem.W.Frag) : Bool := match PySem.W.nsIn K mainGlobals x with
  | some (some u) => valB K d u
  | _ => false
structure Pg where
  defs : List DefI
  gls : List (Nat × PySem.Str × D)
  frees : List PySem.Str
def Pg.T (p : Pg) : Tab where
  fn := fun f => (p.defs.map fun q => (q.id, q.d.name)).lookup f
  gl := fun i => (p.gls.map fun g => (g.1, g.2.1)).lookup i
  cls := fun _ => none
  free := fun x => p.frees.contains x
def Pg.M (p : Pg) : MProg := ⟨p.defs.map fun q => (q.id, q.m), p.gls.map fun g => (g.1, g.2.2)⟩
def Pg.ok (p : Pg) : Bool := p.defs.all fun q => defOk p.T q && decide (q.d.at_ = (q.d.name, none))
def Pg.facts (p : Pg) : List (PySem.W.Frag → Bool) := (p.defs.map fun q => (He.Fa.glo q.d.name).ok) ++ (p.frees.map fun x => (He.Fa.free x).ok) ++ p.gls.map fun g => gloB g.2.1 g.2.2
def Pg.fns (p : Pg) : List He.DefD := p.defs.map (·.d)
abbrev AlX : Type := Bool × He.AlD
def obsX (n : Nat) (p : Pg) (g : Addr → Option Obj) : AlX := let K := He.frG g (He.asD g n); (p.facts.all fun f => f K, He.obsD [] p.fns K)
def Pg.Says (p : Pg) (K : PySem.W.Frag) : Prop := (p.facts.all fun f => f K) = true ∧ He.SaysD [] p.fns K
def hookX (n : Nat) (p : Pg) : PySem.W.Hook where
  α := AlX
  obs := fun s => obsX n p s.heap.get?
  val := fun _ => (true, He.valD p.fns)
  says := fun _ h => ∃ K : PySem.W.Frag, K.In h ∧ p.Says K
  of := fun _ _ e => ⟨_, He.frG_in, congrArg (fun z : AlX => z.1) e, congrArg (fun z : AlX => z.2) e⟩
  keeps := fun _ _ _ ⟨K, hK, c⟩ k => ⟨K, PySem.W.Frag.In.keeps hK k, c⟩
theorem obsX_eq {n : Nat} {p : Pg} {g : Addr → Option Obj} {s : Shared} (h : ∀ a, g a = s.heap.get? a) : obsX n p g = (hookX n p).obs s := by
  have e : g = s.heap.get? := funext h
  rw [e] <;> rfl
theorem lookup_map {α β : Type} (f : α → β) : ∀ (l : List (Nat × α)) (i : Nat), (l.map fun p => (p.1, f p.2)).lookup i = (l.lookup i).map f
  | [], _ => rfl
  | (j, a) :: l, i => by
    rw [List.map_cons, List.lookup_cons, List.lookup_cons]
    cases i == j
    · exact lookup_map f l i
    · rfl
theorem lookup_mem {α : Type} : ∀ {l : List (Nat × α)} {i : Nat} {a : α}, l.lookup i = some a → (i, a) ∈ l
  | [], _, _, h => by cases h
  | (j, b) :: l, i, a, h => by
    rw [List.lookup_cons] at h
    cases e : i == j with
    | true =>
      rw [e] at h
      cases h
      rw [eq_of_beq e]
      exact List.mem_cons_self
    | false => rw [e] at h; exact List.mem_cons_of_mem _ (lookup_mem h)
section
variable {p : Pg} {P : Program} {w : World} {K : PySem.W.Frag} {mg : PySem.Str → Option Value} {h : Heap}
def Pg.G (p : Pg) (K : PySem.W.Frag) : Gi := ⟨K, fun f => match p.T.fn f with | some x => He.ga K x | none => 0, fun _ => 0, []⟩
theorem Pg.Says.fact (c : p.Says K) {f : PySem.W.Frag → Bool} (hf : f ∈ p.facts) : f K = true := List.all_eq_true.mp c.1 f hf
theorem Pg.at (p : Pg) {f : Nat} {x : PySem.Str} (hx : p.T.fn f = some x) : ∃ q ∈ p.defs, q.id = f ∧ q.d.name = x ∧ p.M.fns.lookup f = some q.m ∧ (p.defs.map fun q => (q.id, q)).lookup f = some q := by
  have e1 : ((p.defs.map fun q => (q.id, q)).map fun z => (z.1, z.2.d.name)).lookup f = some x := by
    rw [List.map_map]
    exact hx
  rw [lookup_map (fun q : DefI => q.d.name)] at e1
  obtain ⟨q, h1, h2⟩ := mapSome e1
  have hm := lookup_mem h1
  obtain ⟨q', h3, h4⟩ := List.mem_map.mp hm
  cases h4
  refine ⟨q, h3, rfl, h2, ?_, h1⟩
  have e2 : p.M.fns.lookup q.id = ((p.defs.map fun q => (q.id, q)).map fun z => (z.1, z.2.m)).lookup q.id := by
    rw [List.map_map]
    rfl
  rw [e2, lookup_map (fun q : DefI => q.m), h1]
  rfl
theorem Pg.fun_ (c : p.Says K) (ok : p.ok = true) {q : DefI} (hq : q ∈ p.defs) : defOk p.T q = true ∧ ∃ fd, FunD K q.d.name q.d.qual q.d.params q.d.body q.d.scope [] [] (He.ga K q.d.name) fd := by
  obtain ⟨h1, h2⟩ := and_t (List.all_eq_true.mp ok q hq)
  refine ⟨h1, ?_⟩
  obtain ⟨i, hi, e⟩ := List.mem_iff_getElem.mp hq
  obtain ⟨fd, F⟩ := c.2.def_ i (d := q.d) (by
    show (p.defs.map (·.d))[i]? = some q.d
    rw [List.getElem?_map, List.getElem?_eq_getElem hi, e]
    rfl)
  refine ⟨fd, ?_⟩
  obtain ⟨as, h3, h4⟩ := any_some h1
  obtain ⟨h4, _⟩ := and_t h4
  obtain ⟨h4, h6⟩ := and_t h4
  obtain ⟨_, h5⟩ := and_t h4
  have e5 : q.d.dvs K = [] := by unfold He.DefD.dvs; rw [List.isEmpty_iff.mp h5]; rfl
  have e6 : q.d.kws K = [] := by unfold He.DefD.kws; rw [List.isEmpty_iff.mp h6]; rfl
  have e7 : He.fAd K q.d.at_ = He.ga K q.d.name := by rw [of_decide_eq_true h2]; rfl
  rw [e5, e6, e7] at F
  exact F
theorem pg_tok (X : K.In h) (Gn : h.Ns mainGlobals mg) (c : p.Says K) (ok : p.ok = true) (W : Nat) (base : Heap) : ∀ k, TOk p.T P w K mg base (p.G K) (callN p.M W k) (fun i => p.M.gls.lookup i) k := by
  have free : ∀ x, p.T.free x = true → mg x = none := fun x hx => by
    have hm : x ∈ p.frees := by
      have hx : p.frees.contains x = true := hx
      simpa using hx
    exact He.free_ok X Gn (c.fact (f := (He.Fa.free x).ok) (List.mem_append_left _ (List.mem_append_right _ (List.mem_map.mpr ⟨x, hm, rfl⟩))))
  have gl : ∀ i x d, p.T.gl i = some x → p.M.gls.lookup i = some d → ∃ u v, mg x = some u ∧ RelV v u ∧ ∀ hid ρ H, Rep ((p.G K).hide hid) ρ H d v := fun i x d h1 h2 => by
    have e1 : (p.gls.map fun z => (z.1, z.2.1)).lookup i = some x := h1
    have e2 : (p.gls.map fun z => (z.1, z.2.2)).lookup i = some d := h2
    rw [lookup_map (fun z : PySem.Str × D => z.1)] at e1
    rw [lookup_map (fun z : PySem.Str × D => z.2)] at e2
    obtain ⟨g, h3, h4⟩ := mapSome e1
    rw [h3] at e2
    cases e2
    have hm := lookup_mem h3
    have z := c.fact (f := gloB g.1 g.2) (List.mem_append_right _ (List.mem_map.mpr ⟨(i, g), hm, rfl⟩))
    unfold gloB at z
    rw [h4] at z
    cases q : PySem.W.nsIn K mainGlobals x with
    | none => rw [q] at z; cases z
    | some o =>
      rw [q] at z
      cases o with
      | none => cases z
      | some u =>
        obtain ⟨v, r, g'⟩ := valB_ok (G := p.G K) rfl g.2 u z
        exact ⟨u, v, PySem.W.mg_of X Gn q, r, g'⟩
  intro k
  induction k with
  | zero =>
    refine ⟨free, gl, fun f x hx => ?_⟩
    obtain ⟨q, hq, rfl, rfl, hlk, _⟩ := p.at hx
    obtain ⟨hok, fd, F⟩ := Pg.fun_ c ok hq
    obtain ⟨as, ha, _⟩ := any_some hok
    have e1 : (p.G K).fa q.id = He.ga K q.d.name := by show (match p.T.fn q.id with | some x => He.ga K x | none => 0) = _; rw [hx]
    rw [e1]
    refine ⟨q.m.np, fd, as.map fun a : Arg => a.arg, He.glo_ok X Gn (c.fact (f := (He.Fa.glo q.d.name).ok) (List.mem_append_left _ (List.mem_append_left _ (List.mem_map.mpr ⟨q, hq, rfl⟩)))), F.kp, def_binds hok ha F, ?_, fun m ds fl lk M z => absurd rfl z⟩
    refine ⟨fun vs H Q E z => ?_, fun A outer s H args us vs Q E hr he hb hv z => ?_⟩
    · obtain ⟨_, _, _, _, _, _, _, _, _, _, z⟩ := z; exact z.elim
    · obtain ⟨_, _, _, _, _, _, _, _, _, _, z⟩ := z; exact z.elim
  | succ k ih =>
    refine ⟨free, gl, fun f x hx => ?_⟩
    obtain ⟨q, hq, rfl, rfl, hlk, _⟩ := p.at hx
    obtain ⟨hok, fd, F⟩ := Pg.fun_ c ok hq
    obtain ⟨as, ha, _⟩ := any_some hok
    have e1 : (p.G K).fa q.id = He.ga K q.d.name := by show (match p.T.fn q.id with | some x => He.ga K x | none => 0) = _; rw [hx]
    rw [e1]
    refine ⟨q.m.np, fd, as.map fun a : Arg => a.arg, He.glo_ok X Gn (c.fact (f := (He.Fa.glo q.d.name).ok) (List.mem_append_left _ (List.mem_append_left _ (List.mem_map.mpr ⟨q, hq, rfl⟩)))), F.kp, def_binds hok ha F, def_ok (K := K) (G := p.G K) rfl ih hok hlk ha F, fun m ds fl lk M z => ?_⟩
    unfold callN at z
    rw [hlk] at z
    dsimp only at z
    by_cases hl : ds.length = q.m.np
    · exact hl
    · rw [if_neg hl] at z; exact absurd rfl z
theorem walk_w {l : PySem.W.OpenLaw} {n k : Nat} {q : Program} {loose : List PySem.Str} {XP : (PySem.Str → Option Value) → Heap → Prop} {YP : World → Heap → Prop} {d : DefRec} {CX : World → CXT} {x : PySem.Str}
    (hn : l.most = some n) (hn2 : n ≤ sizeLine) (hdf : d.params.defaults = []) (hr : Room k callerA)
    (F : ∀ (w : World) (mg : PySem.Str → Option Value) (fa : Addr) (h : Heap), YP w h → h.Ns mainGlobals mg → mg d.name = some (.ref fa) →
      ∃ (K : PySem.W.Frag) (fd : FuncData) (sp : Sp), K.In h ∧ (∀ (s : Shared) (u : Value), BindsTo s fd ⟨[u], []⟩ [(x, u)]) ∧
        (∀ (H : Hp) (a : Addr) (ns : List Int), ns.length ≤ n → Only H → SqL K H a (ns.map V.int) → sp [.ref a] H (fun v _ => v = .bl true) fun _ _ _ => False) ∧
        ∀ base : Heap, K.In base → base.Ns mainGlobals mg → FnOk l.prog w K mg base (CX w) k fa fd [x] sp)
    (hCX : ∀ (w : World) (H : Hp) (s : Shared) (e : Value) (s' : Shared), CX w [] H s (fun _ _ _ => False) e s' → False) :
    PySem.W.WalkO q loose XP YP l.row.toRowW d [] (fun f vs => PySem.call f vs) := by
  refine Att.attach_call hn hdf fun w s₀ s₁ mg mb fa o pm cd doc a vs ns G Y ho hd hcd hmg hobj hints hlen hg => ?_
  obtain ⟨K, fd, sp, KX, hb, hsp, hF⟩ := F w mg fa _ Y G.T.g hmg
  exact law_call KX G.T.g G.T.b G.T.builtins G.T.nolimit hg hobj hints (Nat.le_trans hlen hn2) hr hF hb (fun H hO hS => hsp H a ns hlen hO hS) fun H e s' => hCX w H s₁ e s'
theorem pg_walk {l : PySem.W.OpenLaw} {n k : Nat} {qp : Program} {loose : List PySem.Str} {XP : (PySem.Str → Option Value) → Heap → Prop} {d : DefRec} {m : Nat} (W law : Nat) {x : PySem.Str}
    (ok : p.ok = true) (hlaw : p.T.fn law = some d.name) (hpar : ((p.defs.map fun q => (q.id, q)).lookup law).any (fun q => decide ((parsOf q.d.params).map (fun as => as.map (·.arg)) = some [x])) = true)
    (hn : l.most = some n) (hn2 : n ≤ sizeLine) (hdf : d.params.defaults = []) (hr : Room k callerA)
    (hrun : ∀ ns : List Int, ns.length ≤ n → ∃ M', callN p.M W k false law [.scr ns] 0 [] [] = .ok (.bl true) M') :
    PySem.W.WalkO qp loose XP (hookX m p).says l.row.toRowW d [] (fun f vs => PySem.call f vs) := by
  refine walk_w (l := l) (n := n) (k := k) (x := x) (CX := fun w => L2.CX l.prog w) hn hn2 hdf hr (fun w mg fa h Y Gn hmg => ?_) (fun w H s e s' z => ?_)
  rotate_left
  · obtain ⟨a, B, H', cls, d, _, _, _, _, _, _, _, z⟩ := z
    exact z
  obtain ⟨K, KX, c⟩ := Y
  have tok := fun base => pg_tok (P := l.prog) (w := w) KX Gn c ok W base k
  obtain ⟨q, hq, rfl, hnm, hlk, hlq⟩ := p.at hlaw
  obtain ⟨hok, fd0, F0⟩ := Pg.fun_ c ok hq
  have hga : (p.G K).fa q.id = He.ga K q.d.name := by show (match p.T.fn q.id with | some x => He.ga K x | none => 0) = _; rw [hlaw, hnm]
  have hfa : fa = He.ga K q.d.name := by
    have z := He.glo_ok KX Gn (c.fact (f := (He.Fa.glo q.d.name).ok) (List.mem_append_left _ (List.mem_append_left _ (List.mem_map.mpr ⟨q, hq, rfl⟩))))
    rw [hnm, hmg] at z
    rw [hnm]
    injection z with z
    injection z
  obtain ⟨as, hps, hxs⟩ : ∃ as, parsOf q.d.params = some as ∧ as.map (fun a : Arg => a.arg) = [x] := by
    rw [hlq] at hpar
    obtain ⟨as, h1, h2⟩ := mapSome (of_decide_eq_true hpar)
    exact ⟨as, h1, h2⟩
  obtain ⟨as', hq1, hq2⟩ := any_some hok
  rw [hps] at hq1
  cases hq1
  have hnp : q.m.np = 1 := by
    obtain ⟨hq2, _⟩ := and_t hq2
    obtain ⟨hq2, _⟩ := and_t hq2
    obtain ⟨hq2, _⟩ := and_t hq2
    obtain ⟨hq2, _⟩ := and_t hq2
    obtain ⟨_, hq2⟩ := and_t hq2
    rw [of_decide_eq_true hq2, ← List.length_map (fun a : Arg => a.arg), hxs]
    rfl
  cases k with
  | zero =>
    obtain ⟨M', z⟩ := hrun [] (Nat.zero_le _)
    cases z
  | succ k =>
    refine ⟨K, fd0, spF (p.G K) (callN p.M W (k + 1)) q.id q.m.np, KX, fun s u => ?_, fun H a ns hlen hO hS => ?_, fun base _ _ => ?_⟩
    · have nd : (as.map (fun a : Arg => a.arg)).Nodup := by rw [hxs]; simp
      obtain ⟨kwd, hp⟩ := parsOf_eq hps
      have b := FunD.bindsA (ps := [x]) F0 (fun kV doc pm an cdv ct us hl => by
        have z := bind_plain (fd := PySem.W.fnOf q.d.name q.d.qual q.d.params q.d.body q.d.scope .none kV doc pm an cdv ct) (us := us) hp rfl (by rw [hl, ← hxs, List.length_map]) nd
        rw [z, hxs])
      exact b s [u] rfl
    · obtain ⟨M', hrun⟩ := hrun ns hlen
      refine ⟨[], false, [], [], [.scr ns], 0, [], ⟨rfl, by simp, fun n a mo h1 h2 => by simp at h1, fun a ha => by cases ha⟩, .cons ⟨a, rfl, ?_⟩ .nil, by rw [hnp]; rfl, ?_⟩
      · rcases hS with (z | z) | z
        · rcases hO a with y | ⟨o, xs, y⟩ <;> rw [y] at z <;> cases z
        · exact .inl z
        · exact .inr z
      · rw [hrun]
        exact fun v ρ' H' l rh rv => rv
    · rw [hfa, ← hxs]
      exact def_ok (K := K) (G := p.G K) rfl (pg_tok (P := l.prog) (w := w) KX Gn c ok W base k) hok hlk hps F0
end
end MiniS
namespace Tx
open Mini
def d_is_number : MFn := ⟨3, 3, false, (.ret (.and (.bf .isinst (.cons (.v 0) (.cons (.c (.ty .int)) .nil))) (.and (.not (.bf .isinst (.cons (.v 0) (.cons (.c (.ty .bool)) .nil)))) (.chain .le .le (.v 1) (.v 0) (.v 2)))))⟩
def d_need_cells : MFn := ⟨2, 2, false, (.ife (.not (.call false 0 (.cons (.v 0) (.cons (.c (.int 1)) (.cons (.v 1) .nil))))) .never .skip)⟩
def b_holes_of_1 : MS := (.seq (.ife (.cmp .gt (.v 4) (.v 3)) (.expr (.mt .append (.v 2) (.cons (.tup (.cons (.v 3) (.cons (.bin .sub (.v 4) (.v 3)) .nil))) .nil))) .skip)
  (.asg (.one 3) (.bin .add (.v 4) (.v 5))))
def d_holes_of : MFn := ⟨2, 6, false, (.seq (.asg (.many [2, 3]) (.tup (.cons (.new (.lst .nil)) (.cons (.c (.int 0)) .nil))))
  (.seq (.for_ (.many [4, 5]) (.it (.bin .add (.v 1) (.tup (.cons (.tup (.cons (.v 0) (.cons (.c (.int 0)) .nil))) .nil)))) b_holes_of_1)
  (.ret (.v 2))))⟩
def d_with_block : MFn := ⟨3, 3, false, (.ret (.bf .tuple (.cons (.bf .sorted (.cons (.bin .add (.v 0) (.tup (.cons (.tup (.cons (.v 1) (.cons (.v 2) .nil))) .nil))) .nil)) .nil)))⟩
def d_without_block : MFn := ⟨2, 3, false, (.ret (.bf .tuple (.cons (.comp (.v 2) (.cmp .ne (.idx (.v 2) (.c (.int 0))) (.v 1)) (.it (.v 0)) (.one 2) [2]) .nil)))⟩
def b_are_regions_1 : MS := (.seq (.ife (.or (.not (.bf .isinst (.cons (.v 2) (.cons (.c (.ty .tuple)) .nil)))) (.or (.cmp .ne (.bf .len (.cons (.v 2) .nil)) (.c (.int 2))) (.not (.call false 0 (.cons (.idx (.v 2) (.c (.int 0))) (.cons (.c (.int 1)) (.cons (.g 0) .nil))))))) (.ret (.c (.bl false))) .skip)
  (.ife (.not (.call false 0 (.cons (.idx (.v 2) (.c (.int 1))) (.cons (.c (.int 1)) (.cons (.g 1) .nil))))) (.ret (.c (.bl false))) .skip))
def d_are_regions : MFn := ⟨2, 5, false, (.seq (.ife (.or (.not (.bf .isinst (.cons (.v 1) (.cons (.c (.ty .tuple)) .nil)))) (.not (.chain .le .le (.c (.int 1)) (.bf .len (.cons (.v 1) .nil)) (.c (.int 3))))) (.ret (.c (.bl false))) .skip)
  (.seq (.for_ (.one 2) (.it (.v 1)) b_are_regions_1)
  (.seq (.ife (.not (.bf .all (.cons (.comp (.cmp .lt (.idx (.v 3) (.c (.int 0))) (.idx (.v 4) (.c (.int 0)))) .nil (.zip (.v 1) (.slc (.v 1) (.c (.int 1)) (.c .non))) (.many [3, 4]) [3, 4]) .nil))) (.ret (.c (.bl false))) .skip)
  (.ret (.cmp .le (.bf .sum (.cons (.comp (.idx (.v 2) (.c (.int 1))) .nil (.it (.v 1)) (.one 2) [2]) .nil)) (.v 0))))))⟩
def d_is_rule_of : MFn := ⟨2, 2, false, (.seq (.ife (.or (.not (.bf .isinst (.cons (.v 1) (.cons (.c (.ty .tuple)) .nil)))) (.or (.cmp .eq (.v 1) (.tup .nil)) (.not (.bf .isinst (.cons (.idx (.v 1) (.c (.int 0))) (.cons (.c (.ty .str)) .nil)))))) (.ret (.c (.bl false))) .skip)
  (.seq (.ife (.cmp .mem (.idx (.v 1) (.c (.int 0))) (.g 2)) (.ret (.cmp .eq (.bf .len (.cons (.v 1) .nil)) (.c (.int 1)))) .skip)
  (.seq (.ife (.cmp .ne (.bf .len (.cons (.v 1) .nil)) (.c (.int 2))) (.ret (.c (.bl false))) .skip)
  (.seq (.ife (.cmp .eq (.idx (.v 1) (.c (.int 0))) (.c (.str [101, 110, 100, 115]))) (.ret (.call false 0 (.cons (.idx (.v 1) (.c (.int 1))) (.cons (.c (.int 1)) (.cons (.g 0) .nil))))) .skip)
  (.seq (.ife (.cmp .eq (.idx (.v 1) (.c (.int 0))) (.c (.str [99, 108, 97, 115, 115, 101, 115]))) (.ret (.call false 57 (.cons (.v 0) (.cons (.idx (.v 1) (.c (.int 1))) .nil)))) .skip)
  (.ret (.and (.cmp .eq (.idx (.v 1) (.c (.int 0))) (.c (.str [115, 108, 97, 98, 115]))) (.call false 0 (.cons (.idx (.v 1) (.c (.int 1))) (.cons (.c (.int 1)) (.cons (.v 0) .nil)))))))))))⟩
def d_need_rule : MFn := ⟨2, 2, false, (.seq (.expr (.call false 4 (.cons (.v 0) (.cons (.g 1) .nil))))
  (.ife (.not (.call false 58 (.cons (.v 0) (.cons (.v 1) .nil)))) .never .skip))⟩
def d_rounded : MFn := ⟨1, 1, false, (.ret (.ife (.cmp .eq (.v 0) (.c (.int 3))) (.c (.int 4)) (.v 0)))⟩
def b_free_marks_1 : MS := (.setix (.v 2) (.v 5) (.c (.bl false)))
def b_free_marks_2 : MS := (.for_ (.one 5) (.rng (.cons (.v 3) (.cons (.bf .min (.cons (.v 0) (.cons (.bin .add (.v 3) (.call false 25 (.cons (.v 4) .nil))) .nil))) .nil))) b_free_marks_1)
def d_free_marks : MFn := ⟨2, 6, false, (.seq (.asg (.one 2) (.new (.bin .mul (.lst (.cons (.c (.bl true)) .nil)) (.v 0))))
  (.seq (.for_ (.many [3, 4]) (.it (.v 1)) b_free_marks_2)
  (.ret (.v 2))))⟩
def b_parts_of_1 : MS := (.setix (.v 2) (.v 6) (.c (.bl false)))
def b_parts_of_2 : MS := (.ife (.bf .all (.cons (.slc (.v 2) (.v 5) (.bin .add (.v 5) (.v 4))) .nil)) (.seq (.expr (.mt .append (.v 3) (.cons (.tup (.cons (.v 4) (.cons (.v 5) .nil))) .nil)))
  (.for_ (.one 6) (.rng (.cons (.v 5) (.cons (.bin .add (.v 5) (.v 4)) .nil))) b_parts_of_1)) .skip)
def b_parts_of_3 : MS := (.for_ (.one 5) (.rng (.cons (.c (.int 0)) (.cons (.bin .add (.bin .sub (.v 0) (.v 4)) (.c (.int 1))) (.cons (.v 4) .nil)))) b_parts_of_2)
def d_parts_of : MFn := ⟨2, 7, false, (.seq (.asg (.many [2, 3]) (.tup (.cons (.call true 59 (.cons (.v 0) (.cons (.v 1) .nil))) (.cons (.new (.lst .nil)) .nil))))
  (.seq (.for_ (.one 4) (.it (.rev (.g 3))) b_parts_of_3)
  (.ret (.bf .sorted (.cons (.v 3) .nil)))))⟩
def b_first_open_1 : MS := (.seq (.asg (.one 6) (.bf .max (.cons (.v 4) (.cons (.v 3) .nil))))
  (.ife (.cmp .le (.bin .add (.v 6) (.v 2)) (.bin .add (.v 4) (.v 5))) (.ret (.v 6)) .skip))
def d_first_open : MFn := ⟨4, 7, false, (.seq (.for_ (.many [4, 5]) (.it (.call false 7 (.cons (.v 0) (.cons (.v 1) .nil)))) b_first_open_1)
  (.ret (.c .non)))⟩
def b_in_region_1 : MS := (.seq (.ife (.cmp .eq (.v 4) (.v 2)) (.seq (.asg (.one 6) (.bf .tuple (.cons (.comp (.tup (.cons (.bin .sub (.v 8) (.v 3)) (.cons (.v 9) .nil))) (.chain .le .lt (.v 3) (.v 8) (.bin .add (.v 3) (.v 5))) (.it (.v 1)) (.many [8, 9]) [8, 9]) .nil)))
  (.seq (.asg (.one 7) (.call false 60 (.cons (.v 5) (.cons (.v 6) (.cons (.v 2) (.cons (.c (.int 0)) .nil))))))
  (.ret (.ife (.cmp .is (.v 7) (.c .non)) (.c .non) (.bin .add (.v 3) (.v 7)))))) .skip)
  (.aug .add 3 (.v 5)))
def d_in_region : MFn := ⟨3, 10, false, (.seq (.asg (.one 3) (.c (.int 0)))
  (.seq (.for_ (.many [4, 5]) (.it (.v 0)) b_in_region_1)
  (.ret (.c .non))))⟩
def d_slab_starts : MFn := ⟨3, 4, false, (.ret (.comp (.v 3) (.chain .le .lt (.bin .mul (.v 2) (.v 0)) (.idx (.v 3) (.c (.int 0))) (.bin .mul (.bin .add (.v 2) (.c (.int 1))) (.v 0))) (.it (.v 1)) (.one 3) [3]))⟩
def b_in_slab_1 : MS := (.seq (.asg (.one 6) (.call false 61 (.cons (.v 0) (.cons (.v 2) (.cons (.v 5) .nil)))))
  (.ife (.cmp .eq (.v 6) (.lst .nil)) (.expr (.mt .append (.v 4) (.cons (.bin .mul (.v 5) (.v 0)) .nil))) (.ife (.and (.cmp .eq (.idx (.idx (.v 6) (.c (.int 0))) (.c (.int 1))) (.v 3)) (.cmp .lt (.bf .len (.cons (.v 6) .nil)) (.bin .fdiv (.v 0) (.v 3)))) (.seq (.asg (.one 7) (.comp (.idx (.v 9) (.c (.int 0))) .nil (.it (.v 6)) (.one 9) [9]))
  (.seq (.asg (.one 8) (.comp (.bin .add (.bin .mul (.v 5) (.v 0)) (.bin .mul (.v 3) (.v 10))) .nil (.rng (.cons (.bin .fdiv (.v 0) (.v 3)) .nil)) (.one 10) [10]))
  (.ret (.idx (.comp (.v 11) (.cmp .nmem (.v 11) (.v 7)) (.it (.v 8)) (.one 11) [11]) (.c (.int 0)))))) .skip)))
def d_in_slab : MFn := ⟨4, 12, false, (.seq (.ife (.cmp .gt (.v 3) (.v 0)) (.ret (.c .non)) .skip)
  (.seq (.asg (.one 4) (.new (.lst .nil)))
  (.seq (.for_ (.one 5) (.rng (.cons (.bin .fdiv (.v 1) (.v 0)) .nil)) b_in_slab_1)
  (.ret (.ife (.cmp .ne (.v 4) (.lst .nil)) (.idx (.v 4) (.c (.int 0))) (.c .non))))))⟩
def d_chosen_hole : MFn := ⟨4, 10, false, (.seq (.asg (.many [4, 5]) (.v 2))
  (.seq (.asg (.one 6) (.comp (.v 7) (.cmp .ge (.idx (.v 7) (.c (.int 1))) (.v 3)) (.it (.call false 7 (.cons (.v 1) (.cons (.v 4) .nil)))) (.one 7) [7]))
  (.seq (.ife (.cmp .eq (.v 6) (.lst .nil)) (.ret (.c .non)) .skip)
  (.seq (.ife (.cmp .eq (.idx (.v 0) (.c (.int 0))) (.c (.str [98, 101, 115, 116]))) (.ret (.idx (.comp (.v 7) (.cmp .eq (.idx (.v 7) (.c (.int 1))) (.bf .min (.cons (.comp (.idx (.v 9) (.c (.int 1))) .nil (.it (.v 6)) (.one 9) [9]) .nil))) (.it (.v 6)) (.one 7) [7]) (.c (.int 0)))) .skip)
  (.seq (.ife (.cmp .eq (.idx (.v 0) (.c (.int 0))) (.c (.str [119, 111, 114, 115, 116]))) (.ret (.idx (.comp (.v 7) (.cmp .eq (.idx (.v 7) (.c (.int 1))) (.bf .max (.cons (.comp (.idx (.v 9) (.c (.int 1))) .nil (.it (.v 6)) (.one 9) [9]) .nil))) (.it (.v 6)) (.one 7) [7]) (.c (.int 0)))) .skip)
  (.seq (.ife (.cmp .eq (.idx (.v 0) (.c (.int 0))) (.c (.str [110, 101, 119, 101, 115, 116]))) (.ret (.idx (.comp2 (.v 7) (.cmp .eq (.idx (.v 7) (.c (.int 0))) (.v 8)) (.it (.v 6)) (.one 7) (.it (.v 5)) (.one 8) [8, 7]) (.c (.int 0)))) .skip)
  (.ret (.ife (.and (.cmp .eq (.idx (.v 0) (.c (.int 0))) (.c (.str [101, 110, 100, 115]))) (.cmp .gt (.v 3) (.idx (.v 0) (.c (.int 1))))) (.idx (.v 6) (.neg (.c (.int 1)))) (.idx (.v 6) (.c (.int 0)))))))))))⟩
def d_place : MFn := ⟨4, 10, false, (.seq (.asg (.many [4, 5]) (.v 2))
  (.seq (.ife (.cmp .eq (.idx (.v 0) (.c (.int 0))) (.c (.str [110, 101, 120, 116]))) (.seq (.asg (.one 6) (.call false 60 (.cons (.v 1) (.cons (.v 4) (.cons (.v 3) (.cons (.v 5) .nil))))))
  (.ret (.ife (.cmp .is (.v 6) (.c .non)) (.call false 60 (.cons (.v 1) (.cons (.v 4) (.cons (.v 3) (.cons (.c (.int 0)) .nil))))) (.v 6)))) .skip)
  (.seq (.ife (.cmp .eq (.idx (.v 0) (.c (.int 0))) (.c (.str [98, 117, 100, 100, 121]))) (.seq (.asg (.one 7) (.comp (.v 9) (.cmp .ge (.idx (.v 9) (.c (.int 0))) (.call false 25 (.cons (.v 3) .nil))) (.it (.call false 62 (.cons (.v 1) (.cons (.v 4) .nil)))) (.one 9) [9]))
  (.ret (.ife (.cmp .ne (.v 7) (.lst .nil)) (.idx (.idx (.v 7) (.c (.int 0))) (.c (.int 1))) (.c .non)))) .skip)
  (.seq (.ife (.cmp .eq (.idx (.v 0) (.c (.int 0))) (.c (.str [99, 108, 97, 115, 115, 101, 115]))) (.ret (.call false 63 (.cons (.idx (.v 0) (.c (.int 1))) (.cons (.v 4) (.cons (.v 3) .nil))))) .skip)
  (.seq (.ife (.cmp .eq (.idx (.v 0) (.c (.int 0))) (.c (.str [115, 108, 97, 98, 115]))) (.ret (.call false 64 (.cons (.idx (.v 0) (.c (.int 1))) (.cons (.v 1) (.cons (.v 4) (.cons (.v 3) .nil)))))) .skip)
  (.seq (.asg (.one 8) (.call false 65 (.cons (.v 0) (.cons (.v 1) (.cons (.v 2) (.cons (.v 3) .nil))))))
  (.seq (.ife (.cmp .is (.v 8) (.c .non)) (.ret (.c .non)) .skip)
  (.ret (.ife (.and (.cmp .eq (.idx (.v 0) (.c (.int 0))) (.c (.str [101, 110, 100, 115]))) (.cmp .gt (.v 3) (.idx (.v 0) (.c (.int 1))))) (.bin .sub (.bin .add (.idx (.v 8) (.c (.int 0))) (.idx (.v 8) (.c (.int 1)))) (.v 3)) (.idx (.v 8) (.c (.int 0))))))))))))⟩
def d_begun : MFn := ⟨1, 1, false, (.ret (.tup (.cons (.tup .nil) (.cons (.ife (.cmp .eq (.idx (.v 0) (.c (.int 0))) (.c (.str [110, 101, 119, 101, 115, 116]))) (.tup (.cons (.c (.int 0)) .nil)) (.c (.int 0))) .nil))))⟩
def d_put : MFn := ⟨5, 12, false, (.seq (.asg (.many [5, 6]) (.v 2))
  (.seq (.asg (.one 7) (.call false 28 (.cons (.v 5) (.cons (.v 3) (.cons (.v 4) .nil)))))
  (.seq (.ife (.cmp .eq (.idx (.v 0) (.c (.int 0))) (.c (.str [110, 101, 120, 116]))) (.asg (.one 6) (.bin .add (.v 3) (.v 4))) .skip)
  (.seq (.ife (.cmp .eq (.idx (.v 0) (.c (.int 0))) (.c (.str [110, 101, 119, 101, 115, 116]))) (.seq (.asg (.one 8) (.comp (.idx (.v 10) (.c (.int 0))) .nil (.it (.call false 7 (.cons (.v 1) (.cons (.v 7) .nil)))) (.one 10) [10]))
  (.seq (.asg (.one 9) (.comp (.ife (.cmp .eq (.v 11) (.v 3)) (.bin .add (.v 3) (.v 4)) (.v 11)) .nil (.it (.v 6)) (.one 11) [11]))
  (.asg (.one 6) (.bf .tuple (.cons (.comp (.v 11) (.cmp .mem (.v 11) (.v 8)) (.it (.v 9)) (.one 11) [11]) .nil))))) .skip)
  (.ret (.tup (.cons (.v 7) (.cons (.v 6) .nil))))))))⟩
def d_take : MFn := ⟨4, 10, false, (.seq (.asg (.many [4, 5]) (.v 2))
  (.seq (.asg (.one 6) (.call false 66 (.cons (.v 4) (.cons (.v 3) .nil))))
  (.seq (.ife (.cmp .eq (.idx (.v 0) (.c (.int 0))) (.c (.str [110, 101, 119, 101, 115, 116]))) (.seq (.asg (.one 7) (.idx (.comp (.v 8) (.chain .le .lt (.idx (.v 8) (.c (.int 0))) (.v 3) (.bin .add (.idx (.v 8) (.c (.int 0))) (.idx (.v 8) (.c (.int 1))))) (.it (.call false 7 (.cons (.v 1) (.cons (.v 6) .nil)))) (.one 8) [8]) (.c (.int 0))))
  (.asg (.one 5) (.bin .add (.tup (.cons (.idx (.v 7) (.c (.int 0))) .nil)) (.bf .tuple (.cons (.comp (.v 9) (.not (.chain .le .lt (.idx (.v 7) (.c (.int 0))) (.v 9) (.bin .add (.idx (.v 7) (.c (.int 0))) (.idx (.v 7) (.c (.int 1)))))) (.it (.v 5)) (.one 9) [9]) .nil))))) .skip)
  (.ret (.tup (.cons (.v 6) (.cons (.v 5) .nil)))))))⟩
def d_is_deed : MFn := ⟨1, 1, false, (.seq (.ife (.or (.not (.bf .isinst (.cons (.v 0) (.cons (.c (.ty .tuple)) .nil)))) (.or (.cmp .ne (.bf .len (.cons (.v 0) .nil)) (.c (.int 2))) (.not (.bf .isinst (.cons (.idx (.v 0) (.c (.int 0))) (.cons (.c (.ty .str)) .nil)))))) (.ret (.c (.bl false))) .skip)
  (.seq (.ife (.cmp .eq (.idx (.v 0) (.c (.int 0))) (.c (.str [97, 115, 107]))) (.ret (.call false 0 (.cons (.idx (.v 0) (.c (.int 1))) (.cons (.c (.int 1)) (.cons (.g 0) .nil))))) .skip)
  (.ret (.and (.cmp .eq (.idx (.v 0) (.c (.int 0))) (.c (.str [102, 114, 101, 101]))) (.call false 0 (.cons (.idx (.v 0) (.c (.int 1))) (.cons (.c (.int 0)) (.cons (.g 4) .nil))))))))⟩
def b_is_row_1 : MS := (.ife (.cmp .eq (.v 3) (.c (.str [97, 115, 107]))) (.aug .add 1 (.c (.int 1))) (.ife (.or (.cmp .ge (.v 4) (.v 1)) (.cmp .mem (.v 4) (.v 2))) (.ret (.c (.bl false))) (.expr (.mt .append (.v 2) (.cons (.v 4) .nil)))))
def d_is_row : MFn := ⟨1, 6, false, (.seq (.ife (.or (.not (.bf .isinst (.cons (.v 0) (.cons (.c (.ty .list)) .nil)))) (.or (.cmp .gt (.bf .len (.cons (.v 0) .nil)) (.g 4)) (.not (.bf .all (.cons (.comp (.call false 67 (.cons (.v 5) .nil)) .nil (.it (.v 0)) (.one 5) [5]) .nil))))) (.ret (.c (.bl false))) .skip)
  (.seq (.asg (.many [1, 2]) (.tup (.cons (.c (.int 0)) (.cons (.new (.lst .nil)) .nil))))
  (.seq (.for_ (.many [3, 4]) (.it (.v 0)) b_is_row_1)
  (.ret (.c (.bl true))))))⟩
def d_need_row : MFn := ⟨1, 1, false, (.ife (.not (.call false 68 (.cons (.v 0) .nil))) .never .skip)⟩
def b_run_1 : MS := (.ife (.cmp .eq (.idx (.v 6) (.c (.int 0))) (.c (.str [97, 115, 107]))) (.seq (.asg (.one 7) (.call false 70 (.cons (.v 0) (.cons (.v 1) (.cons (.v 3) (.cons (.idx (.v 6) (.c (.int 1))) .nil))))))
  (.seq (.ife (.cmp .is (.v 7) (.c .non)) (.ret (.tup (.cons (.v 4) (.cons (.v 5) (.cons (.v 3) .nil))))) .skip)
  (.seq (.expr (.mt .append (.v 4) (.cons (.v 7) .nil)))
  (.asg (.one 3) (.call false 71 (.cons (.v 0) (.cons (.v 1) (.cons (.v 3) (.cons (.v 7) (.cons (.idx (.v 6) (.c (.int 1))) .nil)))))))))) (.asg (.one 3) (.call false 72 (.cons (.v 0) (.cons (.v 1) (.cons (.v 3) (.cons (.idx (.v 4) (.idx (.v 6) (.c (.int 1)))) .nil)))))))
def d_run : MFn := ⟨3, 8, false, (.seq (.asg (.many [3, 4]) (.tup (.cons (.call false 69 (.cons (.v 0) .nil)) (.cons (.new (.lst .nil)) .nil))))
  (.seq (.for_ (.many [5, 6]) (.enum (.v 2)) b_run_1)
  (.ret (.tup (.cons (.v 4) (.cons (.c .non) (.cons (.v 3) .nil)))))))⟩
def d_need_run : MFn := ⟨3, 3, false, (.seq (.expr (.call false 73 (.cons (.v 1) (.cons (.v 0) .nil))))
  (.expr (.call false 74 (.cons (.v 2) .nil))))⟩
def d_starts : MFn := ⟨3, 3, false, (.seq (.expr (.call false 75 (.cons (.v 0) (.cons (.v 1) (.cons (.v 2) .nil)))))
  (.ret (.idx (.call false 76 (.cons (.v 0) (.cons (.v 1) (.cons (.v 2) .nil)))) (.c (.int 0)))))⟩
def d_fails_at : MFn := ⟨3, 3, false, (.seq (.expr (.call false 75 (.cons (.v 0) (.cons (.v 1) (.cons (.v 2) .nil)))))
  (.ret (.idx (.call false 76 (.cons (.v 0) (.cons (.v 1) (.cons (.v 2) .nil)))) (.c (.int 1)))))⟩
def d_law_draw : MFn := ⟨3, 6, false, (.seq (.ife (.cmp .gt (.idx (.v 1) (.c (.int 1))) (.c (.int 0))) (.seq (.asg (.one 3) (.bin .mod (.idx (.v 1) (.c (.int 1))) (.v 2)))
  (.seq (.setix (.v 1) (.c (.int 1)) (.bin .fdiv (.idx (.v 1) (.c (.int 1))) (.v 2)))
  (.ret (.v 3)))) .skip)
  (.seq (.asg (.one 4) (.idx (.v 1) (.c (.int 0))))
  (.seq (.augix .add (.v 1) (.c (.int 0)) (.c (.int 1)))
  (.seq (.ife (.cmp .eq (.v 0) (.lst .nil)) (.ret (.bin .mod (.v 4) (.v 2))) .skip)
  (.seq (.ife (.and (.cmp .lt (.v 4) (.bf .len (.cons (.v 0) .nil))) (.cmp .ge (.idx (.v 0) (.v 4)) (.bin .pow (.c (.int 10)) (.c (.int 18))))) (.seq (.setix (.v 1) (.c (.int 1)) (.bin .mod (.bin .fdiv (.idx (.v 0) (.v 4)) (.v 2)) (.bin .mul (.bin .pow (.c (.int 10)) (.c (.int 60))) (.bin .pow (.c (.int 10)) (.c (.int 60))))))
  (.ret (.bin .mod (.idx (.v 0) (.v 4)) (.v 2)))) .skip)
  (.seq (.asg (.one 5) (.bin .mod (.bin .add (.bin .add (.bin .mul (.idx (.v 0) (.bin .mod (.v 4) (.bf .len (.cons (.v 0) .nil)))) (.c (.int 1103515245))) (.bin .mul (.c (.int 7919)) (.v 4))) (.c (.int 12345))) (.c (.int 2147483647))))
  (.ret (.bin .mod (.bin .mod (.bin .mod (.bin .pow (.v 5) (.c (.int 5))) (.c (.int 2147483647))) (.c (.int 999983))) (.v 2)))))))))⟩
def d_layout_behind : MFn := ⟨3, 3, false, (.seq (.expr (.call false 75 (.cons (.v 0) (.cons (.v 1) (.cons (.v 2) .nil)))))
  (.ret (.idx (.idx (.call false 76 (.cons (.v 0) (.cons (.v 1) (.cons (.v 2) .nil)))) (.c (.int 2))) (.c (.int 0)))))⟩
def d_law_pick : MFn := ⟨3, 3, false, (.ret (.idx (.v 2) (.call false 10 (.cons (.v 0) (.cons (.v 1) (.cons (.bf .len (.cons (.v 2) .nil)) .nil))))))⟩
def b_law_load_1 : MS := (.ife (.and (.cmp .lt (.call false 10 (.cons (.v 0) (.cons (.v 1) (.cons (.c (.int 5)) .nil)))) (.idx (.tup (.cons (.c (.int 3)) (.cons (.c (.int 3)) (.cons (.c (.int 2)) (.cons (.c (.int 1)) .nil))))) (.bin .sub (.v 4) (.c (.int 1))))) (.cmp .lt (.bf .len (.cons (.v 3) .nil)) (.c (.int 3)))) (.expr (.mt .append (.v 3) (.cons (.v 4) .nil))) .skip)
def d_law_load : MFn := ⟨3, 5, false, (.seq (.asg (.one 3) (.new (.lst .nil)))
  (.seq (.for_ (.one 4) (.it (.tup (.cons (.c (.int 1)) (.cons (.c (.int 2)) (.cons (.c (.int 3)) (.cons (.c (.int 4)) .nil)))))) b_law_load_1)
  (.seq (.ife (.cmp .eq (.v 3) (.lst .nil)) (.asg (.one 3) (.new (.lst (.cons (.bin .add (.c (.int 1)) (.call false 10 (.cons (.v 0) (.cons (.v 1) (.cons (.c (.int 4)) .nil))))) .nil)))) .skip)
  (.ret (.tup (.cons (.bf .tuple (.cons (.v 3) .nil)) (.cons (.bin .add (.idx (.v 3) (.neg (.c (.int 1)))) (.call false 10 (.cons (.v 0) (.cons (.v 1) (.cons (.bin .add (.bin .sub (.v 2) (.idx (.v 3) (.neg (.c (.int 1))))) (.c (.int 1))) .nil))))) .nil)))))))⟩
def b_law_row_1 : MS := (.seq (.asg (.one 9) (.call false 11 (.cons (.v 0) (.cons (.v 1) (.cons (.idx (.v 2) (.c (.int 0))) .nil)))))
  (.ife (.and (.cmp .ne (.v 5) (.lst .nil)) (.or (.cmp .gt (.bin .add (.v 7) (.v 9)) (.idx (.v 2) (.c (.int 1)))) (.cmp .lt (.call false 10 (.cons (.v 0) (.cons (.v 1) (.cons (.c (.int 5)) .nil)))) (.c (.int 2))))) (.seq (.asg (.one 10) (.call false 11 (.cons (.v 0) (.cons (.v 1) (.cons (.v 5) .nil)))))
  (.seq (.expr (.mt .append (.v 4) (.cons (.tup (.cons (.c (.str [102, 114, 101, 101])) (.cons (.idx (.v 10) (.c (.int 0))) .nil))) .nil)))
  (.seq (.expr (.mt .remove (.v 5) (.cons (.v 10) .nil)))
  (.asg (.one 7) (.bin .sub (.v 7) (.idx (.v 10) (.c (.int 1)))))))) (.ife (.cmp .le (.bin .add (.v 7) (.v 9)) (.idx (.v 2) (.c (.int 1)))) (.seq (.expr (.mt .append (.v 4) (.cons (.tup (.cons (.c (.str [97, 115, 107])) (.cons (.v 9) .nil))) .nil)))
  (.seq (.expr (.mt .append (.v 5) (.cons (.tup (.cons (.v 6) (.cons (.v 9) .nil))) .nil)))
  (.asg (.many [6, 7]) (.tup (.cons (.bin .add (.v 6) (.c (.int 1))) (.cons (.bin .add (.v 7) (.v 9)) .nil)))))) .skip)))
def d_law_row : MFn := ⟨4, 11, false, (.seq (.asg (.many [4, 5, 6, 7]) (.tup (.cons (.new (.lst .nil)) (.cons (.new (.lst .nil)) (.cons (.c (.int 0)) (.cons (.c (.int 0)) .nil))))))
  (.seq (.for_ (.one 8) (.rng (.cons (.call false 10 (.cons (.v 0) (.cons (.v 1) (.cons (.bin .add (.v 3) (.c (.int 1))) .nil)))) .nil)) b_law_row_1)
  (.ret (.v 4))))⟩
def d_law_choice : MFn := ⟨4, 8, false, (.seq (.asg (.one 4) (.comp (.v 5) (.cmp .ge (.idx (.v 5) (.c (.int 1))) (.v 3)) (.it (.v 1)) (.one 5) [5]))
  (.seq (.ife (.cmp .eq (.v 4) (.lst .nil)) (.ret (.c .non)) .skip)
  (.seq (.ife (.cmp .eq (.v 0) (.c (.str [98, 101, 115, 116]))) (.ret (.idx (.bf .min (.cons (.comp (.tup (.cons (.v 7) (.cons (.v 6) .nil))) .nil (.it (.v 4)) (.many [6, 7]) [6, 7]) .nil)) (.c (.int 1)))) .skip)
  (.seq (.ife (.cmp .eq (.v 0) (.c (.str [119, 111, 114, 115, 116]))) (.ret (.idx (.bf .min (.cons (.comp (.tup (.cons (.neg (.v 7)) (.cons (.v 6) .nil))) .nil (.it (.v 4)) (.many [6, 7]) [6, 7]) .nil)) (.c (.int 1)))) .skip)
  (.seq (.ife (.cmp .eq (.v 0) (.c (.str [110, 101, 119, 101, 115, 116]))) (.ret (.idx (.comp (.idx (.v 5) (.c (.int 0))) (.cmp .mem (.v 5) (.v 4)) (.it (.rev (.v 2))) (.one 5) [5]) (.c (.int 0)))) .skip)
  (.ret (.ife (.cmp .eq (.v 0) (.c (.str [101, 110, 100, 115]))) (.bin .sub (.bin .add (.idx (.idx (.v 4) (.neg (.c (.int 1)))) (.c (.int 0))) (.idx (.idx (.v 4) (.neg (.c (.int 1)))) (.c (.int 1)))) (.v 3)) (.idx (.idx (.v 4) (.c (.int 0))) (.c (.int 0))))))))))⟩
def b_law_rule_1 : MS := (.ife (.and (.cmp .gt (.v 6) (.c (.int 0))) (.and (.cmp .lt (.bf .len (.cons (.v 5) .nil)) (.c (.int 3))) (.or (.cmp .eq (.call false 10 (.cons (.v 0) (.cons (.v 1) (.cons (.c (.int 2)) .nil)))) (.c (.int 0))) (.and (.cmp .eq (.v 7) (.c (.int 4))) (.cmp .eq (.v 5) (.lst .nil)))))) (.seq (.asg (.one 8) (.bin .add (.c (.int 1)) (.call false 10 (.cons (.v 0) (.cons (.v 1) (.cons (.v 6) .nil))))))
  (.seq (.expr (.mt .append (.v 5) (.cons (.tup (.cons (.v 7) (.cons (.v 8) .nil))) .nil)))
  (.asg (.one 6) (.bin .sub (.v 6) (.v 8))))) .skip)
def d_law_rule : MFn := ⟨3, 9, false, (.seq (.asg (.one 3) (.lst (.cons (.c (.str [102, 105, 114, 115, 116])) (.cons (.c (.str [98, 101, 115, 116])) (.cons (.c (.str [119, 111, 114, 115, 116])) (.cons (.c (.str [110, 101, 120, 116])) (.cons (.c (.str [110, 101, 119, 101, 115, 116])) (.cons (.c (.str [98, 117, 100, 100, 121])) (.cons (.c (.str [101, 110, 100, 115])) (.cons (.c (.str [99, 108, 97, 115, 115, 101, 115])) (.cons (.c (.str [115, 108, 97, 98, 115])) .nil)))))))))))
  (.seq (.asg (.one 4) (.call false 11 (.cons (.v 0) (.cons (.v 1) (.cons (.v 3) .nil)))))
  (.seq (.ife (.cmp .eq (.v 4) (.c (.str [101, 110, 100, 115]))) (.ret (.tup (.cons (.v 4) (.cons (.bin .add (.c (.int 1)) (.call false 10 (.cons (.v 0) (.cons (.v 1) (.cons (.c (.int 4)) .nil))))) .nil)))) .skip)
  (.seq (.ife (.cmp .eq (.v 4) (.c (.str [115, 108, 97, 98, 115]))) (.ret (.tup (.cons (.v 4) (.cons (.bin .add (.c (.int 1)) (.call false 10 (.cons (.v 0) (.cons (.v 1) (.cons (.v 2) .nil))))) .nil)))) .skip)
  (.seq (.ife (.cmp .ne (.v 4) (.c (.str [99, 108, 97, 115, 115, 101, 115]))) (.ret (.tup (.cons (.v 4) .nil))) .skip)
  (.seq (.asg (.many [5, 6]) (.tup (.cons (.new (.lst .nil)) (.cons (.v 2) .nil))))
  (.seq (.for_ (.one 7) (.it (.tup (.cons (.c (.int 1)) (.cons (.c (.int 2)) (.cons (.c (.int 3)) (.cons (.c (.int 4)) .nil)))))) b_law_rule_1)
  (.ret (.tup (.cons (.v 4) (.cons (.bf .tuple (.cons (.v 5) .nil)) .nil)))))))))))⟩
def d_is_rule : MFn := ⟨2, 2, false, (.seq (.expr (.call false 4 (.cons (.v 0) (.cons (.g 1) .nil))))
  (.ret (.call false 58 (.cons (.v 0) (.cons (.v 1) .nil)))))⟩
def b_law_marks_1 : MS := (.setix (.v 3) (.v 6) (.c (.bl false)))
def b_law_marks_2 : MS := (.for_ (.one 6) (.rng (.cons (.v 4) (.cons (.bin .add (.v 4) (.ife (.and (.v 2) (.cmp .eq (.v 5) (.c (.int 3)))) (.c (.int 4)) (.v 5))) .nil))) b_law_marks_1)
def d_law_marks : MFn := ⟨3, 7, false, (.seq (.asg (.one 3) (.new (.bin .mul (.lst (.cons (.c (.bl true)) .nil)) (.v 0))))
  (.seq (.for_ (.many [4, 5]) (.it (.v 1)) b_law_marks_2)
  (.ret (.v 3))))⟩
def d_law_fitting : MFn := ⟨3, 5, false, (.seq (.asg (.one 3) (.call false 12 (.cons (.v 0) (.cons (.v 1) (.cons (.c (.bl false)) .nil)))))
  (.ret (.comp (.v 4) (.bf .all (.cons (.slc (.v 3) (.v 4) (.bin .add (.v 4) (.v 2))) .nil)) (.rng (.cons (.bin .add (.bin .sub (.v 0) (.v 2)) (.c (.int 1))) .nil)) (.one 4) [4])))⟩
def b_law_holes_1 : MS := (.ife (.v 5) (.asg (.one 3) (.bin .add (.v 3) (.c (.int 1)))) (.ife (.cmp .gt (.v 3) (.c (.int 0))) (.seq (.expr (.mt .append (.v 2) (.cons (.tup (.cons (.bin .sub (.v 4) (.v 3)) (.cons (.v 3) .nil))) .nil)))
  (.asg (.one 3) (.c (.int 0)))) .skip))
def d_law_holes : MFn := ⟨2, 6, false, (.seq (.asg (.many [2, 3]) (.tup (.cons (.new (.lst .nil)) (.cons (.c (.int 0)) .nil))))
  (.seq (.for_ (.many [4, 5]) (.enum (.bin .add (.call false 12 (.cons (.v 0) (.cons (.v 1) (.cons (.c (.bl false)) .nil)))) (.lst (.cons (.c (.bl false)) .nil)))) b_law_holes_1)
  (.ret (.v 2))))⟩
def b_law_part_1 : MS := (.seq (.asg (.one 8) (.comp (.v 11) (.and (.cmp .le (.idx (.v 11) (.c (.int 1))) (.v 7)) (.cmp .le (.bin .add (.v 7) (.v 6)) (.bin .add (.idx (.v 11) (.c (.int 1))) (.idx (.v 11) (.c (.int 0)))))) (.it (.v 5)) (.one 11) [11]))
  (.ife (.and (.bf .all (.cons (.slc (.v 3) (.v 7) (.bin .add (.v 7) (.v 6))) .nil)) (.cmp .eq (.v 8) (.lst .nil))) (.expr (.mt .append (.v 5) (.cons (.tup (.cons (.v 6) (.cons (.v 7) .nil))) .nil))) .skip))
def b_law_part_2 : MS := (.for_ (.one 7) (.rng (.cons (.c (.int 0)) (.cons (.bin .add (.bin .sub (.v 0) (.v 6)) (.c (.int 1))) (.cons (.v 6) .nil)))) b_law_part_1)
def d_law_part : MFn := ⟨3, 12, false, (.seq (.asg (.many [3, 4]) (.tup (.cons (.call false 12 (.cons (.v 0) (.cons (.v 1) (.cons (.c (.bl true)) .nil)))) (.cons (.ife (.cmp .eq (.v 2) (.c (.int 3))) (.c (.int 4)) (.v 2)) .nil))))
  (.seq (.asg (.one 5) (.new (.lst .nil)))
  (.seq (.for_ (.one 6) (.it (.tup (.cons (.c (.int 8)) (.cons (.c (.int 4)) (.cons (.c (.int 2)) (.cons (.c (.int 1)) .nil)))))) b_law_part_2)
  (.seq (.asg (.one 9) (.bf .sorted (.cons (.comp (.v 10) (.cmp .ge (.idx (.v 10) (.c (.int 0))) (.v 4)) (.it (.v 5)) (.one 10) [10]) .nil)))
  (.ret (.ife (.cmp .ne (.v 9) (.lst .nil)) (.idx (.idx (.v 9) (.c (.int 0))) (.c (.int 1))) (.c .non)))))))⟩
def b_law_slab_1 : MS := (.seq (.asg (.one 7) (.comp (.v 10) (.cmp .eq (.bin .fdiv (.idx (.v 10) (.c (.int 0))) (.v 2)) (.v 6)) (.it (.v 1)) (.one 10) [10]))
  (.seq (.asg (.one 8) (.comp (.bin .add (.bin .mul (.v 2) (.v 6)) (.bin .mul (.v 3) (.v 11))) .nil (.rng (.cons (.bin .fdiv (.v 2) (.v 3)) .nil)) (.one 11) [11]))
  (.seq (.asg (.one 9) (.comp (.v 12) (.cmp .nmem (.v 12) (.comp (.v 13) .nil (.it (.v 7)) (.many [13, 14]) [13, 14])) (.it (.v 8)) (.one 12) [12]))
  (.ife (.cmp .eq (.v 7) (.lst .nil)) (.expr (.mt .extend (.v 5) (.cons (.slc (.v 9) (.c .non) (.c (.int 1))) .nil))) (.ife (.cmp .eq (.idx (.idx (.v 7) (.c (.int 0))) (.c (.int 1))) (.v 3)) (.expr (.mt .extend (.v 4) (.cons (.slc (.v 9) (.c .non) (.c (.int 1))) .nil))) .skip)))))
def d_law_slab : MFn := ⟨4, 15, false, (.seq (.asg (.many [4, 5]) (.tup (.cons (.new (.lst .nil)) (.cons (.new (.lst .nil)) .nil))))
  (.seq (.for_ (.one 6) (.rng (.cons (.bin .fdiv (.v 0) (.v 2)) .nil)) b_law_slab_1)
  (.ret (.idx (.bin .add (.bin .add (.v 4) (.v 5)) (.lst (.cons (.c .non) .nil))) (.c (.int 0))))))⟩
def b_law_region_1 : MS := (.seq (.ife (.cmp .eq (.v 5) (.v 3)) (.seq (.asg (.one 7) (.call false 13 (.cons (.v 0) (.cons (.v 1) (.cons (.v 3) .nil)))))
  (.ret (.idx (.bin .add (.comp (.v 8) (.and (.cmp .le (.v 4) (.v 8)) (.cmp .le (.bin .add (.v 8) (.v 3)) (.bin .add (.v 4) (.v 6)))) (.it (.v 7)) (.one 8) [8]) (.lst (.cons (.c .non) .nil))) (.c (.int 0))))) .skip)
  (.asg (.one 4) (.bin .add (.v 4) (.v 6))))
def d_law_region : MFn := ⟨4, 9, false, (.seq (.asg (.one 4) (.c (.int 0)))
  (.seq (.for_ (.many [5, 6]) (.it (.v 2)) b_law_region_1)
  (.ret (.c .non))))⟩
def d_law_place : MFn := ⟨4, 10, false, (.seq (.asg (.many [4, 5]) (.v 2))
  (.seq (.asg (.one 6) (.call false 13 (.cons (.v 1) (.cons (.v 4) (.cons (.v 3) .nil)))))
  (.seq (.ife (.cmp .eq (.idx (.v 0) (.c (.int 0))) (.c (.str [98, 117, 100, 100, 121]))) (.ret (.call false 14 (.cons (.v 1) (.cons (.v 4) (.cons (.v 3) .nil))))) .skip)
  (.seq (.ife (.cmp .eq (.idx (.v 0) (.c (.int 0))) (.c (.str [115, 108, 97, 98, 115]))) (.ret (.call false 15 (.cons (.v 1) (.cons (.v 4) (.cons (.idx (.v 0) (.c (.int 1))) (.cons (.v 3) .nil)))))) .skip)
  (.seq (.ife (.cmp .eq (.idx (.v 0) (.c (.int 0))) (.c (.str [99, 108, 97, 115, 115, 101, 115]))) (.ret (.call false 16 (.cons (.v 1) (.cons (.v 4) (.cons (.idx (.v 0) (.c (.int 1))) (.cons (.v 3) .nil)))))) .skip)
  (.seq (.ife (.cmp .eq (.v 6) (.lst .nil)) (.ret (.c .non)) .skip)
  (.seq (.ife (.and (.cmp .eq (.idx (.v 0) (.c (.int 0))) (.c (.str [101, 110, 100, 115]))) (.cmp .gt (.v 3) (.idx (.v 0) (.c (.int 1))))) (.ret (.idx (.v 6) (.neg (.c (.int 1))))) .skip)
  (.seq (.ife (.cmp .eq (.idx (.v 0) (.c (.int 0))) (.c (.str [110, 101, 120, 116]))) (.ret (.idx (.bin .add (.comp (.v 8) (.cmp .ge (.v 8) (.v 5)) (.it (.v 6)) (.one 8) [8]) (.v 6)) (.c (.int 0)))) .skip)
  (.seq (.asg (.one 7) (.comp (.tup (.cons (.v 9) (.cons (.v 8) .nil))) (.cmp .ge (.v 9) (.v 3)) (.it (.call false 17 (.cons (.v 1) (.cons (.v 4) .nil)))) (.many [8, 9]) [8, 9]))
  (.seq (.ife (.cmp .eq (.idx (.v 0) (.c (.int 0))) (.c (.str [98, 101, 115, 116]))) (.ret (.idx (.bf .min (.cons (.v 7) .nil)) (.c (.int 1)))) .skip)
  (.seq (.ife (.cmp .eq (.idx (.v 0) (.c (.int 0))) (.c (.str [119, 111, 114, 115, 116]))) (.ret (.idx (.bf .min (.cons (.comp (.tup (.cons (.neg (.v 9)) (.cons (.v 8) .nil))) .nil (.it (.v 7)) (.many [9, 8]) [9, 8]) .nil)) (.c (.int 1)))) .skip)
  (.seq (.ife (.cmp .eq (.idx (.v 0) (.c (.int 0))) (.c (.str [110, 101, 119, 101, 115, 116]))) (.ret (.idx (.comp (.v 8) (.cmp .mem (.v 8) (.v 6)) (.it (.v 5)) (.one 8) [8]) (.c (.int 0)))) .skip)
  (.ret (.idx (.v 6) (.c (.int 0))))))))))))))))⟩
def d_law_asked : MFn := ⟨5, 10, false, (.seq (.asg (.many [5, 6]) (.tup (.cons (.bf .tuple (.cons (.bf .sorted (.cons (.bin .add (.idx (.v 2) (.c (.int 0))) (.tup (.cons (.tup (.cons (.v 3) (.cons (.v 4) .nil))) .nil))) .nil)) .nil)) (.cons (.idx (.v 2) (.c (.int 1))) .nil))))
  (.seq (.ife (.cmp .eq (.idx (.v 0) (.c (.int 0))) (.c (.str [110, 101, 120, 116]))) (.asg (.one 6) (.bin .add (.v 3) (.v 4))) .skip)
  (.seq (.ife (.cmp .eq (.idx (.v 0) (.c (.int 0))) (.c (.str [110, 101, 119, 101, 115, 116]))) (.seq (.asg (.one 7) (.comp (.idx (.v 8) (.c (.int 0))) .nil (.it (.call false 17 (.cons (.v 1) (.cons (.v 5) .nil)))) (.one 8) [8]))
  (.seq (.asg (.one 6) (.comp (.ife (.cmp .eq (.v 9) (.v 3)) (.bin .add (.v 3) (.v 4)) (.v 9)) .nil (.it (.v 6)) (.one 9) [9]))
  (.asg (.one 6) (.bf .tuple (.cons (.comp (.v 9) (.cmp .mem (.v 9) (.v 7)) (.it (.v 6)) (.one 9) [9]) .nil))))) .skip)
  (.ret (.tup (.cons (.v 5) (.cons (.v 6) .nil)))))))⟩
def b_law_freed_1 : MS := (.ife (.chain .le .lt (.v 6) (.v 3) (.bin .add (.v 6) (.v 7))) (.asg (.one 5) (.bin .add (.tup (.cons (.v 6) .nil)) (.bf .tuple (.cons (.comp (.v 9) (.or (.cmp .lt (.v 9) (.v 6)) (.cmp .ge (.v 9) (.bin .add (.v 6) (.v 7)))) (.it (.v 5)) (.one 9) [9]) .nil)))) .skip)
def d_law_freed : MFn := ⟨4, 10, false, (.seq (.asg (.many [4, 5]) (.tup (.cons (.bf .tuple (.cons (.comp (.v 8) (.cmp .ne (.idx (.v 8) (.c (.int 0))) (.v 3)) (.it (.idx (.v 2) (.c (.int 0)))) (.one 8) [8]) .nil)) (.cons (.idx (.v 2) (.c (.int 1))) .nil))))
  (.seq (.ife (.cmp .eq (.idx (.v 0) (.c (.int 0))) (.c (.str [110, 101, 119, 101, 115, 116]))) (.for_ (.many [6, 7]) (.it (.call false 17 (.cons (.v 1) (.cons (.v 4) .nil)))) b_law_freed_1) .skip)
  (.ret (.tup (.cons (.v 4) (.cons (.v 5) .nil))))))⟩
def d_law_begun : MFn := ⟨1, 1, false, (.ret (.ife (.cmp .eq (.idx (.v 0) (.c (.int 0))) (.c (.str [110, 101, 119, 101, 115, 116]))) (.tup (.cons (.tup .nil) (.cons (.tup (.cons (.c (.int 0)) .nil)) .nil))) (.tup (.cons (.tup .nil) (.cons (.c (.int 0)) .nil)))))⟩
def b_law_run_1 : MS := (.ife (.cmp .eq (.idx (.v 6) (.c (.int 0))) (.c (.str [102, 114, 101, 101]))) (.asg (.one 3) (.call false 78 (.cons (.v 0) (.cons (.v 1) (.cons (.v 3) (.cons (.idx (.v 4) (.idx (.v 6) (.c (.int 1)))) .nil)))))) (.seq (.asg (.one 7) (.call false 79 (.cons (.v 0) (.cons (.v 1) (.cons (.v 3) (.cons (.idx (.v 6) (.c (.int 1))) .nil))))))
  (.seq (.ife (.cmp .is (.v 7) (.c .non)) (.ret (.tup (.cons (.v 4) (.cons (.v 5) (.cons (.idx (.v 3) (.c (.int 0))) .nil))))) .skip)
  (.seq (.expr (.mt .append (.v 4) (.cons (.v 7) .nil)))
  (.asg (.one 3) (.call false 80 (.cons (.v 0) (.cons (.v 1) (.cons (.v 3) (.cons (.v 7) (.cons (.idx (.v 6) (.c (.int 1))) .nil)))))))))))
def d_law_run : MFn := ⟨3, 8, false, (.seq (.asg (.many [3, 4]) (.tup (.cons (.call false 77 (.cons (.v 0) .nil)) (.cons (.new (.lst .nil)) .nil))))
  (.seq (.for_ (.many [5, 6]) (.enum (.v 2)) b_law_run_1)
  (.ret (.tup (.cons (.v 4) (.cons (.c .non) (.cons (.idx (.v 3) (.c (.int 0))) .nil)))))))⟩
def d_rules_of : MFn := ⟨1, 3, false, (.seq (.asg (.one 1) (.lst (.cons (.tup (.cons (.c (.str [98, 101, 115, 116])) .nil)) (.cons (.tup (.cons (.c (.str [98, 117, 100, 100, 121])) .nil)) (.cons (.tup (.cons (.c (.str [101, 110, 100, 115])) (.cons (.c (.int 1)) .nil))) (.cons (.tup (.cons (.c (.str [101, 110, 100, 115])) (.cons (.c (.int 2)) .nil))) (.cons (.tup (.cons (.c (.str [101, 110, 100, 115])) (.cons (.c (.int 3)) .nil))) (.cons (.tup (.cons (.c (.str [102, 105, 114, 115, 116])) .nil)) (.cons (.tup (.cons (.c (.str [110, 101, 119, 101, 115, 116])) .nil)) (.cons (.tup (.cons (.c (.str [110, 101, 120, 116])) .nil)) .nil))))))))))
  (.ret (.bin .add (.bin .add (.v 1) (.comp (.tup (.cons (.c (.str [115, 108, 97, 98, 115])) (.cons (.v 2) .nil))) .nil (.rng (.cons (.c (.int 1)) (.cons (.bin .add (.v 0) (.c (.int 1))) .nil))) (.one 2) [2])) (.lst (.cons (.tup (.cons (.c (.str [119, 111, 114, 115, 116])) .nil)) .nil)))))⟩
def d_family : MFn := ⟨1, 1, false, (.seq (.expr (.call false 4 (.cons (.v 0) (.cons (.g 1) .nil))))
  (.ret (.call false 164 (.cons (.v 0) .nil))))⟩
def b_need_told_1 : MS := (.ife (.or (.not (.bf .isinst (.cons (.v 3) (.cons (.c (.ty .int)) .nil)))) (.bf .isinst (.cons (.v 3) (.cons (.c (.ty .bool)) .nil)))) .never .skip)
def d_need_told : MFn := ⟨3, 4, false, (.seq (.expr (.call false 4 (.cons (.v 0) (.cons (.g 1) .nil))))
  (.seq (.expr (.call false 74 (.cons (.v 1) .nil)))
  (.seq (.ife (.not (.bf .isinst (.cons (.v 2) (.cons (.c (.ty .list)) .nil)))) .never .skip)
  (.for_ (.one 3) (.it (.v 2)) b_need_told_1))))⟩
def d_could_be : MFn := ⟨3, 4, false, (.seq (.expr (.call false 165 (.cons (.v 0) (.cons (.v 1) (.cons (.v 2) .nil)))))
  (.ret (.comp (.v 3) (.cmp .eq (.idx (.call false 76 (.cons (.v 3) (.cons (.v 0) (.cons (.v 1) .nil)))) (.c (.int 0))) (.v 2)) (.it (.call false 164 (.cons (.v 0) .nil))) (.one 3) [3])))⟩
def d_law_family : MFn := ⟨1, 5, false, (.seq (.asg (.one 1) (.new (.comp (.tup (.cons (.v 2) .nil)) .nil (.it (.tup (.cons (.c (.str [98, 101, 115, 116])) (.cons (.c (.str [98, 117, 100, 100, 121])) (.cons (.c (.str [102, 105, 114, 115, 116])) (.cons (.c (.str [110, 101, 119, 101, 115, 116])) (.cons (.c (.str [110, 101, 120, 116])) (.cons (.c (.str [119, 111, 114, 115, 116])) .nil)))))))) (.one 2) [2])))
  (.seq (.expr (.mt .extend (.v 1) (.cons (.comp (.tup (.cons (.c (.str [101, 110, 100, 115])) (.cons (.v 3) .nil))) .nil (.it (.tup (.cons (.c (.int 1)) (.cons (.c (.int 2)) (.cons (.c (.int 3)) .nil))))) (.one 3) [3]) .nil)))
  (.ret (.bf .sorted (.cons (.bin .add (.v 1) (.comp (.tup (.cons (.c (.str [115, 108, 97, 98, 115])) (.cons (.v 4) .nil))) .nil (.rng (.cons (.c (.int 1)) (.cons (.bin .add (.v 0) (.c (.int 1))) .nil))) (.one 4) [4])) .nil)))))⟩
def b_answers_to_1 : MS := (.seq (.asg (.many [6, 7, 8]) (.call false 76 (.cons (.v 5) (.cons (.v 0) (.cons (.v 1) .nil)))))
  (.ife (.and (.cmp .eq (.v 6) (.v 2)) (.cmp .is (.v 7) (.c .non))) (.expr (.mt .append (.v 4) (.cons (.call false 70 (.cons (.v 5) (.cons (.v 0) (.cons (.v 8) (.cons (.v 3) .nil))))) .nil))) .skip))
def d_answers_to : MFn := ⟨4, 9, false, (.seq (.asg (.one 4) (.new (.lst .nil)))
  (.seq (.for_ (.one 5) (.it (.call false 164 (.cons (.v 0) .nil))) b_answers_to_1)
  (.ret (.v 4))))⟩
def b_best_ask_1 : MS := (.seq (.asg (.one 5) (.call false 172 (.cons (.v 0) (.cons (.v 1) (.cons (.v 2) (.cons (.v 4) .nil))))))
  (.expr (.mt .append (.v 3) (.cons (.tup (.cons (.bf .max (.cons (.bin .add (.lst (.cons (.c (.int 0)) .nil)) (.comp (.mt .count (.v 5) (.cons (.v 7) .nil)) .nil (.it (.v 5)) (.one 7) [7])) .nil)) (.cons (.v 4) .nil))) .nil))))
def d_best_ask : MFn := ⟨3, 8, false, (.seq (.expr (.call false 165 (.cons (.v 0) (.cons (.v 1) (.cons (.v 2) .nil)))))
  (.seq (.ife (.cmp .eq (.bf .len (.cons (.v 1) .nil)) (.g 4)) .never .skip)
  (.seq (.asg (.one 3) (.new (.lst .nil)))
  (.seq (.for_ (.one 4) (.rng (.cons (.c (.int 1)) (.cons (.bin .add (.g 0) (.c (.int 1))) .nil))) b_best_ask_1)
  (.seq (.asg (.many [6, 4]) (.bf .min (.cons (.v 3) .nil)))
  (.ret (.ife (.cmp .gt (.v 6) (.c (.int 0))) (.tup (.cons (.v 4) (.cons (.v 6) .nil))) (.c .non))))))))⟩
def b_law_greatest_1 : MS := (.seq (.asg (.many [6, 7, 8]) (.call false 84 (.cons (.v 5) (.cons (.v 0) (.cons (.bin .add (.v 2) (.lst (.cons (.tup (.cons (.c (.str [97, 115, 107])) (.cons (.v 3) .nil))) .nil))) .nil)))))
  (.expr (.mt .append (.v 4) (.cons (.ife (.cmp .isnot (.v 7) (.c .non)) (.c .non) (.idx (.v 6) (.neg (.c (.int 1))))) .nil))))
def d_law_greatest : MFn := ⟨4, 10, false, (.seq (.asg (.one 4) (.new (.lst .nil)))
  (.seq (.for_ (.one 5) (.it (.v 1)) b_law_greatest_1)
  (.ret (.bf .max (.cons (.bin .add (.lst (.cons (.c (.int 0)) .nil)) (.comp (.mt .count (.v 4) (.cons (.v 9) .nil)) .nil (.it (.v 4)) (.one 9) [9])) .nil)))))⟩
def d_is_block : MFn := ⟨2, 2, false, (.seq (.ife (.or (.not (.bf .isinst (.cons (.v 1) (.cons (.c (.ty .tuple)) .nil)))) (.or (.cmp .ne (.bf .len (.cons (.v 1) .nil)) (.c (.int 2))) (.not (.call false 0 (.cons (.idx (.v 1) (.c (.int 1))) (.cons (.c (.int 1)) (.cons (.g 0) .nil))))))) (.ret (.c (.bl false))) .skip)
  (.ret (.call false 0 (.cons (.idx (.v 1) (.c (.int 0))) (.cons (.c (.int 0)) (.cons (.bin .sub (.v 0) (.idx (.v 1) (.c (.int 1)))) .nil))))))⟩
def d_is_layout_of : MFn := ⟨2, 5, false, (.seq (.ife (.or (.not (.bf .isinst (.cons (.v 1) (.cons (.c (.ty .tuple)) .nil)))) (.not (.bf .all (.cons (.comp (.call false 2 (.cons (.v 0) (.cons (.v 4) .nil))) .nil (.it (.v 1)) (.one 4) [4]) .nil)))) (.ret (.c (.bl false))) .skip)
  (.ret (.bf .all (.cons (.comp (.cmp .le (.bin .add (.idx (.v 2) (.c (.int 0))) (.idx (.v 2) (.c (.int 1)))) (.idx (.v 3) (.c (.int 0)))) .nil (.zip (.v 1) (.slc (.v 1) (.c (.int 1)) (.c .non))) (.many [2, 3]) [2, 3]) .nil))))⟩
def d_need_layout : MFn := ⟨2, 2, false, (.seq (.expr (.call false 4 (.cons (.v 0) (.cons (.g 1) .nil))))
  (.ife (.not (.call false 5 (.cons (.v 0) (.cons (.v 1) .nil)))) .never .skip))⟩
def d_need_size : MFn := ⟨1, 1, false, (.ife (.not (.call false 0 (.cons (.v 0) (.cons (.c (.int 1)) (.cons (.g 0) .nil))))) .never .skip)⟩
def d_holes : MFn := ⟨2, 2, false, (.seq (.expr (.call false 6 (.cons (.v 0) (.cons (.v 1) .nil))))
  (.ret (.call false 7 (.cons (.v 0) (.cons (.v 1) .nil)))))⟩
def d_live_of : MFn := ⟨1, 3, false, (.ret (.bf .sum (.cons (.comp (.v 2) .nil (.it (.v 0)) (.many [1, 2]) [1, 2]) .nil)))⟩
def b_slid_layout_1 : MS := (.seq (.expr (.mt .append (.v 1) (.cons (.tup (.cons (.v 2) (.cons (.v 4) .nil))) .nil)))
  (.aug .add 2 (.v 4)))
def d_slid_layout : MFn := ⟨1, 5, false, (.seq (.asg (.many [1, 2]) (.tup (.cons (.new (.lst .nil)) (.cons (.c (.int 0)) .nil))))
  (.seq (.for_ (.many [3, 4]) (.it (.v 0)) b_slid_layout_1)
  (.ret (.bf .tuple (.cons (.v 1) .nil)))))⟩
def d_slid_of : MFn := ⟨3, 9, false, (.seq (.asg (.one 3) (.call false 24 (.cons (.v 1) .nil)))
  (.seq (.ife (.cmp .gt (.bin .add (.v 3) (.v 2)) (.v 0)) (.ret (.c .non)) .skip)
  (.seq (.asg (.one 4) (.call false 29 (.cons (.v 0) (.cons (.v 1) (.cons (.v 2) .nil)))))
  (.seq (.ife (.cmp .ne (.v 4) (.lst .nil)) (.ret (.tup (.cons (.call false 28 (.cons (.v 1) (.cons (.idx (.v 4) (.c (.int 0))) (.cons (.v 2) .nil)))) (.cons (.c (.int 0)) .nil)))) .skip)
  (.seq (.asg (.one 5) (.call false 44 (.cons (.v 1) .nil)))
  (.seq (.asg (.one 6) (.bf .sum (.cons (.comp (.idx (.v 7) (.c (.int 1))) (.cmp .ne (.idx (.v 7) (.c (.int 0))) (.idx (.v 8) (.c (.int 0)))) (.zip (.v 1) (.v 5)) (.many [7, 8]) [7, 8]) .nil)))
  (.ret (.tup (.cons (.call false 28 (.cons (.v 5) (.cons (.v 3) (.cons (.v 2) .nil)))) (.cons (.v 6) .nil))))))))))⟩
def d_slid : MFn := ⟨3, 3, false, (.seq (.expr (.call false 4 (.cons (.v 0) (.cons (.c (.int 6)) .nil))))
  (.seq (.expr (.call false 6 (.cons (.v 0) (.cons (.v 1) .nil))))
  (.seq (.expr (.call false 39 (.cons (.v 2) .nil)))
  (.ret (.call false 45 (.cons (.v 0) (.cons (.v 1) (.cons (.v 2) .nil))))))))⟩
def b_law_layout_1 : MS := (.seq (.asg (.one 7) (.call false 11 (.cons (.v 0) (.cons (.v 1) (.cons (.bin .add (.bf .list (.cons (.idx (.v 3) (.c (.int 0))) .nil)) (.lst (.cons (.c (.int 0)) .nil))) .nil)))))
  (.ife (.and (.cmp .gt (.v 7) (.c (.int 0))) (.and (.cmp .le (.bin .add (.v 5) (.v 7)) (.v 2)) (.cmp .le (.bin .add (.v 6) (.v 7)) (.idx (.v 3) (.c (.int 1)))))) (.seq (.expr (.mt .append (.v 4) (.cons (.tup (.cons (.v 5) (.cons (.v 7) .nil))) .nil)))
  (.asg (.many [5, 6]) (.tup (.cons (.bin .add (.v 5) (.v 7)) (.cons (.bin .add (.v 6) (.v 7)) .nil))))) (.asg (.one 5) (.bin .add (.v 5) (.c (.int 1))))))
def d_law_layout : MFn := ⟨4, 8, false, (.seq (.asg (.many [4, 5, 6]) (.tup (.cons (.new (.lst .nil)) (.cons (.c (.int 0)) (.cons (.c (.int 0)) .nil)))))
  (.seq (.while_ (.cmp .lt (.v 5) (.v 2)) b_law_layout_1)
  (.ret (.bf .tuple (.cons (.v 4) .nil)))))⟩
def b_law_slid_1 : MS := (.seq (.asg (.one 7) (.bin .add (.v 7) (.ife (.cmp .ne (.v 8) (.v 6)) (.v 9) (.c (.int 0)))))
  (.seq (.expr (.mt .append (.v 5) (.cons (.tup (.cons (.v 6) (.cons (.v 9) .nil))) .nil)))
  (.asg (.one 6) (.bin .add (.v 6) (.v 9)))))
def d_law_slid : MFn := ⟨3, 10, false, (.seq (.asg (.one 3) (.bf .sum (.cons (.comp (.v 9) .nil (.it (.v 1)) (.many [8, 9]) [8, 9]) .nil)))
  (.seq (.ife (.cmp .gt (.bin .add (.v 3) (.v 2)) (.v 0)) (.ret (.c .non)) .skip)
  (.seq (.asg (.one 4) (.call false 13 (.cons (.v 0) (.cons (.v 1) (.cons (.v 2) .nil)))))
  (.seq (.ife (.cmp .ne (.v 4) (.lst .nil)) (.ret (.tup (.cons (.bf .tuple (.cons (.bf .sorted (.cons (.bin .add (.v 1) (.tup (.cons (.tup (.cons (.idx (.v 4) (.c (.int 0))) (.cons (.v 2) .nil))) .nil))) .nil)) .nil)) (.cons (.c (.int 0)) .nil)))) .skip)
  (.seq (.asg (.many [5, 6, 7]) (.tup (.cons (.new (.lst .nil)) (.cons (.c (.int 0)) (.cons (.c (.int 0)) .nil)))))
  (.seq (.for_ (.many [8, 9]) (.it (.v 1)) b_law_slid_1)
  (.ret (.tup (.cons (.bin .add (.bf .tuple (.cons (.v 5) .nil)) (.tup (.cons (.tup (.cons (.v 6) (.cons (.v 2) .nil))) .nil))) (.cons (.v 7) .nil))))))))))⟩
end Tx
set_option autoImplicit false
set_option maxRecDepth 100000
set_option maxHeartbeats 4000000
namespace Con
open Mini Tx
section
variable (c : Ctx) (σ : Sl) (M : MH)
theorem ev_c (d : D) : ev c (.c d) σ M = .ok d M := rfl
theorem ev_v (i : Nat) : ev c (.v i) σ M = R.ofOpt (σ[i]?.join) M := rfl
theorem ev_g (i : Nat) : ev c (.g i) σ M = R.ofOpt (c.gl i) M := rfl
theorem ev_bin (o : Op) (a b : ME) : ev c (.bin o a b) σ M = (ev c a σ M).bind fun x M => (ev c b σ M).bind fun y M => binop o x y M := rfl
theorem ev_neg (a : ME) : ev c (.neg a) σ M = (ev c a σ M).bind negD := rfl
theorem ev_not (a : ME) : ev c (.not a) σ M = (ev c a σ M).bind fun x M => boolD x (.ok (.bl false) M) (.ok (.bl true) M) := rfl
theorem ev_cmp (o : Cm) (a b : ME) : ev c (.cmp o a b) σ M = (ev c a σ M).bind fun x M => (ev c b σ M).bind fun y M => cmpD o x y M := rfl
theorem ev_chain (o p : Cm) (a b d : ME) : ev c (.chain o p a b d) σ M = (ev c a σ M).bind fun x M => (ev c b σ M).bind fun y M => (cmpD o x y M).bind fun r M => boolD r ((ev c d σ M).bind fun z M => cmpD p y z M) (.ok (.bl false) M) := rfl
theorem ev_and (a b : ME) : ev c (.and a b) σ M = (ev c a σ M).bind fun x M => boolD x (ev c b σ M) (.ok (.bl false) M) := rfl
theorem ev_or (a b : ME) : ev c (.or a b) σ M = (ev c a σ M).bind fun x M => boolD x (.ok (.bl true) M) (ev c b σ M) := rfl
theorem ev_ife (t a b : ME) : ev c (.ife t a b) σ M = (ev c t σ M).bind fun x M => boolD x (ev c a σ M) (ev c b σ M) := rfl
theorem ev_nil : ev c .nil σ M = .ok (.tup []) M := rfl
theorem ev_cons (a r : ME) : ev c (.cons a r) σ M = (ev c a σ M).bind fun x M => (ev c r σ M).bind fun y M => tupD y fun ys => .ok (.tup (x :: ys)) M := rfl
theorem ev_tup (as : ME) : ev c (.tup as) σ M = ev c as σ M := rfl
theorem ev_lst (as : ME) : ev c (.lst as) σ M = (ev c as σ M).bind fun y M => tupD y fun ys => .ok (.lst ys) M := rfl
theorem ev_new (a : ME) : ev c (.new a) σ M = (ev c a σ M).bind newD := rfl
theorem ev_idx (a i : ME) : ev c (.idx a i) σ M = (ev c a σ M).bind fun x M => (ev c i σ M).bind fun y M => idxD x y M := rfl
theorem ev_slc (a lo hi : ME) : ev c (.slc a lo hi) σ M = (ev c a σ M).bind fun x M => (ev c lo σ M).bind fun l M => partR l fun l => (ev c hi σ M).bind fun h M => partR h fun h => cutD x l h M := rfl
theorem ev_rev (a : ME) : ev c (.rev a) σ M = (ev c a σ M).bind revD := rfl
theorem ev_call (m : Bool) (f : Nat) (as : ME) : ev c (.call m f as) σ M = (ev c as σ M).bind fun y M => tupD y fun ys => c.call m f ys c.fl c.lk M := rfl
theorem ev_bf (f : Bf) (as : ME) : ev c (.bf f as) σ M = (ev c as σ M).bind fun y M => tupD y fun ys => bfn f ys M := rfl
theorem ev_mt (m : Mt) (o as : ME) : ev c (.mt m o as) σ M = (ev c o σ M).bind fun x M => recvD m x ((ev c as σ M).bind fun y M => tupD y fun ys => mth c m x ys M) := rfl
theorem ev_it (a : ME) : ev c (.it a) σ M = (ev c a σ M).bind fun x M => R.ofOpt (walkOf M x) M := rfl
theorem ev_rng (as : ME) : ev c (.rng as) σ M = (ev c as σ M).bind fun y M => tupD y fun ys => R.ofOpt ((rngD ys).map fun xs => walkD xs []) M := rfl
theorem ev_enum (a : ME) : ev c (.enum a) σ M = (ev c a σ M).bind fun x M => R.ofOpt ((itemsL M x).map fun xs => walkD (enumT 0 xs) (lockOf x)) M := rfl
theorem ev_zip (a b : ME) : ev c (.zip a b) σ M = (ev c a σ M).bind fun x M => (ev c b σ M).bind fun y M => R.ofOpt (zipW M x y) M := rfl
theorem ex_skip : exec c .skip σ M = .nx σ M := rfl
theorem ex_seq (a b : MS) : exec c (.seq a b) σ M = (exec c a σ M).andThen (exec c b) := rfl
theorem ex_asg (t : Tg) (e : ME) : exec c (.asg t e) σ M = (ev c e σ M).to σ fun d M => nxO (t.asg d σ) M := rfl
theorem ex_setix (o i e : ME) : exec c (.setix o i e) σ M = (ev c e σ M).to σ fun d M => (ev c o σ M).to σ fun x M => (ev c i σ M).to σ fun y M => (setD c x y d M).to σ fun _ M => .nx σ M := rfl
theorem ex_aug (p : Op) (i : Nat) (e : ME) : exec c (.aug p i e) σ M = (R.ofOpt (σ[i]?.join) M).to σ fun x M => (ev c e σ M).to σ fun y M => (iop p x y M).to σ fun d M => nxO ((Tg.one i).asg d σ) M := rfl
theorem ex_augix (p : Op) (o i e : ME) : exec c (.augix p o i e) σ M = (ev c o σ M).to σ fun x M => (ev c i σ M).to σ fun y M => (idxO x y M).to σ fun z M => (ev c e σ M).to σ fun d M => (iop p z d M).to σ fun r M => (setD c x y r M).to σ fun _ M => .nx σ M := rfl
theorem ex_ife (t : ME) (a b : MS) : exec c (.ife t a b) σ M = (ev c t σ M).to σ fun x M => match x with
    | .bl true => exec c a σ M
    | .bl false => exec c b σ M
    | _ => .stuck := rfl
theorem ex_ret (e : ME) : exec c (.ret e) σ M = (ev c e σ M).to σ fun d M => .rt d M := rfl
theorem ex_retN : exec c .retN σ M = .rt .non M := rfl
theorem ex_expr (e : ME) : exec c (.expr e) σ M = (ev c e σ M).to σ fun _ M => .nx σ M := rfl
theorem ex_brk : exec c .brk σ M = .bk σ M := rfl
theorem ex_cont : exec c .cont σ M = .ct σ M := rfl
end
theorem eqM_str (M : MH) (a b : List Nat) : eqM M (.str a) (.str b) = some (decide (a = b)) := rfl
theorem eqM_int (M : MH) (a b : Int) : eqM M (.int a) (.int b) = some (decide (a = b)) := rfl
theorem eqM_non (M : MH) : eqM M .non .non = some true := rfl
theorem eqM_intnon (M : MH) (a : Int) : eqM M (.int a) .non = some false := rfl
theorem call_rt {P : MProg} {W k : Nat} {f : Nat} {np nn : Nat} {body : MS} {as : List D} {fl : Nat} {lk : List Nat} {M M' : MH} {v v' : D} (hf : P.fns.lookup f = some ⟨np, nn, false, body⟩) (hl : as.length = np)
    (he : exec ⟨callN P W k, fun i => P.gls.lookup i, W, M.length, lk⟩ body (as.map some ++ List.replicate (nn - np) none) M = .rt v M') (hv : frz M.length M' 20 v = some v') (ht : M'.take M.length = M) :
    callN P W (k + 1) false f as fl lk M = .ok v' M := by
  unfold callN
  simp only [hf, hl, if_true, Bool.false_eq_true, if_false, he]
  show leave false M.length v M' = _
  unfold leave
  simp only [hv, ht, R.ofOpt]
theorem call_nx {P : MProg} {W k : Nat} {f : Nat} {np nn : Nat} {body : MS} {as : List D} {fl : Nat} {lk : List Nat} {M M' : MH} {σ : Sl} {m : Bool} (hf : P.fns.lookup f = some ⟨np, nn, false, body⟩) (hl : as.length = np)
    (he : exec ⟨callN P W k, fun i => P.gls.lookup i, W, M.length, lk⟩ body (as.map some ++ List.replicate (nn - np) none) M = .nx σ M') (ht : M'.take M.length = M) :
    callN P W (k + 1) m f as fl lk M = .ok .non M := by
  unfold callN
  simp only [hf, hl, if_true, Bool.false_eq_true, if_false, he]
  show leave m M.length .non M' = _
  cases m <;> (unfold leave; simp [frz, R.ofOpt, ht])
theorem seq_nx {c : Ctx} {a b : MS} {σ σ' : Sl} {M M' : MH} {r : RS} (h : exec c a σ M = .nx σ' M') (h2 : exec c b σ' M' = r) : exec c (.seq a b) σ M = r := by
  show (exec c a σ M).andThen (exec c b) = r
  rw [h]
  exact h2
theorem seq_rt {c : Ctx} {a b : MS} {σ : Sl} {M M' : MH} {v : D} (h : exec c a σ M = .rt v M') : exec c (.seq a b) σ M = .rt v M' := by
  show (exec c a σ M).andThen (exec c b) = _
  rw [h]
  rfl
theorem ife_f {c : Ctx} {t : ME} {a b : MS} {σ : Sl} {M M' : MH} {r : RS} (h : ev c t σ M = .ok (.bl false) M') (h2 : exec c b σ M' = r) : exec c (.ife t a b) σ M = r := by
  rw [ex_ife, h]; exact h2
theorem ife_t {c : Ctx} {t : ME} {a b : MS} {σ : Sl} {M M' : MH} {r : RS} (h : ev c t σ M = .ok (.bl true) M') (h2 : exec c a σ M' = r) : exec c (.ife t a b) σ M = r := by
  rw [ex_ife, h]; exact h2
theorem sif_f {c : Ctx} {t : ME} {a b : MS} {σ : Sl} {M M' : MH} {r : RS} (h : ev c t σ M = .ok (.bl false) M') (h2 : exec c b σ M' = r) : exec c (.seq (.ife t a .skip) b) σ M = r := seq_nx (ife_f h rfl) h2
theorem sif_t {c : Ctx} {t : ME} {a b : MS} {σ : Sl} {M M' M2 : MH} {v : D} (h : ev c t σ M = .ok (.bl true) M') (h2 : exec c a σ M' = .rt v M2) : exec c (.seq (.ife t a .skip) b) σ M = .rt v M2 := seq_rt (ife_t h h2)
theorem ret_of {c : Ctx} {e : ME} {σ : Sl} {M M' : MH} {v : D} (h : ev c e σ M = .ok v M') : exec c (.ret e) σ M = .rt v M' := by
  rw [ex_ret, h]; rfl
theorem asg_of {c : Ctx} {t : Tg} {e : ME} {σ σ' : Sl} {M M' : MH} {v : D} (h : ev c e σ M = .ok v M') (h2 : t.asg v σ = some σ') : exec c (.asg t e) σ M = .nx σ' M' := by
  rw [ex_asg, h]; show nxO (t.asg v σ) M' = _; rw [h2]; rfl
theorem idx0_of {c : Ctx} {a : ME} {σ : Sl} {M M' : MH} {l : List (Int × Int)} {q : Int × Int} (h : ev c a σ M = .ok (.lst (l.map pairD)) M') (hq : l.head? = some q) : ev c (.idx a (.c (.int 0))) σ M = .ok (pairD q) M' := by
  rw [ev_idx, h]
  show R.ofOpt (Mini.get? (l.map pairD) 0) M' = _
  cases l with
  | nil => cases hq
  | cons p l => cases hq; simp [Mini.get?, place?, R.ofOpt]
theorem idxL_of {c : Ctx} {a : ME} {σ : Sl} {M M' : MH} {l : List (Int × Int)} {q : Int × Int} (h : ev c a σ M = .ok (.lst (l.map pairD)) M') (hq : l.getLast? = some q) : ev c (.idx a (.neg (.c (.int 1)))) σ M = .ok (pairD q) M' := by
  rw [ev_idx, h]
  show R.ofOpt (Mini.get? (l.map pairD) (-1)) M' = _
  have hne : l ≠ [] := fun z => by subst z; cases hq
  have hl : 0 < l.length := List.length_pos_iff.mpr hne
  unfold Mini.get? place?
  rw [if_neg (by decide), if_pos (by simp; omega)]
  have e : (-1 + ((l.map pairD).length : Int)).toNat = l.length - 1 := by simp; omega
  rw [List.getLast?_eq_getElem?] at hq
  simp only [e, List.getElem?_map, hq]
  rfl
def turn (c : Ctx) (t : Tg) (b : MS) : D → Sl → MH → RS := fun x σ M => match t.asg x σ with
  | some σ' => exec c b σ' M
  | none => .stuck
theorem exec_for {c : Ctx} {t : Tg} {it : ME} {b : MS} {σ : Sl} {M M' : MH} {xs ls : List D} (h : ev c it σ M = .ok (.dct xs ls) M') : exec c (.for_ t it b) σ M = loopL (turn (c.lock (locks ls)) t b) xs σ M' := by
  simp only [exec, h, R.to]
  rfl
theorem loop_inv {β : Type} {f : D → Sl → MH → RS} (enc : β → D) (I : List β → Sl → MH → Prop) : ∀ (ys : List β) (σ : Sl) (M : MH), I ys σ M → (∀ y r σ M, I (y :: r) σ M → ∃ σ' M', (f (enc y) σ M = .nx σ' M' ∨ f (enc y) σ M = .ct σ' M') ∧ I r σ' M') →
    ∃ σ' M', loopL f (ys.map enc) σ M = .nx σ' M' ∧ I [] σ' M'
  | [], σ, M, h, _ => ⟨σ, M, rfl, h⟩
  | y :: ys, σ, M, h, hs => by
    obtain ⟨σ', M', h1, h2⟩ := hs y ys σ M h
    obtain ⟨σ2, M2, h3, h4⟩ := loop_inv enc I ys σ' M' h2 hs
    refine ⟨σ2, M2, ?_, h4⟩
    show (match f (enc y) σ M with | .nx σ' M' => loopL f (ys.map enc) σ' M' | .ct σ' M' => loopL f (ys.map enc) σ' M' | .bk σ' M' => .nx σ' M' | r => r) = _
    rcases h1 with h1 | h1 <;> rw [h1] <;> exact h3
theorem loop_may {β : Type} {f : D → Sl → MH → RS} (enc : β → D) (I : List β → Sl → MH → Prop) (Rt : D → MH → Prop) (Bk : Sl → MH → Prop) : ∀ (ys : List β) (σ : Sl) (M : MH), I ys σ M →
    (∀ y r σ M, I (y :: r) σ M → (∃ σ' M', (f (enc y) σ M = .nx σ' M' ∨ f (enc y) σ M = .ct σ' M') ∧ I r σ' M') ∨ (∃ v M', f (enc y) σ M = .rt v M' ∧ Rt v M') ∨ (∃ σ' M', f (enc y) σ M = .bk σ' M' ∧ Bk σ' M')) →
    (∃ σ' M', loopL f (ys.map enc) σ M = .nx σ' M' ∧ (I [] σ' M' ∨ Bk σ' M')) ∨ (∃ v M', loopL f (ys.map enc) σ M = .rt v M' ∧ Rt v M')
  | [], σ, M, h, _ => .inl ⟨σ, M, rfl, .inl h⟩
  | y :: ys, σ, M, h, hs => by
    have e : loopL f ((y :: ys).map enc) σ M = (match f (enc y) σ M with | .nx σ' M' => loopL f (ys.map enc) σ' M' | .ct σ' M' => loopL f (ys.map enc) σ' M' | .bk σ' M' => .nx σ' M' | r => r) := rfl
    rw [e]
    rcases hs y ys σ M h with ⟨σ', M', h1, h2⟩ | ⟨v, M', h1, h2⟩ | ⟨σ', M', h1, h2⟩
    · rcases h1 with h1 | h1 <;> rw [h1] <;> exact loop_may enc I Rt Bk ys σ' M' h2 hs
    · rw [h1]; exact .inr ⟨v, M', rfl, h2⟩
    · rw [h1]; exact .inl ⟨σ', M', rfl, .inr h2⟩
def lay (l : List (Int × Int)) : D := .tup (l.map pairD)
def lsP (l : List (Int × Int)) : D := .lst (l.map pairD)
def lsI (l : List Int) : D := .lst (l.map .int)
theorem frz_pairs (n0 k : Nat) (M : MH) : ∀ l : List (Int × Int), (l.map pairD).mapM (frz n0 M (k + 2)) = some (l.map pairD)
  | [] => rfl
  | (a, b) :: l => by
    rw [List.map_cons, List.mapM_cons, frz_pairs n0 k M l]
    rfl
theorem frz_ints (n0 k : Nat) (M : MH) : ∀ l : List Int, (l.map D.int).mapM (frz n0 M k) = some (l.map D.int)
  | [] => rfl
  | a :: l => by
    rw [List.map_cons, List.mapM_cons, frz_ints n0 k M l]
    cases k <;> rfl
section
variable {P : MProg} {W k : Nat} {fl : Nat} {lk : List Nat} {M : MH}
theorem c_is_number (h0 : P.fns.lookup 0 = some d_is_number) (i a b : Int) : callN P W (k + 1) false 0 [.int i, .int a, .int b] fl lk M = .ok (.bl (decide (a ≤ i ∧ i ≤ b))) M := by
  refine call_rt (M' := M) (v := .bl (decide (a ≤ i ∧ i ≤ b))) h0 rfl ?_ rfl (List.take_length)
  simp [ev_c, ev_v, ev_g, ev_bin, ev_neg, ev_not, ev_cmp, ev_chain, ev_and, ev_or, ev_ife, ev_nil, ev_cons, ev_tup, ev_lst, ev_new, ev_idx, ev_slc, ev_rev, ev_call, ev_bf, ev_mt, ev_it, ev_rng, ev_enum, ev_zip, ex_skip, ex_seq, ex_asg, ex_setix, ex_aug, ex_augix, ex_ife, ex_ret, ex_retN, ex_expr, ex_brk, ex_cont, R.to, R.bind, R.ofOpt, RS.andThen, nxO, tupD, boolD, newD, cmpD, cmpop, binop, addD, mulD, catD, negD, idxD, idxO, iop, partR, partD, cutD, revD, recvD, mth, objL, one1, zero1, appendD, extendD, popD, setD, bfn, lenD, sumD, allD, anyD, minD, maxD, absD, sortedD, tupleD, listD, isinstD, isTy, kindD, tyIn, Ctx.may, Ctx.lock, Tg.asg, asgs, items, itemsL, lockOf, walkOf, walkD, walkR, itemsT, isNil, lstD, oneD, D.pure, D.pure.pureL, eqM_str, eqM_int, eqM_non, eqM_intnon, Mini.get?, place?, intsOf, minL, maxL, Mini.wipe, List.getElem?_cons_zero, List.getElem?_cons_succ, Option.join, List.set_cons_zero, List.set_cons_succ, List.map_cons, List.map_nil, Option.map_some, Option.map_none, Option.bind_some, Option.bind_none]
  by_cases h : a ≤ i
  · simp [h]
  · simp [h]
def holesA (cells : Int) : Int → List (Int × Int) → List (Int × Int)
  | a, [] => if cells > a then [(a, cells - a)] else []
  | a, (s, z) :: r => (if s > a then [(a, s - a)] else []) ++ holesA cells (s + z) r
def holesP (cells : Int) (l : List (Int × Int)) : List (Int × Int) := holesA cells 0 l
def holesW : Int → List (Int × Int) → List (Int × Int)
  | _, [] => []
  | a, (s, z) :: r => (if s > a then [(a, s - a)] else []) ++ holesW (s + z) r
theorem holesW_end (cells : Int) : ∀ (l : List (Int × Int)) (a : Int), holesW a (l ++ [(cells, 0)]) = holesA cells a l
  | [], a => by simp [holesW, holesA]
  | (s, z) :: r, a => by simp [holesW, holesA, holesW_end cells r (s + z)]
theorem holesW_len : ∀ (l : List (Int × Int)) (a : Int), (holesW a l).length ≤ l.length
  | [], _ => Nat.le_refl _
  | (s, z) :: r, a => by
    have := holesW_len r (s + z)
    unfold holesW
    split <;> simp <;> omega
theorem frz_objP (n : Nat) (M : MH) (l : List (Int × Int)) (h : M[n]? = some (.lst (l.map pairD))) : frz n M 20 (.obj n) = some (lsP l) := by
  show (if n < n then some (D.obj n) else match M[n]? with
    | some (.lst xs) => (xs.mapM (frz n M 19)).map D.lst
    | some (.dct ks vs) => (ks.mapM (frz n M 19)).bind fun ks' => (vs.mapM (frz n M 19)).map fun vs' => D.dct ks' vs'
    | _ => none) = _
  rw [if_neg (Nat.lt_irrefl _), h]
  show ((l.map pairD).mapM (frz n M 19)).map D.lst = _
  rw [frz_pairs n 17 M l]
  rfl
theorem frz_objI (n : Nat) (M : MH) (l : List Int) (h : M[n]? = some (.lst (l.map .int))) : frz n M 20 (.obj n) = some (lsI l) := by
  show (if n < n then some (D.obj n) else match M[n]? with
    | some (.lst xs) => (xs.mapM (frz n M 19)).map D.lst
    | some (.dct ks vs) => (ks.mapM (frz n M 19)).bind fun ks' => (vs.mapM (frz n M 19)).map fun vs' => D.dct ks' vs'
    | _ => none) = _
  rw [if_neg (Nat.lt_irrefl _), h]
  show ((l.map D.int).mapM (frz n M 19)).map D.lst = _
  rw [frz_ints n 19 M l]
  rfl
theorem not_lk {lk : List Nat} {M : MH} (h : ∀ n ∈ lk, n < M.length) : M.length ∉ lk := fun z => Nat.lt_irrefl _ (h _ z)
theorem c_holes_of (h7 : P.fns.lookup 7 = some d_holes_of) (hk : ∀ n ∈ lk, n < M.length) (cells : Int) (l : List (Int × Int)) (hl : l.length ≤ 5000) : callN P W (k + 1) false 7 [.int cells, lay l] fl lk M = .ok (lsP (holesP cells l)) M := by
  refine call_rt (M' := M ++ [.lst ((holesP cells l).map pairD)]) (v := .obj M.length) h7 rfl ?_ (frz_objP _ _ _ (by simp)) (by simp)
  have hit : ev ⟨callN P W k, fun i => P.gls.lookup i, W, M.length, lk⟩ (.it (.bin .add (.v 1) (.tup (.cons (.tup (.cons (.v 0) (.cons (.c (.int 0)) .nil))) .nil)))) [some (.int cells), some (lay l), some (.obj M.length), some (.int 0), none, none] (M ++ [.lst []]) =
      .ok (.dct ((l ++ [(cells, 0)]).map pairD) []) (M ++ [.lst []]) := by
    have : l.length + 1 ≤ 10000 := by omega
    simp [ev_c, ev_v, ev_g, ev_bin, ev_neg, ev_not, ev_cmp, ev_chain, ev_and, ev_or, ev_ife, ev_nil, ev_cons, ev_tup, ev_lst, ev_new, ev_idx, ev_slc, ev_rev, ev_call, ev_bf, ev_mt, ev_it, ev_rng, ev_enum, ev_zip, ex_skip, ex_seq, ex_asg, ex_setix, ex_aug, ex_augix, ex_ife, ex_ret, ex_retN, ex_expr, ex_brk, ex_cont, R.to, R.bind, R.ofOpt, RS.andThen, nxO, tupD, boolD, newD, cmpD, cmpop, binop, addD, mulD, catD, negD, idxD, idxO, iop, partR, partD, cutD, revD, recvD, mth, objL, one1, zero1, appendD, extendD, popD, setD, bfn, lenD, sumD, allD, anyD, minD, maxD, absD, sortedD, tupleD, listD, isinstD, isTy, kindD, tyIn, Ctx.may, Ctx.lock, Tg.asg, asgs, items, itemsL, lockOf, walkOf, walkD, walkR, itemsT, isNil, lstD, oneD, D.pure, D.pure.pureL, eqM_str, eqM_int, eqM_non, eqM_intnon, Mini.get?, place?, intsOf, minL, maxL, Mini.wipe, List.getElem?_cons_zero, List.getElem?_cons_succ, Option.join, List.set_cons_zero, List.set_cons_succ, List.map_cons, List.map_nil, Option.map_some, Option.map_none, Option.bind_some, Option.bind_none, lay, pairD, this]
  obtain ⟨σ', M', h1, a', acc', j4, j5, rfl, rfl, h2, h3⟩ := loop_inv (f := turn (Ctx.lock ⟨callN P W k, fun i => P.gls.lookup i, W, M.length, lk⟩ (locks [])) (.many [4, 5]) b_holes_of_1) pairD
    (fun r σ N => ∃ (a : Int) (acc : List (Int × Int)) (j4 j5 : Option D), σ = [some (.int cells), some (lay l), some (.obj M.length), some (.int a), j4, j5] ∧ N = M ++ [.lst (acc.map pairD)] ∧ acc ++ holesW a r = holesP cells l ∧ acc.length + r.length ≤ 6000)
    (l ++ [(cells, 0)]) [some (.int cells), some (lay l), some (.obj M.length), some (.int 0), none, none] (M ++ [.lst []]) ⟨0, [], none, none, rfl, rfl, by rw [holesW_end]; rfl, by simp; omega⟩ (by
      rintro ⟨s, z⟩ r σ N ⟨a, acc, j4, j5, rfl, rfl, h2, h3⟩
      by_cases hsa : s > a
      · refine ⟨[some (.int cells), some (lay l), some (.obj M.length), some (.int (s + z)), some (.int s), some (.int z)], M ++ [.lst ((acc ++ [(a, s - a)]).map pairD)], .inl ?_, s + z, acc ++ [(a, s - a)], _, _, rfl, rfl, ?_, by simp at h3 ⊢; omega⟩
        · have hlk := not_lk hk
          have hlen : acc.length < 100000 := by simp at h3; omega
          simp [turn, b_holes_of_1, ev_c, ev_v, ev_g, ev_bin, ev_neg, ev_not, ev_cmp, ev_chain, ev_and, ev_or, ev_ife, ev_nil, ev_cons, ev_tup, ev_lst, ev_new, ev_idx, ev_slc, ev_rev, ev_call, ev_bf, ev_mt, ev_it, ev_rng, ev_enum, ev_zip, ex_skip, ex_seq, ex_asg, ex_setix, ex_aug, ex_augix, ex_ife, ex_ret, ex_retN, ex_expr, ex_brk, ex_cont, R.to, R.bind, R.ofOpt, RS.andThen, nxO, tupD, boolD, newD, cmpD, cmpop, binop, addD, mulD, catD, negD, idxD, idxO, iop, partR, partD, cutD, revD, recvD, mth, objL, one1, zero1, appendD, extendD, popD, setD, bfn, lenD, sumD, allD, anyD, minD, maxD, absD, sortedD, tupleD, listD, isinstD, isTy, kindD, tyIn, Ctx.may, Ctx.lock, Tg.asg, asgs, items, itemsL, lockOf, walkOf, walkD, walkR, itemsT, isNil, lstD, oneD, D.pure, D.pure.pureL, eqM_str, eqM_int, eqM_non, eqM_intnon, Mini.get?, place?, intsOf, minL, maxL, Mini.wipe, List.getElem?_cons_zero, List.getElem?_cons_succ, Option.join, List.set_cons_zero, List.set_cons_succ, List.map_cons, List.map_nil, Option.map_some, Option.map_none, Option.bind_some, Option.bind_none, pairD, hsa, hlk, hlen, locks]
        · rw [← h2]; simp [holesW, hsa]
      · refine ⟨[some (.int cells), some (lay l), some (.obj M.length), some (.int (s + z)), some (.int s), some (.int z)], M ++ [.lst (acc.map pairD)], .inl ?_, s + z, acc, _, _, rfl, rfl, ?_, by simp at h3 ⊢; omega⟩
        · simp [turn, b_holes_of_1, ev_c, ev_v, ev_g, ev_bin, ev_neg, ev_not, ev_cmp, ev_chain, ev_and, ev_or, ev_ife, ev_nil, ev_cons, ev_tup, ev_lst, ev_new, ev_idx, ev_slc, ev_rev, ev_call, ev_bf, ev_mt, ev_it, ev_rng, ev_enum, ev_zip, ex_skip, ex_seq, ex_asg, ex_setix, ex_aug, ex_augix, ex_ife, ex_ret, ex_retN, ex_expr, ex_brk, ex_cont, R.to, R.bind, R.ofOpt, RS.andThen, nxO, tupD, boolD, newD, cmpD, cmpop, binop, addD, mulD, catD, negD, idxD, idxO, iop, partR, partD, cutD, revD, recvD, mth, objL, one1, zero1, appendD, extendD, popD, setD, bfn, lenD, sumD, allD, anyD, minD, maxD, absD, sortedD, tupleD, listD, isinstD, isTy, kindD, tyIn, Ctx.may, Ctx.lock, Tg.asg, asgs, items, itemsL, lockOf, walkOf, walkD, walkR, itemsT, isNil, lstD, oneD, D.pure, D.pure.pureL, eqM_str, eqM_int, eqM_non, eqM_intnon, Mini.get?, place?, intsOf, minL, maxL, Mini.wipe, List.getElem?_cons_zero, List.getElem?_cons_succ, Option.join, List.set_cons_zero, List.set_cons_succ, List.map_cons, List.map_nil, Option.map_some, Option.map_none, Option.bind_some, Option.bind_none, pairD, hsa, locks]
        · rw [← h2]; simp [holesW, hsa])
  have h2 : acc' = holesP cells l := by rw [← h2]; simp [holesW]
  subst h2
  refine seq_nx (σ' := [some (.int cells), some (lay l), some (.obj M.length), some (.int 0), none, none]) (M' := M ++ [.lst []]) (by simp [ev_c, ev_v, ev_g, ev_bin, ev_neg, ev_not, ev_cmp, ev_chain, ev_and, ev_or, ev_ife, ev_nil, ev_cons, ev_tup, ev_lst, ev_new, ev_idx, ev_slc, ev_rev, ev_call, ev_bf, ev_mt, ev_it, ev_rng, ev_enum, ev_zip, ex_skip, ex_seq, ex_asg, ex_setix, ex_aug, ex_augix, ex_ife, ex_ret, ex_retN, ex_expr, ex_brk, ex_cont, R.to, R.bind, R.ofOpt, RS.andThen, nxO, tupD, boolD, newD, cmpD, cmpop, binop, addD, mulD, catD, negD, idxD, idxO, iop, partR, partD, cutD, revD, recvD, mth, objL, one1, zero1, appendD, extendD, popD, setD, bfn, lenD, sumD, allD, anyD, minD, maxD, absD, sortedD, tupleD, listD, isinstD, isTy, kindD, tyIn, Ctx.may, Ctx.lock, Tg.asg, asgs, items, itemsL, lockOf, walkOf, walkD, walkR, itemsT, isNil, lstD, oneD, D.pure, D.pure.pureL, eqM_str, eqM_int, eqM_non, eqM_intnon, Mini.get?, place?, intsOf, minL, maxL, Mini.wipe, List.getElem?_cons_zero, List.getElem?_cons_succ, Option.join, List.set_cons_zero, List.set_cons_succ, List.map_cons, List.map_nil, Option.map_some, Option.map_none, Option.bind_some, Option.bind_none]) (seq_nx ((exec_for hit).trans h1) (by simp [ev_c, ev_v, ev_g, ev_bin, ev_neg, ev_not, ev_cmp, ev_chain, ev_and, ev_or, ev_ife, ev_nil, ev_cons, ev_tup, ev_lst, ev_new, ev_idx, ev_slc, ev_rev, ev_call, ev_bf, ev_mt, ev_it, ev_rng, ev_enum, ev_zip, ex_skip, ex_seq, ex_asg, ex_setix, ex_aug, ex_augix, ex_ife, ex_ret, ex_retN, ex_expr, ex_brk, ex_cont, R.to, R.bind, R.ofOpt, RS.andThen, nxO, tupD, boolD, newD, cmpD, cmpop, binop, addD, mulD, catD, negD, idxD, idxO, iop, partR, partD, cutD, revD, recvD, mth, objL, one1, zero1, appendD, extendD, popD, setD, bfn, lenD, sumD, allD, anyD, minD, maxD, absD, sortedD, tupleD, listD, isinstD, isTy, kindD, tyIn, Ctx.may, Ctx.lock, Tg.asg, asgs, items, itemsL, lockOf, walkOf, walkD, walkR, itemsT, isNil, lstD, oneD, D.pure, D.pure.pureL, eqM_str, eqM_int, eqM_non, eqM_intnon, Mini.get?, place?, intsOf, minL, maxL, Mini.wipe, List.getElem?_cons_zero, List.getElem?_cons_succ, Option.join, List.set_cons_zero, List.set_cons_succ, List.map_cons, List.map_nil, Option.map_some, Option.map_none, Option.bind_some, Option.bind_none]))
end
end Con
set_option autoImplicit false
set_option maxRecDepth 100000
set_option maxHeartbeats 4000000
namespace Con
open Mini Tx
def cF (c : Ctx) (elt cond : ME) (t : Tg) (σ0 : Sl) (l : List Nat) (x : D) (M : MH) : R (Option D) :=
  (R.ofOpt (t.asg x σ0) M).bind fun σ' M =>
    (calmR (if isNil cond then .ok (.bl true) M else ev (c.lock l) cond σ' M)).bind fun b M =>
      boolD b ((calmR (ev (c.lock l) elt σ' M)).bind fun d M => .ok (some d) M) (.ok none M)
theorem compL_pure {β : Type} {f : D → MH → R (Option D)} {M : MH} (enc : β → D) (g : β → Option D) : ∀ (ys : List β) (acc : List D), (∀ y ∈ ys, f (enc y) M = .ok (g y) M) → compL f (ys.map enc) acc M = .ok (acc ++ ys.filterMap g) M
  | [], acc, _ => by simp [compL]
  | y :: ys, acc, h => by
    have h1 := h y List.mem_cons_self
    have ih := fun acc => compL_pure enc g ys acc fun z hz => h z (List.mem_cons_of_mem _ hz)
    cases hg : g y with
    | none => simp [compL, h1, hg, ih acc]
    | some d => simp [compL, h1, hg, ih (acc ++ [d])]
theorem ev_comp {β : Type} {c : Ctx} {elt cond it : ME} {t : Tg} {own : List Nat} {σ : Sl} {M M' : MH} {ys : List β} {ls : List D} {enc : β → D} {g : β → Option D} (hit : ev c it σ M = .ok (.dct (ys.map enc) ls) M')
    (h : ∀ y ∈ ys, cF c elt cond t (Mini.wipe σ own) (locks ls) (enc y) M' = .ok (g y) M') (hl : ys.length ≤ 100000) : ev c (.comp elt cond it t own) σ M = .ok (.lst (ys.filterMap g)) M' := by
  show ((ev c it σ M).bind fun w M => walkR w fun xs l => (compL (cF c elt cond t (Mini.wipe σ own) l) xs [] M).bind lstD) = _
  rw [hit]
  show (compL (cF c elt cond t (Mini.wipe σ own) (locks ls)) (ys.map enc) [] M').bind lstD = _
  rw [compL_pure enc g ys [] h]
  show lstD ([] ++ ys.filterMap g) M' = _
  unfold lstD
  rw [List.nil_append, if_pos (Nat.le_trans (List.length_filterMap_le _ _) hl)]
theorem fm_filter {α β : Type} (p : α → Bool) (e : α → β) : ∀ l : List α, (l.filterMap fun y => if p y = true then some (e y) else none) = (l.filter p).map e
  | [] => rfl
  | x :: l => by
    rw [List.filterMap_cons, List.filter_cons]
    cases h : p x
    · simp [fm_filter p e l]
    · simp [fm_filter p e l]
theorem fm_map {α β : Type} (e : α → β) : ∀ l : List α, (l.filterMap fun y => some (e y)) = l.map e
  | [] => rfl
  | x :: l => by rw [List.filterMap_cons, fm_map e l]; rfl
theorem res_pairs (k : Nat) (M : MH) : ∀ l : List (Int × Int), (l.map pairD).mapM (res (k + 1) M) = some (l.map pairD)
  | [] => rfl
  | (a, b) :: l => by rw [List.map_cons, List.mapM_cons, res_pairs k M l]; cases k <;> rfl
theorem res_ints (k : Nat) (M : MH) : ∀ l : List Int, (l.map D.int).mapM (res k M) = some (l.map D.int)
  | [] => rfl
  | a :: l => by rw [List.map_cons, List.mapM_cons, res_ints k M l]; cases k <;> rfl
theorem dat_pairs : ∀ l : List (Int × Int), D.isDat.datL (l.map pairD) = true
  | [] => rfl
  | (a, b) :: l => by show (true && D.isDat.datL (l.map pairD)) = true; rw [dat_pairs l]; rfl
theorem dat_ints : ∀ l : List Int, D.isDat.datL (l.map D.int) = true
  | [] => rfl
  | a :: l => by show (true && D.isDat.datL (l.map D.int)) = true; rw [dat_ints l]; rfl
theorem eqv_pairs : ∀ l m : List (Int × Int), D.eqv.eqvL (l.map pairD) (m.map pairD) = decide (l = m)
  | [], [] => rfl
  | [], _ :: _ => rfl
  | _ :: _, [] => rfl
  | (a, b) :: l, (c, d) :: m => by
    show ((decide (a = c) && (decide (b = d) && true)) && D.eqv.eqvL (l.map pairD) (m.map pairD)) = _
    rw [eqv_pairs l m]
    by_cases h1 : a = c <;> by_cases h2 : b = d <;> by_cases h3 : l = m <;> simp [h1, h2, h3]
theorem eqv_ints : ∀ l m : List Int, D.eqv.eqvL (l.map D.int) (m.map D.int) = decide (l = m)
  | [], [] => rfl
  | [], _ :: _ => rfl
  | _ :: _, [] => rfl
  | a :: l, c :: m => by
    show (decide (a = c) && D.eqv.eqvL (l.map D.int) (m.map D.int)) = _
    rw [eqv_ints l m]
    by_cases h1 : a = c <;> by_cases h3 : l = m <;> simp [h1, h3]
theorem eqM_lsP (M : MH) (l m : List (Int × Int)) : eqM M (lsP l) (lsP m) = some (decide (l = m)) := by
  have e : ∀ l, res 20 M (lsP l) = some (lsP l) := fun l => by
    show ((l.map pairD).mapM (res 19 M)).map D.lst = _
    rw [res_pairs 18 M l]; rfl
  unfold eqM
  rw [e l, e m]
  show (if (D.isDat.datL (l.map pairD) && D.isDat.datL (m.map pairD)) = true then some (D.eqv.eqvL (l.map pairD) (m.map pairD)) else none) = _
  rw [dat_pairs, dat_pairs, eqv_pairs]
  rfl
theorem eqM_lsI (M : MH) (l m : List Int) : eqM M (lsI l) (lsI m) = some (decide (l = m)) := by
  have e : ∀ l, res 20 M (lsI l) = some (lsI l) := fun l => by
    show ((l.map D.int).mapM (res 19 M)).map D.lst = _
    rw [res_ints 19 M l]; rfl
  unfold eqM
  rw [e l, e m]
  show (if (D.isDat.datL (l.map D.int) && D.isDat.datL (m.map D.int)) = true then some (D.eqv.eqvL (l.map D.int) (m.map D.int)) else none) = _
  rw [dat_ints, dat_ints, eqv_ints]
  rfl
theorem pairsOf_map : ∀ l : List (Int × Int), pairsOf (l.map pairD) = some l
  | [] => rfl
  | (a, b) :: l => by show (pairsOf (l.map pairD)).map ((a, b) :: ·) = _; rw [pairsOf_map l]; rfl
theorem intsOf_map : ∀ l : List Int, intsOf (l.map D.int) = some l
  | [] => rfl
  | a :: l => by show (intsOf (l.map D.int)).map (a :: ·) = _; rw [intsOf_map l]; rfl
theorem frz_lay (n0 : Nat) (M : MH) (l : List (Int × Int)) : frz n0 M 20 (lay l) = some (lay l) := by
  show ((l.map pairD).mapM (frz n0 M 19)).map D.tup = _
  rw [frz_pairs n0 17 M l]; rfl
theorem frz_lsP (n0 : Nat) (M : MH) (l : List (Int × Int)) : frz n0 M 20 (lsP l) = some (lsP l) := by
  show ((l.map pairD).mapM (frz n0 M 19)).map D.lst = _
  rw [frz_pairs n0 17 M l]; rfl
section
variable {P : MProg} {W k : Nat} {fl : Nat} {lk : List Nat} {M : MH}
theorem c_with_block (h : P.fns.lookup 28 = some d_with_block) (l : List (Int × Int)) (s z : Int) (hl : l.length ≤ 5000) : callN P W (k + 1) false 28 [lay l, .int s, .int z] fl lk M = .ok (lay (sortP (l ++ [(s, z)]))) M := by
  refine call_rt (M' := M) (v := lay (sortP (l ++ [(s, z)]))) h rfl ?_ (frz_lay _ _ _) (List.take_length)
  have h1 : l.length + 1 ≤ 10000 := by omega
  have h2 : pairsOf (l.map pairD ++ [D.tup [.int s, .int z]]) = some (l ++ [(s, z)]) := by
    have := pairsOf_map (l ++ [(s, z)])
    rwa [List.map_append] at this
  simp [ev_c, ev_v, ev_g, ev_bin, ev_neg, ev_not, ev_cmp, ev_chain, ev_and, ev_or, ev_ife, ev_nil, ev_cons, ev_tup, ev_lst, ev_new, ev_idx, ev_slc, ev_rev, ev_call, ev_bf, ev_mt, ev_it, ev_rng, ev_enum, ev_zip, ex_skip, ex_seq, ex_asg, ex_setix, ex_aug, ex_augix, ex_ife, ex_ret, ex_retN, ex_expr, ex_brk, ex_cont, R.to, R.bind, R.ofOpt, RS.andThen, nxO, tupD, boolD, newD, cmpD, cmpop, binop, addD, mulD, catD, negD, idxD, idxO, iop, partR, partD, cutD, revD, recvD, mth, objL, one1, zero1, appendD, extendD, popD, setD, bfn, lenD, sumD, allD, anyD, minD, maxD, absD, sortedD, tupleD, listD, isinstD, isTy, kindD, tyIn, Ctx.may, Ctx.lock, Tg.asg, asgs, items, itemsL, lockOf, walkOf, walkD, walkR, itemsT, isNil, lstD, oneD, D.pure, D.pure.pureL, eqM_str, eqM_int, eqM_non, eqM_intnon, Mini.get?, place?, intsOf, minL, maxL, Mini.wipe, List.getElem?_cons_zero, List.getElem?_cons_succ, Option.join, List.set_cons_zero, List.set_cons_succ, List.map_cons, List.map_nil, Option.map_some, Option.map_none, Option.bind_some, Option.bind_none, lay, h1, h2]
theorem c_without_block (h : P.fns.lookup 66 = some d_without_block) (l : List (Int × Int)) (s : Int) (hl : l.length ≤ 5000) : callN P W (k + 1) false 66 [lay l, .int s] fl lk M = .ok (lay (l.filter fun b => decide (b.1 ≠ s))) M := by
  refine call_rt (M' := M) (v := lay (l.filter fun b => decide (b.1 ≠ s))) h rfl ?_ (frz_lay _ _ _) (List.take_length)
  have hc := ev_comp (c := ⟨callN P W k, fun i => P.gls.lookup i, W, M.length, lk⟩) (elt := .v 2) (cond := .cmp .ne (.idx (.v 2) (.c (.int 0))) (.v 1)) (it := .it (.v 0)) (t := .one 2) (own := [2]) (σ := [some (lay l), some (.int s), none]) (M := M) (M' := M) (ys := l) (ls := []) (enc := pairD)
    (g := fun b => if decide (b.1 ≠ s) = true then some (pairD b) else none) (by simp [ev_c, ev_v, ev_g, ev_bin, ev_neg, ev_not, ev_cmp, ev_chain, ev_and, ev_or, ev_ife, ev_nil, ev_cons, ev_tup, ev_lst, ev_new, ev_idx, ev_slc, ev_rev, ev_call, ev_bf, ev_mt, ev_it, ev_rng, ev_enum, ev_zip, ex_skip, ex_seq, ex_asg, ex_setix, ex_aug, ex_augix, ex_ife, ex_ret, ex_retN, ex_expr, ex_brk, ex_cont, R.to, R.bind, R.ofOpt, RS.andThen, nxO, tupD, boolD, newD, cmpD, cmpop, binop, addD, mulD, catD, negD, idxD, idxO, iop, partR, partD, cutD, revD, recvD, mth, objL, one1, zero1, appendD, extendD, popD, setD, bfn, lenD, sumD, allD, anyD, minD, maxD, absD, sortedD, tupleD, listD, isinstD, isTy, kindD, tyIn, Ctx.may, Ctx.lock, Tg.asg, asgs, items, itemsL, lockOf, walkOf, walkD, walkR, itemsT, isNil, lstD, oneD, D.pure, D.pure.pureL, eqM_str, eqM_int, eqM_non, eqM_intnon, Mini.get?, place?, intsOf, minL, maxL, Mini.wipe, List.getElem?_cons_zero, List.getElem?_cons_succ, Option.join, List.set_cons_zero, List.set_cons_succ, List.map_cons, List.map_nil, Option.map_some, Option.map_none, Option.bind_some, Option.bind_none, lay]) (fun b hb => by
      obtain ⟨a, z⟩ := b
      by_cases h1 : a = s
      · simp [cF, ev_c, ev_v, ev_g, ev_bin, ev_neg, ev_not, ev_cmp, ev_chain, ev_and, ev_or, ev_ife, ev_nil, ev_cons, ev_tup, ev_lst, ev_new, ev_idx, ev_slc, ev_rev, ev_call, ev_bf, ev_mt, ev_it, ev_rng, ev_enum, ev_zip, ex_skip, ex_seq, ex_asg, ex_setix, ex_aug, ex_augix, ex_ife, ex_ret, ex_retN, ex_expr, ex_brk, ex_cont, R.to, R.bind, R.ofOpt, RS.andThen, nxO, tupD, boolD, newD, cmpD, cmpop, binop, addD, mulD, catD, negD, idxD, idxO, iop, partR, partD, cutD, revD, recvD, mth, objL, one1, zero1, appendD, extendD, popD, setD, bfn, lenD, sumD, allD, anyD, minD, maxD, absD, sortedD, tupleD, listD, isinstD, isTy, kindD, tyIn, Ctx.may, Ctx.lock, Tg.asg, asgs, items, itemsL, lockOf, walkOf, walkD, walkR, itemsT, isNil, lstD, oneD, D.pure, D.pure.pureL, eqM_str, eqM_int, eqM_non, eqM_intnon, Mini.get?, place?, intsOf, minL, maxL, Mini.wipe, List.getElem?_cons_zero, List.getElem?_cons_succ, Option.join, List.set_cons_zero, List.set_cons_succ, List.map_cons, List.map_nil, Option.map_some, Option.map_none, Option.bind_some, Option.bind_none, calmR, pairD, h1, locks]
      · simp [cF, ev_c, ev_v, ev_g, ev_bin, ev_neg, ev_not, ev_cmp, ev_chain, ev_and, ev_or, ev_ife, ev_nil, ev_cons, ev_tup, ev_lst, ev_new, ev_idx, ev_slc, ev_rev, ev_call, ev_bf, ev_mt, ev_it, ev_rng, ev_enum, ev_zip, ex_skip, ex_seq, ex_asg, ex_setix, ex_aug, ex_augix, ex_ife, ex_ret, ex_retN, ex_expr, ex_brk, ex_cont, R.to, R.bind, R.ofOpt, RS.andThen, nxO, tupD, boolD, newD, cmpD, cmpop, binop, addD, mulD, catD, negD, idxD, idxO, iop, partR, partD, cutD, revD, recvD, mth, objL, one1, zero1, appendD, extendD, popD, setD, bfn, lenD, sumD, allD, anyD, minD, maxD, absD, sortedD, tupleD, listD, isinstD, isTy, kindD, tyIn, Ctx.may, Ctx.lock, Tg.asg, asgs, items, itemsL, lockOf, walkOf, walkD, walkR, itemsT, isNil, lstD, oneD, D.pure, D.pure.pureL, eqM_str, eqM_int, eqM_non, eqM_intnon, Mini.get?, place?, intsOf, minL, maxL, Mini.wipe, List.getElem?_cons_zero, List.getElem?_cons_succ, Option.join, List.set_cons_zero, List.set_cons_succ, List.map_cons, List.map_nil, Option.map_some, Option.map_none, Option.bind_some, Option.bind_none, calmR, pairD, h1, locks]) (by omega)
  rw [fm_filter] at hc
  simp [ev_c, ev_v, ev_g, ev_bin, ev_neg, ev_not, ev_cmp, ev_chain, ev_and, ev_or, ev_ife, ev_nil, ev_cons, ev_tup, ev_lst, ev_new, ev_idx, ev_slc, ev_rev, ev_call, ev_bf, ev_mt, ev_it, ev_rng, ev_enum, ev_zip, ex_skip, ex_seq, ex_asg, ex_setix, ex_aug, ex_augix, ex_ife, ex_ret, ex_retN, ex_expr, ex_brk, ex_cont, R.to, R.bind, R.ofOpt, RS.andThen, nxO, tupD, boolD, newD, cmpD, cmpop, binop, addD, mulD, catD, negD, idxD, idxO, iop, partR, partD, cutD, revD, recvD, mth, objL, one1, zero1, appendD, extendD, popD, setD, bfn, lenD, sumD, allD, anyD, minD, maxD, absD, sortedD, tupleD, listD, isinstD, isTy, kindD, tyIn, Ctx.may, Ctx.lock, Tg.asg, asgs, items, itemsL, lockOf, walkOf, walkD, walkR, itemsT, isNil, lstD, oneD, D.pure, D.pure.pureL, eqM_str, eqM_int, eqM_non, eqM_intnon, Mini.get?, place?, intsOf, minL, maxL, Mini.wipe, List.getElem?_cons_zero, List.getElem?_cons_succ, Option.join, List.set_cons_zero, List.set_cons_succ, List.map_cons, List.map_nil, Option.map_some, Option.map_none, Option.bind_some, Option.bind_none, hc]
  simp [lay]
end
end Con
set_option autoImplicit false
set_option maxRecDepth 100000
set_option maxHeartbeats 4000000
namespace Con
open Mini Tx
def oInt : Option Int → D
  | none => .non
  | some i => .int i
theorem frz_oInt (n0 : Nat) (M : MH) : ∀ o : Option Int, frz n0 M 20 (oInt o) = some (oInt o)
  | none => rfl
  | some _ => rfl
def fOpen (size least : Int) : List (Int × Int) → Option Int
  | [] => none
  | (s, m) :: r => if (if least > s then least else s) + size ≤ s + m then some (if least > s then least else s) else fOpen size least r
theorem compL2_pure {β γ : Type} {f : D → List D → MH → R (List D)} {M : MH} (enc : β → D) (g : β → List D) : ∀ (ys : List β) (acc : List D), (∀ y ∈ ys, ∀ acc, f (enc y) acc M = .ok (acc ++ g y) M) → compL2 f (ys.map enc) acc M = .ok (acc ++ ys.flatMap g) M
  | [], acc, _ => by simp [compL2]
  | y :: ys, acc, h => by
    have h1 := h y List.mem_cons_self acc
    have ih := compL2_pure (γ := γ) enc g ys (acc ++ g y) fun z hz => h z (List.mem_cons_of_mem _ hz)
    simp [compL2, h1, ih]
theorem ev_comp2 {β γ : Type} {c : Ctx} {elt cond it2 it : ME} {t2 t : Tg} {own : List Nat} {σ : Sl} {M : MH} {ys : List β} {ls : List D} {enc : β → D} {enc2 : γ → D} {zs : β → List γ} {ls2 : β → List D} {σs : β → Sl} {g : β → γ → Option D}
    (hit : ev c it σ M = .ok (.dct (ys.map enc) ls) M) (ha : ∀ y ∈ ys, t.asg (enc y) (Mini.wipe σ own) = some (σs y)) (h2 : ∀ y ∈ ys, ev (c.lock (locks ls)) it2 (σs y) M = .ok (.dct ((zs y).map enc2) (ls2 y)) M)
    (h : ∀ y ∈ ys, ∀ z ∈ zs y, cF c elt cond t2 (Mini.wipe (σs y) (tgSlots t2)) (locks (ls2 y) ++ locks ls) (enc2 z) M = .ok (g y z) M) (hl : (ys.flatMap fun y => (zs y).filterMap (g y)).length ≤ 100000) :
    ev c (.comp2 elt cond it2 t2 it t own) σ M = .ok (.lst (ys.flatMap fun y => (zs y).filterMap (g y))) M := by
  show ((ev c it σ M).bind fun w M => walkR w fun xs l => (compL2 (fun x acc M => (R.ofOpt (t.asg x (Mini.wipe σ own)) M).bind fun σ' M =>
      (calmR (ev (c.lock l) it2 σ' M)).bind fun w2 M => walkR w2 fun xs2 l2 => compL (cF c elt cond t2 (Mini.wipe σ' (tgSlots t2)) (l2 ++ l)) xs2 acc M) xs [] M).bind lstD) = _
  rw [hit]
  show (compL2 _ (ys.map enc) [] M).bind lstD = _
  rw [compL2_pure (γ := γ) enc (fun y => (zs y).filterMap (g y)) ys [] fun y hy acc => by
    rw [ha y hy]
    show (calmR (ev (c.lock (locks ls)) it2 (σs y) M)).bind _ = _
    rw [h2 y hy]
    exact compL_pure enc2 (g y) (zs y) acc fun z hz => h y hy z hz]
  show lstD ([] ++ _) M = _
  unfold lstD
  rw [List.nil_append, if_pos hl]
section
variable {P : MProg} {W k : Nat} {fl : Nat} {lk : List Nat} {M : MH}
theorem c_first_open (h7 : P.fns.lookup 7 = some d_holes_of) (h : P.fns.lookup 60 = some d_first_open) (hk : ∀ n ∈ lk, n < M.length) (cells size least : Int) (l : List (Int × Int)) (hl : l.length ≤ 5000) :
    callN P W (k + 2) false 60 [.int cells, lay l, .int size, .int least] fl lk M = .ok (oInt (fOpen size least (holesP cells l))) M := by
  refine call_rt (M' := M) (v := oInt (fOpen size least (holesP cells l))) h rfl ?_ (frz_oInt _ _ _) (List.take_length)
  have hit : ev ⟨callN P W (k + 1), fun i => P.gls.lookup i, W, M.length, lk⟩ (.it (.call false 7 (.cons (.v 0) (.cons (.v 1) .nil)))) [some (.int cells), some (lay l), some (.int size), some (.int least), none, none, none] M = .ok (.dct ((holesP cells l).map pairD) []) M := by
    simp [ev_c, ev_v, ev_g, ev_bin, ev_neg, ev_not, ev_cmp, ev_chain, ev_and, ev_or, ev_ife, ev_nil, ev_cons, ev_tup, ev_lst, ev_new, ev_idx, ev_slc, ev_rev, ev_call, ev_bf, ev_mt, ev_it, ev_rng, ev_enum, ev_zip, ex_skip, ex_seq, ex_asg, ex_setix, ex_aug, ex_augix, ex_ife, ex_ret, ex_retN, ex_expr, ex_brk, ex_cont, R.to, R.bind, R.ofOpt, RS.andThen, nxO, tupD, boolD, newD, cmpD, cmpop, binop, addD, mulD, catD, negD, idxD, idxO, iop, partR, partD, cutD, revD, recvD, mth, objL, one1, zero1, appendD, extendD, popD, setD, bfn, lenD, sumD, allD, anyD, minD, maxD, absD, sortedD, tupleD, listD, isinstD, isTy, kindD, tyIn, Ctx.may, Ctx.lock, Tg.asg, asgs, items, itemsL, lockOf, walkOf, walkD, walkR, itemsT, isNil, lstD, oneD, D.pure, D.pure.pureL, eqM_str, eqM_int, eqM_non, eqM_intnon, Mini.get?, place?, intsOf, minL, maxL, Mini.wipe, List.getElem?_cons_zero, List.getElem?_cons_succ, Option.join, List.set_cons_zero, List.set_cons_succ, List.map_cons, List.map_nil, Option.map_some, Option.map_none, Option.bind_some, Option.bind_none, c_holes_of h7 hk cells l hl]
    simp [lsP]
  rcases loop_may (f := turn (Ctx.lock ⟨callN P W (k + 1), fun i => P.gls.lookup i, W, M.length, lk⟩ (locks [])) (.many [4, 5]) b_first_open_1) pairD
    (fun r σ N => N = M ∧ fOpen size least r = fOpen size least (holesP cells l) ∧ ∃ j4 j5 j6 : Option D, σ = [some (.int cells), some (lay l), some (.int size), some (.int least), j4, j5, j6])
    (fun v N => N = M ∧ v = oInt (fOpen size least (holesP cells l))) (fun _ _ => False) (holesP cells l) [some (.int cells), some (lay l), some (.int size), some (.int least), none, none, none] M ⟨rfl, rfl, none, none, none, rfl⟩ (by
      rintro ⟨s, m⟩ r σ N ⟨rfl, he, j4, j5, j6, rfl⟩
      by_cases hc : (if least > s then least else s) + size ≤ s + m
      · refine .inr (.inl ⟨.int (if least > s then least else s), N, ?_, rfl, ?_⟩)
        · simp [turn, b_first_open_1, ev_c, ev_v, ev_g, ev_bin, ev_neg, ev_not, ev_cmp, ev_chain, ev_and, ev_or, ev_ife, ev_nil, ev_cons, ev_tup, ev_lst, ev_new, ev_idx, ev_slc, ev_rev, ev_call, ev_bf, ev_mt, ev_it, ev_rng, ev_enum, ev_zip, ex_skip, ex_seq, ex_asg, ex_setix, ex_aug, ex_augix, ex_ife, ex_ret, ex_retN, ex_expr, ex_brk, ex_cont, R.to, R.bind, R.ofOpt, RS.andThen, nxO, tupD, boolD, newD, cmpD, cmpop, binop, addD, mulD, catD, negD, idxD, idxO, iop, partR, partD, cutD, revD, recvD, mth, objL, one1, zero1, appendD, extendD, popD, setD, bfn, lenD, sumD, allD, anyD, minD, maxD, absD, sortedD, tupleD, listD, isinstD, isTy, kindD, tyIn, Ctx.may, Ctx.lock, Tg.asg, asgs, items, itemsL, lockOf, walkOf, walkD, walkR, itemsT, isNil, lstD, oneD, D.pure, D.pure.pureL, eqM_str, eqM_int, eqM_non, eqM_intnon, Mini.get?, place?, intsOf, minL, maxL, Mini.wipe, List.getElem?_cons_zero, List.getElem?_cons_succ, Option.join, List.set_cons_zero, List.set_cons_succ, List.map_cons, List.map_nil, Option.map_some, Option.map_none, Option.bind_some, Option.bind_none, pairD, hc, locks]
        · rw [← he]; simp [fOpen, hc, oInt]
      · refine .inl ⟨[some (.int cells), some (lay l), some (.int size), some (.int least), some (.int s), some (.int m), some (.int (if least > s then least else s))], N, .inl ?_, rfl, ?_, _, _, _, rfl⟩
        · simp [turn, b_first_open_1, ev_c, ev_v, ev_g, ev_bin, ev_neg, ev_not, ev_cmp, ev_chain, ev_and, ev_or, ev_ife, ev_nil, ev_cons, ev_tup, ev_lst, ev_new, ev_idx, ev_slc, ev_rev, ev_call, ev_bf, ev_mt, ev_it, ev_rng, ev_enum, ev_zip, ex_skip, ex_seq, ex_asg, ex_setix, ex_aug, ex_augix, ex_ife, ex_ret, ex_retN, ex_expr, ex_brk, ex_cont, R.to, R.bind, R.ofOpt, RS.andThen, nxO, tupD, boolD, newD, cmpD, cmpop, binop, addD, mulD, catD, negD, idxD, idxO, iop, partR, partD, cutD, revD, recvD, mth, objL, one1, zero1, appendD, extendD, popD, setD, bfn, lenD, sumD, allD, anyD, minD, maxD, absD, sortedD, tupleD, listD, isinstD, isTy, kindD, tyIn, Ctx.may, Ctx.lock, Tg.asg, asgs, items, itemsL, lockOf, walkOf, walkD, walkR, itemsT, isNil, lstD, oneD, D.pure, D.pure.pureL, eqM_str, eqM_int, eqM_non, eqM_intnon, Mini.get?, place?, intsOf, minL, maxL, Mini.wipe, List.getElem?_cons_zero, List.getElem?_cons_succ, Option.join, List.set_cons_zero, List.set_cons_succ, List.map_cons, List.map_nil, Option.map_some, Option.map_none, Option.bind_some, Option.bind_none, pairD, hc, locks]
        · rw [← he]; simp [fOpen, hc]) with ⟨σ', M', h1, hx⟩ | ⟨v, M', h1, rfl, rfl⟩
  · rcases hx with ⟨rfl, he, j4, j5, j6, rfl⟩ | hx
    · refine seq_nx ((exec_for hit).trans h1) ?_
      rw [← he]
      simp [ev_c, ev_v, ev_g, ev_bin, ev_neg, ev_not, ev_cmp, ev_chain, ev_and, ev_or, ev_ife, ev_nil, ev_cons, ev_tup, ev_lst, ev_new, ev_idx, ev_slc, ev_rev, ev_call, ev_bf, ev_mt, ev_it, ev_rng, ev_enum, ev_zip, ex_skip, ex_seq, ex_asg, ex_setix, ex_aug, ex_augix, ex_ife, ex_ret, ex_retN, ex_expr, ex_brk, ex_cont, R.to, R.bind, R.ofOpt, RS.andThen, nxO, tupD, boolD, newD, cmpD, cmpop, binop, addD, mulD, catD, negD, idxD, idxO, iop, partR, partD, cutD, revD, recvD, mth, objL, one1, zero1, appendD, extendD, popD, setD, bfn, lenD, sumD, allD, anyD, minD, maxD, absD, sortedD, tupleD, listD, isinstD, isTy, kindD, tyIn, Ctx.may, Ctx.lock, Tg.asg, asgs, items, itemsL, lockOf, walkOf, walkD, walkR, itemsT, isNil, lstD, oneD, D.pure, D.pure.pureL, eqM_str, eqM_int, eqM_non, eqM_intnon, Mini.get?, place?, intsOf, minL, maxL, Mini.wipe, List.getElem?_cons_zero, List.getElem?_cons_succ, Option.join, List.set_cons_zero, List.set_cons_succ, List.map_cons, List.map_nil, Option.map_some, Option.map_none, Option.bind_some, Option.bind_none, fOpen, oInt]
    · exact hx.elim
  · exact seq_rt ((exec_for hit).trans h1)
end
end Con
set_option autoImplicit false
set_option maxRecDepth 100000
set_option maxHeartbeats 4000000
namespace Con
open Mini Tx
inductive Rl where
  | first | best | worst | next | newest | buddy
  | ends (b : Int)
  | classes (rs : List (Int × Int))
  | slabs (u : Int)
def sFirst : List Nat := [102, 105, 114, 115, 116]
def sBest : List Nat := [98, 101, 115, 116]
def sWorst : List Nat := [119, 111, 114, 115, 116]
def sNext : List Nat := [110, 101, 120, 116]
def sNewest : List Nat := [110, 101, 119, 101, 115, 116]
def sBuddy : List Nat := [98, 117, 100, 100, 121]
def sEnds : List Nat := [101, 110, 100, 115]
def sClasses : List Nat := [99, 108, 97, 115, 115, 101, 115]
def sSlabs : List Nat := [115, 108, 97, 98, 115]
def Rl.name : Rl → List Nat
  | .first => sFirst
  | .best => sBest
  | .worst => sWorst
  | .next => sNext
  | .newest => sNewest
  | .buddy => sBuddy
  | .ends _ => sEnds
  | .classes _ => sClasses
  | .slabs _ => sSlabs
def Rl.d : Rl → D
  | .ends b => .tup [.str sEnds, .int b]
  | .classes rs => .tup [.str sClasses, lay rs]
  | .slabs u => .tup [.str sSlabs, .int u]
  | r => .tup [.str r.name]
inductive Mk where
  | num (i : Int)
  | lst (l : List Int)
def Mk.d : Mk → D
  | .num i => .int i
  | .lst l => .tup (l.map .int)
def Mk.list : Mk → List Int
  | .num _ => []
  | .lst l => l
def Mk.int : Mk → Int
  | .num i => i
  | .lst _ => 0
def stD (l : List (Int × Int)) (mk : Mk) : D := .tup [lay l, mk.d]
def oPair : Option (Int × Int) → D
  | none => .non
  | some p => pairD p
def goodH (cells : Int) (l : List (Int × Int)) (size : Int) : List (Int × Int) := (holesP cells l).filter fun h => decide (h.2 ≥ size)
def minZ : List Int → Int
  | [] => 0
  | n :: ns => minI n ns
def maxZ : List Int → Int
  | [] => 0
  | n :: ns => maxI n ns
def pickP (r : Rl) (good : List (Int × Int)) (mk : List Int) (size : Int) : Option (Int × Int) :=
  match r with
  | .best => (good.filter fun h => decide (h.2 = minZ (good.map (·.2)))).head?
  | .worst => (good.filter fun h => decide (h.2 = maxZ (good.map (·.2)))).head?
  | .newest => (mk.flatMap fun s => good.filter fun h => decide (h.1 = s)).head?
  | .ends b => if size > b then good.getLast? else good.head?
  | _ => good.head?
theorem fm_len {α β : Type} (m : List α) (f : α → List β) (B : Nat) (h : ∀ a ∈ m, (f a).length ≤ B) : (m.flatMap f).length ≤ m.length * B := by
  induction m with
  | nil => simp
  | cons a m ih =>
    rw [List.flatMap_cons, List.length_append, List.length_cons, Nat.succ_mul]
    have h1 := h a List.mem_cons_self
    have h2 := ih fun b hb => h b (List.mem_cons_of_mem _ hb)
    omega
theorem mem_idx0 {α : Type} (l : List α) : Mini.get? l 0 = l.head? := by
  cases l <;> simp [Mini.get?, place?]
theorem get_last {α : Type} (l : List α) (h : l ≠ []) : Mini.get? l (-1) = l.getLast? := by
  have hl : 0 < l.length := List.length_pos_iff.mpr h
  unfold Mini.get? place?
  rw [if_neg (by decide), if_pos (by omega)]
  have : (-1 + (l.length : Int)).toNat = l.length - 1 := by omega
  rw [this, List.getLast?_eq_getElem?]
section
variable {P : MProg} {W k : Nat} {fl : Nat} {lk : List Nat} {M : MH}
theorem frz_oPair (n0 : Nat) (M : MH) : ∀ o : Option (Int × Int), frz n0 M 20 (oPair o) = some (oPair o)
  | none => rfl
  | some _ => rfl
theorem holesA_len (cells : Int) : ∀ (l : List (Int × Int)) (a : Int), (holesA cells a l).length ≤ l.length + 1
  | [], a => by unfold holesA; split <;> simp
  | (s, z) :: r, a => by
    have := holesA_len cells r (s + z)
    unfold holesA
    split <;> simp <;> omega
theorem c_chosen_hole (h7 : P.fns.lookup 7 = some d_holes_of) (h : P.fns.lookup 65 = some d_chosen_hole) (hk : ∀ n ∈ lk, n < M.length) (r : Rl) (hr : r ≠ .buddy ∧ (∀ rs, r ≠ .classes rs) ∧ (∀ u, r ≠ .slabs u) ∧ r ≠ .next) (cells size : Int) (l : List (Int × Int)) (mk : Mk) (hl : l.length ≤ 5000)
    (hmk : r = .newest → ∃ m, mk = .lst m ∧ m.length ≤ 60) (hl2 : l.length ≤ 100) (p : Option (Int × Int)) (hp : if goodH cells l size = [] then p = none else ∃ q, p = some q ∧ pickP r (goodH cells l size) mk.list size = some q) :
    callN P W (k + 2) false 65 [r.d, .int cells, stD l mk, .int size] fl lk M = .ok (oPair p) M := by
  refine call_rt (M' := M) (v := oPair p) h rfl ?_ (frz_oPair _ _ _) (List.take_length)
  generalize hc : (⟨callN P W (k + 1), fun i => P.gls.lookup i, W, M.length, lk⟩ : Ctx) = c
  have hcall : ∀ cells l, l.length ≤ 5000 → c.call false 7 [.int cells, lay l] c.fl c.lk M = .ok (lsP (holesP cells l)) M := fun cells l hl => by
    subst hc; exact c_holes_of h7 hk cells l hl
  have hgood := ev_comp (c := c) (elt := .v 7) (cond := .cmp .ge (.idx (.v 7) (.c (.int 1))) (.v 3)) (it := .it (.call false 7 (.cons (.v 1) (.cons (.v 4) .nil)))) (t := .one 7) (own := [7]) (σ := [some r.d, some (.int cells), some (stD l mk), some (.int size), some (lay l), some mk.d, none, none, none, none])
    (M := M) (M' := M) (ys := holesP cells l) (ls := []) (enc := pairD) (g := fun h => if decide (h.2 ≥ size) = true then some (pairD h) else none)
    (by simp [ev_c, ev_v, ev_g, ev_bin, ev_neg, ev_not, ev_cmp, ev_chain, ev_and, ev_or, ev_ife, ev_nil, ev_cons, ev_tup, ev_lst, ev_new, ev_idx, ev_slc, ev_rev, ev_call, ev_bf, ev_mt, ev_it, ev_rng, ev_enum, ev_zip, ex_skip, ex_seq, ex_asg, ex_setix, ex_aug, ex_augix, ex_ife, ex_ret, ex_retN, ex_expr, ex_brk, ex_cont, R.to, R.bind, R.ofOpt, RS.andThen, nxO, tupD, boolD, newD, cmpD, cmpop, binop, addD, mulD, catD, negD, idxD, idxO, iop, partR, partD, cutD, revD, recvD, mth, objL, one1, zero1, appendD, extendD, popD, setD, bfn, lenD, sumD, allD, anyD, minD, maxD, absD, sortedD, tupleD, listD, isinstD, isTy, kindD, tyIn, Ctx.may, Ctx.lock, Tg.asg, asgs, items, itemsL, lockOf, walkOf, walkD, walkR, itemsT, isNil, lstD, oneD, D.pure, D.pure.pureL, eqM_str, eqM_int, eqM_non, eqM_intnon, Mini.get?, place?, intsOf, minL, maxL, Mini.wipe, List.getElem?_cons_zero, List.getElem?_cons_succ, Option.join, List.set_cons_zero, List.set_cons_succ, List.map_cons, List.map_nil, Option.map_some, Option.map_none, Option.bind_some, Option.bind_none, hcall cells l hl]; simp [lsP]) (fun b hb => by
      obtain ⟨a, z⟩ := b
      by_cases h1 : z ≥ size
      · simp [cF, ev_c, ev_v, ev_g, ev_bin, ev_neg, ev_not, ev_cmp, ev_chain, ev_and, ev_or, ev_ife, ev_nil, ev_cons, ev_tup, ev_lst, ev_new, ev_idx, ev_slc, ev_rev, ev_call, ev_bf, ev_mt, ev_it, ev_rng, ev_enum, ev_zip, ex_skip, ex_seq, ex_asg, ex_setix, ex_aug, ex_augix, ex_ife, ex_ret, ex_retN, ex_expr, ex_brk, ex_cont, R.to, R.bind, R.ofOpt, RS.andThen, nxO, tupD, boolD, newD, cmpD, cmpop, binop, addD, mulD, catD, negD, idxD, idxO, iop, partR, partD, cutD, revD, recvD, mth, objL, one1, zero1, appendD, extendD, popD, setD, bfn, lenD, sumD, allD, anyD, minD, maxD, absD, sortedD, tupleD, listD, isinstD, isTy, kindD, tyIn, Ctx.may, Ctx.lock, Tg.asg, asgs, items, itemsL, lockOf, walkOf, walkD, walkR, itemsT, isNil, lstD, oneD, D.pure, D.pure.pureL, eqM_str, eqM_int, eqM_non, eqM_intnon, Mini.get?, place?, intsOf, minL, maxL, Mini.wipe, List.getElem?_cons_zero, List.getElem?_cons_succ, Option.join, List.set_cons_zero, List.set_cons_succ, List.map_cons, List.map_nil, Option.map_some, Option.map_none, Option.bind_some, Option.bind_none, calmR, pairD, h1, locks]
      · simp [cF, ev_c, ev_v, ev_g, ev_bin, ev_neg, ev_not, ev_cmp, ev_chain, ev_and, ev_or, ev_ife, ev_nil, ev_cons, ev_tup, ev_lst, ev_new, ev_idx, ev_slc, ev_rev, ev_call, ev_bf, ev_mt, ev_it, ev_rng, ev_enum, ev_zip, ex_skip, ex_seq, ex_asg, ex_setix, ex_aug, ex_augix, ex_ife, ex_ret, ex_retN, ex_expr, ex_brk, ex_cont, R.to, R.bind, R.ofOpt, RS.andThen, nxO, tupD, boolD, newD, cmpD, cmpop, binop, addD, mulD, catD, negD, idxD, idxO, iop, partR, partD, cutD, revD, recvD, mth, objL, one1, zero1, appendD, extendD, popD, setD, bfn, lenD, sumD, allD, anyD, minD, maxD, absD, sortedD, tupleD, listD, isinstD, isTy, kindD, tyIn, Ctx.may, Ctx.lock, Tg.asg, asgs, items, itemsL, lockOf, walkOf, walkD, walkR, itemsT, isNil, lstD, oneD, D.pure, D.pure.pureL, eqM_str, eqM_int, eqM_non, eqM_intnon, Mini.get?, place?, intsOf, minL, maxL, Mini.wipe, List.getElem?_cons_zero, List.getElem?_cons_succ, Option.join, List.set_cons_zero, List.set_cons_succ, List.map_cons, List.map_nil, Option.map_some, Option.map_none, Option.bind_some, Option.bind_none, calmR, pairD, h1, locks]) (by have := holesA_len cells l 0; unfold holesP; omega)
  rw [fm_filter] at hgood
  refine seq_nx (σ' := [some r.d, some (.int cells), some (stD l mk), some (.int size), some (lay l), some mk.d, none, none, none, none]) (M' := M) (by simp [ev_c, ev_v, ev_g, ev_bin, ev_neg, ev_not, ev_cmp, ev_chain, ev_and, ev_or, ev_ife, ev_nil, ev_cons, ev_tup, ev_lst, ev_new, ev_idx, ev_slc, ev_rev, ev_call, ev_bf, ev_mt, ev_it, ev_rng, ev_enum, ev_zip, ex_skip, ex_seq, ex_asg, ex_setix, ex_aug, ex_augix, ex_ife, ex_ret, ex_retN, ex_expr, ex_brk, ex_cont, R.to, R.bind, R.ofOpt, RS.andThen, nxO, tupD, boolD, newD, cmpD, cmpop, binop, addD, mulD, catD, negD, idxD, idxO, iop, partR, partD, cutD, revD, recvD, mth, objL, one1, zero1, appendD, extendD, popD, setD, bfn, lenD, sumD, allD, anyD, minD, maxD, absD, sortedD, tupleD, listD, isinstD, isTy, kindD, tyIn, Ctx.may, Ctx.lock, Tg.asg, asgs, items, itemsL, lockOf, walkOf, walkD, walkR, itemsT, isNil, lstD, oneD, D.pure, D.pure.pureL, eqM_str, eqM_int, eqM_non, eqM_intnon, Mini.get?, place?, intsOf, minL, maxL, Mini.wipe, List.getElem?_cons_zero, List.getElem?_cons_succ, Option.join, List.set_cons_zero, List.set_cons_succ, List.map_cons, List.map_nil, Option.map_some, Option.map_none, Option.bind_some, Option.bind_none, stD]) ?_
  refine seq_nx (σ' := [some r.d, some (.int cells), some (stD l mk), some (.int size), some (lay l), some mk.d, some (lsP (goodH cells l size)), none, none, none]) (M' := M) (by simp [ev_c, ev_v, ev_g, ev_bin, ev_neg, ev_not, ev_cmp, ev_chain, ev_and, ev_or, ev_ife, ev_nil, ev_cons, ev_tup, ev_lst, ev_new, ev_idx, ev_slc, ev_rev, ev_call, ev_bf, ev_mt, ev_it, ev_rng, ev_enum, ev_zip, ex_skip, ex_seq, ex_asg, ex_setix, ex_aug, ex_augix, ex_ife, ex_ret, ex_retN, ex_expr, ex_brk, ex_cont, R.to, R.bind, R.ofOpt, RS.andThen, nxO, tupD, boolD, newD, cmpD, cmpop, binop, addD, mulD, catD, negD, idxD, idxO, iop, partR, partD, cutD, revD, recvD, mth, objL, one1, zero1, appendD, extendD, popD, setD, bfn, lenD, sumD, allD, anyD, minD, maxD, absD, sortedD, tupleD, listD, isinstD, isTy, kindD, tyIn, Ctx.may, Ctx.lock, Tg.asg, asgs, items, itemsL, lockOf, walkOf, walkD, walkR, itemsT, isNil, lstD, oneD, D.pure, D.pure.pureL, eqM_str, eqM_int, eqM_non, eqM_intnon, Mini.get?, place?, intsOf, minL, maxL, Mini.wipe, List.getElem?_cons_zero, List.getElem?_cons_succ, Option.join, List.set_cons_zero, List.set_cons_succ, List.map_cons, List.map_nil, Option.map_some, Option.map_none, Option.bind_some, Option.bind_none, hgood]; rfl) ?_
  have heq : eqM M (lsP (goodH cells l size)) (.lst []) = some (decide (goodH cells l size = [])) := eqM_lsP M _ []
  generalize hσ : ([some r.d, some (.int cells), some (stD l mk), some (.int size), some (lay l), some mk.d, some (lsP (goodH cells l size)), none, none, none] : Sl) = σ
  have v6 : ev c (.v 6) σ M = .ok (lsP (goodH cells l size)) M := by subst hσ; rfl
  have t0 : ev c (.cmp .eq (.v 6) (.lst .nil)) σ M = .ok (.bl (decide (goodH cells l size = []))) M := by
    rw [ev_cmp, v6]
    show R.ofOpt ((eqM M (lsP (goodH cells l size)) (.lst [])).map D.bl) M = _
    rw [heq]
    rfl
  have tr : ∀ s, ev c (.cmp .eq (.idx (.v 0) (.c (.int 0))) (.c (.str s))) σ M = .ok (.bl (decide (r.name = s))) M := fun s => by
    subst hσ
    cases r <;> rfl
  by_cases hg : goodH cells l size = []
  · rw [if_pos hg] at hp
    subst hp
    exact sif_t (by rw [t0, decide_eq_true hg]) (ret_of rfl)
  · rw [if_neg hg] at hp
    obtain ⟨q, rfl, hp⟩ := hp
    refine sif_f (by rw [t0, decide_eq_false hg]) ?_
    have hgl : (goodH cells l size).length ≤ 200 := by
      have h1 := holesA_len cells l 0
      have h2 := List.length_filter_le (fun h : Int × Int => decide (h.2 ≥ size)) (holesP cells l)
      unfold goodH holesP at *
      omega
    have it6 : ∀ c' : Ctx, ev c' (.it (.v 6)) σ M = .ok (.dct ((goodH cells l size).map pairD) []) M := fun c' => by subst hσ; rfl
    have inner : ∀ (c' : Ctx) (x7 x8 : Option D), ev c' (.comp (.idx (.v 9) (.c (.int 1))) .nil (.it (.v 6)) (.one 9) [9]) [some r.d, some (.int cells), some (stD l mk), some (.int size), some (lay l), some mk.d, some (lsP (goodH cells l size)), x7, x8, none] M = .ok (lsI ((goodH cells l size).map (·.2))) M := fun c' x7 x8 => by
      have z := ev_comp (c := c') (elt := .idx (.v 9) (.c (.int 1))) (cond := .nil) (it := .it (.v 6)) (t := .one 9) (own := [9]) (σ := [some r.d, some (.int cells), some (stD l mk), some (.int size), some (lay l), some mk.d, some (lsP (goodH cells l size)), x7, x8, none]) (M := M) (M' := M) (ys := goodH cells l size) (ls := []) (enc := pairD)
        (g := fun h => some (.int h.2)) rfl (fun b hb => by obtain ⟨a, z⟩ := b; rfl) (by omega)
      rw [z, fm_map]
      simp [lsI]
    have hminL : ∀ g : List (Int × Int), g ≠ [] → minL (g.map (·.2)) = some (minZ (g.map (·.2))) ∧ maxL (g.map (·.2)) = some (maxZ (g.map (·.2))) := fun g hg => by
      cases g with
      | nil => exact absurd rfl hg
      | cons p g => exact ⟨rfl, rfl⟩
    obtain ⟨hmn, hmx⟩ := hminL _ hg
    have fMin : ∀ (c' : Ctx) (x7 x8 : Option D), ev c' (.bf .min (.cons (.comp (.idx (.v 9) (.c (.int 1))) .nil (.it (.v 6)) (.one 9) [9]) .nil)) [some r.d, some (.int cells), some (stD l mk), some (.int size), some (lay l), some mk.d, some (lsP (goodH cells l size)), x7, x8, none] M = .ok (.int (minZ ((goodH cells l size).map (·.2)))) M := fun c' x7 x8 => by
      rw [ev_bf, ev_cons, inner c' x7 x8]
      show minD [lsI ((goodH cells l size).map (·.2))] M = _
      show R.ofOpt (((intsOf (((goodH cells l size).map (·.2)).map D.int)).bind minL).map D.int) M = _
      rw [intsOf_map]
      show R.ofOpt ((minL ((goodH cells l size).map (·.2))).map D.int) M = _
      rw [hmn]
      rfl
    have fMax : ∀ (c' : Ctx) (x7 x8 : Option D), ev c' (.bf .max (.cons (.comp (.idx (.v 9) (.c (.int 1))) .nil (.it (.v 6)) (.one 9) [9]) .nil)) [some r.d, some (.int cells), some (stD l mk), some (.int size), some (lay l), some mk.d, some (lsP (goodH cells l size)), x7, x8, none] M = .ok (.int (maxZ ((goodH cells l size).map (·.2)))) M := fun c' x7 x8 => by
      rw [ev_bf, ev_cons, inner c' x7 x8]
      show maxD [lsI ((goodH cells l size).map (·.2))] M = _
      show R.ofOpt (((intsOf (((goodH cells l size).map (·.2)).map D.int)).bind maxL).map D.int) M = _
      rw [intsOf_map]
      show R.ofOpt ((maxL ((goodH cells l size).map (·.2))).map D.int) M = _
      rw [hmx]
      rfl
    have fFirst : pickP .first (goodH cells l size) mk.list size = some q → ev c (.idx (.v 6) (.c (.int 0))) σ M = .ok (pairD q) M := fun hp => idx0_of v6 hp
    cases r with
    | first =>
      refine sif_f (by rw [tr]; rfl) (sif_f (by rw [tr]; rfl) (sif_f (by rw [tr]; rfl) (ret_of ?_)))
      rw [ev_ife, ev_and, tr]
      exact fFirst hp
    | best =>
      refine sif_t (by rw [tr]; rfl) (ret_of (idx0_of (l := (goodH cells l size).filter fun h => decide (h.2 = minZ ((goodH cells l size).map (·.2)))) ?_ hp))
      have z := ev_comp (c := c) (elt := .v 7) (cond := .cmp .eq (.idx (.v 7) (.c (.int 1))) (.bf .min (.cons (.comp (.idx (.v 9) (.c (.int 1))) .nil (.it (.v 6)) (.one 9) [9]) .nil))) (it := .it (.v 6)) (t := .one 7) (own := [7]) (σ := σ) (M := M) (M' := M) (ys := goodH cells l size) (ls := []) (enc := pairD)
        (g := fun h => if decide (h.2 = minZ ((goodH cells l size).map (·.2))) = true then some (pairD h) else none) (it6 c) (fun b hb => by
          obtain ⟨a, y⟩ := b
          subst hσ
          by_cases h1 : y = minZ ((goodH cells l size).map (·.2))
          · simp [cF, ev_c, ev_v, ev_g, ev_bin, ev_neg, ev_not, ev_cmp, ev_chain, ev_and, ev_or, ev_ife, ev_nil, ev_cons, ev_tup, ev_lst, ev_new, ev_idx, ev_slc, ev_rev, ev_call, ev_bf, ev_mt, ev_it, ev_rng, ev_enum, ev_zip, ex_skip, ex_seq, ex_asg, ex_setix, ex_aug, ex_augix, ex_ife, ex_ret, ex_retN, ex_expr, ex_brk, ex_cont, R.to, R.bind, R.ofOpt, RS.andThen, nxO, tupD, boolD, newD, cmpD, cmpop, binop, addD, mulD, catD, negD, idxD, idxO, iop, partR, partD, cutD, revD, recvD, mth, objL, one1, zero1, appendD, extendD, popD, setD, bfn, lenD, sumD, allD, anyD, minD, maxD, absD, sortedD, tupleD, listD, isinstD, isTy, kindD, tyIn, Ctx.may, Ctx.lock, Tg.asg, asgs, items, itemsL, lockOf, walkOf, walkD, walkR, itemsT, isNil, lstD, oneD, D.pure, D.pure.pureL, eqM_str, eqM_int, eqM_non, eqM_intnon, Mini.get?, place?, intsOf, minL, maxL, Mini.wipe, List.getElem?_cons_zero, List.getElem?_cons_succ, Option.join, List.set_cons_zero, List.set_cons_succ, List.map_cons, List.map_nil, Option.map_some, Option.map_none, Option.bind_some, Option.bind_none, calmR, pairD, locks, fMin, h1]
          · simp [cF, ev_c, ev_v, ev_g, ev_bin, ev_neg, ev_not, ev_cmp, ev_chain, ev_and, ev_or, ev_ife, ev_nil, ev_cons, ev_tup, ev_lst, ev_new, ev_idx, ev_slc, ev_rev, ev_call, ev_bf, ev_mt, ev_it, ev_rng, ev_enum, ev_zip, ex_skip, ex_seq, ex_asg, ex_setix, ex_aug, ex_augix, ex_ife, ex_ret, ex_retN, ex_expr, ex_brk, ex_cont, R.to, R.bind, R.ofOpt, RS.andThen, nxO, tupD, boolD, newD, cmpD, cmpop, binop, addD, mulD, catD, negD, idxD, idxO, iop, partR, partD, cutD, revD, recvD, mth, objL, one1, zero1, appendD, extendD, popD, setD, bfn, lenD, sumD, allD, anyD, minD, maxD, absD, sortedD, tupleD, listD, isinstD, isTy, kindD, tyIn, Ctx.may, Ctx.lock, Tg.asg, asgs, items, itemsL, lockOf, walkOf, walkD, walkR, itemsT, isNil, lstD, oneD, D.pure, D.pure.pureL, eqM_str, eqM_int, eqM_non, eqM_intnon, Mini.get?, place?, intsOf, minL, maxL, Mini.wipe, List.getElem?_cons_zero, List.getElem?_cons_succ, Option.join, List.set_cons_zero, List.set_cons_succ, List.map_cons, List.map_nil, Option.map_some, Option.map_none, Option.bind_some, Option.bind_none, calmR, pairD, locks, fMin, h1]) (by omega)
      rw [fm_filter] at z
      exact z
    | worst =>
      refine sif_f (by rw [tr]; rfl) (sif_t (by rw [tr]; rfl) (ret_of (idx0_of (l := (goodH cells l size).filter fun h => decide (h.2 = maxZ ((goodH cells l size).map (·.2)))) ?_ hp)))
      have z := ev_comp (c := c) (elt := .v 7) (cond := .cmp .eq (.idx (.v 7) (.c (.int 1))) (.bf .max (.cons (.comp (.idx (.v 9) (.c (.int 1))) .nil (.it (.v 6)) (.one 9) [9]) .nil))) (it := .it (.v 6)) (t := .one 7) (own := [7]) (σ := σ) (M := M) (M' := M) (ys := goodH cells l size) (ls := []) (enc := pairD)
        (g := fun h => if decide (h.2 = maxZ ((goodH cells l size).map (·.2))) = true then some (pairD h) else none) (it6 c) (fun b hb => by
          obtain ⟨a, y⟩ := b
          subst hσ
          by_cases h1 : y = maxZ ((goodH cells l size).map (·.2))
          · simp [cF, ev_c, ev_v, ev_g, ev_bin, ev_neg, ev_not, ev_cmp, ev_chain, ev_and, ev_or, ev_ife, ev_nil, ev_cons, ev_tup, ev_lst, ev_new, ev_idx, ev_slc, ev_rev, ev_call, ev_bf, ev_mt, ev_it, ev_rng, ev_enum, ev_zip, ex_skip, ex_seq, ex_asg, ex_setix, ex_aug, ex_augix, ex_ife, ex_ret, ex_retN, ex_expr, ex_brk, ex_cont, R.to, R.bind, R.ofOpt, RS.andThen, nxO, tupD, boolD, newD, cmpD, cmpop, binop, addD, mulD, catD, negD, idxD, idxO, iop, partR, partD, cutD, revD, recvD, mth, objL, one1, zero1, appendD, extendD, popD, setD, bfn, lenD, sumD, allD, anyD, minD, maxD, absD, sortedD, tupleD, listD, isinstD, isTy, kindD, tyIn, Ctx.may, Ctx.lock, Tg.asg, asgs, items, itemsL, lockOf, walkOf, walkD, walkR, itemsT, isNil, lstD, oneD, D.pure, D.pure.pureL, eqM_str, eqM_int, eqM_non, eqM_intnon, Mini.get?, place?, intsOf, minL, maxL, Mini.wipe, List.getElem?_cons_zero, List.getElem?_cons_succ, Option.join, List.set_cons_zero, List.set_cons_succ, List.map_cons, List.map_nil, Option.map_some, Option.map_none, Option.bind_some, Option.bind_none, calmR, pairD, locks, fMax, h1]
          · simp [cF, ev_c, ev_v, ev_g, ev_bin, ev_neg, ev_not, ev_cmp, ev_chain, ev_and, ev_or, ev_ife, ev_nil, ev_cons, ev_tup, ev_lst, ev_new, ev_idx, ev_slc, ev_rev, ev_call, ev_bf, ev_mt, ev_it, ev_rng, ev_enum, ev_zip, ex_skip, ex_seq, ex_asg, ex_setix, ex_aug, ex_augix, ex_ife, ex_ret, ex_retN, ex_expr, ex_brk, ex_cont, R.to, R.bind, R.ofOpt, RS.andThen, nxO, tupD, boolD, newD, cmpD, cmpop, binop, addD, mulD, catD, negD, idxD, idxO, iop, partR, partD, cutD, revD, recvD, mth, objL, one1, zero1, appendD, extendD, popD, setD, bfn, lenD, sumD, allD, anyD, minD, maxD, absD, sortedD, tupleD, listD, isinstD, isTy, kindD, tyIn, Ctx.may, Ctx.lock, Tg.asg, asgs, items, itemsL, lockOf, walkOf, walkD, walkR, itemsT, isNil, lstD, oneD, D.pure, D.pure.pureL, eqM_str, eqM_int, eqM_non, eqM_intnon, Mini.get?, place?, intsOf, minL, maxL, Mini.wipe, List.getElem?_cons_zero, List.getElem?_cons_succ, Option.join, List.set_cons_zero, List.set_cons_succ, List.map_cons, List.map_nil, Option.map_some, Option.map_none, Option.bind_some, Option.bind_none, calmR, pairD, locks, fMax, h1]) (by omega)
      rw [fm_filter] at z
      exact z
    | newest =>
      obtain ⟨m, rfl, hm⟩ := hmk rfl
      refine sif_f (by rw [tr]; rfl) (sif_f (by rw [tr]; rfl) (sif_t (by rw [tr]; rfl) (ret_of (idx0_of (l := m.flatMap fun s => (goodH cells l size).filter fun h => decide (h.1 = s)) ?_ hp))))
      have z := ev_comp2 (c := c) (elt := .v 7) (cond := .cmp .eq (.idx (.v 7) (.c (.int 0))) (.v 8)) (it2 := .it (.v 6)) (t2 := .one 7) (it := .it (.v 5)) (t := .one 8) (own := [8, 7]) (σ := σ) (M := M) (ys := m) (ls := []) (enc := D.int) (enc2 := pairD) (zs := fun _ => goodH cells l size) (ls2 := fun _ => [])
        (σs := fun s => [some (Rl.d .newest), some (.int cells), some (stD l (.lst m)), some (.int size), some (lay l), some (Mk.d (.lst m)), some (lsP (goodH cells l size)), none, some (.int s), none])
        (g := fun s h => if decide (h.1 = s) = true then some (pairD h) else none) (by subst hσ; rfl) (fun s hs => by subst hσ; rfl) (fun s hs => rfl) (fun s hs b hb => by
          obtain ⟨a, y⟩ := b
          by_cases h1 : a = s
          · simp [cF, ev_c, ev_v, ev_g, ev_bin, ev_neg, ev_not, ev_cmp, ev_chain, ev_and, ev_or, ev_ife, ev_nil, ev_cons, ev_tup, ev_lst, ev_new, ev_idx, ev_slc, ev_rev, ev_call, ev_bf, ev_mt, ev_it, ev_rng, ev_enum, ev_zip, ex_skip, ex_seq, ex_asg, ex_setix, ex_aug, ex_augix, ex_ife, ex_ret, ex_retN, ex_expr, ex_brk, ex_cont, R.to, R.bind, R.ofOpt, RS.andThen, nxO, tupD, boolD, newD, cmpD, cmpop, binop, addD, mulD, catD, negD, idxD, idxO, iop, partR, partD, cutD, revD, recvD, mth, objL, one1, zero1, appendD, extendD, popD, setD, bfn, lenD, sumD, allD, anyD, minD, maxD, absD, sortedD, tupleD, listD, isinstD, isTy, kindD, tyIn, Ctx.may, Ctx.lock, Tg.asg, asgs, items, itemsL, lockOf, walkOf, walkD, walkR, itemsT, isNil, lstD, oneD, D.pure, D.pure.pureL, eqM_str, eqM_int, eqM_non, eqM_intnon, Mini.get?, place?, intsOf, minL, maxL, Mini.wipe, List.getElem?_cons_zero, List.getElem?_cons_succ, Option.join, List.set_cons_zero, List.set_cons_succ, List.map_cons, List.map_nil, Option.map_some, Option.map_none, Option.bind_some, Option.bind_none, calmR, pairD, locks, tgSlots, h1]
          · simp [cF, ev_c, ev_v, ev_g, ev_bin, ev_neg, ev_not, ev_cmp, ev_chain, ev_and, ev_or, ev_ife, ev_nil, ev_cons, ev_tup, ev_lst, ev_new, ev_idx, ev_slc, ev_rev, ev_call, ev_bf, ev_mt, ev_it, ev_rng, ev_enum, ev_zip, ex_skip, ex_seq, ex_asg, ex_setix, ex_aug, ex_augix, ex_ife, ex_ret, ex_retN, ex_expr, ex_brk, ex_cont, R.to, R.bind, R.ofOpt, RS.andThen, nxO, tupD, boolD, newD, cmpD, cmpop, binop, addD, mulD, catD, negD, idxD, idxO, iop, partR, partD, cutD, revD, recvD, mth, objL, one1, zero1, appendD, extendD, popD, setD, bfn, lenD, sumD, allD, anyD, minD, maxD, absD, sortedD, tupleD, listD, isinstD, isTy, kindD, tyIn, Ctx.may, Ctx.lock, Tg.asg, asgs, items, itemsL, lockOf, walkOf, walkD, walkR, itemsT, isNil, lstD, oneD, D.pure, D.pure.pureL, eqM_str, eqM_int, eqM_non, eqM_intnon, Mini.get?, place?, intsOf, minL, maxL, Mini.wipe, List.getElem?_cons_zero, List.getElem?_cons_succ, Option.join, List.set_cons_zero, List.set_cons_succ, List.map_cons, List.map_nil, Option.map_some, Option.map_none, Option.bind_some, Option.bind_none, calmR, pairD, locks, tgSlots, h1]) (by
          have z := fm_len m (fun s => (goodH cells l size).filterMap fun h => if decide (h.1 = s) = true then some (pairD h) else none) 200 (fun s _ => Nat.le_trans (List.length_filterMap_le _ _) hgl)
          have : m.length * 200 ≤ 12000 := by omega
          omega)
      rw [z]
      congr 2
      rw [List.map_flatMap]
      congr 1
      funext s
      exact fm_filter _ _ _
    | ends b =>
      refine sif_f (by rw [tr]; rfl) (sif_f (by rw [tr]; rfl) (sif_f (by rw [tr]; rfl) (ret_of ?_)))
      have hcmp : ev c (.cmp .gt (.v 3) (.idx (.v 0) (.c (.int 1)))) σ M = .ok (.bl (decide (size > b))) M := by subst hσ; rfl
      rw [ev_ife, ev_and, tr]
      show ((boolD (.bl (decide (sEnds = sEnds))) (ev c (.cmp .gt (.v 3) (.idx (.v 0) (.c (.int 1)))) σ M) (.ok (.bl false) M)).bind fun x M => boolD x (ev c (.idx (.v 6) (.neg (.c (.int 1)))) σ M) (ev c (.idx (.v 6) (.c (.int 0))) σ M)) = _
      rw [hcmp]
      have hp : (if size > b then (goodH cells l size).getLast? else (goodH cells l size).head?) = some q := hp
      by_cases h1 : size > b
      · rw [if_pos h1] at hp
        simp only [boolD, decide_true, R.bind, decide_eq_true h1]
        exact idxL_of v6 hp
      · rw [if_neg h1] at hp
        simp only [boolD, decide_true, R.bind, decide_eq_false h1]
        exact idx0_of v6 hp
    | next => exact absurd rfl hr.2.2.2
    | buddy => exact absurd rfl hr.1
    | classes rs => exact absurd rfl (hr.2.1 rs)
    | slabs u => exact absurd rfl (hr.2.2.1 u)
end
end Con
set_option autoImplicit false
set_option maxRecDepth 100000
set_option maxHeartbeats 4000000
namespace Con
open Mini Tx
def Rl.hole : Rl → Bool
  | .buddy => false
  | .classes _ => false
  | .slabs _ => false
  | _ => true
def Rl.fits (r : Rl) (mk : Mk) : Prop := match r with
  | .newest => ∃ m, mk = .lst m ∧ m.length ≤ 60
  | _ => ∃ i, mk = .num i
def outP (r : Rl) (size : Int) (h : Int × Int) : Int := match r with
  | .ends b => if size > b then h.1 + h.2 - size else h.1
  | _ => h.1
def placeH (r : Rl) (cells : Int) (l : List (Int × Int)) (mk : Mk) (size : Int) : Option (Option Int) := match r with
  | .next => some (match fOpen size mk.int (holesP cells l) with | none => fOpen size 0 (holesP cells l) | some a => some a)
  | r => if goodH cells l size = [] then some none else (pickP r (goodH cells l size) mk.list size).map fun h => some (outP r size h)
structure HasPlace (P : MProg) : Prop where
  h7 : P.fns.lookup 7 = some d_holes_of
  h60 : P.fns.lookup 60 = some d_first_open
  h65 : P.fns.lookup 65 = some d_chosen_hole
  h70 : P.fns.lookup 70 = some d_place
section
variable {P : MProg} {W k : Nat} {fl : Nat} {lk : List Nat} {M : MH}
theorem ev_is {c : Ctx} {σ : Sl} {M : MH} (i : Nat) (o : Option Int) (h : σ[i]? = some (some (oInt o))) : ev c (.cmp .is (.v i) (.c .non)) σ M = .ok (.bl o.isNone) M := by
  rw [ev_cmp, ev_v, h]
  cases o <;> rfl
theorem c_place (H : HasPlace P) (hk : ∀ n ∈ lk, n < M.length) (r : Rl) (hr : r.hole = true) (cells size : Int) (l : List (Int × Int)) (mk : Mk) (hl : l.length ≤ 100) (hf : r.fits mk) (o : Option Int) (ho : placeH r cells l mk size = some o) :
    callN P W (k + 3) false 70 [r.d, .int cells, stD l mk, .int size] fl lk M = .ok (oInt o) M := by
  refine call_rt (M' := M) (v := oInt o) H.h70 rfl ?_ (frz_oInt _ _ _) (List.take_length)
  generalize hc : (⟨callN P W (k + 2), fun i => P.gls.lookup i, W, M.length, lk⟩ : Ctx) = c
  have h60 : ∀ least, c.call false 60 [.int cells, lay l, .int size, .int least] c.fl c.lk M = .ok (oInt (fOpen size least (holesP cells l))) M := fun least => by
    subst hc; exact c_first_open H.h7 H.h60 hk cells size least l (by omega)
  refine seq_nx (σ' := [some r.d, some (.int cells), some (stD l mk), some (.int size), some (lay l), some mk.d, none, none, none, none]) (M' := M) (by simp [ev_c, ev_v, ev_g, ev_bin, ev_neg, ev_not, ev_cmp, ev_chain, ev_and, ev_or, ev_ife, ev_nil, ev_cons, ev_tup, ev_lst, ev_new, ev_idx, ev_slc, ev_rev, ev_call, ev_bf, ev_mt, ev_it, ev_rng, ev_enum, ev_zip, ex_skip, ex_seq, ex_asg, ex_setix, ex_aug, ex_augix, ex_ife, ex_ret, ex_retN, ex_expr, ex_brk, ex_cont, R.to, R.bind, R.ofOpt, RS.andThen, nxO, tupD, boolD, newD, cmpD, cmpop, binop, addD, mulD, catD, negD, idxD, idxO, iop, partR, partD, cutD, revD, recvD, mth, objL, one1, zero1, appendD, extendD, popD, setD, bfn, lenD, sumD, allD, anyD, minD, maxD, absD, sortedD, tupleD, listD, isinstD, isTy, kindD, tyIn, Ctx.may, Ctx.lock, Tg.asg, asgs, items, itemsL, lockOf, walkOf, walkD, walkR, itemsT, isNil, lstD, oneD, D.pure, D.pure.pureL, eqM_str, eqM_int, eqM_non, eqM_intnon, Mini.get?, place?, intsOf, minL, maxL, Mini.wipe, List.getElem?_cons_zero, List.getElem?_cons_succ, Option.join, List.set_cons_zero, List.set_cons_succ, List.map_cons, List.map_nil, Option.map_some, Option.map_none, Option.bind_some, Option.bind_none, stD]) ?_
  have tr : ∀ s x6 x7 x8, ev c (.cmp .eq (.idx (.v 0) (.c (.int 0))) (.c (.str s))) [some r.d, some (.int cells), some (stD l mk), some (.int size), some (lay l), some mk.d, x6, x7, x8, none] M = .ok (.bl (decide (r.name = s))) M := fun s x6 x7 x8 => by
    cases r <;> rfl
  by_cases hn : r = .next
  · subst hn
    obtain ⟨i, rfl⟩ := hf
    have ho : some (match fOpen size i (holesP cells l) with | none => fOpen size 0 (holesP cells l) | some a => some a) = some o := ho
    refine sif_t (by rw [tr]; rfl) (seq_nx (σ' := [some (Rl.d .next), some (.int cells), some (stD l (.num i)), some (.int size), some (lay l), some (.int i), some (oInt (fOpen size i (holesP cells l))), none, none, none]) (M' := M) (by simp [ev_c, ev_v, ev_g, ev_bin, ev_neg, ev_not, ev_cmp, ev_chain, ev_and, ev_or, ev_ife, ev_nil, ev_cons, ev_tup, ev_lst, ev_new, ev_idx, ev_slc, ev_rev, ev_call, ev_bf, ev_mt, ev_it, ev_rng, ev_enum, ev_zip, ex_skip, ex_seq, ex_asg, ex_setix, ex_aug, ex_augix, ex_ife, ex_ret, ex_retN, ex_expr, ex_brk, ex_cont, R.to, R.bind, R.ofOpt, RS.andThen, nxO, tupD, boolD, newD, cmpD, cmpop, binop, addD, mulD, catD, negD, idxD, idxO, iop, partR, partD, cutD, revD, recvD, mth, objL, one1, zero1, appendD, extendD, popD, setD, bfn, lenD, sumD, allD, anyD, minD, maxD, absD, sortedD, tupleD, listD, isinstD, isTy, kindD, tyIn, Ctx.may, Ctx.lock, Tg.asg, asgs, items, itemsL, lockOf, walkOf, walkD, walkR, itemsT, isNil, lstD, oneD, D.pure, D.pure.pureL, eqM_str, eqM_int, eqM_non, eqM_intnon, Mini.get?, place?, intsOf, minL, maxL, Mini.wipe, List.getElem?_cons_zero, List.getElem?_cons_succ, Option.join, List.set_cons_zero, List.set_cons_succ, List.map_cons, List.map_nil, Option.map_some, Option.map_none, Option.bind_some, Option.bind_none, Mk.d, h60]) (ret_of ?_))
    rw [ev_ife, ev_is 6 _ rfl]
    cases h1 : fOpen size i (holesP cells l) with
    | none =>
      rw [h1] at ho
      cases ho
      simp [ev_c, ev_v, ev_g, ev_bin, ev_neg, ev_not, ev_cmp, ev_chain, ev_and, ev_or, ev_ife, ev_nil, ev_cons, ev_tup, ev_lst, ev_new, ev_idx, ev_slc, ev_rev, ev_call, ev_bf, ev_mt, ev_it, ev_rng, ev_enum, ev_zip, ex_skip, ex_seq, ex_asg, ex_setix, ex_aug, ex_augix, ex_ife, ex_ret, ex_retN, ex_expr, ex_brk, ex_cont, R.to, R.bind, R.ofOpt, RS.andThen, nxO, tupD, boolD, newD, cmpD, cmpop, binop, addD, mulD, catD, negD, idxD, idxO, iop, partR, partD, cutD, revD, recvD, mth, objL, one1, zero1, appendD, extendD, popD, setD, bfn, lenD, sumD, allD, anyD, minD, maxD, absD, sortedD, tupleD, listD, isinstD, isTy, kindD, tyIn, Ctx.may, Ctx.lock, Tg.asg, asgs, items, itemsL, lockOf, walkOf, walkD, walkR, itemsT, isNil, lstD, oneD, D.pure, D.pure.pureL, eqM_str, eqM_int, eqM_non, eqM_intnon, Mini.get?, place?, intsOf, minL, maxL, Mini.wipe, List.getElem?_cons_zero, List.getElem?_cons_succ, Option.join, List.set_cons_zero, List.set_cons_succ, List.map_cons, List.map_nil, Option.map_some, Option.map_none, Option.bind_some, Option.bind_none, h60]
    | some a =>
      rw [h1] at ho
      cases ho
      simp [ev_c, ev_v, ev_g, ev_bin, ev_neg, ev_not, ev_cmp, ev_chain, ev_and, ev_or, ev_ife, ev_nil, ev_cons, ev_tup, ev_lst, ev_new, ev_idx, ev_slc, ev_rev, ev_call, ev_bf, ev_mt, ev_it, ev_rng, ev_enum, ev_zip, ex_skip, ex_seq, ex_asg, ex_setix, ex_aug, ex_augix, ex_ife, ex_ret, ex_retN, ex_expr, ex_brk, ex_cont, R.to, R.bind, R.ofOpt, RS.andThen, nxO, tupD, boolD, newD, cmpD, cmpop, binop, addD, mulD, catD, negD, idxD, idxO, iop, partR, partD, cutD, revD, recvD, mth, objL, one1, zero1, appendD, extendD, popD, setD, bfn, lenD, sumD, allD, anyD, minD, maxD, absD, sortedD, tupleD, listD, isinstD, isTy, kindD, tyIn, Ctx.may, Ctx.lock, Tg.asg, asgs, items, itemsL, lockOf, walkOf, walkD, walkR, itemsT, isNil, lstD, oneD, D.pure, D.pure.pureL, eqM_str, eqM_int, eqM_non, eqM_intnon, Mini.get?, place?, intsOf, minL, maxL, Mini.wipe, List.getElem?_cons_zero, List.getElem?_cons_succ, Option.join, List.set_cons_zero, List.set_cons_succ, List.map_cons, List.map_nil, Option.map_some, Option.map_none, Option.bind_some, Option.bind_none, oInt]
  · have hname : r.name ≠ sNext ∧ r.name ≠ sBuddy ∧ r.name ≠ sClasses ∧ r.name ≠ sSlabs := by
      cases r <;> first | exact absurd rfl hn | (cases hr; done) | exact ⟨(by decide), (by decide), (by decide), (by decide)⟩ | exact ⟨(by decide : sEnds ≠ sNext), (by decide : sEnds ≠ sBuddy), (by decide : sEnds ≠ sClasses), (by decide : sEnds ≠ sSlabs)⟩
    refine sif_f ((tr sNext _ _ _).trans (by rw [decide_eq_false hname.1])) (sif_f ((tr sBuddy _ _ _).trans (by rw [decide_eq_false hname.2.1])) (sif_f ((tr sClasses _ _ _).trans (by rw [decide_eq_false hname.2.2.1])) (sif_f ((tr sSlabs _ _ _).trans (by rw [decide_eq_false hname.2.2.2])) ?_)))
    have ho2 : (if goodH cells l size = [] then some none else (pickP r (goodH cells l size) mk.list size).map fun h => some (outP r size h)) = some o := by
      cases r <;> first | exact absurd rfl hn | exact ho
    have hc65 : ∀ p, (if goodH cells l size = [] then p = none else ∃ q, p = some q ∧ pickP r (goodH cells l size) mk.list size = some q) → c.call false 65 [r.d, .int cells, stD l mk, .int size] c.fl c.lk M = .ok (oPair p) M := fun p hp => by
      subst hc
      refine c_chosen_hole H.h7 H.h65 hk r ⟨fun z => ?_, fun rs z => ?_, fun u z => ?_, hn⟩ cells size l mk (by omega) (fun z => ?_) hl p hp
      · subst z; cases hr
      · subst z; cases hr
      · subst z; cases hr
      · subst z; exact hf
    by_cases hg : goodH cells l size = []
    · rw [if_pos hg] at ho2
      cases ho2
      refine seq_nx (σ' := [some r.d, some (.int cells), some (stD l mk), some (.int size), some (lay l), some mk.d, none, none, some .non, none]) (M' := M) (by simp [ev_c, ev_v, ev_g, ev_bin, ev_neg, ev_not, ev_cmp, ev_chain, ev_and, ev_or, ev_ife, ev_nil, ev_cons, ev_tup, ev_lst, ev_new, ev_idx, ev_slc, ev_rev, ev_call, ev_bf, ev_mt, ev_it, ev_rng, ev_enum, ev_zip, ex_skip, ex_seq, ex_asg, ex_setix, ex_aug, ex_augix, ex_ife, ex_ret, ex_retN, ex_expr, ex_brk, ex_cont, R.to, R.bind, R.ofOpt, RS.andThen, nxO, tupD, boolD, newD, cmpD, cmpop, binop, addD, mulD, catD, negD, idxD, idxO, iop, partR, partD, cutD, revD, recvD, mth, objL, one1, zero1, appendD, extendD, popD, setD, bfn, lenD, sumD, allD, anyD, minD, maxD, absD, sortedD, tupleD, listD, isinstD, isTy, kindD, tyIn, Ctx.may, Ctx.lock, Tg.asg, asgs, items, itemsL, lockOf, walkOf, walkD, walkR, itemsT, isNil, lstD, oneD, D.pure, D.pure.pureL, eqM_str, eqM_int, eqM_non, eqM_intnon, Mini.get?, place?, intsOf, minL, maxL, Mini.wipe, List.getElem?_cons_zero, List.getElem?_cons_succ, Option.join, List.set_cons_zero, List.set_cons_succ, List.map_cons, List.map_nil, Option.map_some, Option.map_none, Option.bind_some, Option.bind_none, hc65 none (by rw [if_pos hg]), oPair]) ?_
      exact sif_t (by rw [ev_is 8 none rfl]; rfl) (ret_of rfl)
    · rw [if_neg hg] at ho2
      cases hpk : pickP r (goodH cells l size) mk.list size with
      | none => rw [hpk] at ho2; cases ho2
      | some h =>
        rw [hpk] at ho2
        cases ho2
        obtain ⟨s, m⟩ := h
        refine seq_nx (σ' := [some r.d, some (.int cells), some (stD l mk), some (.int size), some (lay l), some mk.d, none, none, some (pairD (s, m)), none]) (M' := M) (by simp [ev_c, ev_v, ev_g, ev_bin, ev_neg, ev_not, ev_cmp, ev_chain, ev_and, ev_or, ev_ife, ev_nil, ev_cons, ev_tup, ev_lst, ev_new, ev_idx, ev_slc, ev_rev, ev_call, ev_bf, ev_mt, ev_it, ev_rng, ev_enum, ev_zip, ex_skip, ex_seq, ex_asg, ex_setix, ex_aug, ex_augix, ex_ife, ex_ret, ex_retN, ex_expr, ex_brk, ex_cont, R.to, R.bind, R.ofOpt, RS.andThen, nxO, tupD, boolD, newD, cmpD, cmpop, binop, addD, mulD, catD, negD, idxD, idxO, iop, partR, partD, cutD, revD, recvD, mth, objL, one1, zero1, appendD, extendD, popD, setD, bfn, lenD, sumD, allD, anyD, minD, maxD, absD, sortedD, tupleD, listD, isinstD, isTy, kindD, tyIn, Ctx.may, Ctx.lock, Tg.asg, asgs, items, itemsL, lockOf, walkOf, walkD, walkR, itemsT, isNil, lstD, oneD, D.pure, D.pure.pureL, eqM_str, eqM_int, eqM_non, eqM_intnon, Mini.get?, place?, intsOf, minL, maxL, Mini.wipe, List.getElem?_cons_zero, List.getElem?_cons_succ, Option.join, List.set_cons_zero, List.set_cons_succ, List.map_cons, List.map_nil, Option.map_some, Option.map_none, Option.bind_some, Option.bind_none, hc65 (some (s, m)) (by rw [if_neg hg]; exact ⟨_, rfl, hpk⟩), oPair]) ?_
        refine sif_f (M' := M) (by simp [ev_c, ev_v, ev_g, ev_bin, ev_neg, ev_not, ev_cmp, ev_chain, ev_and, ev_or, ev_ife, ev_nil, ev_cons, ev_tup, ev_lst, ev_new, ev_idx, ev_slc, ev_rev, ev_call, ev_bf, ev_mt, ev_it, ev_rng, ev_enum, ev_zip, ex_skip, ex_seq, ex_asg, ex_setix, ex_aug, ex_augix, ex_ife, ex_ret, ex_retN, ex_expr, ex_brk, ex_cont, R.to, R.bind, R.ofOpt, RS.andThen, nxO, tupD, boolD, newD, cmpD, cmpop, binop, addD, mulD, catD, negD, idxD, idxO, iop, partR, partD, cutD, revD, recvD, mth, objL, one1, zero1, appendD, extendD, popD, setD, bfn, lenD, sumD, allD, anyD, minD, maxD, absD, sortedD, tupleD, listD, isinstD, isTy, kindD, tyIn, Ctx.may, Ctx.lock, Tg.asg, asgs, items, itemsL, lockOf, walkOf, walkD, walkR, itemsT, isNil, lstD, oneD, D.pure, D.pure.pureL, eqM_str, eqM_int, eqM_non, eqM_intnon, Mini.get?, place?, intsOf, minL, maxL, Mini.wipe, List.getElem?_cons_zero, List.getElem?_cons_succ, Option.join, List.set_cons_zero, List.set_cons_succ, List.map_cons, List.map_nil, Option.map_some, Option.map_none, Option.bind_some, Option.bind_none, pairD]) (ret_of ?_)
        rw [ev_ife, ev_and, tr]
        cases r with
        | ends b =>
          by_cases h1 : size > b
          · simp [ev_c, ev_v, ev_g, ev_bin, ev_neg, ev_not, ev_cmp, ev_chain, ev_and, ev_or, ev_ife, ev_nil, ev_cons, ev_tup, ev_lst, ev_new, ev_idx, ev_slc, ev_rev, ev_call, ev_bf, ev_mt, ev_it, ev_rng, ev_enum, ev_zip, ex_skip, ex_seq, ex_asg, ex_setix, ex_aug, ex_augix, ex_ife, ex_ret, ex_retN, ex_expr, ex_brk, ex_cont, R.to, R.bind, R.ofOpt, RS.andThen, nxO, tupD, boolD, newD, cmpD, cmpop, binop, addD, mulD, catD, negD, idxD, idxO, iop, partR, partD, cutD, revD, recvD, mth, objL, one1, zero1, appendD, extendD, popD, setD, bfn, lenD, sumD, allD, anyD, minD, maxD, absD, sortedD, tupleD, listD, isinstD, isTy, kindD, tyIn, Ctx.may, Ctx.lock, Tg.asg, asgs, items, itemsL, lockOf, walkOf, walkD, walkR, itemsT, isNil, lstD, oneD, D.pure, D.pure.pureL, eqM_str, eqM_int, eqM_non, eqM_intnon, Mini.get?, place?, intsOf, minL, maxL, Mini.wipe, List.getElem?_cons_zero, List.getElem?_cons_succ, Option.join, List.set_cons_zero, List.set_cons_succ, List.map_cons, List.map_nil, Option.map_some, Option.map_none, Option.bind_some, Option.bind_none, Rl.name, Rl.d, sEnds, pairD, outP, h1, oInt]
          · simp [ev_c, ev_v, ev_g, ev_bin, ev_neg, ev_not, ev_cmp, ev_chain, ev_and, ev_or, ev_ife, ev_nil, ev_cons, ev_tup, ev_lst, ev_new, ev_idx, ev_slc, ev_rev, ev_call, ev_bf, ev_mt, ev_it, ev_rng, ev_enum, ev_zip, ex_skip, ex_seq, ex_asg, ex_setix, ex_aug, ex_augix, ex_ife, ex_ret, ex_retN, ex_expr, ex_brk, ex_cont, R.to, R.bind, R.ofOpt, RS.andThen, nxO, tupD, boolD, newD, cmpD, cmpop, binop, addD, mulD, catD, negD, idxD, idxO, iop, partR, partD, cutD, revD, recvD, mth, objL, one1, zero1, appendD, extendD, popD, setD, bfn, lenD, sumD, allD, anyD, minD, maxD, absD, sortedD, tupleD, listD, isinstD, isTy, kindD, tyIn, Ctx.may, Ctx.lock, Tg.asg, asgs, items, itemsL, lockOf, walkOf, walkD, walkR, itemsT, isNil, lstD, oneD, D.pure, D.pure.pureL, eqM_str, eqM_int, eqM_non, eqM_intnon, Mini.get?, place?, intsOf, minL, maxL, Mini.wipe, List.getElem?_cons_zero, List.getElem?_cons_succ, Option.join, List.set_cons_zero, List.set_cons_succ, List.map_cons, List.map_nil, Option.map_some, Option.map_none, Option.bind_some, Option.bind_none, Rl.name, Rl.d, sEnds, pairD, outP, h1, oInt]
        | next => exact absurd rfl hn
        | buddy => cases hr
        | classes rs => cases hr
        | slabs u => cases hr
        | _ => simp [ev_c, ev_v, ev_g, ev_bin, ev_neg, ev_not, ev_cmp, ev_chain, ev_and, ev_or, ev_ife, ev_nil, ev_cons, ev_tup, ev_lst, ev_new, ev_idx, ev_slc, ev_rev, ev_call, ev_bf, ev_mt, ev_it, ev_rng, ev_enum, ev_zip, ex_skip, ex_seq, ex_asg, ex_setix, ex_aug, ex_augix, ex_ife, ex_ret, ex_retN, ex_expr, ex_brk, ex_cont, R.to, R.bind, R.ofOpt, RS.andThen, nxO, tupD, boolD, newD, cmpD, cmpop, binop, addD, mulD, catD, negD, idxD, idxO, iop, partR, partD, cutD, revD, recvD, mth, objL, one1, zero1, appendD, extendD, popD, setD, bfn, lenD, sumD, allD, anyD, minD, maxD, absD, sortedD, tupleD, listD, isinstD, isTy, kindD, tyIn, Ctx.may, Ctx.lock, Tg.asg, asgs, items, itemsL, lockOf, walkOf, walkD, walkR, itemsT, isNil, lstD, oneD, D.pure, D.pure.pureL, eqM_str, eqM_int, eqM_non, eqM_intnon, Mini.get?, place?, intsOf, minL, maxL, Mini.wipe, List.getElem?_cons_zero, List.getElem?_cons_succ, Option.join, List.set_cons_zero, List.set_cons_succ, List.map_cons, List.map_nil, Option.map_some, Option.map_none, Option.bind_some, Option.bind_none, Rl.name, sFirst, sBest, sWorst, sNewest, pairD, outP, oInt]
end
end Con
set_option autoImplicit false
set_option maxRecDepth 100000
set_option maxHeartbeats 4000000
namespace Con
open Mini Tx
theorem any_eqv (a : Int) : ∀ l : List Int, ((l.map D.int).any fun b => D.eqv b (.int a)) = decide (a ∈ l)
  | [] => rfl
  | b :: l => by
    show (decide (b = a) || (l.map D.int).any fun b => D.eqv b (.int a)) = _
    rw [any_eqv a l]
    by_cases h1 : b = a
    · subst h1; simp
    · have h2 : a ≠ b := fun z => h1 z.symm
      simp [h1, h2]
theorem memM_ints (M : MH) (a : Int) (l : List Int) : memM M (.int a) (lsI l) = some (decide (a ∈ l)) := by
  have e : res 20 M (lsI l) = some (lsI l) := by
    show ((l.map D.int).mapM (res 19 M)).map D.lst = _
    rw [res_ints 19 M l]; rfl
  show (match res 20 M (.int a), res 20 M (lsI l) with
    | some a, some (.lst bs) => if (a.isDat && D.isDat.datL bs) = true then some (bs.any fun b => D.eqv b a) else none
    | some a, some (.tup bs) => if (a.isDat && D.isDat.datL bs) = true then some (bs.any fun b => D.eqv b a) else none
    | _, _ => none) = _
  rw [e]
  show (if (true && D.isDat.datL (l.map D.int)) = true then some ((l.map D.int).any fun b => D.eqv b (.int a)) else none) = _
  rw [dat_ints, any_eqv]
  rfl
theorem frz_mk (n0 k : Nat) (M : MH) : ∀ mk : Mk, frz n0 M (k + 1) mk.d = some mk.d
  | .num _ => rfl
  | .lst l => by
    show ((l.map D.int).mapM (frz n0 M k)).map D.tup = _
    rw [frz_ints]
    rfl
theorem frz_st (n0 : Nat) (M : MH) (l : List (Int × Int)) (mk : Mk) : frz n0 M 20 (stD l mk) = some (stD l mk) := by
  show ([lay l, mk.d].mapM (frz n0 M 19)).map D.tup = _
  have e1 : frz n0 M 19 (lay l) = some (lay l) := by
    show ((l.map pairD).mapM (frz n0 M 18)).map D.tup = _
    rw [frz_pairs n0 16 M l]; rfl
  simp [List.mapM_cons, e1, frz_mk n0 18 M mk, stD]
theorem insP_len (x : Int × Int) : ∀ l : List (Int × Int), (insP x l).length = l.length + 1
  | [] => rfl
  | y :: ys => by
    unfold insP
    split
    · simp [insP_len x ys]
    · rfl
theorem sortP_len : ∀ l : List (Int × Int), (sortP l).length = l.length
  | [] => rfl
  | x :: xs => by show (insP x (sortP xs)).length = _; rw [insP_len, sortP_len xs]; rfl
def begunP : Rl → Mk
  | .newest => .lst [0]
  | _ => .num 0
def markPut (r : Rl) (cells : Int) (after : List (Int × Int)) (mk : Mk) (start size : Int) : Mk := match r with
  | .next => .num (start + size)
  | .newest => .lst ((mk.list.map fun a => if a = start then start + size else a).filter fun a => decide (a ∈ (holesP cells after).map (·.1)))
  | _ => mk
section
variable {P : MProg} {W k : Nat} {fl : Nat} {lk : List Nat} {M : MH}
theorem c_begun (h : P.fns.lookup 69 = some d_begun) (r : Rl) : callN P W (k + 1) false 69 [r.d] fl lk M = .ok (stD [] (begunP r)) M := by
  refine call_rt (M' := M) (v := stD [] (begunP r)) h rfl ?_ (frz_st _ _ _ _) (List.take_length)
  cases r <;> rfl
theorem c_put (h7 : P.fns.lookup 7 = some d_holes_of) (h28 : P.fns.lookup 28 = some d_with_block) (h : P.fns.lookup 71 = some d_put) (hk : ∀ n ∈ lk, n < M.length) (r : Rl) (cells start size : Int) (l : List (Int × Int)) (mk : Mk) (hl : l.length ≤ 100) (hf : r.fits mk) :
    callN P W (k + 2) false 71 [r.d, .int cells, stD l mk, .int start, .int size] fl lk M = .ok (stD (sortP (l ++ [(start, size)])) (markPut r cells (sortP (l ++ [(start, size)])) mk start size)) M := by
  refine call_rt (M' := M) (v := stD (sortP (l ++ [(start, size)])) (markPut r cells (sortP (l ++ [(start, size)])) mk start size)) h rfl ?_ (frz_st _ _ _ _) (List.take_length)
  generalize hc : (⟨callN P W (k + 1), fun i => P.gls.lookup i, W, M.length, lk⟩ : Ctx) = c
  have h28 : c.call false 28 [lay l, .int start, .int size] c.fl c.lk M = .ok (lay (sortP (l ++ [(start, size)]))) M := by
    subst hc; exact c_with_block h28 l start size (by omega)
  have h7 : ∀ (c' : Ctx), c'.call = c.call → c'.lk = c.lk → ∀ l, l.length ≤ 5000 → c'.call false 7 [.int cells, lay l] c'.fl c'.lk M = .ok (lsP (holesP cells l)) M := fun c' e1 e2 l hl => by
    rw [e1, e2]; subst hc; exact c_holes_of h7 hk cells l hl
  have hal : (sortP (l ++ [(start, size)])).length ≤ 101 := by
    rw [sortP_len]; simp; omega
  generalize hA : sortP (l ++ [(start, size)]) = after at *
  refine seq_nx (σ' := [some r.d, some (.int cells), some (stD l mk), some (.int start), some (.int size), some (lay l), some mk.d, none, none, none, none, none]) (M' := M) (by simp [ev_c, ev_v, ev_g, ev_bin, ev_neg, ev_not, ev_cmp, ev_chain, ev_and, ev_or, ev_ife, ev_nil, ev_cons, ev_tup, ev_lst, ev_new, ev_idx, ev_slc, ev_rev, ev_call, ev_bf, ev_mt, ev_it, ev_rng, ev_enum, ev_zip, ex_skip, ex_seq, ex_asg, ex_setix, ex_aug, ex_augix, ex_ife, ex_ret, ex_retN, ex_expr, ex_brk, ex_cont, R.to, R.bind, R.ofOpt, RS.andThen, nxO, tupD, boolD, newD, cmpD, cmpop, binop, addD, mulD, catD, negD, idxD, idxO, iop, partR, partD, cutD, revD, recvD, mth, objL, one1, zero1, appendD, extendD, popD, setD, bfn, lenD, sumD, allD, anyD, minD, maxD, absD, sortedD, tupleD, listD, isinstD, isTy, kindD, tyIn, Ctx.may, Ctx.lock, Tg.asg, asgs, items, itemsL, lockOf, walkOf, walkD, walkR, itemsT, isNil, lstD, oneD, D.pure, D.pure.pureL, eqM_str, eqM_int, eqM_non, eqM_intnon, Mini.get?, place?, intsOf, minL, maxL, Mini.wipe, List.getElem?_cons_zero, List.getElem?_cons_succ, Option.join, List.set_cons_zero, List.set_cons_succ, List.map_cons, List.map_nil, Option.map_some, Option.map_none, Option.bind_some, Option.bind_none, stD]) ?_
  refine seq_nx (σ' := [some r.d, some (.int cells), some (stD l mk), some (.int start), some (.int size), some (lay l), some mk.d, some (lay after), none, none, none, none]) (M' := M) (by simp [ev_c, ev_v, ev_g, ev_bin, ev_neg, ev_not, ev_cmp, ev_chain, ev_and, ev_or, ev_ife, ev_nil, ev_cons, ev_tup, ev_lst, ev_new, ev_idx, ev_slc, ev_rev, ev_call, ev_bf, ev_mt, ev_it, ev_rng, ev_enum, ev_zip, ex_skip, ex_seq, ex_asg, ex_setix, ex_aug, ex_augix, ex_ife, ex_ret, ex_retN, ex_expr, ex_brk, ex_cont, R.to, R.bind, R.ofOpt, RS.andThen, nxO, tupD, boolD, newD, cmpD, cmpop, binop, addD, mulD, catD, negD, idxD, idxO, iop, partR, partD, cutD, revD, recvD, mth, objL, one1, zero1, appendD, extendD, popD, setD, bfn, lenD, sumD, allD, anyD, minD, maxD, absD, sortedD, tupleD, listD, isinstD, isTy, kindD, tyIn, Ctx.may, Ctx.lock, Tg.asg, asgs, items, itemsL, lockOf, walkOf, walkD, walkR, itemsT, isNil, lstD, oneD, D.pure, D.pure.pureL, eqM_str, eqM_int, eqM_non, eqM_intnon, Mini.get?, place?, intsOf, minL, maxL, Mini.wipe, List.getElem?_cons_zero, List.getElem?_cons_succ, Option.join, List.set_cons_zero, List.set_cons_succ, List.map_cons, List.map_nil, Option.map_some, Option.map_none, Option.bind_some, Option.bind_none, h28]) ?_
  have tr : ∀ s x6 x8 x9, ev c (.cmp .eq (.idx (.v 0) (.c (.int 0))) (.c (.str s))) [some r.d, some (.int cells), some (stD l mk), some (.int start), some (.int size), some (lay l), x6, some (lay after), x8, x9, none, none] M = .ok (.bl (decide (r.name = s))) M := fun s x6 x8 x9 => by
    cases r <;> rfl
  by_cases h1 : r = .next
  · subst h1
    refine seq_nx (σ' := [some (Rl.d .next), some (.int cells), some (stD l mk), some (.int start), some (.int size), some (lay l), some (.int (start + size)), some (lay after), none, none, none, none]) (M' := M) (ife_t ((tr sNext _ _ _).trans rfl) (by simp [ev_c, ev_v, ev_g, ev_bin, ev_neg, ev_not, ev_cmp, ev_chain, ev_and, ev_or, ev_ife, ev_nil, ev_cons, ev_tup, ev_lst, ev_new, ev_idx, ev_slc, ev_rev, ev_call, ev_bf, ev_mt, ev_it, ev_rng, ev_enum, ev_zip, ex_skip, ex_seq, ex_asg, ex_setix, ex_aug, ex_augix, ex_ife, ex_ret, ex_retN, ex_expr, ex_brk, ex_cont, R.to, R.bind, R.ofOpt, RS.andThen, nxO, tupD, boolD, newD, cmpD, cmpop, binop, addD, mulD, catD, negD, idxD, idxO, iop, partR, partD, cutD, revD, recvD, mth, objL, one1, zero1, appendD, extendD, popD, setD, bfn, lenD, sumD, allD, anyD, minD, maxD, absD, sortedD, tupleD, listD, isinstD, isTy, kindD, tyIn, Ctx.may, Ctx.lock, Tg.asg, asgs, items, itemsL, lockOf, walkOf, walkD, walkR, itemsT, isNil, lstD, oneD, D.pure, D.pure.pureL, eqM_str, eqM_int, eqM_non, eqM_intnon, Mini.get?, place?, intsOf, minL, maxL, Mini.wipe, List.getElem?_cons_zero, List.getElem?_cons_succ, Option.join, List.set_cons_zero, List.set_cons_succ, List.map_cons, List.map_nil, Option.map_some, Option.map_none, Option.bind_some, Option.bind_none])) ?_
    exact sif_f ((tr sNewest _ _ _).trans rfl) (ret_of rfl)
  · have n1 : r.name ≠ sNext := by cases r <;> first | exact absurd rfl h1 | decide | exact (by decide : sEnds ≠ sNext) | exact (by decide : sClasses ≠ sNext) | exact (by decide : sSlabs ≠ sNext)
    refine seq_nx (σ' := [some r.d, some (.int cells), some (stD l mk), some (.int start), some (.int size), some (lay l), some mk.d, some (lay after), none, none, none, none]) (M' := M) (ife_f ((tr sNext _ _ _).trans (by rw [decide_eq_false n1])) rfl) ?_
    by_cases h2 : r = .newest
    · subst h2
      obtain ⟨m, rfl, hm⟩ := hf
      have e1 := ev_comp (c := c) (elt := .idx (.v 10) (.c (.int 0))) (cond := .nil) (it := .it (.call false 7 (.cons (.v 1) (.cons (.v 7) .nil)))) (t := .one 10) (own := [10]) (σ := [some (Rl.d .newest), some (.int cells), some (stD l (.lst m)), some (.int start), some (.int size), some (lay l), some (Mk.d (.lst m)), some (lay after), none, none, none, none]) (M := M) (M' := M) (ys := holesP cells after) (ls := []) (enc := pairD)
        (g := fun h => some (.int h.1)) (by simp [ev_c, ev_v, ev_g, ev_bin, ev_neg, ev_not, ev_cmp, ev_chain, ev_and, ev_or, ev_ife, ev_nil, ev_cons, ev_tup, ev_lst, ev_new, ev_idx, ev_slc, ev_rev, ev_call, ev_bf, ev_mt, ev_it, ev_rng, ev_enum, ev_zip, ex_skip, ex_seq, ex_asg, ex_setix, ex_aug, ex_augix, ex_ife, ex_ret, ex_retN, ex_expr, ex_brk, ex_cont, R.to, R.bind, R.ofOpt, RS.andThen, nxO, tupD, boolD, newD, cmpD, cmpop, binop, addD, mulD, catD, negD, idxD, idxO, iop, partR, partD, cutD, revD, recvD, mth, objL, one1, zero1, appendD, extendD, popD, setD, bfn, lenD, sumD, allD, anyD, minD, maxD, absD, sortedD, tupleD, listD, isinstD, isTy, kindD, tyIn, Ctx.may, Ctx.lock, Tg.asg, asgs, items, itemsL, lockOf, walkOf, walkD, walkR, itemsT, isNil, lstD, oneD, D.pure, D.pure.pureL, eqM_str, eqM_int, eqM_non, eqM_intnon, Mini.get?, place?, intsOf, minL, maxL, Mini.wipe, List.getElem?_cons_zero, List.getElem?_cons_succ, Option.join, List.set_cons_zero, List.set_cons_succ, List.map_cons, List.map_nil, Option.map_some, Option.map_none, Option.bind_some, Option.bind_none, h7 c rfl rfl after (by omega)]; simp [lsP]) (fun b hb => by obtain ⟨a, z⟩ := b; rfl) (by have := holesA_len cells after 0; unfold holesP; omega)
      rw [fm_map] at e1
      have e1 := e1.trans (show R.ok _ M = R.ok (lsI ((holesP cells after).map (·.1))) M by simp [lsI])
      have hmk : markPut .newest cells after (.lst m) start size = .lst ((m.map fun a => if a = start then start + size else a).filter fun a => decide (a ∈ (holesP cells after).map (·.1))) := rfl
      rw [hmk]
      generalize (holesP cells after).map (·.1) = L at *
      have e2 := ev_comp (c := c) (elt := .ife (.cmp .eq (.v 11) (.v 3)) (.bin .add (.v 3) (.v 4)) (.v 11)) (cond := .nil) (it := .it (.v 6)) (t := .one 11) (own := [11]) (σ := [some (Rl.d .newest), some (.int cells), some (stD l (.lst m)), some (.int start), some (.int size), some (lay l), some (Mk.d (.lst m)), some (lay after), some (lsI L), none, none, none]) (M := M) (M' := M) (ys := m) (ls := []) (enc := D.int)
        (g := fun a => some (.int (if a = start then start + size else a))) rfl (fun a ha => by
          by_cases hh : a = start
          · simp [cF, ev_c, ev_v, ev_g, ev_bin, ev_neg, ev_not, ev_cmp, ev_chain, ev_and, ev_or, ev_ife, ev_nil, ev_cons, ev_tup, ev_lst, ev_new, ev_idx, ev_slc, ev_rev, ev_call, ev_bf, ev_mt, ev_it, ev_rng, ev_enum, ev_zip, ex_skip, ex_seq, ex_asg, ex_setix, ex_aug, ex_augix, ex_ife, ex_ret, ex_retN, ex_expr, ex_brk, ex_cont, R.to, R.bind, R.ofOpt, RS.andThen, nxO, tupD, boolD, newD, cmpD, cmpop, binop, addD, mulD, catD, negD, idxD, idxO, iop, partR, partD, cutD, revD, recvD, mth, objL, one1, zero1, appendD, extendD, popD, setD, bfn, lenD, sumD, allD, anyD, minD, maxD, absD, sortedD, tupleD, listD, isinstD, isTy, kindD, tyIn, Ctx.may, Ctx.lock, Tg.asg, asgs, items, itemsL, lockOf, walkOf, walkD, walkR, itemsT, isNil, lstD, oneD, D.pure, D.pure.pureL, eqM_str, eqM_int, eqM_non, eqM_intnon, Mini.get?, place?, intsOf, minL, maxL, Mini.wipe, List.getElem?_cons_zero, List.getElem?_cons_succ, Option.join, List.set_cons_zero, List.set_cons_succ, List.map_cons, List.map_nil, Option.map_some, Option.map_none, Option.bind_some, Option.bind_none, calmR, locks, hh]
          · simp [cF, ev_c, ev_v, ev_g, ev_bin, ev_neg, ev_not, ev_cmp, ev_chain, ev_and, ev_or, ev_ife, ev_nil, ev_cons, ev_tup, ev_lst, ev_new, ev_idx, ev_slc, ev_rev, ev_call, ev_bf, ev_mt, ev_it, ev_rng, ev_enum, ev_zip, ex_skip, ex_seq, ex_asg, ex_setix, ex_aug, ex_augix, ex_ife, ex_ret, ex_retN, ex_expr, ex_brk, ex_cont, R.to, R.bind, R.ofOpt, RS.andThen, nxO, tupD, boolD, newD, cmpD, cmpop, binop, addD, mulD, catD, negD, idxD, idxO, iop, partR, partD, cutD, revD, recvD, mth, objL, one1, zero1, appendD, extendD, popD, setD, bfn, lenD, sumD, allD, anyD, minD, maxD, absD, sortedD, tupleD, listD, isinstD, isTy, kindD, tyIn, Ctx.may, Ctx.lock, Tg.asg, asgs, items, itemsL, lockOf, walkOf, walkD, walkR, itemsT, isNil, lstD, oneD, D.pure, D.pure.pureL, eqM_str, eqM_int, eqM_non, eqM_intnon, Mini.get?, place?, intsOf, minL, maxL, Mini.wipe, List.getElem?_cons_zero, List.getElem?_cons_succ, Option.join, List.set_cons_zero, List.set_cons_succ, List.map_cons, List.map_nil, Option.map_some, Option.map_none, Option.bind_some, Option.bind_none, calmR, locks, hh]) (by omega)
      rw [fm_map] at e2
      have hml : (m.map fun a => if a = start then start + size else a).length ≤ 60 := by rw [List.length_map]; exact hm
      have e2 := e2.trans (show R.ok _ M = R.ok (lsI (m.map fun a => if a = start then start + size else a)) M by simp [lsI])
      generalize (m.map fun a => if a = start then start + size else a) = Mv at *
      have e3 := ev_comp (c := c) (elt := .v 11) (cond := .cmp .mem (.v 11) (.v 8)) (it := .it (.v 9)) (t := .one 11) (own := [11]) (σ := [some (Rl.d .newest), some (.int cells), some (stD l (.lst m)), some (.int start), some (.int size), some (lay l), some (Mk.d (.lst m)), some (lay after), some (lsI L), some (lsI Mv), none, none]) (M := M) (M' := M) (ys := Mv) (ls := []) (enc := D.int)
        (g := fun a => if decide (a ∈ L) = true then some (.int a) else none) rfl (fun a ha => by
          by_cases hh : a ∈ L
          · have hm : memM M (.int a) (lsI L) = some true := by rw [memM_ints, decide_eq_true hh]
            simp [cF, ev_c, ev_v, ev_g, ev_bin, ev_neg, ev_not, ev_cmp, ev_chain, ev_and, ev_or, ev_ife, ev_nil, ev_cons, ev_tup, ev_lst, ev_new, ev_idx, ev_slc, ev_rev, ev_call, ev_bf, ev_mt, ev_it, ev_rng, ev_enum, ev_zip, ex_skip, ex_seq, ex_asg, ex_setix, ex_aug, ex_augix, ex_ife, ex_ret, ex_retN, ex_expr, ex_brk, ex_cont, R.to, R.bind, R.ofOpt, RS.andThen, nxO, tupD, boolD, newD, cmpD, cmpop, binop, addD, mulD, catD, negD, idxD, idxO, iop, partR, partD, cutD, revD, recvD, mth, objL, one1, zero1, appendD, extendD, popD, setD, bfn, lenD, sumD, allD, anyD, minD, maxD, absD, sortedD, tupleD, listD, isinstD, isTy, kindD, tyIn, Ctx.may, Ctx.lock, Tg.asg, asgs, items, itemsL, lockOf, walkOf, walkD, walkR, itemsT, isNil, lstD, oneD, D.pure, D.pure.pureL, eqM_str, eqM_int, eqM_non, eqM_intnon, Mini.get?, place?, intsOf, minL, maxL, Mini.wipe, List.getElem?_cons_zero, List.getElem?_cons_succ, Option.join, List.set_cons_zero, List.set_cons_succ, List.map_cons, List.map_nil, Option.map_some, Option.map_none, Option.bind_some, Option.bind_none, calmR, locks, hm, hh]
          · have hm : memM M (.int a) (lsI L) = some false := by rw [memM_ints, decide_eq_false hh]
            simp [cF, ev_c, ev_v, ev_g, ev_bin, ev_neg, ev_not, ev_cmp, ev_chain, ev_and, ev_or, ev_ife, ev_nil, ev_cons, ev_tup, ev_lst, ev_new, ev_idx, ev_slc, ev_rev, ev_call, ev_bf, ev_mt, ev_it, ev_rng, ev_enum, ev_zip, ex_skip, ex_seq, ex_asg, ex_setix, ex_aug, ex_augix, ex_ife, ex_ret, ex_retN, ex_expr, ex_brk, ex_cont, R.to, R.bind, R.ofOpt, RS.andThen, nxO, tupD, boolD, newD, cmpD, cmpop, binop, addD, mulD, catD, negD, idxD, idxO, iop, partR, partD, cutD, revD, recvD, mth, objL, one1, zero1, appendD, extendD, popD, setD, bfn, lenD, sumD, allD, anyD, minD, maxD, absD, sortedD, tupleD, listD, isinstD, isTy, kindD, tyIn, Ctx.may, Ctx.lock, Tg.asg, asgs, items, itemsL, lockOf, walkOf, walkD, walkR, itemsT, isNil, lstD, oneD, D.pure, D.pure.pureL, eqM_str, eqM_int, eqM_non, eqM_intnon, Mini.get?, place?, intsOf, minL, maxL, Mini.wipe, List.getElem?_cons_zero, List.getElem?_cons_succ, Option.join, List.set_cons_zero, List.set_cons_succ, List.map_cons, List.map_nil, Option.map_some, Option.map_none, Option.bind_some, Option.bind_none, calmR, locks, hm, hh]) (by omega)
      rw [fm_filter] at e3
      have e4 : ev c (.bf .tuple (.cons (.comp (.v 11) (.cmp .mem (.v 11) (.v 8)) (.it (.v 9)) (.one 11) [11]) .nil)) [some (Rl.d .newest), some (.int cells), some (stD l (.lst m)), some (.int start), some (.int size), some (lay l), some (Mk.d (.lst m)), some (lay after), some (lsI L), some (lsI Mv), none, none] M = .ok (Mk.d (.lst (Mv.filter fun a => decide (a ∈ L)))) M := by
        rw [ev_bf, ev_cons, e3]
        rfl
      exact seq_nx (ife_t ((tr sNewest _ _ _).trans rfl) (seq_nx (asg_of e1 rfl) (seq_nx (asg_of e2 rfl) (asg_of e4 rfl)))) (ret_of rfl)
    · have n2 : r.name ≠ sNewest := by cases r <;> first | exact absurd rfl h2 | decide | exact (by decide : sEnds ≠ sNewest) | exact (by decide : sClasses ≠ sNewest) | exact (by decide : sSlabs ≠ sNewest)
      refine sif_f ((tr sNewest _ _ _).trans (by rw [decide_eq_false n2])) (ret_of ?_)
      have e : markPut r cells after mk start size = mk := by
        cases r <;> first | rfl | exact absurd rfl h1 | exact absurd rfl h2
      rw [e]
      rfl
end
end Con
set_option autoImplicit false
set_option maxRecDepth 100000
set_option maxHeartbeats 4000000
namespace Con
open Mini Tx
def markTake (r : Rl) (cells : Int) (after : List (Int × Int)) (mk : Mk) (start : Int) : Option Mk := match r with
  | .newest => ((holesP cells after).filter fun h => decide (h.1 ≤ start) && decide (start < h.1 + h.2)).head?.map fun own => .lst (own.1 :: mk.list.filter fun a => !(decide (own.1 ≤ a) && decide (a < own.1 + own.2)))
  | _ => some mk
def gone (l : List (Int × Int)) (start : Int) : List (Int × Int) := l.filter fun b => decide (b.1 ≠ start)
theorem bin_of {c : Ctx} {o : Op} {a b : ME} {σ : List (Option D)} {M M' M'' : MH} {x y : D} {r : R D} (ha : ev c a σ M = .ok x M') (hb : ev c b σ M' = .ok y M'') (hr : binop o x y M'' = r) : ev c (.bin o a b) σ M = r := by
  rw [ev_bin, ha]
  show (ev c b σ M').bind _ = _
  rw [hb]
  exact hr
section
variable {P : MProg} {W k : Nat} {fl : Nat} {lk : List Nat} {M : MH}
theorem c_take (h7 : P.fns.lookup 7 = some d_holes_of) (h66 : P.fns.lookup 66 = some d_without_block) (h : P.fns.lookup 72 = some d_take) (hk : ∀ n ∈ lk, n < M.length) (r : Rl) (cells start : Int) (l : List (Int × Int)) (mk mk' : Mk) (hl : l.length ≤ 100) (hf : r.fits mk)
    (hm' : markTake r cells (gone l start) mk start = some mk') : callN P W (k + 2) false 72 [r.d, .int cells, stD l mk, .int start] fl lk M = .ok (stD (gone l start) mk') M := by
  refine call_rt (M' := M) (v := stD (gone l start) mk') h rfl ?_ (frz_st _ _ _ _) (List.take_length)
  generalize hc : (⟨callN P W (k + 1), fun i => P.gls.lookup i, W, M.length, lk⟩ : Ctx) = c
  have h66 : c.call false 66 [lay l, .int start] c.fl c.lk M = .ok (lay (gone l start)) M := by
    subst hc; exact c_without_block h66 l start (by omega)
  have hal : (gone l start).length ≤ 100 := Nat.le_trans (List.length_filter_le _ _) hl
  have h7 : c.call false 7 [.int cells, lay (gone l start)] c.fl c.lk M = .ok (lsP (holesP cells (gone l start))) M := by
    subst hc; exact c_holes_of h7 hk cells _ (by omega)
  generalize hA : gone l start = after at *
  refine seq_nx (σ' := [some r.d, some (.int cells), some (stD l mk), some (.int start), some (lay l), some mk.d, none, none, none, none]) (M' := M) (by simp [ev_c, ev_v, ev_g, ev_bin, ev_neg, ev_not, ev_cmp, ev_chain, ev_and, ev_or, ev_ife, ev_nil, ev_cons, ev_tup, ev_lst, ev_new, ev_idx, ev_slc, ev_rev, ev_call, ev_bf, ev_mt, ev_it, ev_rng, ev_enum, ev_zip, ex_skip, ex_seq, ex_asg, ex_setix, ex_aug, ex_augix, ex_ife, ex_ret, ex_retN, ex_expr, ex_brk, ex_cont, R.to, R.bind, R.ofOpt, RS.andThen, nxO, tupD, boolD, newD, cmpD, cmpop, binop, addD, mulD, catD, negD, idxD, idxO, iop, partR, partD, cutD, revD, recvD, mth, objL, one1, zero1, appendD, extendD, popD, setD, bfn, lenD, sumD, allD, anyD, minD, maxD, absD, sortedD, tupleD, listD, isinstD, isTy, kindD, tyIn, Ctx.may, Ctx.lock, Tg.asg, asgs, items, itemsL, lockOf, walkOf, walkD, walkR, itemsT, isNil, lstD, oneD, D.pure, D.pure.pureL, eqM_str, eqM_int, eqM_non, eqM_intnon, Mini.get?, place?, intsOf, minL, maxL, Mini.wipe, List.getElem?_cons_zero, List.getElem?_cons_succ, Option.join, List.set_cons_zero, List.set_cons_succ, List.map_cons, List.map_nil, Option.map_some, Option.map_none, Option.bind_some, Option.bind_none, stD]) ?_
  refine seq_nx (σ' := [some r.d, some (.int cells), some (stD l mk), some (.int start), some (lay l), some mk.d, some (lay after), none, none, none]) (M' := M) (by simp [ev_c, ev_v, ev_g, ev_bin, ev_neg, ev_not, ev_cmp, ev_chain, ev_and, ev_or, ev_ife, ev_nil, ev_cons, ev_tup, ev_lst, ev_new, ev_idx, ev_slc, ev_rev, ev_call, ev_bf, ev_mt, ev_it, ev_rng, ev_enum, ev_zip, ex_skip, ex_seq, ex_asg, ex_setix, ex_aug, ex_augix, ex_ife, ex_ret, ex_retN, ex_expr, ex_brk, ex_cont, R.to, R.bind, R.ofOpt, RS.andThen, nxO, tupD, boolD, newD, cmpD, cmpop, binop, addD, mulD, catD, negD, idxD, idxO, iop, partR, partD, cutD, revD, recvD, mth, objL, one1, zero1, appendD, extendD, popD, setD, bfn, lenD, sumD, allD, anyD, minD, maxD, absD, sortedD, tupleD, listD, isinstD, isTy, kindD, tyIn, Ctx.may, Ctx.lock, Tg.asg, asgs, items, itemsL, lockOf, walkOf, walkD, walkR, itemsT, isNil, lstD, oneD, D.pure, D.pure.pureL, eqM_str, eqM_int, eqM_non, eqM_intnon, Mini.get?, place?, intsOf, minL, maxL, Mini.wipe, List.getElem?_cons_zero, List.getElem?_cons_succ, Option.join, List.set_cons_zero, List.set_cons_succ, List.map_cons, List.map_nil, Option.map_some, Option.map_none, Option.bind_some, Option.bind_none, h66]) ?_
  have tr : ∀ s, ev c (.cmp .eq (.idx (.v 0) (.c (.int 0))) (.c (.str s))) [some r.d, some (.int cells), some (stD l mk), some (.int start), some (lay l), some mk.d, some (lay after), none, none, none] M = .ok (.bl (decide (r.name = s))) M := fun s => by
    cases r <;> rfl
  by_cases h2 : r = .newest
  · subst h2
    obtain ⟨m, rfl, hm⟩ := hf
    have hm' : (((holesP cells after).filter fun h => decide (h.1 ≤ start) && decide (start < h.1 + h.2)).head?.map fun own => Mk.lst (own.1 :: m.filter fun a => !(decide (own.1 ≤ a) && decide (a < own.1 + own.2)))) = some mk' := hm'
    cases hown : ((holesP cells after).filter fun h => decide (h.1 ≤ start) && decide (start < h.1 + h.2)).head? with
    | none => rw [hown] at hm'; cases hm'
    | some own =>
      rw [hown] at hm'
      cases hm'
      obtain ⟨o1, o2⟩ := own
      have e1 := ev_comp (c := c) (elt := .v 8) (cond := .chain .le .lt (.idx (.v 8) (.c (.int 0))) (.v 3) (.bin .add (.idx (.v 8) (.c (.int 0))) (.idx (.v 8) (.c (.int 1))))) (it := .it (.call false 7 (.cons (.v 1) (.cons (.v 6) .nil)))) (t := .one 8) (own := [8]) (σ := [some (Rl.d .newest), some (.int cells), some (stD l (.lst m)), some (.int start), some (lay l), some (Mk.d (.lst m)), some (lay after), none, none, none]) (M := M) (M' := M) (ys := holesP cells after) (ls := []) (enc := pairD)
        (g := fun h => if (decide (h.1 ≤ start) && decide (start < h.1 + h.2)) = true then some (pairD h) else none) (by simp [ev_c, ev_v, ev_g, ev_bin, ev_neg, ev_not, ev_cmp, ev_chain, ev_and, ev_or, ev_ife, ev_nil, ev_cons, ev_tup, ev_lst, ev_new, ev_idx, ev_slc, ev_rev, ev_call, ev_bf, ev_mt, ev_it, ev_rng, ev_enum, ev_zip, ex_skip, ex_seq, ex_asg, ex_setix, ex_aug, ex_augix, ex_ife, ex_ret, ex_retN, ex_expr, ex_brk, ex_cont, R.to, R.bind, R.ofOpt, RS.andThen, nxO, tupD, boolD, newD, cmpD, cmpop, binop, addD, mulD, catD, negD, idxD, idxO, iop, partR, partD, cutD, revD, recvD, mth, objL, one1, zero1, appendD, extendD, popD, setD, bfn, lenD, sumD, allD, anyD, minD, maxD, absD, sortedD, tupleD, listD, isinstD, isTy, kindD, tyIn, Ctx.may, Ctx.lock, Tg.asg, asgs, items, itemsL, lockOf, walkOf, walkD, walkR, itemsT, isNil, lstD, oneD, D.pure, D.pure.pureL, eqM_str, eqM_int, eqM_non, eqM_intnon, Mini.get?, place?, intsOf, minL, maxL, Mini.wipe, List.getElem?_cons_zero, List.getElem?_cons_succ, Option.join, List.set_cons_zero, List.set_cons_succ, List.map_cons, List.map_nil, Option.map_some, Option.map_none, Option.bind_some, Option.bind_none, h7]; simp [lsP]) (fun b hb => by
          obtain ⟨a, z⟩ := b
          by_cases g1 : a ≤ start
          · by_cases g2 : start < a + z
            · simp [cF, ev_c, ev_v, ev_g, ev_bin, ev_neg, ev_not, ev_cmp, ev_chain, ev_and, ev_or, ev_ife, ev_nil, ev_cons, ev_tup, ev_lst, ev_new, ev_idx, ev_slc, ev_rev, ev_call, ev_bf, ev_mt, ev_it, ev_rng, ev_enum, ev_zip, ex_skip, ex_seq, ex_asg, ex_setix, ex_aug, ex_augix, ex_ife, ex_ret, ex_retN, ex_expr, ex_brk, ex_cont, R.to, R.bind, R.ofOpt, RS.andThen, nxO, tupD, boolD, newD, cmpD, cmpop, binop, addD, mulD, catD, negD, idxD, idxO, iop, partR, partD, cutD, revD, recvD, mth, objL, one1, zero1, appendD, extendD, popD, setD, bfn, lenD, sumD, allD, anyD, minD, maxD, absD, sortedD, tupleD, listD, isinstD, isTy, kindD, tyIn, Ctx.may, Ctx.lock, Tg.asg, asgs, items, itemsL, lockOf, walkOf, walkD, walkR, itemsT, isNil, lstD, oneD, D.pure, D.pure.pureL, eqM_str, eqM_int, eqM_non, eqM_intnon, Mini.get?, place?, intsOf, minL, maxL, Mini.wipe, List.getElem?_cons_zero, List.getElem?_cons_succ, Option.join, List.set_cons_zero, List.set_cons_succ, List.map_cons, List.map_nil, Option.map_some, Option.map_none, Option.bind_some, Option.bind_none, calmR, pairD, locks, g1, g2]
            · simp [cF, ev_c, ev_v, ev_g, ev_bin, ev_neg, ev_not, ev_cmp, ev_chain, ev_and, ev_or, ev_ife, ev_nil, ev_cons, ev_tup, ev_lst, ev_new, ev_idx, ev_slc, ev_rev, ev_call, ev_bf, ev_mt, ev_it, ev_rng, ev_enum, ev_zip, ex_skip, ex_seq, ex_asg, ex_setix, ex_aug, ex_augix, ex_ife, ex_ret, ex_retN, ex_expr, ex_brk, ex_cont, R.to, R.bind, R.ofOpt, RS.andThen, nxO, tupD, boolD, newD, cmpD, cmpop, binop, addD, mulD, catD, negD, idxD, idxO, iop, partR, partD, cutD, revD, recvD, mth, objL, one1, zero1, appendD, extendD, popD, setD, bfn, lenD, sumD, allD, anyD, minD, maxD, absD, sortedD, tupleD, listD, isinstD, isTy, kindD, tyIn, Ctx.may, Ctx.lock, Tg.asg, asgs, items, itemsL, lockOf, walkOf, walkD, walkR, itemsT, isNil, lstD, oneD, D.pure, D.pure.pureL, eqM_str, eqM_int, eqM_non, eqM_intnon, Mini.get?, place?, intsOf, minL, maxL, Mini.wipe, List.getElem?_cons_zero, List.getElem?_cons_succ, Option.join, List.set_cons_zero, List.set_cons_succ, List.map_cons, List.map_nil, Option.map_some, Option.map_none, Option.bind_some, Option.bind_none, calmR, pairD, locks, g1, g2]
          · simp [cF, ev_c, ev_v, ev_g, ev_bin, ev_neg, ev_not, ev_cmp, ev_chain, ev_and, ev_or, ev_ife, ev_nil, ev_cons, ev_tup, ev_lst, ev_new, ev_idx, ev_slc, ev_rev, ev_call, ev_bf, ev_mt, ev_it, ev_rng, ev_enum, ev_zip, ex_skip, ex_seq, ex_asg, ex_setix, ex_aug, ex_augix, ex_ife, ex_ret, ex_retN, ex_expr, ex_brk, ex_cont, R.to, R.bind, R.ofOpt, RS.andThen, nxO, tupD, boolD, newD, cmpD, cmpop, binop, addD, mulD, catD, negD, idxD, idxO, iop, partR, partD, cutD, revD, recvD, mth, objL, one1, zero1, appendD, extendD, popD, setD, bfn, lenD, sumD, allD, anyD, minD, maxD, absD, sortedD, tupleD, listD, isinstD, isTy, kindD, tyIn, Ctx.may, Ctx.lock, Tg.asg, asgs, items, itemsL, lockOf, walkOf, walkD, walkR, itemsT, isNil, lstD, oneD, D.pure, D.pure.pureL, eqM_str, eqM_int, eqM_non, eqM_intnon, Mini.get?, place?, intsOf, minL, maxL, Mini.wipe, List.getElem?_cons_zero, List.getElem?_cons_succ, Option.join, List.set_cons_zero, List.set_cons_succ, List.map_cons, List.map_nil, Option.map_some, Option.map_none, Option.bind_some, Option.bind_none, calmR, pairD, locks, g1]) (by have := holesA_len cells after 0; unfold holesP; omega)
      rw [fm_filter] at e1
      have e2 := idx0_of e1 hown
      have e3 := ev_comp (c := c) (elt := .v 9) (cond := .not (.chain .le .lt (.idx (.v 7) (.c (.int 0))) (.v 9) (.bin .add (.idx (.v 7) (.c (.int 0))) (.idx (.v 7) (.c (.int 1)))))) (it := .it (.v 5)) (t := .one 9) (own := [9]) (σ := [some (Rl.d .newest), some (.int cells), some (stD l (.lst m)), some (.int start), some (lay l), some (Mk.d (.lst m)), some (lay after), some (pairD (o1, o2)), none, none]) (M := M) (M' := M) (ys := m) (ls := []) (enc := D.int)
        (g := fun a => if (!(decide (o1 ≤ a) && decide (a < o1 + o2))) = true then some (.int a) else none) rfl (fun a ha => by
          by_cases g1 : o1 ≤ a
          · by_cases g2 : a < o1 + o2
            · simp [cF, ev_c, ev_v, ev_g, ev_bin, ev_neg, ev_not, ev_cmp, ev_chain, ev_and, ev_or, ev_ife, ev_nil, ev_cons, ev_tup, ev_lst, ev_new, ev_idx, ev_slc, ev_rev, ev_call, ev_bf, ev_mt, ev_it, ev_rng, ev_enum, ev_zip, ex_skip, ex_seq, ex_asg, ex_setix, ex_aug, ex_augix, ex_ife, ex_ret, ex_retN, ex_expr, ex_brk, ex_cont, R.to, R.bind, R.ofOpt, RS.andThen, nxO, tupD, boolD, newD, cmpD, cmpop, binop, addD, mulD, catD, negD, idxD, idxO, iop, partR, partD, cutD, revD, recvD, mth, objL, one1, zero1, appendD, extendD, popD, setD, bfn, lenD, sumD, allD, anyD, minD, maxD, absD, sortedD, tupleD, listD, isinstD, isTy, kindD, tyIn, Ctx.may, Ctx.lock, Tg.asg, asgs, items, itemsL, lockOf, walkOf, walkD, walkR, itemsT, isNil, lstD, oneD, D.pure, D.pure.pureL, eqM_str, eqM_int, eqM_non, eqM_intnon, Mini.get?, place?, intsOf, minL, maxL, Mini.wipe, List.getElem?_cons_zero, List.getElem?_cons_succ, Option.join, List.set_cons_zero, List.set_cons_succ, List.map_cons, List.map_nil, Option.map_some, Option.map_none, Option.bind_some, Option.bind_none, calmR, pairD, locks, g1, g2]
            · simp [cF, ev_c, ev_v, ev_g, ev_bin, ev_neg, ev_not, ev_cmp, ev_chain, ev_and, ev_or, ev_ife, ev_nil, ev_cons, ev_tup, ev_lst, ev_new, ev_idx, ev_slc, ev_rev, ev_call, ev_bf, ev_mt, ev_it, ev_rng, ev_enum, ev_zip, ex_skip, ex_seq, ex_asg, ex_setix, ex_aug, ex_augix, ex_ife, ex_ret, ex_retN, ex_expr, ex_brk, ex_cont, R.to, R.bind, R.ofOpt, RS.andThen, nxO, tupD, boolD, newD, cmpD, cmpop, binop, addD, mulD, catD, negD, idxD, idxO, iop, partR, partD, cutD, revD, recvD, mth, objL, one1, zero1, appendD, extendD, popD, setD, bfn, lenD, sumD, allD, anyD, minD, maxD, absD, sortedD, tupleD, listD, isinstD, isTy, kindD, tyIn, Ctx.may, Ctx.lock, Tg.asg, asgs, items, itemsL, lockOf, walkOf, walkD, walkR, itemsT, isNil, lstD, oneD, D.pure, D.pure.pureL, eqM_str, eqM_int, eqM_non, eqM_intnon, Mini.get?, place?, intsOf, minL, maxL, Mini.wipe, List.getElem?_cons_zero, List.getElem?_cons_succ, Option.join, List.set_cons_zero, List.set_cons_succ, List.map_cons, List.map_nil, Option.map_some, Option.map_none, Option.bind_some, Option.bind_none, calmR, pairD, locks, g1, g2]
          · simp [cF, ev_c, ev_v, ev_g, ev_bin, ev_neg, ev_not, ev_cmp, ev_chain, ev_and, ev_or, ev_ife, ev_nil, ev_cons, ev_tup, ev_lst, ev_new, ev_idx, ev_slc, ev_rev, ev_call, ev_bf, ev_mt, ev_it, ev_rng, ev_enum, ev_zip, ex_skip, ex_seq, ex_asg, ex_setix, ex_aug, ex_augix, ex_ife, ex_ret, ex_retN, ex_expr, ex_brk, ex_cont, R.to, R.bind, R.ofOpt, RS.andThen, nxO, tupD, boolD, newD, cmpD, cmpop, binop, addD, mulD, catD, negD, idxD, idxO, iop, partR, partD, cutD, revD, recvD, mth, objL, one1, zero1, appendD, extendD, popD, setD, bfn, lenD, sumD, allD, anyD, minD, maxD, absD, sortedD, tupleD, listD, isinstD, isTy, kindD, tyIn, Ctx.may, Ctx.lock, Tg.asg, asgs, items, itemsL, lockOf, walkOf, walkD, walkR, itemsT, isNil, lstD, oneD, D.pure, D.pure.pureL, eqM_str, eqM_int, eqM_non, eqM_intnon, Mini.get?, place?, intsOf, minL, maxL, Mini.wipe, List.getElem?_cons_zero, List.getElem?_cons_succ, Option.join, List.set_cons_zero, List.set_cons_succ, List.map_cons, List.map_nil, Option.map_some, Option.map_none, Option.bind_some, Option.bind_none, calmR, pairD, locks, g1]) (by omega)
      rw [fm_filter] at e3
      have hfl : (m.filter fun a => !(decide (o1 ≤ a) && decide (a < o1 + o2))).length ≤ 60 := Nat.le_trans (List.length_filter_le _ _) hm
      have e4 : ev c (.bin .add (.tup (.cons (.idx (.v 7) (.c (.int 0))) .nil)) (.bf .tuple (.cons (.comp (.v 9) (.not (.chain .le .lt (.idx (.v 7) (.c (.int 0))) (.v 9) (.bin .add (.idx (.v 7) (.c (.int 0))) (.idx (.v 7) (.c (.int 1)))))) (.it (.v 5)) (.one 9) [9]) .nil))) [some (Rl.d .newest), some (.int cells), some (stD l (.lst m)), some (.int start), some (lay l), some (Mk.d (.lst m)), some (lay after), some (pairD (o1, o2)), none, none] M =
          .ok (Mk.d (.lst (o1 :: m.filter fun a => !(decide (o1 ≤ a) && decide (a < o1 + o2))))) M := by
        have e3' : ev c (.bf .tuple (.cons (.comp (.v 9) (.not (.chain .le .lt (.idx (.v 7) (.c (.int 0))) (.v 9) (.bin .add (.idx (.v 7) (.c (.int 0))) (.idx (.v 7) (.c (.int 1)))))) (.it (.v 5)) (.one 9) [9]) .nil)) [some (Rl.d .newest), some (.int cells), some (stD l (.lst m)), some (.int start), some (lay l), some (Mk.d (.lst m)), some (lay after), some (pairD (o1, o2)), none, none] M = .ok (Mk.d (.lst (m.filter fun a => !(decide (o1 ≤ a) && decide (a < o1 + o2))))) M := by
          rw [ev_bf, ev_cons, e3]; rfl
        generalize (m.filter fun a => !(decide (o1 ≤ a) && decide (a < o1 + o2))) = fl' at *
        have : 1 + fl'.length ≤ 10000 := by omega
        refine bin_of (x := .tup [.int o1]) (M' := M) (by simp [ev_c, ev_v, ev_g, ev_bin, ev_neg, ev_not, ev_cmp, ev_chain, ev_and, ev_or, ev_ife, ev_nil, ev_cons, ev_tup, ev_lst, ev_new, ev_idx, ev_slc, ev_rev, ev_call, ev_bf, ev_mt, ev_it, ev_rng, ev_enum, ev_zip, ex_skip, ex_seq, ex_asg, ex_setix, ex_aug, ex_augix, ex_ife, ex_ret, ex_retN, ex_expr, ex_brk, ex_cont, R.to, R.bind, R.ofOpt, RS.andThen, nxO, tupD, boolD, newD, cmpD, cmpop, binop, addD, mulD, catD, negD, idxD, idxO, iop, partR, partD, cutD, revD, recvD, mth, objL, one1, zero1, appendD, extendD, popD, setD, bfn, lenD, sumD, allD, anyD, minD, maxD, absD, sortedD, tupleD, listD, isinstD, isTy, kindD, tyIn, Ctx.may, Ctx.lock, Tg.asg, asgs, items, itemsL, lockOf, walkOf, walkD, walkR, itemsT, isNil, lstD, oneD, D.pure, D.pure.pureL, eqM_str, eqM_int, eqM_non, eqM_intnon, Mini.get?, place?, intsOf, minL, maxL, Mini.wipe, List.getElem?_cons_zero, List.getElem?_cons_succ, Option.join, List.set_cons_zero, List.set_cons_succ, List.map_cons, List.map_nil, Option.map_some, Option.map_none, Option.bind_some, Option.bind_none, pairD]) e3' ?_
        simp [ev_c, ev_v, ev_g, ev_bin, ev_neg, ev_not, ev_cmp, ev_chain, ev_and, ev_or, ev_ife, ev_nil, ev_cons, ev_tup, ev_lst, ev_new, ev_idx, ev_slc, ev_rev, ev_call, ev_bf, ev_mt, ev_it, ev_rng, ev_enum, ev_zip, ex_skip, ex_seq, ex_asg, ex_setix, ex_aug, ex_augix, ex_ife, ex_ret, ex_retN, ex_expr, ex_brk, ex_cont, R.to, R.bind, R.ofOpt, RS.andThen, nxO, tupD, boolD, newD, cmpD, cmpop, binop, addD, mulD, catD, negD, idxD, idxO, iop, partR, partD, cutD, revD, recvD, mth, objL, one1, zero1, appendD, extendD, popD, setD, bfn, lenD, sumD, allD, anyD, minD, maxD, absD, sortedD, tupleD, listD, isinstD, isTy, kindD, tyIn, Ctx.may, Ctx.lock, Tg.asg, asgs, items, itemsL, lockOf, walkOf, walkD, walkR, itemsT, isNil, lstD, oneD, D.pure, D.pure.pureL, eqM_str, eqM_int, eqM_non, eqM_intnon, Mini.get?, place?, intsOf, minL, maxL, Mini.wipe, List.getElem?_cons_zero, List.getElem?_cons_succ, Option.join, List.set_cons_zero, List.set_cons_succ, List.map_cons, List.map_nil, Option.map_some, Option.map_none, Option.bind_some, Option.bind_none, Mk.d, this]
      exact seq_nx (ife_t ((tr sNewest).trans rfl) (seq_nx (asg_of e2 rfl) (asg_of e4 rfl))) (ret_of rfl)
  · have n2 : r.name ≠ sNewest := by cases r <;> first | exact absurd rfl h2 | decide | exact (by decide : sEnds ≠ sNewest) | exact (by decide : sClasses ≠ sNewest) | exact (by decide : sSlabs ≠ sNewest)
    refine sif_f ((tr sNewest).trans (by rw [decide_eq_false n2])) (ret_of ?_)
    have e : some mk = some mk' := by
      cases r <;> first | exact hm' | exact absurd rfl h2
    cases e
    rfl
end
end Con
set_option autoImplicit false
set_option maxRecDepth 100000
set_option maxHeartbeats 4000000
namespace Con
open Mini Tx
def Sq (M : MH) (row : D) (xs : List D) : Prop := row = .lst xs ∨ ∃ n, row = .obj n ∧ M[n]? = some (.lst xs)
theorem Sq.app {M N : MH} {row : D} {xs : List D} (h : Sq M row xs) : Sq (M ++ N) row xs := by
  rcases h with rfl | ⟨n, rfl, h⟩
  · exact .inl rfl
  · refine .inr ⟨n, rfl, ?_⟩
    have hl : n < M.length := by
      rcases Nat.lt_or_ge n M.length with z | z
      · exact z
      · rw [List.getElem?_eq_none z] at h; cases h
    rw [List.getElem?_append_left hl]; exact h
theorem Sq.itemsL {M : MH} {row : D} {xs : List D} (h : Sq M row xs) : Mini.itemsL M row = some xs := by
  rcases h with rfl | ⟨n, rfl, h⟩
  · rfl
  · simp [Mini.itemsL, h]
theorem Sq.items {M : MH} {row : D} {xs : List D} (h : Sq M row xs) : Mini.items M row = some xs := by
  rcases h with rfl | ⟨n, rfl, h⟩
  · rfl
  · simp [Mini.items, h]
theorem Sq.isL {M : MH} {row : D} {xs : List D} (h : Sq M row xs) : isTy M .list row = some true := by
  rcases h with rfl | ⟨n, rfl, h⟩
  · rfl
  · simp [isTy, kindD, h, tyIn]
theorem Sq.len {M : MH} {row : D} {xs : List D} (h : Sq M row xs) : lenD row M = .ok (.int xs.length) M := by
  have := h.items
  rcases h with rfl | ⟨n, rfl, h⟩
  · rfl
  · simp [lenD, this, R.ofOpt]
theorem Sq.walk {M : MH} {row : D} {xs : List D} (h : Sq M row xs) : walkOf M row = some (walkD xs (lockOf row)) := by
  have := h.items
  rcases h with rfl | ⟨n, rfl, h⟩
  · rfl
  · simp [walkOf, this]
theorem Sq.lk {M : MH} {row : D} {xs : List D} (h : Sq M row xs) : ∀ n ∈ lockOf row, n < M.length := by
  rcases h with rfl | ⟨n, rfl, h⟩
  · intro n hn; cases hn
  · intro m hm
    have : m = n := by simpa [lockOf] using hm
    subst this
    rcases Nat.lt_or_ge m M.length with z | z
    · exact z
    · rw [List.getElem?_eq_none z] at h; cases h
theorem locks_lock (l : List Nat) : locks (l.map fun (n : Nat) => D.int (n : Int)) = l := by
  induction l with
  | nil => rfl
  | cons a l ih =>
    show ((a : Int).toNat) :: locks (l.map fun (n : Nat) => D.int (n : Int)) = _
    rw [ih]; simp
inductive Deed where
  | ask (n : Int)
  | free (n : Int)
  deriving DecidableEq
def sAsk : List Nat := [97, 115, 107]
def sFree : List Nat := [102, 114, 101, 101]
def Deed.name : Deed → List Nat
  | .ask _ => sAsk
  | .free _ => sFree
def Deed.num : Deed → Int
  | .ask n => n
  | .free n => n
def Deed.d : Deed → D
  | .ask n => .tup [.str sAsk, .int n]
  | .free n => .tup [.str sFree, .int n]
def Deed.good : Deed → Bool
  | .ask n => decide (1 ≤ n ∧ n ≤ 4)
  | .free n => decide (0 ≤ n ∧ n ≤ 40)
def rowA : List Deed → Int → List Int → Bool
  | [], _, _ => true
  | .ask _ :: r, a, g => rowA r (a + 1) g
  | .free n :: r, a, g => if n ≥ a ∨ n ∈ g then false else rowA r a (g ++ [n])
def rowP (ds : List Deed) : Bool := decide (ds.length ≤ 40) && (ds.all Deed.good && rowA ds 0 [])
section
variable {P : MProg} {W k : Nat} {fl : Nat} {lk : List Nat} {M : MH}
theorem c_need_cells (h0 : P.fns.lookup 0 = some d_is_number) (h : P.fns.lookup 4 = some d_need_cells) (cells most : Int) (h1 : 1 ≤ cells) (h2 : cells ≤ most) : callN P W (k + 2) false 4 [.int cells, .int most] fl lk M = .ok .non M := by
  refine call_nx (M' := M) (σ := [some (.int cells), some (.int most)]) h rfl ?_ (List.take_length)
  have e : ∀ fl lk, callN P W (k + 1) false 0 [.int cells, .int 1, .int most] fl lk M = .ok (.bl true) M := fun fl lk => by
    rw [c_is_number h0, decide_eq_true ⟨h1, h2⟩]
  simp [ev_c, ev_v, ev_g, ev_bin, ev_neg, ev_not, ev_cmp, ev_chain, ev_and, ev_or, ev_ife, ev_nil, ev_cons, ev_tup, ev_lst, ev_new, ev_idx, ev_slc, ev_rev, ev_call, ev_bf, ev_mt, ev_it, ev_rng, ev_enum, ev_zip, ex_skip, ex_seq, ex_asg, ex_setix, ex_aug, ex_augix, ex_ife, ex_ret, ex_retN, ex_expr, ex_brk, ex_cont, R.to, R.bind, R.ofOpt, RS.andThen, nxO, tupD, boolD, newD, cmpD, cmpop, binop, addD, mulD, catD, negD, idxD, idxO, iop, partR, partD, cutD, revD, recvD, mth, objL, one1, zero1, appendD, extendD, popD, setD, bfn, lenD, sumD, allD, anyD, minD, maxD, absD, sortedD, tupleD, listD, isinstD, isTy, kindD, tyIn, Ctx.may, Ctx.lock, Tg.asg, asgs, items, itemsL, lockOf, walkOf, walkD, walkR, itemsT, isNil, lstD, oneD, D.pure, D.pure.pureL, eqM_str, eqM_int, eqM_non, eqM_intnon, Mini.get?, place?, intsOf, minL, maxL, Mini.wipe, List.getElem?_cons_zero, List.getElem?_cons_succ, Option.join, List.set_cons_zero, List.set_cons_succ, List.map_cons, List.map_nil, Option.map_some, Option.map_none, Option.bind_some, Option.bind_none, e]
theorem c_is_deed (h0 : P.fns.lookup 0 = some d_is_number) (h : P.fns.lookup 67 = some d_is_deed) (g0 : P.gls.lookup 0 = some (.int 4)) (g4 : P.gls.lookup 4 = some (.int 40)) (d : Deed) : callN P W (k + 2) false 67 [d.d] fl lk M = .ok (.bl d.good) M := by
  refine call_rt (M' := M) (v := .bl d.good) h rfl ?_ rfl (List.take_length)
  have e : ∀ i a b fl lk, callN P W (k + 1) false 0 [.int i, .int a, .int b] fl lk M = .ok (.bl (decide (a ≤ i ∧ i ≤ b))) M := fun i a b fl lk => c_is_number h0 i a b
  cases d <;> simp [ev_c, ev_v, ev_g, ev_bin, ev_neg, ev_not, ev_cmp, ev_chain, ev_and, ev_or, ev_ife, ev_nil, ev_cons, ev_tup, ev_lst, ev_new, ev_idx, ev_slc, ev_rev, ev_call, ev_bf, ev_mt, ev_it, ev_rng, ev_enum, ev_zip, ex_skip, ex_seq, ex_asg, ex_setix, ex_aug, ex_augix, ex_ife, ex_ret, ex_retN, ex_expr, ex_brk, ex_cont, R.to, R.bind, R.ofOpt, RS.andThen, nxO, tupD, boolD, newD, cmpD, cmpop, binop, addD, mulD, catD, negD, idxD, idxO, iop, partR, partD, cutD, revD, recvD, mth, objL, one1, zero1, appendD, extendD, popD, setD, bfn, lenD, sumD, allD, anyD, minD, maxD, absD, sortedD, tupleD, listD, isinstD, isTy, kindD, tyIn, Ctx.may, Ctx.lock, Tg.asg, asgs, items, itemsL, lockOf, walkOf, walkD, walkR, itemsT, isNil, lstD, oneD, D.pure, D.pure.pureL, eqM_str, eqM_int, eqM_non, eqM_intnon, Mini.get?, place?, intsOf, minL, maxL, Mini.wipe, List.getElem?_cons_zero, List.getElem?_cons_succ, Option.join, List.set_cons_zero, List.set_cons_succ, List.map_cons, List.map_nil, Option.map_some, Option.map_none, Option.bind_some, Option.bind_none, Deed.d, e, g0, g4, Deed.good, sAsk, sFree]
theorem all_bools (l : List Bool) : boolsOf (l.map D.bl) = some l := by
  induction l with
  | nil => rfl
  | cons a l ih => show (boolsOf (l.map D.bl)).map (a :: ·) = _; rw [ih]; rfl
theorem c_is_row (h0 : P.fns.lookup 0 = some d_is_number) (h67 : P.fns.lookup 67 = some d_is_deed) (h : P.fns.lookup 68 = some d_is_row) (g0 : P.gls.lookup 0 = some (.int 4)) (g4 : P.gls.lookup 4 = some (.int 40)) (hk : ∀ n ∈ lk, n < M.length) (row : D) (ds : List Deed) (hr : Sq M row (ds.map Deed.d)) (hl : ds.length ≤ 1000) :
    callN P W (k + 3) false 68 [row] fl lk M = .ok (.bl (rowP ds)) M := by
  generalize hc : (⟨callN P W (k + 2), fun i => P.gls.lookup i, W, M.length, lk⟩ : Ctx) = c
  have hcl : c.lk = lk := by subst hc; rfl
  have hcf : c.fl = M.length := by subst hc; rfl
  have hgl : ∀ i, c.gl i = P.gls.lookup i := by subst hc; intro i; rfl
  have e67 : ∀ (d : Deed) fl lk, c.call false 67 [d.d] fl lk M = .ok (.bl d.good) M := fun d fl lk => by subst hc; exact c_is_deed h0 h67 g0 g4 d
  have hit : ∀ M σ, Sq M row (ds.map Deed.d) → ev c (.it (.v 0)) (some row :: σ) M = .ok (.dct (ds.map Deed.d) ((lockOf row).map fun (n : Nat) => D.int (n : Int))) M := fun M σ hr => by
    rw [ev_it, ev_v]
    show R.ofOpt (walkOf M row) M = _
    rw [hr.walk]; rfl
  have hcomp := ev_comp (c := c) (elt := .call false 67 (.cons (.v 5) .nil)) (cond := .nil) (it := .it (.v 0)) (t := .one 5) (own := [5]) (σ := [some row, none, none, none, none, none]) (M := M) (M' := M) (ys := ds) (enc := Deed.d) (g := fun d => some (.bl d.good)) (hit M _ hr) (fun d _ => by
      rw [locks_lock]
      simp [cF, ev_c, ev_v, ev_g, ev_bin, ev_neg, ev_not, ev_cmp, ev_chain, ev_and, ev_or, ev_ife, ev_nil, ev_cons, ev_tup, ev_lst, ev_new, ev_idx, ev_slc, ev_rev, ev_call, ev_bf, ev_mt, ev_it, ev_rng, ev_enum, ev_zip, ex_skip, ex_seq, ex_asg, ex_setix, ex_aug, ex_augix, ex_ife, ex_ret, ex_retN, ex_expr, ex_brk, ex_cont, R.to, R.bind, R.ofOpt, RS.andThen, nxO, tupD, boolD, newD, cmpD, cmpop, binop, addD, mulD, catD, negD, idxD, idxO, iop, partR, partD, cutD, revD, recvD, mth, objL, one1, zero1, appendD, extendD, popD, setD, bfn, lenD, sumD, allD, anyD, minD, maxD, absD, sortedD, tupleD, listD, isinstD, isTy, kindD, tyIn, Ctx.may, Ctx.lock, Tg.asg, asgs, items, itemsL, lockOf, walkOf, walkD, walkR, itemsT, isNil, lstD, oneD, D.pure, D.pure.pureL, eqM_str, eqM_int, eqM_non, eqM_intnon, Mini.get?, place?, intsOf, minL, maxL, Mini.wipe, List.getElem?_cons_zero, List.getElem?_cons_succ, Option.join, List.set_cons_zero, List.set_cons_succ, List.map_cons, List.map_nil, Option.map_some, Option.map_none, Option.bind_some, Option.bind_none, calmR, e67]) (by omega)
  rw [fm_map] at hcomp
  have t1 : ev c (.or (.not (.bf .isinst (.cons (.v 0) (.cons (.c (.ty .list)) .nil)))) (.or (.cmp .gt (.bf .len (.cons (.v 0) .nil)) (.g 4)) (.not (.bf .all (.cons (.comp (.call false 67 (.cons (.v 5) .nil)) .nil (.it (.v 0)) (.one 5) [5]) .nil))))) [some row, none, none, none, none, none] M = .ok (.bl (!(decide (ds.length ≤ 40) && ds.all Deed.good))) M := by
    have a1 : ev c (.bf .isinst (.cons (.v 0) (.cons (.c (.ty .list)) .nil))) [some row, none, none, none, none, none] M = .ok (.bl true) M := by
      show isinstD [row, .ty .list] M = _
      show R.ofOpt ((isTy M .list row).map D.bl) M = _
      rw [hr.isL]; rfl
    have a2 : ev c (.cmp .gt (.bf .len (.cons (.v 0) .nil)) (.g 4)) [some row, none, none, none, none, none] M = .ok (.bl (decide (¬ ds.length ≤ 40))) M := by
      rw [ev_cmp]
      have : ev c (.bf .len (.cons (.v 0) .nil)) [some row, none, none, none, none, none] M = .ok (.int ds.length) M := by
        show lenD row M = _
        rw [hr.len]; simp
      rw [this]
      simp only [R.bind, ev_g, hgl, g4, R.ofOpt]
      show R.ok (D.bl (decide ((40 : Int) < (ds.length : Int)))) M = _
      congr 2
      apply decide_eq_decide.mpr
      omega
    have a3 : ev c (.bf .all (.cons (.comp (.call false 67 (.cons (.v 5) .nil)) .nil (.it (.v 0)) (.one 5) [5]) .nil)) [some row, none, none, none, none, none] M = .ok (.bl (ds.all Deed.good)) M := by
      rw [ev_bf, ev_cons, hcomp]
      show R.ofOpt ((boolsOf (ds.map fun d => D.bl d.good)).map fun bs => D.bl (bs.all id)) M = _
      have := all_bools (ds.map Deed.good)
      rw [List.map_map] at this
      rw [show (ds.map fun d => D.bl d.good) = ds.map (D.bl ∘ Deed.good) from rfl, this]
      simp [R.ofOpt, Function.comp_def]
    rw [ev_or, ev_not, a1]
    show ev c (.or (.cmp .gt (.bf .len (.cons (.v 0) .nil)) (.g 4)) (.not (.bf .all (.cons (.comp (.call false 67 (.cons (.v 5) .nil)) .nil (.it (.v 0)) (.one 5) [5]) .nil)))) _ M = _
    rw [ev_or, a2]
    by_cases h40 : ds.length ≤ 40
    · simp only [h40, not_true_eq_false, decide_false, decide_true, Bool.true_and, R.bind, boolD, ev_not, a3]
      cases ds.all Deed.good <;> rfl
    · simp [h40, R.bind, boolD]
  rcases Bool.eq_false_or_eq_true (decide (ds.length ≤ 40) && ds.all Deed.good) with hgood | hgood
  rotate_left
  · rw [hgood] at t1
    refine call_rt (M' := M) (v := .bl (rowP ds)) h rfl ?_ rfl (List.take_length)
    rw [hc]
    have e : rowP ds = false := by
      unfold rowP
      rw [← Bool.and_assoc, hgood]; rfl
    rw [e]
    exact sif_t t1 rfl
  rw [hgood] at t1
  have e : rowP ds = rowA ds 0 [] := by
    unfold rowP
    rw [← Bool.and_assoc, hgood]; rfl
  rw [e]
  have h40 : ds.length ≤ 40 := of_decide_eq_true (Bool.and_eq_true_iff.mp hgood).1
  have hlk : M.length ∉ lockOf row := fun z => Nat.lt_irrefl _ (hr.lk _ z)
  have hlk2 : M.length ∉ lk := not_lk hk
  generalize lockOf row = L at *
  have hw := loop_may (f := turn (c.lock L) (.many [3, 4]) b_is_row_1) Deed.d
    (fun r σ N => ∃ (a : Int) (g : List Int) (j3 j4 : Option D), σ = [some row, some (.int a), some (.obj M.length), j3, j4, none] ∧ N = M ++ [.lst (g.map D.int)] ∧ rowA r a g = rowA ds 0 [] ∧ g.length + r.length ≤ 40)
    (fun v N => (∃ g, N = M ++ [g]) ∧ v = .bl (rowA ds 0 [])) (fun _ _ => False) ds [some row, some (.int 0), some (.obj M.length), none, none, none] (M ++ [.lst []]) ⟨0, [], none, none, rfl, rfl, rfl, by simpa using h40⟩ (by
      rintro d r σ N ⟨a, g, j3, j4, rfl, rfl, h2, h3⟩
      cases d with
      | ask n =>
        refine .inl ⟨[some row, some (.int (a + 1)), some (.obj M.length), some (.str sAsk), some (.int n), none], M ++ [.lst (g.map D.int)], .inl ?_, a + 1, g, _, _, rfl, rfl, by rw [← h2]; rfl, by simp at h3 ⊢; omega⟩
        simp [turn, b_is_row_1, ev_c, ev_v, ev_g, ev_bin, ev_neg, ev_not, ev_cmp, ev_chain, ev_and, ev_or, ev_ife, ev_nil, ev_cons, ev_tup, ev_lst, ev_new, ev_idx, ev_slc, ev_rev, ev_call, ev_bf, ev_mt, ev_it, ev_rng, ev_enum, ev_zip, ex_skip, ex_seq, ex_asg, ex_setix, ex_aug, ex_augix, ex_ife, ex_ret, ex_retN, ex_expr, ex_brk, ex_cont, R.to, R.bind, R.ofOpt, RS.andThen, nxO, tupD, boolD, newD, cmpD, cmpop, binop, addD, mulD, catD, negD, idxD, idxO, iop, partR, partD, cutD, revD, recvD, mth, objL, one1, zero1, appendD, extendD, popD, setD, bfn, lenD, sumD, allD, anyD, minD, maxD, absD, sortedD, tupleD, listD, isinstD, isTy, kindD, tyIn, Ctx.may, Ctx.lock, Tg.asg, asgs, items, itemsL, lockOf, walkOf, walkD, walkR, itemsT, isNil, lstD, oneD, D.pure, D.pure.pureL, eqM_str, eqM_int, eqM_non, eqM_intnon, Mini.get?, place?, intsOf, minL, maxL, Mini.wipe, List.getElem?_cons_zero, List.getElem?_cons_succ, Option.join, List.set_cons_zero, List.set_cons_succ, List.map_cons, List.map_nil, Option.map_some, Option.map_none, Option.bind_some, Option.bind_none, Deed.d, sAsk]
      | free n =>
        have hmem : memM (M ++ [.lst (g.map D.int)]) (.int n) (.obj M.length) = some (decide (n ∈ g)) := by
          have er : res 20 (M ++ [.lst (g.map D.int)]) (.obj M.length) = some (.lst (g.map D.int)) := by
            show (match (M ++ [MO.lst (g.map D.int)])[M.length]? with
              | some (.lst xs) => (xs.mapM (res 19 (M ++ [MO.lst (g.map D.int)]))).map D.lst
              | some (.dct ks vs) => (ks.mapM (res 19 (M ++ [MO.lst (g.map D.int)]))).bind fun ks' => (vs.mapM (res 19 (M ++ [MO.lst (g.map D.int)]))).map fun vs' => .dct ks' vs'
              | _ => none) = _
            rw [List.getElem?_concat_length]
            show ((g.map D.int).mapM (res 19 _)).map D.lst = _
            rw [res_ints]; rfl
          show (match res 20 (M ++ [.lst (g.map D.int)]) (.int n), res 20 (M ++ [.lst (g.map D.int)]) (.obj M.length) with
            | some a, some (.lst bs) => if (a.isDat && D.isDat.datL bs) = true then some (bs.any fun b => D.eqv b a) else none
            | some a, some (.tup bs) => if (a.isDat && D.isDat.datL bs) = true then some (bs.any fun b => D.eqv b a) else none
            | _, _ => none) = _
          rw [er]
          show (if (true && D.isDat.datL (g.map D.int)) = true then some ((g.map D.int).any fun b => D.eqv b (.int n)) else none) = _
          rw [dat_ints, any_eqv]
          rfl
        by_cases hbad : n ≥ a ∨ n ∈ g
        · refine .inr (.inl ⟨.bl false, M ++ [.lst (g.map D.int)], ?_, ⟨_, rfl⟩, by rw [← h2]; simp [rowA, hbad]⟩)
          by_cases ha : n ≥ a
          · simp [turn, b_is_row_1, ev_c, ev_v, ev_g, ev_bin, ev_neg, ev_not, ev_cmp, ev_chain, ev_and, ev_or, ev_ife, ev_nil, ev_cons, ev_tup, ev_lst, ev_new, ev_idx, ev_slc, ev_rev, ev_call, ev_bf, ev_mt, ev_it, ev_rng, ev_enum, ev_zip, ex_skip, ex_seq, ex_asg, ex_setix, ex_aug, ex_augix, ex_ife, ex_ret, ex_retN, ex_expr, ex_brk, ex_cont, R.to, R.bind, R.ofOpt, RS.andThen, nxO, tupD, boolD, newD, cmpD, cmpop, binop, addD, mulD, catD, negD, idxD, idxO, iop, partR, partD, cutD, revD, recvD, mth, objL, one1, zero1, appendD, extendD, popD, setD, bfn, lenD, sumD, allD, anyD, minD, maxD, absD, sortedD, tupleD, listD, isinstD, isTy, kindD, tyIn, Ctx.may, Ctx.lock, Tg.asg, asgs, items, itemsL, lockOf, walkOf, walkD, walkR, itemsT, isNil, lstD, oneD, D.pure, D.pure.pureL, eqM_str, eqM_int, eqM_non, eqM_intnon, Mini.get?, place?, intsOf, minL, maxL, Mini.wipe, List.getElem?_cons_zero, List.getElem?_cons_succ, Option.join, List.set_cons_zero, List.set_cons_succ, List.map_cons, List.map_nil, Option.map_some, Option.map_none, Option.bind_some, Option.bind_none, Deed.d, sFree, ha]
          · have hm : n ∈ g := hbad.resolve_left ha
            simp [turn, b_is_row_1, ev_c, ev_v, ev_g, ev_bin, ev_neg, ev_not, ev_cmp, ev_chain, ev_and, ev_or, ev_ife, ev_nil, ev_cons, ev_tup, ev_lst, ev_new, ev_idx, ev_slc, ev_rev, ev_call, ev_bf, ev_mt, ev_it, ev_rng, ev_enum, ev_zip, ex_skip, ex_seq, ex_asg, ex_setix, ex_aug, ex_augix, ex_ife, ex_ret, ex_retN, ex_expr, ex_brk, ex_cont, R.to, R.bind, R.ofOpt, RS.andThen, nxO, tupD, boolD, newD, cmpD, cmpop, binop, addD, mulD, catD, negD, idxD, idxO, iop, partR, partD, cutD, revD, recvD, mth, objL, one1, zero1, appendD, extendD, popD, setD, bfn, lenD, sumD, allD, anyD, minD, maxD, absD, sortedD, tupleD, listD, isinstD, isTy, kindD, tyIn, Ctx.may, Ctx.lock, Tg.asg, asgs, items, itemsL, lockOf, walkOf, walkD, walkR, itemsT, isNil, lstD, oneD, D.pure, D.pure.pureL, eqM_str, eqM_int, eqM_non, eqM_intnon, Mini.get?, place?, intsOf, minL, maxL, Mini.wipe, List.getElem?_cons_zero, List.getElem?_cons_succ, Option.join, List.set_cons_zero, List.set_cons_succ, List.map_cons, List.map_nil, Option.map_some, Option.map_none, Option.bind_some, Option.bind_none, Deed.d, sFree, ha, hmem, hm]
        · have ha : ¬ n ≥ a := fun z => hbad (.inl z)
          have hm : n ∉ g := fun z => hbad (.inr z)
          have hlen : g.length < 100000 := by simp at h3; omega
          refine .inl ⟨[some row, some (.int a), some (.obj M.length), some (.str sFree), some (.int n), none], M ++ [.lst ((g ++ [n]).map D.int)], .inl ?_, a, g ++ [n], _, _, rfl, rfl, by rw [← h2]; simp [rowA, hbad], by simp at h3 ⊢; omega⟩
          simp [turn, b_is_row_1, ev_c, ev_v, ev_g, ev_bin, ev_neg, ev_not, ev_cmp, ev_chain, ev_and, ev_or, ev_ife, ev_nil, ev_cons, ev_tup, ev_lst, ev_new, ev_idx, ev_slc, ev_rev, ev_call, ev_bf, ev_mt, ev_it, ev_rng, ev_enum, ev_zip, ex_skip, ex_seq, ex_asg, ex_setix, ex_aug, ex_augix, ex_ife, ex_ret, ex_retN, ex_expr, ex_brk, ex_cont, R.to, R.bind, R.ofOpt, RS.andThen, nxO, tupD, boolD, newD, cmpD, cmpop, binop, addD, mulD, catD, negD, idxD, idxO, iop, partR, partD, cutD, revD, recvD, mth, objL, one1, zero1, appendD, extendD, popD, setD, bfn, lenD, sumD, allD, anyD, minD, maxD, absD, sortedD, tupleD, listD, isinstD, isTy, kindD, tyIn, Ctx.may, Ctx.lock, Tg.asg, asgs, items, itemsL, lockOf, walkOf, walkD, walkR, itemsT, isNil, lstD, oneD, D.pure, D.pure.pureL, eqM_str, eqM_int, eqM_non, eqM_intnon, Mini.get?, place?, intsOf, minL, maxL, Mini.wipe, List.getElem?_cons_zero, List.getElem?_cons_succ, Option.join, List.set_cons_zero, List.set_cons_succ, List.map_cons, List.map_nil, Option.map_some, Option.map_none, Option.bind_some, Option.bind_none, Deed.d, sFree, ha, hmem, hm, hcl, hlk, hlk2, hlen])
  have hit2 := hit (M ++ [.lst []]) [some (.int 0), some (.obj M.length), none, none, none] hr.app
  have hfor : exec c (.for_ (.many [3, 4]) (.it (.v 0)) b_is_row_1) [some row, some (.int 0), some (.obj M.length), none, none, none] (M ++ [.lst []]) = loopL (turn (c.lock L) (.many [3, 4]) b_is_row_1) (ds.map Deed.d) [some row, some (.int 0), some (.obj M.length), none, none, none] (M ++ [.lst []]) := by
    rw [exec_for hit2, locks_lock]
  rcases hw with ⟨σ', M', h1, hx⟩ | ⟨v, M', h1, ⟨g, rfl⟩, rfl⟩
  · rcases hx with ⟨a, g, j3, j4, rfl, rfl, h2, h3⟩ | hx
    · refine call_rt (M' := M ++ [.lst (g.map D.int)]) (v := .bl (rowA ds 0 [])) h rfl ?_ rfl (by simp)
      rw [hc]
      refine sif_f t1 (seq_nx (σ' := [some row, some (.int 0), some (.obj M.length), none, none, none]) (M' := M ++ [.lst []]) (by simp [ev_c, ev_v, ev_g, ev_bin, ev_neg, ev_not, ev_cmp, ev_chain, ev_and, ev_or, ev_ife, ev_nil, ev_cons, ev_tup, ev_lst, ev_new, ev_idx, ev_slc, ev_rev, ev_call, ev_bf, ev_mt, ev_it, ev_rng, ev_enum, ev_zip, ex_skip, ex_seq, ex_asg, ex_setix, ex_aug, ex_augix, ex_ife, ex_ret, ex_retN, ex_expr, ex_brk, ex_cont, R.to, R.bind, R.ofOpt, RS.andThen, nxO, tupD, boolD, newD, cmpD, cmpop, binop, addD, mulD, catD, negD, idxD, idxO, iop, partR, partD, cutD, revD, recvD, mth, objL, one1, zero1, appendD, extendD, popD, setD, bfn, lenD, sumD, allD, anyD, minD, maxD, absD, sortedD, tupleD, listD, isinstD, isTy, kindD, tyIn, Ctx.may, Ctx.lock, Tg.asg, asgs, items, itemsL, lockOf, walkOf, walkD, walkR, itemsT, isNil, lstD, oneD, D.pure, D.pure.pureL, eqM_str, eqM_int, eqM_non, eqM_intnon, Mini.get?, place?, intsOf, minL, maxL, Mini.wipe, List.getElem?_cons_zero, List.getElem?_cons_succ, Option.join, List.set_cons_zero, List.set_cons_succ, List.map_cons, List.map_nil, Option.map_some, Option.map_none, Option.bind_some, Option.bind_none]) (seq_nx (hfor.trans h1) ?_))
      rw [← h2]
      rfl
    · exact hx.elim
  · refine call_rt (M' := M ++ [g]) (v := .bl (rowA ds 0 [])) h rfl ?_ rfl (by simp)
    rw [hc]
    exact sif_f t1 (seq_nx (σ' := [some row, some (.int 0), some (.obj M.length), none, none, none]) (M' := M ++ [.lst []]) (by simp [ev_c, ev_v, ev_g, ev_bin, ev_neg, ev_not, ev_cmp, ev_chain, ev_and, ev_or, ev_ife, ev_nil, ev_cons, ev_tup, ev_lst, ev_new, ev_idx, ev_slc, ev_rev, ev_call, ev_bf, ev_mt, ev_it, ev_rng, ev_enum, ev_zip, ex_skip, ex_seq, ex_asg, ex_setix, ex_aug, ex_augix, ex_ife, ex_ret, ex_retN, ex_expr, ex_brk, ex_cont, R.to, R.bind, R.ofOpt, RS.andThen, nxO, tupD, boolD, newD, cmpD, cmpop, binop, addD, mulD, catD, negD, idxD, idxO, iop, partR, partD, cutD, revD, recvD, mth, objL, one1, zero1, appendD, extendD, popD, setD, bfn, lenD, sumD, allD, anyD, minD, maxD, absD, sortedD, tupleD, listD, isinstD, isTy, kindD, tyIn, Ctx.may, Ctx.lock, Tg.asg, asgs, items, itemsL, lockOf, walkOf, walkD, walkR, itemsT, isNil, lstD, oneD, D.pure, D.pure.pureL, eqM_str, eqM_int, eqM_non, eqM_intnon, Mini.get?, place?, intsOf, minL, maxL, Mini.wipe, List.getElem?_cons_zero, List.getElem?_cons_succ, Option.join, List.set_cons_zero, List.set_cons_succ, List.map_cons, List.map_nil, Option.map_some, Option.map_none, Option.bind_some, Option.bind_none]) (seq_rt (hfor.trans h1)))
theorem c_need_row (h0 : P.fns.lookup 0 = some d_is_number) (h67 : P.fns.lookup 67 = some d_is_deed) (h68 : P.fns.lookup 68 = some d_is_row) (h : P.fns.lookup 74 = some d_need_row) (g0 : P.gls.lookup 0 = some (.int 4)) (g4 : P.gls.lookup 4 = some (.int 40)) (hk : ∀ n ∈ lk, n < M.length) (row : D) (ds : List Deed) (hr : Sq M row (ds.map Deed.d)) (hl : rowP ds = true) :
    callN P W (k + 4) false 74 [row] fl lk M = .ok .non M := by
  refine call_nx (M' := M) (σ := [some row]) h rfl ?_ (List.take_length)
  have hl40 : ds.length ≤ 40 := of_decide_eq_true (Bool.and_eq_true_iff.mp hl).1
  have e := fun fl => c_is_row (W := W) (k := k) (fl := fl) h0 h67 h68 g0 g4 hk row ds hr (by omega)
  simp [ev_c, ev_v, ev_g, ev_bin, ev_neg, ev_not, ev_cmp, ev_chain, ev_and, ev_or, ev_ife, ev_nil, ev_cons, ev_tup, ev_lst, ev_new, ev_idx, ev_slc, ev_rev, ev_call, ev_bf, ev_mt, ev_it, ev_rng, ev_enum, ev_zip, ex_skip, ex_seq, ex_asg, ex_setix, ex_aug, ex_augix, ex_ife, ex_ret, ex_retN, ex_expr, ex_brk, ex_cont, R.to, R.bind, R.ofOpt, RS.andThen, nxO, tupD, boolD, newD, cmpD, cmpop, binop, addD, mulD, catD, negD, idxD, idxO, iop, partR, partD, cutD, revD, recvD, mth, objL, one1, zero1, appendD, extendD, popD, setD, bfn, lenD, sumD, allD, anyD, minD, maxD, absD, sortedD, tupleD, listD, isinstD, isTy, kindD, tyIn, Ctx.may, Ctx.lock, Tg.asg, asgs, items, itemsL, lockOf, walkOf, walkD, walkR, itemsT, isNil, lstD, oneD, D.pure, D.pure.pureL, eqM_str, eqM_int, eqM_non, eqM_intnon, Mini.get?, place?, intsOf, minL, maxL, Mini.wipe, List.getElem?_cons_zero, List.getElem?_cons_succ, Option.join, List.set_cons_zero, List.set_cons_succ, List.map_cons, List.map_nil, Option.map_some, Option.map_none, Option.bind_some, Option.bind_none, e, hl]
end
end Con
set_option autoImplicit false
set_option maxRecDepth 100000
set_option maxHeartbeats 4000000
namespace Con
open Mini Tx
def plainsD : D := .tup [(.str [102, 105, 114, 115, 116]), (.str [98, 101, 115, 116]), (.str [119, 111, 114, 115, 116]), (.str [110, 101, 120, 116]), (.str [110, 101, 119, 101, 115, 116]), (.str [98, 117, 100, 100, 121])]
def Rl.good (cells : Int) : Rl → Bool
  | .ends b => decide (1 ≤ b ∧ b ≤ 4)
  | .slabs u => decide (1 ≤ u ∧ u ≤ cells)
  | .classes _ => false
  | _ => true
structure HasRun (P : MProg) : Prop where
  h0 : P.fns.lookup 0 = some d_is_number
  h4 : P.fns.lookup 4 = some d_need_cells
  h7 : P.fns.lookup 7 = some d_holes_of
  h28 : P.fns.lookup 28 = some d_with_block
  h66 : P.fns.lookup 66 = some d_without_block
  h58 : P.fns.lookup 58 = some d_is_rule_of
  h73 : P.fns.lookup 73 = some d_need_rule
  h60 : P.fns.lookup 60 = some d_first_open
  h65 : P.fns.lookup 65 = some d_chosen_hole
  h70 : P.fns.lookup 70 = some d_place
  h69 : P.fns.lookup 69 = some d_begun
  h71 : P.fns.lookup 71 = some d_put
  h72 : P.fns.lookup 72 = some d_take
  h67 : P.fns.lookup 67 = some d_is_deed
  h68 : P.fns.lookup 68 = some d_is_row
  h74 : P.fns.lookup 74 = some d_need_row
  h76 : P.fns.lookup 76 = some d_run
  h75 : P.fns.lookup 75 = some d_need_run
  g0 : P.gls.lookup 0 = some (.int 4)
  g1 : P.gls.lookup 1 = some (.int 9)
  g2 : P.gls.lookup 2 = some plainsD
  g4 : P.gls.lookup 4 = some (.int 40)
section
variable {P : MProg} {W k : Nat} {fl : Nat} {lk : List Nat} {M : MH}
theorem c_is_rule_of (H : HasRun P) (cells : Int) (r : Rl) (hr : ∀ rs, r ≠ .classes rs) : callN P W (k + 2) false 58 [.int cells, r.d] fl lk M = .ok (.bl (r.good cells)) M := by
  refine call_rt (M' := M) (v := .bl (r.good cells)) H.h58 rfl ?_ rfl (List.take_length)
  have e : ∀ i a b fl lk, callN P W (k + 1) false 0 [.int i, .int a, .int b] fl lk M = .ok (.bl (decide (a ≤ i ∧ i ≤ b))) M := fun i a b fl lk => c_is_number H.h0 i a b
  have g0 := H.g0
  have g2 := H.g2
  have m1 : memM M (.str sEnds) plainsD = some false := rfl
  have m2 : memM M (.str sSlabs) plainsD = some false := rfl
  have q1 : ∀ b, eqM M (.tup [.str sEnds, .int b]) (.tup []) = some false := fun b => rfl
  have q2 : ∀ b, eqM M (.tup [.str sSlabs, .int b]) (.tup []) = some false := fun b => rfl
  generalize hc : (⟨callN P W (k + 1), fun i => P.gls.lookup i, W, M.length, lk⟩ : Ctx) = c
  have hgl : ∀ i, c.gl i = P.gls.lookup i := by subst hc; intro i; rfl
  have e : ∀ i a b, c.call false 0 [.int i, .int a, .int b] c.fl c.lk M = .ok (.bl (decide (a ≤ i ∧ i ≤ b))) M := fun i a b => by subst hc; exact e i a b _ _
  have pl : ∀ s, memM M (.str s) plainsD = some true → eqM M (.tup [.str s]) (.tup []) = some false →
      exec c d_is_rule_of.body [some (.int cells), some (.tup [.str s])] M = .rt (.bl true) M := fun s hm hq => by
    simp [d_is_rule_of, ev_c, ev_v, ev_g, ev_bin, ev_neg, ev_not, ev_cmp, ev_chain, ev_and, ev_or, ev_ife, ev_nil, ev_cons, ev_tup, ev_lst, ev_new, ev_idx, ev_slc, ev_rev, ev_call, ev_bf, ev_mt, ev_it, ev_rng, ev_enum, ev_zip, ex_skip, ex_seq, ex_asg, ex_setix, ex_aug, ex_augix, ex_ife, ex_ret, ex_retN, ex_expr, ex_brk, ex_cont, R.to, R.bind, R.ofOpt, RS.andThen, nxO, tupD, boolD, newD, cmpD, cmpop, binop, addD, mulD, catD, negD, idxD, idxO, iop, partR, partD, cutD, revD, recvD, mth, objL, one1, zero1, appendD, extendD, popD, setD, bfn, lenD, sumD, allD, anyD, minD, maxD, absD, sortedD, tupleD, listD, isinstD, isTy, kindD, tyIn, Ctx.may, Ctx.lock, Tg.asg, asgs, items, itemsL, lockOf, walkOf, walkD, walkR, itemsT, isNil, lstD, oneD, D.pure, D.pure.pureL, eqM_str, eqM_int, eqM_non, eqM_intnon, Mini.get?, place?, intsOf, minL, maxL, Mini.wipe, List.getElem?_cons_zero, List.getElem?_cons_succ, Option.join, List.set_cons_zero, List.set_cons_succ, List.map_cons, List.map_nil, Option.map_some, Option.map_none, Option.bind_some, Option.bind_none, hgl, g2, hm, hq]
  have t1 : ∀ s b, eqM M (.tup [.str s, .int b]) (.tup []) = some false → ev c (.or (.not (.bf .isinst (.cons (.v 1) (.cons (.c (.ty .tuple)) .nil)))) (.or (.cmp .eq (.v 1) (.tup .nil)) (.not (.bf .isinst (.cons (.idx (.v 1) (.c (.int 0))) (.cons (.c (.ty .str)) .nil)))))) [some (.int cells), some (.tup [.str s, .int b])] M = .ok (.bl false) M := fun s b hq => by
    simp [ev_c, ev_v, ev_g, ev_bin, ev_neg, ev_not, ev_cmp, ev_chain, ev_and, ev_or, ev_ife, ev_nil, ev_cons, ev_tup, ev_lst, ev_new, ev_idx, ev_slc, ev_rev, ev_call, ev_bf, ev_mt, ev_it, ev_rng, ev_enum, ev_zip, ex_skip, ex_seq, ex_asg, ex_setix, ex_aug, ex_augix, ex_ife, ex_ret, ex_retN, ex_expr, ex_brk, ex_cont, R.to, R.bind, R.ofOpt, RS.andThen, nxO, tupD, boolD, newD, cmpD, cmpop, binop, addD, mulD, catD, negD, idxD, idxO, iop, partR, partD, cutD, revD, recvD, mth, objL, one1, zero1, appendD, extendD, popD, setD, bfn, lenD, sumD, allD, anyD, minD, maxD, absD, sortedD, tupleD, listD, isinstD, isTy, kindD, tyIn, Ctx.may, Ctx.lock, Tg.asg, asgs, items, itemsL, lockOf, walkOf, walkD, walkR, itemsT, isNil, lstD, oneD, D.pure, D.pure.pureL, eqM_str, eqM_int, eqM_non, eqM_intnon, Mini.get?, place?, intsOf, minL, maxL, Mini.wipe, List.getElem?_cons_zero, List.getElem?_cons_succ, Option.join, List.set_cons_zero, List.set_cons_succ, List.map_cons, List.map_nil, Option.map_some, Option.map_none, Option.bind_some, Option.bind_none, hq]
  have t2 : ∀ s b, memM M (.str s) plainsD = some false → ev c (.cmp .mem (.idx (.v 1) (.c (.int 0))) (.g 2)) [some (.int cells), some (.tup [.str s, .int b])] M = .ok (.bl false) M := fun s b hm => by
    simp [ev_c, ev_v, ev_g, ev_bin, ev_neg, ev_not, ev_cmp, ev_chain, ev_and, ev_or, ev_ife, ev_nil, ev_cons, ev_tup, ev_lst, ev_new, ev_idx, ev_slc, ev_rev, ev_call, ev_bf, ev_mt, ev_it, ev_rng, ev_enum, ev_zip, ex_skip, ex_seq, ex_asg, ex_setix, ex_aug, ex_augix, ex_ife, ex_ret, ex_retN, ex_expr, ex_brk, ex_cont, R.to, R.bind, R.ofOpt, RS.andThen, nxO, tupD, boolD, newD, cmpD, cmpop, binop, addD, mulD, catD, negD, idxD, idxO, iop, partR, partD, cutD, revD, recvD, mth, objL, one1, zero1, appendD, extendD, popD, setD, bfn, lenD, sumD, allD, anyD, minD, maxD, absD, sortedD, tupleD, listD, isinstD, isTy, kindD, tyIn, Ctx.may, Ctx.lock, Tg.asg, asgs, items, itemsL, lockOf, walkOf, walkD, walkR, itemsT, isNil, lstD, oneD, D.pure, D.pure.pureL, eqM_str, eqM_int, eqM_non, eqM_intnon, Mini.get?, place?, intsOf, minL, maxL, Mini.wipe, List.getElem?_cons_zero, List.getElem?_cons_succ, Option.join, List.set_cons_zero, List.set_cons_succ, List.map_cons, List.map_nil, Option.map_some, Option.map_none, Option.bind_some, Option.bind_none, hgl, g2, hm]
  have t3 : ∀ s b, ev c (.cmp .ne (.bf .len (.cons (.v 1) .nil)) (.c (.int 2))) [some (.int cells), some (.tup [.str s, .int b])] M = .ok (.bl false) M := fun s b => rfl
  have t4 : ∀ s b t, ev c (.cmp .eq (.idx (.v 1) (.c (.int 0))) (.c (.str t))) [some (.int cells), some (.tup [.str s, .int b])] M = .ok (.bl (decide (s = t))) M := fun s b t => rfl
  cases r with
  | classes rs => exact absurd rfl (hr rs)
  | ends b =>
    show exec c d_is_rule_of.body [some (.int cells), some (.tup [.str sEnds, .int b])] M = .rt (.bl (decide (1 ≤ b ∧ b ≤ 4))) M
    refine sif_f (t1 _ _ (q1 b)) (sif_f (t2 _ _ m1) (sif_f (t3 _ _) (sif_t (t4 _ _ _) (ret_of ?_))))
    simp [ev_c, ev_v, ev_g, ev_bin, ev_neg, ev_not, ev_cmp, ev_chain, ev_and, ev_or, ev_ife, ev_nil, ev_cons, ev_tup, ev_lst, ev_new, ev_idx, ev_slc, ev_rev, ev_call, ev_bf, ev_mt, ev_it, ev_rng, ev_enum, ev_zip, ex_skip, ex_seq, ex_asg, ex_setix, ex_aug, ex_augix, ex_ife, ex_ret, ex_retN, ex_expr, ex_brk, ex_cont, R.to, R.bind, R.ofOpt, RS.andThen, nxO, tupD, boolD, newD, cmpD, cmpop, binop, addD, mulD, catD, negD, idxD, idxO, iop, partR, partD, cutD, revD, recvD, mth, objL, one1, zero1, appendD, extendD, popD, setD, bfn, lenD, sumD, allD, anyD, minD, maxD, absD, sortedD, tupleD, listD, isinstD, isTy, kindD, tyIn, Ctx.may, Ctx.lock, Tg.asg, asgs, items, itemsL, lockOf, walkOf, walkD, walkR, itemsT, isNil, lstD, oneD, D.pure, D.pure.pureL, eqM_str, eqM_int, eqM_non, eqM_intnon, Mini.get?, place?, intsOf, minL, maxL, Mini.wipe, List.getElem?_cons_zero, List.getElem?_cons_succ, Option.join, List.set_cons_zero, List.set_cons_succ, List.map_cons, List.map_nil, Option.map_some, Option.map_none, Option.bind_some, Option.bind_none, hgl, g0, e, Rl.good]
  | slabs b =>
    show exec c d_is_rule_of.body [some (.int cells), some (.tup [.str sSlabs, .int b])] M = .rt (.bl (decide (1 ≤ b ∧ b ≤ cells))) M
    refine sif_f (t1 _ _ (q2 b)) (sif_f (t2 _ _ m2) (sif_f (t3 _ _) (sif_f (t4 _ _ _) (sif_f (t4 _ _ _) (ret_of ?_)))))
    rw [ev_and, t4]
    simp [ev_c, ev_v, ev_g, ev_bin, ev_neg, ev_not, ev_cmp, ev_chain, ev_and, ev_or, ev_ife, ev_nil, ev_cons, ev_tup, ev_lst, ev_new, ev_idx, ev_slc, ev_rev, ev_call, ev_bf, ev_mt, ev_it, ev_rng, ev_enum, ev_zip, ex_skip, ex_seq, ex_asg, ex_setix, ex_aug, ex_augix, ex_ife, ex_ret, ex_retN, ex_expr, ex_brk, ex_cont, R.to, R.bind, R.ofOpt, RS.andThen, nxO, tupD, boolD, newD, cmpD, cmpop, binop, addD, mulD, catD, negD, idxD, idxO, iop, partR, partD, cutD, revD, recvD, mth, objL, one1, zero1, appendD, extendD, popD, setD, bfn, lenD, sumD, allD, anyD, minD, maxD, absD, sortedD, tupleD, listD, isinstD, isTy, kindD, tyIn, Ctx.may, Ctx.lock, Tg.asg, asgs, items, itemsL, lockOf, walkOf, walkD, walkR, itemsT, isNil, lstD, oneD, D.pure, D.pure.pureL, eqM_str, eqM_int, eqM_non, eqM_intnon, Mini.get?, place?, intsOf, minL, maxL, Mini.wipe, List.getElem?_cons_zero, List.getElem?_cons_succ, Option.join, List.set_cons_zero, List.set_cons_succ, List.map_cons, List.map_nil, Option.map_some, Option.map_none, Option.bind_some, Option.bind_none, hgl, g0, e, Rl.good, sSlabs]
  | first => exact pl sFirst rfl rfl
  | best => exact pl sBest rfl rfl
  | worst => exact pl sWorst rfl rfl
  | next => exact pl sNext rfl rfl
  | newest => exact pl sNewest rfl rfl
  | buddy => exact pl sBuddy rfl rfl
theorem c_need_rule (H : HasRun P) (cells : Int) (r : Rl) (h1 : 1 ≤ cells) (h9 : cells ≤ 9) (hr : r.good cells = true) : callN P W (k + 3) false 73 [.int cells, r.d] fl lk M = .ok .non M := by
  refine call_nx (M' := M) (σ := [some (.int cells), some r.d]) H.h73 rfl ?_ (List.take_length)
  have g1 := H.g1
  have e1 : ∀ fl lk, callN P W (k + 2) false 4 [.int cells, .int 9] fl lk M = .ok .non M := fun fl lk => c_need_cells H.h0 H.h4 cells 9 h1 h9
  have e2 : ∀ fl lk, callN P W (k + 2) false 58 [.int cells, r.d] fl lk M = .ok (.bl true) M := fun fl lk => by
    rw [c_is_rule_of H cells r (fun rs z => by subst z; cases hr), hr]
  simp [ev_c, ev_v, ev_g, ev_bin, ev_neg, ev_not, ev_cmp, ev_chain, ev_and, ev_or, ev_ife, ev_nil, ev_cons, ev_tup, ev_lst, ev_new, ev_idx, ev_slc, ev_rev, ev_call, ev_bf, ev_mt, ev_it, ev_rng, ev_enum, ev_zip, ex_skip, ex_seq, ex_asg, ex_setix, ex_aug, ex_augix, ex_ife, ex_ret, ex_retN, ex_expr, ex_brk, ex_cont, R.to, R.bind, R.ofOpt, RS.andThen, nxO, tupD, boolD, newD, cmpD, cmpop, binop, addD, mulD, catD, negD, idxD, idxO, iop, partR, partD, cutD, revD, recvD, mth, objL, one1, zero1, appendD, extendD, popD, setD, bfn, lenD, sumD, allD, anyD, minD, maxD, absD, sortedD, tupleD, listD, isinstD, isTy, kindD, tyIn, Ctx.may, Ctx.lock, Tg.asg, asgs, items, itemsL, lockOf, walkOf, walkD, walkR, itemsT, isNil, lstD, oneD, D.pure, D.pure.pureL, eqM_str, eqM_int, eqM_non, eqM_intnon, Mini.get?, place?, intsOf, minL, maxL, Mini.wipe, List.getElem?_cons_zero, List.getElem?_cons_succ, Option.join, List.set_cons_zero, List.set_cons_succ, List.map_cons, List.map_nil, Option.map_some, Option.map_none, Option.bind_some, Option.bind_none, e1, e2, g1]
theorem c_need_run (H : HasRun P) (hk : ∀ n ∈ lk, n < M.length) (cells : Int) (r : Rl) (row : D) (ds : List Deed) (h1 : 1 ≤ cells) (h9 : cells ≤ 9) (hr : r.good cells = true) (hs : Sq M row (ds.map Deed.d)) (hd : rowP ds = true) : callN P W (k + 5) false 75 [r.d, .int cells, row] fl lk M = .ok .non M := by
  refine call_nx (M' := M) (σ := [some r.d, some (.int cells), some row]) H.h75 rfl ?_ (List.take_length)
  have e1 : ∀ fl lk, callN P W (k + 4) false 73 [.int cells, r.d] fl lk M = .ok .non M := fun fl lk => c_need_rule H cells r h1 h9 hr
  have e2 : ∀ fl, callN P W (k + 4) false 74 [row] fl lk M = .ok .non M := fun fl => c_need_row H.h0 H.h67 H.h68 H.h74 H.g0 H.g4 hk row ds hs hd
  simp [ev_c, ev_v, ev_g, ev_bin, ev_neg, ev_not, ev_cmp, ev_chain, ev_and, ev_or, ev_ife, ev_nil, ev_cons, ev_tup, ev_lst, ev_new, ev_idx, ev_slc, ev_rev, ev_call, ev_bf, ev_mt, ev_it, ev_rng, ev_enum, ev_zip, ex_skip, ex_seq, ex_asg, ex_setix, ex_aug, ex_augix, ex_ife, ex_ret, ex_retN, ex_expr, ex_brk, ex_cont, R.to, R.bind, R.ofOpt, RS.andThen, nxO, tupD, boolD, newD, cmpD, cmpop, binop, addD, mulD, catD, negD, idxD, idxO, iop, partR, partD, cutD, revD, recvD, mth, objL, one1, zero1, appendD, extendD, popD, setD, bfn, lenD, sumD, allD, anyD, minD, maxD, absD, sortedD, tupleD, listD, isinstD, isTy, kindD, tyIn, Ctx.may, Ctx.lock, Tg.asg, asgs, items, itemsL, lockOf, walkOf, walkD, walkR, itemsT, isNil, lstD, oneD, D.pure, D.pure.pureL, eqM_str, eqM_int, eqM_non, eqM_intnon, Mini.get?, place?, intsOf, minL, maxL, Mini.wipe, List.getElem?_cons_zero, List.getElem?_cons_succ, Option.join, List.set_cons_zero, List.set_cons_succ, List.map_cons, List.map_nil, Option.map_some, Option.map_none, Option.bind_some, Option.bind_none, e1, e2]
end
structure RSt where
  found : List Int
  l : List (Int × Int)
  mark : Mk
def oIdx : Option Nat → D
  | none => .non
  | some i => .int i
def stepR (r : Rl) (cells : Int) (s : RSt) : Deed → Option (Option RSt)
  | .ask n => (placeH r cells s.l s.mark n).map fun o => o.map fun at_ => ⟨s.found ++ [at_], sortP (s.l ++ [(at_, n)]), markPut r cells (sortP (s.l ++ [(at_, n)])) s.mark at_ n⟩
  | .free i => match Mini.get? s.found i with
    | none => none
    | some at_ => (markTake r cells (gone s.l at_) s.mark at_).map fun mk => some ⟨s.found, gone s.l at_, mk⟩
def runR (r : Rl) (cells : Int) : List Deed → Nat → RSt → Option (Option Nat × RSt)
  | [], _, s => some (none, s)
  | d :: ds, i, s => match stepR r cells s d with
    | none => none
    | some none => some (some i, s)
    | some (some s') => runR r cells ds (i + 1) s'
def runP (r : Rl) (cells : Int) (ds : List Deed) : Option (Option Nat × RSt) := runR r cells ds 0 ⟨[], [], begunP r⟩
end Con
set_option autoImplicit false
set_option maxRecDepth 100000
set_option maxHeartbeats 4000000
namespace Con
open Mini Tx
def Rl.fitsN (r : Rl) (mk : Mk) (n : Nat) : Prop := match r with
  | .newest => ∃ m, mk = .lst m ∧ m.length ≤ n
  | _ => ∃ i, mk = .num i
theorem Rl.fitsN.fits {r : Rl} {mk : Mk} {n : Nat} (h : r.fitsN mk n) (hn : n ≤ 60) : r.fits mk := by
  cases r <;> first | exact h | (obtain ⟨m, h1, h2⟩ := h; exact ⟨m, h1, Nat.le_trans h2 hn⟩)
theorem Rl.fitsN.mono {r : Rl} {mk : Mk} {n n' : Nat} (h : r.fitsN mk n) (hn : n ≤ n') : r.fitsN mk n' := by
  cases r <;> first | exact h | (obtain ⟨m, h1, h2⟩ := h; exact ⟨m, h1, Nat.le_trans h2 hn⟩)
theorem fits_begun (r : Rl) : r.fitsN (begunP r) 1 := by
  cases r <;> first | exact ⟨_, rfl⟩ | exact ⟨_, rfl, Nat.le_refl _⟩
theorem fits_put {r : Rl} {mk : Mk} {n : Nat} (h : r.fitsN mk n) (cells : Int) (after : List (Int × Int)) (at_ size : Int) : r.fitsN (markPut r cells after mk at_ size) n := by
  cases r with
  | newest =>
    obtain ⟨m, rfl, h2⟩ := h
    exact ⟨_, rfl, Nat.le_trans (List.length_filter_le _ _) (by rw [List.length_map]; exact h2)⟩
  | next => exact ⟨_, rfl⟩
  | _ => exact h
theorem fits_take {r : Rl} {mk mk' : Mk} {n : Nat} (h : r.fitsN mk n) {cells : Int} {after : List (Int × Int)} {at_ : Int} (ht : markTake r cells after mk at_ = some mk') : r.fitsN mk' (n + 1) := by
  cases r with
  | newest =>
    obtain ⟨m, rfl, h2⟩ := h
    have ht : (((holesP cells after).filter fun h => decide (h.1 ≤ at_) && decide (at_ < h.1 + h.2)).head?.map fun own => Mk.lst (own.1 :: m.filter fun a => !(decide (own.1 ≤ a) && decide (a < own.1 + own.2)))) = some mk' := ht
    cases hown : ((holesP cells after).filter fun h => decide (h.1 ≤ at_) && decide (at_ < h.1 + h.2)).head? with
    | none => rw [hown] at ht; cases ht
    | some own =>
      rw [hown] at ht
      cases ht
      exact ⟨_, rfl, Nat.succ_le_succ (Nat.le_trans (List.length_filter_le _ _) h2)⟩
  | _ => (have ht : some mk = some mk' := ht; cases ht; exact h)
def idxd : Nat → List Deed → List (Nat × Deed)
  | _, [] => []
  | k, d :: ds => (k, d) :: idxd (k + 1) ds
def idD (p : Nat × Deed) : D := .tup [.int p.1, p.2.d]
theorem enum_idxd : ∀ (ds : List Deed) (k : Nat), enumT k (ds.map Deed.d) = (idxd k ds).map idD
  | [], _ => rfl
  | d :: ds, k => by
    show D.tup [.int k, d.d] :: enumT (k + 1) (ds.map Deed.d) = _
    rw [enum_idxd ds (k + 1)]
    rfl
theorem idxd_len : ∀ (ds : List Deed) (k : Nat), (idxd k ds).length = ds.length
  | [], _ => rfl
  | d :: ds, k => congrArg (· + 1) (idxd_len ds (k + 1))
def resD (o : Option Nat × RSt) : D := .tup [lsI o.2.found, oIdx o.1, stD o.2.l o.2.mark]
theorem gone_len (l : List (Int × Int)) (a : Int) : (gone l a).length ≤ l.length := List.length_filter_le _ _
section
variable {P : MProg} {W k : Nat} {fl : Nat} {lk : List Nat} {M : MH}
theorem oIdx_frz (n0 : Nat) (M : MH) (o : Option Nat) (k : Nat) : frz n0 M k (oIdx o) = some (oIdx o) := by
  cases o <;> cases k <;> rfl
theorem frz_res (M : MH) (i : Option Nat) (s : RSt) : frz M.length (M ++ [.lst (s.found.map D.int)]) 20 (.tup [.obj M.length, oIdx i, stD s.l s.mark]) = some (resD (i, s)) := by
  show ([D.obj M.length, oIdx i, stD s.l s.mark].mapM (frz M.length (M ++ [.lst (s.found.map D.int)]) 19)).map D.tup = _
  have e1 : frz M.length (M ++ [.lst (s.found.map D.int)]) 19 (.obj M.length) = some (lsI s.found) := by
    show (if M.length < M.length then some (D.obj M.length) else match (M ++ [MO.lst (s.found.map D.int)])[M.length]? with
      | some (.lst xs) => (xs.mapM (frz M.length (M ++ [.lst (s.found.map D.int)]) 18)).map D.lst
      | some (.dct ks vs) => (ks.mapM (frz M.length (M ++ [.lst (s.found.map D.int)]) 18)).bind fun ks' => (vs.mapM (frz M.length (M ++ [.lst (s.found.map D.int)]) 18)).map fun vs' => D.dct ks' vs'
      | _ => none) = _
    rw [if_neg (Nat.lt_irrefl _), List.getElem?_concat_length]
    show ((s.found.map D.int).mapM (frz _ _ 18)).map D.lst = _
    rw [frz_ints]; rfl
  have e3 : frz M.length (M ++ [.lst (s.found.map D.int)]) 19 (stD s.l s.mark) = some (stD s.l s.mark) := by
    show ([lay s.l, s.mark.d].mapM (frz M.length (M ++ [.lst (s.found.map D.int)]) 18)).map D.tup = _
    have e1 : frz M.length (M ++ [.lst (s.found.map D.int)]) 18 (lay s.l) = some (lay s.l) := by
      show ((s.l.map pairD).mapM (frz _ _ 17)).map D.tup = _
      rw [frz_pairs _ 15]; rfl
    simp [List.mapM_cons, e1, frz_mk _ 17, stD]
  simp [List.mapM_cons, e1, oIdx_frz, e3, resD]
theorem c_run (H : HasRun P) (hk : ∀ n ∈ lk, n < M.length) (cells : Int) (r : Rl) (hh : r.hole = true) (row : D) (ds : List Deed) (hs : Sq M row (ds.map Deed.d)) (hl : ds.length ≤ 45) (i0 : Option Nat) (s0 : RSt) (ho : runP r cells ds = some (i0, s0)) :
    callN P W (k + 4) false 76 [r.d, .int cells, row] fl lk M = .ok (resD (i0, s0)) M := by
  refine call_rt (M' := M ++ [.lst (s0.found.map D.int)]) (v := .tup [.obj M.length, oIdx i0, stD s0.l s0.mark]) H.h76 rfl ?_ (frz_res M i0 s0) (by simp)
  generalize hc : (⟨callN P W (k + 3), fun i => P.gls.lookup i, W, M.length, lk⟩ : Ctx) = c
  have hcl : c.lk = lk := by subst hc; rfl
  have hcf : c.fl = M.length := by subst hc; rfl
  have e69 : ∀ fl lk, c.call false 69 [r.d] fl lk M = .ok (stD [] (begunP r)) M := fun fl lk => by subst hc; exact c_begun H.h69 r
  have hL := hs.lk
  have hit : ev c (.enum (.v 2)) [some r.d, some (.int cells), some row, some (stD [] (begunP r)), some (.obj M.length), none, none, none] (M ++ [.lst []]) = .ok (.dct ((idxd 0 ds).map idD) ((lockOf row).map fun (n : Nat) => D.int (n : Int))) (M ++ [.lst []]) := by
    rw [ev_enum, ev_v]
    show R.ofOpt ((Mini.itemsL (M ++ [.lst []]) row).map fun xs => walkD (enumT 0 xs) (lockOf row)) _ = _
    rw [hs.app.itemsL]
    show R.ok (walkD (enumT 0 (ds.map Deed.d)) (lockOf row)) _ = _
    rw [enum_idxd]; rfl
  generalize lockOf row = L at *
  have hlk : M.length ∉ L := fun z => Nat.lt_irrefl _ (hL _ z)
  have hlk2 : M.length ∉ lk := not_lk hk
  have hk' : ∀ x : MO, ∀ n ∈ L ++ lk, n < (M ++ [x]).length := fun x n hn => by
    rw [List.length_append]
    rcases List.mem_append.mp hn with z | z
    · exact Nat.lt_succ_of_lt (hL n z)
    · exact Nat.lt_succ_of_lt (hk n z)
  have e70 : ∀ (x : MO) (l : List (Int × Int)) (mk : Mk) (size : Int) (o : Option Int), l.length ≤ 100 → r.fits mk → placeH r cells l mk size = some o → ∀ fl, c.call false 70 [r.d, .int cells, stD l mk, .int size] fl (L ++ lk) (M ++ [x]) = .ok (oInt o) (M ++ [x]) := fun x l mk size o h1 h2 h3 fl => by
    subst hc; exact c_place ⟨H.h7, H.h60, H.h65, H.h70⟩ (hk' x) r hh cells size l mk h1 h2 o h3
  have e71 : ∀ (x : MO) (l : List (Int × Int)) (mk : Mk) (at_ size : Int), l.length ≤ 100 → r.fits mk → ∀ fl, c.call false 71 [r.d, .int cells, stD l mk, .int at_, .int size] fl (L ++ lk) (M ++ [x]) = .ok (stD (sortP (l ++ [(at_, size)])) (markPut r cells (sortP (l ++ [(at_, size)])) mk at_ size)) (M ++ [x]) := fun x l mk at_ size h1 h2 fl => by
    subst hc; exact c_put H.h7 H.h28 H.h71 (hk' x) r cells at_ size l mk h1 h2
  have e72 : ∀ (x : MO) (l : List (Int × Int)) (mk mk' : Mk) (at_ : Int), l.length ≤ 100 → r.fits mk → markTake r cells (gone l at_) mk at_ = some mk' → ∀ fl, c.call false 72 [r.d, .int cells, stD l mk, .int at_] fl (L ++ lk) (M ++ [x]) = .ok (stD (gone l at_) mk') (M ++ [x]) := fun x l mk mk' at_ h1 h2 h3 fl => by
    subst hc; exact c_take H.h7 H.h66 H.h72 (hk' x) r cells at_ l mk mk' h1 h2 h3
  refine seq_nx (σ' := [some r.d, some (.int cells), some row, some (stD [] (begunP r)), some (.obj M.length), none, none, none]) (M' := M ++ [.lst []]) (by simp [ev_c, ev_v, ev_g, ev_bin, ev_neg, ev_not, ev_cmp, ev_chain, ev_and, ev_or, ev_ife, ev_nil, ev_cons, ev_tup, ev_lst, ev_new, ev_idx, ev_slc, ev_rev, ev_call, ev_bf, ev_mt, ev_it, ev_rng, ev_enum, ev_zip, ex_skip, ex_seq, ex_asg, ex_setix, ex_aug, ex_augix, ex_ife, ex_ret, ex_retN, ex_expr, ex_brk, ex_cont, R.to, R.bind, R.ofOpt, RS.andThen, nxO, tupD, boolD, newD, cmpD, cmpop, binop, addD, mulD, catD, negD, idxD, idxO, iop, partR, partD, cutD, revD, recvD, mth, objL, one1, zero1, appendD, extendD, popD, setD, bfn, lenD, sumD, allD, anyD, minD, maxD, absD, sortedD, tupleD, listD, isinstD, isTy, kindD, tyIn, Ctx.may, Ctx.lock, Tg.asg, asgs, items, itemsL, lockOf, walkOf, walkD, walkR, itemsT, isNil, lstD, oneD, D.pure, D.pure.pureL, eqM_str, eqM_int, eqM_non, eqM_intnon, Mini.get?, place?, intsOf, minL, maxL, Mini.wipe, List.getElem?_cons_zero, List.getElem?_cons_succ, Option.join, List.set_cons_zero, List.set_cons_succ, List.map_cons, List.map_nil, Option.map_some, Option.map_none, Option.bind_some, Option.bind_none, e69]) ?_
  have hw := loop_may (f := turn (c.lock L) (.many [5, 6]) b_run_1) idD
    (fun q σ N => ∃ (rest : List Deed) (i : Nat) (s : RSt) (j5 j6 j7 : Option D), q = idxd i rest ∧ σ = [some r.d, some (.int cells), some row, some (stD s.l s.mark), some (.obj M.length), j5, j6, j7] ∧ N = M ++ [.lst (s.found.map D.int)] ∧ runR r cells rest i s = some (i0, s0) ∧ s.l.length + rest.length ≤ 45 ∧ s.found.length + rest.length ≤ 45 ∧ rest.length ≤ 45 ∧ r.fitsN s.mark (46 - rest.length))
    (fun v N => v = .tup [.obj M.length, oIdx i0, stD s0.l s0.mark] ∧ N = M ++ [.lst (s0.found.map D.int)]) (fun _ _ => False) (idxd 0 ds) [some r.d, some (.int cells), some row, some (stD [] (begunP r)), some (.obj M.length), none, none, none] (M ++ [.lst []])
    ⟨ds, 0, ⟨[], [], begunP r⟩, none, none, none, rfl, rfl, rfl, ho, by simpa using hl, by simpa using hl, hl, (fits_begun r).mono (by omega)⟩ (by
      rintro ⟨i', d⟩ q σ N ⟨rest, i, s, j5, j6, j7, hq, rfl, rfl, hrun, hl1, hl2, hl3, hf⟩
      cases rest with
      | nil => cases hq
      | cons d' rest =>
        cases hq
        have hf60 : r.fits s.mark := hf.fits (by omega)
        have hl100 : s.l.length ≤ 100 := by simp at hl1; omega
        unfold runR at hrun
        cases hst : stepR r cells s d with
        | none => rw [hst] at hrun; cases hrun
        | some o =>
          rw [hst] at hrun
          cases d with
          | ask n =>
            have hst : (placeH r cells s.l s.mark n).map (fun o => o.map fun at_ => (⟨s.found ++ [at_], sortP (s.l ++ [(at_, n)]), markPut r cells (sortP (s.l ++ [(at_, n)])) s.mark at_ n⟩ : RSt)) = some o := hst
            cases hp : placeH r cells s.l s.mark n with
            | none => rw [hp] at hst; cases hst
            | some p =>
              rw [hp] at hst
              have e := e70 (.lst (s.found.map D.int)) s.l s.mark n p hl100 hf60 hp
              cases p with
              | none =>
                cases hst
                cases hrun
                refine .inr (.inl ⟨_, _, ?_, rfl, rfl⟩)
                simp [turn, b_run_1, ev_c, ev_v, ev_g, ev_bin, ev_neg, ev_not, ev_cmp, ev_chain, ev_and, ev_or, ev_ife, ev_nil, ev_cons, ev_tup, ev_lst, ev_new, ev_idx, ev_slc, ev_rev, ev_call, ev_bf, ev_mt, ev_it, ev_rng, ev_enum, ev_zip, ex_skip, ex_seq, ex_asg, ex_setix, ex_aug, ex_augix, ex_ife, ex_ret, ex_retN, ex_expr, ex_brk, ex_cont, R.to, R.bind, R.ofOpt, RS.andThen, nxO, tupD, boolD, newD, cmpD, cmpop, binop, addD, mulD, catD, negD, idxD, idxO, iop, partR, partD, cutD, revD, recvD, mth, objL, one1, zero1, appendD, extendD, popD, setD, bfn, lenD, sumD, allD, anyD, minD, maxD, absD, sortedD, tupleD, listD, isinstD, isTy, kindD, tyIn, Ctx.may, Ctx.lock, Tg.asg, asgs, items, itemsL, lockOf, walkOf, walkD, walkR, itemsT, isNil, lstD, oneD, D.pure, D.pure.pureL, eqM_str, eqM_int, eqM_non, eqM_intnon, Mini.get?, place?, intsOf, minL, maxL, Mini.wipe, List.getElem?_cons_zero, List.getElem?_cons_succ, Option.join, List.set_cons_zero, List.set_cons_succ, List.map_cons, List.map_nil, Option.map_some, Option.map_none, Option.bind_some, Option.bind_none, idD, Deed.d, sAsk, e, hcl, oInt, oIdx]
              | some at_ =>
                cases hst
                have e2 := e71 (.lst ((s.found ++ [at_]).map D.int)) s.l s.mark at_ n hl100 hf60
                have hlen : s.found.length < 100000 := by simp at hl2; omega
                refine .inl ⟨[some r.d, some (.int cells), some row, some (stD (sortP (s.l ++ [(at_, n)])) (markPut r cells (sortP (s.l ++ [(at_, n)])) s.mark at_ n)), some (.obj M.length), some (.int i'), some (Deed.d (.ask n)), some (.int at_)], M ++ [.lst ((s.found ++ [at_]).map D.int)], .inl ?_, rest, i' + 1, _, _, _, _, rfl, rfl, rfl, hrun, ?_, ?_, ?_, ?_⟩
                · simp [List.map_append] at e2
                  simp [turn, b_run_1, ev_c, ev_v, ev_g, ev_bin, ev_neg, ev_not, ev_cmp, ev_chain, ev_and, ev_or, ev_ife, ev_nil, ev_cons, ev_tup, ev_lst, ev_new, ev_idx, ev_slc, ev_rev, ev_call, ev_bf, ev_mt, ev_it, ev_rng, ev_enum, ev_zip, ex_skip, ex_seq, ex_asg, ex_setix, ex_aug, ex_augix, ex_ife, ex_ret, ex_retN, ex_expr, ex_brk, ex_cont, R.to, R.bind, R.ofOpt, RS.andThen, nxO, tupD, boolD, newD, cmpD, cmpop, binop, addD, mulD, catD, negD, idxD, idxO, iop, partR, partD, cutD, revD, recvD, mth, objL, one1, zero1, appendD, extendD, popD, setD, bfn, lenD, sumD, allD, anyD, minD, maxD, absD, sortedD, tupleD, listD, isinstD, isTy, kindD, tyIn, Ctx.may, Ctx.lock, Tg.asg, asgs, items, itemsL, lockOf, walkOf, walkD, walkR, itemsT, isNil, lstD, oneD, D.pure, D.pure.pureL, eqM_str, eqM_int, eqM_non, eqM_intnon, Mini.get?, place?, intsOf, minL, maxL, Mini.wipe, List.getElem?_cons_zero, List.getElem?_cons_succ, Option.join, List.set_cons_zero, List.set_cons_succ, List.map_cons, List.map_nil, Option.map_some, Option.map_none, Option.bind_some, Option.bind_none, idD, Deed.d, sAsk, e, hcl, oInt, hlk, hlk2, hlen, e2]
                · rw [sortP_len]; simp at hl1 ⊢; omega
                · simp at hl2 ⊢; omega
                · simp at hl3; omega
                · exact fits_put (hf.mono (by simp; omega)) _ _ _ _
          | free n =>
            have hst : (match Mini.get? s.found n with
              | none => none
              | some at_ => (markTake r cells (gone s.l at_) s.mark at_).map fun mk => some (⟨s.found, gone s.l at_, mk⟩ : RSt)) = some o := hst
            cases hg : Mini.get? s.found n with
            | none => rw [hg] at hst; cases hst
            | some at_ =>
              rw [hg] at hst
              have hst : (markTake r cells (gone s.l at_) s.mark at_).map (fun mk => some (⟨s.found, gone s.l at_, mk⟩ : RSt)) = some o := hst
              cases hm : markTake r cells (gone s.l at_) s.mark at_ with
              | none => rw [hm] at hst; cases hst
              | some mk' =>
                rw [hm] at hst
                cases hst
                have e := e72 (.lst (s.found.map D.int)) s.l s.mark mk' at_ hl100 hf60 hm
                have hg' : Mini.get? (s.found.map D.int) n = some (.int at_) := by
                  unfold Mini.get? at hg ⊢
                  rw [List.length_map]
                  cases hp : place? s.found.length n with
                  | none => rw [hp] at hg; cases hg
                  | some j =>
                    rw [hp] at hg
                    show (s.found.map D.int)[j]? = _
                    rw [List.getElem?_map, show s.found[j]? = some at_ from hg]; rfl
                have hgl := gone_len s.l at_
                refine .inl ⟨[some r.d, some (.int cells), some row, some (stD (gone s.l at_) mk'), some (.obj M.length), some (.int i'), some (Deed.d (.free n)), j7], M ++ [.lst (s.found.map D.int)], .inl ?_, rest, i' + 1, _, _, _, _, rfl, rfl, rfl, hrun, by simp at hl1; simp; omega, by simp at hl2; simp; omega, by simp at hl3; omega, ?_⟩
                · have hi : ∀ c' σ, ev c' (.idx (.v 4) (.idx (.v 6) (.c (.int 1)))) [some r.d, some (.int cells), some row, some (stD s.l s.mark), some (.obj M.length), some (.int i'), some (Deed.d (.free n)), σ] (M ++ [.lst (s.found.map D.int)]) = .ok (.int at_) (M ++ [.lst (s.found.map D.int)]) := fun c' σ => by
                    rw [ev_idx, ev_v]
                    show R.ofOpt ((Mini.items (M ++ [.lst (s.found.map D.int)]) (.obj M.length)).bind fun xs => Mini.get? xs n) _ = _
                    simp [Mini.items, hg', R.ofOpt]
                  have t : (Tg.many [5, 6]).asg (idD (i', Deed.free n)) [some r.d, some (.int cells), some row, some (stD s.l s.mark), some (.obj M.length), j5, j6, j7] = some [some r.d, some (.int cells), some row, some (stD s.l s.mark), some (.obj M.length), some (.int i'), some (Deed.d (.free n)), j7] := rfl
                  unfold turn
                  rw [t]
                  show exec (c.lock L) b_run_1 _ _ = _
                  refine ife_f (M' := M ++ [.lst (s.found.map D.int)]) rfl ?_
                  refine asg_of (v := stD (gone s.l at_) mk') ?_ rfl
                  rw [ev_call]
                  have hargs : ev (c.lock L) (.cons (.v 0) (.cons (.v 1) (.cons (.v 3) (.cons (.idx (.v 4) (.idx (.v 6) (.c (.int 1)))) .nil)))) [some r.d, some (.int cells), some row, some (stD s.l s.mark), some (.obj M.length), some (.int i'), some (Deed.d (.free n)), j7] (M ++ [.lst (s.found.map D.int)]) = .ok (.tup [r.d, .int cells, stD s.l s.mark, .int at_]) (M ++ [.lst (s.found.map D.int)]) := by
                    simp [ev_cons, hi, R.bind, tupD, ev_v, R.ofOpt, ev_nil, Option.join]
                  rw [hargs]
                  show (c.lock L).call false 72 _ _ (L ++ c.lk) _ = _
                  rw [hcl]
                  exact e _
                · exact (fits_take (hf.mono (n' := 45 - rest.length) (by simp only [List.length_cons]; omega)) hm).mono (by simp at hl3; omega))
  have hfor := exec_for (c := c) (t := .many [5, 6]) (b := b_run_1) hit
  rw [locks_lock] at hfor
  rcases hw with ⟨σ', M', h1, hx⟩ | ⟨v, M', h1, rfl, rfl⟩
  · rcases hx with ⟨rest, i, s, j5, j6, j7, hq, rfl, rfl, hrun, _⟩ | hx
    · cases rest with
      | cons d rest => cases hq
      | nil =>
        cases hrun
        exact seq_nx (hfor.trans h1) (ret_of rfl)
    · exact hx.elim
  · exact seq_rt (hfor.trans h1)
theorem c_starts (H : HasRun P) (h85 : P.fns.lookup 85 = some d_starts) (hk : ∀ n ∈ lk, n < M.length) (cells : Int) (r : Rl) (hh : r.hole = true) (hg : r.good cells = true) (h1 : 1 ≤ cells) (h9 : cells ≤ 9) (row : D) (ds : List Deed) (hs : Sq M row (ds.map Deed.d)) (hd : rowP ds = true) (i0 : Option Nat) (s0 : RSt) (ho : runP r cells ds = some (i0, s0)) :
    callN P W (k + 6) false 85 [r.d, .int cells, row] fl lk M = .ok (lsI s0.found) M := by
  have hl40 : ds.length ≤ 40 := of_decide_eq_true (Bool.and_eq_true_iff.mp hd).1
  refine call_rt (M' := M) (v := lsI s0.found) h85 rfl ?_ (by show ((s0.found.map D.int).mapM (frz _ _ 19)).map D.lst = _; rw [frz_ints, Option.map_some]; rfl) (List.take_length)
  have e1 : ∀ fl, callN P W (k + 5) false 75 [r.d, .int cells, row] fl lk M = .ok .non M := fun fl => c_need_run H hk cells r row ds h1 h9 hg hs hd
  have e2 : ∀ fl, callN P W (k + 5) false 76 [r.d, .int cells, row] fl lk M = .ok (resD (i0, s0)) M := fun fl => c_run H hk cells r hh row ds hs (by omega) i0 s0 ho
  simp [ev_c, ev_v, ev_g, ev_bin, ev_neg, ev_not, ev_cmp, ev_chain, ev_and, ev_or, ev_ife, ev_nil, ev_cons, ev_tup, ev_lst, ev_new, ev_idx, ev_slc, ev_rev, ev_call, ev_bf, ev_mt, ev_it, ev_rng, ev_enum, ev_zip, ex_skip, ex_seq, ex_asg, ex_setix, ex_aug, ex_augix, ex_ife, ex_ret, ex_retN, ex_expr, ex_brk, ex_cont, R.to, R.bind, R.ofOpt, RS.andThen, nxO, tupD, boolD, newD, cmpD, cmpop, binop, addD, mulD, catD, negD, idxD, idxO, iop, partR, partD, cutD, revD, recvD, mth, objL, one1, zero1, appendD, extendD, popD, setD, bfn, lenD, sumD, allD, anyD, minD, maxD, absD, sortedD, tupleD, listD, isinstD, isTy, kindD, tyIn, Ctx.may, Ctx.lock, Tg.asg, asgs, items, itemsL, lockOf, walkOf, walkD, walkR, itemsT, isNil, lstD, oneD, D.pure, D.pure.pureL, eqM_str, eqM_int, eqM_non, eqM_intnon, Mini.get?, place?, intsOf, minL, maxL, Mini.wipe, List.getElem?_cons_zero, List.getElem?_cons_succ, Option.join, List.set_cons_zero, List.set_cons_succ, List.map_cons, List.map_nil, Option.map_some, Option.map_none, Option.bind_some, Option.bind_none, e1, e2, resD]
theorem c_fails_at (H : HasRun P) (h86 : P.fns.lookup 86 = some d_fails_at) (hk : ∀ n ∈ lk, n < M.length) (cells : Int) (r : Rl) (hh : r.hole = true) (hg : r.good cells = true) (h1 : 1 ≤ cells) (h9 : cells ≤ 9) (row : D) (ds : List Deed) (hs : Sq M row (ds.map Deed.d)) (hd : rowP ds = true) (i0 : Option Nat) (s0 : RSt) (ho : runP r cells ds = some (i0, s0)) :
    callN P W (k + 6) false 86 [r.d, .int cells, row] fl lk M = .ok (oIdx i0) M := by
  have hl40 : ds.length ≤ 40 := of_decide_eq_true (Bool.and_eq_true_iff.mp hd).1
  refine call_rt (M' := M) (v := oIdx i0) h86 rfl ?_ (oIdx_frz _ _ _ _) (List.take_length)
  have e1 : ∀ fl, callN P W (k + 5) false 75 [r.d, .int cells, row] fl lk M = .ok .non M := fun fl => c_need_run H hk cells r row ds h1 h9 hg hs hd
  have e2 : ∀ fl, callN P W (k + 5) false 76 [r.d, .int cells, row] fl lk M = .ok (resD (i0, s0)) M := fun fl => c_run H hk cells r hh row ds hs (by omega) i0 s0 ho
  simp [ev_c, ev_v, ev_g, ev_bin, ev_neg, ev_not, ev_cmp, ev_chain, ev_and, ev_or, ev_ife, ev_nil, ev_cons, ev_tup, ev_lst, ev_new, ev_idx, ev_slc, ev_rev, ev_call, ev_bf, ev_mt, ev_it, ev_rng, ev_enum, ev_zip, ex_skip, ex_seq, ex_asg, ex_setix, ex_aug, ex_augix, ex_ife, ex_ret, ex_retN, ex_expr, ex_brk, ex_cont, R.to, R.bind, R.ofOpt, RS.andThen, nxO, tupD, boolD, newD, cmpD, cmpop, binop, addD, mulD, catD, negD, idxD, idxO, iop, partR, partD, cutD, revD, recvD, mth, objL, one1, zero1, appendD, extendD, popD, setD, bfn, lenD, sumD, allD, anyD, minD, maxD, absD, sortedD, tupleD, listD, isinstD, isTy, kindD, tyIn, Ctx.may, Ctx.lock, Tg.asg, asgs, items, itemsL, lockOf, walkOf, walkD, walkR, itemsT, isNil, lstD, oneD, D.pure, D.pure.pureL, eqM_str, eqM_int, eqM_non, eqM_intnon, Mini.get?, place?, intsOf, minL, maxL, Mini.wipe, List.getElem?_cons_zero, List.getElem?_cons_succ, Option.join, List.set_cons_zero, List.set_cons_succ, List.map_cons, List.map_nil, Option.map_some, Option.map_none, Option.bind_some, Option.bind_none, e1, e2, resD]
end
end Con
set_option autoImplicit false
set_option maxRecDepth 100000
set_option maxHeartbeats 4000000
namespace Con
open Mini Tx
def town (a b : Int) : MO := .lst [.int a, .int b]
theorem set_town {M : MH} {t : Nat} {a b : Int} {x : MO} (h : M[t]? = some x) : (M.set t (town a b))[t]? = some (town a b) := by
  have hl : t < M.length := by
    rcases Nat.lt_or_ge t M.length with z | z
    · exact z
    · rw [List.getElem?_eq_none z] at h; cases h
  simp [hl]
theorem get_ns {ns : List Int} {i : Int} (h0 : 0 ≤ i) (h1 : i < ns.length) : Mini.get? ns i = some (ns.getD i.toNat 0) := by
  unfold Mini.get? place?
  rw [if_pos h0, if_pos h1]
  have h2 : i.toNat < ns.length := by omega
  show ns[i.toNat]? = _
  rw [List.getElem?_eq_getElem h2]
  simp [h2]
section
variable {c : Ctx} {σ : Sl} {M M' M'' M3 : MH} {a b d : ME} {x y z : D}
theorem v_of {i : Nat} (h : σ[i]? = some (some x)) : ev c (.v i) σ M = .ok x M := by rw [ev_v, h]; rfl
theorem g_of {i : Nat} (h : c.gl i = some x) : ev c (.g i) σ M = .ok x M := by rw [ev_g, h]; rfl
theorem cmp_of {o : Cm} {r : Bool} (ha : ev c a σ M = .ok x M') (hb : ev c b σ M' = .ok y M'') (hr : cmpop o x y M'' = some r) : ev c (.cmp o a b) σ M = .ok (.bl r) M'' := by
  rw [ev_cmp, ha]
  show (ev c b σ M').bind _ = _
  rw [hb]
  show R.ofOpt ((cmpop o x y M'').map D.bl) M'' = _
  rw [hr]; rfl
theorem and_t_of {r : R D} (ha : ev c a σ M = .ok (.bl true) M') (hb : ev c b σ M' = r) : ev c (.and a b) σ M = r := by rw [ev_and, ha]; exact hb
theorem and_f_of (ha : ev c a σ M = .ok (.bl false) M') : ev c (.and a b) σ M = .ok (.bl false) M' := by rw [ev_and, ha]; rfl
theorem or_t_of (ha : ev c a σ M = .ok (.bl true) M') : ev c (.or a b) σ M = .ok (.bl true) M' := by rw [ev_or, ha]; rfl
theorem or_f_of {r : R D} (ha : ev c a σ M = .ok (.bl false) M') (hb : ev c b σ M' = r) : ev c (.or a b) σ M = r := by rw [ev_or, ha]; exact hb
theorem not_of {r : Bool} (ha : ev c a σ M = .ok (.bl r) M') : ev c (.not a) σ M = .ok (.bl (!r)) M' := by rw [ev_not, ha]; cases r <;> rfl
theorem idx_of {r : R D} (ha : ev c a σ M = .ok x M') (hb : ev c b σ M' = .ok y M'') (hr : idxD x y M'' = r) : ev c (.idx a b) σ M = r := by
  rw [ev_idx, ha]
  show (ev c b σ M').bind _ = _
  rw [hb]; exact hr
theorem if_t_of {r : R D} (ha : ev c a σ M = .ok (.bl true) M') (hb : ev c b σ M' = r) : ev c (.ife a b d) σ M = r := by rw [ev_ife, ha]; exact hb
theorem if_f_of {r : R D} (ha : ev c a σ M = .ok (.bl false) M') (hb : ev c d σ M' = r) : ev c (.ife a b d) σ M = r := by rw [ev_ife, ha]; exact hb
theorem cons_of {ys : List D} (ha : ev c a σ M = .ok x M') (hb : ev c b σ M' = .ok (.tup ys) M'') : ev c (.cons a b) σ M = .ok (.tup (x :: ys)) M'' := by
  rw [ev_cons, ha]
  show (ev c b σ M').bind _ = _
  rw [hb]; rfl
theorem call_of {m : Bool} {f : Nat} {ys : List D} {r : R D} (ha : ev c a σ M = .ok (.tup ys) M') (hr : c.call m f ys c.fl c.lk M' = r) : ev c (.call m f a) σ M = r := by rw [ev_call, ha]; exact hr
theorem bf_of {f : Bf} {ys : List D} {r : R D} (ha : ev c a σ M = .ok (.tup ys) M') (hr : bfn f ys M' = r) : ev c (.bf f a) σ M = r := by rw [ev_bf, ha]; exact hr
theorem lst_of {ys : List D} (ha : ev c a σ M = .ok (.tup ys) M') : ev c (.lst a) σ M = .ok (.lst ys) M' := by rw [ev_lst, ha]; rfl
theorem new_of {ys : List D} (ha : ev c a σ M = .ok (.lst ys) M') : ev c (.new a) σ M = .ok (.obj M'.length) (M' ++ [.lst ys]) := by rw [ev_new, ha]; rfl
end
section
variable {P : MProg} {W k : Nat} {fl : Nat} {lk : List Nat} {M : MH}
theorem c_draw (h : P.fns.lookup 10 = some d_law_draw) (ns : List Int) (t : Nat) (a b : Int) (ht : M[t]? = some (town a b)) (ha : 0 ≤ a) (hlk : t ∉ lk) (m : Bool) (many : Int) (hm : 0 < many) (hm2 : many < 1073741824) :
    ∃ v a' b', 0 ≤ v ∧ v < many ∧ 0 ≤ a' ∧ callN P W (k + 1) m 10 [.scr ns, .obj t, .int many] fl lk M = .ok (.int v) (M.set t (town a' b')) := by
  have fin : ∀ (v : Int) (M' : MH), M'.length = M.length → exec ⟨callN P W k, fun i => P.gls.lookup i, W, M.length, lk⟩ d_law_draw.body [some (.scr ns), some (.obj t), some (.int many), none, none, none] M = .rt (.int v) M' → callN P W (k + 1) m 10 [.scr ns, .obj t, .int many] fl lk M = .ok (.int v) M' := fun v M' hl he => by
    unfold callN
    rw [h]
    show (match false, exec ⟨callN P W k, fun i => P.gls.lookup i, W, M.length, lk⟩ d_law_draw.body [some (.scr ns), some (.obj t), some (.int many), none, none, none] M with
        | false, .rt v M' => leave m M.length v M'
        | false, .nx _ M' => leave m M.length .non M'
        | false, .exc c _ M' => .exc c (M'.take M.length)
        | true, .rt v M' => .ok v M'
        | true, .nx _ M' => .ok .non M'
        | true, .exc c _ M' => .exc c M'
        | _, _ => .stuck) = _
    rw [he]
    show leave m M.length (.int v) M' = _
    have : M'.take M.length = M' := by rw [← hl]; exact List.take_length
    cases m <;> simp [leave, frz, R.ofOpt, this]
  generalize hc : (⟨callN P W k, fun i => P.gls.lookup i, W, M.length, lk⟩ : Ctx) = c at fin
  have hcl : c.lk = lk := by subst hc; rfl
  have hti : M[t]? = some (.lst [.int a, .int b]) := ht
  have hmne : many ≠ 0 := by omega
  by_cases hb : b > 0
  · refine ⟨b % many, a, b / many, Int.emod_nonneg _ hmne, Int.emod_lt_of_pos _ hm, ha, fin _ _ (by simp) ?_⟩
    refine sif_t (M' := M) ?_ ?_
    · simp [ev_c, ev_v, ev_g, ev_bin, ev_neg, ev_not, ev_cmp, ev_chain, ev_and, ev_or, ev_ife, ev_nil, ev_cons, ev_tup, ev_lst, ev_new, ev_idx, ev_slc, ev_rev, ev_call, ev_bf, ev_mt, ev_it, ev_rng, ev_enum, ev_zip, ex_skip, ex_seq, ex_asg, ex_setix, ex_aug, ex_augix, ex_ife, ex_ret, ex_retN, ex_expr, ex_brk, ex_cont, R.to, R.bind, R.ofOpt, RS.andThen, nxO, tupD, boolD, newD, cmpD, cmpop, binop, addD, mulD, catD, negD, idxD, idxO, iop, partR, partD, cutD, revD, recvD, mth, objL, one1, zero1, appendD, extendD, popD, setD, bfn, lenD, sumD, allD, anyD, minD, maxD, absD, sortedD, tupleD, listD, isinstD, isTy, kindD, tyIn, Ctx.may, Ctx.lock, Tg.asg, asgs, items, itemsL, lockOf, walkOf, walkD, walkR, itemsT, isNil, lstD, oneD, D.pure, D.pure.pureL, eqM_str, eqM_int, eqM_non, eqM_intnon, Mini.get?, place?, intsOf, minL, maxL, Mini.wipe, List.getElem?_cons_zero, List.getElem?_cons_succ, Option.join, List.set_cons_zero, List.set_cons_succ, List.map_cons, List.map_nil, Option.map_some, Option.map_none, Option.bind_some, Option.bind_none, hti, hb]
    · simp [ev_c, ev_v, ev_g, ev_bin, ev_neg, ev_not, ev_cmp, ev_chain, ev_and, ev_or, ev_ife, ev_nil, ev_cons, ev_tup, ev_lst, ev_new, ev_idx, ev_slc, ev_rev, ev_call, ev_bf, ev_mt, ev_it, ev_rng, ev_enum, ev_zip, ex_skip, ex_seq, ex_asg, ex_setix, ex_aug, ex_augix, ex_ife, ex_ret, ex_retN, ex_expr, ex_brk, ex_cont, R.to, R.bind, R.ofOpt, RS.andThen, nxO, tupD, boolD, newD, cmpD, cmpop, binop, addD, mulD, catD, negD, idxD, idxO, iop, partR, partD, cutD, revD, recvD, mth, objL, one1, zero1, appendD, extendD, popD, setD, bfn, lenD, sumD, allD, anyD, minD, maxD, absD, sortedD, tupleD, listD, isinstD, isTy, kindD, tyIn, Ctx.may, Ctx.lock, Tg.asg, asgs, items, itemsL, lockOf, walkOf, walkD, walkR, itemsT, isNil, lstD, oneD, D.pure, D.pure.pureL, eqM_str, eqM_int, eqM_non, eqM_intnon, Mini.get?, place?, intsOf, minL, maxL, Mini.wipe, List.getElem?_cons_zero, List.getElem?_cons_succ, Option.join, List.set_cons_zero, List.set_cons_succ, List.map_cons, List.map_nil, Option.map_some, Option.map_none, Option.bind_some, Option.bind_none, hti, hm, hm2, hcl, hlk, town]
  have t0 : ev c (.cmp .gt (.idx (.v 1) (.c (.int 1))) (.c (.int 0))) [some (.scr ns), some (.obj t), some (.int many), none, none, none] M = .ok (.bl false) M := by
    simp [ev_c, ev_v, ev_g, ev_bin, ev_neg, ev_not, ev_cmp, ev_chain, ev_and, ev_or, ev_ife, ev_nil, ev_cons, ev_tup, ev_lst, ev_new, ev_idx, ev_slc, ev_rev, ev_call, ev_bf, ev_mt, ev_it, ev_rng, ev_enum, ev_zip, ex_skip, ex_seq, ex_asg, ex_setix, ex_aug, ex_augix, ex_ife, ex_ret, ex_retN, ex_expr, ex_brk, ex_cont, R.to, R.bind, R.ofOpt, RS.andThen, nxO, tupD, boolD, newD, cmpD, cmpop, binop, addD, mulD, catD, negD, idxD, idxO, iop, partR, partD, cutD, revD, recvD, mth, objL, one1, zero1, appendD, extendD, popD, setD, bfn, lenD, sumD, allD, anyD, minD, maxD, absD, sortedD, tupleD, listD, isinstD, isTy, kindD, tyIn, Ctx.may, Ctx.lock, Tg.asg, asgs, items, itemsL, lockOf, walkOf, walkD, walkR, itemsT, isNil, lstD, oneD, D.pure, D.pure.pureL, eqM_str, eqM_int, eqM_non, eqM_intnon, Mini.get?, place?, intsOf, minL, maxL, Mini.wipe, List.getElem?_cons_zero, List.getElem?_cons_succ, Option.join, List.set_cons_zero, List.set_cons_succ, List.map_cons, List.map_nil, Option.map_some, Option.map_none, Option.bind_some, Option.bind_none, hti, hb]
  have s1 : exec c (.asg (.one 4) (.idx (.v 1) (.c (.int 0)))) [some (.scr ns), some (.obj t), some (.int many), none, none, none] M = .nx [some (.scr ns), some (.obj t), some (.int many), none, some (.int a), none] M := by
    simp [ev_c, ev_v, ev_g, ev_bin, ev_neg, ev_not, ev_cmp, ev_chain, ev_and, ev_or, ev_ife, ev_nil, ev_cons, ev_tup, ev_lst, ev_new, ev_idx, ev_slc, ev_rev, ev_call, ev_bf, ev_mt, ev_it, ev_rng, ev_enum, ev_zip, ex_skip, ex_seq, ex_asg, ex_setix, ex_aug, ex_augix, ex_ife, ex_ret, ex_retN, ex_expr, ex_brk, ex_cont, R.to, R.bind, R.ofOpt, RS.andThen, nxO, tupD, boolD, newD, cmpD, cmpop, binop, addD, mulD, catD, negD, idxD, idxO, iop, partR, partD, cutD, revD, recvD, mth, objL, one1, zero1, appendD, extendD, popD, setD, bfn, lenD, sumD, allD, anyD, minD, maxD, absD, sortedD, tupleD, listD, isinstD, isTy, kindD, tyIn, Ctx.may, Ctx.lock, Tg.asg, asgs, items, itemsL, lockOf, walkOf, walkD, walkR, itemsT, isNil, lstD, oneD, D.pure, D.pure.pureL, eqM_str, eqM_int, eqM_non, eqM_intnon, Mini.get?, place?, intsOf, minL, maxL, Mini.wipe, List.getElem?_cons_zero, List.getElem?_cons_succ, Option.join, List.set_cons_zero, List.set_cons_succ, List.map_cons, List.map_nil, Option.map_some, Option.map_none, Option.bind_some, Option.bind_none, hti]
  have s2 : exec c (.augix .add (.v 1) (.c (.int 0)) (.c (.int 1))) [some (.scr ns), some (.obj t), some (.int many), none, some (.int a), none] M = .nx [some (.scr ns), some (.obj t), some (.int many), none, some (.int a), none] (M.set t (town (a + 1) b)) := by
    simp [ev_c, ev_v, ev_g, ev_bin, ev_neg, ev_not, ev_cmp, ev_chain, ev_and, ev_or, ev_ife, ev_nil, ev_cons, ev_tup, ev_lst, ev_new, ev_idx, ev_slc, ev_rev, ev_call, ev_bf, ev_mt, ev_it, ev_rng, ev_enum, ev_zip, ex_skip, ex_seq, ex_asg, ex_setix, ex_aug, ex_augix, ex_ife, ex_ret, ex_retN, ex_expr, ex_brk, ex_cont, R.to, R.bind, R.ofOpt, RS.andThen, nxO, tupD, boolD, newD, cmpD, cmpop, binop, addD, mulD, catD, negD, idxD, idxO, iop, partR, partD, cutD, revD, recvD, mth, objL, one1, zero1, appendD, extendD, popD, setD, bfn, lenD, sumD, allD, anyD, minD, maxD, absD, sortedD, tupleD, listD, isinstD, isTy, kindD, tyIn, Ctx.may, Ctx.lock, Tg.asg, asgs, items, itemsL, lockOf, walkOf, walkD, walkR, itemsT, isNil, lstD, oneD, D.pure, D.pure.pureL, eqM_str, eqM_int, eqM_non, eqM_intnon, Mini.get?, place?, intsOf, minL, maxL, Mini.wipe, List.getElem?_cons_zero, List.getElem?_cons_succ, Option.join, List.set_cons_zero, List.set_cons_succ, List.map_cons, List.map_nil, Option.map_some, Option.map_none, Option.bind_some, Option.bind_none, hti, hcl, hlk, town]
  have ht2 : (M.set t (town (a + 1) b))[t]? = some (.lst [.int (a + 1), .int b]) := set_town ht
  generalize hN : M.set t (town (a + 1) b) = N at s2 ht2
  have hNl : N.length = M.length := by rw [← hN]; simp
  have hNs : ∀ x, N.set t x = M.set t x := fun x => by rw [← hN]; simp
  cases ns with
  | nil =>
    refine ⟨a % many, a + 1, b, Int.emod_nonneg _ hmne, Int.emod_lt_of_pos _ hm, by omega, ?_⟩
    rw [hN]
    refine fin _ _ hNl (sif_f t0 (seq_nx s1 (seq_nx s2 (sif_t (M' := N) rfl (ret_of ?_)))))
    simp [ev_c, ev_v, ev_g, ev_bin, ev_neg, ev_not, ev_cmp, ev_chain, ev_and, ev_or, ev_ife, ev_nil, ev_cons, ev_tup, ev_lst, ev_new, ev_idx, ev_slc, ev_rev, ev_call, ev_bf, ev_mt, ev_it, ev_rng, ev_enum, ev_zip, ex_skip, ex_seq, ex_asg, ex_setix, ex_aug, ex_augix, ex_ife, ex_ret, ex_retN, ex_expr, ex_brk, ex_cont, R.to, R.bind, R.ofOpt, RS.andThen, nxO, tupD, boolD, newD, cmpD, cmpop, binop, addD, mulD, catD, negD, idxD, idxO, iop, partR, partD, cutD, revD, recvD, mth, objL, one1, zero1, appendD, extendD, popD, setD, bfn, lenD, sumD, allD, anyD, minD, maxD, absD, sortedD, tupleD, listD, isinstD, isTy, kindD, tyIn, Ctx.may, Ctx.lock, Tg.asg, asgs, items, itemsL, lockOf, walkOf, walkD, walkR, itemsT, isNil, lstD, oneD, D.pure, D.pure.pureL, eqM_str, eqM_int, eqM_non, eqM_intnon, Mini.get?, place?, intsOf, minL, maxL, Mini.wipe, List.getElem?_cons_zero, List.getElem?_cons_succ, Option.join, List.set_cons_zero, List.set_cons_succ, List.map_cons, List.map_nil, Option.map_some, Option.map_none, Option.bind_some, Option.bind_none, hm]
  | cons n ns =>
    have t1 : ev c (.cmp .eq (.v 0) (.lst .nil)) [some (.scr (n :: ns)), some (.obj t), some (.int many), none, some (.int a), none] N = .ok (.bl false) N := by
      rw [ev_cmp]
      show R.ofOpt ((eqM N (.scr (n :: ns)) (.lst [])).map D.bl) N = _
      have : eqM N (.scr (n :: ns)) (.lst []) = some false := by
        show (if (D.isDat.datL (((n :: ns)).map D.int) && true) = true then some (D.eqv.eqvL ((n :: ns).map D.int) []) else none) = _
        rw [dat_ints]; rfl
      rw [this]; rfl
    have tl : ∀ x5, ev c (.bf .len (.cons (.v 0) .nil)) [some (.scr (n :: ns)), some (.obj t), some (.int many), none, some (.int a), x5] N = .ok (.int ((n :: ns).length : Int)) N := fun x5 => rfl
    generalize hq : (n :: ns) = qs at *
    have hql : 0 < (qs.length : Int) := by rw [← hq]; simp
    have hrest : ∀ (hcond : ev c (.and (.cmp .lt (.v 4) (.bf .len (.cons (.v 0) .nil))) (.cmp .ge (.idx (.v 0) (.v 4)) (.bin .pow (.c (.int 10)) (.c (.int 18))))) [some (.scr qs), some (.obj t), some (.int many), none, some (.int a), none] N = .ok (.bl false) N),
        ∃ v a' b', 0 ≤ v ∧ v < many ∧ 0 ≤ a' ∧ callN P W (k + 1) m 10 [.scr qs, .obj t, .int many] fl lk M = .ok (.int v) (M.set t (town a' b')) := fun hcond => by
      have hix : Mini.get? qs (a % (qs.length : Int)) = some (qs.getD (a % (qs.length : Int)).toNat 0) := get_ns (Int.emod_nonneg _ (by omega)) (Int.emod_lt_of_pos _ hql)
      generalize qs.getD (a % (qs.length : Int)).toNat 0 = z at hix
      have hmx0 : 0 ≤ (z * 1103515245 + 7919 * a + 12345) % 2147483647 := Int.emod_nonneg _ (by decide)
      have hmx1 : (z * 1103515245 + 7919 * a + 12345) % 2147483647 < 2147483647 := Int.emod_lt_of_pos _ (by decide)
      have e1 : ev c (.bin .mod (.bin .add (.bin .add (.bin .mul (.idx (.v 0) (.bin .mod (.v 4) (.bf .len (.cons (.v 0) .nil)))) (.c (.int 1103515245))) (.bin .mul (.c (.int 7919)) (.v 4))) (.c (.int 12345))) (.c (.int 2147483647))) [some (.scr qs), some (.obj t), some (.int many), none, some (.int a), none] N = .ok (.int ((z * 1103515245 + 7919 * a + 12345) % 2147483647)) N := by
        have m0 : ev c (.bin .mod (.v 4) (.bf .len (.cons (.v 0) .nil))) [some (.scr qs), some (.obj t), some (.int many), none, some (.int a), none] N = .ok (.int (a % (qs.length : Int))) N := by
          refine bin_of (v_of rfl) (tl _) ?_
          show (if 0 < (qs.length : Int) then R.ok (D.int (a % (qs.length : Int))) N else .stuck) = _
          rw [if_pos hql]
        have m1 : ev c (.idx (.v 0) (.bin .mod (.v 4) (.bf .len (.cons (.v 0) .nil)))) [some (.scr qs), some (.obj t), some (.int many), none, some (.int a), none] N = .ok (.int z) N := by
          refine idx_of (v_of rfl) m0 ?_
          show R.ofOpt ((Mini.get? qs (a % (qs.length : Int))).map D.int) N = _
          rw [hix]; rfl
        simp [ev_bin, m1, ev_c, ev_v, R.bind, binop, mulD, addD, R.ofOpt, Option.join]
      generalize (z * 1103515245 + 7919 * a + 12345) % 2147483647 = mx at hmx0 hmx1 e1
      have e2 : ev c (.bin .mod (.bin .mod (.bin .mod (.bin .pow (.v 5) (.c (.int 5))) (.c (.int 2147483647))) (.c (.int 999983))) (.v 2)) [some (.scr qs), some (.obj t), some (.int many), none, some (.int a), some (.int mx)] N = .ok (.int (mx ^ 5 % 2147483647 % 999983 % many)) N := by
        have : mx.natAbs < 2 ^ 63 := by omega
        have h5 : ev c (.bin .pow (.v 5) (.c (.int 5))) [some (.scr qs), some (.obj t), some (.int many), none, some (.int a), some (.int mx)] N = .ok (.int (mx ^ 5)) N := by
          show (if (0 : Int) ≤ 5 ∧ (5 : Int) ≤ 1000 ∧ mx.natAbs < 2 ^ 63 then R.ok (D.int (mx ^ ((5 : Int).toNat))) N else .stuck) = _
          rw [if_pos ⟨by decide, by decide, this⟩]; rfl
        simp [ev_bin, h5, ev_c, ev_v, R.bind, binop, R.ofOpt, Option.join, hm]
      refine ⟨mx ^ 5 % 2147483647 % 999983 % many, a + 1, b, Int.emod_nonneg _ hmne, Int.emod_lt_of_pos _ hm, by omega, ?_⟩
      rw [hN]
      exact fin _ _ hNl (sif_f t0 (seq_nx s1 (seq_nx s2 (sif_f t1 (sif_f hcond (seq_nx (asg_of e1 rfl) (ret_of e2)))))))
    by_cases hal : a < (qs.length : Int)
    · have hix : Mini.get? qs a = some (qs.getD a.toNat 0) := get_ns ha hal
      generalize qs.getD a.toNat 0 = z at hix
      have ez : ∀ N', ev c (.idx (.v 0) (.v 4)) [some (.scr qs), some (.obj t), some (.int many), none, some (.int a), none] N' = .ok (.int z) N' := fun N' => by
        show R.ofOpt ((Mini.get? qs a).map D.int) N' = _
        rw [hix]; rfl
      have ep : ∀ (j : Nat) N', j ≤ 1000 → ev c (.bin .pow (.c (.int 10)) (.c (.int j))) [some (.scr qs), some (.obj t), some (.int many), none, some (.int a), none] N' = .ok (.int (10 ^ j)) N' := fun j N' hj => by
        show (if (0 : Int) ≤ (j : Int) ∧ (j : Int) ≤ 1000 ∧ (10 : Int).natAbs < 2 ^ 63 then R.ok (D.int (10 ^ ((j : Int).toNat))) N' else .stuck) = _
        rw [if_pos ⟨by omega, by omega, by decide⟩]; simp
      have ec : ev c (.and (.cmp .lt (.v 4) (.bf .len (.cons (.v 0) .nil))) (.cmp .ge (.idx (.v 0) (.v 4)) (.bin .pow (.c (.int 10)) (.c (.int 18))))) [some (.scr qs), some (.obj t), some (.int many), none, some (.int a), none] N = .ok (.bl (decide ((10 : Int) ^ 18 ≤ z))) N := by
        have e18 := ep 18 N (by decide)
        rw [show ((18 : Nat) : Int) = 18 from rfl] at e18
        exact and_t_of (cmp_of (v_of rfl) (tl _) (congrArg some (decide_eq_true hal))) (cmp_of (ez _) e18 rfl)
      by_cases hz : (10 : Int) ^ 18 ≤ z
      · rw [decide_eq_true hz] at ec
        have e60 := fun N' => ep 60 N' (by decide)
        rw [show ((60 : Nat) : Int) = 60 from rfl] at e60
        have hbig : ev c (.bin .mul (.bin .pow (.c (.int 10)) (.c (.int 60))) (.bin .pow (.c (.int 10)) (.c (.int 60)))) [some (.scr qs), some (.obj t), some (.int many), none, some (.int a), none] N = .ok (.int (10 ^ 60 * 10 ^ 60)) N := by
          refine bin_of (e60 _) (e60 _) ?_
          show (if ((10 : Int) ^ 60).natAbs < 2 ^ 63 ∨ ((10 : Int) ^ 60).natAbs < 2 ^ 63 ∨ (((10 : Int) ^ 60).natAbs < 2 ^ 1000 ∧ ((10 : Int) ^ 60).natAbs < 2 ^ 1000) then R.ok (D.int ((10 : Int) ^ 60 * (10 : Int) ^ 60)) N else .stuck) = _
          rw [if_pos (by decide +kernel)]
        have hbp : (0 : Int) < (10 : Int) ^ 60 * (10 : Int) ^ 60 := by decide +kernel
        have eset : ev c (.bin .mod (.bin .fdiv (.idx (.v 0) (.v 4)) (.v 2)) (.bin .mul (.bin .pow (.c (.int 10)) (.c (.int 60))) (.bin .pow (.c (.int 10)) (.c (.int 60))))) [some (.scr qs), some (.obj t), some (.int many), none, some (.int a), none] N = .ok (.int (z / many % (10 ^ 60 * 10 ^ 60))) N := by
          have ed : ev c (.bin .fdiv (.idx (.v 0) (.v 4)) (.v 2)) [some (.scr qs), some (.obj t), some (.int many), none, some (.int a), none] N = .ok (.int (z / many)) N := by
            rw [ev_bin, ez]
            show (if 0 < many ∧ many < 1073741824 then R.ok (D.int (z / many)) N else .stuck) = _
            rw [if_pos ⟨hm, hm2⟩]
          generalize hB : (10 : Int) ^ 60 * (10 : Int) ^ 60 = B at hbp hbig
          refine bin_of ed hbig ?_
          show (if 0 < B then R.ok (D.int (z / many % B)) N else .stuck) = _
          rw [if_pos hbp]
        generalize z / many % (10 ^ 60 * 10 ^ 60) = y at eset
        have hs : exec c (.setix (.v 1) (.c (.int 1)) (.bin .mod (.bin .fdiv (.idx (.v 0) (.v 4)) (.v 2)) (.bin .mul (.bin .pow (.c (.int 10)) (.c (.int 60))) (.bin .pow (.c (.int 10)) (.c (.int 60)))))) [some (.scr qs), some (.obj t), some (.int many), none, some (.int a), none] N = .nx [some (.scr qs), some (.obj t), some (.int many), none, some (.int a), none] (M.set t (town (a + 1) y)) := by
          rw [ex_setix, eset, ← hNs]
          simp [ev_c, ev_v, ev_g, ev_bin, ev_neg, ev_not, ev_cmp, ev_chain, ev_and, ev_or, ev_ife, ev_nil, ev_cons, ev_tup, ev_lst, ev_new, ev_idx, ev_slc, ev_rev, ev_call, ev_bf, ev_mt, ev_it, ev_rng, ev_enum, ev_zip, ex_skip, ex_seq, ex_asg, ex_setix, ex_aug, ex_augix, ex_ife, ex_ret, ex_retN, ex_expr, ex_brk, ex_cont, R.to, R.bind, R.ofOpt, RS.andThen, nxO, tupD, boolD, newD, cmpD, cmpop, binop, addD, mulD, catD, negD, idxD, idxO, iop, partR, partD, cutD, revD, recvD, mth, objL, one1, zero1, appendD, extendD, popD, setD, bfn, lenD, sumD, allD, anyD, minD, maxD, absD, sortedD, tupleD, listD, isinstD, isTy, kindD, tyIn, Ctx.may, Ctx.lock, Tg.asg, asgs, items, itemsL, lockOf, walkOf, walkD, walkR, itemsT, isNil, lstD, oneD, D.pure, D.pure.pureL, eqM_str, eqM_int, eqM_non, eqM_intnon, Mini.get?, place?, intsOf, minL, maxL, Mini.wipe, List.getElem?_cons_zero, List.getElem?_cons_succ, Option.join, List.set_cons_zero, List.set_cons_succ, List.map_cons, List.map_nil, Option.map_some, Option.map_none, Option.bind_some, Option.bind_none, ht2, hcl, hlk, town]
        refine ⟨z % many, a + 1, y, Int.emod_nonneg _ hmne, Int.emod_lt_of_pos _ hm, by omega, fin _ _ (by simp) (sif_f t0 (seq_nx s1 (seq_nx s2 (sif_f t1 (sif_t ec (seq_nx hs (ret_of ?_)))))))⟩
        rw [ev_bin, ez]
        show (if 0 < many then R.ok (D.int (z % many)) _ else .stuck) = _
        rw [if_pos hm]
      · exact hrest (by rw [ec, decide_eq_false hz])
    · exact hrest (and_f_of (cmp_of (v_of rfl) (tl _) (congrArg some (decide_eq_false hal))))
end
end Con
set_option autoImplicit false
set_option maxRecDepth 100000
set_option maxHeartbeats 4000000
namespace Con
open Mini Tx
def layC : Int → List Int → List (Int × Int)
  | _, [] => []
  | a, n :: r => (a, n) :: layC (a + n) r
theorem layC_app : ∀ (xs ys : List Int) (a : Int), layC a (xs ++ ys) = layC a xs ++ layC (a + xs.sum) ys
  | [], ys, a => by simp [layC]
  | x :: xs, ys, a => by
    show (a, x) :: layC (a + x) (xs ++ ys) = (a, x) :: (layC (a + x) xs ++ layC (a + (x + xs.sum)) ys)
    rw [layC_app xs ys (a + x)]
    congr 3
    omega
theorem layC_ge : ∀ (xs : List Int) (a : Int), (∀ n ∈ xs, 1 ≤ n) → ∀ p ∈ layC a xs, a ≤ p.1 ∧ 1 ≤ p.2 ∧ p.1 + p.2 ≤ a + xs.sum
  | [], _, _, p, hp => by cases hp
  | x :: xs, a, h, p, hp => by
    have hx := h x List.mem_cons_self
    have hs : 0 ≤ xs.sum := by
      have : ∀ l : List Int, (∀ n ∈ l, 1 ≤ n) → 0 ≤ l.sum := fun l => by
        induction l with
        | nil => intro _; simp
        | cons y l ih => intro hh; have := ih fun n hn => hh n (List.mem_cons_of_mem _ hn); have := hh y List.mem_cons_self; simp; omega
      exact this xs fun n hn => h n (List.mem_cons_of_mem _ hn)
    rcases List.mem_cons.mp hp with rfl | hp
    · simp; omega
    · have := layC_ge xs (a + x) (fun n hn => h n (List.mem_cons_of_mem _ hn)) p hp
      simp; omega
theorem sum_nn : ∀ l : List Int, (∀ n ∈ l, 1 ≤ n) → 0 ≤ l.sum
  | [], _ => by simp
  | y :: l, hh => by have := sum_nn l fun n hn => hh n (List.mem_cons_of_mem _ hn); have := hh y List.mem_cons_self; simp; omega
theorem holesA_layC (cells : Int) (t : List (Int × Int)) : ∀ (xs : List Int) (a : Int), holesA cells a (layC a xs ++ t) = holesA cells (a + xs.sum) t
  | [], a => by simp [layC]
  | x :: xs, a => by
    show (if a > a then [(a, a - a)] else []) ++ holesA cells (a + x) (layC (a + x) xs ++ t) = _
    rw [if_neg (by omega), holesA_layC cells t xs (a + x)]
    simp [Int.add_assoc]
def twoL (cells : Int) (ss gs : List Int) : List (Int × Int) := layC 0 ss ++ layC (cells - gs.sum) gs
def oneH (cells L R : Int) : List (Int × Int) := if L + R < cells then [(L, cells - R - L)] else []
theorem holes_two (cells : Int) (ss gs : List Int) (hg : ∀ n ∈ gs, 1 ≤ n) (hle : ss.sum + gs.sum ≤ cells) : holesP cells (twoL cells ss gs) = oneH cells ss.sum gs.sum := by
  unfold holesP twoL oneH
  rw [holesA_layC]
  cases gs with
  | nil =>
    simp [layC, holesA]
  | cons g gs =>
    show (if cells - (g :: gs).sum > 0 + ss.sum then [(0 + ss.sum, cells - (g :: gs).sum - (0 + ss.sum))] else []) ++ holesA cells (cells - (g :: gs).sum + g) (layC (cells - (g :: gs).sum + g) gs) = _
    have := holesA_layC cells [] gs (cells - (g :: gs).sum + g)
    rw [List.append_nil] at this
    rw [this]
    have e : cells - (g :: gs).sum + g + gs.sum = cells := by simp; omega
    rw [e]
    have e2 : holesA cells cells [] = [] := by simp [holesA]
    rw [e2, List.append_nil]
    by_cases h : ss.sum + (g :: gs).sum < cells
    · rw [if_pos (by omega), if_pos h]; simp
    · rw [if_neg (by omega), if_neg h]
theorem ltP_of_lt {p q : Int × Int} (h : p.1 < q.1) : ltP p q = true := by
  unfold ltP
  rw [if_neg (by omega)]
  simpa using h
theorem ltP_not {p q : Int × Int} (h : q.1 < p.1) : ltP p q = false := by
  unfold ltP
  rw [if_neg (by omega)]
  simp; omega
theorem insP_mid (x : Int × Int) : ∀ (l r : List (Int × Int)), (∀ p ∈ l, p.1 < x.1) → (∀ p ∈ r, x.1 < p.1) → insP x (l ++ r) = l ++ x :: r
  | [], [], _, _ => rfl
  | [], q :: r, _, hr => by
    show (if ltP q x = true then q :: insP x r else x :: q :: r) = _
    rw [ltP_not (hr q List.mem_cons_self)]
    rfl
  | p :: l, r, hl, hr => by
    show (if ltP p x = true then p :: insP x (l ++ r) else x :: p :: (l ++ r)) = _
    rw [ltP_of_lt (hl p List.mem_cons_self), if_pos rfl, insP_mid x l r (fun q hq => hl q (List.mem_cons_of_mem _ hq)) hr]
    rfl
def Asc : List (Int × Int) → Prop
  | [] => True
  | p :: l => (∀ q ∈ l, p.1 < q.1) ∧ Asc l
theorem sortP_asc : ∀ l : List (Int × Int), Asc l → sortP l = l
  | [], _ => rfl
  | p :: l, h => by
    show insP p (sortP l) = _
    rw [sortP_asc l h.2]
    exact insP_mid p [] l (fun _ z => by cases z) h.1
theorem insP_comm (x y : Int × Int) (hxy : x.1 ≠ y.1) : ∀ l : List (Int × Int), insP x (insP y l) = insP y (insP x l)
  | [] => by
    show (if ltP y x = true then y :: insP x [] else x :: y :: []) = (if ltP x y = true then x :: insP y [] else y :: x :: [])
    rcases Int.lt_or_gt_of_ne hxy with h | h
    · rw [ltP_of_lt h, ltP_not h]; rfl
    · rw [ltP_of_lt h, ltP_not h]; rfl
  | z :: l => by
    have trans : ∀ {p q r : Int × Int}, ltP p q = true → ltP q r = true → ltP p r = true := fun {p q r} h1 h2 => by
      unfold ltP at *
      split at h1 <;> split at h2 <;> (try split) <;> simp at * <;> omega
    have asym : ∀ {p q : Int × Int}, ltP p q = true → ltP q p = false := fun {p q} h1 => by
      unfold ltP at *
      split at h1 <;> (try split) <;> simp at * <;> omega
    have tot : ∀ {p q : Int × Int}, p.1 ≠ q.1 → ltP p q = false → ltP q p = true := fun {p q} hne h1 => by
      unfold ltP at *
      rw [if_neg hne] at h1
      rw [if_neg (fun z => hne z.symm)]
      simp at *; omega
    by_cases h1 : ltP z y = true
    · by_cases h2 : ltP z x = true
      · simp [insP, h1, h2, insP_comm x y hxy l]
      · have h2 : ltP z x = false := by simpa using h2
        have hxy' : ltP x y = true := by
          rcases Int.lt_or_gt_of_ne hxy with h | h
          · exact ltP_of_lt h
          · have := trans h1 (ltP_of_lt h); rw [h2] at this; cases this
        simp [insP, h1, h2, hxy']
    · have h1 : ltP z y = false := by simpa using h1
      by_cases h2 : ltP z x = true
      · have hyx : ltP y x = true := by
          rcases Int.lt_or_gt_of_ne hxy with h | h
          · have := trans h2 (ltP_of_lt h); rw [h1] at this; cases this
          · exact ltP_of_lt h
        simp [insP, h1, h2, hyx]
      · have h2 : ltP z x = false := by simpa using h2
        rcases Int.lt_or_gt_of_ne hxy with h | h
        · simp [insP, h1, h2, ltP_of_lt h, ltP_not h]
        · simp [insP, h1, h2, ltP_of_lt h, ltP_not h]
theorem sortP_last (x : Int × Int) : ∀ l : List (Int × Int), (∀ p ∈ l, p.1 ≠ x.1) → sortP (l ++ [x]) = insP x (sortP l)
  | [], _ => rfl
  | p :: l, h => by
    show insP p (sortP (l ++ [x])) = insP x (insP p (sortP l))
    rw [sortP_last x l fun q hq => h q (List.mem_cons_of_mem _ hq)]
    exact insP_comm p x (h p List.mem_cons_self) _
theorem sortP_mid (x : Int × Int) (l r : List (Int × Int)) (ha : Asc (l ++ r)) (hl : ∀ p ∈ l, p.1 < x.1) (hr : ∀ p ∈ r, x.1 < p.1) : sortP (l ++ r ++ [x]) = l ++ x :: r := by
  rw [sortP_last x (l ++ r), sortP_asc _ ha, insP_mid x l r hl hr]
  intro p hp
  rcases List.mem_append.mp hp with z | z
  · have := hl p z; omega
  · have := hr p z; omega
theorem asc_app : ∀ {l r : List (Int × Int)}, Asc l → Asc r → (∀ p ∈ l, ∀ q ∈ r, p.1 < q.1) → Asc (l ++ r)
  | [], _, _, h2, _ => h2
  | p :: l, r, h1, h2, h3 => by
    refine ⟨fun q hq => ?_, asc_app h1.2 h2 fun p' hp' => h3 p' (List.mem_cons_of_mem _ hp')⟩
    rcases List.mem_append.mp hq with z | z
    · exact h1.1 q z
    · exact h3 p List.mem_cons_self q z
theorem asc_layC : ∀ (xs : List Int) (a : Int), (∀ n ∈ xs, 1 ≤ n) → Asc (layC a xs)
  | [], _, _ => trivial
  | x :: xs, a, h => by
    refine ⟨fun q hq => ?_, asc_layC xs (a + x) fun n hn => h n (List.mem_cons_of_mem _ hn)⟩
    have := layC_ge xs (a + x) (fun n hn => h n (List.mem_cons_of_mem _ hn)) q hq
    have := h x List.mem_cons_self
    show a < q.1
    omega
theorem asc_two (cells : Int) (ss gs : List Int) (hs : ∀ n ∈ ss, 1 ≤ n) (hg : ∀ n ∈ gs, 1 ≤ n) (hle : ss.sum + gs.sum ≤ cells) : Asc (twoL cells ss gs) :=
  asc_app (asc_layC _ _ hs) (asc_layC _ _ hg) fun p hp q hq => by
    have h1 := layC_ge ss 0 hs p hp
    have h2 := layC_ge gs _ hg q hq
    omega
theorem put_small (cells : Int) (ss gs : List Int) (n : Int) (hs : ∀ n ∈ ss, 1 ≤ n) (hg : ∀ n ∈ gs, 1 ≤ n) (hn : 1 ≤ n) (hle : ss.sum + gs.sum + n ≤ cells) : sortP (twoL cells ss gs ++ [(ss.sum, n)]) = twoL cells (ss ++ [n]) gs := by
  unfold twoL
  rw [sortP_mid (ss.sum, n) _ _ (asc_two cells ss gs hs hg (by omega)) (fun p hp => by have := layC_ge ss 0 hs p hp; show p.1 < ss.sum; omega) (fun p hp => by have := layC_ge gs _ hg p hp; show ss.sum < p.1; omega)]
  rw [layC_app]
  simp [layC]
theorem put_great (cells : Int) (ss gs : List Int) (n : Int) (hs : ∀ n ∈ ss, 1 ≤ n) (hg : ∀ n ∈ gs, 1 ≤ n) (hn : 1 ≤ n) (hle : ss.sum + gs.sum + n ≤ cells) : sortP (twoL cells ss gs ++ [(cells - gs.sum - n, n)]) = twoL cells ss (n :: gs) := by
  unfold twoL
  rw [sortP_mid (cells - gs.sum - n, n) _ _ (asc_two cells ss gs hs hg (by omega)) (fun p hp => by have := layC_ge ss 0 hs p hp; show p.1 < cells - gs.sum - n; omega) (fun p hp => by have := layC_ge gs _ hg p hp; show cells - gs.sum - n < p.1; omega)]
  have e : cells - (n :: gs).sum = cells - gs.sum - n := by simp; omega
  rw [e]
  show layC 0 ss ++ (cells - gs.sum - n, n) :: layC (cells - gs.sum) gs = layC 0 ss ++ (cells - gs.sum - n, n) :: layC (cells - gs.sum - n + n) gs
  congr 3
  omega
theorem filter_all {α : Type} (p : α → Bool) : ∀ l : List α, (∀ x ∈ l, p x = true) → l.filter p = l
  | [], _ => rfl
  | x :: l, h => by rw [List.filter_cons, if_pos (h x List.mem_cons_self), filter_all p l fun y hy => h y (List.mem_cons_of_mem _ hy)]
theorem gone_small (cells : Int) (ss gs : List Int) (n : Int) (hs : ∀ n ∈ ss, 1 ≤ n) (hg : ∀ n ∈ gs, 1 ≤ n) (hn : 1 ≤ n) (hle : ss.sum + gs.sum + n ≤ cells) : gone (twoL cells (ss ++ [n]) gs) ss.sum = twoL cells ss gs := by
  unfold twoL gone
  rw [layC_app, List.filter_append, List.filter_append]
  rw [filter_all _ (layC 0 ss) fun p hp => by have := layC_ge ss 0 hs p hp; simp; omega]
  rw [filter_all _ (layC (cells - gs.sum) gs) fun p hp => by have := layC_ge gs _ hg p hp; simp; omega]
  simp [layC]
theorem gone_great (cells : Int) (ss gs : List Int) (n : Int) (hs : ∀ n ∈ ss, 1 ≤ n) (hg : ∀ n ∈ gs, 1 ≤ n) (hn : 1 ≤ n) (hle : ss.sum + gs.sum + n ≤ cells) : gone (twoL cells ss (n :: gs)) (cells - gs.sum - n) = twoL cells ss gs := by
  unfold twoL gone
  have e : cells - (n :: gs).sum = cells - gs.sum - n := by simp; omega
  rw [e]
  show ((layC 0 ss) ++ (cells - gs.sum - n, n) :: layC (cells - gs.sum - n + n) gs).filter _ = _
  have e2 : cells - gs.sum - n + n = cells - gs.sum := by omega
  rw [e2, List.filter_append, List.filter_cons]
  rw [filter_all _ (layC 0 ss) fun p hp => by have := layC_ge ss 0 hs p hp; simp; omega]
  rw [filter_all _ (layC (cells - gs.sum) gs) fun p hp => by have := layC_ge gs _ hg p hp; simp; omega]
  simp
def Rl.left (r : Rl) (n : Int) : Bool := match r with
  | .ends b => decide (n ≤ b)
  | _ => true
def markTwo (r : Rl) (cells L R : Int) (mk : Mk) : Prop := match r with
  | .next => mk = .num L
  | .newest => mk = .lst (if L + R < cells then [L] else [])
  | _ => ∃ i, mk = .num i
theorem place_two (r : Rl) (hh : r.hole = true) (cells : Int) (l : List (Int × Int)) (L R n : Int) (mk : Mk) (hl : holesP cells l = oneH cells L R) (hm : markTwo r cells L R mk) (hn : 1 ≤ n) (hL : 0 ≤ L) :
    placeH r cells l mk n = some (if L + R + n ≤ cells then some (if r.left n then L else cells - R - n) else none) := by
  have hgood : goodH cells l n = if L + R + n ≤ cells then [(L, cells - R - L)] else [] := by
    unfold goodH
    rw [hl]
    unfold oneH
    by_cases h1 : L + R + n ≤ cells
    · rw [if_pos (by omega), if_pos h1, List.filter_cons, if_pos (by simp; omega)]
      rfl
    · rw [if_neg h1]
      by_cases h2 : L + R < cells
      · rw [if_pos h2, List.filter_cons, if_neg (by simp; omega)]
        rfl
      · rw [if_neg h2]; rfl
  by_cases h1 : L + R + n ≤ cells
  · rw [if_pos h1] at hgood ⊢
    cases r with
    | next =>
      have hm : mk = .num L := hm
      subst hm
      unfold placeH
      rw [hl]
      unfold oneH
      rw [if_pos (by omega)]
      show some (match fOpen n L [(L, cells - R - L)] with | none => fOpen n 0 [(L, cells - R - L)] | some a => some a) = _
      have : fOpen n L [(L, cells - R - L)] = some L := by
        simp [fOpen]; omega
      rw [this]
      rfl
    | newest =>
      have hm : mk = .lst (if L + R < cells then [L] else []) := hm
      rw [if_pos (by omega)] at hm
      subst hm
      simp [placeH, hgood, pickP, Mk.list, outP, Rl.left]
    | first => simp [placeH, hgood, pickP, outP, Rl.left]
    | best => simp [placeH, hgood, pickP, outP, Rl.left, minZ, minI]
    | worst => simp [placeH, hgood, pickP, outP, Rl.left, maxZ, maxI]
    | ends b =>
      by_cases h2 : n ≤ b
      · have : ¬ n > b := by omega
        simp [placeH, hgood, pickP, outP, Rl.left, h2, this]
      · have h3 : n > b := by omega
        simp [placeH, hgood, pickP, outP, Rl.left, h2, h3]
        omega
    | buddy => cases hh
    | classes rs => cases hh
    | slabs u => cases hh
  · rw [if_neg h1] at hgood ⊢
    cases r with
    | next =>
      have hm : mk = .num L := hm
      subst hm
      unfold placeH
      rw [hl]
      have hf : ∀ least : Int, fOpen n least (oneH cells L R) = none := fun least => by
        unfold oneH
        by_cases h2 : L + R < cells
        · rw [if_pos h2]
          unfold fOpen
          rw [if_neg (by split <;> omega)]
          rfl
        · rw [if_neg h2]; rfl
      show some (match fOpen n L (oneH cells L R) with | none => fOpen n 0 (oneH cells L R) | some a => some a) = _
      rw [hf, hf]
    | buddy => cases hh
    | classes rs => cases hh
    | slabs u => cases hh
    | _ => simp [placeH, hgood]
structure Two (r : Rl) (cells : Int) (ss gs : List Int) (s : RSt) : Prop where
  hs : ∀ n ∈ ss, 1 ≤ n
  hg : ∀ n ∈ gs, 1 ≤ n
  hle : ss.sum + gs.sum ≤ cells
  hl : s.l = twoL cells ss gs
  hm : markTwo r cells ss.sum gs.sum s.mark
theorem sum_snoc (ss : List Int) (n : Int) : (ss ++ [n]).sum = ss.sum + n := by simp
theorem stepR_ask (r : Rl) (cells : Int) (s : RSt) (n : Int) : stepR r cells s (.ask n) = (placeH r cells s.l s.mark n).map fun o => o.map fun at_ => ⟨s.found ++ [at_], sortP (s.l ++ [(at_, n)]), markPut r cells (sortP (s.l ++ [(at_, n)])) s.mark at_ n⟩ := rfl
theorem step_ask {r : Rl} (hh : r.hole = true) {cells : Int} {ss gs : List Int} {s : RSt} (T : Two r cells ss gs s) {n : Int} (hn : 1 ≤ n) (hfit : ss.sum + gs.sum + n ≤ cells) :
    ∃ s', stepR r cells s (.ask n) = some (some s') ∧ s'.found = s.found ++ [if r.left n then ss.sum else cells - gs.sum - n] ∧ Two r cells (if r.left n then ss ++ [n] else ss) (if r.left n then gs else n :: gs) s' := by
  have hp := place_two r hh cells s.l ss.sum gs.sum n s.mark (by rw [T.hl]; exact holes_two _ _ _ T.hg T.hle) T.hm hn (sum_nn _ T.hs)
  rw [if_pos hfit] at hp
  refine ⟨_, by rw [stepR_ask, hp]; rfl, rfl, ?_⟩
  by_cases hl : r.left n = true
  · have el : sortP (s.l ++ [(ss.sum, n)]) = twoL cells (ss ++ [n]) gs := by rw [T.hl]; exact put_small cells ss gs n T.hs T.hg hn hfit
    have hh2 := holes_two cells (ss ++ [n]) gs T.hg (by rw [sum_snoc]; omega)
    simp only [hl, if_true, el]
    refine ⟨fun m hm => ?_, T.hg, by rw [sum_snoc]; omega, rfl, ?_⟩
    · rcases List.mem_append.mp hm with z | z
      · exact T.hs m z
      · have : m = n := by simpa using z
        omega
    · have hm := T.hm
      cases r with
      | next => show Mk.num (ss.sum + n) = Mk.num _; rw [sum_snoc]
      | newest =>
        have hm : s.mark = .lst (if ss.sum + gs.sum < cells then [ss.sum] else []) := hm
        rw [if_pos (by omega)] at hm
        show markPut .newest cells (twoL cells (ss ++ [n]) gs) s.mark ss.sum n = _
        rw [hm]
        unfold markPut
        rw [hh2, sum_snoc]
        unfold oneH
        by_cases h2 : ss.sum + n + gs.sum < cells
        · simp [Mk.list, h2]
        · simp [Mk.list, h2]
      | buddy => cases hh
      | classes rs => cases hh
      | slabs u => cases hh
      | _ => exact hm
  · have hl : r.left n = false := by simpa using hl
    have el : sortP (s.l ++ [(cells - gs.sum - n, n)]) = twoL cells ss (n :: gs) := by rw [T.hl]; exact put_great cells ss gs n T.hs T.hg hn hfit
    simp only [hl, Bool.false_eq_true, if_false, el]
    refine ⟨T.hs, fun m hm => ?_, by simp; omega, rfl, ?_⟩
    · rcases List.mem_cons.mp hm with rfl | z
      · exact hn
      · exact T.hg m z
    · have hm := T.hm
      cases r with
      | ends b => exact hm
      | buddy => cases hh
      | classes rs => cases hh
      | slabs u => cases hh
      | _ => cases hl
theorem step_fail {r : Rl} (hh : r.hole = true) {cells : Int} {ss gs : List Int} {s : RSt} (T : Two r cells ss gs s) {n : Int} (hn : 1 ≤ n) (hfit : ¬ ss.sum + gs.sum + n ≤ cells) : stepR r cells s (.ask n) = some none := by
  have hp := place_two r hh cells s.l ss.sum gs.sum n s.mark (by rw [T.hl]; exact holes_two _ _ _ T.hg T.hle) T.hm hn (sum_nn _ T.hs)
  rw [if_neg hfit] at hp
  rw [stepR_ask, hp]
  rfl
theorem two_begun {r : Rl} (hh : r.hole = true) {cells : Int} (h1 : 1 ≤ cells) : Two r cells [] [] ⟨[], [], begunP r⟩ := by
  refine ⟨fun _ z => (by cases z), fun _ z => (by cases z), (by simp; omega), rfl, ?_⟩
  cases r with
  | newest =>
    show Mk.lst [0] = Mk.lst (if ([] : List Int).sum + ([] : List Int).sum < cells then [([] : List Int).sum] else [])
    rw [if_pos (by simp; omega)]
    rfl
  | next => rfl
  | buddy => cases hh
  | classes rs => cases hh
  | slabs u => cases hh
  | _ => exact ⟨_, rfl⟩
def bothL (f : Int → Bool) (cells : Int) : Int → Int → List Int → List Int
  | _, _, [] => []
  | L, R, n :: ns => if L + R + n ≤ cells then (if f n then L else cells - R - n) :: bothL f cells (if f n then L + n else L) (if f n then R else R + n) ns else []
theorem run_asks {r : Rl} (hh : r.hole = true) {cells : Int} : ∀ (ns : List Int) (i : Nat) (ss gs : List Int) (s : RSt), (∀ n ∈ ns, 1 ≤ n) → Two r cells ss gs s →
    ∃ s', runR r cells (ns.map Deed.ask) i s = some (if (bothL r.left cells ss.sum gs.sum ns).length < ns.length then some (i + (bothL r.left cells ss.sum gs.sum ns).length) else none, s') ∧ s'.found = s.found ++ bothL r.left cells ss.sum gs.sum ns
  | [], i, ss, gs, s, _, _ => ⟨s, by simp [runR, bothL], by simp [bothL]⟩
  | n :: ns, i, ss, gs, s, h, T => by
    have hn := h n List.mem_cons_self
    by_cases hfit : ss.sum + gs.sum + n ≤ cells
    · obtain ⟨s1, e1, e2, T1⟩ := step_ask hh T hn hfit
      obtain ⟨s2, e3, e4⟩ := run_asks hh ns (i + 1) _ _ s1 (fun m hm => h m (List.mem_cons_of_mem _ hm)) T1
      have a1 : (if r.left n = true then ss ++ [n] else ss).sum = if r.left n = true then ss.sum + n else ss.sum := by split <;> simp
      have a2 : (if r.left n = true then gs else n :: gs).sum = if r.left n = true then gs.sum else gs.sum + n := by split <;> simp <;> omega
      rw [a1, a2] at e3 e4
      have eb : bothL r.left cells ss.sum gs.sum (n :: ns) = (if r.left n then ss.sum else cells - gs.sum - n) :: bothL r.left cells (if r.left n then ss.sum + n else ss.sum) (if r.left n then gs.sum else gs.sum + n) ns := by
        show (if ss.sum + gs.sum + n ≤ cells then _ else _) = _
        rw [if_pos hfit]
      rw [eb]
      refine ⟨s2, ?_, by rw [e4, e2]; simp⟩
      rw [List.map_cons]
      unfold runR
      rw [e1]
      show runR r cells (ns.map Deed.ask) (i + 1) s1 = _
      rw [e3]
      simp only [List.length_cons, Nat.add_lt_add_iff_right]
      congr 3
      split <;> first | rfl | (congr 1; omega)
    · refine ⟨s, ?_, ?_⟩
      · rw [List.map_cons]
        unfold runR
        rw [step_fail hh T hn hfit]
        have : bothL r.left cells ss.sum gs.sum (n :: ns) = [] := by
          show (if ss.sum + gs.sum + n ≤ cells then _ else _) = _
          rw [if_neg hfit]
        rw [this]
        simp
      · have : bothL r.left cells ss.sum gs.sum (n :: ns) = [] := by
          show (if ss.sum + gs.sum + n ≤ cells then _ else _) = _
          rw [if_neg hfit]
        rw [this]; simp
end Con
set_option autoImplicit false
set_option maxRecDepth 100000
set_option maxHeartbeats 4000000
namespace Con
open Mini Tx
theorem runR_snoc {r : Rl} {cells : Int} {d : Deed} {s2 : RSt} : ∀ (ds : List Deed) (i : Nat) (s s1 : RSt), runR r cells ds i s = some (none, s1) → stepR r cells s1 d = some (some s2) → runR r cells (ds ++ [d]) i s = some (none, s2)
  | [], i, s, s1, h1, h2 => by
    have e : some (none, s) = some ((none : Option Nat), s1) := h1
    cases e
    show (match stepR r cells s d with
      | none => none
      | some none => some (some i, s)
      | some (some s') => runR r cells [] (i + 1) s') = _
    rw [h2]
    rfl
  | e :: ds, i, s, s1, h1, h2 => by
    rw [List.cons_append]
    unfold runR at h1 ⊢
    cases hs : stepR r cells s e with
    | none => rw [hs] at h1; cases h1
    | some o =>
      rw [hs] at h1
      cases o with
      | none => cases h1
      | some s' => exact runR_snoc ds (i + 1) s' s1 h1 h2
theorem runR_fail {r : Rl} {cells : Int} {d : Deed} : ∀ (ds : List Deed) (i : Nat) (s s1 : RSt), runR r cells ds i s = some (none, s1) → stepR r cells s1 d = some none → runR r cells (ds ++ [d]) i s = some (some (i + ds.length), s1)
  | [], i, s, s1, h1, h2 => by
    have e : some (none, s) = some ((none : Option Nat), s1) := h1
    cases e
    show (match stepR r cells s d with
      | none => none
      | some none => some (some i, s)
      | some (some s') => runR r cells [] (i + 1) s') = _
    rw [h2]
    rfl
  | e :: ds, i, s, s1, h1, h2 => by
    rw [List.cons_append]
    unfold runR at h1 ⊢
    cases hs : stepR r cells s e with
    | none => rw [hs] at h1; cases h1
    | some o =>
      rw [hs] at h1
      cases o with
      | none => cases h1
      | some s' =>
        have := runR_fail ds (i + 1) s' s1 h1 h2
        show runR r cells (ds ++ [d]) (i + 1) s' = _
        rw [this]
        congr 3
        simp; omega
theorem stepR_free (r : Rl) (cells : Int) (s : RSt) (i at_ : Int) (h : Mini.get? s.found i = some at_) : stepR r cells s (.free i) = (markTake r cells (gone s.l at_) s.mark at_).map fun mk => some ⟨s.found, gone s.l at_, mk⟩ := by
  show (match Mini.get? s.found i with
    | none => none
    | some at_ => (markTake r cells (gone s.l at_) s.mark at_).map fun mk => some (⟨s.found, gone s.l at_, mk⟩ : RSt)) = _
  rw [h]
theorem step_free_small {r : Rl} (hh : r.hole = true) (hn : r ≠ .next) {cells : Int} {ss gs : List Int} {n : Int} {s : RSt} (T : Two r cells (ss ++ [n]) gs s) {i : Int} (hi : Mini.get? s.found i = some ss.sum) :
    ∃ s', stepR r cells s (.free i) = some (some s') ∧ s'.found = s.found ∧ Two r cells ss gs s' := by
  have hs : ∀ m ∈ ss, 1 ≤ m := fun m hm => T.hs m (List.mem_append_left _ hm)
  have hn1 : 1 ≤ n := T.hs n (List.mem_append_right _ List.mem_cons_self)
  have hle := T.hle
  rw [sum_snoc] at hle
  have el : gone s.l ss.sum = twoL cells ss gs := by rw [T.hl]; exact gone_small cells ss gs n hs T.hg hn1 (by omega)
  have hh2 := holes_two cells ss gs T.hg (by omega)
  rw [stepR_free r cells s i _ hi, el]
  have hm := T.hm
  cases r with
  | next => exact absurd rfl hn
  | buddy => cases hh
  | classes rs => cases hh
  | slabs u => cases hh
  | newest =>
    have hm : s.mark = .lst (if (ss ++ [n]).sum + gs.sum < cells then [(ss ++ [n]).sum] else []) := hm
    have e : markTake .newest cells (twoL cells ss gs) s.mark ss.sum = some (.lst [ss.sum]) := by
      unfold markTake
      rw [hh2]
      unfold oneH
      rw [if_pos (by omega), hm, sum_snoc]
      have h1 : ss.sum < ss.sum + (cells - gs.sum - ss.sum) := by omega
      have hf : ([(ss.sum, cells - gs.sum - ss.sum)].filter fun h : Int × Int => decide (h.1 ≤ ss.sum) && decide (ss.sum < h.1 + h.2)) = [(ss.sum, cells - gs.sum - ss.sum)] := by
        rw [List.filter_cons, if_pos (by simp; omega)]; rfl
      rw [hf]
      show some (Mk.lst (ss.sum :: (Mk.list (.lst (if ss.sum + n + gs.sum < cells then [ss.sum + n] else []))).filter _)) = _
      congr 3
      by_cases h2 : ss.sum + n + gs.sum < cells
      · rw [if_pos h2]
        show [ss.sum + n].filter _ = _
        rw [List.filter_cons, if_neg (by simp; omega)]; rfl
      · rw [if_neg h2]; rfl
    rw [e]
    refine ⟨_, rfl, rfl, hs, T.hg, by omega, rfl, ?_⟩
    show Mk.lst [ss.sum] = Mk.lst (if ss.sum + gs.sum < cells then [ss.sum] else [])
    rw [if_pos (by omega)]
  | _ => exact ⟨_, rfl, rfl, hs, T.hg, by omega, rfl, hm⟩
theorem step_free_great {b : Int} {cells : Int} {ss gs : List Int} {n : Int} {s : RSt} (T : Two (.ends b) cells ss (n :: gs) s) {i : Int} (hi : Mini.get? s.found i = some (cells - gs.sum - n)) :
    ∃ s', stepR (.ends b) cells s (.free i) = some (some s') ∧ s'.found = s.found ∧ Two (.ends b) cells ss gs s' := by
  have hg : ∀ m ∈ gs, 1 ≤ m := fun m hm => T.hg m (List.mem_cons_of_mem _ hm)
  have hn1 : 1 ≤ n := T.hg n List.mem_cons_self
  have hle := T.hle
  have e0 : (n :: gs).sum = gs.sum + n := by simp; omega
  rw [e0] at hle
  have el : gone s.l (cells - gs.sum - n) = twoL cells ss gs := by rw [T.hl]; exact gone_great cells ss gs n T.hs hg hn1 (by omega)
  rw [stepR_free (.ends b) cells s i _ hi, el]
  exact ⟨_, rfl, rfl, T.hs, hg, by omega, rfl, T.hm⟩
def smalls (f : Int → Bool) (al : List (Int × Int)) : List Int := (al.map (·.2)).filter f
def greats (f : Int → Bool) (al : List (Int × Int)) : List Int := ((al.map (·.2)).filter fun n => !f n).reverse
theorem smalls_snoc (f : Int → Bool) (al : List (Int × Int)) (p : Int × Int) : smalls f (al ++ [p]) = if f p.2 then smalls f al ++ [p.2] else smalls f al := by
  unfold smalls
  rw [List.map_append, List.filter_append]
  show _ ++ [p.2].filter f = _
  rw [List.filter_cons]
  cases f p.2 <;> simp
theorem greats_snoc (f : Int → Bool) (al : List (Int × Int)) (p : Int × Int) : greats f (al ++ [p]) = if f p.2 then greats f al else p.2 :: greats f al := by
  unfold greats
  rw [List.map_append, List.filter_append]
  show (_ ++ [p.2].filter fun n => !f n).reverse = _
  rw [List.filter_cons]
  cases f p.2 <;> simp
def spot (f : Int → Bool) (cells : Int) (al : List (Int × Int)) (n : Int) : Int := if f n then (smalls f al).sum else cells - (greats f al).sum - n
def Spots (f : Int → Bool) (cells : Int) (found : List Int) (al : List (Int × Int)) : Prop := ∀ pre p post, al = pre ++ p :: post → Mini.get? found p.1 = some (spot f cells pre p.2)
theorem get_app {found : List Int} {i v : Int} (x : Int) (h : Mini.get? found i = some v) (h0 : 0 ≤ i) : Mini.get? (found ++ [x]) i = some v := by
  unfold Mini.get? place? at *
  rw [if_pos h0] at *
  by_cases hl : i < (found.length : Int)
  · rw [if_pos hl] at h
    rw [if_pos (by simp; omega)]
    have h : found[i.toNat]? = some v := h
    show (found ++ [x])[i.toNat]? = _
    rw [List.getElem?_append_left (by omega)]
    exact h
  · rw [if_neg hl] at h; cases h
theorem get_new (found : List Int) (x : Int) : Mini.get? (found ++ [x]) (found.length : Int) = some x := by
  unfold Mini.get? place?
  rw [if_pos (by omega), if_pos (by simp; omega)]
  show (found ++ [x])[((found.length : Int)).toNat]? = _
  simp
theorem spots_snoc {f : Int → Bool} {cells : Int} {found : List Int} {al : List (Int × Int)} {n : Int} (h : Spots f cells found al) (h0 : ∀ p ∈ al, 0 ≤ p.1) : Spots f cells (found ++ [spot f cells al n]) (al ++ [((found.length : Int), n)]) := by
  intro pre p post he
  rcases List.eq_nil_or_concat post with rfl | ⟨post', q, rfl⟩
  · have := List.append_inj_left' (show al ++ [((found.length : Int), n)] = pre ++ [p] from he) rfl
    subst this
    have h2 := List.append_inj_right' (show al ++ [((found.length : Int), n)] = al ++ [p] from he) rfl
    cases h2
    exact get_new _ _
  · have e2 : al ++ [((found.length : Int), n)] = (pre ++ p :: post') ++ [q] := by rw [he]; simp
    have := List.append_inj_left' e2 rfl
    have h3 := h pre p post' this
    exact get_app _ h3 (h0 p (by rw [this]; simp))
theorem spots_drop {f : Int → Bool} {cells : Int} {found : List Int} {al : List (Int × Int)} {p : Int × Int} (h : Spots f cells found (al ++ [p])) : Spots f cells found al := by
  intro pre q post he
  exact h pre q (post ++ [p]) (by rw [he]; simp)
theorem spots_last {f : Int → Bool} {cells : Int} {found : List Int} {al : List (Int × Int)} {p : Int × Int} (h : Spots f cells found (al ++ [p])) : Mini.get? found p.1 = some (spot f cells al p.2) := h al p [] rfl
structure Stk (r : Rl) (cells : Int) (row : List Deed) (al : List (Int × Int)) (found : List Int) (s : RSt) : Prop where
  run : runR r cells row 0 ⟨[], [], begunP r⟩ = some (none, s)
  two : Two r cells (smalls r.left al) (greats r.left al) s
  fnd : s.found = found
  spt : Spots r.left cells found al
theorem stk_begun {r : Rl} (hh : r.hole = true) {cells : Int} (h1 : 1 ≤ cells) : Stk r cells [] [] [] ⟨[], [], begunP r⟩ :=
  ⟨rfl, two_begun hh h1, rfl, fun pre p post he => by cases pre <;> cases he⟩
theorem stk_ask {r : Rl} (hh : r.hole = true) {cells : Int} {row : List Deed} {al : List (Int × Int)} {found : List Int} {s : RSt} (S : Stk r cells row al found s) {n : Int} (hn : 1 ≤ n) (hfit : (smalls r.left al).sum + (greats r.left al).sum + n ≤ cells) (h0 : ∀ p ∈ al, 0 ≤ p.1) :
    ∃ s', Stk r cells (row ++ [.ask n]) (al ++ [((found.length : Int), n)]) (found ++ [spot r.left cells al n]) s' := by
  obtain ⟨s', e1, e2, e3⟩ := step_ask hh S.two hn hfit
  refine ⟨s', runR_snoc row 0 _ s S.run e1, ?_, by rw [e2, S.fnd]; rfl, spots_snoc S.spt h0⟩
  rw [smalls_snoc, greats_snoc]
  exact e3
theorem stk_free {r : Rl} (hh : r.hole = true) (hn : r ≠ .next) {cells : Int} {row : List Deed} {al : List (Int × Int)} {p : Int × Int} {found : List Int} {s : RSt} (S : Stk r cells row (al ++ [p]) found s) :
    ∃ s', Stk r cells (row ++ [.free p.1]) al found s' := by
  have T := S.two
  rw [smalls_snoc, greats_snoc] at T
  have hl := spots_last S.spt
  rw [← S.fnd] at hl
  unfold spot at hl
  cases hf : r.left p.2 with
  | true =>
    rw [hf, if_pos rfl] at hl
    rw [hf, if_pos rfl, if_pos rfl] at T
    obtain ⟨s', e1, e2, e3⟩ := step_free_small hh hn T hl
    exact ⟨s', runR_snoc row 0 _ s S.run e1, e3, by rw [e2, S.fnd], spots_drop S.spt⟩
  | false =>
    cases r with
    | ends b =>
      rw [hf, if_neg (by simp)] at hl
      rw [hf, if_neg (by simp), if_neg (by simp)] at T
      obtain ⟨s', e1, e2, e3⟩ := step_free_great T hl
      exact ⟨s', runR_snoc row 0 _ s S.run e1, e3, by rw [e2, S.fnd], spots_drop S.spt⟩
    | _ => cases hf
end Con
set_option autoImplicit false
set_option maxRecDepth 100000
set_option maxHeartbeats 4000000
namespace Con
open Mini Tx
def LayF (cells : Int) : Int → List (Int × Int) → Prop
  | a, [] => a ≤ cells
  | a, (s, z) :: r => a ≤ s ∧ 1 ≤ z ∧ LayF cells (s + z) r
def Lay (cells : Int) (l : List (Int × Int)) : Prop := LayF cells 0 l
def freeI (l : List (Int × Int)) (s n : Int) : Prop := ∀ b ∈ l, b.1 + b.2 ≤ s ∨ s + n ≤ b.1
theorem LayF.le {cells : Int} : ∀ {l : List (Int × Int)} {a : Int}, LayF cells a l → a ≤ cells
  | [], _, h => h
  | (s, z) :: r, a, h => by
    have := LayF.le h.2.2
    have := h.1
    have := h.2.1
    omega
theorem LayF.mem {cells : Int} : ∀ {l : List (Int × Int)} {a : Int}, LayF cells a l → ∀ b ∈ l, a ≤ b.1 ∧ 1 ≤ b.2 ∧ b.1 + b.2 ≤ cells
  | (s, z) :: r, a, h, b, hb => by
    rcases List.mem_cons.mp hb with rfl | hb
    · exact ⟨h.1, h.2.1, h.2.2.le⟩
    · have := LayF.mem h.2.2 b hb
      have := h.1
      have := h.2.1
      omega
theorem LayF.mono {cells : Int} {l : List (Int × Int)} {a a' : Int} (h : LayF cells a l) (ha : a' ≤ a) : LayF cells a' l := by
  cases l with
  | nil => exact Int.le_trans ha h
  | cons b r => exact ⟨Int.le_trans ha h.1, h.2⟩
theorem LayF.asc {cells : Int} : ∀ {l : List (Int × Int)} {a : Int}, LayF cells a l → Asc l
  | [], _, _ => trivial
  | (s, z) :: r, a, h => ⟨fun q hq => by have := h.2.2.mem q hq; have := h.2.1; show s < q.1; omega, h.2.2.asc⟩
theorem LayF.filter {cells : Int} (p : Int × Int → Bool) : ∀ {l : List (Int × Int)} {a : Int}, LayF cells a l → LayF cells a (l.filter p)
  | [], _, h => h
  | (s, z) :: r, a, h => by
    rw [List.filter_cons]
    split
    · exact ⟨h.1, h.2.1, h.2.2.filter p⟩
    · exact (h.2.2.filter p).mono (by have := h.1; have := h.2.1; omega)
theorem LayF.put {cells : Int} {x z : Int} (hz : 1 ≤ z) (hx : x + z ≤ cells) : ∀ {l : List (Int × Int)} {a : Int}, LayF cells a l → a ≤ x → freeI l x z → ∃ l1 l2, l = l1 ++ l2 ∧ (∀ p ∈ l1, p.1 < x) ∧ (∀ p ∈ l2, x < p.1) ∧ LayF cells a (l1 ++ (x, z) :: l2)
  | [], a, h, ha, _ => ⟨[], [], rfl, fun _ h => (by cases h), fun _ h => (by cases h), ha, hz, hx⟩
  | (s, y) :: r, a, h, ha, hf => by
    rcases hf (s, y) List.mem_cons_self with hh | hh
    · obtain ⟨l1, l2, e, h1, h2, h3⟩ := LayF.put hz hx h.2.2 hh fun b hb => hf b (List.mem_cons_of_mem _ hb)
      refine ⟨(s, y) :: l1, l2, by rw [e]; rfl, fun p hp => ?_, h2, h.1, h.2.1, h3⟩
      rcases List.mem_cons.mp hp with rfl | hp
      · have := h.2.1; show s < x; have : s + y ≤ x := hh; omega
      · exact h1 p hp
    · have hh : x + z ≤ s := hh
      refine ⟨[], (s, y) :: r, rfl, fun _ h => (by cases h), fun p hp => ?_, ha, hz, hh, h.2⟩
      have := LayF.mem h p hp
      rcases List.mem_cons.mp hp with rfl | hp
      · show x < s; omega
      · have := h.2.2.mem p hp; have := h.2.1; omega
theorem Lay.put {cells x z : Int} {l : List (Int × Int)} (h : Lay cells l) (hz : 1 ≤ z) (hx : x + z ≤ cells) (h0 : 0 ≤ x) (hf : freeI l x z) : Lay cells (sortP (l ++ [(x, z)])) := by
  obtain ⟨l1, l2, rfl, h1, h2, h3⟩ := LayF.put hz hx h h0 hf
  rw [sortP_mid (x, z) l1 l2 h.asc h1 h2]
  exact h3
theorem put_mem {cells x z : Int} {l : List (Int × Int)} (h : Lay cells l) (hz : 1 ≤ z) (hx : x + z ≤ cells) (h0 : 0 ≤ x) (hf : freeI l x z) (p : Int × Int) : p ∈ sortP (l ++ [(x, z)]) ↔ p ∈ l ∨ p = (x, z) := by
  obtain ⟨l1, l2, rfl, h1, h2, h3⟩ := LayF.put hz hx h h0 hf
  rw [sortP_mid (x, z) l1 l2 h.asc h1 h2]
  simp only [List.mem_append, List.mem_cons]
  constructor
  · rintro (z | z | z)
    · exact .inl (.inl z)
    · exact .inr z
    · exact .inl (.inr z)
  · rintro ((z | z) | z)
    · exact .inl z
    · exact .inr (.inr z)
    · exact .inr (.inl z)
def HolesF : Int → List (Int × Int) → Prop
  | _, [] => True
  | a, h :: r => a ≤ h.1 ∧ 1 ≤ h.2 ∧ HolesF (h.1 + h.2 + 1) r
theorem HolesF.mono {l : List (Int × Int)} {a a' : Int} (h : HolesF a l) (ha : a' ≤ a) : HolesF a' l := by
  cases l with
  | nil => trivial
  | cons b r => exact ⟨Int.le_trans ha h.1, h.2⟩
theorem HolesF.mem : ∀ {l : List (Int × Int)} {a : Int}, HolesF a l → ∀ h ∈ l, a ≤ h.1 ∧ 1 ≤ h.2
  | g :: r, a, q, h, hh => by
    rcases List.mem_cons.mp hh with rfl | hh
    · exact ⟨q.1, q.2.1⟩
    · have := HolesF.mem q.2.2 h hh
      have := q.1
      have := q.2.1
      omega
theorem holes_F (cells : Int) : ∀ (l : List (Int × Int)) (a : Int), LayF cells a l → HolesF a (holesA cells a l)
  | [], a, h => by
    unfold holesA
    split
    · exact ⟨Int.le_refl _, by show 1 ≤ cells - a; omega, trivial⟩
    · trivial
  | (s, z) :: r, a, h => by
    unfold holesA
    have ih := holes_F cells r (s + z) h.2.2
    have := h.1
    have := h.2.1
    split
    · exact ⟨Int.le_refl _, by show 1 ≤ s - a; omega, ih.mono (by show a + (s - a) + 1 ≤ s + z; omega)⟩
    · exact ih.mono (by omega)
theorem hole_iff {cells n s : Int} (hn : 1 ≤ n) : ∀ (l : List (Int × Int)) (a : Int), LayF cells a l → a ≤ s → ((s + n ≤ cells ∧ freeI l s n) ↔ ∃ h ∈ holesA cells a l, h.1 ≤ s ∧ s + n ≤ h.1 + h.2)
  | [], a, hl, ha => by
    unfold holesA
    constructor
    · rintro ⟨h1, _⟩
      rw [if_pos (by omega)]
      exact ⟨_, List.mem_cons_self, ha, by show s + n ≤ a + (cells - a); omega⟩
    · rintro ⟨h, hh, h1, h2⟩
      split at hh
      · have : h = (a, cells - a) := by simpa using hh
        subst this
        exact ⟨by have : s + n ≤ a + (cells - a) := h2; omega, fun _ z => by cases z⟩
      · cases hh
  | (b, z) :: r, a, hl, ha => by
    have h1 : a ≤ b := hl.1
    have h2 : 1 ≤ z := hl.2.1
    have ih := hole_iff (s := s) hn r (b + z) hl.2.2
    unfold holesA
    constructor
    · rintro ⟨g1, g2⟩
      rcases g2 (b, z) List.mem_cons_self with g | g
      · obtain ⟨h, q1, q2⟩ := (ih g).mp ⟨g1, fun c hc => g2 c (List.mem_cons_of_mem _ hc)⟩
        exact ⟨h, List.mem_append_right _ q1, q2⟩
      · have g : s + n ≤ b := g
        refine ⟨(a, b - a), List.mem_append_left _ ?_, ha, by show s + n ≤ a + (b - a); omega⟩
        rw [if_pos (by omega)]
        exact List.mem_cons_self
    · rintro ⟨h, hh, q1, q2⟩
      rcases List.mem_append.mp hh with hh | hh
      · split at hh
        · have : h = (a, b - a) := by simpa using hh
          subst this
          have q2 : s + n ≤ a + (b - a) := q2
          have := hl.2.2.le
          refine ⟨by omega, fun c hc => .inr ?_⟩
          rcases List.mem_cons.mp hc with rfl | hc
          · show s + n ≤ b; omega
          · have := hl.2.2.mem c hc; omega
        · cases hh
      · have := (holes_F cells r (b + z) hl.2.2).mem h hh
        obtain ⟨g1, g2⟩ := (ih (by omega)).mpr ⟨h, hh, q1, q2⟩
        refine ⟨g1, fun c hc => ?_⟩
        rcases List.mem_cons.mp hc with rfl | hc
        · exact .inl (by show b + z ≤ s; omega)
        · exact g2 c hc
def rangeI (a : Int) (k : Nat) : List Int := (List.range k).map fun (i : Nat) => a + (i : Int)
theorem mem_rangeI {a x : Int} {k : Nat} : x ∈ rangeI a k ↔ a ≤ x ∧ x < a + k := by
  unfold rangeI
  rw [List.mem_map]
  constructor
  · rintro ⟨i, hi, rfl⟩
    have := List.mem_range.mp hi
    omega
  · rintro ⟨h1, h2⟩
    exact ⟨(x - a).toNat, List.mem_range.mpr (by omega), by omega⟩
theorem asc_rangeI (a : Int) (k : Nat) : (rangeI a k).Pairwise (· < ·) := by
  unfold rangeI
  rw [List.pairwise_map]
  exact List.Pairwise.imp (fun h => by omega) List.pairwise_lt_range
def fits (n : Int) (hs : List (Int × Int)) : List Int := hs.flatMap fun h => rangeI h.1 (h.2 - n + 1).toNat
theorem mem_fits {n s : Int} {hs : List (Int × Int)} : s ∈ fits n hs ↔ ∃ h ∈ hs, h.1 ≤ s ∧ s + n ≤ h.1 + h.2 := by
  unfold fits
  rw [List.mem_flatMap]
  constructor
  · rintro ⟨h, h1, h2⟩
    have := mem_rangeI.mp h2
    exact ⟨h, h1, this.1, by omega⟩
  · rintro ⟨h, h1, h2, h3⟩
    exact ⟨h, h1, mem_rangeI.mpr ⟨h2, by omega⟩⟩
theorem asc_fits {n : Int} (hn : 1 ≤ n) : ∀ {hs : List (Int × Int)} {a : Int}, HolesF a hs → (fits n hs).Pairwise (· < ·)
  | [], _, _ => List.Pairwise.nil
  | h :: r, a, q => by
    show (rangeI h.1 (h.2 - n + 1).toNat ++ fits n r).Pairwise (· < ·)
    rw [List.pairwise_append]
    refine ⟨asc_rangeI _ _, asc_fits hn q.2.2, fun x hx y hy => ?_⟩
    have h1 := mem_rangeI.mp hx
    obtain ⟨g, g1, g2, g3⟩ := mem_fits.mp hy
    have := q.2.2.mem g g1
    omega
theorem asc_eq : ∀ {l m : List Int}, l.Pairwise (· < ·) → m.Pairwise (· < ·) → (∀ x, x ∈ l ↔ x ∈ m) → l = m
  | [], [], _, _, _ => rfl
  | [], y :: m, _, _, h => by have := (h y).mpr List.mem_cons_self; cases this
  | x :: l, [], _, _, h => by have := (h x).mp List.mem_cons_self; cases this
  | x :: l, y :: m, hl, hm, h => by
    have hl' := List.pairwise_cons.mp hl
    have hm' := List.pairwise_cons.mp hm
    have e : x = y := by
      rcases List.mem_cons.mp ((h x).mp List.mem_cons_self) with z | z
      · exact z
      · rcases List.mem_cons.mp ((h y).mpr List.mem_cons_self) with q | q
        · exact q.symm
        · have := hm'.1 x z; have := hl'.1 y q; omega
    subst e
    congr 1
    refine asc_eq hl'.2 hm'.2 fun z => ?_
    constructor
    · intro hz
      rcases List.mem_cons.mp ((h z).mp (List.mem_cons_of_mem _ hz)) with q | q
      · have := hl'.1 z hz; omega
      · exact q
    · intro hz
      rcases List.mem_cons.mp ((h z).mpr (List.mem_cons_of_mem _ hz)) with q | q
      · have := hm'.1 z hz; omega
      · exact q
theorem fits_eq {cells n : Int} {l : List (Int × Int)} (h : Lay cells l) (hn : 1 ≤ n) (p : Int → Bool) (hp : ∀ s, 0 ≤ s → s + n ≤ cells → (p s = true ↔ freeI l s n)) : (rangeI 0 (cells - n + 1).toNat).filter p = fits n (holesP cells l) := by
  refine asc_eq ((asc_rangeI _ _).sublist List.filter_sublist) (asc_fits hn (holes_F cells l 0 h)) fun x => ?_
  rw [List.mem_filter, mem_rangeI, mem_fits]
  constructor
  · rintro ⟨⟨h1, h2⟩, h3⟩
    have h4 : x + n ≤ cells := by omega
    exact (hole_iff hn l 0 h h1).mp ⟨h4, (hp x h1 h4).mp h3⟩
  · rintro ⟨g, g1, g2, g3⟩
    have h1 : 0 ≤ x := by have := (holes_F cells l 0 h).mem g g1; omega
    obtain ⟨q1, q2⟩ := (hole_iff hn l 0 h h1).mpr ⟨g, g1, g2, g3⟩
    exact ⟨⟨h1, by omega⟩, (hp x h1 q1).mpr q2⟩
theorem fits_good {n : Int} (hs : List (Int × Int)) : fits n (hs.filter fun h => decide (h.2 ≥ n)) = fits n hs := by
  induction hs with
  | nil => rfl
  | cons h r ih =>
    rw [List.filter_cons]
    by_cases hh : h.2 ≥ n
    · rw [if_pos (by simpa using hh)]
      show rangeI _ _ ++ fits n _ = rangeI _ _ ++ fits n r
      rw [ih]
    · rw [if_neg (by simpa using hh), ih]
      have e : (h.2 - n + 1).toNat = 0 := by omega
      show fits n r = rangeI h.1 (h.2 - n + 1).toNat ++ fits n r
      rw [e]; rfl
theorem fits_head {n : Int} : ∀ (hs : List (Int × Int)), (∀ h ∈ hs, n ≤ h.2) → (fits n hs).head? = hs.head?.map (·.1)
  | [], _ => rfl
  | h :: r, q => by
    have hh := q h List.mem_cons_self
    obtain ⟨k, hk⟩ : ∃ k, (h.2 - n + 1).toNat = k + 1 := ⟨(h.2 - n).toNat, by omega⟩
    show (rangeI h.1 (h.2 - n + 1).toNat ++ fits n r).head? = some h.1
    rw [hk]
    unfold rangeI
    rw [List.range_succ_eq_map]
    simp
theorem fits_last {n : Int} : ∀ (hs : List (Int × Int)), (∀ h ∈ hs, n ≤ h.2) → (fits n hs).getLast? = hs.getLast?.map fun h => h.1 + h.2 - n := by
  intro hs q
  rcases List.eq_nil_or_concat hs with rfl | ⟨r, h, rfl⟩
  · rfl
  · rw [List.concat_eq_append] at q ⊢
    have hh := q h (by simp)
    obtain ⟨k, hk⟩ : ∃ k, (h.2 - n + 1).toNat = k + 1 := ⟨(h.2 - n).toNat, by omega⟩
    unfold fits
    rw [List.flatMap_append]
    simp only [List.flatMap_cons, List.flatMap_nil, List.append_nil]
    rw [hk]
    unfold rangeI
    rw [List.range_succ, List.map_append]
    simp
    omega
theorem fOpen_eq {n : Int} (least : Int) : ∀ {hs : List (Int × Int)} {a : Int}, HolesF a hs → fOpen n least hs = ((fits n hs).filter fun s => decide (s ≥ least)).head?
  | [], _, _ => rfl
  | (s, m) :: r, a, q => by
    have ih := fOpen_eq (n := n) least q.2.2
    unfold fOpen
    show _ = ((rangeI s (m - n + 1).toNat ++ fits n r).filter fun s => decide (s ≥ least)).head?
    rw [List.filter_append]
    by_cases hc : (if least > s then least else s) + n ≤ s + m
    · rw [if_pos hc]
      have e : ((rangeI s (m - n + 1).toNat).filter fun s => decide (s ≥ least)).head? = some (if least > s then least else s) := by
        have hasc : ((rangeI s (m - n + 1).toNat).filter fun s => decide (s ≥ least)).Pairwise (· < ·) := (asc_rangeI _ _).sublist List.filter_sublist
        have hm : ∀ x, x ∈ ((rangeI s (m - n + 1).toNat).filter fun s => decide (s ≥ least)) ↔ (s ≤ x ∧ x < s + (m - n + 1).toNat) ∧ x ≥ least := fun x => by
          rw [List.mem_filter, mem_rangeI]; simp
        generalize ((rangeI s (m - n + 1).toNat).filter fun s => decide (s ≥ least)) = L at hasc hm
        cases L with
        | nil =>
          have := (hm (if least > s then least else s)).mpr (by split at hc <;> split <;> omega)
          cases this
        | cons x L =>
          have hx := (hm x).mp List.mem_cons_self
          have hy := (hm (if least > s then least else s)).mpr (by split at hc <;> split <;> omega)
          rcases List.mem_cons.mp hy with z | z
          · rw [z]; rfl
          · have := (List.pairwise_cons.mp hasc).1 _ z
            exfalso
            split at this <;> omega
      rw [List.head?_append, e]; rfl
    · rw [if_neg hc]
      have e : ((rangeI s (m - n + 1).toNat).filter fun s => decide (s ≥ least)) = [] := by
        rw [List.filter_eq_nil_iff]
        intro x hx
        have := mem_rangeI.mp hx
        simp
        split at hc <;> omega
      rw [e, List.nil_append]
      exact ih
end Con
set_option autoImplicit false
set_option maxRecDepth 100000
set_option maxHeartbeats 4000000
namespace Con
open Mini Tx
theorem loop_fold {α β : Type} {f : D → Sl → MH → RS} (enc : β → D) (st : α → Sl → MH → Prop) (step : α → β → α) : ∀ (ys : List β) (a : α) (σ : Sl) (M : MH), st a σ M → (∀ y ∈ ys, ∀ a σ M, st a σ M → ∃ σ' M', f (enc y) σ M = .nx σ' M' ∧ st (step a y) σ' M') →
    ∃ σ' M', loopL f (ys.map enc) σ M = .nx σ' M' ∧ st (ys.foldl step a) σ' M'
  | [], a, σ, M, h, _ => ⟨σ, M, rfl, h⟩
  | y :: ys, a, σ, M, h, hs => by
    obtain ⟨σ', M', h1, h2⟩ := hs y List.mem_cons_self a σ M h
    obtain ⟨σ2, M2, h3, h4⟩ := loop_fold enc st step ys (step a y) σ' M' h2 fun z hz => hs z (List.mem_cons_of_mem _ hz)
    refine ⟨σ2, M2, ?_, h4⟩
    show (match f (enc y) σ M with | .nx σ' M' => loopL f (ys.map enc) σ' M' | .ct σ' M' => loopL f (ys.map enc) σ' M' | .bk σ' M' => .nx σ' M' | r => r) = _
    rw [h1]; exact h3
theorem loop_foldI {α β : Type} {f : D → Sl → MH → RS} (enc : β → D) (st : α → Sl → MH → Prop) (I : α → Prop) (step : α → β → α) (ys : List β) (a : α) (σ : Sl) (M : MH) (h : st a σ M) (hI : I a) (hs : ∀ y ∈ ys, ∀ a σ M, st a σ M → I a → (∃ σ' M', f (enc y) σ M = .nx σ' M' ∧ st (step a y) σ' M') ∧ I (step a y)) :
    ∃ σ' M', loopL f (ys.map enc) σ M = .nx σ' M' ∧ st (ys.foldl step a) σ' M' ∧ I (ys.foldl step a) := by
  obtain ⟨σ', M', h1, h2, h3⟩ := loop_fold (f := f) enc (fun a σ M => st a σ M ∧ I a) step ys a σ M ⟨h, hI⟩ fun y hy a σ M hh => by
    obtain ⟨⟨σ', M', h1, h2⟩, h3⟩ := hs y hy a σ M hh.1 hh.2
    exact ⟨σ', M', h1, h2, h3⟩
  exact ⟨σ', M', h1, h2, h3⟩
def encR (a s : Int) (k : Nat) : D := .int (a + (k : Int) * s)
theorem rng2_of {c : Ctx} {e1 e2 : ME} {σ : Sl} {M M' M'' : MH} {a b : Int} (h1 : ev c e1 σ M = .ok (.int a) M') (h2 : ev c e2 σ M' = .ok (.int b) M'') (ha : -1000000 < a ∧ a < 1000000) (hb : -1000000 < b ∧ b < 1000000) : ev c (.rng (.cons e1 (.cons e2 .nil))) σ M = .ok (.dct ((List.range (b - a).toNat).map (encR a 1)) []) M'' := by
  have s1 : small a = true := by unfold small; simp; omega
  have s2 : small b = true := by unfold small; simp; omega
  have ht : turns a b 1 = (b - a).toNat := by
    unfold turns
    split
    · have : (b - a + 1 - 1) / 1 = b - a := by simp
      rw [this]
    · omega
  rw [ev_rng, cons_of h1 (cons_of h2 rfl)]
  show R.ofOpt ((if (small a && small b) = true then some (rangeD a (turns a b 1) 1) else none).map fun xs => walkD xs []) _ = _
  rw [s1, s2, ht]; rfl
theorem rng1_of {c : Ctx} {e1 : ME} {σ : Sl} {M M' : MH} {b : Int} (h1 : ev c e1 σ M = .ok (.int b) M') (hb : -1000000 < b ∧ b < 1000000) : ev c (.rng (.cons e1 .nil)) σ M = .ok (.dct ((List.range b.toNat).map (encR 0 1)) []) M' := by
  have s2 : small b = true := by unfold small; simp; omega
  have ht : turns 0 b 1 = b.toNat := by
    unfold turns
    split
    · have : (b - 0 + 1 - 1) / 1 = b := by simp
      rw [this]
    · omega
  rw [ev_rng, cons_of h1 rfl]
  show R.ofOpt ((if small b = true then some (rangeD 0 (turns 0 b 1) 1) else none).map fun xs => walkD xs []) _ = _
  rw [s2, ht]; rfl
theorem rng3_of {c : Ctx} {e1 e2 e3 : ME} {σ : Sl} {M M' M'' M3 : MH} {a b s : Int} (h1 : ev c e1 σ M = .ok (.int a) M') (h2 : ev c e2 σ M' = .ok (.int b) M'') (h3 : ev c e3 σ M'' = .ok (.int s) M3) (ha : -1000000 < a ∧ a < 1000000) (hb : -1000000 < b ∧ b < 1000000) (hs : 0 < s ∧ s < 1000000) : ev c (.rng (.cons e1 (.cons e2 (.cons e3 .nil)))) σ M = .ok (.dct ((List.range (turns a b s)).map (encR a s)) []) M3 := by
  have s1 : small a = true := by unfold small; simp; omega
  have s2 : small b = true := by unfold small; simp; omega
  have s3 : small s = true := by unfold small; simp; omega
  have s4 : decide (0 < s) = true := by simp; omega
  rw [ev_rng, cons_of h1 (cons_of h2 (cons_of h3 rfl))]
  show R.ofOpt ((if (small a && small b && decide (0 < s) && small s) = true then some (rangeD a (turns a b s) s) else none).map fun xs => walkD xs []) _ = _
  rw [s1, s2, s3, s4]; rfl
theorem mul_ok {c : Ctx} {a b : ME} {σ : Sl} {M M' M'' : MH} {x y : Int} (ha : ev c a σ M = .ok (.int x) M') (hb : ev c b σ M' = .ok (.int y) M'') (h : x.natAbs < 2 ^ 63) : ev c (.bin .mul a b) σ M = .ok (.int (x * y)) M'' := by
  refine bin_of ha hb ?_
  show (if x.natAbs < 2 ^ 63 ∨ y.natAbs < 2 ^ 63 ∨ (x.natAbs < 2 ^ 1000 ∧ y.natAbs < 2 ^ 1000) then R.ok (D.int (x * y)) M'' else .stuck) = _
  rw [if_pos (.inl h)]
theorem fdiv_ok {c : Ctx} {a b : ME} {σ : Sl} {M M' M'' : MH} {x y : Int} (ha : ev c a σ M = .ok (.int x) M') (hb : ev c b σ M' = .ok (.int y) M'') (h : 0 < y ∧ y < 1073741824) : ev c (.bin .fdiv a b) σ M = .ok (.int (x / y)) M'' := by
  refine bin_of ha hb ?_
  show (if 0 < y ∧ y < 1073741824 then R.ok (D.int (x / y)) M'' else .stuck) = _
  rw [if_pos h]
theorem mod_ok {c : Ctx} {a b : ME} {σ : Sl} {M M' M'' : MH} {x y : Int} (ha : ev c a σ M = .ok (.int x) M') (hb : ev c b σ M' = .ok (.int y) M'') (h : 0 < y) : ev c (.bin .mod a b) σ M = .ok (.int (x % y)) M'' := by
  refine bin_of ha hb ?_
  show (if 0 < y then R.ok (D.int (x % y)) M'' else .stuck) = _
  rw [if_pos h]
def inner (l : List (Int × Int)) (b many : Int) : List (Int × Int) := (l.filter fun p => decide (b ≤ p.1) && decide (p.1 < b + many)).map fun p => (p.1 - b, p.2)
def inReg (l : List (Int × Int)) (size : Int) : Int → List (Int × Int) → Option Int
  | _, [] => none
  | b, (own, many) :: r => if own = size then (fOpen size 0 (holesP many (inner l b many))).map (b + ·) else inReg l size (b + many) r
def slabBl (u : Int) (l : List (Int × Int)) (k : Int) : List (Int × Int) := l.filter fun p => decide (k * u ≤ p.1) && decide (p.1 < (k + 1) * u)
def slotsP (u k size : Int) : List Int := (List.range (u / size).toNat).map fun (i : Nat) => k * u + size * (0 + (i : Int) * 1)
def inSlabA (u : Int) (l : List (Int × Int)) (size : Int) : List Int → List Int → Option (Option Int)
  | [], e => some e.head?
  | k :: r, e => match slabBl u l k with
    | [] => inSlabA u l size r (e ++ [k * u])
    | b :: bs => if b.2 = size ∧ ((bs.length : Int) + 1) < u / size then (((slotsP u k size).filter fun s => !decide (s ∈ (b :: bs).map (·.1))).head?).map some else inSlabA u l size r e
def inSlab (u cells : Int) (l : List (Int × Int)) (size : Int) : Option (Option Int) := if size > u then some none else inSlabA u l size ((List.range (cells / u).toNat).map fun (k : Nat) => 0 + (k : Int) * 1) []
theorem memM_ofL (M : MH) (a : Int) (l : List Int) (x : D) (hx : res 20 M x = some (lsI l)) (hs : ∀ b, x ≠ .str b) : memM M (.int a) x = some (decide (a ∈ l)) := by
  have e : memM M (.int a) x = (match res 20 M (.int a), res 20 M x with
    | some a, some (.lst bs) => if (a.isDat && D.isDat.datL bs) = true then some (bs.any fun b => D.eqv b a) else none
    | some a, some (.tup bs) => if (a.isDat && D.isDat.datL bs) = true then some (bs.any fun b => D.eqv b a) else none
    | _, _ => none) := by
    cases x <;> first | rfl | exact absurd rfl (hs _)
  rw [e, hx]
  show (if (true && D.isDat.datL (l.map D.int)) = true then some ((l.map D.int).any fun b => D.eqv b (.int a)) else none) = _
  rw [dat_ints, any_eqv]
  rfl
section
variable {P : MProg} {W k : Nat} {fl : Nat} {lk : List Nat} {M : MH}
theorem c_in_region (h7 : P.fns.lookup 7 = some d_holes_of) (h60 : P.fns.lookup 60 = some d_first_open) (h : P.fns.lookup 63 = some d_in_region) (hk : ∀ n ∈ lk, n < M.length) (rs l : List (Int × Int)) (size : Int) (hl : l.length ≤ 100) :
    callN P W (k + 3) false 63 [lay rs, lay l, .int size] fl lk M = .ok (oInt (inReg l size 0 rs)) M := by
  refine call_rt (M' := M) (v := oInt (inReg l size 0 rs)) h rfl ?_ (frz_oInt _ _ _) (List.take_length)
  generalize hc : (⟨callN P W (k + 2), fun i => P.gls.lookup i, W, M.length, lk⟩ : Ctx) = c
  have hcl : c.lk = lk := by subst hc; rfl
  have e60 : ∀ (many : Int) (q : List (Int × Int)), q.length ≤ 100 → ∀ fl, c.call false 60 [.int many, lay q, .int size, .int 0] fl lk M = .ok (oInt (fOpen size 0 (holesP many q))) M := fun many q hq fl => by
    subst hc; exact c_first_open h7 h60 hk many size 0 q (by omega)
  refine seq_nx (σ' := [some (lay rs), some (lay l), some (.int size), some (.int 0), none, none, none, none, none, none]) (M' := M) rfl ?_
  have hit : ev c (.it (.v 0)) [some (lay rs), some (lay l), some (.int size), some (.int 0), none, none, none, none, none, none] M = .ok (.dct (rs.map pairD) []) M := rfl
  rcases loop_may (f := turn (c.lock (locks [])) (.many [4, 5]) b_in_region_1) pairD
    (fun r σ N => N = M ∧ ∃ (b : Int) (j4 j5 j6 j7 : Option D), σ = [some (lay rs), some (lay l), some (.int size), some (.int b), j4, j5, j6, j7, none, none] ∧ inReg l size b r = inReg l size 0 rs)
    (fun v N => N = M ∧ v = oInt (inReg l size 0 rs)) (fun _ _ => False) rs _ M ⟨rfl, 0, none, none, none, none, rfl, rfl⟩ (by
      rintro ⟨own, many⟩ r σ N ⟨rfl, b, j4, j5, j6, j7, rfl, he⟩
      show _ ∨ (∃ v M', exec (c.lock (locks [])) b_in_region_1 [some (lay rs), some (lay l), some (.int size), some (.int b), some (.int own), some (.int many), j6, j7, none, none] N = .rt v M' ∧ _) ∨ _
      by_cases ho : own = size
      · have e1 := ev_comp (c := c.lock (locks [])) (elt := .tup (.cons (.bin .sub (.v 8) (.v 3)) (.cons (.v 9) .nil))) (cond := .chain .le .lt (.v 3) (.v 8) (.bin .add (.v 3) (.v 5))) (it := .it (.v 1)) (t := .many [8, 9]) (own := [8, 9]) (σ := [some (lay rs), some (lay l), some (.int size), some (.int b), some (.int own), some (.int many), j6, j7, none, none]) (M := N) (M' := N) (ys := l) (ls := []) (enc := pairD)
          (g := fun p => if (decide (b ≤ p.1) && decide (p.1 < b + many)) = true then some (pairD (p.1 - b, p.2)) else none) rfl (fun p hp => by
            obtain ⟨x, y⟩ := p
            by_cases g1 : b ≤ x
            · by_cases g2 : x < b + many
              · simp [cF, ev_c, ev_v, ev_g, ev_bin, ev_neg, ev_not, ev_cmp, ev_chain, ev_and, ev_or, ev_ife, ev_nil, ev_cons, ev_tup, ev_lst, ev_new, ev_idx, ev_slc, ev_rev, ev_call, ev_bf, ev_mt, ev_it, ev_rng, ev_enum, ev_zip, ex_skip, ex_seq, ex_asg, ex_setix, ex_aug, ex_augix, ex_ife, ex_ret, ex_retN, ex_expr, ex_brk, ex_cont, Mini.R.to, Mini.R.bind, Mini.R.ofOpt, RS.andThen, nxO, tupD, boolD, newD, cmpD, cmpop, binop, addD, mulD, catD, negD, idxD, idxO, iop, partR, partD, cutD, revD, recvD, mth, objL, one1, zero1, appendD, extendD, popD, setD, bfn, lenD, sumD, allD, anyD, minD, maxD, absD, sortedD, tupleD, listD, isinstD, isTy, kindD, tyIn, Ctx.may, Ctx.lock, Tg.asg, asgs, items, itemsL, lockOf, walkOf, walkD, walkR, itemsT, isNil, lstD, oneD, D.pure, D.pure.pureL, eqM_str, eqM_int, eqM_non, eqM_intnon, Mini.get?, place?, intsOf, minL, maxL, Mini.wipe, List.getElem?_cons_zero, List.getElem?_cons_succ, Option.join, List.set_cons_zero, List.set_cons_succ, List.map_cons, List.map_nil, Option.map_some, Option.map_none, Option.bind_some, Option.bind_none, calmR, pairD, locks, g1, g2]
              · simp [cF, ev_c, ev_v, ev_g, ev_bin, ev_neg, ev_not, ev_cmp, ev_chain, ev_and, ev_or, ev_ife, ev_nil, ev_cons, ev_tup, ev_lst, ev_new, ev_idx, ev_slc, ev_rev, ev_call, ev_bf, ev_mt, ev_it, ev_rng, ev_enum, ev_zip, ex_skip, ex_seq, ex_asg, ex_setix, ex_aug, ex_augix, ex_ife, ex_ret, ex_retN, ex_expr, ex_brk, ex_cont, Mini.R.to, Mini.R.bind, Mini.R.ofOpt, RS.andThen, nxO, tupD, boolD, newD, cmpD, cmpop, binop, addD, mulD, catD, negD, idxD, idxO, iop, partR, partD, cutD, revD, recvD, mth, objL, one1, zero1, appendD, extendD, popD, setD, bfn, lenD, sumD, allD, anyD, minD, maxD, absD, sortedD, tupleD, listD, isinstD, isTy, kindD, tyIn, Ctx.may, Ctx.lock, Tg.asg, asgs, items, itemsL, lockOf, walkOf, walkD, walkR, itemsT, isNil, lstD, oneD, D.pure, D.pure.pureL, eqM_str, eqM_int, eqM_non, eqM_intnon, Mini.get?, place?, intsOf, minL, maxL, Mini.wipe, List.getElem?_cons_zero, List.getElem?_cons_succ, Option.join, List.set_cons_zero, List.set_cons_succ, List.map_cons, List.map_nil, Option.map_some, Option.map_none, Option.bind_some, Option.bind_none, calmR, pairD, locks, g1, g2]
            · simp [cF, ev_c, ev_v, ev_g, ev_bin, ev_neg, ev_not, ev_cmp, ev_chain, ev_and, ev_or, ev_ife, ev_nil, ev_cons, ev_tup, ev_lst, ev_new, ev_idx, ev_slc, ev_rev, ev_call, ev_bf, ev_mt, ev_it, ev_rng, ev_enum, ev_zip, ex_skip, ex_seq, ex_asg, ex_setix, ex_aug, ex_augix, ex_ife, ex_ret, ex_retN, ex_expr, ex_brk, ex_cont, Mini.R.to, Mini.R.bind, Mini.R.ofOpt, RS.andThen, nxO, tupD, boolD, newD, cmpD, cmpop, binop, addD, mulD, catD, negD, idxD, idxO, iop, partR, partD, cutD, revD, recvD, mth, objL, one1, zero1, appendD, extendD, popD, setD, bfn, lenD, sumD, allD, anyD, minD, maxD, absD, sortedD, tupleD, listD, isinstD, isTy, kindD, tyIn, Ctx.may, Ctx.lock, Tg.asg, asgs, items, itemsL, lockOf, walkOf, walkD, walkR, itemsT, isNil, lstD, oneD, D.pure, D.pure.pureL, eqM_str, eqM_int, eqM_non, eqM_intnon, Mini.get?, place?, intsOf, minL, maxL, Mini.wipe, List.getElem?_cons_zero, List.getElem?_cons_succ, Option.join, List.set_cons_zero, List.set_cons_succ, List.map_cons, List.map_nil, Option.map_some, Option.map_none, Option.bind_some, Option.bind_none, calmR, pairD, locks, g1]) (by omega)
        rw [fm_filter (fun p : Int × Int => decide (b ≤ p.1) && decide (p.1 < b + many)) (fun p => pairD (p.1 - b, p.2))] at e1
        have e2 : ev (c.lock (locks [])) (.bf .tuple (.cons (.comp (.tup (.cons (.bin .sub (.v 8) (.v 3)) (.cons (.v 9) .nil))) (.chain .le .lt (.v 3) (.v 8) (.bin .add (.v 3) (.v 5))) (.it (.v 1)) (.many [8, 9]) [8, 9]) .nil)) [some (lay rs), some (lay l), some (.int size), some (.int b), some (.int own), some (.int many), j6, j7, none, none] N = .ok (lay (inner l b many)) N := by
          refine bf_of (cons_of e1 rfl) ?_
          show R.ok (D.tup _) N = _
          simp [lay, inner, Function.comp_def]
        have hil : (inner l b many).length ≤ 100 := by
          unfold inner
          rw [List.length_map]
          exact Nat.le_trans (List.length_filter_le _ _) hl
        have hin : inReg l size b ((own, many) :: r) = (fOpen size 0 (holesP many (inner l b many))).map (b + ·) := by
          show (if own = size then _ else _) = _
          rw [if_pos ho]
        refine .inr (.inl ⟨oInt (inReg l size 0 rs), N, ?_, rfl, rfl⟩)
        rw [← he, hin]
        have e3 := e60 many (inner l b many) hil (c.lock (locks [])).fl
        refine sif_t (M' := N) (by subst ho; simp [ev_c, ev_v, ev_g, ev_bin, ev_neg, ev_not, ev_cmp, ev_chain, ev_and, ev_or, ev_ife, ev_nil, ev_cons, ev_tup, ev_lst, ev_new, ev_idx, ev_slc, ev_rev, ev_call, ev_bf, ev_mt, ev_it, ev_rng, ev_enum, ev_zip, ex_skip, ex_seq, ex_asg, ex_setix, ex_aug, ex_augix, ex_ife, ex_ret, ex_retN, ex_expr, ex_brk, ex_cont, Mini.R.to, Mini.R.bind, Mini.R.ofOpt, RS.andThen, nxO, tupD, boolD, newD, cmpD, cmpop, binop, addD, mulD, catD, negD, idxD, idxO, iop, partR, partD, cutD, revD, recvD, mth, objL, one1, zero1, appendD, extendD, popD, setD, bfn, lenD, sumD, allD, anyD, minD, maxD, absD, sortedD, tupleD, listD, isinstD, isTy, kindD, tyIn, Ctx.may, Ctx.lock, Tg.asg, asgs, items, itemsL, lockOf, walkOf, walkD, walkR, itemsT, isNil, lstD, oneD, D.pure, D.pure.pureL, eqM_str, eqM_int, eqM_non, eqM_intnon, Mini.get?, place?, intsOf, minL, maxL, Mini.wipe, List.getElem?_cons_zero, List.getElem?_cons_succ, Option.join, List.set_cons_zero, List.set_cons_succ, List.map_cons, List.map_nil, Option.map_some, Option.map_none, Option.bind_some, Option.bind_none]) (seq_nx (asg_of e2 rfl) (seq_nx (asg_of (v := oInt (fOpen size 0 (holesP many (inner l b many)))) (call_of rfl (by show c.call false 60 _ _ (locks [] ++ c.lk) _ = _; rw [hcl]; exact e3)) rfl) (ret_of ?_)))
        cases hf : fOpen size 0 (holesP many (inner l b many)) with
        | none => exact if_t_of rfl rfl
        | some a => exact if_f_of rfl rfl
      · refine .inl ⟨[some (lay rs), some (lay l), some (.int size), some (.int (b + many)), some (.int own), some (.int many), j6, j7, none, none], N, .inl ?_, rfl, b + many, _, _, _, _, rfl, ?_⟩
        · show exec (c.lock (locks [])) b_in_region_1 [some (lay rs), some (lay l), some (.int size), some (.int b), some (.int own), some (.int many), j6, j7, none, none] N = _
          simp [b_in_region_1, ev_c, ev_v, ev_g, ev_bin, ev_neg, ev_not, ev_cmp, ev_chain, ev_and, ev_or, ev_ife, ev_nil, ev_cons, ev_tup, ev_lst, ev_new, ev_idx, ev_slc, ev_rev, ev_call, ev_bf, ev_mt, ev_it, ev_rng, ev_enum, ev_zip, ex_skip, ex_seq, ex_asg, ex_setix, ex_aug, ex_augix, ex_ife, ex_ret, ex_retN, ex_expr, ex_brk, ex_cont, Mini.R.to, Mini.R.bind, Mini.R.ofOpt, RS.andThen, nxO, tupD, boolD, newD, cmpD, cmpop, binop, addD, mulD, catD, negD, idxD, idxO, iop, partR, partD, cutD, revD, recvD, mth, objL, one1, zero1, appendD, extendD, popD, setD, bfn, lenD, sumD, allD, anyD, minD, maxD, absD, sortedD, tupleD, listD, isinstD, isTy, kindD, tyIn, Ctx.may, Ctx.lock, Tg.asg, asgs, items, itemsL, lockOf, walkOf, walkD, walkR, itemsT, isNil, lstD, oneD, D.pure, D.pure.pureL, eqM_str, eqM_int, eqM_non, eqM_intnon, Mini.get?, place?, intsOf, minL, maxL, Mini.wipe, List.getElem?_cons_zero, List.getElem?_cons_succ, Option.join, List.set_cons_zero, List.set_cons_succ, List.map_cons, List.map_nil, Option.map_some, Option.map_none, Option.bind_some, Option.bind_none, ho]
        · rw [← he]
          show _ = (if own = size then _ else _)
          rw [if_neg ho]) with ⟨σ', M', h1, hx⟩ | ⟨v, M', h1, rfl, rfl⟩
  · rcases hx with ⟨rfl, b, j4, j5, j6, j7, rfl, he⟩ | hx
    · refine seq_nx ((exec_for hit).trans h1) ?_
      rw [← he]
      rfl
    · exact hx.elim
  · exact seq_rt ((exec_for hit).trans h1)
theorem c_slab_starts (h : P.fns.lookup 61 = some d_slab_starts) (u n : Int) (l : List (Int × Int)) (hl : l.length ≤ 100) (hu : u.natAbs < 1000) (hn : n.natAbs < 1000) :
    callN P W (k + 1) false 61 [.int u, lay l, .int n] fl lk M = .ok (lsP (slabBl u l n)) M := by
  refine call_rt (M' := M) (v := lsP (slabBl u l n)) h rfl (ret_of ?_) (frz_lsP _ _ _) (List.take_length)
  generalize (⟨callN P W k, fun i => P.gls.lookup i, W, M.length, lk⟩ : Ctx) = c
  have e1 := ev_comp (c := c) (elt := .v 3) (cond := .chain .le .lt (.bin .mul (.v 2) (.v 0)) (.idx (.v 3) (.c (.int 0))) (.bin .mul (.bin .add (.v 2) (.c (.int 1))) (.v 0))) (it := .it (.v 1)) (t := .one 3) (own := [3]) (σ := [some (.int u), some (lay l), some (.int n), none]) (M := M) (M' := M) (ys := l) (ls := []) (enc := pairD)
    (g := fun p => if (decide (n * u ≤ p.1) && decide (p.1 < (n + 1) * u)) = true then some (pairD p) else none) rfl (fun p hp => by
      obtain ⟨x, y⟩ := p
      have m1 : n.natAbs < 2 ^ 63 := by omega
      have m2 : (n + 1).natAbs < 2 ^ 63 := by omega
      by_cases g1 : n * u ≤ x
      · by_cases g2 : x < (n + 1) * u
        · simp [cF, ev_c, ev_v, ev_g, ev_bin, ev_neg, ev_not, ev_cmp, ev_chain, ev_and, ev_or, ev_ife, ev_nil, ev_cons, ev_tup, ev_lst, ev_new, ev_idx, ev_slc, ev_rev, ev_call, ev_bf, ev_mt, ev_it, ev_rng, ev_enum, ev_zip, ex_skip, ex_seq, ex_asg, ex_setix, ex_aug, ex_augix, ex_ife, ex_ret, ex_retN, ex_expr, ex_brk, ex_cont, Mini.R.to, Mini.R.bind, Mini.R.ofOpt, RS.andThen, nxO, tupD, boolD, newD, cmpD, cmpop, binop, addD, mulD, catD, negD, idxD, idxO, iop, partR, partD, cutD, revD, recvD, mth, objL, one1, zero1, appendD, extendD, popD, setD, bfn, lenD, sumD, allD, anyD, minD, maxD, absD, sortedD, tupleD, listD, isinstD, isTy, kindD, tyIn, Ctx.may, Ctx.lock, Tg.asg, asgs, items, itemsL, lockOf, walkOf, walkD, walkR, itemsT, isNil, lstD, oneD, D.pure, D.pure.pureL, eqM_str, eqM_int, eqM_non, eqM_intnon, Mini.get?, place?, intsOf, minL, maxL, Mini.wipe, List.getElem?_cons_zero, List.getElem?_cons_succ, Option.join, List.set_cons_zero, List.set_cons_succ, List.map_cons, List.map_nil, Option.map_some, Option.map_none, Option.bind_some, Option.bind_none, calmR, pairD, locks, g1, g2, m1, m2]
        · simp [cF, ev_c, ev_v, ev_g, ev_bin, ev_neg, ev_not, ev_cmp, ev_chain, ev_and, ev_or, ev_ife, ev_nil, ev_cons, ev_tup, ev_lst, ev_new, ev_idx, ev_slc, ev_rev, ev_call, ev_bf, ev_mt, ev_it, ev_rng, ev_enum, ev_zip, ex_skip, ex_seq, ex_asg, ex_setix, ex_aug, ex_augix, ex_ife, ex_ret, ex_retN, ex_expr, ex_brk, ex_cont, Mini.R.to, Mini.R.bind, Mini.R.ofOpt, RS.andThen, nxO, tupD, boolD, newD, cmpD, cmpop, binop, addD, mulD, catD, negD, idxD, idxO, iop, partR, partD, cutD, revD, recvD, mth, objL, one1, zero1, appendD, extendD, popD, setD, bfn, lenD, sumD, allD, anyD, minD, maxD, absD, sortedD, tupleD, listD, isinstD, isTy, kindD, tyIn, Ctx.may, Ctx.lock, Tg.asg, asgs, items, itemsL, lockOf, walkOf, walkD, walkR, itemsT, isNil, lstD, oneD, D.pure, D.pure.pureL, eqM_str, eqM_int, eqM_non, eqM_intnon, Mini.get?, place?, intsOf, minL, maxL, Mini.wipe, List.getElem?_cons_zero, List.getElem?_cons_succ, Option.join, List.set_cons_zero, List.set_cons_succ, List.map_cons, List.map_nil, Option.map_some, Option.map_none, Option.bind_some, Option.bind_none, calmR, pairD, locks, g1, g2, m1, m2]
      · simp [cF, ev_c, ev_v, ev_g, ev_bin, ev_neg, ev_not, ev_cmp, ev_chain, ev_and, ev_or, ev_ife, ev_nil, ev_cons, ev_tup, ev_lst, ev_new, ev_idx, ev_slc, ev_rev, ev_call, ev_bf, ev_mt, ev_it, ev_rng, ev_enum, ev_zip, ex_skip, ex_seq, ex_asg, ex_setix, ex_aug, ex_augix, ex_ife, ex_ret, ex_retN, ex_expr, ex_brk, ex_cont, Mini.R.to, Mini.R.bind, Mini.R.ofOpt, RS.andThen, nxO, tupD, boolD, newD, cmpD, cmpop, binop, addD, mulD, catD, negD, idxD, idxO, iop, partR, partD, cutD, revD, recvD, mth, objL, one1, zero1, appendD, extendD, popD, setD, bfn, lenD, sumD, allD, anyD, minD, maxD, absD, sortedD, tupleD, listD, isinstD, isTy, kindD, tyIn, Ctx.may, Ctx.lock, Tg.asg, asgs, items, itemsL, lockOf, walkOf, walkD, walkR, itemsT, isNil, lstD, oneD, D.pure, D.pure.pureL, eqM_str, eqM_int, eqM_non, eqM_intnon, Mini.get?, place?, intsOf, minL, maxL, Mini.wipe, List.getElem?_cons_zero, List.getElem?_cons_succ, Option.join, List.set_cons_zero, List.set_cons_succ, List.map_cons, List.map_nil, Option.map_some, Option.map_none, Option.bind_some, Option.bind_none, calmR, pairD, locks, g1, m1]) (by omega)
  rw [fm_filter] at e1
  exact e1
theorem c_in_slab (h61 : P.fns.lookup 61 = some d_slab_starts) (h : P.fns.lookup 64 = some d_in_slab) (hk : ∀ n ∈ lk, n < M.length) (u cells size : Int) (l : List (Int × Int)) (hl : l.length ≤ 100) (hu : 1 ≤ u ∧ u < 1000) (hc9 : 0 ≤ cells ∧ cells < 1000) (hs : 1 ≤ size ∧ size < 1000) (o : Option Int) (ho : inSlab u cells l size = some o) :
    callN P W (k + 2) false 64 [.int u, .int cells, lay l, .int size] fl lk M = .ok (oInt o) M := by
  generalize hc : (⟨callN P W (k + 1), fun i => P.gls.lookup i, W, M.length, lk⟩ : Ctx) = c
  have hcl : c.lk = lk := by subst hc; rfl
  have hcf : c.fl = M.length := by subst hc; rfl
  unfold inSlab at ho
  by_cases hsu : size > u
  · rw [if_pos hsu] at ho
    cases ho
    refine call_rt (M' := M) (v := .non) h rfl ?_ rfl (List.take_length)
    rw [hc]
    exact sif_t (M' := M) (by simp [ev_c, ev_v, ev_g, ev_bin, ev_neg, ev_not, ev_cmp, ev_chain, ev_and, ev_or, ev_ife, ev_nil, ev_cons, ev_tup, ev_lst, ev_new, ev_idx, ev_slc, ev_rev, ev_call, ev_bf, ev_mt, ev_it, ev_rng, ev_enum, ev_zip, ex_skip, ex_seq, ex_asg, ex_setix, ex_aug, ex_augix, ex_ife, ex_ret, ex_retN, ex_expr, ex_brk, ex_cont, Mini.R.to, Mini.R.bind, Mini.R.ofOpt, RS.andThen, nxO, tupD, boolD, newD, cmpD, cmpop, binop, addD, mulD, catD, negD, idxD, idxO, iop, partR, partD, cutD, revD, recvD, mth, objL, one1, zero1, appendD, extendD, popD, setD, bfn, lenD, sumD, allD, anyD, minD, maxD, absD, sortedD, tupleD, listD, isinstD, isTy, kindD, tyIn, Ctx.may, Ctx.lock, Tg.asg, asgs, items, itemsL, lockOf, walkOf, walkD, walkR, itemsT, isNil, lstD, oneD, D.pure, D.pure.pureL, eqM_str, eqM_int, eqM_non, eqM_intnon, Mini.get?, place?, intsOf, minL, maxL, Mini.wipe, List.getElem?_cons_zero, List.getElem?_cons_succ, Option.join, List.set_cons_zero, List.set_cons_succ, List.map_cons, List.map_nil, Option.map_some, Option.map_none, Option.bind_some, Option.bind_none, hsu]) rfl
  rw [if_neg hsu] at ho
  have hlk := not_lk hk
  have e61 : ∀ (n : Int) (x : MO), n.natAbs < 1000 → ∀ fl lk, c.call false 61 [.int u, lay l, .int n] fl lk (M ++ [x]) = .ok (lsP (slabBl u l n)) (M ++ [x]) := fun n x hn fl lk => by
    subst hc; exact c_slab_starts h61 u n l hl (by omega) hn
  have hcu : 0 ≤ cells / u ∧ cells / u ≤ cells := ⟨Int.ediv_nonneg hc9.1 (by omega), Int.ediv_le_self _ hc9.1⟩
  have hit := rng1_of (c := c) (e1 := .bin .fdiv (.v 1) (.v 0)) (σ := [some (.int u), some (.int cells), some (lay l), some (.int size), some (.obj M.length), none, none, none, none, none, none, none]) (M := M ++ [.lst []]) (M' := M ++ [.lst []]) (fdiv_ok rfl rfl ⟨by omega, by omega⟩) ⟨by omega, by omega⟩
  have hw := loop_may (f := turn (c.lock (locks [])) (.one 5) b_in_slab_1) (encR 0 1)
    (fun r σ N => ∃ (e : List Int) (j5 j6 j7 j8 : Option D), σ = [some (.int u), some (.int cells), some (lay l), some (.int size), some (.obj M.length), j5, j6, j7, j8, none, none, none] ∧ N = M ++ [.lst (e.map D.int)] ∧ inSlabA u l size (r.map fun (k : Nat) => 0 + (k : Int) * 1) e = some o ∧ e.length + r.length ≤ 1000 ∧ ∀ k ∈ r, k < 1000)
    (fun v N => (∃ x, N = M ++ [x]) ∧ v = oInt o) (fun _ _ => False) (List.range (cells / u).toNat) [some (.int u), some (.int cells), some (lay l), some (.int size), some (.obj M.length), none, none, none, none, none, none, none] (M ++ [.lst []])
    ⟨[], none, none, none, none, rfl, rfl, ho, by simp; omega, fun k hk => by have := List.mem_range.mp hk; omega⟩ (by
      rintro k r σ N ⟨e, j5, j6, j7, j8, rfl, rfl, he, hlen, hr⟩
      have hk1000 := hr k List.mem_cons_self
      have hr' : ∀ k ∈ r, k < 1000 := fun q hq => hr q (List.mem_cons_of_mem _ hq)
      have hkk : (0 + (k : Int) * 1) = (k : Int) := by omega
      have he : inSlabA u l size ((0 + (k : Int) * 1) :: r.map fun (k : Nat) => 0 + (k : Int) * 1) e = some o := he
      show (∃ σ' M', (exec (c.lock (locks [])) b_in_slab_1 [some (.int u), some (.int cells), some (lay l), some (.int size), some (.obj M.length), some (.int (0 + (k : Int) * 1)), j6, j7, j8, none, none, none] (M ++ [.lst (e.map D.int)]) = .nx σ' M' ∨ exec (c.lock (locks [])) b_in_slab_1 [some (.int u), some (.int cells), some (lay l), some (.int size), some (.obj M.length), some (.int (0 + (k : Int) * 1)), j6, j7, j8, none, none, none] (M ++ [.lst (e.map D.int)]) = .ct σ' M') ∧ _) ∨ (∃ v M', exec (c.lock (locks [])) b_in_slab_1 [some (.int u), some (.int cells), some (lay l), some (.int size), some (.obj M.length), some (.int (0 + (k : Int) * 1)), j6, j7, j8, none, none, none] (M ++ [.lst (e.map D.int)]) = .rt v M' ∧ _) ∨ _
      rw [hkk] at he ⊢
      generalize hn : (k : Int) = n at *
      have hn0 : 0 ≤ n ∧ n < 1000 := by omega
      have ecall := e61 n (.lst (e.map D.int)) (by omega) (c.lock (locks [])).fl (c.lock (locks [])).lk
      have s1 : exec (c.lock (locks [])) (.asg (.one 6) (.call false 61 (.cons (.v 0) (.cons (.v 2) (.cons (.v 5) .nil))))) [some (.int u), some (.int cells), some (lay l), some (.int size), some (.obj M.length), some (.int n), j6, j7, j8, none, none, none] (M ++ [.lst (e.map D.int)]) = .nx [some (.int u), some (.int cells), some (lay l), some (.int size), some (.obj M.length), some (.int n), some (lsP (slabBl u l n)), j7, j8, none, none, none] (M ++ [.lst (e.map D.int)]) := asg_of (call_of rfl ecall) rfl
      have t1 : ev (c.lock (locks [])) (.cmp .eq (.v 6) (.lst .nil)) [some (.int u), some (.int cells), some (lay l), some (.int size), some (.obj M.length), some (.int n), some (lsP (slabBl u l n)), j7, j8, none, none, none] (M ++ [.lst (e.map D.int)]) = .ok (.bl (decide (slabBl u l n = []))) (M ++ [.lst (e.map D.int)]) :=
        cmp_of (v_of rfl) rfl (eqM_lsP _ _ [])
      have m1 : n.natAbs < 2 ^ 63 := by omega
      have hlen1 : e.length < 100000 := by simp at hlen; omega
      unfold inSlabA at he
      have hbl : (slabBl u l n).length ≤ 100 := Nat.le_trans (List.length_filter_le _ _) hl
      cases hb : slabBl u l n with
      | nil =>
        rw [hb] at he s1 t1
        refine .inl ⟨[some (.int u), some (.int cells), some (lay l), some (.int size), some (.obj M.length), some (.int n), some (lsP []), j7, j8, none, none, none], M ++ [.lst ((e ++ [n * u]).map D.int)], .inl (seq_nx s1 (ife_t t1 ?_)), e ++ [n * u], _, _, _, _, rfl, rfl, he, by simp at hlen ⊢; omega, hr'⟩
        have hm : ev (c.lock (locks [])) (.bin .mul (.v 5) (.v 0)) [some (.int u), some (.int cells), some (lay l), some (.int size), some (.obj M.length), some (.int n), some (lsP []), j7, j8, none, none, none] (M ++ [.lst (e.map D.int)]) = .ok (.int (n * u)) (M ++ [.lst (e.map D.int)]) := mul_ok rfl rfl m1
        rw [ex_expr, ev_mt]
        show ((ev (c.lock (locks [])) (.cons (.bin .mul (.v 5) (.v 0)) .nil) _ _).bind fun y N => tupD y fun ys => mth (c.lock (locks [])) .append (.obj M.length) ys N).to _ _ = _
        rw [cons_of hm rfl]
        simp [ev_c, ev_v, ev_g, ev_bin, ev_neg, ev_not, ev_cmp, ev_chain, ev_and, ev_or, ev_ife, ev_nil, ev_cons, ev_tup, ev_lst, ev_new, ev_idx, ev_slc, ev_rev, ev_call, ev_bf, ev_mt, ev_it, ev_rng, ev_enum, ev_zip, ex_skip, ex_seq, ex_asg, ex_setix, ex_aug, ex_augix, ex_ife, ex_ret, ex_retN, ex_expr, ex_brk, ex_cont, Mini.R.to, Mini.R.bind, Mini.R.ofOpt, RS.andThen, nxO, tupD, boolD, newD, cmpD, cmpop, binop, addD, mulD, catD, negD, idxD, idxO, iop, partR, partD, cutD, revD, recvD, mth, objL, one1, zero1, appendD, extendD, popD, setD, bfn, lenD, sumD, allD, anyD, minD, maxD, absD, sortedD, tupleD, listD, isinstD, isTy, kindD, tyIn, Ctx.may, Ctx.lock, Tg.asg, asgs, items, itemsL, lockOf, walkOf, walkD, walkR, itemsT, isNil, lstD, oneD, D.pure, D.pure.pureL, eqM_str, eqM_int, eqM_non, eqM_intnon, Mini.get?, place?, intsOf, minL, maxL, Mini.wipe, List.getElem?_cons_zero, List.getElem?_cons_succ, Option.join, List.set_cons_zero, List.set_cons_succ, List.map_cons, List.map_nil, Option.map_some, Option.map_none, Option.bind_some, Option.bind_none, hcl, hlk, hlen1, locks]
      | cons b bs =>
        rw [hb] at he s1 t1 hbl
        have he : (if b.2 = size ∧ ((bs.length : Int) + 1) < u / size then (((slotsP u n size).filter fun s => !decide (s ∈ (b :: bs).map (·.1))).head?).map some else inSlabA u l size (r.map fun (k : Nat) => 0 + (k : Int) * 1) e) = some o := he
        have t1 := t1.trans (show R.ok (D.bl (decide (b :: bs = []))) (M ++ [.lst (e.map D.int)]) = .ok (.bl false) (M ++ [.lst (e.map D.int)]) by simp)
        have hdv : ev (c.lock (locks [])) (.bin .fdiv (.v 0) (.v 3)) [some (.int u), some (.int cells), some (lay l), some (.int size), some (.obj M.length), some (.int n), some (lsP (b :: bs)), j7, j8, none, none, none] (M ++ [.lst (e.map D.int)]) = .ok (.int (u / size)) (M ++ [.lst (e.map D.int)]) := fdiv_ok rfl rfl ⟨by omega, by omega⟩
        have t2a : ev (c.lock (locks [])) (.cmp .eq (.idx (.idx (.v 6) (.c (.int 0))) (.c (.int 1))) (.v 3)) [some (.int u), some (.int cells), some (lay l), some (.int size), some (.obj M.length), some (.int n), some (lsP (b :: bs)), j7, j8, none, none, none] (M ++ [.lst (e.map D.int)]) = .ok (.bl (decide (b.2 = size))) (M ++ [.lst (e.map D.int)]) :=
          cmp_of (idx_of (idx0_of (l := b :: bs) (v_of rfl) rfl) rfl rfl) (v_of rfl) rfl
        have t2b : ev (c.lock (locks [])) (.cmp .lt (.bf .len (.cons (.v 6) .nil)) (.bin .fdiv (.v 0) (.v 3))) [some (.int u), some (.int cells), some (lay l), some (.int size), some (.obj M.length), some (.int n), some (lsP (b :: bs)), j7, j8, none, none, none] (M ++ [.lst (e.map D.int)]) = .ok (.bl (decide (((bs.length : Int) + 1) < u / size))) (M ++ [.lst (e.map D.int)]) := by
          refine cmp_of (x := .int ((bs.length : Int) + 1)) (bf_of (cons_of (v_of rfl) rfl) ?_) hdv rfl
          show R.ok (D.int ((((b :: bs).map pairD).length : Nat) : Int)) _ = _
          simp
        have skip : b.2 ≠ size ∨ ¬ ((bs.length : Int) + 1) < u / size → ∃ σ' M', (exec (c.lock (locks [])) b_in_slab_1 [some (.int u), some (.int cells), some (lay l), some (.int size), some (.obj M.length), some (.int n), j6, j7, j8, none, none, none] (M ++ [.lst (e.map D.int)]) = .nx σ' M' ∨ exec (c.lock (locks [])) b_in_slab_1 [some (.int u), some (.int cells), some (lay l), some (.int size), some (.obj M.length), some (.int n), j6, j7, j8, none, none, none] (M ++ [.lst (e.map D.int)]) = .ct σ' M') ∧
            ∃ (e : List Int) (j5 j6 j7 j8 : Option D), σ' = [some (.int u), some (.int cells), some (lay l), some (.int size), some (.obj M.length), j5, j6, j7, j8, none, none, none] ∧ M' = M ++ [.lst (e.map D.int)] ∧ inSlabA u l size (r.map fun (k : Nat) => 0 + (k : Int) * 1) e = some o ∧ e.length + r.length ≤ 1000 ∧ ∀ k ∈ r, k < 1000 := fun hno => by
          rw [if_neg (fun z => hno.elim (fun q => q z.1) fun q => q z.2)] at he
          refine ⟨[some (.int u), some (.int cells), some (lay l), some (.int size), some (.obj M.length), some (.int n), some (lsP (b :: bs)), j7, j8, none, none, none], M ++ [.lst (e.map D.int)], .inl (seq_nx s1 (ife_f t1 (ife_f (M' := M ++ [.lst (e.map D.int)]) ?_ rfl))), e, _, _, _, _, rfl, rfl, he, by simp at hlen ⊢; omega, hr'⟩
          by_cases q : b.2 = size
          · exact and_t_of (t2a.trans (by rw [decide_eq_true q])) (t2b.trans (by rw [decide_eq_false (hno.resolve_left fun z => z q)]))
          · exact and_f_of (t2a.trans (by rw [decide_eq_false q]))
        by_cases q1 : b.2 = size
        · by_cases q2 : ((bs.length : Int) + 1) < u / size
          · rw [if_pos ⟨q1, q2⟩] at he
            refine .inr (.inl ⟨oInt o, M ++ [.lst (e.map D.int)], seq_nx s1 (ife_f t1 (ife_t (and_t_of (t2a.trans (by rw [decide_eq_true q1])) (t2b.trans (by rw [decide_eq_true q2]))) ?_)), ⟨_, rfl⟩, rfl⟩)
            have e7 := ev_comp (c := c.lock (locks [])) (elt := .idx (.v 9) (.c (.int 0))) (cond := .nil) (it := .it (.v 6)) (t := .one 9) (own := [9]) (σ := [some (.int u), some (.int cells), some (lay l), some (.int size), some (.obj M.length), some (.int n), some (lsP (b :: bs)), j7, j8, none, none, none]) (M := M ++ [.lst (e.map D.int)]) (M' := M ++ [.lst (e.map D.int)]) (ys := b :: bs) (ls := []) (enc := pairD) (g := fun p => some (.int p.1)) rfl (fun p hp => rfl) (by omega)
            rw [fm_map] at e7
            have e7 := e7.trans (show R.ok (D.lst ((b :: bs).map fun p => D.int p.1)) (M ++ [.lst (e.map D.int)]) = R.ok (lsI ((b :: bs).map (·.1))) (M ++ [.lst (e.map D.int)]) by simp [lsI])
            generalize hT : (b :: bs).map (·.1) = T at *
            have hus : 0 ≤ u / size ∧ u / size ≤ u := ⟨Int.ediv_nonneg (by omega) (by omega), Int.ediv_le_self _ (by omega)⟩
            have hr8 := rng1_of (c := c.lock (locks [])) (e1 := .bin .fdiv (.v 0) (.v 3)) (σ := [some (.int u), some (.int cells), some (lay l), some (.int size), some (.obj M.length), some (.int n), some (lsP (b :: bs)), some (lsI T), j8, none, none, none]) (M := M ++ [.lst (e.map D.int)]) (M' := M ++ [.lst (e.map D.int)]) (fdiv_ok rfl rfl ⟨by omega, by omega⟩) ⟨by omega, by omega⟩
            have m3 : size.natAbs < 2 ^ 63 := by omega
            have e8 := ev_comp (c := c.lock (locks [])) (elt := .bin .add (.bin .mul (.v 5) (.v 0)) (.bin .mul (.v 3) (.v 10))) (cond := .nil) (t := .one 10) (own := [10]) (enc := encR 0 1) (g := fun (i : Nat) => some (D.int (n * u + size * (0 + (i : Int) * 1)))) hr8 (fun i hi => by
              simp [cF, ev_c, ev_v, ev_g, ev_bin, ev_neg, ev_not, ev_cmp, ev_chain, ev_and, ev_or, ev_ife, ev_nil, ev_cons, ev_tup, ev_lst, ev_new, ev_idx, ev_slc, ev_rev, ev_call, ev_bf, ev_mt, ev_it, ev_rng, ev_enum, ev_zip, ex_skip, ex_seq, ex_asg, ex_setix, ex_aug, ex_augix, ex_ife, ex_ret, ex_retN, ex_expr, ex_brk, ex_cont, Mini.R.to, Mini.R.bind, Mini.R.ofOpt, RS.andThen, nxO, tupD, boolD, newD, cmpD, cmpop, binop, addD, mulD, catD, negD, idxD, idxO, iop, partR, partD, cutD, revD, recvD, mth, objL, one1, zero1, appendD, extendD, popD, setD, bfn, lenD, sumD, allD, anyD, minD, maxD, absD, sortedD, tupleD, listD, isinstD, isTy, kindD, tyIn, Ctx.may, Ctx.lock, Tg.asg, asgs, items, itemsL, lockOf, walkOf, walkD, walkR, itemsT, isNil, lstD, oneD, D.pure, D.pure.pureL, eqM_str, eqM_int, eqM_non, eqM_intnon, Mini.get?, place?, intsOf, minL, maxL, Mini.wipe, List.getElem?_cons_zero, List.getElem?_cons_succ, Option.join, List.set_cons_zero, List.set_cons_succ, List.map_cons, List.map_nil, Option.map_some, Option.map_none, Option.bind_some, Option.bind_none, calmR, encR, locks, m1, m3]) (by simp; omega)
            rw [fm_map] at e8
            have e8 := e8.trans (show R.ok (D.lst ((List.range (u / size).toNat).map fun (i : Nat) => D.int (n * u + size * (0 + (i : Int) * 1)))) (M ++ [.lst (e.map D.int)]) = R.ok (lsI (slotsP u n size)) (M ++ [.lst (e.map D.int)]) by simp [lsI, slotsP])
            have hsl : (slotsP u n size).length ≤ 1000 := by unfold slotsP; simp; omega
            generalize slotsP u n size = Z at *
            have e9 := ev_comp (c := c.lock (locks [])) (elt := .v 11) (cond := .cmp .nmem (.v 11) (.v 7)) (it := .it (.v 8)) (t := .one 11) (own := [11]) (σ := [some (.int u), some (.int cells), some (lay l), some (.int size), some (.obj M.length), some (.int n), some (lsP (b :: bs)), some (lsI T), some (lsI Z), none, none, none]) (M := M ++ [.lst (e.map D.int)]) (M' := M ++ [.lst (e.map D.int)]) (ys := Z) (ls := []) (enc := D.int) (g := fun s => if (!decide (s ∈ T)) = true then some (D.int s) else none) rfl (fun s hs => by
              have hm := memM_ints (M ++ [.lst (e.map D.int)]) s T
              by_cases hh : s ∈ T
              · rw [decide_eq_true hh] at hm
                simp [cF, ev_c, ev_v, ev_g, ev_bin, ev_neg, ev_not, ev_cmp, ev_chain, ev_and, ev_or, ev_ife, ev_nil, ev_cons, ev_tup, ev_lst, ev_new, ev_idx, ev_slc, ev_rev, ev_call, ev_bf, ev_mt, ev_it, ev_rng, ev_enum, ev_zip, ex_skip, ex_seq, ex_asg, ex_setix, ex_aug, ex_augix, ex_ife, ex_ret, ex_retN, ex_expr, ex_brk, ex_cont, Mini.R.to, Mini.R.bind, Mini.R.ofOpt, RS.andThen, nxO, tupD, boolD, newD, cmpD, cmpop, binop, addD, mulD, catD, negD, idxD, idxO, iop, partR, partD, cutD, revD, recvD, mth, objL, one1, zero1, appendD, extendD, popD, setD, bfn, lenD, sumD, allD, anyD, minD, maxD, absD, sortedD, tupleD, listD, isinstD, isTy, kindD, tyIn, Ctx.may, Ctx.lock, Tg.asg, asgs, items, itemsL, lockOf, walkOf, walkD, walkR, itemsT, isNil, lstD, oneD, D.pure, D.pure.pureL, eqM_str, eqM_int, eqM_non, eqM_intnon, Mini.get?, place?, intsOf, minL, maxL, Mini.wipe, List.getElem?_cons_zero, List.getElem?_cons_succ, Option.join, List.set_cons_zero, List.set_cons_succ, List.map_cons, List.map_nil, Option.map_some, Option.map_none, Option.bind_some, Option.bind_none, calmR, locks, hm, hh]
              · rw [decide_eq_false hh] at hm
                simp [cF, ev_c, ev_v, ev_g, ev_bin, ev_neg, ev_not, ev_cmp, ev_chain, ev_and, ev_or, ev_ife, ev_nil, ev_cons, ev_tup, ev_lst, ev_new, ev_idx, ev_slc, ev_rev, ev_call, ev_bf, ev_mt, ev_it, ev_rng, ev_enum, ev_zip, ex_skip, ex_seq, ex_asg, ex_setix, ex_aug, ex_augix, ex_ife, ex_ret, ex_retN, ex_expr, ex_brk, ex_cont, Mini.R.to, Mini.R.bind, Mini.R.ofOpt, RS.andThen, nxO, tupD, boolD, newD, cmpD, cmpop, binop, addD, mulD, catD, negD, idxD, idxO, iop, partR, partD, cutD, revD, recvD, mth, objL, one1, zero1, appendD, extendD, popD, setD, bfn, lenD, sumD, allD, anyD, minD, maxD, absD, sortedD, tupleD, listD, isinstD, isTy, kindD, tyIn, Ctx.may, Ctx.lock, Tg.asg, asgs, items, itemsL, lockOf, walkOf, walkD, walkR, itemsT, isNil, lstD, oneD, D.pure, D.pure.pureL, eqM_str, eqM_int, eqM_non, eqM_intnon, Mini.get?, place?, intsOf, minL, maxL, Mini.wipe, List.getElem?_cons_zero, List.getElem?_cons_succ, Option.join, List.set_cons_zero, List.set_cons_succ, List.map_cons, List.map_nil, Option.map_some, Option.map_none, Option.bind_some, Option.bind_none, calmR, locks, hm, hh]) (by omega)
            rw [fm_filter] at e9
            refine seq_nx (asg_of e7 rfl) (seq_nx (asg_of e8 rfl) (ret_of ?_))
            refine idx_of e9 rfl ?_
            show R.ofOpt (Mini.get? ((Z.filter fun s => !decide (s ∈ T)).map D.int) 0) _ = _
            rw [mem_idx0, List.head?_map]
            cases hz : (Z.filter fun s => !decide (s ∈ T)).head? with
            | none => rw [hz] at he; cases he
            | some y => rw [hz] at he; cases he; rfl
          · exact .inl (skip (.inr q2))
        · exact .inl (skip (.inl q1)))
  have hstart : exec c (.asg (.one 4) (.new (.lst .nil))) [some (.int u), some (.int cells), some (lay l), some (.int size), none, none, none, none, none, none, none, none] M = .nx [some (.int u), some (.int cells), some (lay l), some (.int size), some (.obj M.length), none, none, none, none, none, none, none] (M ++ [.lst []]) := rfl
  have tsz : ev c (.cmp .gt (.v 3) (.v 0)) [some (.int u), some (.int cells), some (lay l), some (.int size), none, none, none, none, none, none, none, none] M = .ok (.bl false) M := cmp_of rfl rfl (congrArg some (decide_eq_false hsu))
  have hfor := exec_for (c := c) (t := .one 5) (b := b_in_slab_1) hit
  rcases hw with ⟨σ', M', h1, hx⟩ | ⟨v, M', h1, ⟨x, rfl⟩, rfl⟩
  · rcases hx with ⟨e, j5, j6, j7, j8, rfl, rfl, he, _⟩ | hx
    · have he : some e.head? = some o := he
      cases he
      refine call_rt (M' := M ++ [.lst (e.map D.int)]) (v := oInt e.head?) h rfl ?_ (frz_oInt _ _ _) (by simp)
      rw [hc]
      refine sif_f tsz (seq_nx hstart (seq_nx (hfor.trans h1) (ret_of ?_)))
      have hget : (M ++ [MO.lst (e.map D.int)])[M.length]? = some (.lst (e.map D.int)) := by simp
      have hq : eqM (M ++ [.lst (e.map D.int)]) (.obj M.length) (.lst []) = some (decide (e = [])) := by
        have e2 : res 20 (M ++ [.lst (e.map D.int)]) (.obj M.length) = some (lsI e) := by
          show (match (M ++ [MO.lst (e.map D.int)])[M.length]? with
            | some (.lst xs) => (xs.mapM (res 19 (M ++ [MO.lst (e.map D.int)]))).map D.lst
            | some (.dct ks vs) => (ks.mapM (res 19 (M ++ [MO.lst (e.map D.int)]))).bind fun ks' => (vs.mapM (res 19 (M ++ [MO.lst (e.map D.int)]))).map fun vs' => .dct ks' vs'
            | _ => none) = _
          rw [hget]
          show ((e.map D.int).mapM (res 19 _)).map D.lst = _
          rw [res_ints]; rfl
        unfold eqM
        rw [e2]
        show (if (D.isDat.datL (e.map D.int) && true) = true then some (D.eqv.eqvL (e.map D.int) []) else none) = _
        rw [dat_ints]
        cases e <;> rfl
      cases e with
      | nil => exact if_f_of (cmp_of (v_of rfl) rfl (by show (eqM _ _ _).map (!·) = _; rw [hq]; rfl)) rfl
      | cons x e =>
        refine if_t_of (cmp_of (v_of rfl) rfl (by show (eqM _ _ _).map (!·) = _; rw [hq]; rfl)) (idx_of (v_of rfl) rfl ?_)
        show R.ofOpt ((Mini.items _ (.obj M.length)).bind fun xs => Mini.get? xs 0) _ = _
        simp [Mini.items, mem_idx0, R.ofOpt, oInt]
    · exact hx.elim
  · refine call_rt (M' := M ++ [x]) (v := oInt o) h rfl ?_ (frz_oInt _ _ _) (by simp)
    rw [hc]
    exact sif_f tsz (seq_nx hstart (seq_rt (hfor.trans h1)))
end
end Con
set_option autoImplicit false
set_option maxRecDepth 100000
set_option maxHeartbeats 4000000
namespace Con
open Mini Tx
def rnd (n : Int) : Int := if n = 3 then 4 else n
def clr (m : List Bool) (a : Int) (k : Nat) : List Bool := (List.range k).foldl (fun m (i : Nat) => m.set (a + (i : Int) * 1).toNat false) m
theorem clr_len (a : Int) (k : Nat) (m : List Bool) : (clr m a k).length = m.length := by
  unfold clr
  generalize List.range k = ks
  induction ks generalizing m with
  | nil => rfl
  | cons i ks ih => rw [List.foldl_cons, ih]; simp
def minC (cells x : Int) : Int := if x < cells then x else cells
def marksR (cells : Int) (l : List (Int × Int)) : List Bool := l.foldl (fun m p => clr m p.1 (minC cells (p.1 + rnd p.2) - p.1).toNat) (List.replicate cells.toNat true)
theorem marksR_len (cells : Int) (l : List (Int × Int)) : (marksR cells l).length = cells.toNat := by
  unfold marksR
  have : ∀ m : List Bool, (l.foldl (fun m p => clr m p.1 (minC cells (p.1 + rnd p.2) - p.1).toNat) m).length = m.length := fun m => by
    induction l generalizing m with
    | nil => rfl
    | cons p l ih => rw [List.foldl_cons, ih, clr_len]
  rw [this]; simp
def partsStep (len : Int) (st : List Bool × List (Int × Int)) (k : Nat) : List Bool × List (Int × Int) :=
  if (cut st.1 (some (0 + (k : Int) * len)) (some (0 + (k : Int) * len + len))).all id = true then (clr st.1 (0 + (k : Int) * len) len.toNat, st.2 ++ [(len, 0 + (k : Int) * len)]) else st
def partsL (cells : Int) (st : List Bool × List (Int × Int)) (len : Int) : List Bool × List (Int × Int) := (List.range (turns 0 (cells - len + 1) len)).foldl (partsStep len) st
def partsA (cells : Int) (m : List Bool) : List (Int × Int) := (([8, 4, 2, 1] : List Int).foldl (partsL cells) (m, [])).2
def partsP (cells : Int) (l : List (Int × Int)) : List (Int × Int) := sortP (partsA cells (marksR cells l))
theorem set_bl (m : List Bool) (j : Nat) : (m.map D.bl).set j (.bl false) = (m.set j false).map D.bl := by
  rw [List.map_set]
theorem cut_map {α β : Type} (f : α → β) (xs : List α) (a b : Option Int) : cut (xs.map f) a b = (cut xs a b).map f := by
  cases a <;> cases b <;> simp [cut, List.map_drop, List.map_take]
  exact List.take_of_length_le (by simp)
theorem all_map_bl (l : List Bool) (M : MH) : allD (.lst (l.map D.bl)) M = .ok (.bl (l.all id)) M := by
  show R.ofOpt ((boolsOf (l.map D.bl)).map fun bs => D.bl (bs.all id)) M = _
  rw [all_bools]; rfl
section
variable {P : MProg} {W k : Nat} {fl : Nat} {lk : List Nat} {M : MH}
theorem c_rounded (h : P.fns.lookup 25 = some d_rounded) (n : Int) : callN P W (k + 1) false 25 [.int n] fl lk M = .ok (.int (rnd n)) M := by
  refine call_rt (M' := M) (v := .int (rnd n)) h rfl (ret_of ?_) rfl (List.take_length)
  unfold rnd
  by_cases h3 : n = 3
  · rw [if_pos h3]
    exact if_t_of (M' := M) (cmp_of (v_of rfl) rfl (congrArg some (decide_eq_true h3))) rfl
  · rw [if_neg h3]
    exact if_f_of (M' := M) (cmp_of (v_of rfl) rfl (congrArg some (decide_eq_false h3))) rfl
theorem loop_clr {c : Ctx} (hc : c.lk.contains M.length = false) {i t : Nat} {σ0 σ1 : Sl} (x : Option D) (rest : MH) (hfree : c.fl ≤ M.length) (b : MS)
    (hb : ∀ (m : List Bool) (y : Option D) (v : Int), 0 ≤ v → v < m.length → turn c (.one t) b (.int v) (σ0 ++ y :: σ1) (M ++ .lst (m.map D.bl) :: rest) = .nx (σ0 ++ some (.int v) :: σ1) (M ++ .lst ((m.set v.toNat false).map D.bl) :: rest))
    (m : List Bool) (a : Int) (kk : Nat) (ha : 0 ≤ a) (hk : a + kk ≤ m.length) : ∃ y, loopL (turn c (.one t) b) ((List.range kk).map (encR a 1)) (σ0 ++ x :: σ1) (M ++ .lst (m.map D.bl) :: rest) = .nx (σ0 ++ y :: σ1) (M ++ .lst ((clr m a kk).map D.bl) :: rest) := by
  obtain ⟨σ', M', h1, ⟨y, rfl, rfl⟩, _⟩ := loop_foldI (f := turn c (.one t) b) (encR a 1) (fun (m' : List Bool) σ N => ∃ y, σ = σ0 ++ y :: σ1 ∧ N = M ++ .lst (m'.map D.bl) :: rest) (fun m' => m'.length = m.length) (fun m (i : Nat) => m.set (a + (i : Int) * 1).toNat false) (List.range kk) m (σ0 ++ x :: σ1) (M ++ .lst (m.map D.bl) :: rest) ⟨x, rfl, rfl⟩ rfl (by
    rintro i hi m' σ N ⟨y, rfl, rfl⟩ hm
    have := List.mem_range.mp hi
    exact ⟨⟨_, _, hb m' y (a + (i : Int) * 1) (by omega) (by omega), some _, rfl, rfl⟩, by rw [List.length_set]; exact hm⟩)
  exact ⟨y, h1⟩
theorem get_mid (M rest : MH) (x : MO) : (M ++ x :: rest)[M.length]? = some x := by simp
theorem set_mid (M rest : MH) (x y : MO) : (M ++ x :: rest).set M.length y = M ++ y :: rest := by simp
theorem setix_bl {c : Ctx} (hlk : M.length ∉ c.lk) {i : Nat} {v : Int} {σ : Sl} {rest : MH} {m : List Bool} {ei : ME} (he : ∀ N, ev c ei σ N = .ok (.int v) N) (ho : σ[i]? = some (some (.obj M.length))) (h0 : 0 ≤ v) (h1 : v < m.length) : exec c (.setix (.v i) ei (.c (.bl false))) σ (M ++ .lst (m.map D.bl) :: rest) = .nx σ (M ++ .lst ((m.set v.toNat false).map D.bl) :: rest) := by
  rw [ex_setix, ev_c]
  show ((ev c (.v i) σ _).to σ fun x M => (ev c ei σ M).to σ fun y M => (setD c x y (.bl false) M).to σ fun _ M => .nx σ M) = _
  rw [v_of ho]
  show ((ev c ei σ _).to σ fun y M' => (setD c (.obj M.length) y (.bl false) M').to σ fun _ M => .nx σ M) = _
  rw [he]
  show (setD c (.obj M.length) (.int v) (.bl false) _).to σ _ = _
  have hp : place? (m.map D.bl).length v = some v.toNat := by
    unfold place?
    rw [if_pos h0, if_pos (by rw [List.length_map]; exact h1)]
  have hs : setD c (.obj M.length) (.int v) (.bl false) (M ++ .lst (m.map D.bl) :: rest) = .ok .non (M ++ .lst ((m.set v.toNat false).map D.bl) :: rest) := by
    unfold setD objL
    simp only [get_mid, hp]
    have hm : c.may M.length (.bl false) = true := by simp [Ctx.may, hlk, D.pure]
    simp [hm, List.map_set]
  rw [hs]
  rfl
theorem c_free_marks (h25 : P.fns.lookup 25 = some d_rounded) (h : P.fns.lookup 59 = some d_free_marks) (hk : ∀ n ∈ lk, n < M.length) (cells : Int) (hc9 : 0 ≤ cells ∧ cells ≤ 9) (l : List (Int × Int)) (hl : ∀ p ∈ l, 0 ≤ p.1 ∧ p.1 ≤ cells ∧ p.2 ≤ 1000 ∧ 0 ≤ p.2) :
    callN P W (k + 2) true 59 [.int cells, lay l] fl lk M = .ok (.obj M.length) (M ++ [.lst ((marksR cells l).map D.bl)]) := by
  have hlk := not_lk hk
  suffices hh : exec ⟨callN P W (k + 1), fun i => P.gls.lookup i, W, M.length, lk⟩ d_free_marks.body [some (.int cells), some (lay l), none, none, none, none] M = .rt (.obj M.length) (M ++ [.lst ((marksR cells l).map D.bl)]) by
    unfold callN
    rw [h]
    show (match false, exec ⟨callN P W (k + 1), fun i => P.gls.lookup i, W, M.length, lk⟩ d_free_marks.body [some (.int cells), some (lay l), none, none, none, none] M with
        | false, .rt v M' => leave true M.length v M'
        | false, .nx _ M' => leave true M.length .non M'
        | false, .exc c _ M' => .exc c (M'.take M.length)
        | true, .rt v M' => .ok v M'
        | true, .nx _ M' => .ok .non M'
        | true, .exc c _ M' => .exc c M'
        | _, _ => .stuck) = _
    rw [hh]
    show (if M.length < M.length then R.ok (D.obj M.length) ((M ++ [MO.lst ((marksR cells l).map D.bl)]).take M.length) else match (M ++ [MO.lst ((marksR cells l).map D.bl)])[M.length]? with
      | some (.lst xs) => (match xs.mapM (frz M.length ((M ++ [MO.lst ((marksR cells l).map D.bl)]).set M.length (.ins 0 [])) 20) with
        | some ys => R.ok (D.obj M.length) ((M ++ [MO.lst ((marksR cells l).map D.bl)]).take M.length ++ [MO.lst ys])
        | none => .stuck)
      | _ => .stuck) = _
    rw [if_neg (Nat.lt_irrefl _), List.getElem?_concat_length]
    have hb : ∀ (n0 k : Nat) (N : MH) (bs : List Bool), (bs.map D.bl).mapM (frz n0 N k) = some (bs.map D.bl) := fun n0 k N bs => by
      induction bs with
      | nil => rfl
      | cons b bs ih => rw [List.map_cons, List.mapM_cons, ih]; cases k <;> rfl
    show (match ((marksR cells l).map D.bl).mapM (frz M.length ((M ++ [MO.lst ((marksR cells l).map D.bl)]).set M.length (.ins 0 [])) 20) with
        | some ys => R.ok (D.obj M.length) ((M ++ [MO.lst ((marksR cells l).map D.bl)]).take M.length ++ [MO.lst ys])
        | none => .stuck) = _
    rw [hb]
    simp
  generalize hc : (⟨callN P W (k + 1), fun i => P.gls.lookup i, W, M.length, lk⟩ : Ctx) = c
  have hcl : c.lk = lk := by subst hc; rfl
  have hcf : c.fl = M.length := by subst hc; rfl
  have e25 : ∀ n N fl lk, c.call false 25 [.int n] fl lk N = .ok (.int (rnd n)) N := fun n N fl lk => by subst hc; exact c_rounded h25 n
  have s1 : exec c (.asg (.one 2) (.new (.bin .mul (.lst (.cons (.c (.bl true)) .nil)) (.v 0)))) [some (.int cells), some (lay l), none, none, none, none] M = .nx [some (.int cells), some (lay l), some (.obj M.length), none, none, none] (M ++ [.lst ((List.replicate cells.toNat true).map D.bl)]) := by
    refine asg_of (new_of (bin_of (lst_of (ys := [D.bl true]) rfl) (v_of rfl) ?_)) rfl
    show (if [D.bl true].length * cells.toNat ≤ 10000 ∧ cells.natAbs < 2 ^ 30 then R.ok (D.lst ((List.replicate cells.toNat [D.bl true]).flatten)) M else .stuck) = _
    rw [if_pos ⟨by simp; omega, by omega⟩]
    congr 2
    rw [List.map_replicate]
    generalize cells.toNat = n
    induction n with
    | zero => rfl
    | succ n ih => rw [List.replicate_succ, List.flatten_cons, ih]; rfl
  refine seq_nx s1 ?_
  obtain ⟨σ', M', h1, ⟨j3, j4, j5, rfl, rfl⟩, _⟩ := loop_foldI (f := turn (c.lock (locks [])) (.many [3, 4]) b_free_marks_2) pairD (fun (m : List Bool) σ N => ∃ j3 j4 j5 : Option D, σ = [some (.int cells), some (lay l), some (.obj M.length), j3, j4, j5] ∧ N = M ++ [.lst (m.map D.bl)]) (fun m => m.length = cells.toNat) (fun m p => clr m p.1 (minC cells (p.1 + rnd p.2) - p.1).toNat) l (List.replicate cells.toNat true) [some (.int cells), some (lay l), some (.obj M.length), none, none, none] (M ++ [.lst ((List.replicate cells.toNat true).map D.bl)]) ⟨none, none, none, rfl, rfl⟩ (by simp) (by
    rintro ⟨s, z⟩ hp m σ N ⟨j3, j4, j5, rfl, rfl⟩ hm
    have hb := hl (s, z) hp
    have hs0 : 0 ≤ s := hb.1
    have hsc : s ≤ cells := hb.2.1
    have hz : z ≤ 1000 := hb.2.2.1
    have hz0 : 0 ≤ z := hb.2.2.2
    refine ⟨?_, by rw [clr_len]; exact hm⟩
    have hr : rnd z ≤ 1000 ∧ 0 ≤ rnd z := by unfold rnd; split <;> omega
    have hmc : minC cells (s + rnd z) ≤ cells ∧ s ≤ minC cells (s + rnd z) := by unfold minC; split <;> omega
    have hmin : ev (c.lock (locks [])) (.bf .min (.cons (.v 0) (.cons (.bin .add (.v 3) (.call false 25 (.cons (.v 4) .nil))) .nil))) [some (.int cells), some (lay l), some (.obj M.length), some (.int s), some (.int z), j5] (M ++ [.lst (m.map D.bl)]) = .ok (.int (minC cells (s + rnd z))) (M ++ [.lst (m.map D.bl)]) :=
      bf_of (cons_of (v_of rfl) (cons_of (bin_of (v_of rfl) (call_of (cons_of (v_of rfl) rfl) (e25 z _ _ _)) rfl) rfl)) rfl
    have hit := rng2_of (c := c.lock (locks [])) (e1 := .v 3) (σ := [some (.int cells), some (lay l), some (.obj M.length), some (.int s), some (.int z), j5]) (M := M ++ [.lst (m.map D.bl)]) (a := s) rfl hmin ⟨by omega, by omega⟩ ⟨by omega, by omega⟩
    obtain ⟨y, hy⟩ := loop_clr (M := M) (c := (c.lock (locks [])).lock (locks [])) (t := 5) (i := 2) (σ0 := [some (.int cells), some (lay l), some (.obj M.length), some (.int s), some (.int z)]) (σ1 := []) (by simp [Ctx.lock, locks, hcl, hlk]) j5 [] (by show c.fl ≤ _; omega) b_free_marks_1 (fun m y v h0 h1 => by
      show exec _ (.setix (.v 2) (.v 5) (.c (.bl false))) [some (.int cells), some (lay l), some (.obj M.length), some (.int s), some (.int z), some (.int v)] _ = _
      exact setix_bl (by simp [Ctx.lock, locks, hcl, hlk]) (fun N => rfl) rfl h0 h1) m s (minC cells (s + rnd z) - s).toNat hs0 (by omega)
    exact ⟨_, _, (exec_for hit).trans hy, _, _, _, rfl, rfl⟩)
  exact seq_nx ((exec_for (xs := l.map pairD) (ls := []) rfl).trans h1) (ret_of rfl)
theorem c_parts_of (h25 : P.fns.lookup 25 = some d_rounded) (h59 : P.fns.lookup 59 = some d_free_marks) (h : P.fns.lookup 62 = some d_parts_of) (g3 : P.gls.lookup 3 = some (.tup [.int 1, .int 2, .int 4, .int 8])) (hk : ∀ n ∈ lk, n < M.length) (cells : Int) (hc9 : 0 ≤ cells ∧ cells ≤ 9) (l : List (Int × Int)) (hl : ∀ p ∈ l, 0 ≤ p.1 ∧ p.1 ≤ cells ∧ p.2 ≤ 1000 ∧ 0 ≤ p.2) :
    callN P W (k + 3) false 62 [.int cells, lay l] fl lk M = .ok (lsP (partsP cells l)) M := by
  have hlk := not_lk hk
  generalize hc : (⟨callN P W (k + 2), fun i => P.gls.lookup i, W, M.length, lk⟩ : Ctx) = c
  have hcl : c.lk = lk := by subst hc; rfl
  have hcf : c.fl = M.length := by subst hc; rfl
  have hgl : c.gl 3 = some (.tup [.int 1, .int 2, .int 4, .int 8]) := by subst hc; exact g3
  have e59 : ∀ fl, c.call true 59 [.int cells, lay l] fl lk M = .ok (.obj M.length) (M ++ [.lst ((marksR cells l).map D.bl)]) := fun fl => by subst hc; exact c_free_marks h25 h59 hk cells hc9 l hl
  have s1 : exec c (.asg (.many [2, 3]) (.tup (.cons (.call true 59 (.cons (.v 0) (.cons (.v 1) .nil))) (.cons (.new (.lst .nil)) .nil)))) [some (.int cells), some (lay l), none, none, none, none, none] M = .nx [some (.int cells), some (lay l), some (.obj M.length), some (.obj (M.length + 1)), none, none, none] (M ++ [.lst ((marksR cells l).map D.bl), .lst []]) := by
    refine asg_of (v := .tup [.obj M.length, .obj (M.length + 1)]) (cons_of (call_of rfl (by rw [hcl]; exact e59 _)) (cons_of (new_of rfl) rfl |>.trans ?_)) rfl
    simp
  have hlk1 : M.length + 1 ∉ lk := fun z => by have := hk _ z; omega
  have hturns : ∀ len : Int, 1 ≤ len → len ≤ 8 → turns 0 (cells - len + 1) len ≤ 9 ∧ ∀ k, k < turns 0 (cells - len + 1) len → (k : Int) * len + len ≤ cells := fun len h1 h8 => by
    unfold turns
    by_cases hq : 0 < cells - len + 1
    · rw [if_pos hq]
      have e : cells - len + 1 - 0 + len - 1 = cells := by omega
      rw [e]
      have hd : 0 ≤ cells / len := Int.ediv_nonneg hc9.1 (by omega)
      have hd2 : cells / len ≤ cells := Int.ediv_le_self _ hc9.1
      refine ⟨by omega, fun k hk => ?_⟩
      have hk2 : (k : Int) + 1 ≤ cells / len := by omega
      have h3 : ((k : Int) + 1) * len ≤ cells / len * len := Int.mul_le_mul_of_nonneg_right hk2 (by omega)
      have h4 : cells / len * len ≤ cells := Int.ediv_mul_le cells (by omega)
      have h5 : ((k : Int) + 1) * len = (k : Int) * len + len := by rw [Int.add_mul, Int.one_mul]
      omega
    · rw [if_neg hq]
      exact ⟨by omega, fun k hk => absurd hk (Nat.not_lt_zero _)⟩
  obtain ⟨σ', M', h1, st, j4, j5, j6, rfl, rfl, hst, _, _⟩ := loop_inv (f := turn (c.lock (locks [])) (.one 4) b_parts_of_3) (fun n : Int => D.int n)
    (fun r σ N => ∃ (st : List Bool × List (Int × Int)) (j4 j5 j6 : Option D), σ = [some (.int cells), some (lay l), some (.obj M.length), some (.obj (M.length + 1)), j4, j5, j6] ∧ N = M ++ [.lst (st.1.map D.bl), .lst (st.2.map pairD)] ∧ (r.foldl (partsL cells) st).2 = partsA cells (marksR cells l) ∧ (st.1.length = cells.toNat ∧ st.2.length + 10 * r.length ≤ 40) ∧ ∀ n ∈ r, 1 ≤ n ∧ n ≤ 8)
    ([8, 4, 2, 1] : List Int) [some (.int cells), some (lay l), some (.obj M.length), some (.obj (M.length + 1)), none, none, none] (M ++ [.lst ((marksR cells l).map D.bl), .lst []]) ⟨(marksR cells l, []), none, none, none, rfl, rfl, rfl, ⟨marksR_len cells l, by simp⟩, fun n hn => by
      simp only [List.mem_cons, List.not_mem_nil, or_false] at hn; omega⟩ (by
    rintro len r σ N ⟨st, j4, j5, j6, rfl, rfl, hfin, ⟨hlen, hf⟩, hn⟩
    obtain ⟨hn1, hn8⟩ := hn len List.mem_cons_self
    obtain ⟨ht9, htk⟩ := hturns len hn1 hn8
    obtain ⟨σ2, M2, g1, st2, k5, k6, rfl, rfl, g2, g3, g4, _⟩ := loop_inv (f := turn ((c.lock (locks [])).lock (locks [])) (.one 5) b_parts_of_2) (encR 0 len)
      (fun q σ N => ∃ (st' : List Bool × List (Int × Int)) (k5 k6 : Option D), σ = [some (.int cells), some (lay l), some (.obj M.length), some (.obj (M.length + 1)), some (.int len), k5, k6] ∧ N = M ++ [.lst (st'.1.map D.bl), .lst (st'.2.map pairD)] ∧ q.foldl (partsStep len) st' = partsL cells st len ∧ st'.1.length = cells.toNat ∧ st'.2.length + q.length ≤ st.2.length + 9 ∧ ∀ k ∈ q, (k : Int) * len + len ≤ cells)
      (List.range (turns 0 (cells - len + 1) len)) [some (.int cells), some (lay l), some (.obj M.length), some (.obj (M.length + 1)), some (.int len), j5, j6] (M ++ [.lst (st.1.map D.bl), .lst (st.2.map pairD)]) ⟨st, j5, j6, rfl, rfl, rfl, hlen, by simp; omega, fun k hk => htk k (List.mem_range.mp hk)⟩ (by
        rintro k q σ N ⟨st', k5, k6, rfl, rfl, q1, q2, q3, q4⟩
        have hkc := q4 k List.mem_cons_self
        have hk0 : 0 ≤ (k : Int) * len := Int.mul_nonneg (by omega) (by omega)
        obtain ⟨m, f⟩ := st'
        have q2 : m.length = cells.toNat := q2
        have q3 : f.length + (k :: q).length ≤ st.2.length + 9 := q3
        have hst : (k :: q).foldl (partsStep len) (m, f) = q.foldl (partsStep len) (partsStep len (m, f) k) := rfl
        rw [hst] at q1
        generalize hs : (0 + (k : Int) * len) = s at *
        have hs0 : 0 ≤ s ∧ s + len ≤ cells := by omega
        have hcut : ev ((c.lock (locks [])).lock (locks [])) (.slc (.v 2) (.v 5) (.bin .add (.v 5) (.v 4))) [some (.int cells), some (lay l), some (.obj M.length), some (.obj (M.length + 1)), some (.int len), some (.int s), k6] (M ++ [.lst (m.map D.bl), .lst (f.map pairD)]) = .ok (.lst ((cut m (some s) (some (s + len))).map D.bl)) (M ++ [.lst (m.map D.bl), .lst (f.map pairD)]) := by
          show R.ofOpt ((Mini.itemsL (M ++ [.lst (m.map D.bl), .lst (f.map pairD)]) (.obj M.length)).map fun xs => D.lst (cut xs (some s) (some (s + len)))) _ = _
          have : Mini.itemsL (M ++ [.lst (m.map D.bl), .lst (f.map pairD)]) (.obj M.length) = some (m.map D.bl) := by simp [Mini.itemsL]
          rw [this]
          show R.ok (D.lst (cut (m.map D.bl) (some s) (some (s + len)))) _ = _
          rw [cut_map]
        have hall : ev ((c.lock (locks [])).lock (locks [])) (.bf .all (.cons (.slc (.v 2) (.v 5) (.bin .add (.v 5) (.v 4))) .nil)) [some (.int cells), some (lay l), some (.obj M.length), some (.obj (M.length + 1)), some (.int len), some (.int s), k6] (M ++ [.lst (m.map D.bl), .lst (f.map pairD)]) = .ok (.bl ((cut m (some s) (some (s + len))).all id)) (M ++ [.lst (m.map D.bl), .lst (f.map pairD)]) :=
          bf_of (cons_of hcut rfl) (all_map_bl _ _)
        have hps : partsStep len (m, f) k = if (cut m (some s) (some (s + len))).all id = true then (clr m s len.toNat, f ++ [(len, s)]) else (m, f) := by
          unfold partsStep
          rw [hs]
        show ∃ σ' M', (exec ((c.lock (locks [])).lock (locks [])) b_parts_of_2 [some (.int cells), some (lay l), some (.obj M.length), some (.obj (M.length + 1)), some (.int len), some (.int (0 + (k : Int) * len)), k6] (M ++ [.lst (m.map D.bl), .lst (f.map pairD)]) = .nx σ' M' ∨ exec ((c.lock (locks [])).lock (locks [])) b_parts_of_2 [some (.int cells), some (lay l), some (.obj M.length), some (.obj (M.length + 1)), some (.int len), some (.int (0 + (k : Int) * len)), k6] (M ++ [.lst (m.map D.bl), .lst (f.map pairD)]) = .ct σ' M') ∧ _
        rw [hs]
        by_cases ha : (cut m (some s) (some (s + len))).all id = true
        · rw [hps, if_pos ha] at q1
          rw [ha] at hall
          have hfl : f.length < 100000 := by simp at q3; omega
          have happ : exec ((c.lock (locks [])).lock (locks [])) (.expr (.mt .append (.v 3) (.cons (.tup (.cons (.v 4) (.cons (.v 5) .nil))) .nil))) [some (.int cells), some (lay l), some (.obj M.length), some (.obj (M.length + 1)), some (.int len), some (.int s), k6] (M ++ [.lst (m.map D.bl), .lst (f.map pairD)]) = .nx [some (.int cells), some (lay l), some (.obj M.length), some (.obj (M.length + 1)), some (.int len), some (.int s), k6] (M ++ [.lst (m.map D.bl), .lst ((f ++ [(len, s)]).map pairD)]) := by
            rw [ex_expr, ev_mt]
            show (mth ((c.lock (locks [])).lock (locks [])) .append (.obj (M.length + 1)) [pairD (len, s)] _).to _ _ = _
            have hg : (M ++ [MO.lst (m.map D.bl), .lst (f.map pairD)])[M.length + 1]? = some (.lst (f.map pairD)) := by simp
            simp [mth, objL, hg, one1, appendD, Ctx.may, Ctx.lock, locks, hcl, hlk1, hfl, D.pure, D.pure.pureL, pairD, R.to]
          have hit := rng2_of (c := (c.lock (locks [])).lock (locks [])) (e1 := .v 5) (e2 := .bin .add (.v 5) (.v 4)) (σ := [some (.int cells), some (lay l), some (.obj M.length), some (.obj (M.length + 1)), some (.int len), some (.int s), k6]) (M := M ++ [.lst (m.map D.bl), .lst ((f ++ [(len, s)]).map pairD)]) (a := s) (b := s + len) rfl rfl ⟨by omega, by omega⟩ ⟨by omega, by omega⟩
          have e0 : (s + len - s).toNat = len.toNat := by congr 1; omega
          rw [e0] at hit
          obtain ⟨y, hy⟩ := loop_clr (M := M) (c := ((c.lock (locks [])).lock (locks [])).lock (locks [])) (t := 6) (i := 2) (σ0 := [some (.int cells), some (lay l), some (.obj M.length), some (.obj (M.length + 1)), some (.int len), some (.int s)]) (σ1 := []) (by simp [Ctx.lock, locks, hcl, hlk]) k6 [.lst ((f ++ [(len, s)]).map pairD)] (by show c.fl ≤ _; omega) b_parts_of_1 (fun m y v h0 h1 => by
            show exec _ (.setix (.v 2) (.v 6) (.c (.bl false))) [some (.int cells), some (lay l), some (.obj M.length), some (.obj (M.length + 1)), some (.int len), some (.int s), some (.int v)] _ = _
            exact setix_bl (by simp [Ctx.lock, locks, hcl, hlk]) (fun N => rfl) rfl h0 h1) m s len.toNat hs0.1 (by omega)
          exact ⟨_, _, .inl (ife_t hall (seq_nx happ ((exec_for hit).trans hy))), _, _, _, rfl, rfl, q1, by show (clr m s len.toNat).length = _; rw [clr_len]; exact q2, by simp at q3 ⊢; omega, fun j hj => q4 j (List.mem_cons_of_mem _ hj)⟩
        · rw [hps, if_neg ha] at q1
          have ha : (cut m (some s) (some (s + len))).all id = false := by simpa using ha
          rw [ha] at hall
          exact ⟨_, _, .inl (ife_f hall rfl), _, _, _, rfl, rfl, q1, q2, by simp at q3 ⊢; omega, fun j hj => q4 j (List.mem_cons_of_mem _ hj)⟩)
    have g2 : st2 = partsL cells st len := g2
    have hit2 := rng3_of (c := c.lock (locks [])) (e1 := .c (.int 0)) (e2 := .bin .add (.bin .sub (.v 0) (.v 4)) (.c (.int 1))) (e3 := .v 4) (σ := [some (.int cells), some (lay l), some (.obj M.length), some (.obj (M.length + 1)), some (.int len), j5, j6]) (M := M ++ [.lst (st.1.map D.bl), .lst (st.2.map pairD)]) (a := 0) (b := cells - len + 1) (s := len) rfl rfl rfl ⟨by omega, by omega⟩ ⟨by omega, by omega⟩ ⟨by omega, by omega⟩
    refine ⟨_, _, .inl ((exec_for hit2).trans g1), st2, _, _, _, rfl, rfl, ?_, ⟨g3, ?_⟩, fun n hh => hn n (List.mem_cons_of_mem _ hh)⟩
    · rw [g2]; exact hfin
    · simp at g4 hf ⊢; omega)
  have hst : st.2 = partsA cells (marksR cells l) := hst
  have hitr : ev c (.it (.rev (.g 3))) [some (.int cells), some (lay l), some (.obj M.length), some (.obj (M.length + 1)), none, none, none] (M ++ [.lst ((marksR cells l).map D.bl), .lst []]) = .ok (.dct (([8, 4, 2, 1] : List Int).map fun n : Int => D.int n) []) (M ++ [.lst ((marksR cells l).map D.bl), .lst []]) := by
    rw [ev_it, ev_rev, g_of hgl]
    rfl
  refine call_rt (M' := M ++ [.lst (st.1.map D.bl), .lst (st.2.map pairD)]) (v := lsP (partsP cells l)) h rfl ?_ (frz_lsP _ _ _) (by simp)
  rw [hc]
  refine seq_nx s1 (seq_nx ((exec_for hitr).trans h1) (ret_of (bf_of (cons_of (v_of rfl) rfl) ?_)))
  show R.ofOpt (((Mini.itemsL (M ++ [.lst (st.1.map D.bl), .lst (st.2.map pairD)]) (.obj (M.length + 1))).bind sortO).map D.lst) _ = _
  have : Mini.itemsL (M ++ [.lst (st.1.map D.bl), .lst (st.2.map pairD)]) (.obj (M.length + 1)) = some (st.2.map pairD) := by simp [Mini.itemsL]
  rw [this, hst]
  show R.ofOpt ((sortO ((partsA cells (marksR cells l)).map pairD)).map D.lst) _ = _
  unfold sortO
  rw [pairsOf_map]
  rfl
end
end Con
set_option autoImplicit false
set_option maxRecDepth 100000
set_option maxHeartbeats 4000000
namespace Con
open Mini Tx
def okL (cells : Int) (l : List (Int × Int)) : Bool := decide (0 ≤ cells ∧ cells ≤ 9) && l.all fun p => decide (0 ≤ p.1 ∧ p.1 ≤ cells ∧ p.2 ≤ 1000 ∧ 0 ≤ p.2)
def placeA (r : Rl) (cells : Int) (l : List (Int × Int)) (mk : Mk) (size : Int) : Option (Option Int) := match r with
  | .buddy => if okL cells l = true then some (((partsP cells l).filter fun p => decide (p.1 ≥ rnd size)).head?.map (·.2)) else none
  | .classes rs => some (inReg l size 0 rs)
  | .slabs u => if (1 ≤ u ∧ u < 1000) ∧ (0 ≤ cells ∧ cells < 1000) ∧ 1 ≤ size ∧ size < 1000 then inSlab u cells l size else none
  | r => placeH r cells l mk size
theorem placeA_hole {r : Rl} (hh : r.hole = true) (cells : Int) (l : List (Int × Int)) (mk : Mk) (size : Int) : placeA r cells l mk size = placeH r cells l mk size := by
  cases r <;> first | rfl | cases hh
structure HasRunA (P : MProg) : Prop where
  r : HasRun P
  h57 : P.fns.lookup 57 = some d_are_regions
  h25 : P.fns.lookup 25 = some d_rounded
  h59 : P.fns.lookup 59 = some d_free_marks
  h62 : P.fns.lookup 62 = some d_parts_of
  h63 : P.fns.lookup 63 = some d_in_region
  h61 : P.fns.lookup 61 = some d_slab_starts
  h64 : P.fns.lookup 64 = some d_in_slab
  g3 : P.gls.lookup 3 = some (.tup [.int 1, .int 2, .int 4, .int 8])
def regB (rs : List (Int × Int)) : Bool := decide (1 ≤ rs.length ∧ rs.length ≤ 3) && (rs.all (fun p => decide (1 ≤ p.1 ∧ p.1 ≤ 4) && decide (1 ≤ p.2 ∧ p.2 ≤ 9)) && (rs.zip (rs.drop 1)).all fun q => decide (q.1.1 < q.2.1))
def Rl.shape : Rl → Bool
  | .classes rs => regB rs
  | _ => true
def Rl.okR (cells : Int) : Rl → Bool
  | .ends b => decide (1 ≤ b ∧ b ≤ 4)
  | .slabs u => decide (1 ≤ u ∧ u ≤ cells)
  | .classes rs => regB rs && decide ((rs.map (·.2)).sum ≤ cells)
  | _ => true
def stepA (r : Rl) (cells : Int) (s : RSt) : Deed → Option (Option RSt)
  | .ask n => (placeA r cells s.l s.mark n).map fun o => o.map fun at_ => ⟨s.found ++ [at_], sortP (s.l ++ [(at_, n)]), markPut r cells (sortP (s.l ++ [(at_, n)])) s.mark at_ n⟩
  | .free i => match Mini.get? s.found i with
    | none => none
    | some at_ => (markTake r cells (gone s.l at_) s.mark at_).map fun mk => some ⟨s.found, gone s.l at_, mk⟩
def runA (r : Rl) (cells : Int) : List Deed → Nat → RSt → Option (Option Nat × RSt)
  | [], _, s => some (none, s)
  | d :: ds, i, s => match stepA r cells s d with
    | none => none
    | some none => some (some i, s)
    | some (some s') => runA r cells ds (i + 1) s'
def runAP (r : Rl) (cells : Int) (ds : List Deed) : Option (Option Nat × RSt) := runA r cells ds 0 ⟨[], [], begunP r⟩
section
variable {P : MProg} {W k : Nat} {fl : Nat} {lk : List Nat} {M : MH}
theorem c_placeA (H : HasRunA P) (hk : ∀ n ∈ lk, n < M.length) (r : Rl) (cells size : Int) (l : List (Int × Int)) (mk : Mk) (hl : l.length ≤ 100) (hf : r.fits mk) (o : Option Int) (ho : placeA r cells l mk size = some o) :
    callN P W (k + 4) false 70 [r.d, .int cells, stD l mk, .int size] fl lk M = .ok (oInt o) M := by
  cases hh : r.hole with
  | true =>
    rw [placeA_hole hh] at ho
    exact c_place ⟨H.r.h7, H.r.h60, H.r.h65, H.r.h70⟩ hk r hh cells size l mk hl hf o ho
  | false =>
    refine call_rt (M' := M) (v := oInt o) H.r.h70 rfl ?_ (frz_oInt _ _ _) (List.take_length)
    generalize hc : (⟨callN P W (k + 3), fun i => P.gls.lookup i, W, M.length, lk⟩ : Ctx) = c
    have hcl : c.lk = lk := by subst hc; rfl
    refine seq_nx (σ' := [some r.d, some (.int cells), some (stD l mk), some (.int size), some (lay l), some mk.d, none, none, none, none]) (M' := M) (by simp [ev_c, ev_v, ev_g, ev_bin, ev_neg, ev_not, ev_cmp, ev_chain, ev_and, ev_or, ev_ife, ev_nil, ev_cons, ev_tup, ev_lst, ev_new, ev_idx, ev_slc, ev_rev, ev_call, ev_bf, ev_mt, ev_it, ev_rng, ev_enum, ev_zip, ex_skip, ex_seq, ex_asg, ex_setix, ex_aug, ex_augix, ex_ife, ex_ret, ex_retN, ex_expr, ex_brk, ex_cont, Mini.R.to, Mini.R.bind, Mini.R.ofOpt, RS.andThen, nxO, tupD, boolD, newD, cmpD, cmpop, binop, addD, mulD, catD, negD, idxD, idxO, iop, partR, partD, cutD, revD, recvD, mth, objL, one1, zero1, appendD, extendD, popD, setD, bfn, lenD, sumD, allD, anyD, minD, maxD, absD, sortedD, tupleD, listD, isinstD, isTy, kindD, tyIn, Ctx.may, Ctx.lock, Tg.asg, asgs, items, itemsL, lockOf, walkOf, walkD, walkR, itemsT, isNil, lstD, oneD, D.pure, D.pure.pureL, eqM_str, eqM_int, eqM_non, eqM_intnon, Mini.get?, place?, intsOf, minL, maxL, Mini.wipe, List.getElem?_cons_zero, List.getElem?_cons_succ, Option.join, List.set_cons_zero, List.set_cons_succ, List.map_cons, List.map_nil, Option.map_some, Option.map_none, Option.bind_some, Option.bind_none, stD]) ?_
    have tr : ∀ s, ev c (.cmp .eq (.idx (.v 0) (.c (.int 0))) (.c (.str s))) [some r.d, some (.int cells), some (stD l mk), some (.int size), some (lay l), some mk.d, none, none, none, none] M = .ok (.bl (decide (r.name = s))) M := fun s => by
      cases r <;> rfl
    cases r with
    | buddy =>
      have ho : (if okL cells l = true then some (((partsP cells l).filter fun p => decide (p.1 ≥ rnd size)).head?.map (·.2)) else none) = some o := ho
      by_cases hok : okL cells l = true
      · rw [if_pos hok] at ho
        cases ho
        obtain ⟨h9, hall⟩ := Bool.and_eq_true_iff.mp hok
        have h9 := of_decide_eq_true h9
        have e62 : ∀ fl, c.call false 62 [.int cells, lay l] fl lk M = .ok (lsP (partsP cells l)) M := fun fl => by
          subst hc
          exact c_parts_of H.h25 H.h59 H.h62 H.g3 hk cells h9 l fun p hp => of_decide_eq_true (List.all_eq_true.mp hall p hp)
        have e25 : ∀ fl lk, c.call false 25 [.int size] fl lk M = .ok (.int (rnd size)) M := fun fl lk => by subst hc; exact c_rounded H.h25 size
        have hpl : (partsP cells l).length ≤ 100000 := by
          unfold partsP partsA
          rw [sortP_len]
          have hstep : ∀ (len : Int) (ks : List Nat) (st : List Bool × List (Int × Int)), (ks.foldl (partsStep len) st).2.length ≤ st.2.length + ks.length := fun len ks => by
            induction ks with
            | nil => intro st; simp
            | cons k ks ih =>
              intro st
              rw [List.foldl_cons]
              have := ih (partsStep len st k)
              have h2 : (partsStep len st k).2.length ≤ st.2.length + 1 := by
                unfold partsStep
                split
                · simp
                · simp
              simp; omega
          have hturn : ∀ len : Int, 1 ≤ len → turns 0 (cells - len + 1) len ≤ 9 := fun len h1 => by
            unfold turns
            by_cases hq : 0 < cells - len + 1
            · rw [if_pos hq]
              have e : cells - len + 1 - 0 + len - 1 = cells := by omega
              rw [e]
              have hd2 : cells / len ≤ cells := Int.ediv_le_self _ h9.1
              omega
            · rw [if_neg hq]; omega
          have h1 : ∀ (len : Int) (st : List Bool × List (Int × Int)), 1 ≤ len → (partsL cells st len).2.length ≤ st.2.length + 9 := fun len st hlen => by
            have := hstep len (List.range (turns 0 (cells - len + 1) len)) st
            have h2 := hturn len hlen
            rw [List.length_range] at this
            unfold partsL
            omega
          simp only [List.foldl_cons, List.foldl_nil]
          have a1 := h1 8 (marksR cells l, []) (by decide)
          have a2 := h1 4 (partsL cells (marksR cells l, []) 8) (by decide)
          have a3 := h1 2 (partsL cells (partsL cells (marksR cells l, []) 8) 4) (by decide)
          have a4 := h1 1 (partsL cells (partsL cells (partsL cells (marksR cells l, []) 8) 4) 2) (by decide)
          simp at a1
          omega
        have e1 := ev_comp (c := c) (elt := .v 9) (cond := .cmp .ge (.idx (.v 9) (.c (.int 0))) (.call false 25 (.cons (.v 3) .nil))) (it := .it (.call false 62 (.cons (.v 1) (.cons (.v 4) .nil)))) (t := .one 9) (own := [9]) (σ := [some (Rl.d .buddy), some (.int cells), some (stD l mk), some (.int size), some (lay l), some mk.d, none, none, none, none]) (M := M) (M' := M) (ys := partsP cells l) (ls := []) (enc := pairD)
          (g := fun p => if decide (p.1 ≥ rnd size) = true then some (pairD p) else none) (by rw [ev_it, call_of (r := .ok (lsP (partsP cells l)) M) (ys := [.int cells, lay l]) rfl (by rw [hcl]; exact e62 _)]; rfl) (fun p hp => by
            obtain ⟨x, y⟩ := p
            have hcmp : ev (c.lock (locks [])) (.cmp .ge (.idx (.v 9) (.c (.int 0))) (.call false 25 (.cons (.v 3) .nil))) [some (Rl.d .buddy), some (.int cells), some (stD l mk), some (.int size), some (lay l), some mk.d, none, none, none, some (pairD (x, y))] M = .ok (.bl (decide (x ≥ rnd size))) M := cmp_of (idx_of (v_of rfl) rfl rfl) (call_of (cons_of (v_of rfl) rfl) (e25 _ _)) rfl
            show (calmR (ev (c.lock (locks [])) (.cmp .ge (.idx (.v 9) (.c (.int 0))) (.call false 25 (.cons (.v 3) .nil))) [some (Rl.d .buddy), some (.int cells), some (stD l mk), some (.int size), some (lay l), some mk.d, none, none, none, some (pairD (x, y))] M)).bind _ = _
            rw [hcmp]
            by_cases hx : x ≥ rnd size
            · show _ = Mini.R.ok (if decide (x ≥ rnd size) = true then some (pairD (x, y)) else none) M
              rw [decide_eq_true hx]; rfl
            · show _ = Mini.R.ok (if decide (x ≥ rnd size) = true then some (pairD (x, y)) else none) M
              rw [decide_eq_false hx]; rfl) hpl
        rw [fm_filter] at e1
        refine sif_f (tr sNext) (sif_t (tr sBuddy) (seq_nx (asg_of (v := lsP ((partsP cells l).filter fun p => decide (p.1 ≥ rnd size))) e1 rfl) (ret_of ?_)))
        generalize ((partsP cells l).filter fun p => decide (p.1 ≥ rnd size)) = G
        cases G with
        | nil => exact if_f_of (cmp_of (v_of rfl) rfl (by show (eqM M (lsP []) (lsP [])).map (!·) = _; rw [eqM_lsP]; rfl)) rfl
        | cons p G =>
          exact if_t_of (cmp_of (v_of rfl) rfl (by show (eqM M (lsP (p :: G)) (lsP [])).map (!·) = _; rw [eqM_lsP]; simp)) (idx_of (idx0_of (l := p :: G) (v_of rfl) rfl) rfl rfl)
      · rw [if_neg hok] at ho; cases ho
    | classes rs =>
      have ho : some (inReg l size 0 rs) = some o := ho
      cases ho
      have e63 : ∀ fl, c.call false 63 [lay rs, lay l, .int size] fl lk M = .ok (oInt (inReg l size 0 rs)) M := fun fl => by
        subst hc
        exact c_in_region H.r.h7 H.r.h60 H.h63 hk rs l size hl
      exact sif_f (tr sNext) (sif_f (tr sBuddy) (sif_t (tr sClasses) (ret_of (call_of (cons_of (idx_of (v_of rfl) rfl rfl) (cons_of (v_of rfl) (cons_of (v_of rfl) rfl))) (by rw [hcl]; exact e63 _)))))
    | slabs u =>
      have ho : (if (1 ≤ u ∧ u < 1000) ∧ (0 ≤ cells ∧ cells < 1000) ∧ 1 ≤ size ∧ size < 1000 then inSlab u cells l size else none) = some o := ho
      by_cases hq : (1 ≤ u ∧ u < 1000) ∧ (0 ≤ cells ∧ cells < 1000) ∧ 1 ≤ size ∧ size < 1000
      · rw [if_pos hq] at ho
        have e64 : ∀ fl, c.call false 64 [.int u, .int cells, lay l, .int size] fl lk M = .ok (oInt o) M := fun fl => by
          subst hc
          exact c_in_slab H.h61 H.h64 hk u cells size l hl hq.1 hq.2.1 hq.2.2 o ho
        exact sif_f (tr sNext) (sif_f (tr sBuddy) (sif_f (tr sClasses) (sif_t (tr sSlabs) (ret_of (call_of (cons_of (idx_of (v_of rfl) rfl rfl) (cons_of (v_of rfl) (cons_of (v_of rfl) (cons_of (v_of rfl) rfl)))) (by rw [hcl]; exact e64 _))))))
      · rw [if_neg hq] at ho; cases ho
    | _ => cases hh
theorem zip_regs : ∀ rs : List (Int × Int), ∀ qs : List (Int × Int), zipT (rs.map pairD) (qs.map pairD) = (rs.zip qs).map fun q => D.tup [pairD q.1, pairD q.2]
  | [], _ => rfl
  | _ :: _, [] => rfl
  | r :: rs, q :: qs => by
    show D.tup [pairD r, pairD q] :: zipT (rs.map pairD) (qs.map pairD) = _
    rw [zip_regs rs qs]; rfl
theorem cut1 {α : Type} (xs : List α) : cut xs (some 1) none = xs.drop 1 := by
  unfold cut clip
  simp only [show (0 : Int) ≤ 1 from by decide, if_true]
  show (xs.drop (min (1 : Int).toNat xs.length)).take _ = _
  rcases Nat.lt_or_ge 0 xs.length with h | h
  · have : min (1 : Int).toNat xs.length = 1 := by
      have : (1 : Int).toNat = 1 := rfl
      omega
    rw [this, List.take_of_length_le (by simp)]
  · have : xs = [] := List.length_eq_zero_iff.mp (by omega)
    subst this; rfl
theorem c_are_regions (h0 : P.fns.lookup 0 = some d_is_number) (h : P.fns.lookup 57 = some d_are_regions) (g0 : P.gls.lookup 0 = some (.int 4)) (g1 : P.gls.lookup 1 = some (.int 9)) (cells : Int) (rs : List (Int × Int)) (hr : regB rs = true) :
    callN P W (k + 2) false 57 [.int cells, lay rs] fl lk M = .ok (.bl (decide ((rs.map (·.2)).sum ≤ cells))) M := by
  obtain ⟨r1, r2⟩ := Bool.and_eq_true_iff.mp hr
  obtain ⟨r2, r3⟩ := Bool.and_eq_true_iff.mp r2
  have r1 := of_decide_eq_true r1
  refine call_rt (M' := M) (v := .bl (decide ((rs.map (·.2)).sum ≤ cells))) h rfl ?_ rfl (List.take_length)
  generalize hc : (⟨callN P W (k + 1), fun i => P.gls.lookup i, W, M.length, lk⟩ : Ctx) = c
  have hgl : ∀ i, c.gl i = P.gls.lookup i := by subst hc; intro i; rfl
  have e0 : ∀ i a b fl lk, c.call false 0 [.int i, .int a, .int b] fl lk M = .ok (.bl (decide (a ≤ i ∧ i ≤ b))) M := fun i a b fl lk => by subst hc; exact c_is_number h0 i a b
  have hlen : lenD (lay rs) M = .ok (.int rs.length) M := by
    show R.ok (D.int ((rs.map pairD).length : Int)) M = _
    rw [List.length_map]
  have t1 : ev c (.or (.not (.bf .isinst (.cons (.v 1) (.cons (.c (.ty .tuple)) .nil)))) (.not (.chain .le .le (.c (.int 1)) (.bf .len (.cons (.v 1) .nil)) (.c (.int 3))))) [some (.int cells), some (lay rs), none, none, none] M = .ok (.bl false) M := by
    refine or_f_of (not_of (r := true) rfl) (not_of (r := true) ?_)
    rw [ev_chain, ev_c]
    show ((ev c (.bf .len (.cons (.v 1) .nil)) [some (.int cells), some (lay rs), none, none, none] M).bind fun y M => (cmpD .le (.int 1) y M).bind fun r M => boolD r ((ev c (.c (.int 3)) _ M).bind fun z M => cmpD .le y z M) (.ok (.bl false) M)) = _
    have hl2 : ev c (.bf .len (.cons (.v 1) .nil)) [some (.int cells), some (lay rs), none, none, none] M = .ok (.int rs.length) M := bf_of (cons_of (v_of rfl) rfl) hlen
    rw [hl2]
    have a1 : decide ((1 : Int) ≤ (rs.length : Int)) = true := by simp; omega
    have a2 : decide ((rs.length : Int) ≤ 3) = true := by simp; omega
    show (boolD (.bl (decide ((1 : Int) ≤ (rs.length : Int)))) (R.ok (D.bl (decide ((rs.length : Int) ≤ 3))) M) (.ok (.bl false) M)) = _
    rw [a1, a2]; rfl
  refine sif_f t1 ?_
  obtain ⟨σ', M', h1, rfl, ⟨j2, rfl⟩, _⟩ := loop_inv (f := turn (c.lock (locks [])) (.one 2) b_are_regions_1) pairD (fun r σ N => N = M ∧ (∃ j2, σ = [some (.int cells), some (lay rs), j2, none, none]) ∧ ∀ p ∈ r, p ∈ rs) rs [some (.int cells), some (lay rs), none, none, none] M ⟨rfl, ⟨none, rfl⟩, fun p hp => hp⟩ (by
    rintro ⟨x, y⟩ r σ N ⟨rfl, ⟨j2, rfl⟩, hsub⟩
    have hp := List.all_eq_true.mp r2 _ (hsub _ List.mem_cons_self)
    obtain ⟨p1, p2⟩ := Bool.and_eq_true_iff.mp hp
    refine ⟨[some (.int cells), some (lay rs), some (pairD (x, y)), none, none], N, .inl ?_, rfl, ⟨_, rfl⟩, fun p hp => hsub p (List.mem_cons_of_mem _ hp)⟩
    show exec (c.lock (locks [])) b_are_regions_1 [some (.int cells), some (lay rs), some (pairD (x, y)), none, none] N = _
    have hgl' : ∀ i, (c.lock (locks [])).gl i = P.gls.lookup i := hgl
    refine sif_f (M' := N) (or_f_of (not_of (r := true) rfl) (or_f_of rfl (not_of (r := true) (call_of (cons_of (idx_of (v_of rfl) rfl rfl) (cons_of rfl (cons_of (g_of ((hgl' 0).trans g0)) rfl))) ?_)))) (ife_f (M' := N) (not_of (r := true) (call_of (cons_of (idx_of (v_of rfl) rfl rfl) (cons_of rfl (cons_of (g_of ((hgl' 1).trans g1)) rfl))) ?_)) rfl)
    · rw [show (c.lock (locks [])).call = c.call from rfl, e0, show decide ((1 : Int) ≤ x ∧ x ≤ 4) = true from p1]
    · rw [show (c.lock (locks [])).call = c.call from rfl, e0, show decide ((1 : Int) ≤ y ∧ y ≤ 9) = true from p2])
  refine seq_nx ((exec_for (xs := rs.map pairD) (ls := []) rfl).trans h1) ?_
  have hzip : ev c (.zip (.v 1) (.slc (.v 1) (.c (.int 1)) (.c .non))) [some (.int cells), some (lay rs), j2, none, none] M' = .ok (.dct ((rs.zip (rs.drop 1)).map fun q : (Int × Int) × (Int × Int) => D.tup [pairD q.1, pairD q.2]) []) M' := by
    rw [ev_zip, v_of (x := lay rs) rfl]
    show R.ofOpt (zipW M' (lay rs) (.tup (cut (rs.map pairD) (some 1) none))) M' = _
    rw [cut1]
    show R.ofOpt (some (walkD (zipT (rs.map pairD) ((rs.map pairD).drop 1)) [])) M' = _
    rw [← List.map_drop, zip_regs]
    rfl
  have e3 := ev_comp (elt := .cmp .lt (.idx (.v 3) (.c (.int 0))) (.idx (.v 4) (.c (.int 0)))) (cond := .nil) (t := .many [3, 4]) (own := [3, 4]) (g := fun q : (Int × Int) × (Int × Int) => some (.bl (decide (q.1.1 < q.2.1)))) hzip (fun q hq => rfl) (by
    rw [List.length_zip]; omega)
  rw [fm_map] at e3
  have e3 := e3.trans (show R.ok (D.lst ((rs.zip (rs.drop 1)).map fun q : (Int × Int) × (Int × Int) => D.bl (decide (q.1.1 < q.2.1)))) M' = R.ok (D.lst (((rs.zip (rs.drop 1)).map fun q : (Int × Int) × (Int × Int) => decide (q.1.1 < q.2.1)).map D.bl)) M' by rw [List.map_map]; rfl)
  refine sif_f (M' := M') (not_of (r := true) (bf_of (cons_of e3 rfl) ?_)) ?_
  · show allD _ M' = _
    rw [all_map_bl]
    have : (((rs.zip (rs.drop 1)).map fun q : (Int × Int) × (Int × Int) => decide (q.1.1 < q.2.1)).all id) = true := by
      rw [List.all_map]; exact r3
    rw [this]
  have e4 := ev_comp (c := c) (elt := .idx (.v 2) (.c (.int 1))) (cond := .nil) (it := .it (.v 1)) (t := .one 2) (own := [2]) (σ := [some (.int cells), some (lay rs), j2, none, none]) (M := M') (M' := M') (ys := rs) (ls := []) (enc := pairD) (g := fun p => some (.int p.2)) rfl (fun p hp => rfl) (by omega)
  rw [fm_map] at e4
  have e4 : ev c (.comp (.idx (.v 2) (.c (.int 1))) .nil (.it (.v 1)) (.one 2) [2]) [some (.int cells), some (lay rs), j2, none, none] M' = .ok (.lst ((rs.map (·.2)).map D.int)) M' := by rw [e4, List.map_map]; rfl
  refine ret_of (cmp_of (x := .int (rs.map (·.2)).sum) (bf_of (cons_of e4 rfl) ?_) (v_of rfl) rfl)
  show R.ofOpt (((some ((rs.map (·.2)).map D.int)).bind intsOf).map fun ns => D.int ns.sum) M' = _
  rw [Option.bind_some, intsOf_map]; rfl
theorem c_is_rule_ofA (H : HasRunA P) (cells : Int) (r : Rl) (hr : r.shape = true) : callN P W (k + 3) false 58 [.int cells, r.d] fl lk M = .ok (.bl (r.okR cells)) M := by
  cases r with
  | classes rs =>
    have hr : regB rs = true := hr
    refine call_rt (M' := M) (v := .bl (Rl.okR cells (.classes rs))) H.r.h58 rfl ?_ rfl (List.take_length)
    have g2 := H.r.g2
    generalize hc : (⟨callN P W (k + 2), fun i => P.gls.lookup i, W, M.length, lk⟩ : Ctx) = c
    have hgl : ∀ i, c.gl i = P.gls.lookup i := by subst hc; intro i; rfl
    have e57 : ∀ fl lk, c.call false 57 [.int cells, lay rs] fl lk M = .ok (.bl (decide ((rs.map (·.2)).sum ≤ cells))) M := fun fl lk => by subst hc; exact c_are_regions H.r.h0 H.h57 H.r.g0 H.r.g1 cells rs hr
    have hok : Rl.okR cells (.classes rs) = decide ((rs.map (·.2)).sum ≤ cells) := by
      show (regB rs && decide ((rs.map (·.2)).sum ≤ cells)) = _
      rw [hr]; rfl
    rw [hok]
    show exec c d_is_rule_of.body [some (.int cells), some (.tup [.str sClasses, lay rs])] M = .rt (.bl (decide ((rs.map (·.2)).sum ≤ cells))) M
    have q1 : eqM M (.tup [.str sClasses, lay rs]) (.tup []) = some false := by
      have e : res 20 M (.tup [.str sClasses, lay rs]) = some (.tup [.str sClasses, lay rs]) := by
        show ([D.str sClasses, lay rs].mapM (res 19 M)).map D.tup = _
        have e1 : res 19 M (lay rs) = some (lay rs) := by
          show ((rs.map pairD).mapM (res 18 M)).map D.tup = _
          rw [res_pairs 17 M rs]; rfl
        simp [List.mapM_cons, e1, res]
      unfold eqM
      rw [e]
      show (if (D.isDat (.tup [.str sClasses, lay rs]) && true) = true then some false else none) = _
      have : D.isDat (.tup [.str sClasses, lay rs]) = true := by
        show (true && (D.isDat.datL (rs.map pairD) && true)) = true
        rw [dat_pairs]; rfl
      rw [this]; rfl
    refine sif_f (M' := M) (or_f_of (not_of (r := true) rfl) (or_f_of (cmp_of (v_of rfl) rfl q1) (not_of (r := true) rfl))) (sif_f (M' := M) (cmp_of (idx_of (v_of rfl) rfl rfl) (g_of ((hgl 2).trans g2)) rfl) (sif_f (M' := M) rfl (sif_f (M' := M) rfl (sif_t (M' := M) rfl (ret_of (call_of (cons_of (v_of rfl) (cons_of (idx_of (v_of rfl) rfl rfl) rfl)) (e57 _ _)))))))
  | _ => exact c_is_rule_of H.r cells _ (by intro rs z; cases z)
theorem okR_shape {cells : Int} {r : Rl} (h : r.okR cells = true) : r.shape = true := by
  cases r <;> first | rfl | exact (Bool.and_eq_true_iff.mp h).1
theorem c_need_ruleA (H : HasRunA P) (cells : Int) (r : Rl) (h1 : 1 ≤ cells) (h9 : cells ≤ 9) (hr : r.okR cells = true) : callN P W (k + 4) false 73 [.int cells, r.d] fl lk M = .ok .non M := by
  refine call_nx (M' := M) (σ := [some (.int cells), some r.d]) H.r.h73 rfl ?_ (List.take_length)
  have g1 := H.r.g1
  have e1 : ∀ fl lk, callN P W (k + 3) false 4 [.int cells, .int 9] fl lk M = .ok .non M := fun fl lk => c_need_cells H.r.h0 H.r.h4 cells 9 h1 h9
  have e2 : ∀ fl lk, callN P W (k + 3) false 58 [.int cells, r.d] fl lk M = .ok (.bl true) M := fun fl lk => by
    rw [c_is_rule_ofA H cells r (okR_shape hr), hr]
  simp [ev_c, ev_v, ev_g, ev_bin, ev_neg, ev_not, ev_cmp, ev_chain, ev_and, ev_or, ev_ife, ev_nil, ev_cons, ev_tup, ev_lst, ev_new, ev_idx, ev_slc, ev_rev, ev_call, ev_bf, ev_mt, ev_it, ev_rng, ev_enum, ev_zip, ex_skip, ex_seq, ex_asg, ex_setix, ex_aug, ex_augix, ex_ife, ex_ret, ex_retN, ex_expr, ex_brk, ex_cont, Mini.R.to, Mini.R.bind, Mini.R.ofOpt, RS.andThen, nxO, tupD, boolD, newD, cmpD, cmpop, binop, addD, mulD, catD, negD, idxD, idxO, iop, partR, partD, cutD, revD, recvD, mth, objL, one1, zero1, appendD, extendD, popD, setD, bfn, lenD, sumD, allD, anyD, minD, maxD, absD, sortedD, tupleD, listD, isinstD, isTy, kindD, tyIn, Ctx.may, Ctx.lock, Tg.asg, asgs, items, itemsL, lockOf, walkOf, walkD, walkR, itemsT, isNil, lstD, oneD, D.pure, D.pure.pureL, eqM_str, eqM_int, eqM_non, eqM_intnon, Mini.get?, place?, intsOf, minL, maxL, Mini.wipe, List.getElem?_cons_zero, List.getElem?_cons_succ, Option.join, List.set_cons_zero, List.set_cons_succ, List.map_cons, List.map_nil, Option.map_some, Option.map_none, Option.bind_some, Option.bind_none, e1, e2, g1]
theorem c_need_runA (H : HasRunA P) (hk : ∀ n ∈ lk, n < M.length) (cells : Int) (r : Rl) (row : D) (ds : List Deed) (h1 : 1 ≤ cells) (h9 : cells ≤ 9) (hr : r.okR cells = true) (hs : Sq M row (ds.map Deed.d)) (hd : rowP ds = true) : callN P W (k + 5) false 75 [r.d, .int cells, row] fl lk M = .ok .non M := by
  refine call_nx (M' := M) (σ := [some r.d, some (.int cells), some row]) H.r.h75 rfl ?_ (List.take_length)
  have e1 : ∀ fl lk, callN P W (k + 4) false 73 [.int cells, r.d] fl lk M = .ok .non M := fun fl lk => c_need_ruleA H cells r h1 h9 hr
  have e2 : ∀ fl, callN P W (k + 4) false 74 [row] fl lk M = .ok .non M := fun fl => c_need_row H.r.h0 H.r.h67 H.r.h68 H.r.h74 H.r.g0 H.r.g4 hk row ds hs hd
  simp [ev_c, ev_v, ev_g, ev_bin, ev_neg, ev_not, ev_cmp, ev_chain, ev_and, ev_or, ev_ife, ev_nil, ev_cons, ev_tup, ev_lst, ev_new, ev_idx, ev_slc, ev_rev, ev_call, ev_bf, ev_mt, ev_it, ev_rng, ev_enum, ev_zip, ex_skip, ex_seq, ex_asg, ex_setix, ex_aug, ex_augix, ex_ife, ex_ret, ex_retN, ex_expr, ex_brk, ex_cont, Mini.R.to, Mini.R.bind, Mini.R.ofOpt, RS.andThen, nxO, tupD, boolD, newD, cmpD, cmpop, binop, addD, mulD, catD, negD, idxD, idxO, iop, partR, partD, cutD, revD, recvD, mth, objL, one1, zero1, appendD, extendD, popD, setD, bfn, lenD, sumD, allD, anyD, minD, maxD, absD, sortedD, tupleD, listD, isinstD, isTy, kindD, tyIn, Ctx.may, Ctx.lock, Tg.asg, asgs, items, itemsL, lockOf, walkOf, walkD, walkR, itemsT, isNil, lstD, oneD, D.pure, D.pure.pureL, eqM_str, eqM_int, eqM_non, eqM_intnon, Mini.get?, place?, intsOf, minL, maxL, Mini.wipe, List.getElem?_cons_zero, List.getElem?_cons_succ, Option.join, List.set_cons_zero, List.set_cons_succ, List.map_cons, List.map_nil, Option.map_some, Option.map_none, Option.bind_some, Option.bind_none, e1, e2]
theorem c_runA (H : HasRunA P) (hk : ∀ n ∈ lk, n < M.length) (cells : Int) (r : Rl) (row : D) (ds : List Deed) (hs : Sq M row (ds.map Deed.d)) (hl : ds.length ≤ 45) (i0 : Option Nat) (s0 : RSt) (ho : runAP r cells ds = some (i0, s0)) :
    callN P W (k + 5) false 76 [r.d, .int cells, row] fl lk M = .ok (resD (i0, s0)) M := by
  refine call_rt (M' := M ++ [.lst (s0.found.map D.int)]) (v := .tup [.obj M.length, oIdx i0, stD s0.l s0.mark]) H.r.h76 rfl ?_ (frz_res M i0 s0) (by simp)
  generalize hc : (⟨callN P W (k + 4), fun i => P.gls.lookup i, W, M.length, lk⟩ : Ctx) = c
  have hcl : c.lk = lk := by subst hc; rfl
  have hcf : c.fl = M.length := by subst hc; rfl
  have e69 : ∀ fl lk, c.call false 69 [r.d] fl lk M = .ok (stD [] (begunP r)) M := fun fl lk => by subst hc; exact c_begun H.r.h69 r
  have hL := hs.lk
  have hit : ev c (.enum (.v 2)) [some r.d, some (.int cells), some row, some (stD [] (begunP r)), some (.obj M.length), none, none, none] (M ++ [.lst []]) = .ok (.dct ((idxd 0 ds).map idD) ((lockOf row).map fun (n : Nat) => D.int (n : Int))) (M ++ [.lst []]) := by
    rw [ev_enum, ev_v]
    show R.ofOpt ((Mini.itemsL (M ++ [.lst []]) row).map fun xs => walkD (enumT 0 xs) (lockOf row)) _ = _
    rw [hs.app.itemsL]
    show R.ok (walkD (enumT 0 (ds.map Deed.d)) (lockOf row)) _ = _
    rw [enum_idxd]; rfl
  generalize lockOf row = L at *
  have hlk : M.length ∉ L := fun z => Nat.lt_irrefl _ (hL _ z)
  have hlk2 : M.length ∉ lk := not_lk hk
  have hk' : ∀ x : MO, ∀ n ∈ L ++ lk, n < (M ++ [x]).length := fun x n hn => by
    rw [List.length_append]
    rcases List.mem_append.mp hn with z | z
    · exact Nat.lt_succ_of_lt (hL n z)
    · exact Nat.lt_succ_of_lt (hk n z)
  have e70 : ∀ (x : MO) (l : List (Int × Int)) (mk : Mk) (size : Int) (o : Option Int), l.length ≤ 100 → r.fits mk → placeA r cells l mk size = some o → ∀ fl, c.call false 70 [r.d, .int cells, stD l mk, .int size] fl (L ++ lk) (M ++ [x]) = .ok (oInt o) (M ++ [x]) := fun x l mk size o h1 h2 h3 fl => by
    subst hc; exact c_placeA H (hk' x) r cells size l mk h1 h2 o h3
  have e71 : ∀ (x : MO) (l : List (Int × Int)) (mk : Mk) (at_ size : Int), l.length ≤ 100 → r.fits mk → ∀ fl, c.call false 71 [r.d, .int cells, stD l mk, .int at_, .int size] fl (L ++ lk) (M ++ [x]) = .ok (stD (sortP (l ++ [(at_, size)])) (markPut r cells (sortP (l ++ [(at_, size)])) mk at_ size)) (M ++ [x]) := fun x l mk at_ size h1 h2 fl => by
    subst hc; exact c_put H.r.h7 H.r.h28 H.r.h71 (hk' x) r cells at_ size l mk h1 h2
  have e72 : ∀ (x : MO) (l : List (Int × Int)) (mk mk' : Mk) (at_ : Int), l.length ≤ 100 → r.fits mk → markTake r cells (gone l at_) mk at_ = some mk' → ∀ fl, c.call false 72 [r.d, .int cells, stD l mk, .int at_] fl (L ++ lk) (M ++ [x]) = .ok (stD (gone l at_) mk') (M ++ [x]) := fun x l mk mk' at_ h1 h2 h3 fl => by
    subst hc; exact c_take H.r.h7 H.r.h66 H.r.h72 (hk' x) r cells at_ l mk mk' h1 h2 h3
  refine seq_nx (σ' := [some r.d, some (.int cells), some row, some (stD [] (begunP r)), some (.obj M.length), none, none, none]) (M' := M ++ [.lst []]) (by simp [ev_c, ev_v, ev_g, ev_bin, ev_neg, ev_not, ev_cmp, ev_chain, ev_and, ev_or, ev_ife, ev_nil, ev_cons, ev_tup, ev_lst, ev_new, ev_idx, ev_slc, ev_rev, ev_call, ev_bf, ev_mt, ev_it, ev_rng, ev_enum, ev_zip, ex_skip, ex_seq, ex_asg, ex_setix, ex_aug, ex_augix, ex_ife, ex_ret, ex_retN, ex_expr, ex_brk, ex_cont, Mini.R.to, Mini.R.bind, Mini.R.ofOpt, RS.andThen, nxO, tupD, boolD, newD, cmpD, cmpop, binop, addD, mulD, catD, negD, idxD, idxO, iop, partR, partD, cutD, revD, recvD, mth, objL, one1, zero1, appendD, extendD, popD, setD, bfn, lenD, sumD, allD, anyD, minD, maxD, absD, sortedD, tupleD, listD, isinstD, isTy, kindD, tyIn, Ctx.may, Ctx.lock, Tg.asg, asgs, items, itemsL, lockOf, walkOf, walkD, walkR, itemsT, isNil, lstD, oneD, D.pure, D.pure.pureL, eqM_str, eqM_int, eqM_non, eqM_intnon, Mini.get?, place?, intsOf, minL, maxL, Mini.wipe, List.getElem?_cons_zero, List.getElem?_cons_succ, Option.join, List.set_cons_zero, List.set_cons_succ, List.map_cons, List.map_nil, Option.map_some, Option.map_none, Option.bind_some, Option.bind_none, e69]) ?_
  have hw := loop_may (f := turn (c.lock L) (.many [5, 6]) b_run_1) idD
    (fun q σ N => ∃ (rest : List Deed) (i : Nat) (s : RSt) (j5 j6 j7 : Option D), q = idxd i rest ∧ σ = [some r.d, some (.int cells), some row, some (stD s.l s.mark), some (.obj M.length), j5, j6, j7] ∧ N = M ++ [.lst (s.found.map D.int)] ∧ runA r cells rest i s = some (i0, s0) ∧ s.l.length + rest.length ≤ 45 ∧ s.found.length + rest.length ≤ 45 ∧ rest.length ≤ 45 ∧ r.fitsN s.mark (46 - rest.length))
    (fun v N => v = .tup [.obj M.length, oIdx i0, stD s0.l s0.mark] ∧ N = M ++ [.lst (s0.found.map D.int)]) (fun _ _ => False) (idxd 0 ds) [some r.d, some (.int cells), some row, some (stD [] (begunP r)), some (.obj M.length), none, none, none] (M ++ [.lst []])
    ⟨ds, 0, ⟨[], [], begunP r⟩, none, none, none, rfl, rfl, rfl, ho, by simpa using hl, by simpa using hl, hl, (fits_begun r).mono (by omega)⟩ (by
      rintro ⟨i', d⟩ q σ N ⟨rest, i, s, j5, j6, j7, hq, rfl, rfl, hrun, hl1, hl2, hl3, hf⟩
      cases rest with
      | nil => cases hq
      | cons d' rest =>
        cases hq
        have hf60 : r.fits s.mark := hf.fits (by omega)
        have hl100 : s.l.length ≤ 100 := by simp at hl1; omega
        unfold runA at hrun
        cases hst : stepA r cells s d with
        | none => rw [hst] at hrun; cases hrun
        | some o =>
          rw [hst] at hrun
          cases d with
          | ask n =>
            have hst : (placeA r cells s.l s.mark n).map (fun o => o.map fun at_ => (⟨s.found ++ [at_], sortP (s.l ++ [(at_, n)]), markPut r cells (sortP (s.l ++ [(at_, n)])) s.mark at_ n⟩ : RSt)) = some o := hst
            cases hp : placeA r cells s.l s.mark n with
            | none => rw [hp] at hst; cases hst
            | some p =>
              rw [hp] at hst
              have e := e70 (.lst (s.found.map D.int)) s.l s.mark n p hl100 hf60 hp
              cases p with
              | none =>
                cases hst
                cases hrun
                refine .inr (.inl ⟨_, _, ?_, rfl, rfl⟩)
                simp [turn, b_run_1, ev_c, ev_v, ev_g, ev_bin, ev_neg, ev_not, ev_cmp, ev_chain, ev_and, ev_or, ev_ife, ev_nil, ev_cons, ev_tup, ev_lst, ev_new, ev_idx, ev_slc, ev_rev, ev_call, ev_bf, ev_mt, ev_it, ev_rng, ev_enum, ev_zip, ex_skip, ex_seq, ex_asg, ex_setix, ex_aug, ex_augix, ex_ife, ex_ret, ex_retN, ex_expr, ex_brk, ex_cont, Mini.R.to, Mini.R.bind, Mini.R.ofOpt, RS.andThen, nxO, tupD, boolD, newD, cmpD, cmpop, binop, addD, mulD, catD, negD, idxD, idxO, iop, partR, partD, cutD, revD, recvD, mth, objL, one1, zero1, appendD, extendD, popD, setD, bfn, lenD, sumD, allD, anyD, minD, maxD, absD, sortedD, tupleD, listD, isinstD, isTy, kindD, tyIn, Ctx.may, Ctx.lock, Tg.asg, asgs, items, itemsL, lockOf, walkOf, walkD, walkR, itemsT, isNil, lstD, oneD, D.pure, D.pure.pureL, eqM_str, eqM_int, eqM_non, eqM_intnon, Mini.get?, place?, intsOf, minL, maxL, Mini.wipe, List.getElem?_cons_zero, List.getElem?_cons_succ, Option.join, List.set_cons_zero, List.set_cons_succ, List.map_cons, List.map_nil, Option.map_some, Option.map_none, Option.bind_some, Option.bind_none, idD, Deed.d, sAsk, e, hcl, oInt, oIdx]
              | some at_ =>
                cases hst
                have e2 := e71 (.lst ((s.found ++ [at_]).map D.int)) s.l s.mark at_ n hl100 hf60
                have hlen : s.found.length < 100000 := by simp at hl2; omega
                refine .inl ⟨[some r.d, some (.int cells), some row, some (stD (sortP (s.l ++ [(at_, n)])) (markPut r cells (sortP (s.l ++ [(at_, n)])) s.mark at_ n)), some (.obj M.length), some (.int i'), some (Deed.d (.ask n)), some (.int at_)], M ++ [.lst ((s.found ++ [at_]).map D.int)], .inl ?_, rest, i' + 1, _, _, _, _, rfl, rfl, rfl, hrun, ?_, ?_, ?_, ?_⟩
                · simp [List.map_append] at e2
                  simp [turn, b_run_1, ev_c, ev_v, ev_g, ev_bin, ev_neg, ev_not, ev_cmp, ev_chain, ev_and, ev_or, ev_ife, ev_nil, ev_cons, ev_tup, ev_lst, ev_new, ev_idx, ev_slc, ev_rev, ev_call, ev_bf, ev_mt, ev_it, ev_rng, ev_enum, ev_zip, ex_skip, ex_seq, ex_asg, ex_setix, ex_aug, ex_augix, ex_ife, ex_ret, ex_retN, ex_expr, ex_brk, ex_cont, Mini.R.to, Mini.R.bind, Mini.R.ofOpt, RS.andThen, nxO, tupD, boolD, newD, cmpD, cmpop, binop, addD, mulD, catD, negD, idxD, idxO, iop, partR, partD, cutD, revD, recvD, mth, objL, one1, zero1, appendD, extendD, popD, setD, bfn, lenD, sumD, allD, anyD, minD, maxD, absD, sortedD, tupleD, listD, isinstD, isTy, kindD, tyIn, Ctx.may, Ctx.lock, Tg.asg, asgs, items, itemsL, lockOf, walkOf, walkD, walkR, itemsT, isNil, lstD, oneD, D.pure, D.pure.pureL, eqM_str, eqM_int, eqM_non, eqM_intnon, Mini.get?, place?, intsOf, minL, maxL, Mini.wipe, List.getElem?_cons_zero, List.getElem?_cons_succ, Option.join, List.set_cons_zero, List.set_cons_succ, List.map_cons, List.map_nil, Option.map_some, Option.map_none, Option.bind_some, Option.bind_none, idD, Deed.d, sAsk, e, hcl, oInt, hlk, hlk2, hlen, e2]
                · rw [sortP_len]; simp at hl1 ⊢; omega
                · simp at hl2 ⊢; omega
                · simp at hl3; omega
                · exact fits_put (hf.mono (by simp; omega)) _ _ _ _
          | free n =>
            have hst : (match Mini.get? s.found n with
              | none => none
              | some at_ => (markTake r cells (gone s.l at_) s.mark at_).map fun mk => some (⟨s.found, gone s.l at_, mk⟩ : RSt)) = some o := hst
            cases hg : Mini.get? s.found n with
            | none => rw [hg] at hst; cases hst
            | some at_ =>
              rw [hg] at hst
              have hst : (markTake r cells (gone s.l at_) s.mark at_).map (fun mk => some (⟨s.found, gone s.l at_, mk⟩ : RSt)) = some o := hst
              cases hm : markTake r cells (gone s.l at_) s.mark at_ with
              | none => rw [hm] at hst; cases hst
              | some mk' =>
                rw [hm] at hst
                cases hst
                have e := e72 (.lst (s.found.map D.int)) s.l s.mark mk' at_ hl100 hf60 hm
                have hg' : Mini.get? (s.found.map D.int) n = some (.int at_) := by
                  unfold Mini.get? at hg ⊢
                  rw [List.length_map]
                  cases hp : place? s.found.length n with
                  | none => rw [hp] at hg; cases hg
                  | some j =>
                    rw [hp] at hg
                    show (s.found.map D.int)[j]? = _
                    rw [List.getElem?_map, show s.found[j]? = some at_ from hg]; rfl
                have hgl := gone_len s.l at_
                refine .inl ⟨[some r.d, some (.int cells), some row, some (stD (gone s.l at_) mk'), some (.obj M.length), some (.int i'), some (Deed.d (.free n)), j7], M ++ [.lst (s.found.map D.int)], .inl ?_, rest, i' + 1, _, _, _, _, rfl, rfl, rfl, hrun, by simp at hl1; simp; omega, by simp at hl2; simp; omega, by simp at hl3; omega, ?_⟩
                · have hi : ∀ c' σ, ev c' (.idx (.v 4) (.idx (.v 6) (.c (.int 1)))) [some r.d, some (.int cells), some row, some (stD s.l s.mark), some (.obj M.length), some (.int i'), some (Deed.d (.free n)), σ] (M ++ [.lst (s.found.map D.int)]) = .ok (.int at_) (M ++ [.lst (s.found.map D.int)]) := fun c' σ => by
                    rw [ev_idx, ev_v]
                    show R.ofOpt ((Mini.items (M ++ [.lst (s.found.map D.int)]) (.obj M.length)).bind fun xs => Mini.get? xs n) _ = _
                    simp [Mini.items, hg', R.ofOpt]
                  have t : (Tg.many [5, 6]).asg (idD (i', Deed.free n)) [some r.d, some (.int cells), some row, some (stD s.l s.mark), some (.obj M.length), j5, j6, j7] = some [some r.d, some (.int cells), some row, some (stD s.l s.mark), some (.obj M.length), some (.int i'), some (Deed.d (.free n)), j7] := rfl
                  unfold turn
                  rw [t]
                  show exec (c.lock L) b_run_1 _ _ = _
                  refine ife_f (M' := M ++ [.lst (s.found.map D.int)]) rfl ?_
                  refine asg_of (v := stD (gone s.l at_) mk') ?_ rfl
                  rw [ev_call]
                  have hargs : ev (c.lock L) (.cons (.v 0) (.cons (.v 1) (.cons (.v 3) (.cons (.idx (.v 4) (.idx (.v 6) (.c (.int 1)))) .nil)))) [some r.d, some (.int cells), some row, some (stD s.l s.mark), some (.obj M.length), some (.int i'), some (Deed.d (.free n)), j7] (M ++ [.lst (s.found.map D.int)]) = .ok (.tup [r.d, .int cells, stD s.l s.mark, .int at_]) (M ++ [.lst (s.found.map D.int)]) := by
                    simp [ev_cons, hi, R.bind, tupD, ev_v, R.ofOpt, ev_nil, Option.join]
                  rw [hargs]
                  show (c.lock L).call false 72 _ _ (L ++ c.lk) _ = _
                  rw [hcl]
                  exact e _
                · exact (fits_take (hf.mono (n' := 45 - rest.length) (by simp only [List.length_cons]; omega)) hm).mono (by simp at hl3; omega))
  have hfor := exec_for (c := c) (t := .many [5, 6]) (b := b_run_1) hit
  rw [locks_lock] at hfor
  rcases hw with ⟨σ', M', h1, hx⟩ | ⟨v, M', h1, rfl, rfl⟩
  · rcases hx with ⟨rest, i, s, j5, j6, j7, hq, rfl, rfl, hrun, _⟩ | hx
    · cases rest with
      | cons d rest => cases hq
      | nil =>
        cases hrun
        exact seq_nx (hfor.trans h1) (ret_of rfl)
    · exact hx.elim
  · exact seq_rt (hfor.trans h1)
theorem c_startsA (H : HasRunA P) (h85 : P.fns.lookup 85 = some d_starts) (hk : ∀ n ∈ lk, n < M.length) (cells : Int) (r : Rl) (hg : r.okR cells = true) (h1 : 1 ≤ cells) (h9 : cells ≤ 9) (row : D) (ds : List Deed) (hs : Sq M row (ds.map Deed.d)) (hd : rowP ds = true) (i0 : Option Nat) (s0 : RSt) (ho : runAP r cells ds = some (i0, s0)) :
    callN P W (k + 7) false 85 [r.d, .int cells, row] fl lk M = .ok (lsI s0.found) M := by
  have hl40 : ds.length ≤ 40 := of_decide_eq_true (Bool.and_eq_true_iff.mp hd).1
  refine call_rt (M' := M) (v := lsI s0.found) h85 rfl ?_ (by show ((s0.found.map D.int).mapM (frz _ _ 19)).map D.lst = _; rw [frz_ints, Option.map_some]; rfl) (List.take_length)
  have e1 : ∀ fl, callN P W (k + 6) false 75 [r.d, .int cells, row] fl lk M = .ok .non M := fun fl => c_need_runA H hk cells r row ds h1 h9 hg hs hd
  have e2 : ∀ fl, callN P W (k + 6) false 76 [r.d, .int cells, row] fl lk M = .ok (resD (i0, s0)) M := fun fl => c_runA H hk cells r row ds hs (by omega) i0 s0 ho
  simp [ev_c, ev_v, ev_g, ev_bin, ev_neg, ev_not, ev_cmp, ev_chain, ev_and, ev_or, ev_ife, ev_nil, ev_cons, ev_tup, ev_lst, ev_new, ev_idx, ev_slc, ev_rev, ev_call, ev_bf, ev_mt, ev_it, ev_rng, ev_enum, ev_zip, ex_skip, ex_seq, ex_asg, ex_setix, ex_aug, ex_augix, ex_ife, ex_ret, ex_retN, ex_expr, ex_brk, ex_cont, Mini.R.to, Mini.R.bind, Mini.R.ofOpt, RS.andThen, nxO, tupD, boolD, newD, cmpD, cmpop, binop, addD, mulD, catD, negD, idxD, idxO, iop, partR, partD, cutD, revD, recvD, mth, objL, one1, zero1, appendD, extendD, popD, setD, bfn, lenD, sumD, allD, anyD, minD, maxD, absD, sortedD, tupleD, listD, isinstD, isTy, kindD, tyIn, Ctx.may, Ctx.lock, Tg.asg, asgs, items, itemsL, lockOf, walkOf, walkD, walkR, itemsT, isNil, lstD, oneD, D.pure, D.pure.pureL, eqM_str, eqM_int, eqM_non, eqM_intnon, Mini.get?, place?, intsOf, minL, maxL, Mini.wipe, List.getElem?_cons_zero, List.getElem?_cons_succ, Option.join, List.set_cons_zero, List.set_cons_succ, List.map_cons, List.map_nil, Option.map_some, Option.map_none, Option.bind_some, Option.bind_none, e1, e2, resD]
theorem c_fails_atA (H : HasRunA P) (h86 : P.fns.lookup 86 = some d_fails_at) (hk : ∀ n ∈ lk, n < M.length) (cells : Int) (r : Rl) (hg : r.okR cells = true) (h1 : 1 ≤ cells) (h9 : cells ≤ 9) (row : D) (ds : List Deed) (hs : Sq M row (ds.map Deed.d)) (hd : rowP ds = true) (i0 : Option Nat) (s0 : RSt) (ho : runAP r cells ds = some (i0, s0)) :
    callN P W (k + 7) false 86 [r.d, .int cells, row] fl lk M = .ok (oIdx i0) M := by
  have hl40 : ds.length ≤ 40 := of_decide_eq_true (Bool.and_eq_true_iff.mp hd).1
  refine call_rt (M' := M) (v := oIdx i0) h86 rfl ?_ (oIdx_frz _ _ _ _) (List.take_length)
  have e1 : ∀ fl, callN P W (k + 6) false 75 [r.d, .int cells, row] fl lk M = .ok .non M := fun fl => c_need_runA H hk cells r row ds h1 h9 hg hs hd
  have e2 : ∀ fl, callN P W (k + 6) false 76 [r.d, .int cells, row] fl lk M = .ok (resD (i0, s0)) M := fun fl => c_runA H hk cells r row ds hs (by omega) i0 s0 ho
  simp [ev_c, ev_v, ev_g, ev_bin, ev_neg, ev_not, ev_cmp, ev_chain, ev_and, ev_or, ev_ife, ev_nil, ev_cons, ev_tup, ev_lst, ev_new, ev_idx, ev_slc, ev_rev, ev_call, ev_bf, ev_mt, ev_it, ev_rng, ev_enum, ev_zip, ex_skip, ex_seq, ex_asg, ex_setix, ex_aug, ex_augix, ex_ife, ex_ret, ex_retN, ex_expr, ex_brk, ex_cont, Mini.R.to, Mini.R.bind, Mini.R.ofOpt, RS.andThen, nxO, tupD, boolD, newD, cmpD, cmpop, binop, addD, mulD, catD, negD, idxD, idxO, iop, partR, partD, cutD, revD, recvD, mth, objL, one1, zero1, appendD, extendD, popD, setD, bfn, lenD, sumD, allD, anyD, minD, maxD, absD, sortedD, tupleD, listD, isinstD, isTy, kindD, tyIn, Ctx.may, Ctx.lock, Tg.asg, asgs, items, itemsL, lockOf, walkOf, walkD, walkR, itemsT, isNil, lstD, oneD, D.pure, D.pure.pureL, eqM_str, eqM_int, eqM_non, eqM_intnon, Mini.get?, place?, intsOf, minL, maxL, Mini.wipe, List.getElem?_cons_zero, List.getElem?_cons_succ, Option.join, List.set_cons_zero, List.set_cons_succ, List.map_cons, List.map_nil, Option.map_some, Option.map_none, Option.bind_some, Option.bind_none, e1, e2, resD]
theorem c_layout_behindA (H : HasRunA P) (h87 : P.fns.lookup 87 = some d_layout_behind) (hk : ∀ n ∈ lk, n < M.length) (cells : Int) (r : Rl) (hg : r.okR cells = true) (h1 : 1 ≤ cells) (h9 : cells ≤ 9) (row : D) (ds : List Deed) (hs : Sq M row (ds.map Deed.d)) (hd : rowP ds = true) (i0 : Option Nat) (s0 : RSt) (ho : runAP r cells ds = some (i0, s0)) :
    callN P W (k + 7) false 87 [r.d, .int cells, row] fl lk M = .ok (lay s0.l) M := by
  have hl40 : ds.length ≤ 40 := of_decide_eq_true (Bool.and_eq_true_iff.mp hd).1
  refine call_rt (M' := M) (v := lay s0.l) h87 rfl ?_ (frz_lay _ _ _) (List.take_length)
  have e1 : ∀ fl, callN P W (k + 6) false 75 [r.d, .int cells, row] fl lk M = .ok .non M := fun fl => c_need_runA H hk cells r row ds h1 h9 hg hs hd
  have e2 : ∀ fl, callN P W (k + 6) false 76 [r.d, .int cells, row] fl lk M = .ok (resD (i0, s0)) M := fun fl => c_runA H hk cells r row ds hs (by omega) i0 s0 ho
  simp [ev_c, ev_v, ev_g, ev_bin, ev_neg, ev_not, ev_cmp, ev_chain, ev_and, ev_or, ev_ife, ev_nil, ev_cons, ev_tup, ev_lst, ev_new, ev_idx, ev_slc, ev_rev, ev_call, ev_bf, ev_mt, ev_it, ev_rng, ev_enum, ev_zip, ex_skip, ex_seq, ex_asg, ex_setix, ex_aug, ex_augix, ex_ife, ex_ret, ex_retN, ex_expr, ex_brk, ex_cont, Mini.R.to, Mini.R.bind, Mini.R.ofOpt, RS.andThen, nxO, tupD, boolD, newD, cmpD, cmpop, binop, addD, mulD, catD, negD, idxD, idxO, iop, partR, partD, cutD, revD, recvD, mth, objL, one1, zero1, appendD, extendD, popD, setD, bfn, lenD, sumD, allD, anyD, minD, maxD, absD, sortedD, tupleD, listD, isinstD, isTy, kindD, tyIn, Ctx.may, Ctx.lock, Tg.asg, asgs, items, itemsL, lockOf, walkOf, walkD, walkR, itemsT, isNil, lstD, oneD, D.pure, D.pure.pureL, eqM_str, eqM_int, eqM_non, eqM_intnon, Mini.get?, place?, intsOf, minL, maxL, Mini.wipe, List.getElem?_cons_zero, List.getElem?_cons_succ, Option.join, List.set_cons_zero, List.set_cons_succ, List.map_cons, List.map_nil, Option.map_some, Option.map_none, Option.bind_some, Option.bind_none, e1, e2, resD, stD]
end
end Con
set_option autoImplicit false
set_option maxRecDepth 100000
set_option maxHeartbeats 4000000
namespace Con
open Mini Tx
def Goes (c : Ctx) (s : MS) (σ : Sl) (M : MH) (v : D) : Prop := ∃ M', exec c s σ M = .rt v M'
theorem goes_seq {c : Ctx} {a b : MS} {σ σ' : Sl} {M M' : MH} {v : D} (h : exec c a σ M = .nx σ' M') (z : Goes c b σ' M' v) : Goes c (.seq a b) σ M v := by
  obtain ⟨N, z⟩ := z
  exact ⟨N, seq_nx h z⟩
theorem goes_ret {c : Ctx} {e : ME} {σ : Sl} {M M' : MH} {v : D} (h : ev c e σ M = .ok v M') : Goes c (.ret e) σ M v := ⟨M', ret_of h⟩
theorem eqM_obj (M : MH) (l m : List Int) (n : Nat) (h : M[n]? = some (.lst (m.map D.int))) : eqM M (lsI l) (.obj n) = some (decide (l = m)) := by
  have e1 : res 20 M (lsI l) = some (lsI l) := by
    show ((l.map D.int).mapM (res 19 M)).map D.lst = _
    rw [res_ints 19 M l]; rfl
  have e2 : res 20 M (.obj n) = some (lsI m) := by
    show (match M[n]? with
      | some (.lst xs) => (xs.mapM (res 19 M)).map D.lst
      | some (.dct ks vs) => (ks.mapM (res 19 M)).bind fun ks' => (vs.mapM (res 19 M)).map fun vs' => .dct ks' vs'
      | _ => none) = _
    rw [h]
    show ((m.map D.int).mapM (res 19 M)).map D.lst = _
    rw [res_ints 19 M m]; rfl
  unfold eqM
  rw [e1, e2]
  show (if (D.isDat.datL (l.map D.int) && D.isDat.datL (m.map D.int)) = true then some (D.eqv.eqvL (l.map D.int) (m.map D.int)) else none) = _
  rw [dat_ints, dat_ints, eqv_ints]
  rfl
theorem eqM_idx (M : MH) (a b : Option Nat) : eqM M (oIdx a) (oIdx b) = some (decide (a = b)) := by
  cases a <;> cases b <;> simp [oIdx, eqM, res, D.isDat, D.eqv]
  omega
theorem law_of {P : MProg} {W k : Nat} {nn : Nat} {body : MS} {ns : List Int} (hl : P.fns.lookup 176 = some ⟨1, nn, false, body⟩) (h : Goes ⟨callN P W k, fun i => P.gls.lookup i, W, 0, []⟩ body (some (.scr ns) :: List.replicate (nn - 1) none) [] (.bl true)) : ∃ M', callN P W (k + 1) false 176 [.scr ns] 0 [] [] = .ok (.bl true) M' := by
  obtain ⟨M', h⟩ := h
  refine ⟨M'.take 0, ?_⟩
  unfold callN
  rw [hl]
  show (match false, exec ⟨callN P W k, fun i => P.gls.lookup i, W, 0, []⟩ body (some (.scr ns) :: List.replicate (nn - 1) none) [] with
      | false, .rt v M' => leave false 0 v M'
      | false, .nx _ M' => leave false 0 .non M'
      | false, .exc c _ M' => .exc c (M'.take 0)
      | true, .rt v M' => .ok v M'
      | true, .nx _ M' => .ok .non M'
      | true, .exc c _ M' => .exc c M'
      | _, _ => .stuck) = _
  rw [h]
  rfl
theorem goes_sif {c : Ctx} {t : ME} {a b : MS} {σ : Sl} {M M' : MH} {v : D} (h : ev c t σ M = .ok (.bl false) M') (h2 : Goes c b σ M' v) : Goes c (.seq (.ife t a .skip) b) σ M v := goes_seq (ife_f h rfl) h2
theorem goes_sift {c : Ctx} {t : ME} {a b : MS} {σ : Sl} {M M' : MH} {v : D} (h : ev c t σ M = .ok (.bl true) M') (h2 : Goes c a σ M' v) : Goes c (.seq (.ife t a .skip) b) σ M v := by
  obtain ⟨N, h2⟩ := h2
  exact ⟨N, sif_t h h2⟩
theorem draw0 {P : MProg} {W k : Nat} (h10 : P.fns.lookup 10 = some d_law_draw) (ns : List Int) (a b : Int) (M : MH) (many : Int) (fl : Nat) (lk : List Nat) (ha : 0 ≤ a) (hlk : 0 ∉ lk) (h1 : 0 < many) (h2 : many < 1073741824) :
    ∃ v a' b', 0 ≤ v ∧ v < many ∧ 0 ≤ a' ∧ callN P W (k + 1) false 10 [.scr ns, .obj 0, .int many] fl lk (town a b :: M) = .ok (.int v) (town a' b' :: M) := by
  obtain ⟨v, a', b', g1, g2, g3, g4⟩ := c_draw (P := P) (W := W) (k := k) (fl := fl) (lk := lk) (M := town a b :: M) h10 ns 0 a b rfl ha hlk false many h1 h2
  exact ⟨v, a', b', g1, g2, g3, g4⟩
theorem rng_of {c : Ctx} {a : ME} {σ : Sl} {M M' : MH} {v : Int} (h : ev c a σ M = .ok (.int v) M') (h0 : 0 ≤ v) (h1 : v < 1000) : ev c (.rng (.cons a .nil)) σ M = .ok (.dct ((List.range v.toNat).map fun (k : Nat) => D.int (0 + (k : Int) * 1)) []) M' := by
  have hsm : small v = true := by unfold small; simp; omega
  have ht : turns 0 v 1 = v.toNat := by
    unfold turns
    split
    · have : (v - 0 + 1 - 1) / 1 = v := by simp
      rw [this]
    · omega
  rw [ev_rng, cons_of h rfl]
  show R.ofOpt ((if small v = true then some (rangeD 0 (turns 0 v 1) 1) else none).map fun xs => walkD xs []) _ = _
  rw [hsm, ht]; rfl
theorem sum_of {c : Ctx} {a : ME} {σ : Sl} {M M' : MH} {l : List Int} (h : ev c a σ M = .ok (.lst (l.map D.int)) M') : ev c (.bf .sum (.cons a .nil)) σ M = .ok (.int l.sum) M' := by
  refine bf_of (cons_of h rfl) ?_
  show R.ofOpt (((some (l.map D.int)).bind intsOf).map fun ns => D.int ns.sum) M' = _
  rw [Option.bind_some, intsOf_map]; rfl
theorem eqM_nilP (M : MH) (n : Nat) (l : List (Int × Int)) (h : M[n]? = some (.lst (l.map pairD))) : eqM M (.obj n) (.lst []) = some (decide (l = [])) := by
  have e2 : res 20 M (.obj n) = some (lsP l) := by
    show (match M[n]? with
      | some (.lst xs) => (xs.mapM (res 19 M)).map D.lst
      | some (.dct ks vs) => (ks.mapM (res 19 M)).bind fun ks' => (vs.mapM (res 19 M)).map fun vs' => .dct ks' vs'
      | _ => none) = _
    rw [h]
    show ((l.map pairD).mapM (res 19 M)).map D.lst = _
    rw [res_pairs 18 M l]; rfl
  unfold eqM
  rw [e2]
  show (if (D.isDat.datL (l.map pairD) && true) = true then some (D.eqv.eqvL (l.map pairD) []) else none) = _
  rw [dat_pairs]
  cases l <;> rfl
def RowG (row : List Deed) (asks : Int) (g : List Int) : Prop := ∀ rest, rowA (row ++ rest) 0 [] = rowA rest asks g
theorem rowG_nil : RowG [] 0 [] := fun _ => rfl
theorem rowG_ask {row : List Deed} {asks : Int} {g : List Int} (h : RowG row asks g) (n : Int) : RowG (row ++ [.ask n]) (asks + 1) g := fun rest => by
  rw [List.append_assoc, h]; rfl
theorem rowG_free {row : List Deed} {asks : Int} {g : List Int} (h : RowG row asks g) {n : Int} (h1 : n < asks) (h2 : n ∉ g) : RowG (row ++ [.free n]) asks (g ++ [n]) := fun rest => by
  rw [List.append_assoc, h]
  show (if n ≥ asks ∨ n ∈ g then false else rowA rest asks (g ++ [n])) = _
  rw [if_neg (by rintro (z | z); omega; exact h2 z)]
theorem rowG_ok {row : List Deed} {asks : Int} {g : List Int} (h : RowG row asks g) (hl : row.length ≤ 40) (hg : ∀ d ∈ row, d.good = true) : rowP row = true := by
  unfold rowP
  have e := h []
  rw [List.append_nil] at e
  rw [e, decide_eq_true hl, List.all_eq_true.mpr hg]
  rfl
end Con
set_option autoImplicit false
set_option maxRecDepth 100000
set_option maxHeartbeats 4000000
namespace Con
open Mini Tx
theorem call_rtN {P : MProg} {W k : Nat} {f : Nat} {np nn : Nat} {body : MS} {as : List D} {fl : Nat} {lk : List Nat} {M M' N : MH} {v v' : D} (hf : P.fns.lookup f = some ⟨np, nn, false, body⟩) (hl : as.length = np)
    (he : exec ⟨callN P W k, fun i => P.gls.lookup i, W, M.length, lk⟩ body (as.map some ++ List.replicate (nn - np) none) M = .rt v M') (hv : frz M.length M' 20 v = some v') (ht : M'.take M.length = N) :
    callN P W (k + 1) false f as fl lk M = .ok v' N := by
  unfold callN
  simp only [hf, hl, if_true, Bool.false_eq_true, if_false, he]
  show leave false M.length v M' = _
  unfold leave
  simp only [hv, ht, R.ofOpt]
theorem call_rtO {P : MProg} {W k : Nat} {f : Nat} {np nn : Nat} {body : MS} {as : List D} {fl : Nat} {lk : List Nat} {M M' N : MH} {n : Nat} {xs : List D} (hf : P.fns.lookup f = some ⟨np, nn, false, body⟩) (hl : as.length = np)
    (he : exec ⟨callN P W k, fun i => P.gls.lookup i, W, M.length, lk⟩ body (as.map some ++ List.replicate (nn - np) none) M = .rt (.obj n) M') (hn : M.length ≤ n) (hx : M'[n]? = some (.lst xs)) (hv : ∀ N k, xs.mapM (frz M.length N (k + 2)) = some xs) (ht : M'.take M.length = N) (m : Bool) :
    callN P W (k + 1) m f as fl lk M = if m then .ok (.obj M.length) (N ++ [.lst xs]) else .ok (.lst xs) N := by
  unfold callN
  simp only [hf, hl, if_true, Bool.false_eq_true, if_false, he]
  show leave m M.length (.obj n) M' = _
  cases m with
  | true =>
    show (if n < M.length then R.ok (D.obj n) (M'.take M.length) else match M'[n]? with
      | some (.lst xs) => (match xs.mapM (frz M.length (M'.set n (.ins 0 [])) 20) with
        | some ys => R.ok (D.obj M.length) (M'.take M.length ++ [MO.lst ys])
        | none => .stuck)
      | _ => .stuck) = _
    rw [if_neg (by omega), hx]
    show (match xs.mapM (frz M.length (M'.set n (.ins 0 [])) 20) with
        | some ys => R.ok (D.obj M.length) (M'.take M.length ++ [MO.lst ys])
        | none => .stuck) = _
    rw [hv _ 18, ht]
    rfl
  | false =>
    show R.ofOpt (frz M.length M' 20 (.obj n)) (M'.take M.length) = _
    have e : frz M.length M' 20 (.obj n) = some (.lst xs) := by
      show (if n < M.length then some (D.obj n) else match M'[n]? with
        | some (.lst xs) => (xs.mapM (frz M.length M' 19)).map D.lst
        | some (.dct ks vs) => (ks.mapM (frz M.length M' 19)).bind fun ks' => (vs.mapM (frz M.length M' 19)).map fun vs' => D.dct ks' vs'
        | _ => none) = _
      rw [if_neg (by omega), hx]
      show (xs.mapM (frz M.length M' 19)).map D.lst = _
      rw [hv _ 17]; rfl
    rw [e, ht]
    rfl
def PureD (y : D) : Prop := ∀ n0 N, frz n0 N 20 y = some y
theorem pure_pair (p : Int × Int) : PureD (pairD p) := fun n0 N => rfl
theorem pure_int (i : Int) : PureD (.int i) := fun n0 N => rfl
theorem pure_str (s : List Nat) : PureD (.str s) := fun n0 N => rfl
structure LoadOk (most : Int) (sizes : List Int) (live : Int) : Prop where
  len : 1 ≤ sizes.length ∧ sizes.length ≤ 3
  asc : sizes.Pairwise (· < ·)
  bnd : ∀ n ∈ sizes, 1 ≤ n ∧ n ≤ 4
  le : ∀ n ∈ sizes, n ≤ live
  most : live ≤ most
def loadD (sizes : List Int) (live : Int) : D := .tup [.tup (sizes.map D.int), .int live]
theorem pure_load (sizes : List Int) (live : Int) : PureD (loadD sizes live) := fun n0 N => by
  show ([D.tup (sizes.map D.int), .int live].mapM (frz n0 N 19)).map D.tup = _
  have e1 : frz n0 N 19 (.tup (sizes.map D.int)) = some (.tup (sizes.map D.int)) := by
    show ((sizes.map D.int).mapM (frz n0 N 18)).map D.tup = _
    rw [frz_ints]; rfl
  rw [List.mapM_cons, e1]; rfl
def aliveS (st : List (Int × Int) × Int) : Deed → List (Int × Int) × Int
  | .ask n => (st.1 ++ [(st.2, n)], st.2 + 1)
  | .free i => (st.1.filter fun p => decide (p.1 ≠ i), st.2)
def aliveP (ds : List Deed) : List (Int × Int) × Int := ds.foldl aliveS ([], 0)
def liveP (ds : List Deed) : Int := ((aliveP ds).1.map (·.2)).sum
theorem alive_snoc (ds : List Deed) (d : Deed) : aliveP (ds ++ [d]) = aliveS (aliveP ds) d := by
  unfold aliveP
  rw [List.foldl_append]; rfl
structure RowK (sizes : List Int) (live : Int) (ds : List Deed) : Prop where
  grow : ∃ g, RowG ds (aliveP ds).2 g ∧ (∀ x ∈ g, x < (aliveP ds).2) ∧ (∀ p ∈ (aliveP ds).1, 0 ≤ p.1 ∧ p.1 < (aliveP ds).2 ∧ p.1 ∉ g ∧ p.2 ∈ sizes)
  asc : (aliveP ds).1.Pairwise fun p q => p.1 < q.1
  num : 0 ≤ (aliveP ds).2 ∧ (aliveP ds).2 ≤ ds.length
  good : ∀ d ∈ ds, d.good = true
  size : ∀ n, Deed.ask n ∈ ds → n ∈ sizes
  keep : ∀ pre, pre <+: ds → liveP pre ≤ live
theorem rowK_nil {sizes : List Int} {live : Int} (h : 0 ≤ live) : RowK sizes live [] :=
  ⟨⟨[], rowG_nil, fun _ z => (by cases z), fun _ z => (by cases z)⟩, List.Pairwise.nil, ⟨by decide, by decide⟩, fun _ z => (by cases z), fun _ z => (by cases z), fun pre hp => by
    have : pre = [] := List.prefix_nil.mp hp
    subst this; exact h⟩
theorem keep_snoc {live : Int} {ds : List Deed} {d : Deed} (h : ∀ pre, pre <+: ds → liveP pre ≤ live) (h2 : liveP (ds ++ [d]) ≤ live) : ∀ pre, pre <+: ds ++ [d] → liveP pre ≤ live := fun pre hp => by
  rcases List.prefix_concat_iff.mp hp with rfl | h3
  · exact h2
  · exact h pre h3
theorem RowK.ask {sizes : List Int} {live : Int} {ds : List Deed} (h : RowK sizes live ds) {n : Int} (hn : n ∈ sizes) (hb : 1 ≤ n ∧ n ≤ 4) (hl : liveP ds + n ≤ live) : RowK sizes live (ds ++ [.ask n]) := by
  have e := alive_snoc ds (.ask n)
  obtain ⟨g, g1, g2, g3⟩ := h.grow
  have hnum := h.num
  refine ⟨⟨g, ?_, fun x hx => ?_, fun p hp => ?_⟩, ?_, ?_, fun d hd => ?_, fun m hm => ?_, keep_snoc h.keep ?_⟩
  · rw [e]; exact rowG_ask g1 n
  · rw [e]; have := g2 x hx; show x < (aliveP ds).2 + 1; omega
  · rw [e] at hp ⊢
    rcases List.mem_append.mp hp with z | z
    · have := g3 p z
      exact ⟨this.1, by show p.1 < (aliveP ds).2 + 1; omega, this.2.2⟩
    · have : p = ((aliveP ds).2, n) := by simpa using z
      subst this
      exact ⟨hnum.1, by show (aliveP ds).2 < (aliveP ds).2 + 1; omega, fun z => Int.lt_irrefl _ (g2 _ z), hn⟩
  · rw [e]
    show ((aliveP ds).1 ++ [((aliveP ds).2, n)]).Pairwise _
    rw [List.pairwise_append]
    refine ⟨h.asc, by simp, fun p hp q hq => ?_⟩
    have : q = ((aliveP ds).2, n) := by simpa using hq
    subst this
    exact (g3 p hp).2.1
  · rw [e]
    show 0 ≤ (aliveP ds).2 + 1 ∧ (aliveP ds).2 + 1 ≤ ((ds ++ [Deed.ask n]).length : Int)
    simp; omega
  · rcases List.mem_append.mp hd with z | z
    · exact h.good d z
    · have : d = .ask n := by simpa using z
      subst this; simp [Deed.good]; omega
  · rcases List.mem_append.mp hm with z | z
    · exact h.size m z
    · have : Deed.ask m = .ask n := by simpa using z
      cases this; exact hn
  · unfold liveP
    rw [e]
    show (((aliveP ds).1 ++ [((aliveP ds).2, n)]).map (·.2)).sum ≤ live
    rw [List.map_append, List.sum_append]
    unfold liveP at hl
    simpa using hl
theorem sum_filter_le {sizes : List Int} (hs : ∀ n ∈ sizes, 1 ≤ n) (q : Int × Int → Bool) : ∀ l : List (Int × Int), (∀ p ∈ l, p.2 ∈ sizes) → ((l.filter q).map (·.2)).sum ≤ (l.map (·.2)).sum
  | [], _ => by simp
  | p :: l, h => by
    have ih := sum_filter_le hs q l fun r hr => h r (List.mem_cons_of_mem _ hr)
    have := hs _ (h p List.mem_cons_self)
    rw [List.filter_cons]
    split <;> simp <;> omega
theorem RowK.free {sizes : List Int} {live : Int} {ds : List Deed} (h : RowK sizes live ds) (hs : ∀ n ∈ sizes, 1 ≤ n) {p : Int × Int} (hp : p ∈ (aliveP ds).1) (h40 : ds.length ≤ 40) : RowK sizes live (ds ++ [.free p.1]) := by
  have e := alive_snoc ds (.free p.1)
  obtain ⟨g, g1, g2, g3⟩ := h.grow
  have hnum := h.num
  have hpp := g3 p hp
  refine ⟨⟨g ++ [p.1], ?_, fun x hx => ?_, fun q hq => ?_⟩, ?_, ?_, fun d hd => ?_, fun m hm => ?_, keep_snoc h.keep ?_⟩
  · rw [e]; exact rowG_free g1 hpp.2.1 hpp.2.2.1
  · rw [e]
    rcases List.mem_append.mp hx with z | z
    · exact g2 x z
    · have : x = p.1 := by simpa using z
      rw [this]; exact hpp.2.1
  · rw [e] at hq ⊢
    obtain ⟨q1, q2⟩ := List.mem_filter.mp hq
    have q3 := g3 q q1
    refine ⟨q3.1, q3.2.1, fun z => ?_, q3.2.2.2⟩
    rcases List.mem_append.mp z with z | z
    · exact q3.2.2.1 z
    · have : q.1 = p.1 := by simpa using z
      have q2 : q.1 ≠ p.1 := of_decide_eq_true q2
      exact q2 this
  · rw [e]
    exact h.asc.sublist List.filter_sublist
  · rw [e]
    show 0 ≤ (aliveP ds).2 ∧ (aliveP ds).2 ≤ ((ds ++ [Deed.free p.1]).length : Int)
    simp; omega
  · rcases List.mem_append.mp hd with z | z
    · exact h.good d z
    · have : d = .free p.1 := by simpa using z
      subst this; simp [Deed.good]; omega
  · rcases List.mem_append.mp hm with z | z
    · exact h.size m z
    · have : Deed.ask m = .free p.1 := by simpa using z
      cases this
  · have h0 := h.keep ds (List.prefix_refl _)
    unfold liveP at *
    rw [e]
    show (((aliveP ds).1.filter fun q => decide (q.1 ≠ p.1)).map (·.2)).sum ≤ live
    have := sum_filter_le hs (fun q : Int × Int => decide (q.1 ≠ p.1)) (aliveP ds).1 fun q hq => (g3 q hq).2.2.2
    omega
theorem RowK.row {sizes : List Int} {live : Int} {ds : List Deed} (h : RowK sizes live ds) (h40 : ds.length ≤ 40) : rowP ds = true := by
  obtain ⟨g, g1, _⟩ := h.grow
  exact rowG_ok g1 h40 h.good
theorem find_pair (p : Int × Int) : ∀ l : List (Int × Int), ((l.map pairD).findIdx? fun b => D.eqv b (pairD p)) = l.findIdx? fun q => decide (q = p)
  | [] => rfl
  | q :: l => by
    obtain ⟨a, b⟩ := q
    obtain ⟨c, d⟩ := p
    have e : D.eqv (pairD (a, b)) (pairD (c, d)) = decide ((a, b) = (c, d)) := by
      show (decide (a = c) && (decide (b = d) && true)) = _
      by_cases h1 : a = c <;> by_cases h2 : b = d <;> simp [h1, h2]
    rw [List.map_cons, List.findIdx?_cons, List.findIdx?_cons, e, find_pair (c, d) l]
theorem erase_pair {p : Int × Int} : ∀ {l : List (Int × Int)}, l.Pairwise (fun p q => p.1 < q.1) → p ∈ l → ∃ k, l.findIdx? (fun q => decide (q = p)) = some k ∧ l.eraseIdx k = l.filter fun q => decide (q.1 ≠ p.1)
  | q :: l, ha, hp => by
    have ha' := List.pairwise_cons.mp ha
    rw [List.findIdx?_cons]
    by_cases hq : q = p
    · subst hq
      refine ⟨0, by simp, ?_⟩
      rw [List.filter_cons, if_neg (by simp)]
      show l = _
      rw [filter_all]
      intro x hx
      have := ha'.1 x hx
      simp; omega
    · have hp' : p ∈ l := by
        rcases List.mem_cons.mp hp with z | z
        · exact absurd z.symm hq
        · exact z
      obtain ⟨k, h1, h2⟩ := erase_pair ha'.2 hp'
      refine ⟨k + 1, by simp [hq, h1], ?_⟩
      have := ha'.1 p hp'
      rw [List.filter_cons, if_pos (by simp; omega)]
      show q :: l.eraseIdx k = _
      rw [h2]
section
variable {P : MProg} {W k : Nat} {fl : Nat} {lk : List Nat} {M : MH}
theorem pick0 (h10 : P.fns.lookup 10 = some d_law_draw) (h11 : P.fns.lookup 11 = some d_law_pick) (ns : List Int) (a b : Int) (ha : 0 ≤ a) (hlk : 0 ∉ lk) (x : D) (xs : List D) (hx : ∀ a b, Mini.items (town a b :: M) x = some xs) (hscr : (∀ ms, x ≠ .scr ms) ∧ ∀ s, x ≠ .str s) (hp : ∀ y ∈ xs, PureD y) (h0 : 0 < xs.length) (h1 : xs.length < 1000) :
    ∃ y a' b', y ∈ xs ∧ 0 ≤ a' ∧ callN P W (k + 2) false 11 [.scr ns, .obj 0, x] fl lk (town a b :: M) = .ok y (town a' b' :: M) := by
  obtain ⟨v, a', b', g1, g2, g3, g4⟩ := draw0 (P := P) (W := W) (k := k) h10 ns a b M (xs.length : Int) (town a b :: M).length lk ha hlk (by omega) (by omega)
  have hget : Mini.get? xs v = some (xs[v.toNat]'(by omega)) := by
    unfold Mini.get? place?
    rw [if_pos g1, if_pos g2]
    exact List.getElem?_eq_getElem _
  refine ⟨xs[v.toNat]'(by omega), a', b', List.getElem_mem _, g3, call_rtN (M' := town a' b' :: M) (v := xs[v.toNat]'(by omega)) h11 rfl ?_ (hp _ (List.getElem_mem _) _ _) (by simp)⟩
  have hlen : lenD x (town a b :: M) = .ok (.int xs.length) (town a b :: M) := by
    have := hx a b
    cases x <;> first | exact absurd rfl (hscr.1 _) | exact absurd rfl (hscr.2 _) | (cases this; done) | simp [lenD, this, R.ofOpt]
  refine ret_of (idx_of (v_of rfl) (call_of (cons_of (v_of rfl) (cons_of (v_of rfl) (cons_of (bf_of (cons_of (v_of rfl) rfl) hlen) rfl))) g4) ?_)
  have := hx a' b'
  cases x <;> first | exact absurd rfl (hscr.1 _) | exact absurd rfl (hscr.2 _) | (cases this; done) | simp [idxD, this, R.ofOpt, hget]
theorem load0 (h10 : P.fns.lookup 10 = some d_law_draw) (h18 : P.fns.lookup 18 = some d_law_load) (ns : List Int) (a b : Int) (ha : 0 ≤ a) (hk : ∀ n ∈ lk, n < M.length + 1) (hlk : 0 ∉ lk) (most : Int) (hm : 4 ≤ most ∧ most ≤ 1000) :
    ∃ sizes live a' b', LoadOk most sizes live ∧ 0 ≤ a' ∧ callN P W (k + 2) false 18 [.scr ns, .obj 0, .int most] fl lk (town a b :: M) = .ok (loadD sizes live) (town a' b' :: M) := by
  suffices hh : ∃ sizes live a' b' x, LoadOk most sizes live ∧ 0 ≤ a' ∧ exec ⟨callN P W (k + 1), fun i => P.gls.lookup i, W, (town a b :: M).length, lk⟩ d_law_load.body [some (.scr ns), some (.obj 0), some (.int most), none, none] (town a b :: M) = .rt (loadD sizes live) (town a' b' :: (M ++ x)) by
    obtain ⟨sizes, live, a', b', x, h1, h2, h3⟩ := hh
    exact ⟨sizes, live, a', b', h1, h2, call_rtN h18 rfl h3 (pure_load _ _ _ _) (by simp)⟩
  generalize hc : (⟨callN P W (k + 1), fun i => P.gls.lookup i, W, (town a b :: M).length, lk⟩ : Ctx) = c
  have hcl : c.lk = lk := by subst hc; rfl
  have hcf : c.fl = M.length + 1 := by subst hc; rfl
  have draw : ∀ (a b : Int) (M : MH) (many : Int) fl lk, 0 ≤ a → 0 ∉ lk → 0 < many → many < 1073741824 → ∃ v a' b', 0 ≤ v ∧ v < many ∧ 0 ≤ a' ∧ c.call false 10 [.scr ns, .obj 0, .int many] fl lk (town a b :: M) = .ok (.int v) (town a' b' :: M) := fun a b M many fl lk ha hlk h1 h2 => by
    subst hc; exact draw0 h10 ns a b M many fl lk ha hlk h1 h2
  have nlk : (0 : Nat) ∉ c.lk := by rw [hcl]; exact hlk
  have hnl : M.length + 1 ∉ lk := fun z => Nat.lt_irrefl _ (hk _ z)
  obtain ⟨σ', M', l1, a2, b2, sz, j4, ha2, rfl, rfl, hasc, hbnd, hsz3, _⟩ := loop_inv (f := turn (c.lock (locks [])) (.one 4) b_law_load_1) (fun n : Int => D.int n)
    (fun r σ N => ∃ (a b : Int) (sz : List Int) (j4 : Option D), 0 ≤ a ∧ σ = [some (.scr ns), some (.obj 0), some (.int most), some (.obj (M.length + 1)), j4] ∧ N = town a b :: (M ++ [.lst (sz.map D.int)]) ∧ sz.Pairwise (· < ·) ∧ (∀ n ∈ sz, 1 ≤ n ∧ n ≤ 4) ∧ (sz.length ≤ 3 ∧ (∀ n ∈ r, 1 ≤ n ∧ n ≤ 4) ∧ r.Pairwise (· < ·) ∧ ∀ n ∈ sz, ∀ m ∈ r, n < m))
    ([1, 2, 3, 4] : List Int) [some (.scr ns), some (.obj 0), some (.int most), some (.obj (M.length + 1)), none] (town a b :: (M ++ [.lst []])) ⟨a, b, [], none, ha, rfl, rfl, List.Pairwise.nil, fun _ z => (by cases z), by simp, fun n hn => by simp only [List.mem_cons, List.not_mem_nil, or_false] at hn; omega, by decide, fun _ z => (by cases z)⟩ (by
      rintro n r σ N ⟨a, b, sz, j4, ha, rfl, rfl, hasc, hbnd, hlen, hr, hra, hlt⟩
      obtain ⟨hn1, hn4⟩ := hr n List.mem_cons_self
      have hra' := List.pairwise_cons.mp hra
      obtain ⟨v, a', b', w1, w2, w3, w4⟩ := draw a b (M ++ [.lst (sz.map D.int)]) 5 c.fl c.lk ha nlk (by decide) (by decide)
      show ∃ σ' M', (exec (c.lock (locks [])) b_law_load_1 [some (.scr ns), some (.obj 0), some (.int most), some (.obj (M.length + 1)), some (.int n)] (town a b :: (M ++ [.lst (sz.map D.int)])) = .nx σ' M' ∨ exec (c.lock (locks [])) b_law_load_1 [some (.scr ns), some (.obj 0), some (.int most), some (.obj (M.length + 1)), some (.int n)] (town a b :: (M ++ [.lst (sz.map D.int)])) = .ct σ' M') ∧ _
      have hidx : ∃ q : Int, ev (c.lock (locks [])) (.idx (.tup (.cons (.c (.int 3)) (.cons (.c (.int 3)) (.cons (.c (.int 2)) (.cons (.c (.int 1)) .nil))))) (.bin .sub (.v 4) (.c (.int 1)))) [some (.scr ns), some (.obj 0), some (.int most), some (.obj (M.length + 1)), some (.int n)] (town a' b' :: (M ++ [.lst (sz.map D.int)])) = .ok (.int q) (town a' b' :: (M ++ [.lst (sz.map D.int)])) := by
        have : n = 1 ∨ n = 2 ∨ n = 3 ∨ n = 4 := by omega
        rcases this with rfl | rfl | rfl | rfl
        · exact ⟨3, rfl⟩
        · exact ⟨3, rfl⟩
        · exact ⟨2, rfl⟩
        · exact ⟨1, rfl⟩
      obtain ⟨q, hidx⟩ := hidx
      have hg : (town a' b' :: (M ++ [MO.lst (sz.map D.int)]))[M.length + 1]? = some (.lst (sz.map D.int)) := by simp
      have hln : ev (c.lock (locks [])) (.bf .len (.cons (.v 3) .nil)) [some (.scr ns), some (.obj 0), some (.int most), some (.obj (M.length + 1)), some (.int n)] (town a' b' :: (M ++ [.lst (sz.map D.int)])) = .ok (.int sz.length) (town a' b' :: (M ++ [.lst (sz.map D.int)])) := by
        refine bf_of (cons_of (v_of rfl) rfl) ?_
        show R.ofOpt ((Mini.items (town a' b' :: (M ++ [.lst (sz.map D.int)])) (.obj (M.length + 1))).map fun xs => D.int xs.length) _ = _
        simp [Mini.items, R.ofOpt]
      have hskip : ∀ {t : ME}, ev (c.lock (locks [])) t [some (.scr ns), some (.obj 0), some (.int most), some (.obj (M.length + 1)), some (.int n)] (town a b :: (M ++ [.lst (sz.map D.int)])) = .ok (.bl false) (town a' b' :: (M ++ [.lst (sz.map D.int)])) → True := fun _ => trivial
      by_cases hq : v < q
      · by_cases h3 : sz.length < 3
        · refine ⟨[some (.scr ns), some (.obj 0), some (.int most), some (.obj (M.length + 1)), some (.int n)], town a' b' :: (M ++ [.lst ((sz ++ [n]).map D.int)]), .inl (ife_t (and_t_of (cmp_of (call_of rfl w4) hidx (congrArg some (decide_eq_true hq))) (cmp_of hln rfl (congrArg some (decide_eq_true (show (sz.length : Int) < 3 by omega))))) ?_), a', b', sz ++ [n], _, w3, rfl, rfl, ?_, ?_, by simp; omega, fun m hm => hr m (List.mem_cons_of_mem _ hm), hra'.2, ?_⟩
          · have hl5 : sz.length < 100000 := by omega
            rw [ex_expr, ev_mt]
            show (mth (c.lock (locks [])) .append (.obj (M.length + 1)) [.int n] _).to _ _ = _
            simp [mth, objL, one1, appendD, Ctx.may, Ctx.lock, locks, hcl, hnl, hl5, D.pure, R.to]
          · rw [List.pairwise_append]
            refine ⟨hasc, by simp, fun x hx y hy => ?_⟩
            have : y = n := by simpa using hy
            rw [this]; exact hlt x hx n List.mem_cons_self
          · intro m hm
            rcases List.mem_append.mp hm with z | z
            · exact hbnd m z
            · have : m = n := by simpa using z
              omega
          · intro x hx m hm
            rcases List.mem_append.mp hx with z | z
            · exact hlt x z m (List.mem_cons_of_mem _ hm)
            · have : x = n := by simpa using z
              rw [this]; exact hra'.1 m hm
        · exact ⟨_, _, .inl (ife_f (and_t_of (cmp_of (call_of rfl w4) hidx (congrArg some (decide_eq_true hq))) (cmp_of hln rfl (congrArg some (decide_eq_false (show ¬ (sz.length : Int) < 3 by omega))))) rfl), a', b', sz, _, w3, rfl, rfl, hasc, hbnd, hlen, fun m hm => hr m (List.mem_cons_of_mem _ hm), hra'.2, fun x hx m hm => hlt x hx m (List.mem_cons_of_mem _ hm)⟩
      · exact ⟨_, _, .inl (ife_f (and_f_of (cmp_of (call_of rfl w4) hidx (congrArg some (decide_eq_false hq)))) rfl), a', b', sz, _, w3, rfl, rfl, hasc, hbnd, hlen, fun m hm => hr m (List.mem_cons_of_mem _ hm), hra'.2, fun x hx m hm => hlt x hx m (List.mem_cons_of_mem _ hm)⟩)
  have hs1 : exec c (.asg (.one 3) (.new (.lst .nil))) [some (.scr ns), some (.obj 0), some (.int most), none, none] (town a b :: M) = .nx [some (.scr ns), some (.obj 0), some (.int most), some (.obj (M.length + 1)), none] (town a b :: (M ++ [.lst []])) := rfl
  have hlp := (exec_for (c := c) (t := .one 4) (b := b_law_load_1) (xs := ([1, 2, 3, 4] : List Int).map fun n : Int => D.int n) (ls := []) (σ := [some (.scr ns), some (.obj 0), some (.int most), some (.obj (M.length + 1)), none]) (M := town a b :: (M ++ [.lst []])) (it := .it (.tup (.cons (.c (.int 1)) (.cons (.c (.int 2)) (.cons (.c (.int 3)) (.cons (.c (.int 4)) .nil)))))) rfl).trans l1
  have fin : ∀ (a b : Int) (sz : List Int) (n : Nat) (N : MH), 0 ≤ a → (town a b :: N)[n]? = some (.lst (sz.map D.int)) → n ≠ 0 → sz ≠ [] → sz.length ≤ 3 → sz.Pairwise (· < ·) → (∀ n ∈ sz, 1 ≤ n ∧ n ≤ 4) →
      ∃ live a' b', LoadOk most sz live ∧ 0 ≤ a' ∧ exec c (.ret (.tup (.cons (.bf .tuple (.cons (.v 3) .nil)) (.cons (.bin .add (.idx (.v 3) (.neg (.c (.int 1)))) (.call false 10 (.cons (.v 0) (.cons (.v 1) (.cons (.bin .add (.bin .sub (.v 2) (.idx (.v 3) (.neg (.c (.int 1))))) (.c (.int 1))) .nil))))) .nil)))) [some (.scr ns), some (.obj 0), some (.int most), some (.obj n), j4] (town a b :: N) = .rt (loadD sz live) (town a' b' :: N) := fun a b sz n N ha hg hn hne hl3 hasc hbnd => by
    obtain ⟨y, hy⟩ : ∃ y, sz.getLast? = some y := by
      cases h : sz.getLast? with
      | none => exact absurd (List.getLast?_eq_none_iff.mp h) hne
      | some y => exact ⟨y, rfl⟩
    have hym : y ∈ sz := List.mem_of_getLast? hy
    obtain ⟨hy1, hy4⟩ := hbnd y hym
    have hlast : ∀ a b, ev c (.idx (.v 3) (.neg (.c (.int 1)))) [some (.scr ns), some (.obj 0), some (.int most), some (.obj n), j4] (town a b :: N) = .ok (.int y) (town a b :: N) := fun a b => by
      refine idx_of (v_of rfl) rfl ?_
      have hg2 : (town a b :: N)[n]? = some (.lst (sz.map D.int)) := by
        cases n with
        | zero => exact absurd rfl hn
        | succ n => exact hg
      show R.ofOpt ((Mini.items (town a b :: N) (.obj n)).bind fun xs => Mini.get? xs (-1)) _ = _
      have : Mini.items (town a b :: N) (.obj n) = some (sz.map D.int) := by simp [Mini.items, hg2]
      rw [this]
      show R.ofOpt (Mini.get? (sz.map D.int) (-1)) _ = _
      rw [get_last _ (by simpa using hne), List.getLast?_map, hy]
      rfl
    obtain ⟨v, a', b', w1, w2, w3, w4⟩ := draw a b N (most - y + 1) c.fl c.lk ha nlk (by omega) (by omega)
    refine ⟨y + v, a', b', ⟨⟨by rcases sz with _ | _ <;> simp at hne ⊢, hl3⟩, hasc, hbnd, fun m hm => ?_, by omega⟩, w3, ret_of ?_⟩
    · have : m ≤ y := by
        rw [List.getLast?_eq_some_iff] at hy
        obtain ⟨l, rfl⟩ := hy
        rcases List.mem_append.mp hm with z | z
        · have := (List.pairwise_append.mp hasc).2.2 m z y (by simp); omega
        · have : m = y := by simpa using z
          omega
      omega
    · have ht : ev c (.bf .tuple (.cons (.v 3) .nil)) [some (.scr ns), some (.obj 0), some (.int most), some (.obj n), j4] (town a b :: N) = .ok (.tup (sz.map D.int)) (town a b :: N) := by
        refine bf_of (cons_of (v_of rfl) rfl) ?_
        show R.ofOpt ((Mini.items (town a b :: N) (.obj n)).map D.tup) _ = _
        have : Mini.items (town a b :: N) (.obj n) = some (sz.map D.int) := by simp [Mini.items, hg]
        rw [this]; rfl
      exact cons_of ht (cons_of (bin_of (hlast a b) (call_of (cons_of (v_of rfl) (cons_of (v_of rfl) (cons_of (bin_of (bin_of (v_of rfl) (hlast a b) rfl) rfl rfl) rfl))) w4) rfl) rfl)
  have hnil : eqM (town a2 b2 :: (M ++ [.lst (sz.map D.int)])) (.obj (M.length + 1)) (.lst []) = some (decide (sz = [])) := by
    have e2 : res 20 (town a2 b2 :: (M ++ [.lst (sz.map D.int)])) (.obj (M.length + 1)) = some (lsI sz) := by
      show (match (town a2 b2 :: (M ++ [MO.lst (sz.map D.int)]))[M.length + 1]? with
        | some (.lst xs) => (xs.mapM (res 19 (town a2 b2 :: (M ++ [MO.lst (sz.map D.int)])))).map D.lst
        | some (.dct ks vs) => (ks.mapM (res 19 (town a2 b2 :: (M ++ [MO.lst (sz.map D.int)])))).bind fun ks' => (vs.mapM (res 19 (town a2 b2 :: (M ++ [MO.lst (sz.map D.int)])))).map fun vs' => .dct ks' vs'
        | _ => none) = _
      have hg : (town a2 b2 :: (M ++ [MO.lst (sz.map D.int)]))[M.length + 1]? = some (.lst (sz.map D.int)) := by simp
      rw [hg]
      show ((sz.map D.int).mapM (res 19 _)).map D.lst = _
      rw [res_ints]; rfl
    unfold eqM
    rw [e2]
    show (if (D.isDat.datL (sz.map D.int) && true) = true then some (D.eqv.eqvL (sz.map D.int) []) else none) = _
    rw [dat_ints]
    cases sz <;> rfl
  by_cases hsz : sz = []
  · obtain ⟨v, a3, b3, w1, w2, w3, w4⟩ := draw a2 b2 (M ++ [.lst (sz.map D.int)]) 4 c.fl c.lk ha2 nlk (by decide) (by decide)
    obtain ⟨live, a4, b4, f1, f2, f3⟩ := fin a3 b3 [1 + v] (M.length + 2) (M ++ [.lst (sz.map D.int)] ++ [.lst [.int (1 + v)]]) w3 (by simp) (by omega) (by simp) (by simp) (by simp) (fun n hn => by
      have : n = 1 + v := by simpa using hn
      omega)
    refine ⟨[1 + v], live, a4, b4, [.lst (sz.map D.int)] ++ [.lst [.int (1 + v)]], f1, f2, seq_nx hs1 (seq_nx hlp (seq_nx (σ' := [some (.scr ns), some (.obj 0), some (.int most), some (.obj (M.length + 2)), j4]) (ife_t (M' := town a2 b2 :: (M ++ [.lst (sz.map D.int)])) (cmp_of (v_of rfl) rfl (by rw [← decide_eq_true hsz]; exact hnil)) (asg_of (new_of (lst_of (cons_of (bin_of rfl (call_of rfl w4) rfl) rfl))) ?_)) ?_))⟩
    · simp [Tg.asg]
    · have e : (town a3 b3 :: (M ++ [MO.lst (sz.map D.int)]) ++ [MO.lst [D.int (1 + v)]]) = town a3 b3 :: (M ++ [.lst (sz.map D.int)] ++ [.lst [.int (1 + v)]]) := rfl
      rw [e, f3]
      simp
  · obtain ⟨live, a4, b4, f1, f2, f3⟩ := fin a2 b2 sz (M.length + 1) (M ++ [.lst (sz.map D.int)]) ha2 (by simp) (by omega) hsz hsz3 hasc hbnd
    exact ⟨sz, live, a4, b4, [.lst (sz.map D.int)], f1, f2, seq_nx hs1 (seq_nx hlp (seq_nx (ife_f (M' := town a2 b2 :: (M ++ [.lst (sz.map D.int)])) (cmp_of (v_of rfl) rfl (by rw [← decide_eq_false hsz]; exact hnil)) rfl) f3))⟩
end
end Con
set_option autoImplicit false
set_option maxRecDepth 100000
set_option maxHeartbeats 4000000
namespace Con
open Mini Tx
section
variable {c : Ctx} {σ : Sl} {M M' M'' : MH} {a b d : ME} {x y : Int}
theorem lt_t (ha : ev c a σ M = .ok (.int x) M') (hb : ev c b σ M' = .ok (.int y) M'') (h : x < y) : ev c (.cmp .lt a b) σ M = .ok (.bl true) M'' := cmp_of ha hb (by show some (decide (x < y)) = _; rw [decide_eq_true h])
theorem lt_f (ha : ev c a σ M = .ok (.int x) M') (hb : ev c b σ M' = .ok (.int y) M'') (h : ¬ x < y) : ev c (.cmp .lt a b) σ M = .ok (.bl false) M'' := cmp_of ha hb (by show some (decide (x < y)) = _; rw [decide_eq_false h])
theorem le_t (ha : ev c a σ M = .ok (.int x) M') (hb : ev c b σ M' = .ok (.int y) M'') (h : x ≤ y) : ev c (.cmp .le a b) σ M = .ok (.bl true) M'' := cmp_of ha hb (by show some (decide (x ≤ y)) = _; rw [decide_eq_true h])
theorem le_f (ha : ev c a σ M = .ok (.int x) M') (hb : ev c b σ M' = .ok (.int y) M'') (h : ¬ x ≤ y) : ev c (.cmp .le a b) σ M = .ok (.bl false) M'' := cmp_of ha hb (by show some (decide (x ≤ y)) = _; rw [decide_eq_false h])
theorem gt_t (ha : ev c a σ M = .ok (.int x) M') (hb : ev c b σ M' = .ok (.int y) M'') (h : y < x) : ev c (.cmp .gt a b) σ M = .ok (.bl true) M'' := cmp_of ha hb (by show some (decide (y < x)) = _; rw [decide_eq_true h])
theorem gt_f (ha : ev c a σ M = .ok (.int x) M') (hb : ev c b σ M' = .ok (.int y) M'') (h : ¬ y < x) : ev c (.cmp .gt a b) σ M = .ok (.bl false) M'' := cmp_of ha hb (by show some (decide (y < x)) = _; rw [decide_eq_false h])
theorem ge_t (ha : ev c a σ M = .ok (.int x) M') (hb : ev c b σ M' = .ok (.int y) M'') (h : y ≤ x) : ev c (.cmp .ge a b) σ M = .ok (.bl true) M'' := cmp_of ha hb (by show some (decide (y ≤ x)) = _; rw [decide_eq_true h])
theorem ge_f (ha : ev c a σ M = .ok (.int x) M') (hb : ev c b σ M' = .ok (.int y) M'') (h : ¬ y ≤ x) : ev c (.cmp .ge a b) σ M = .ok (.bl false) M'' := cmp_of ha hb (by show some (decide (y ≤ x)) = _; rw [decide_eq_false h])
theorem eqi_t (ha : ev c a σ M = .ok (.int x) M') (hb : ev c b σ M' = .ok (.int y) M'') (h : x = y) : ev c (.cmp .eq a b) σ M = .ok (.bl true) M'' := cmp_of ha hb (by show some (decide (x = y)) = _; rw [decide_eq_true h])
theorem eqi_f (ha : ev c a σ M = .ok (.int x) M') (hb : ev c b σ M' = .ok (.int y) M'') (h : ¬ x = y) : ev c (.cmp .eq a b) σ M = .ok (.bl false) M'' := cmp_of ha hb (by show some (decide (x = y)) = _; rw [decide_eq_false h])
theorem eqs_t {s t : List Nat} (ha : ev c a σ M = .ok (.str s) M') (hb : ev c b σ M' = .ok (.str t) M'') (h : s = t) : ev c (.cmp .eq a b) σ M = .ok (.bl true) M'' := cmp_of ha hb (by show some (decide (s = t)) = _; rw [decide_eq_true h])
theorem eqs_f {s t : List Nat} (ha : ev c a σ M = .ok (.str s) M') (hb : ev c b σ M' = .ok (.str t) M'') (h : ¬ s = t) : ev c (.cmp .eq a b) σ M = .ok (.bl false) M'' := cmp_of ha hb (by show some (decide (s = t)) = _; rw [decide_eq_false h])
theorem add_of (ha : ev c a σ M = .ok (.int x) M') (hb : ev c b σ M' = .ok (.int y) M'') : ev c (.bin .add a b) σ M = .ok (.int (x + y)) M'' := bin_of ha hb rfl
theorem sub_of (ha : ev c a σ M = .ok (.int x) M') (hb : ev c b σ M' = .ok (.int y) M'') : ev c (.bin .sub a b) σ M = .ok (.int (x - y)) M'' := bin_of ha hb rfl
theorem tup_of {ys : List D} (h : ev c a σ M = .ok (.tup ys) M') : ev c (.tup a) σ M = .ok (.tup ys) M' := h
theorem nil_of : ev c .nil σ M = .ok (.tup []) M := rfl
theorem c_of {e : D} : ev c (.c e) σ M = .ok e M := rfl
theorem it_of {z w : D} (ha : ev c a σ M = .ok z M') (hw : walkOf M' z = some w) : ev c (.it a) σ M = .ok w M' := by
  rw [ev_it, ha]
  show R.ofOpt (walkOf M' z) M' = _
  rw [hw]; rfl
theorem app_of {i n : Nat} {e : D} {xs : List D} (hi : σ[i]? = some (some (.obj n))) (he : ev c a σ M = .ok e M') (hn : M'[n]? = some (.lst xs)) (hlk : n ∉ c.lk) (hp : e.pure = true) (hl : xs.length < 100000) : exec c (.expr (.mt .append (.v i) (.cons a .nil))) σ M = .nx σ (M'.set n (.lst (xs ++ [e]))) := by
  rw [ex_expr, ev_mt, v_of hi]
  show ((ev c (.cons a .nil) σ M).bind fun y M => tupD y fun ys => mth c .append (.obj n) ys M).to σ _ = _
  rw [cons_of he nil_of]
  show (mth c .append (.obj n) [e] M').to σ _ = _
  have : mth c .append (.obj n) [e] M' = .ok .non (M'.set n (.lst (xs ++ [e]))) := by
    simp [mth, objL, hn, one1, appendD, Ctx.may, hlk, hp, hl]
  rw [this]
  rfl
end
theorem g1 (t : MO) (M : MH) (A : MO) (R : MH) : (t :: (M ++ A :: R))[M.length + 1]? = some A := by simp
theorem g2 (t : MO) (M : MH) (A B : MO) (R : MH) : (t :: (M ++ A :: B :: R))[M.length + 2]? = some B := by
  rw [List.getElem?_cons_succ, List.getElem?_append_right (by omega)]
  have : M.length + 1 - M.length = 1 := by omega
  rw [this]; rfl
theorem s1 (t : MO) (M : MH) (A B : MO) (R : MH) : (t :: (M ++ A :: R)).set (M.length + 1) B = t :: (M ++ B :: R) := by simp
theorem s2 (t : MO) (M : MH) (A B C : MO) (R : MH) : (t :: (M ++ A :: B :: R)).set (M.length + 2) C = t :: (M ++ A :: C :: R) := by
  rw [List.set_cons_succ, List.set_append_right _ _ (by omega)]
  have : M.length + 1 - M.length = 1 := by omega
  rw [this]; rfl
theorem objL_of {M : MH} {n : Nat} {xs : List D} (h : M[n]? = some (.lst xs)) (f : Nat → List D → R D) : objL (.obj n) M f = f n xs := by
  unfold objL
  simp [h]
theorem deed_pure (d : Deed) : d.d.pure = true := by cases d <;> rfl
theorem frz_deeds (n0 : Nat) (N : MH) (k : Nat) : ∀ ds : List Deed, (ds.map Deed.d).mapM (frz n0 N (k + 2)) = some (ds.map Deed.d)
  | [] => rfl
  | d :: ds => by
    rw [List.map_cons, List.mapM_cons, frz_deeds n0 N k ds]
    cases d <;> rfl
section
variable {P : MProg} {W k : Nat} {fl : Nat} {lk : List Nat} {M : MH}
theorem row0 (h10 : P.fns.lookup 10 = some d_law_draw) (h11 : P.fns.lookup 11 = some d_law_pick) (h81 : P.fns.lookup 81 = some d_law_row) (ns : List Int) (a b : Int) (ha : 0 ≤ a) (hk : ∀ n ∈ lk, n < M.length + 1) (hlk : 0 ∉ lk) (sizes : List Int) (live lmost : Int) (L : LoadOk lmost sizes live) (most : Int) (hm : 0 ≤ most ∧ most ≤ 40) :
    ∃ ds a' b', RowK sizes live ds ∧ (ds.length : Int) ≤ most ∧ 0 ≤ a' ∧ ∀ (m : Bool) fl, callN P W (k + 3) m 81 [.scr ns, .obj 0, loadD sizes live, .int most] fl lk (town a b :: M) = if m then .ok (.obj (M.length + 1)) (town a' b' :: (M ++ [.lst (ds.map Deed.d)])) else .ok (.lst (ds.map Deed.d)) (town a' b' :: M) := by
  have hL0 : 0 ≤ live := by
    cases hsz : sizes with
    | nil => have := L.len; rw [hsz] at this; simp at this
    | cons n r => have := L.bnd n (by rw [hsz]; simp); have := L.le n (by rw [hsz]; simp); omega
  have hpos : ∀ n ∈ sizes, 1 ≤ n := fun n hn => (L.bnd n hn).1
  suffices hh : ∃ ds a' b' x, RowK sizes live ds ∧ (ds.length : Int) ≤ most ∧ 0 ≤ a' ∧ exec ⟨callN P W (k + 2), fun i => P.gls.lookup i, W, (town a b :: M).length, lk⟩ d_law_row.body [some (.scr ns), some (.obj 0), some (loadD sizes live), some (.int most), none, none, none, none, none, none, none] (town a b :: M) = .rt (.obj (M.length + 1)) (town a' b' :: (M ++ [.lst (ds.map Deed.d), x])) by
    obtain ⟨ds, a', b', x, h1, h2, h3, h4⟩ := hh
    refine ⟨ds, a', b', h1, h2, h3, fun m fl => ?_⟩
    have := call_rtO (P := P) (W := W) (k := k + 2) (fl := fl) (lk := lk) (M := town a b :: M) (as := [.scr ns, .obj 0, loadD sizes live, .int most]) (N := town a' b' :: M) h81 rfl h4 (by simp) (g1 _ _ _ _) (fun N k => frz_deeds _ _ _ ds) (by simp) m
    rw [this]
    cases m <;> rfl
  generalize hc : (⟨callN P W (k + 2), fun i => P.gls.lookup i, W, (town a b :: M).length, lk⟩ : Ctx) = c
  have hcl : c.lk = lk := by subst hc; rfl
  have draw : ∀ (a b : Int) (M : MH) (many : Int) fl lk, 0 ≤ a → 0 ∉ lk → 0 < many → many < 1073741824 → ∃ v a' b', 0 ≤ v ∧ v < many ∧ 0 ≤ a' ∧ c.call false 10 [.scr ns, .obj 0, .int many] fl lk (town a b :: M) = .ok (.int v) (town a' b' :: M) := fun a b M many fl lk ha hlk h1 h2 => by
    subst hc; exact draw0 h10 ns a b M many fl lk ha hlk h1 h2
  have pick : ∀ (a b : Int) (M : MH) (x : D) (xs : List D) fl lk, 0 ≤ a → 0 ∉ lk → (∀ a b, Mini.items (town a b :: M) x = some xs) → ((∀ ms, x ≠ .scr ms) ∧ ∀ s, x ≠ .str s) → (∀ y ∈ xs, PureD y) → 0 < xs.length → xs.length < 1000 → ∃ y a' b', y ∈ xs ∧ 0 ≤ a' ∧ c.call false 11 [.scr ns, .obj 0, x] fl lk (town a b :: M) = .ok y (town a' b' :: M) := fun a b M x xs fl lk ha hlk h1 h2 h3 h4 h5 => by
    subst hc; exact pick0 h10 h11 ns a b ha hlk x xs h1 h2 h3 h4 h5
  have nlk : (0 : Nat) ∉ c.lk := by rw [hcl]; exact hlk
  have n1 : M.length + 1 ∉ c.lk := by rw [hcl]; exact fun z => Nat.lt_irrefl _ (hk _ z)
  have n2 : M.length + 2 ∉ c.lk := by rw [hcl]; exact fun z => by have := hk _ z; omega
  obtain ⟨v, a1, b1, w1, w2, w3, w4⟩ := draw a b (M ++ [.lst [], .lst []]) (most + 1) c.fl c.lk ha nlk (by omega) (by omega)
  have hs1 : exec c (.asg (.many [4, 5, 6, 7]) (.tup (.cons (.new (.lst .nil)) (.cons (.new (.lst .nil)) (.cons (.c (.int 0)) (.cons (.c (.int 0)) .nil)))))) [some (.scr ns), some (.obj 0), some (loadD sizes live), some (.int most), none, none, none, none, none, none, none] (town a b :: M) = .nx [some (.scr ns), some (.obj 0), some (loadD sizes live), some (.int most), some (.obj (M.length + 1)), some (.obj (M.length + 2)), some (.int 0), some (.int 0), none, none, none] (town a b :: (M ++ [.lst [], .lst []])) := by
    refine asg_of (v := .tup [.obj (M.length + 1), .obj (M.length + 2), .int 0, .int 0]) (tup_of (cons_of (new_of (lst_of nil_of)) ?_)) rfl
    have e : ((town a b :: M) ++ [MO.lst []]).length = M.length + 2 := by simp
    refine (cons_of (new_of (lst_of nil_of)) (cons_of c_of (cons_of c_of nil_of))).trans ?_
    rw [e]; simp
  have hit := rng_of (c := c) (a := .call false 10 (.cons (.v 0) (.cons (.v 1) (.cons (.bin .add (.v 3) (.c (.int 1))) .nil)))) (σ := [some (.scr ns), some (.obj 0), some (loadD sizes live), some (.int most), some (.obj (M.length + 1)), some (.obj (M.length + 2)), some (.int 0), some (.int 0), none, none, none]) (M := town a b :: (M ++ [.lst [], .lst []])) (call_of (cons_of (v_of rfl) (cons_of (v_of rfl) (cons_of (add_of (v_of rfl) c_of) nil_of))) w4) w1 (by omega)
  obtain ⟨σ', M', l1, a2, b2, ds, j8, j9, j10, ha2, rfl, rfl, R, hlen⟩ := loop_inv (f := turn (c.lock (locks [])) (.one 8) b_law_row_1) (fun (k : Nat) => D.int (0 + (k : Int) * 1))
    (fun r σ N => ∃ (a b : Int) (ds : List Deed) (j8 j9 j10 : Option D), 0 ≤ a ∧ σ = [some (.scr ns), some (.obj 0), some (loadD sizes live), some (.int most), some (.obj (M.length + 1)), some (.obj (M.length + 2)), some (.int (aliveP ds).2), some (.int (liveP ds)), j8, j9, j10] ∧ N = town a b :: (M ++ [.lst (ds.map Deed.d), .lst ((aliveP ds).1.map pairD)]) ∧ RowK sizes live ds ∧ (ds.length : Int) + r.length ≤ most)
    (List.range v.toNat) [some (.scr ns), some (.obj 0), some (loadD sizes live), some (.int most), some (.obj (M.length + 1)), some (.obj (M.length + 2)), some (.int 0), some (.int 0), none, none, none] (town a1 b1 :: (M ++ [.lst [], .lst []])) ⟨a1, b1, [], none, none, none, w3, rfl, rfl, rowK_nil hL0, by simp; omega⟩ (by
      rintro i r σ N ⟨a, b, ds, j8, j9, j10, ha, rfl, rfl, R, hlen⟩
      have hlen40 : (ds.length : Int) + r.length + 1 ≤ 40 := by simp at hlen; omega
      have hal : (aliveP ds).1.length ≤ 1000 := by
        have hnum := R.num
        have : ∀ (l : List (Int × Int)) (m : Int), l.Pairwise (fun p q => p.1 < q.1) → (∀ p ∈ l, m ≤ p.1 ∧ p.1 < (aliveP ds).2) → (l.length : Int) ≤ max 0 ((aliveP ds).2 - m) := fun l => by
          induction l with
          | nil => intro m _ _; simp; omega
          | cons p l ih =>
            intro m hp hb
            have hp' := List.pairwise_cons.mp hp
            have hh := hb p List.mem_cons_self
            have := ih (p.1 + 1) hp'.2 fun q hq => ⟨by have := hp'.1 q hq; omega, (hb q (List.mem_cons_of_mem _ hq)).2⟩
            simp; omega
        obtain ⟨g, _, _, g3⟩ := R.grow
        have := this (aliveP ds).1 0 R.asc fun p hp => ⟨(g3 p hp).1, (g3 p hp).2.1⟩
        omega
      generalize hd : c.lock (locks []) = d
      have hdl : d.lk = c.lk := by subst hd; rfl
      have hdc : d.call = c.call := by subst hd; rfl
      show ∃ σ' M', (exec d b_law_row_1 [some (.scr ns), some (.obj 0), some (loadD sizes live), some (.int most), some (.obj (M.length + 1)), some (.obj (M.length + 2)), some (.int (aliveP ds).2), some (.int (liveP ds)), some (.int (0 + (i : Int) * 1)), j9, j10] (town a b :: (M ++ [.lst (ds.map Deed.d), .lst ((aliveP ds).1.map pairD)])) = .nx σ' M' ∨ exec d b_law_row_1 [some (.scr ns), some (.obj 0), some (loadD sizes live), some (.int most), some (.obj (M.length + 1)), some (.obj (M.length + 2)), some (.int (aliveP ds).2), some (.int (liveP ds)), some (.int (0 + (i : Int) * 1)), j9, j10] (town a b :: (M ++ [.lst (ds.map Deed.d), .lst ((aliveP ds).1.map pairD)])) = .ct σ' M') ∧ _
      generalize hx8 : (some (D.int (0 + (i : Int) * 1)) : Option D) = x8
      obtain ⟨y, a3, b3, y1, y2, y3⟩ := pick a b (M ++ [.lst (ds.map Deed.d), .lst ((aliveP ds).1.map pairD)]) (.tup (sizes.map D.int)) (sizes.map D.int) d.fl d.lk ha (by rw [hdl]; exact nlk) (fun _ _ => rfl) ⟨fun _ z => (by cases z), fun _ z => (by cases z)⟩ (fun y hy => by obtain ⟨n, _, rfl⟩ := List.mem_map.mp hy; exact pure_int n) (by rw [List.length_map]; exact L.len.1) (by rw [List.length_map]; have := L.len.2; omega)
      obtain ⟨n, hn, rfl⟩ := List.mem_map.mp y1
      rw [← hdc] at y3
      have hnb := L.bnd n hn
      have st1 : exec d (.asg (.one 9) (.call false 11 (.cons (.v 0) (.cons (.v 1) (.cons (.idx (.v 2) (.c (.int 0))) .nil))))) [some (.scr ns), some (.obj 0), some (loadD sizes live), some (.int most), some (.obj (M.length + 1)), some (.obj (M.length + 2)), some (.int (aliveP ds).2), some (.int (liveP ds)), x8, j9, j10] (town a b :: (M ++ [.lst (ds.map Deed.d), .lst ((aliveP ds).1.map pairD)])) = .nx [some (.scr ns), some (.obj 0), some (loadD sizes live), some (.int most), some (.obj (M.length + 1)), some (.obj (M.length + 2)), some (.int (aliveP ds).2), some (.int (liveP ds)), x8, some (.int n), j10] (town a3 b3 :: (M ++ [.lst (ds.map Deed.d), .lst ((aliveP ds).1.map pairD)])) :=
        asg_of (call_of (cons_of (v_of rfl) (cons_of (v_of rfl) (cons_of (idx_of (v_of rfl) c_of rfl) nil_of))) y3) rfl
      clear y1 y3
      generalize hS : ([some (.scr ns), some (.obj 0), some (loadD sizes live), some (.int most), some (.obj (M.length + 1)), some (.obj (M.length + 2)), some (.int (aliveP ds).2), some (.int (liveP ds)), x8, some (.int n), j10] : Sl) = S at st1
      have v4 : S[4]? = some (some (.obj (M.length + 1))) := by subst hS; rfl
      have v5 : S[5]? = some (some (.obj (M.length + 2))) := by subst hS; rfl
      have v6 : S[6]? = some (some (.int (aliveP ds).2)) := by subst hS; rfl
      have v7 : S[7]? = some (some (.int (liveP ds))) := by subst hS; rfl
      have v9 : S[9]? = some (some (.int n)) := by subst hS; rfl
      have tnil : ∀ a b, ev d (.cmp .ne (.v 5) (.lst .nil)) S (town a b :: (M ++ [.lst (ds.map Deed.d), .lst ((aliveP ds).1.map pairD)])) = .ok (.bl (!decide ((aliveP ds).1 = []))) (town a b :: (M ++ [.lst (ds.map Deed.d), .lst ((aliveP ds).1.map pairD)])) := fun a b => by
        refine cmp_of (v_of v5) (lst_of nil_of) ?_
        show (eqM _ (.obj (M.length + 2)) (.lst [])).map (!·) = _
        rw [eqM_nilP _ (M.length + 2) (aliveP ds).1 (g2 _ _ _ _ _)]; rfl
      have e1 : ∀ N, ev d (.idx (.v 2) (.c (.int 1))) S N = .ok (.int live) N := fun N => by subst hS; rfl
      have esum : ∀ N, ev d (.bin .add (.v 7) (.v 9)) S N = .ok (.int (liveP ds + n)) N := fun N => add_of (v_of v7) (v_of v9)
      have ask : ∀ a b, 0 ≤ a → ∃ σ' M', exec d (.ife (.cmp .le (.bin .add (.v 7) (.v 9)) (.idx (.v 2) (.c (.int 1)))) (.seq (.expr (.mt .append (.v 4) (.cons (.tup (.cons (.c (.str [97, 115, 107])) (.cons (.v 9) .nil))) .nil))) (.seq (.expr (.mt .append (.v 5) (.cons (.tup (.cons (.v 6) (.cons (.v 9) .nil))) .nil))) (.asg (.many [6, 7]) (.tup (.cons (.bin .add (.v 6) (.c (.int 1))) (.cons (.bin .add (.v 7) (.v 9)) .nil)))))) .skip) S (town a b :: (M ++ [.lst (ds.map Deed.d), .lst ((aliveP ds).1.map pairD)])) = .nx σ' M' ∧
          ∃ (a b : Int) (ds : List Deed) (j8 j9 j10 : Option D), 0 ≤ a ∧ σ' = [some (.scr ns), some (.obj 0), some (loadD sizes live), some (.int most), some (.obj (M.length + 1)), some (.obj (M.length + 2)), some (.int (aliveP ds).2), some (.int (liveP ds)), j8, j9, j10] ∧ M' = town a b :: (M ++ [.lst (ds.map Deed.d), .lst ((aliveP ds).1.map pairD)]) ∧ RowK sizes live ds ∧ (ds.length : Int) + r.length ≤ most := fun a b ha => by
        by_cases hle : liveP ds + n ≤ live
        · have hal1 : (aliveP (ds ++ [.ask n])) = ((aliveP ds).1 ++ [((aliveP ds).2, n)], (aliveP ds).2 + 1) := alive_snoc ds _
          have hlv : liveP (ds ++ [.ask n]) = liveP ds + n := by
            unfold liveP
            rw [hal1]
            simp
          refine ⟨[some (.scr ns), some (.obj 0), some (loadD sizes live), some (.int most), some (.obj (M.length + 1)), some (.obj (M.length + 2)), some (.int ((aliveP ds).2 + 1)), some (.int (liveP ds + n)), x8, some (.int n), j10], town a b :: (M ++ [.lst ((ds ++ [Deed.ask n]).map Deed.d), .lst (((aliveP ds).1 ++ [((aliveP ds).2, n)]).map pairD)]), ife_t (le_t (esum _) (e1 _) hle) (seq_nx (σ' := S) (M' := town a b :: (M ++ [.lst ((ds ++ [Deed.ask n]).map Deed.d), .lst ((aliveP ds).1.map pairD)])) ?_ (seq_nx (σ' := S) (M' := town a b :: (M ++ [.lst ((ds ++ [Deed.ask n]).map Deed.d), .lst (((aliveP ds).1 ++ [((aliveP ds).2, n)]).map pairD)])) ?_ (asg_of (v := .tup [.int ((aliveP ds).2 + 1), .int (liveP ds + n)]) (tup_of (cons_of (add_of (v_of v6) c_of) (cons_of (esum _) nil_of))) ?_))), a, b, ds ++ [.ask n], x8, some (.int n), j10, ha, ?_, ?_, R.ask hn hnb hle, by simp at hlen ⊢; omega⟩
          · refine (app_of (e := Deed.d (.ask n)) (xs := ds.map Deed.d) v4 (tup_of (cons_of c_of (cons_of (v_of v9) nil_of))) (g1 _ _ _ _) (by rw [hdl]; exact n1) rfl (by rw [List.length_map]; omega)).trans ?_
            rw [s1, List.map_append]; rfl
          · refine (app_of (e := pairD ((aliveP ds).2, n)) (xs := (aliveP ds).1.map pairD) v5 (tup_of (cons_of (v_of v6) (cons_of (v_of v9) nil_of))) (g2 _ _ _ _ _) (by rw [hdl]; exact n2) rfl (by rw [List.length_map]; omega)).trans ?_
            rw [s2, List.map_append (f := pairD)]; rfl
          · subst hS; rfl
          · rw [hal1, hlv]
          · rw [hal1]
        · refine ⟨S, _, ife_f (le_f (esum _) (e1 _) hle) rfl, a, b, ds, x8, some (.int n), j10, ha, hS.symm, rfl, R, by simp at hlen; omega⟩
      by_cases hne : (aliveP ds).1 = []
      · obtain ⟨σ', M', o1, o2⟩ := ask a3 b3 y2
        refine ⟨σ', M', .inl (seq_nx st1 (ife_f (and_f_of ((tnil a3 b3).trans (by rw [decide_eq_true hne]; rfl))) o1)), o2⟩
      · -- a free
        have free : ∀ a b, 0 ≤ a → ∃ σ' M', exec d (.seq (.asg (.one 10) (.call false 11 (.cons (.v 0) (.cons (.v 1) (.cons (.v 5) .nil))))) (.seq (.expr (.mt .append (.v 4) (.cons (.tup (.cons (.c (.str [102, 114, 101, 101])) (.cons (.idx (.v 10) (.c (.int 0))) .nil))) .nil))) (.seq (.expr (.mt .remove (.v 5) (.cons (.v 10) .nil))) (.asg (.one 7) (.bin .sub (.v 7) (.idx (.v 10) (.c (.int 1)))))))) S (town a b :: (M ++ [.lst (ds.map Deed.d), .lst ((aliveP ds).1.map pairD)])) = .nx σ' M' ∧
            ∃ (a b : Int) (ds : List Deed) (j8 j9 j10 : Option D), 0 ≤ a ∧ σ' = [some (.scr ns), some (.obj 0), some (loadD sizes live), some (.int most), some (.obj (M.length + 1)), some (.obj (M.length + 2)), some (.int (aliveP ds).2), some (.int (liveP ds)), j8, j9, j10] ∧ M' = town a b :: (M ++ [.lst (ds.map Deed.d), .lst ((aliveP ds).1.map pairD)]) ∧ RowK sizes live ds ∧ (ds.length : Int) + r.length ≤ most := fun a b ha => by
          obtain ⟨y, a4, b4, z1, z2, z3⟩ := pick a b (M ++ [.lst (ds.map Deed.d), .lst ((aliveP ds).1.map pairD)]) (.obj (M.length + 2)) ((aliveP ds).1.map pairD) d.fl d.lk ha (by rw [hdl]; exact nlk) (fun a b => by
            show (match (town a b :: (M ++ [.lst (ds.map Deed.d), .lst ((aliveP ds).1.map pairD)]))[M.length + 2]? with | some (.lst xs) => some xs | _ => none) = _
            rw [g2]) ⟨fun _ z => (by cases z), fun _ z => (by cases z)⟩ (fun y hy => by obtain ⟨p, _, rfl⟩ := List.mem_map.mp hy; exact pure_pair p) (by rw [List.length_map]; exact List.length_pos_iff.mpr hne) (by
              rw [List.length_map]
              have := hal
              have hnum := R.num
              have h40 : (aliveP ds).1.length ≤ 41 := by
                have : ∀ (l : List (Int × Int)) (m : Int), l.Pairwise (fun p q => p.1 < q.1) → (∀ p ∈ l, m ≤ p.1 ∧ p.1 < (aliveP ds).2) → (l.length : Int) ≤ max 0 ((aliveP ds).2 - m) := fun l => by
                  induction l with
                  | nil => intro m _ _; simp; omega
                  | cons p l ih =>
                    intro m hp hb
                    have hp' := List.pairwise_cons.mp hp
                    have hh := hb p List.mem_cons_self
                    have := ih (p.1 + 1) hp'.2 fun q hq => ⟨by have := hp'.1 q hq; omega, (hb q (List.mem_cons_of_mem _ hq)).2⟩
                    simp; omega
                obtain ⟨g, _, _, g3⟩ := R.grow
                have := this (aliveP ds).1 0 R.asc fun p hp => ⟨(g3 p hp).1, (g3 p hp).2.1⟩
                omega
              omega)
          obtain ⟨p, hp, rfl⟩ := List.mem_map.mp z1
          rw [← hdc] at z3
          have hal1 : (aliveP (ds ++ [.free p.1])) = ((aliveP ds).1.filter (fun q => decide (q.1 ≠ p.1)), (aliveP ds).2) := alive_snoc ds _
          obtain ⟨kk, f1, f2⟩ := erase_pair R.asc hp
          have hlv : liveP (ds ++ [.free p.1]) = liveP ds - p.2 := by
            unfold liveP
            rw [hal1]
            show (((aliveP ds).1.filter fun q => decide (q.1 ≠ p.1)).map (·.2)).sum = _
            have : ∀ (l : List (Int × Int)), l.Pairwise (fun p q => p.1 < q.1) → p ∈ l → ((l.filter fun q => decide (q.1 ≠ p.1)).map (·.2)).sum = (l.map (·.2)).sum - p.2 := fun l => by
              induction l with
              | nil => intro _ h; cases h
              | cons q l ih =>
                intro ha hm
                have ha' := List.pairwise_cons.mp ha
                rw [List.filter_cons]
                rcases List.mem_cons.mp hm with rfl | hm
                · rw [if_neg (by simp), filter_all]
                  · simp; omega
                  · intro x hx; have := ha'.1 x hx; simp; omega
                · have := ha'.1 p hm
                  rw [if_pos (by simp; omega)]
                  have := ih ha'.2 hm
                  simp at this ⊢; omega
            exact this _ R.asc hp
          generalize hS2 : ([some (.scr ns), some (.obj 0), some (loadD sizes live), some (.int most), some (.obj (M.length + 1)), some (.obj (M.length + 2)), some (.int (aliveP ds).2), some (.int (liveP ds)), x8, some (.int n), some (pairD p)] : Sl) = S2
          have st2 : exec d (.asg (.one 10) (.call false 11 (.cons (.v 0) (.cons (.v 1) (.cons (.v 5) .nil))))) S (town a b :: (M ++ [.lst (ds.map Deed.d), .lst ((aliveP ds).1.map pairD)])) = .nx S2 (town a4 b4 :: (M ++ [.lst (ds.map Deed.d), .lst ((aliveP ds).1.map pairD)])) := by
            refine asg_of (call_of (cons_of (v_of (by subst hS; rfl)) (cons_of (v_of (by subst hS; rfl)) (cons_of (v_of v5) nil_of))) z3) ?_
            subst hS hS2; rfl
          have u4 : S2[4]? = some (some (.obj (M.length + 1))) := by subst hS2; rfl
          have u5 : S2[5]? = some (some (.obj (M.length + 2))) := by subst hS2; rfl
          have u7 : S2[7]? = some (some (.int (liveP ds))) := by subst hS2; rfl
          have u10 : S2[10]? = some (some (pairD p)) := by subst hS2; rfl
          have i0 : ∀ N, ev d (.idx (.v 10) (.c (.int 0))) S2 N = .ok (.int p.1) N := fun N => idx_of (v_of u10) c_of rfl
          have i1 : ∀ N, ev d (.idx (.v 10) (.c (.int 1))) S2 N = .ok (.int p.2) N := fun N => idx_of (v_of u10) c_of rfl
          refine ⟨[some (.scr ns), some (.obj 0), some (loadD sizes live), some (.int most), some (.obj (M.length + 1)), some (.obj (M.length + 2)), some (.int (aliveP ds).2), some (.int (liveP ds - p.2)), x8, some (.int n), some (pairD p)], town a4 b4 :: (M ++ [.lst ((ds ++ [Deed.free p.1]).map Deed.d), .lst (((aliveP ds).1.filter fun q => decide (q.1 ≠ p.1)).map pairD)]), seq_nx st2 (seq_nx (σ' := S2) (M' := town a4 b4 :: (M ++ [.lst ((ds ++ [Deed.free p.1]).map Deed.d), .lst ((aliveP ds).1.map pairD)])) ?_ (seq_nx (σ' := S2) (M' := town a4 b4 :: (M ++ [.lst ((ds ++ [Deed.free p.1]).map Deed.d), .lst (((aliveP ds).1.filter fun q => decide (q.1 ≠ p.1)).map pairD)])) ?_ (asg_of (v := .int (liveP ds - p.2)) (sub_of (v_of u7) (i1 _)) ?_))), a4, b4, ds ++ [.free p.1], x8, some (.int n), some (pairD p), z2, ?_, ?_, R.free hpos hp (by omega), by simp at hlen ⊢; omega⟩
          · refine (app_of (e := Deed.d (.free p.1)) (xs := ds.map Deed.d) u4 (tup_of (cons_of c_of (cons_of (i0 _) nil_of))) (g1 _ _ _ _) (by rw [hdl]; exact n1) rfl (by rw [List.length_map]; omega)).trans ?_
            rw [s1, List.map_append]; rfl
          · rw [ex_expr, ev_mt, v_of u5]
            show ((ev d (.cons (.v 10) .nil) S2 _).bind fun y N => tupD y fun ys => mth d .remove (.obj (M.length + 2)) ys N).to _ _ = _
            rw [cons_of (v_of u10) nil_of]
            show (mth d .remove (.obj (M.length + 2)) [pairD p] _).to _ _ = _
            have hfd : findD (town a4 b4 :: (M ++ [.lst ((ds ++ [Deed.free p.1]).map Deed.d), .lst ((aliveP ds).1.map pairD)])) ((aliveP ds).1.map pairD) (pairD p) = some kk := by
              unfold findD
              have r1 : res 20 (town a4 b4 :: (M ++ [.lst ((ds ++ [Deed.free p.1]).map Deed.d), .lst ((aliveP ds).1.map pairD)])) (.lst ((aliveP ds).1.map pairD)) = some (.lst ((aliveP ds).1.map pairD)) := by
                show (((aliveP ds).1.map pairD).mapM (res 19 _)).map D.lst = _
                rw [res_pairs 18]; rfl
              rw [r1]
              show (if (true && D.isDat.datL ((aliveP ds).1.map pairD)) = true then ((aliveP ds).1.map pairD).findIdx? (fun b => D.eqv b (pairD p)) else none) = _
              rw [dat_pairs, find_pair]
              exact f1
            have hmth : mth d .remove (.obj (M.length + 2)) [pairD p] (town a4 b4 :: (M ++ [.lst ((ds ++ [Deed.free p.1]).map Deed.d), .lst ((aliveP ds).1.map pairD)])) = .ok .non (town a4 b4 :: (M ++ [.lst ((ds ++ [Deed.free p.1]).map Deed.d), .lst (((aliveP ds).1.filter fun q => decide (q.1 ≠ p.1)).map pairD)])) := by
              show objL (.obj (M.length + 2)) _ (fun n xs => one1 [pairD p] fun x => removeD d n xs x _) = _
              rw [objL_of (g2 _ _ _ _ _)]
              show removeD d (M.length + 2) ((aliveP ds).1.map pairD) (pairD p) _ = _
              unfold removeD
              rw [hfd]
              have hmay : d.may (M.length + 2) .non = true := by
                have : M.length + 2 ∉ d.lk := by rw [hdl]; exact n2
                simp [Ctx.may, this, D.pure]
              show (if d.may (M.length + 2) .non = true then Mini.R.ok D.non ((town a4 b4 :: (M ++ [MO.lst ((ds ++ [Deed.free p.1]).map Deed.d), .lst ((aliveP ds).1.map pairD)])).set (M.length + 2) (.lst (((aliveP ds).1.map pairD).eraseIdx kk))) else .stuck) = _
              rw [hmay, s2]
              have : ((aliveP ds).1.map pairD).eraseIdx kk = ((aliveP ds).1.eraseIdx kk).map pairD := by
                have : ∀ (l : List (Int × Int)) (k : Nat), (l.map pairD).eraseIdx k = (l.eraseIdx k).map pairD := fun l => by
                  induction l with
                  | nil => intro k; rfl
                  | cons x l ih => intro k; cases k with
                    | zero => rfl
                    | succ k => simp [ih]
                exact this _ _
              rw [this, f2]
              rfl
            rw [hmth]
            rfl
          · subst hS2; rfl
          · rw [hal1, hlv]
          · rw [hal1]
        by_cases hgt : live < liveP ds + n
        · obtain ⟨σ', M', o1, o2⟩ := free a3 b3 y2
          exact ⟨σ', M', .inl (seq_nx st1 (ife_t (and_t_of ((tnil a3 b3).trans (by rw [decide_eq_false hne]; rfl)) (or_t_of (gt_t (esum _) (e1 _) hgt))) o1)), o2⟩
        · obtain ⟨v', a5, b5, q1, q2, q3, q4⟩ := draw a3 b3 (M ++ [.lst (ds.map Deed.d), .lst ((aliveP ds).1.map pairD)]) 5 d.fl d.lk y2 (by rw [hdl]; exact nlk) (by decide) (by decide)
          rw [← hdc] at q4
          have ecall : ev d (.call false 10 (.cons (.v 0) (.cons (.v 1) (.cons (.c (.int 5)) .nil)))) S (town a3 b3 :: (M ++ [.lst (ds.map Deed.d), .lst ((aliveP ds).1.map pairD)])) = .ok (.int v') (town a5 b5 :: (M ++ [.lst (ds.map Deed.d), .lst ((aliveP ds).1.map pairD)])) := call_of (cons_of (v_of (by subst hS; rfl)) (cons_of (v_of (by subst hS; rfl)) (cons_of c_of nil_of))) q4
          by_cases hv2 : v' < 2
          · obtain ⟨σ', M', o1, o2⟩ := free a5 b5 q3
            exact ⟨σ', M', .inl (seq_nx st1 (ife_t (and_t_of ((tnil a3 b3).trans (by rw [decide_eq_false hne]; rfl)) (or_f_of (gt_f (esum _) (e1 _) hgt) (lt_t ecall c_of hv2))) o1)), o2⟩
          · obtain ⟨σ', M', o1, o2⟩ := ask a5 b5 q3
            exact ⟨σ', M', .inl (seq_nx st1 (ife_f (and_t_of ((tnil a3 b3).trans (by rw [decide_eq_false hne]; rfl)) (or_f_of (gt_f (esum _) (e1 _) hgt) (lt_f ecall c_of hv2))) o1)), o2⟩)
  exact ⟨ds, a2, b2, _, R, by simpa using hlen, ha2, seq_nx hs1 (seq_nx ((exec_for hit).trans l1) (ret_of (v_of rfl)))⟩
end
end Con
set_option autoImplicit false
set_option maxRecDepth 100000
set_option maxHeartbeats 4000000
namespace Con
open Mini Tx
theorem good_mem {cells n : Int} {l : List (Int × Int)} {h : Int × Int} (hh : h ∈ goodH cells l n) : h ∈ holesP cells l ∧ n ≤ h.2 := by
  have := List.mem_filter.mp hh
  exact ⟨this.1, by have := this.2; simpa using this⟩
theorem pick_good {r : Rl} {good : List (Int × Int)} {mk : List Int} {n : Int} {h : Int × Int} (hp : pickP r good mk n = some h) : h ∈ good := by
  have hd : ∀ (l : List (Int × Int)), l.head? = some h → h ∈ l := fun l e => List.mem_of_head? e
  cases r with
  | best => exact (List.mem_filter.mp (hd _ hp)).1
  | worst => exact (List.mem_filter.mp (hd _ hp)).1
  | newest =>
    obtain ⟨s, _, h2⟩ := List.mem_flatMap.mp (hd _ hp)
    exact (List.mem_filter.mp h2).1
  | ends b =>
    have hp : (if n > b then good.getLast? else good.head?) = some h := hp
    split at hp
    · exact List.mem_of_getLast? hp
    · exact hd _ hp
  | _ => exact hd _ hp
theorem fOpen_ok {n least : Int} : ∀ {hs : List (Int × Int)} {x : Int}, fOpen n least hs = some x → ∃ h ∈ hs, h.1 ≤ x ∧ x + n ≤ h.1 + h.2
  | (s, m) :: r, x, e => by
    have e : (if (if least > s then least else s) + n ≤ s + m then some (if least > s then least else s) else fOpen n least r) = some x := e
    by_cases hc : (if least > s then least else s) + n ≤ s + m
    · rw [if_pos hc] at e
      injection e with e
      refine ⟨(s, m), List.mem_cons_self, ?_, by rw [← e]; exact hc⟩
      rw [← e]
      show s ≤ if least > s then least else s
      split <;> omega
    · rw [if_neg hc] at e
      obtain ⟨h, h1, h2⟩ := fOpen_ok e
      exact ⟨h, List.mem_cons_of_mem _ h1, h2⟩
  | [], x, e => by cases e
theorem placed_hole {r : Rl} (hh : r.hole = true) {cells n x : Int} {l : List (Int × Int)} {mk : Mk} (hp : placeH r cells l mk n = some (some x)) : ∃ h ∈ holesP cells l, h.1 ≤ x ∧ x + n ≤ h.1 + h.2 := by
  by_cases hn : r = .next
  · subst hn
    have hp : some (match fOpen n mk.int (holesP cells l) with | none => fOpen n 0 (holesP cells l) | some a => some a) = some (some x) := hp
    cases h1 : fOpen n mk.int (holesP cells l) with
    | none =>
      rw [h1] at hp
      have hp : some (fOpen n 0 (holesP cells l)) = some (some x) := hp
      injection hp with hp
      exact fOpen_ok hp
    | some a =>
      rw [h1] at hp
      cases hp
      exact fOpen_ok h1
  · have hp2 : (if goodH cells l n = [] then some none else (pickP r (goodH cells l n) mk.list n).map fun h => some (outP r n h)) = some (some x) := by
      cases r <;> first | exact absurd rfl hn | exact hp | cases hh
    by_cases hg : goodH cells l n = []
    · rw [if_pos hg] at hp2; cases hp2
    · rw [if_neg hg] at hp2
      cases hpk : pickP r (goodH cells l n) mk.list n with
      | none => rw [hpk] at hp2; cases hp2
      | some h =>
        rw [hpk] at hp2
        have e : outP r n h = x := by cases hp2; rfl
        obtain ⟨h1, h2⟩ := good_mem (pick_good hpk)
        refine ⟨h, h1, ?_⟩
        rw [← e]
        unfold outP
        split
        · split <;> omega
        · omega
theorem placed_free {r : Rl} (hh : r.hole = true) {cells n x : Int} {l : List (Int × Int)} {mk : Mk} (hl : Lay cells l) (hn : 1 ≤ n) (hp : placeH r cells l mk n = some (some x)) : 0 ≤ x ∧ x + n ≤ cells ∧ freeI l x n := by
  obtain ⟨h, h1, h2, h3⟩ := placed_hole hh hp
  have h0 : 0 ≤ x := by have := (holes_F cells l 0 hl).mem h h1; omega
  have := (hole_iff hn l 0 hl h0).mpr ⟨h, h1, h2, h3⟩
  exact ⟨h0, this.1, this.2⟩
theorem good_nil_iff {cells n : Int} {l : List (Int × Int)} : goodH cells l n = [] ↔ ∀ h ∈ holesP cells l, h.2 < n := by
  unfold goodH
  rw [List.filter_eq_nil_iff]
  constructor
  · intro h g hg
    have := h g hg
    simp at this; omega
  · intro h g hg
    have := h g hg
    simp; omega
structure RunI (cells : Int) (pre : List Deed) (s : RSt) : Prop where
  lay : Lay cells s.l
  len : (s.found.length : Int) = (aliveP pre).2
  fwd : ∀ p ∈ (aliveP pre).1, 0 ≤ p.1 ∧ ∃ x, Mini.get? s.found p.1 = some x ∧ (x, p.2) ∈ s.l
  bwd : ∀ b ∈ s.l, ∃ p ∈ (aliveP pre).1, Mini.get? s.found p.1 = some b.1 ∧ p.2 = b.2
  inj : ∀ p ∈ (aliveP pre).1, ∀ q ∈ (aliveP pre).1, Mini.get? s.found p.1 = Mini.get? s.found q.1 → p.1 = q.1
theorem runI_nil {cells : Int} {mk : Mk} (h : 0 ≤ cells) : RunI cells [] ⟨[], [], mk⟩ :=
  ⟨h, rfl, fun _ z => (by cases z), fun _ z => (by cases z), fun _ z => (by cases z)⟩
theorem Lay.ne {cells : Int} {l : List (Int × Int)} (h : Lay cells l) {x n : Int} (hn : 1 ≤ n) (hf : freeI l x n) : ∀ b ∈ l, b.1 ≠ x := fun b hb e => by
  have := LayF.mem h b hb
  rcases hf b hb with z | z <;> omega
theorem RunI.ask {cells : Int} {pre : List Deed} {s : RSt} (R : RunI cells pre s) {n x : Int} {mk : Mk} (hn : 1 ≤ n) (h0 : 0 ≤ x) (hx : x + n ≤ cells) (hf : freeI s.l x n) : RunI cells (pre ++ [.ask n]) ⟨s.found ++ [x], sortP (s.l ++ [(x, n)]), mk⟩ := by
  have e : aliveP (pre ++ [.ask n]) = ((aliveP pre).1 ++ [((aliveP pre).2, n)], (aliveP pre).2 + 1) := alive_snoc pre _
  have hne := R.lay.ne hn hf
  have hnew : Mini.get? (s.found ++ [x]) (aliveP pre).2 = some x := by rw [← R.len]; exact get_new _ _
  have hold : ∀ p ∈ (aliveP pre).1, Mini.get? (s.found ++ [x]) p.1 = Mini.get? s.found p.1 := fun p hp => by
    obtain ⟨p0, y, hy, _⟩ := R.fwd p hp
    rw [hy]; exact get_app x hy p0
  refine ⟨R.lay.put hn hx h0 hf, ?_, fun p hp => ?_, fun b hb => ?_, fun p hp q hq hpq => ?_⟩
  · rw [e]; show ((s.found ++ [x]).length : Int) = (aliveP pre).2 + 1
    rw [← R.len]; simp
  · rw [e] at hp
    rcases List.mem_append.mp hp with z | z
    · obtain ⟨p0, y, hy, hm⟩ := R.fwd p z
      exact ⟨p0, y, get_app x hy p0, (put_mem R.lay hn hx h0 hf _).mpr (.inl hm)⟩
    · have : p = ((aliveP pre).2, n) := by simpa using z
      subst this
      refine ⟨by show 0 ≤ (aliveP pre).2; rw [← R.len]; omega, x, hnew, (put_mem R.lay hn hx h0 hf _).mpr (.inr rfl)⟩
  · rw [e]
    rcases (put_mem R.lay hn hx h0 hf b).mp hb with z | z
    · obtain ⟨p, hp, h1, h2⟩ := R.bwd b z
      exact ⟨p, List.mem_append_left _ hp, (hold p hp).trans h1, h2⟩
    · subst z
      exact ⟨((aliveP pre).2, n), List.mem_append_right _ List.mem_cons_self, hnew, rfl⟩
  · rw [e] at hp hq
    rcases List.mem_append.mp hp with z | z <;> rcases List.mem_append.mp hq with w | w
    · rw [hold p z, hold q w] at hpq
      exact R.inj p z q w hpq
    · have : q = ((aliveP pre).2, n) := by simpa using w
      subst this
      obtain ⟨_, y, hy, hm⟩ := R.fwd p z
      rw [hold p z, hy, hnew] at hpq
      cases hpq
      exact absurd rfl (hne _ hm)
    · have : p = ((aliveP pre).2, n) := by simpa using z
      subst this
      obtain ⟨_, y, hy, hm⟩ := R.fwd q w
      rw [hold q w, hy, hnew] at hpq
      cases hpq
      exact absurd rfl (hne _ hm)
    · have h1 : p = ((aliveP pre).2, n) := by simpa using z
      have h2 : q = ((aliveP pre).2, n) := by simpa using w
      rw [h1, h2]
theorem Lay.start_inj {cells : Int} : ∀ {l : List (Int × Int)} {a : Int}, LayF cells a l → ∀ b ∈ l, ∀ c ∈ l, b.1 = c.1 → b = c
  | (s, z) :: r, a, h, b, hb, c, hc, e => by
    have hr : ∀ q ∈ r, s < q.1 := fun q hq => by have := h.2.2.mem q hq; have := h.2.1; omega
    rcases List.mem_cons.mp hb with rfl | hb <;> rcases List.mem_cons.mp hc with rfl | hc
    · rfl
    · have := hr c hc; have e : s = c.1 := e; omega
    · have := hr b hb; have e : b.1 = s := e; omega
    · exact Lay.start_inj h.2.2 b hb c hc e
theorem RunI.free {cells : Int} {pre : List Deed} {s : RSt} (R : RunI cells pre s) {p : Int × Int} (hp : p ∈ (aliveP pre).1) {mk : Mk} : ∃ x, Mini.get? s.found p.1 = some x ∧ (x, p.2) ∈ s.l ∧ RunI cells (pre ++ [.free p.1]) ⟨s.found, gone s.l x, mk⟩ := by
  obtain ⟨p0, x, hx, hm⟩ := R.fwd p hp
  have e : aliveP (pre ++ [.free p.1]) = ((aliveP pre).1.filter (fun q => decide (q.1 ≠ p.1)), (aliveP pre).2) := alive_snoc pre _
  refine ⟨x, hx, hm, LayF.filter _ R.lay, by rw [e]; exact R.len, fun q hq => ?_, fun b hb => ?_, fun q hq q' hq' h => ?_⟩
  · rw [e] at hq
    obtain ⟨q1, q2⟩ := List.mem_filter.mp hq
    have q2 : q.1 ≠ p.1 := of_decide_eq_true q2
    obtain ⟨q0, y, hy, hb⟩ := R.fwd q q1
    refine ⟨q0, y, hy, List.mem_filter.mpr ⟨hb, ?_⟩⟩
    show decide (y ≠ x) = true
    refine decide_eq_true fun z => q2 (R.inj q q1 p hp ?_)
    rw [hy, hx, z]
  · obtain ⟨b1, b2⟩ := List.mem_filter.mp hb
    have b2 : b.1 ≠ x := of_decide_eq_true b2
    obtain ⟨q, q1, q2, q3⟩ := R.bwd b b1
    rw [e]
    refine ⟨q, List.mem_filter.mpr ⟨q1, decide_eq_true fun z => b2 ?_⟩, q2, q3⟩
    have hz : Mini.get? s.found q.1 = Mini.get? s.found p.1 := by rw [z]
    rw [q2, hx] at hz
    cases hz; rfl
  · rw [e] at hq hq'
    exact R.inj q (List.mem_filter.mp hq).1 q' (List.mem_filter.mp hq').1 h
structure Legal (pre rest : List Deed) : Prop where
  row : ∃ g, rowA rest (aliveP pre).2 g = true ∧ ∀ i, 0 ≤ i → i < (aliveP pre).2 → i ∉ g → ∃ p ∈ (aliveP pre).1, p.1 = i
  good : ∀ d ∈ rest, d.good = true
  num : 0 ≤ (aliveP pre).2
theorem Legal.of {ds : List Deed} (h : rowP ds = true) : Legal [] ds := by
  obtain ⟨_, h⟩ := Bool.and_eq_true_iff.mp h
  obtain ⟨h1, h2⟩ := Bool.and_eq_true_iff.mp h
  exact ⟨⟨[], h2, fun i h0 h1 => by have h1 : i < 0 := h1; omega⟩, fun d hd => List.all_eq_true.mp h1 d hd, by decide⟩
theorem Legal.ask {pre rest : List Deed} {n : Int} (h : Legal pre (.ask n :: rest)) : (1 ≤ n ∧ n ≤ 4) ∧ Legal (pre ++ [.ask n]) rest := by
  have e : aliveP (pre ++ [.ask n]) = ((aliveP pre).1 ++ [((aliveP pre).2, n)], (aliveP pre).2 + 1) := alive_snoc pre _
  obtain ⟨g, h1, h2⟩ := h.row
  have hg := h.good (.ask n) List.mem_cons_self
  have hnum := h.num
  refine ⟨by simpa [Deed.good] using hg, ⟨g, by rw [e]; exact h1, fun i h0 hi hg => ?_⟩, fun d hd => h.good d (List.mem_cons_of_mem _ hd), by rw [e]; show 0 ≤ (aliveP pre).2 + 1; omega⟩
  rw [e] at hi ⊢
  have hi : i < (aliveP pre).2 + 1 := hi
  by_cases hq : i < (aliveP pre).2
  · obtain ⟨p, p1, p2⟩ := h2 i h0 hq hg
    exact ⟨p, List.mem_append_left _ p1, p2⟩
  · exact ⟨((aliveP pre).2, n), List.mem_append_right _ List.mem_cons_self, by show (aliveP pre).2 = i; omega⟩
theorem Legal.free {pre rest : List Deed} {i : Int} (h : Legal pre (.free i :: rest)) : (∃ p ∈ (aliveP pre).1, p.1 = i) ∧ Legal (pre ++ [.free i]) rest := by
  have e : aliveP (pre ++ [.free i]) = ((aliveP pre).1.filter (fun q => decide (q.1 ≠ i)), (aliveP pre).2) := alive_snoc pre _
  obtain ⟨g, h1, h2⟩ := h.row
  have hg := h.good (.free i) List.mem_cons_self
  have h1 : (if i ≥ (aliveP pre).2 ∨ i ∈ g then false else rowA rest (aliveP pre).2 (g ++ [i])) = true := h1
  by_cases hb : i ≥ (aliveP pre).2 ∨ i ∈ g
  · rw [if_pos hb] at h1; cases h1
  · rw [if_neg hb] at h1
    have hb1 : i < (aliveP pre).2 := by
      rcases Int.lt_or_le i (aliveP pre).2 with z | z
      · exact z
      · exact absurd (.inl z) hb
    have hb2 : i ∉ g := fun z => hb (.inr z)
    have h0 : 0 ≤ i := by have : 0 ≤ i ∧ i ≤ 40 := by simpa [Deed.good] using hg
                          exact this.1
    refine ⟨h2 i h0 hb1 hb2, ⟨g ++ [i], by rw [e]; exact h1, fun j j0 jl jg => ?_⟩, fun d hd => h.good d (List.mem_cons_of_mem _ hd), by rw [e]; exact h.num⟩
    rw [e] at jl ⊢
    obtain ⟨p, p1, p2⟩ := h2 j j0 jl fun z => jg (List.mem_append_left _ z)
    refine ⟨p, List.mem_filter.mpr ⟨p1, decide_eq_true fun z => jg ?_⟩, p2⟩
    rw [← p2, z]
    exact List.mem_append_right _ List.mem_cons_self
end Con
set_option autoImplicit false
set_option maxRecDepth 100000
set_option maxHeartbeats 4000000
namespace Con
open Mini Tx
theorem mem_fits_iff {cells n x : Int} {l : List (Int × Int)} (h : Lay cells l) (hn : 1 ≤ n) : x ∈ fits n (holesP cells l) ↔ 0 ≤ x ∧ x + n ≤ cells ∧ freeI l x n := by
  rw [mem_fits]
  constructor
  · rintro ⟨g, g1, g2, g3⟩
    have h0 : 0 ≤ x := by have := (holes_F cells l 0 h).mem g g1; omega
    have := (hole_iff hn l 0 h h0).mpr ⟨g, g1, g2, g3⟩
    exact ⟨h0, this⟩
  · rintro ⟨h0, h1⟩
    exact (hole_iff hn l 0 h h0).mp h1
theorem good_le {cells n : Int} {l : List (Int × Int)} : ∀ h ∈ goodH cells l n, n ≤ h.2 := fun h hh => (good_mem hh).2
theorem first_fits (cells : Int) (l : List (Int × Int)) (mk : Mk) (n : Int) : placeH .first cells l mk n = some (fits n (holesP cells l)).head? := by
  have e : (fits n (holesP cells l)).head? = (goodH cells l n).head?.map (·.1) := by
    rw [← fits_good]; exact fits_head _ good_le
  rw [e]
  show (if goodH cells l n = [] then some none else (pickP .first (goodH cells l n) mk.list n).map fun h => some (outP .first n h)) = _
  cases hg : goodH cells l n with
  | nil => rfl
  | cons h r => rfl
theorem endsG_fits (cells : Int) (l : List (Int × Int)) (mk : Mk) (n b : Int) (hb : n > b) : placeH (.ends b) cells l mk n = some (fits n (holesP cells l)).getLast? := by
  have e : (fits n (holesP cells l)).getLast? = (goodH cells l n).getLast?.map fun h => h.1 + h.2 - n := by
    rw [← fits_good]; exact fits_last _ good_le
  rw [e]
  show (if goodH cells l n = [] then some none else (if n > b then (goodH cells l n).getLast? else (goodH cells l n).head?).map fun h => some (if n > b then h.1 + h.2 - n else h.1)) = _
  rw [if_pos hb]
  cases hg : (goodH cells l n).getLast? with
  | none =>
    rw [List.getLast?_eq_none_iff.mp hg]; rfl
  | some h =>
    have : goodH cells l n ≠ [] := fun z => by rw [z] at hg; cases hg
    rw [if_neg this]
    show some (some (if n > b then h.1 + h.2 - n else h.1)) = _
    rw [if_pos hb]; rfl
theorem endsL_first (cells : Int) (l : List (Int × Int)) (mk : Mk) (n b : Int) (hb : n ≤ b) : placeH (.ends b) cells l mk n = placeH .first cells l mk n := by
  have hb' : ¬ n > b := by omega
  show (if goodH cells l n = [] then some none else (if n > b then (goodH cells l n).getLast? else (goodH cells l n).head?).map fun h => some (if n > b then h.1 + h.2 - n else h.1)) = (if goodH cells l n = [] then some none else ((goodH cells l n).head?).map fun h => some h.1)
  simp only [if_neg hb']
theorem ends_step {cells b : Int} {s : RSt} {d : Deed} (hd : ∀ n, d = .ask n → n ≤ b) : stepA (.ends b) cells s d = stepA .first cells s d := by
  cases d with
  | ask n =>
    show (placeH (.ends b) cells s.l s.mark n).map _ = (placeH .first cells s.l s.mark n).map _
    rw [endsL_first _ _ _ _ _ (hd n rfl)]
    rfl
  | free i => rfl
theorem ends_run {cells b : Int} : ∀ (ds : List Deed) (i : Nat) (s : RSt), (∀ n, Deed.ask n ∈ ds → n ≤ b) → runA (.ends b) cells ds i s = runA .first cells ds i s
  | [], _, _, _ => rfl
  | d :: ds, i, s, h => by
    unfold runA
    rw [ends_step fun n hn => h n (by rw [hn]; exact List.mem_cons_self)]
    cases stepA .first cells s d with
    | none => rfl
    | some o => cases o with
      | none => rfl
      | some s' => exact ends_run ds (i + 1) s' fun n hn => h n (List.mem_cons_of_mem _ hn)
def askSz (ds : List Deed) : List Int := ds.filterMap fun d => match d with | .ask n => some n | .free _ => none
theorem askSz_ask (ds : List Deed) (n : Int) : askSz (ds ++ [.ask n]) = askSz ds ++ [n] := by unfold askSz; rw [List.filterMap_append]; rfl
theorem askSz_free (ds : List Deed) (n : Int) : askSz (ds ++ [.free n]) = askSz ds := by unfold askSz; rw [List.filterMap_append]; simp
structure SzI (pre : List Deed) : Prop where
  len : ((askSz pre).length : Int) = (aliveP pre).2
  sz : ∀ p ∈ (aliveP pre).1, 0 ≤ p.1 ∧ (askSz pre)[p.1.toNat]? = some p.2
theorem szI_nil : SzI [] := ⟨rfl, fun _ z => by cases z⟩
theorem SzI.ask {pre : List Deed} (h : SzI pre) (n : Int) : SzI (pre ++ [.ask n]) := by
  have e : aliveP (pre ++ [.ask n]) = ((aliveP pre).1 ++ [((aliveP pre).2, n)], (aliveP pre).2 + 1) := alive_snoc pre _
  refine ⟨by rw [e, askSz_ask]; show ((askSz pre ++ [n]).length : Int) = (aliveP pre).2 + 1; rw [← h.len]; simp, fun p hp => ?_⟩
  rw [e] at hp
  rw [askSz_ask]
  rcases List.mem_append.mp hp with z | z
  · obtain ⟨p0, p1⟩ := h.sz p z
    refine ⟨p0, ?_⟩
    have : p.1.toNat < (askSz pre).length := by
      rcases Nat.lt_or_ge p.1.toNat (askSz pre).length with q | q
      · exact q
      · rw [List.getElem?_eq_none q] at p1; cases p1
    rw [List.getElem?_append_left this]; exact p1
  · have : p = ((aliveP pre).2, n) := by simpa using z
    subst this
    refine ⟨by show 0 ≤ (aliveP pre).2; rw [← h.len]; omega, ?_⟩
    have : ((aliveP pre).2).toNat = (askSz pre).length := by rw [← h.len]; simp
    show (askSz pre ++ [n])[((aliveP pre).2).toNat]? = _
    rw [this]; simp
theorem SzI.free {pre : List Deed} (h : SzI pre) (i : Int) : SzI (pre ++ [.free i]) := by
  have e : aliveP (pre ++ [.free i]) = ((aliveP pre).1.filter (fun q => decide (q.1 ≠ i)), (aliveP pre).2) := alive_snoc pre _
  refine ⟨by rw [e, askSz_free]; exact h.len, fun p hp => ?_⟩
  rw [e] at hp
  rw [askSz_free]
  exact h.sz p (List.mem_filter.mp hp).1
def mirB (cells : Int) (p : Int × Int) : Int × Int := (cells - p.1 - p.2, p.2)
theorem mirB_mirB (cells : Int) (p : Int × Int) : mirB cells (mirB cells p) = p := by
  obtain ⟨a, b⟩ := p
  unfold mirB
  congr 1
  show cells - (cells - a - b) - b = a
  omega
def mirS (cells : Int) (found sizes : List Int) : List Int := (found.zip sizes).map fun p => cells - p.1 - p.2
structure Mir (cells : Int) (pre : List Deed) (s s' : RSt) : Prop where
  r : RunI cells pre s
  r' : RunI cells pre s'
  sz : SzI pre
  mem : ∀ b, b ∈ s'.l ↔ mirB cells b ∈ s.l
  fnd : s'.found = mirS cells s.found (askSz pre)
theorem fits_mir {cells n : Int} {l l' : List (Int × Int)} (h : Lay cells l) (h' : Lay cells l') (hm : ∀ b, b ∈ l' ↔ mirB cells b ∈ l) (hn : 1 ≤ n) : fits n (holesP cells l') = ((fits n (holesP cells l)).map fun x => cells - x - n).reverse := by
  refine asc_eq (asc_fits hn (holes_F cells l' 0 h')) ?_ fun x => ?_
  · rw [List.pairwise_reverse, List.pairwise_map]
    exact List.Pairwise.imp (fun h => by omega) (asc_fits hn (holes_F cells l 0 h))
  · rw [mem_fits_iff h' hn, List.mem_reverse, List.mem_map]
    constructor
    · rintro ⟨h0, h1, h2⟩
      refine ⟨cells - x - n, (mem_fits_iff h hn).mpr ⟨by omega, by omega, fun b hb => ?_⟩, by omega⟩
      have := h2 (mirB cells b) ((hm _).mpr (by rw [mirB_mirB]; exact hb))
      unfold mirB at this
      simp only at this
      rcases this with z | z
      · exact .inr (by omega)
      · exact .inl (by omega)
    · rintro ⟨y, hy, rfl⟩
      obtain ⟨h0, h1, h2⟩ := (mem_fits_iff h hn).mp hy
      refine ⟨by omega, by omega, fun b hb => ?_⟩
      have := h2 (mirB cells b) ((hm b).mp hb)
      unfold mirB at this
      simp only at this
      rcases this with z | z
      · exact .inr (by omega)
      · exact .inl (by omega)
theorem zip_snoc {α β : Type} : ∀ {xs : List α} {ys : List β} (x : α) (y : β), xs.length = ys.length → (xs ++ [x]).zip (ys ++ [y]) = xs.zip ys ++ [(x, y)]
  | [], [], x, y, _ => rfl
  | a :: xs, b :: ys, x, y, h => by
    show (a, b) :: (xs ++ [x]).zip (ys ++ [y]) = _
    rw [zip_snoc x y (by simpa using h)]; rfl
  | [], b :: ys, x, y, h => by cases h
  | a :: xs, [], x, y, h => by cases h
theorem mirS_snoc {cells : Int} {found sizes : List Int} {x n : Int} (h : found.length = sizes.length) : mirS cells (found ++ [x]) (sizes ++ [n]) = mirS cells found sizes ++ [cells - x - n] := by
  unfold mirS
  rw [zip_snoc _ _ h]; simp
theorem Mir.len {cells : Int} {pre : List Deed} {s s' : RSt} (m : Mir cells pre s s') : s.found.length = (askSz pre).length := by
  have h1 := m.r.len
  have h2 := m.sz.len
  omega
theorem Mir.ask {cells : Int} {pre : List Deed} {s s' : RSt} (m : Mir cells pre s s') {n x : Int} {mk mk' : Mk} (hn : 1 ≤ n) (h0 : 0 ≤ x) (hx : x + n ≤ cells) (hf : freeI s.l x n) (hf' : freeI s'.l (cells - x - n) n) :
    Mir cells (pre ++ [.ask n]) ⟨s.found ++ [x], sortP (s.l ++ [(x, n)]), mk⟩ ⟨s'.found ++ [cells - x - n], sortP (s'.l ++ [(cells - x - n, n)]), mk'⟩ := by
  refine ⟨m.r.ask hn h0 hx hf, m.r'.ask hn (by omega) (by omega) hf', m.sz.ask n, fun b => ?_, ?_⟩
  · rw [put_mem m.r'.lay hn (by omega) (by omega) hf', put_mem m.r.lay hn hx h0 hf, m.mem b]
    constructor
    · rintro (z | z)
      · exact .inl z
      · refine .inr ?_
        rw [z]
        unfold mirB
        congr 1
        show cells - (cells - x - n) - n = x
        omega
    · rintro (z | z)
      · exact .inl z
      · refine .inr ?_
        rw [← mirB_mirB cells b, z]
        rfl
  · show s'.found ++ [cells - x - n] = mirS cells (s.found ++ [x]) (askSz (pre ++ [.ask n]))
    rw [askSz_ask, mirS_snoc m.len, m.fnd]
theorem get_mirS {cells : Int} {found sizes : List Int} {i x z : Int} (h0 : 0 ≤ i) (hx : Mini.get? found i = some x) (hz : sizes[i.toNat]? = some z) : Mini.get? (mirS cells found sizes) i = some (cells - x - z) := by
  unfold Mini.get? place? at *
  rw [if_pos h0] at hx ⊢
  by_cases hl : i < (found.length : Int)
  · rw [if_pos hl] at hx
    have hx : found[i.toNat]? = some x := hx
    have hzl : i.toNat < sizes.length := by
      rcases Nat.lt_or_ge i.toNat sizes.length with q | q
      · exact q
      · rw [List.getElem?_eq_none q] at hz; cases hz
    have hml : (mirS cells found sizes).length = min found.length sizes.length := by unfold mirS; simp
    rw [if_pos (by rw [hml]; omega)]
    show (mirS cells found sizes)[i.toNat]? = _
    unfold mirS
    rw [List.getElem?_map, (List.getElem?_zip_eq_some (z := (x, z))).mpr ⟨hx, hz⟩]
    rfl
  · rw [if_neg hl] at hx; cases hx
theorem Mir.free {cells : Int} {pre : List Deed} {s s' : RSt} (m : Mir cells pre s s') {p : Int × Int} (hp : p ∈ (aliveP pre).1) {mk mk' : Mk} : ∃ x x', Mini.get? s.found p.1 = some x ∧ Mini.get? s'.found p.1 = some x' ∧ Mir cells (pre ++ [.free p.1]) ⟨s.found, gone s.l x, mk⟩ ⟨s'.found, gone s'.l x', mk'⟩ := by
  obtain ⟨x, hx, hm, R⟩ := m.r.free hp (mk := mk)
  obtain ⟨x', hx', hm', R'⟩ := m.r'.free hp (mk := mk')
  obtain ⟨p0, hz⟩ := m.sz.sz p hp
  have e : x' = cells - x - p.2 := by
    have := get_mirS (cells := cells) p0 hx hz
    rw [← m.fnd, hx'] at this
    cases this; rfl
  refine ⟨x, x', hx, hx', R, R', m.sz.free _, fun b => ?_, by show s'.found = mirS cells s.found (askSz (pre ++ [.free p.1])); rw [askSz_free]; exact m.fnd⟩
  show b ∈ gone s'.l x' ↔ mirB cells b ∈ gone s.l x
  unfold gone
  rw [List.mem_filter, List.mem_filter, m.mem b]
  refine and_congr_right fun hb => ?_
  rw [decide_eq_true_iff, decide_eq_true_iff]
  refine not_congr ⟨fun h => ?_, fun h => ?_⟩
  · have : b = (x', p.2) := Lay.start_inj m.r'.lay b ((m.mem b).mpr hb) _ hm' h
    rw [this, e]
    show cells - (cells - x - p.2) - p.2 = x
    omega
  · have : mirB cells b = (x, p.2) := Lay.start_inj m.r.lay _ hb _ hm h
    have h2 : b = mirB cells (x, p.2) := by rw [← this, mirB_mirB]
    rw [h2, e]; rfl
theorem mir_run {cells : Int} : ∀ (rest : List Deed) (i : Nat) (pre : List Deed) (s s' : RSt), Legal pre rest → Mir cells pre s s' → (∀ n, Deed.ask n ∈ rest → 2 ≤ n) → (∃ k, s.mark = .num k) → (∃ k, s'.mark = .num k) →
    ∃ o t t' done, runA .first cells rest i s = some (o, t) ∧ runA (.ends 1) cells rest i s' = some (o, t') ∧ Mir cells (pre ++ done) t t' ∧ done <+: rest
  | [], i, pre, s, s', hl, m, _, _, _ => ⟨none, s, s', [], rfl, rfl, by rw [List.append_nil]; exact m, List.prefix_refl _⟩
  | .ask n :: rest, i, pre, s, s', hl, m, h2, hm, hm' => by
    have hn2 := h2 n List.mem_cons_self
    have hfm := fits_mir m.r.lay m.r'.lay m.mem (n := n) (by omega)
    have p1 := first_fits cells s.l s.mark n
    have p2 := endsG_fits cells s'.l s'.mark n 1 (by omega)
    rw [hfm, List.getLast?_reverse, List.head?_map] at p2
    unfold runA
    cases hf : (fits n (holesP cells s.l)).head? with
    | none =>
      rw [hf] at p1 p2
      have e1 : stepA .first cells s (.ask n) = some none := by
        show (placeH .first cells s.l s.mark n).map _ = _
        rw [p1]; rfl
      have e2 : stepA (.ends 1) cells s' (.ask n) = some none := by
        show (placeH (.ends 1) cells s'.l s'.mark n).map _ = _
        rw [p2]; rfl
      rw [e1, e2]
      exact ⟨some i, s, s', [], rfl, rfl, by rw [List.append_nil]; exact m, List.nil_prefix⟩
    | some x =>
      rw [hf] at p1 p2
      obtain ⟨x0, x1, x2⟩ := (mem_fits_iff m.r.lay (by omega)).mp (List.mem_of_head? hf)
      have hx' : cells - x - n ∈ fits n (holesP cells s'.l) := by
        rw [hfm, List.mem_reverse, List.mem_map]
        exact ⟨x, List.mem_of_head? hf, rfl⟩
      obtain ⟨_, _, x2'⟩ := (mem_fits_iff m.r'.lay (by omega)).mp hx'
      have e1 : stepA .first cells s (.ask n) = some (some ⟨s.found ++ [x], sortP (s.l ++ [(x, n)]), s.mark⟩) := by
        show (placeH .first cells s.l s.mark n).map _ = _
        rw [p1]; rfl
      have e2 : stepA (.ends 1) cells s' (.ask n) = some (some ⟨s'.found ++ [cells - x - n], sortP (s'.l ++ [(cells - x - n, n)]), s'.mark⟩) := by
        show (placeH (.ends 1) cells s'.l s'.mark n).map _ = _
        rw [p2]; rfl
      rw [e1, e2]
      obtain ⟨_, hl'⟩ := hl.ask
      obtain ⟨o, t, t', done, r1, r2, r3, r4⟩ := mir_run rest (i + 1) (pre ++ [.ask n]) ⟨s.found ++ [x], sortP (s.l ++ [(x, n)]), s.mark⟩ ⟨s'.found ++ [cells - x - n], sortP (s'.l ++ [(cells - x - n, n)]), s'.mark⟩ hl' (m.ask (mk := s.mark) (mk' := s'.mark) (by omega) x0 x1 x2 x2') (fun k hk => h2 k (List.mem_cons_of_mem _ hk)) hm hm'
      refine ⟨o, t, t', .ask n :: done, r1, r2, ?_, (List.prefix_cons_inj _).mpr r4⟩
      rw [List.append_assoc] at r3; exact r3
  | .free j :: rest, i, pre, s, s', hl, m, h2, hm, hm' => by
    obtain ⟨⟨p, hp, rfl⟩, hl'⟩ := hl.free
    obtain ⟨x, x', hx, hx', m'⟩ := m.free hp (mk := s.mark) (mk' := s'.mark)
    have e1 : stepA .first cells s (.free p.1) = some (some ⟨s.found, gone s.l x, s.mark⟩) := by
      show (match Mini.get? s.found p.1 with
        | none => none
        | some at_ => (markTake .first cells (gone s.l at_) s.mark at_).map fun mk => some (⟨s.found, gone s.l at_, mk⟩ : RSt)) = _
      rw [hx]; rfl
    have e2 : stepA (.ends 1) cells s' (.free p.1) = some (some ⟨s'.found, gone s'.l x', s'.mark⟩) := by
      show (match Mini.get? s'.found p.1 with
        | none => none
        | some at_ => (markTake (.ends 1) cells (gone s'.l at_) s'.mark at_).map fun mk => some (⟨s'.found, gone s'.l at_, mk⟩ : RSt)) = _
      rw [hx']; rfl
    unfold runA
    rw [e1, e2]
    obtain ⟨o, t, t', done, r1, r2, r3, r4⟩ := mir_run rest (i + 1) (pre ++ [.free p.1]) ⟨s.found, gone s.l x, s.mark⟩ ⟨s'.found, gone s'.l x', s'.mark⟩ hl' m' (fun k hk => h2 k (List.mem_cons_of_mem _ hk)) hm hm'
    refine ⟨o, t, t', .free p.1 :: done, r1, r2, ?_, (List.prefix_cons_inj _).mpr r4⟩
    rw [List.append_assoc] at r3; exact r3
theorem asc_pairs : ∀ {l m : List (Int × Int)}, Asc l → Asc m → (∀ b, b ∈ l ↔ b ∈ m) → l = m
  | [], [], _, _, _ => rfl
  | [], y :: m, _, _, h => by have := (h y).mpr List.mem_cons_self; cases this
  | x :: l, [], _, _, h => by have := (h x).mp List.mem_cons_self; cases this
  | x :: l, y :: m, hl, hm, h => by
    have e : x = y := by
      rcases List.mem_cons.mp ((h x).mp List.mem_cons_self) with z | z
      · exact z
      · rcases List.mem_cons.mp ((h y).mpr List.mem_cons_self) with q | q
        · exact q.symm
        · have := hm.1 x z; have := hl.1 y q; omega
    subst e
    congr 1
    refine asc_pairs hl.2 hm.2 fun z => ?_
    constructor
    · intro hz
      rcases List.mem_cons.mp ((h z).mp (List.mem_cons_of_mem _ hz)) with q | q
      · have := hl.1 z hz; rw [q] at this; omega
      · exact q
    · intro hz
      rcases List.mem_cons.mp ((h z).mpr (List.mem_cons_of_mem _ hz)) with q | q
      · have := hm.1 z hz; rw [q] at this; omega
      · exact q
theorem asc_of_pw : ∀ {l : List (Int × Int)}, l.Pairwise (fun p q => p.1 < q.1) → Asc l
  | [], _ => trivial
  | p :: l, h => ⟨(List.pairwise_cons.mp h).1, asc_of_pw (List.pairwise_cons.mp h).2⟩
theorem LayF.pw {cells : Int} : ∀ {l : List (Int × Int)} {a : Int}, LayF cells a l → l.Pairwise fun p q => p.1 + p.2 ≤ q.1 ∧ 1 ≤ p.2 ∧ 1 ≤ q.2
  | [], _, _ => List.Pairwise.nil
  | (s, z) :: r, a, h => List.pairwise_cons.mpr ⟨fun q hq => by have := h.2.2.mem q hq; exact ⟨this.1, h.2.1, this.2.1⟩, h.2.2.pw⟩
theorem Mir.lay {cells : Int} {pre : List Deed} {s s' : RSt} (m : Mir cells pre s s') : s'.l = (s.l.map (mirB cells)).reverse := by
  refine asc_pairs m.r'.lay.asc (asc_of_pw ?_) fun b => ?_
  · rw [List.pairwise_reverse, List.pairwise_map]
    refine List.Pairwise.imp (fun {p q} h => ?_) m.r.lay.pw
    show cells - q.1 - q.2 < cells - p.1 - p.2
    omega
  · rw [m.mem b, List.mem_reverse, List.mem_map]
    constructor
    · intro h; exact ⟨mirB cells b, h, mirB_mirB _ _⟩
    · rintro ⟨c, hc, rfl⟩; rw [mirB_mirB]; exact hc
end Con
set_option autoImplicit false
set_option maxRecDepth 100000
set_option maxHeartbeats 4000000
namespace K42
open Mini Tx Con
def d_law : MFn := ⟨1, 14, false, (.seq (.asg (.one 1) (.new (.lst (.cons (.c (.int 0)) (.cons (.c (.int 0)) .nil)))))
  (.seq (.asg (.many [2, 3]) (.tup (.cons (.bin .add (.c (.int 1)) (.call false 10 (.cons (.v 0) (.cons (.v 1) (.cons (.c (.int 9)) .nil))))) (.cons (.call false 18 (.cons (.v 0) (.cons (.v 1) (.cons (.c (.int 8)) .nil)))) .nil))))
  (.seq (.asg (.many [4, 5]) (.tup (.cons (.call false 81 (.cons (.v 0) (.cons (.v 1) (.cons (.v 3) (.cons (.c (.int 30)) .nil))))) (.cons (.bin .add (.idx (.idx (.v 3) (.c (.int 0))) (.neg (.c (.int 1)))) (.call false 10 (.cons (.v 0) (.cons (.v 1) (.cons (.bin .sub (.c (.int 5)) (.idx (.idx (.v 3) (.c (.int 0))) (.neg (.c (.int 1))))) .nil))))) .nil))))
  (.seq (.ife (.cmp .ne (.call false 85 (.cons (.tup (.cons (.c (.str [101, 110, 100, 115])) (.cons (.v 5) .nil))) (.cons (.v 2) (.cons (.v 4) .nil)))) (.call false 85 (.cons (.tup (.cons (.c (.str [102, 105, 114, 115, 116])) .nil)) (.cons (.v 2) (.cons (.v 4) .nil))))) (.ret (.c (.bl false))) .skip)
  (.seq (.asg (.one 6) (.tup (.cons (.call false 11 (.cons (.v 0) (.cons (.v 1) (.cons (.lst (.cons (.tup (.cons (.c (.int 2)) .nil)) (.cons (.tup (.cons (.c (.int 3)) .nil)) (.cons (.tup (.cons (.c (.int 2)) (.cons (.c (.int 3)) .nil))) (.cons (.tup (.cons (.c (.int 2)) (.cons (.c (.int 4)) .nil))) (.cons (.tup (.cons (.c (.int 2)) (.cons (.c (.int 3)) (.cons (.c (.int 4)) .nil)))) .nil)))))) .nil)))) (.cons (.bin .add (.c (.int 4)) (.call false 10 (.cons (.v 0) (.cons (.v 1) (.cons (.c (.int 5)) .nil))))) .nil))))
  (.seq (.asg (.one 4) (.call false 81 (.cons (.v 0) (.cons (.v 1) (.cons (.v 6) (.cons (.c (.int 30)) .nil))))))
  (.seq (.asg (.many [7, 8]) (.tup (.cons (.call false 85 (.cons (.tup (.cons (.c (.str [102, 105, 114, 115, 116])) .nil)) (.cons (.v 2) (.cons (.v 4) .nil)))) (.cons (.comp (.v 13) (.cmp .eq (.v 12) (.c (.str [97, 115, 107]))) (.it (.v 4)) (.many [12, 13]) [12, 13]) .nil))))
  (.seq (.ife (.cmp .ne (.call false 85 (.cons (.tup (.cons (.c (.str [101, 110, 100, 115])) (.cons (.c (.int 1)) .nil))) (.cons (.v 2) (.cons (.v 4) .nil)))) (.comp (.bin .sub (.bin .sub (.v 2) (.v 10)) (.v 11)) .nil (.zip (.v 7) (.v 8)) (.many [10, 11]) [10, 11])) (.ret (.c (.bl false))) .skip)
  (.seq (.ife (.cmp .ne (.call false 86 (.cons (.tup (.cons (.c (.str [101, 110, 100, 115])) (.cons (.c (.int 1)) .nil))) (.cons (.v 2) (.cons (.v 4) .nil)))) (.call false 86 (.cons (.tup (.cons (.c (.str [102, 105, 114, 115, 116])) .nil)) (.cons (.v 2) (.cons (.v 4) .nil))))) (.ret (.c (.bl false))) .skip)
  (.seq (.asg (.one 9) (.comp (.tup (.cons (.bin .sub (.bin .sub (.v 2) (.v 10)) (.v 11)) (.cons (.v 11) .nil))) .nil (.it (.call false 87 (.cons (.tup (.cons (.c (.str [102, 105, 114, 115, 116])) .nil)) (.cons (.v 2) (.cons (.v 4) .nil))))) (.many [10, 11]) [10, 11]))
  (.ret (.cmp .eq (.call false 87 (.cons (.tup (.cons (.c (.str [101, 110, 100, 115])) (.cons (.c (.int 1)) .nil))) (.cons (.v 2) (.cons (.v 4) .nil)))) (.bf .tuple (.cons (.rev (.v 9)) .nil))))))))))))))⟩
theorem first_total {cells : Int} : ∀ (rest : List Deed) (i : Nat) (pre : List Deed) (s : RSt), Legal pre rest → RunI cells pre s → ∃ o t, runA .first cells rest i s = some (o, t)
  | [], i, pre, s, _, _ => ⟨none, s, rfl⟩
  | .ask n :: rest, i, pre, s, hl, R => by
    obtain ⟨hn, hl'⟩ := hl.ask
    have p1 := first_fits cells s.l s.mark n
    unfold runA
    cases hf : (fits n (holesP cells s.l)).head? with
    | none =>
      rw [hf] at p1
      have e1 : stepA .first cells s (.ask n) = some none := by
        show (placeH .first cells s.l s.mark n).map _ = _
        rw [p1]; rfl
      rw [e1]; exact ⟨_, _, rfl⟩
    | some x =>
      rw [hf] at p1
      obtain ⟨x0, x1, x2⟩ := (mem_fits_iff R.lay (by omega)).mp (List.mem_of_head? hf)
      have e1 : stepA .first cells s (.ask n) = some (some ⟨s.found ++ [x], sortP (s.l ++ [(x, n)]), s.mark⟩) := by
        show (placeH .first cells s.l s.mark n).map _ = _
        rw [p1]; rfl
      rw [e1]
      exact first_total rest (i + 1) _ _ hl' (R.ask hn.1 x0 x1 x2)
  | .free j :: rest, i, pre, s, hl, R => by
    obtain ⟨⟨p, hp, rfl⟩, hl'⟩ := hl.free
    obtain ⟨x, hx, hm, R'⟩ := R.free hp (mk := s.mark)
    have e1 : stepA .first cells s (.free p.1) = some (some ⟨s.found, gone s.l x, s.mark⟩) := by
      show (match Mini.get? s.found p.1 with
        | none => none
        | some at_ => (markTake .first cells (gone s.l at_) s.mark at_).map fun mk => some (⟨s.found, gone s.l at_, mk⟩ : RSt)) = _
      rw [hx]; rfl
    unfold runA
    rw [e1]
    exact first_total rest (i + 1) _ _ hl' R'
def greats : List (List Int) := [[2], [3], [2, 3], [2, 4], [2, 3, 4]]
theorem eqM_idx (M : MH) (a b : Option Nat) : eqM M (oIdx a) (oIdx b) = some (decide (a = b)) := by
  cases a <;> cases b <;> simp [oIdx, eqM, res, D.isDat, D.eqv]
  omega
theorem asks_map (ds : List Deed) : (ds.filterMap fun d => if decide (d.name = sAsk) = true then some (D.int d.num) else none) = (askSz ds).map D.int := by
  induction ds with
  | nil => rfl
  | cons d ds ih =>
    cases d with
    | ask n => show D.int n :: _ = _; rw [ih]; rfl
    | free n => rw [List.filterMap_cons_none (by rfl)]; exact ih
theorem zip_ints : ∀ (xs ys : List Int), zipT (xs.map D.int) (ys.map D.int) = (xs.zip ys).map fun q => D.tup [.int q.1, .int q.2]
  | [], _ => rfl
  | _ :: _, [] => rfl
  | x :: xs, y :: ys => by
    show D.tup [.int x, .int y] :: zipT (xs.map D.int) (ys.map D.int) = _
    rw [zip_ints xs ys]; rfl
theorem eqM_lay (M : MH) (l m : List (Int × Int)) : eqM M (lay l) (lay m) = some (decide (l = m)) := by
  have e : ∀ l, res 20 M (lay l) = some (lay l) := fun l => by
    show ((l.map pairD).mapM (res 19 M)).map D.tup = _
    rw [res_pairs 18 M l]; rfl
  unfold eqM
  rw [e l, e m]
  show (if (D.isDat.datL (l.map pairD) && D.isDat.datL (m.map pairD)) = true then some (D.eqv.eqvL (l.map pairD) (m.map pairD)) else none) = _
  rw [dat_pairs, dat_pairs, eqv_pairs]
  rfl
theorem zip_more {α β : Type} : ∀ (xs : List α) (ys zs : List β), xs.length ≤ ys.length → xs.zip (ys ++ zs) = xs.zip ys
  | [], _, _, _ => rfl
  | x :: xs, [], zs, h => by simp at h
  | x :: xs, y :: ys, zs, h => by
    show (x, y) :: xs.zip (ys ++ zs) = (x, y) :: xs.zip ys
    rw [zip_more xs ys zs (by simpa using h)]
theorem plain (P : MProg) (H : HasRunA P) (h85 : P.fns.lookup 85 = some d_starts) (h86 : P.fns.lookup 86 = some d_fails_at) (h87 : P.fns.lookup 87 = some d_layout_behind) (h10 : P.fns.lookup 10 = some d_law_draw) (h11 : P.fns.lookup 11 = some d_law_pick) (h18 : P.fns.lookup 18 = some d_law_load) (h81 : P.fns.lookup 81 = some d_law_row) (hl : P.fns.lookup 176 = some d_law) (W : Nat) (ns : List Int) :
    ∃ M', callN P W 30 false 176 [.scr ns] 0 [] [] = .ok (.bl true) M' := by
  refine law_of hl ?_
  generalize hc : (⟨callN P W 29, fun i => P.gls.lookup i, W, 0, []⟩ : Ctx) = c
  have hcl : c.lk = [] := by subst hc; rfl
  have draw : ∀ (a b : Int) (M : MH) (many : Int) fl lk, 0 ≤ a → 0 ∉ lk → 0 < many → many < 1073741824 → ∃ v a' b', 0 ≤ v ∧ v < many ∧ 0 ≤ a' ∧ c.call false 10 [.scr ns, .obj 0, .int many] fl lk (town a b :: M) = .ok (.int v) (town a' b' :: M) := fun a b M many fl lk ha hlk h1 h2 => by
    subst hc; exact draw0 h10 ns a b M many fl lk ha hlk h1 h2
  have nlk : (0 : Nat) ∉ c.lk := by rw [hcl]; simp
  have hk : ∀ n ∈ c.lk, n < ([] : MH).length + 1 := by rw [hcl]; intro n z; cases z
  obtain ⟨v1, a1, b1, p1, p2, p3, p4⟩ := draw 0 0 [] 9 c.fl c.lk (by decide) nlk (by decide) (by decide)
  obtain ⟨sizes, live, a2, b2, L, q3, q4⟩ : ∃ sizes live a' b', LoadOk 8 sizes live ∧ 0 ≤ a' ∧ c.call false 18 [.scr ns, .obj 0, .int 8] c.fl c.lk [town a1 b1] = .ok (loadD sizes live) [town a' b'] := by
    subst hc; exact load0 h10 h18 ns a1 b1 p3 hk nlk 8 (by decide)
  refine goes_seq (σ' := [some (.scr ns), some (.obj 0), none, none, none, none, none, none, none, none, none, none, none, none]) (M' := [town 0 0]) rfl ?_
  refine goes_seq (asg_of (tup_of (cons_of (add_of c_of (call_of rfl p4)) (cons_of (call_of rfl q4) nil_of))) rfl) ?_
  have hc1 : 1 ≤ 1 + v1 := by omega
  have hc9 : 1 + v1 ≤ 9 := by omega
  generalize 1 + v1 = cells at *
  obtain ⟨ds, a3, b3, R, hlen, r3, r4⟩ : ∃ ds a' b', RowK sizes live ds ∧ (ds.length : Int) ≤ 30 ∧ 0 ≤ a' ∧ ∀ (m : Bool) fl, c.call m 81 [.scr ns, .obj 0, loadD sizes live, .int 30] fl c.lk [town a2 b2] = if m then .ok (.obj 1) (town a' b' :: ([] ++ [.lst (ds.map Deed.d)])) else .ok (.lst (ds.map Deed.d)) [town a' b'] := by
    subst hc; exact row0 h10 h11 h81 ns a2 b2 q3 hk nlk sizes live 8 L 30 (by decide)
  have r4 := r4 false c.fl
  obtain ⟨y, hy⟩ : ∃ y, sizes.getLast? = some y := by
    cases h : sizes.getLast? with
    | none => have := List.getLast?_eq_none_iff.mp h; have := L.len; subst sizes; simp at this
    | some y => exact ⟨y, rfl⟩
  have hsne : sizes ≠ [] := fun z => by rw [z] at hy; cases hy
  have hym := L.bnd y (List.mem_of_getLast? hy)
  have hyle : ∀ n ∈ sizes, n ≤ y := fun n hn => by
    rw [List.getLast?_eq_some_iff] at hy
    obtain ⟨l, rfl⟩ := hy
    rcases List.mem_append.mp hn with z | z
    · have := (List.pairwise_append.mp L.asc).2.2 n z y (by simp); omega
    · have : n = y := by simpa using z
      omega
  obtain ⟨v2, a4, b4, u1, u2, u3, u4⟩ := draw a3 b3 [] (5 - y) c.fl c.lk r3 nlk (by omega) (by omega)
  have hlast : ∀ x4 N, ev c (.idx (.idx (.v 3) (.c (.int 0))) (.neg (.c (.int 1)))) [some (.scr ns), some (.obj 0), some (.int cells), some (loadD sizes live), x4, none, none, none, none, none, none, none, none, none] N = .ok (.int y) N := fun x4 N => by
    refine idx_of (idx_of (v_of rfl) c_of rfl) rfl ?_
    show Mini.R.ofOpt (Mini.get? (sizes.map D.int) (-1)) N = _
    rw [get_last _ (by simpa using hsne), List.getLast?_map, hy]; rfl
  refine goes_seq (asg_of (tup_of (cons_of (call_of (cons_of (v_of rfl) (cons_of (v_of rfl) (cons_of (v_of rfl) (cons_of c_of nil_of)))) r4) (cons_of (add_of (hlast _ _) (call_of (cons_of (v_of rfl) (cons_of (v_of rfl) (cons_of (sub_of c_of (hlast _ _)) nil_of))) u4)) nil_of))) rfl) ?_
  have hb1 : y ≤ y + v2 := by omega
  have hb4 : y + v2 ≤ 4 := by omega
  generalize y + v2 = bound at *
  have row : ∀ (ds : List Deed) (a b : Int), Sq [town a b] (.lst (ds.map Deed.d)) (ds.map Deed.d) := fun ds a b => .inl rfl
  have c85 : ∀ (r : Rl) (ds : List Deed) (o : Option Nat) (s : RSt) (a b : Int), r.okR cells = true → rowP ds = true → runAP r cells ds = some (o, s) → ∀ fl, c.call false 85 [r.d, .int cells, .lst (ds.map Deed.d)] fl c.lk [town a b] = .ok (lsI s.found) [town a b] := fun r ds o s a b hg hd ho fl => by
    rw [hcl]; subst hc
    exact c_startsA H h85 (fun _ z => (by cases z)) cells r hg hc1 hc9 _ _ (row ds a b) hd _ _ ho
  have c86 : ∀ (r : Rl) (ds : List Deed) (o : Option Nat) (s : RSt) (a b : Int), r.okR cells = true → rowP ds = true → runAP r cells ds = some (o, s) → ∀ fl, c.call false 86 [r.d, .int cells, .lst (ds.map Deed.d)] fl c.lk [town a b] = .ok (oIdx o) [town a b] := fun r ds o s a b hg hd ho fl => by
    rw [hcl]; subst hc
    exact c_fails_atA H h86 (fun _ z => (by cases z)) cells r hg hc1 hc9 _ _ (row ds a b) hd _ _ ho
  have c87 : ∀ (r : Rl) (ds : List Deed) (o : Option Nat) (s : RSt) (a b : Int), r.okR cells = true → rowP ds = true → runAP r cells ds = some (o, s) → ∀ fl, c.call false 87 [r.d, .int cells, .lst (ds.map Deed.d)] fl c.lk [town a b] = .ok (lay s.l) [town a b] := fun r ds o s a b hg hd ho fl => by
    rw [hcl]; subst hc
    exact c_layout_behindA H h87 (fun _ z => (by cases z)) cells r hg hc1 hc9 _ _ (row ds a b) hd _ _ ho
  have hrP : rowP ds = true := R.row (by omega)
  obtain ⟨o1, t1, e1⟩ := first_total (cells := cells) ds 0 [] ⟨[], [], .num 0⟩ (Legal.of hrP) (runI_nil (by omega))
  have e1 : runAP .first cells ds = some (o1, t1) := e1
  have e2 : runAP (.ends bound) cells ds = some (o1, t1) := by
    rw [← e1]
    exact ends_run ds 0 ⟨[], [], .num 0⟩ fun n hn => by have := hyle n (R.size n hn); omega
  have hge : (Rl.ends bound).okR cells = true := by simp [Rl.okR]; omega
  refine goes_sif (M' := [town a4 b4]) ?_ ?_
  · refine cmp_of (call_of (cons_of (tup_of (cons_of c_of (cons_of (v_of rfl) nil_of))) (cons_of (v_of rfl) (cons_of (v_of rfl) nil_of))) (c85 (.ends bound) ds o1 t1 _ _ hge hrP e2 _)) (call_of (cons_of (tup_of (cons_of c_of nil_of)) (cons_of (v_of rfl) (cons_of (v_of rfl) nil_of))) (c85 .first ds o1 t1 _ _ rfl hrP e1 _)) ?_
    show (eqM _ (lsI t1.found) (lsI t1.found)).map (!·) = _
    rw [eqM_lsI]; simp
  obtain ⟨z, a5, b5, z1, z2, z3⟩ : ∃ z a' b', z ∈ greats.map (fun l => D.tup (l.map D.int)) ∧ 0 ≤ a' ∧ c.call false 11 [.scr ns, .obj 0, .lst (greats.map fun l => D.tup (l.map D.int))] c.fl c.lk [town a4 b4] = .ok z [town a' b'] := by
    subst hc
    exact pick0 h10 h11 ns a4 b4 u3 nlk _ _ (fun _ _ => rfl) ⟨fun _ z => (by cases z), fun _ z => (by cases z)⟩ (fun y hy => by
      obtain ⟨l, hl, rfl⟩ := List.mem_map.mp hy
      simp only [greats, List.mem_cons, List.not_mem_nil, or_false] at hl
      rcases hl with rfl | rfl | rfl | rfl | rfl <;> exact fun _ _ => rfl) (by decide) (by decide)
  obtain ⟨gs, hgs, rfl⟩ := List.mem_map.mp z1
  obtain ⟨v3, a6, b6, x1, x2, x3, x4⟩ := draw a5 b5 [] 5 c.fl c.lk z2 nlk (by decide) (by decide)
  refine goes_seq (asg_of (v := loadD gs (4 + v3)) (tup_of (cons_of (call_of (cons_of (v_of rfl) (cons_of (v_of rfl) (cons_of rfl nil_of))) z3) (cons_of (add_of c_of (call_of rfl x4)) nil_of))) rfl) ?_
  have G : LoadOk 8 gs (4 + v3) := by
    simp only [greats, List.mem_cons, List.not_mem_nil, or_false] at hgs
    rcases hgs with rfl | rfl | rfl | rfl | rfl <;> refine ⟨by decide, by decide, by decide, fun n hn => ?_, by omega⟩ <;> (simp only [List.mem_cons, List.not_mem_nil, or_false] at hn; omega)
  have G2 : ∀ n ∈ gs, 2 ≤ n := by
    simp only [greats, List.mem_cons, List.not_mem_nil, or_false] at hgs
    rcases hgs with rfl | rfl | rfl | rfl | rfl <;> decide
  obtain ⟨es, a7, b7, R2, hlen2, w3, w4⟩ : ∃ ds a' b', RowK gs (4 + v3) ds ∧ (ds.length : Int) ≤ 30 ∧ 0 ≤ a' ∧ ∀ (m : Bool) fl, c.call m 81 [.scr ns, .obj 0, loadD gs (4 + v3), .int 30] fl c.lk [town a6 b6] = if m then .ok (.obj 1) (town a' b' :: ([] ++ [.lst (ds.map Deed.d)])) else .ok (.lst (ds.map Deed.d)) [town a' b'] := by
    subst hc; exact row0 h10 h11 h81 ns a6 b6 x3 hk nlk gs (4 + v3) 8 G 30 (by decide)
  have w4 := w4 false c.fl
  refine goes_seq (asg_of (call_of (cons_of (v_of rfl) (cons_of (v_of rfl) (cons_of (v_of rfl) (cons_of c_of nil_of)))) w4) rfl) ?_
  have hrP2 : rowP es = true := R2.row (by omega)
  obtain ⟨o, t, t', done, m1, m2, m3, m4⟩ := mir_run (cells := cells) es 0 [] ⟨[], [], .num 0⟩ ⟨[], [], .num 0⟩ (Legal.of hrP2) ⟨runI_nil (by omega), runI_nil (by omega), szI_nil, fun b => (by simp), rfl⟩ (fun n hn => G2 n (R2.size n hn)) ⟨0, rfl⟩ ⟨0, rfl⟩
  have m1 : runAP .first cells es = some (o, t) := m1
  have m2 : runAP (.ends 1) cells es = some (o, t') := m2
  rw [List.nil_append] at m3
  have hfn : t'.found = mirS cells t.found (askSz es) := by
    rw [m3.fnd]
    unfold mirS
    obtain ⟨more, rfl⟩ := m4
    have e : askSz (done ++ more) = askSz done ++ askSz more := by unfold askSz; rw [List.filterMap_append]
    rw [e, zip_more _ _ _ (by rw [m3.len]; exact Nat.le_refl _)]
  have hes : (es.length) ≤ 40 := by omega
  have hsz := ev_comp (c := c) (elt := .v 13) (cond := .cmp .eq (.v 12) (.c (.str [97, 115, 107]))) (it := .it (.v 4)) (t := .many [12, 13]) (own := [12, 13]) (σ := [some (.scr ns), some (.obj 0), some (.int cells), some (loadD sizes live), some (.lst (es.map Deed.d)), some (.int bound), some (loadD gs (4 + v3)), none, none, none, none, none, none, none]) (M := [town a7 b7]) (M' := [town a7 b7]) (ys := es) (ls := []) (enc := Deed.d) (g := fun d => if decide (d.name = sAsk) = true then some (D.int d.num) else none) rfl (fun d hd => by cases d <;> rfl) (by omega)
  rw [asks_map] at hsz
  have hsl : (askSz es).length ≤ 100000 := Nat.le_trans (List.length_filterMap_le _ _) (by omega)
  refine goes_seq (asg_of (v := .tup [lsI t.found, lsI (askSz es)]) (tup_of (cons_of (call_of (cons_of (tup_of (cons_of c_of nil_of)) (cons_of (v_of rfl) (cons_of (v_of rfl) nil_of))) (c85 .first es o t _ _ rfl hrP2 m1 _)) (cons_of hsz nil_of))) rfl) ?_
  have hzip : ev c (.zip (.v 7) (.v 8)) [some (.scr ns), some (.obj 0), some (.int cells), some (loadD sizes live), some (.lst (es.map Deed.d)), some (.int bound), some (loadD gs (4 + v3)), some (lsI t.found), some (lsI (askSz es)), none, none, none, none, none] [town a7 b7] = .ok (.dct ((t.found.zip (askSz es)).map fun q : Int × Int => D.tup [.int q.1, .int q.2]) []) [town a7 b7] := by
    rw [ev_zip, v_of (x := lsI t.found) rfl]
    show Mini.R.ofOpt (some (walkD (zipT (t.found.map D.int) ((askSz es).map D.int)) [])) _ = _
    rw [zip_ints]; rfl
  have hcomp := ev_comp (elt := .bin .sub (.bin .sub (.v 2) (.v 10)) (.v 11)) (cond := .nil) (t := .many [10, 11]) (own := [10, 11]) (g := fun q : Int × Int => some (D.int (cells - q.1 - q.2))) hzip (fun q hq => rfl) (by rw [List.length_zip]; omega)
  rw [fm_map] at hcomp
  have hcomp := hcomp.trans (show Mini.R.ok (D.lst ((t.found.zip (askSz es)).map fun q : Int × Int => D.int (cells - q.1 - q.2))) [town a7 b7] = Mini.R.ok (lsI (mirS cells t.found (askSz es))) [town a7 b7] by unfold lsI mirS; rw [List.map_map]; rfl)
  refine goes_sif (M' := [town a7 b7]) ?_ ?_
  · refine cmp_of (call_of (cons_of (tup_of (cons_of c_of (cons_of c_of nil_of))) (cons_of (v_of rfl) (cons_of (v_of rfl) nil_of))) (c85 (.ends 1) es o t' _ _ rfl hrP2 m2 _)) hcomp ?_
    show (eqM _ (lsI t'.found) (lsI _)).map (!·) = _
    rw [hfn, eqM_lsI]; simp
  refine goes_sif (M' := [town a7 b7]) ?_ ?_
  · refine cmp_of (call_of (cons_of (tup_of (cons_of c_of (cons_of c_of nil_of))) (cons_of (v_of rfl) (cons_of (v_of rfl) nil_of))) (c86 (.ends 1) es o t' _ _ rfl hrP2 m2 _)) (call_of (cons_of (tup_of (cons_of c_of nil_of)) (cons_of (v_of rfl) (cons_of (v_of rfl) nil_of))) (c86 .first es o t _ _ rfl hrP2 m1 _)) ?_
    show (eqM _ (oIdx o) (oIdx o)).map (!·) = _
    rw [eqM_idx]; simp
  have htl : t.l.length ≤ 100000 := by
    have h1 := LayF.pw m3.r.lay
    have : ∀ (l : List (Int × Int)) (a : Int), LayF cells a l → a + l.length ≤ cells := fun l => by
      induction l with
      | nil => intro a h; have h : a ≤ cells := h; simp; omega
      | cons b l ih => intro a h; have := ih _ h.2.2; have := h.1; have := h.2.1; simp; omega
    have := this t.l 0 m3.r.lay
    omega
  have hturn := ev_comp (c := c) (elt := .tup (.cons (.bin .sub (.bin .sub (.v 2) (.v 10)) (.v 11)) (.cons (.v 11) .nil))) (cond := .nil) (it := .it (.call false 87 (.cons (.tup (.cons (.c (.str [102, 105, 114, 115, 116])) .nil)) (.cons (.v 2) (.cons (.v 4) .nil))))) (t := .many [10, 11]) (own := [10, 11]) (σ := [some (.scr ns), some (.obj 0), some (.int cells), some (loadD sizes live), some (.lst (es.map Deed.d)), some (.int bound), some (loadD gs (4 + v3)), some (lsI t.found), some (lsI (askSz es)), none, none, none, none, none]) (M := [town a7 b7]) (M' := [town a7 b7]) (ys := t.l) (ls := []) (enc := pairD) (g := fun p => some (pairD (mirB cells p))) (it_of (z := lay t.l) (call_of (cons_of (tup_of (cons_of c_of nil_of)) (cons_of (v_of rfl) (cons_of (v_of rfl) nil_of))) (c87 .first es o t _ _ rfl hrP2 m1 _)) rfl) (fun p hp => rfl) htl
  rw [fm_map] at hturn
  refine goes_seq (asg_of hturn rfl) (goes_ret (M' := [town a7 b7]) (cmp_of (x := lay t'.l) (y := lay (t.l.map (mirB cells)).reverse) (call_of (cons_of (tup_of (cons_of c_of (cons_of c_of nil_of))) (cons_of (v_of rfl) (cons_of (v_of rfl) nil_of))) (c87 (.ends 1) es o t' _ _ rfl hrP2 m2 _)) ?_ ?_))
  · refine bf_of (cons_of (x := .lst ((t.l.map fun p => pairD (mirB cells p)).reverse)) rfl nil_of) ?_
    show Mini.R.ok (D.tup ((t.l.map fun p => pairD (mirB cells p)).reverse)) _ = _
    unfold lay
    rw [List.map_reverse, List.map_map]; rfl
  · show eqM _ (lay t'.l) (lay _) = _
    rw [m3.lay, eqM_lay]; simp
end K42
set_option autoImplicit false
set_option maxRecDepth 100000
set_option maxHeartbeats 4000000
namespace K42
open PySem PySem.W PyProof.Rows Mini Tx Con
abbrev PP : Program := PySem.Challenge.pw_arenarules_k42_whole_both_ends
def dd (i : Nat) : He.DefD := match PP.main.body[i]? with
  | some (.FunctionDef n a b _ _ _ sc _ _ _) => ⟨(n, none), n, n, a, b, sc, [], []⟩
  | _ => ⟨("", none), "", "", ⟨[], [], none, [], [], none, []⟩, [], ⟨.function, [], false, false, []⟩, [], []⟩
def pg : MiniS.Pg := ⟨[⟨0, dd 8, ["value", "least", "most"], d_is_number⟩,
  ⟨4, dd 9, ["value", "most"], d_need_cells⟩,
  ⟨7, dd 10, ["cells", "layout", "found", "at", "start", "size"], d_holes_of⟩,
  ⟨28, dd 11, ["layout", "start", "size"], d_with_block⟩,
  ⟨66, dd 12, ["layout", "start", "block"], d_without_block⟩,
  ⟨57, dd 16, ["cells", "value", "pair", "one", "other"], d_are_regions⟩,
  ⟨58, dd 17, ["cells", "value"], d_is_rule_of⟩,
  ⟨73, dd 18, ["cells", "value"], d_need_rule⟩,
  ⟨25, dd 19, ["size"], d_rounded⟩,
  ⟨59, dd 20, ["cells", "layout", "marks", "start", "size", "at"], d_free_marks⟩,
  ⟨62, dd 21, ["cells", "layout", "marks", "found", "length", "start", "at"], d_parts_of⟩,
  ⟨60, dd 22, ["cells", "layout", "size", "least", "start", "many", "at"], d_first_open⟩,
  ⟨63, dd 23, ["regions", "layout", "size", "begin", "own", "many", "inner", "found", "start", "kept"], d_in_region⟩,
  ⟨61, dd 24, ["unit", "layout", "number", "block"], d_slab_starts⟩,
  ⟨64, dd 25, ["unit", "cells", "layout", "size", "empty", "number", "blocks", "taken", "slots", "block", "step", "slot"], d_in_slab⟩,
  ⟨65, dd 26, ["rule", "cells", "state", "size", "layout", "mark", "good", "hole", "start", "one"], d_chosen_hole⟩,
  ⟨70, dd 27, ["rule", "cells", "state", "size", "layout", "mark", "found", "good", "hole", "part"], d_place⟩,
  ⟨69, dd 28, ["rule"], d_begun⟩,
  ⟨71, dd 29, ["rule", "cells", "state", "start", "size", "layout", "mark", "after", "left", "moved", "hole", "at"], d_put⟩,
  ⟨72, dd 30, ["rule", "cells", "state", "start", "layout", "mark", "after", "own", "hole", "at"], d_take⟩,
  ⟨67, dd 33, ["value"], d_is_deed⟩,
  ⟨68, dd 34, ["candidate", "asks", "gone", "word", "number", "deed"], d_is_row⟩,
  ⟨74, dd 35, ["value"], d_need_row⟩,
  ⟨76, dd 36, ["rule", "cells", "row", "state", "found", "index", "deed", "start"], d_run⟩,
  ⟨75, dd 37, ["rule", "cells", "row"], d_need_run⟩,
  ⟨85, dd 38, ["rule", "cells", "row"], d_starts⟩,
  ⟨86, dd 39, ["rule", "cells", "row"], d_fails_at⟩,
  ⟨87, dd 40, ["rule", "cells", "row"], d_layout_behind⟩,
  ⟨10, dd 42, ["script", "town", "many", "one", "at", "mixed"], d_law_draw⟩,
  ⟨11, dd 43, ["script", "town", "some"], d_law_pick⟩,
  ⟨18, dd 44, ["script", "town", "most", "sizes", "size"], d_law_load⟩,
  ⟨81, dd 46, ["script", "town", "load", "most", "row", "alive", "asks", "many", "k", "size", "name"], d_law_row⟩,
  ⟨176, dd 47, ["script", "town", "cells", "load", "row", "bound", "great", "first", "sizes", "turned", "start", "size", "word", "number"], d_law⟩],
  [(1, "CELLS", (.int 9)), (0, "LARGEST", (.int 4)), (2, "PLAIN", (.tup [(.str [102, 105, 114, 115, 116]), (.str [98, 101, 115, 116]), (.str [119, 111, 114, 115, 116]), (.str [110, 101, 120, 116]), (.str [110, 101, 119, 101, 115, 116]), (.str [98, 117, 100, 100, 121])])), (3, "LENGTHS", (.tup [(.int 1), (.int 2), (.int 4), (.int 8)])), (4, "DEEDS", (.int 40))],
  ["len", "sum", "all", "min", "max", "sorted", "tuple", "list", "isinstance", "str", "int", "bool", "range", "enumerate", "zip"]⟩
theorem pok : pg.ok = true := by decide +kernel
abbrev R : PySem.W.OpenRow := PySem.W.OpenLaw.row PySem.Challenge.rw_arenarules_k42_whole_both_ends
abbrev hk : PySem.W.Hook := MiniS.hookX 4 pg
def ob (s : PySem.W.SharedT) : MiniS.AlX := MiniS.obsX 4 pg (HandSHeadRun.getT s)
theorem ob_eq (s : PySem.W.SharedT) : ob s = hk.obs s.abs := MiniS.obsX_eq (HandSHeadRun.getT_eq s)
def loose : List PySem.Str := PP.main.body.dropLast.filterMap fun s => match s with
  | .FunctionDef n _ _ _ _ _ _ _ _ _ => some n
  | .ClassDef n _ _ _ _ _ _ _ _ _ _ => some n
  | .Assign [.Name x _] _ _ => if x = "__name__" then none else some x
  | _ => none
theorem run (w : World) : HandSHeadRun.RunEq R (PySem.W.view R.prog [47]) hk ob 4000 loose w := by
  intro os
  kernel_rfl
theorem has : HasRunA pg.M := ⟨⟨rfl, rfl, rfl, rfl, rfl, rfl, rfl, rfl, rfl, rfl, rfl, rfl, rfl, rfl, rfl, rfl, rfl, rfl, rfl, rfl, rfl, rfl⟩, rfl, rfl, rfl, rfl, rfl, rfl, rfl, rfl⟩
theorem plainR (ns : List Int) (h : ns.length ≤ 63) : ∃ M', callN pg.M 100 30 false 176 [.scr ns] 0 [] [] = .ok (.bl true) M' := plain pg.M has rfl rfl rfl rfl rfl rfl rfl rfl 100 ns
end K42
open PySem PySem.W PySem.Calls PyProof.Rows
theorem PySem.Challenge.cw_arenarules_k42_whole_both_ends_holds : PySem.Challenge.rw_arenarules_k42_whole_both_ends.Holds := by
  w_on; o_law
  refine HandSHeadRun.head_any (r := K42.R) (q := view K42.R.prog [47]) (H := K42.hk) (ob := K42.ob) (M := 4000) (loose := K42.loose) (d := HandSHeadRun.topDef K42.R.prog 47) (kwd := []) K42.ob_eq
    (by kernel_rfl) (fun s => by kernel_rfl) K42.run (by kernel_rfl) (by kernel_rfl) (by kernel_rfl) (by rfl) (by first | assumption | decide +kernel) (by decide +kernel) ⟨rfl, rfl, rfl, rfl, rfl, by decide +kernel⟩ ?hw ?hc
  case hw => w_witness2
  case hc => exact MiniS.pg_walk (l := PySem.Challenge.rw_arenarules_k42_whole_both_ends) (n := 63) (k := 30) (p := K42.pg) 100 176 (x := "script") K42.pok (by decide +kernel) (by decide +kernel) rfl (by decide) (by kernel_rfl) ⟨rfl, by decide, by decide⟩ K42.plainR
