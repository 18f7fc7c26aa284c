import PyProof.Rows.All
import Wide.All
import OpenK.AllK
import Wide.FinOn
import PySem.PyData
import KE.KDictKeyed
import KE.SortData
import PyProof.ReprReads
import HandS.ForMost
import HandS.ForExc
import HandS.Defaults
import HandS.Lambda
import HandS.ExcInit
import HandS.TupAny
import HandS.TupLe
import HandS.Deep
import PyProof.StrOps2
import HandS.Text
import HandS.Flow
import HandS.IsInst
import HandS.Star
import HandS.Codes
import HandS.Style
import PyProof.CollectStr
import HandS.ExcField
import HandS.TryMany
import HandS.HeadHook4
import HandS.HeadWalk
import KE.GoesEnum
import KE.GoesEnumKw
import KE.DataMinMax
import HandS.CallLocal
import KE.KStateDown
import HandS.Head0
import HandS.Head1
import HandS.Head2
import HandS.HeadEnd
import HandS.HeadHook1
import HandS.HeadHook2
import HandS.HeadHook3
import PySem.Challenge.RW_folkmeld_k19_whole_written_names
set_option Elab.async false
section
/-! FM1: an evaluator of a small Python over data and a small store. Pure Lean; FM2 ties it to the model. -/
set_option autoImplicit false
set_option linter.all false
namespace FM
open PySem

abbrev D := PyData
def T (l : List Nat) : Str := ⟨l.toArray⟩
def tl (s : Str) : List Nat := s.cps.toList
@[simp] theorem tl_T (l : List Nat) : tl (T l) = l := by simp [tl, T]
@[simp] theorem T_tl (s : Str) : T (tl s) = s := by cases s; simp [tl, T]
@[simp] theorem T_inj {a b : List Nat} : T a = T b ↔ a = b := by simp [T]
abbrev dStr (l : List Nat) : D := .str (T l)

def SZ : Nat := 16777216

/-! ### values, cells -/
inductive W where
  | d (x : D) | ref (n : Nat) | fn (f : String)
inductive Cell where
  | lst (ws : List W) | dct (kvs : List (D × W)) | ins (c : String) (fs : List (String × W)) | dead
abbrev Sto := List Cell
abbrev Env := List (Option W)
structure Exn where
  c : String
  fs : List (String × W)
inductive Res (α : Type) where
  | ok (a : α) (st : Sto) | exn (x : Exn) (st : Sto) | bad
inductive Out where
  | nx (ρ : Env) (st : Sto) | rt (w : W) (st : Sto) | bk (ρ : Env) (st : Sto) | ct (ρ : Env) (st : Sto) | exn (x : Exn) (st : Sto) | bad
def Res.bind {α β : Type} (r : Res α) (f : α → Sto → Res β) : Res β := match r with
  | .ok a st => f a st | .exn x st => .exn x st | .bad => .bad
def Res.out {α : Type} (r : Res α) (f : α → Sto → Out) : Out := match r with
  | .ok a st => f a st | .exn x st => .exn x st | .bad => .bad
def Out.next (o : Out) (f : Env → Sto → Out) : Out := match o with
  | .nx ρ st => f ρ st | o => o
@[simp] theorem Res.bind_ok {α β : Type} (a : α) (st : Sto) (f : α → Sto → Res β) : (Res.ok a st).bind f = f a st := rfl
@[simp] theorem Res.bind_exn {α β : Type} (x : Exn) (st : Sto) (f : α → Sto → Res β) : (Res.exn x st).bind f = .exn x st := rfl
@[simp] theorem Res.bind_bad {α β : Type} (f : α → Sto → Res β) : (Res.bad).bind f = .bad := rfl
@[simp] theorem Res.out_ok {α : Type} (a : α) (st : Sto) (f : α → Sto → Out) : (Res.ok a st).out f = f a st := rfl
@[simp] theorem Res.out_exn {α : Type} (x : Exn) (st : Sto) (f : α → Sto → Out) : (Res.exn x st).out f = .exn x st := rfl
@[simp] theorem Res.out_bad {α : Type} (f : α → Sto → Out) : (Res.bad).out f = .bad := rfl
@[simp] theorem Out.next_nx (ρ : Env) (st : Sto) (f : Env → Sto → Out) : (Out.nx ρ st).next f = f ρ st := rfl
@[simp] theorem Out.next_rt (w : W) (st : Sto) (f : Env → Sto → Out) : (Out.rt w st).next f = .rt w st := rfl
@[simp] theorem Out.next_bk (ρ : Env) (st : Sto) (f : Env → Sto → Out) : (Out.bk ρ st).next f = .bk ρ st := rfl
@[simp] theorem Out.next_ct (ρ : Env) (st : Sto) (f : Env → Sto → Out) : (Out.ct ρ st).next f = .ct ρ st := rfl
@[simp] theorem Out.next_exn (x : Exn) (st : Sto) (f : Env → Sto → Out) : (Out.exn x st).next f = .exn x st := rfl
@[simp] theorem Out.next_bad (f : Env → Sto → Out) : (Out.bad).next f = .bad := rfl
def Res.of {α : Type} (o : Option α) (st : Sto) : Res α := match o with
  | some a => .ok a st | none => .bad
@[simp] theorem Res.of_some {α : Type} (a : α) (st : Sto) : Res.of (some a) st = .ok a st := rfl
@[simp] theorem Res.of_none {α : Type} (st : Sto) : (Res.of none st : Res α) = .bad := rfl

/-! ### data -/
mutual
def eqD : D → D → Bool
  | .none, .none => true
  | .bool a, .bool b => a == b
  | .bool a, .int j => (if a then 1 else 0) == j
  | .int i, .bool b => i == (if b then 1 else 0)
  | .int i, .int j => i == j
  | .str x, .str y => x == y
  | .list xs, .list ys => eqAll xs ys
  | .tuple xs, .tuple ys => eqAll xs ys
  | .dict xs, .dict ys => false
  | _, _ => false
def eqAll : List D → List D → Bool
  | [], [] => true
  | x :: xs, y :: ys => eqD x y && eqAll xs ys
  | _, _ => false
end
mutual
/-- no dict within -/
def nod : D → Bool
  | .list xs | .tuple xs => nodAll xs
  | .dict _ => false
  | _ => true
def nodAll : List D → Bool
  | [] => true
  | x :: xs => nod x && nodAll xs
end
mutual
def dep : D → Nat
  | .list xs | .tuple xs => depAll xs + 1
  | .dict kvs => depKv kvs + 1
  | _ => 0
def depAll : List D → Nat
  | [] => 0
  | x :: xs => max (dep x) (depAll xs)
def depKv : List (D × D) → Nat
  | [] => 0
  | (a, b) :: r => max (max (dep a) (dep b)) (depKv r)
end
def eqOk (x y : D) : Bool := nod x && nod y && (decide (dep x ≤ 64) || decide (dep y ≤ 64))
/-- lists of codes in order -/
def ltL : List Nat → List Nat → Bool
  | [], [] => false
  | [], _ :: _ => true
  | _ :: _, [] => false
  | a :: x, b :: y => if a = b then ltL x y else decide (a < b)
mutual
/-- the two can be compared, place by place -/
def alk : D → D → Bool
  | .bool _, .bool _ => true
  | .int _, .int _ => true
  | .str _, .str _ => true
  | .list xs, .list ys => alkAll xs ys
  | .tuple xs, .tuple ys => alkAll xs ys
  | .none, .none => true
  | _, _ => false
def alkAll : List D → List D → Bool
  | x :: xs, y :: ys => alk x y && alkAll xs ys
  | _, _ => true
end
mutual
def ltD : D → D → Bool
  | .bool a, .bool b => !a && b
  | .int i, .int j => decide (i < j)
  | .str x, .str y => ltL (tl x) (tl y)
  | .list xs, .list ys => ltAll xs ys
  | .tuple xs, .tuple ys => ltAll xs ys
  | _, _ => false
def ltAll : List D → List D → Bool
  | [], [] => false
  | [], _ :: _ => true
  | _ :: _, [] => false
  | x :: xs, y :: ys => if eqD x y then ltAll xs ys else ltD x y
end
mutual
/-- ints, texts, None, and tuples of these -/
def ordOk : D → Bool
  | .int _ => true
  | .str _ => true
  | .none => true
  | .tuple xs => ordAll xs
  | _ => false
def ordAll : List D → Bool
  | [] => true
  | x :: xs => ordOk x && ordAll xs
end
def isNo : D → Bool
  | .none => true
  | _ => false
/-- the two have an order -/
def cmpOk (x y : D) : Bool := alk x y && (ordOk x && (ordOk y && (!isNo x && (decide (dep x ≤ 64) && decide (dep y ≤ 64)))))
def leD (x y : D) : Bool := !ltD y x

def allD : List W → Option (List D)
  | [] => some []
  | .d x :: r => (allD r).map (x :: ·)
  | _ :: _ => none
def allDK : List (D × W) → Option (List (D × D))
  | [] => some []
  | (k, .d x) :: r => (allDK r).map ((k, x) :: ·)
  | _ :: _ => none
@[simp] theorem allD_map (xs : List D) : allD (xs.map W.d) = some xs := by
  induction xs with
  | nil => rfl
  | cons x r ih => simp [allD, ih]
@[simp] theorem allDK_map (kvs : List (D × D)) : allDK (kvs.map fun p => (p.1, W.d p.2)) = some kvs := by
  induction kvs with
  | nil => rfl
  | cons x r ih => simp [allDK, ih]
/-- as data, if it is -/
def vw (st : Sto) : W → Option D
  | .d x => some x
  | .ref n => match st[n]? with
    | some (.lst ws) => (allD ws).map .list
    | some (.dct kvs) => (allDK kvs).map .dict
    | _ => none
  | .fn _ => none
@[simp] theorem vw_d (st : Sto) (x : D) : vw st (.d x) = some x := rfl
/-- the items of a list or tuple -/
def seqW (st : Sto) : W → Option (List W)
  | .d (.list xs) => some (xs.map .d)
  | .d (.tuple xs) => some (xs.map .d)
  | .ref n => match st[n]? with
    | some (.lst ws) => some ws
    | _ => none
  | _ => none
/-- the items of a list -/
def lstW (st : Sto) : W → Option (List W)
  | .d (.list xs) => some (xs.map .d)
  | .ref n => match st[n]? with
    | some (.lst ws) => some ws
    | _ => none
  | _ => none
/-- the entries of a dict -/
def dctW (st : Sto) : W → Option (List (D × W))
  | .d (.dict kvs) => some (kvs.map fun p => (p.1, .d p.2))
  | .ref n => match st[n]? with
    | some (.dct kvs) => some kvs
    | _ => none
  | _ => none
mutual
/-- what may be a key -/
def keyOk : D → Bool
  | .int _ => true
  | .str _ => true
  | .tuple xs => keyAll xs
  | _ => false
def keyAll : List D → Bool
  | [] => true
  | x :: xs => keyOk x && keyAll xs
end
def keyC (k : D) : Bool := keyOk k && decide (dep k ≤ 8)
def look {α : Type} (k : D) : List (D × α) → Option α
  | [] => none
  | (q, v) :: r => if eqD q k then some v else look k r
def put {α : Type} (k : D) (v : α) : List (D × α) → List (D × α)
  | [] => [(k, v)]
  | (q, u) :: r => if eqD q k then (q, v) :: r else (q, u) :: put k v r
def rem {α : Type} (k : D) : List (D × α) → List (D × α)
  | [] => []
  | (q, u) :: r => if eqD q k then r else (q, u) :: rem k r

/-! ### text functions -/
def chars (s : Str) : List W := (tl s).map fun c => .d (dStr [c])
/-- x begins with p -/
def pre : List Nat → List Nat → Bool
  | [], _ => true
  | _ :: _, [] => false
  | a :: p, b :: x => a == b && pre p x
def lower1 (c : Nat) : Nat := if 65 ≤ c ∧ c ≤ 90 then c + 32 else c
def upper1 (c : Nat) : Nat := if 97 ≤ c ∧ c ≤ 122 then c - 32 else c
/-- parted by one sign -/
def splitC (c : Nat) : List Nat → List (List Nat)
  | [] => [[]]
  | a :: x => if a = c then [] :: splitC c x else match splitC c x with
    | [] => [[a]]
    | y :: r => (a :: y) :: r
def joinT (sep : List Nat) : List (List Nat) → List Nat
  | [] => []
  | [x] => x
  | x :: y :: r => x ++ sep ++ joinT sep (y :: r)
/-- ahead of and behind the first c -/
def partC (c : Nat) : List Nat → Option (List Nat × List Nat)
  | [] => none
  | a :: x => if a = c then some ([], x) else (partC c x).map fun p => (a :: p.1, p.2)

/-! ### places -/
def sIdx (n : Nat) (i : Int) : Nat := if i < 0 then ((n : Int) + i).toNat else min i.toNat n
def cut {α : Type} (xs : List α) (lo hi : Option Int) : List α :=
  let a := match lo with
    | some i => sIdx xs.length i
    | none => 0
  let b := match hi with
    | some i => sIdx xs.length i
    | none => xs.length
  (xs.drop a).take (b - a)
def atI {α : Type} (xs : List α) (i : Int) : Option α := if 0 ≤ i then xs[i.toNat]? else if 0 ≤ (xs.length : Int) + i then xs[((xs.length : Int) + i).toNat]? else none

/-! ### the syntax -/
inductive BOp where | add | sub | mul | fdiv | mod | pow
inductive COp where | eq | ne | lt | le | gt | ge | isin | notin | din | dnotin | is | isnot
inductive Ty where | int | str | bool | list | tuple | dict deriving DecidableEq
inductive B1 where | len | dlen | int | str | ord | sum | all | any | tuple | repr | min | max | abs
inductive B2 where | max | min
inductive M0 where | lower | upper
inductive M1 where | append | extend | get | join | partition | pop | dpop | remove | split | index
inductive M2 where | get | setdefault
inductive Tg where | v (i : Nat) | t (ts : List Tg)
mutual
inductive E where
  | var (i : Nat) | glob (x : String) | none | bl (b : Bool) | int (i : Int) | str (l : List Nat)
  | bin (op : BOp) (a b : E) | neg (a : E) | not (a : E)
  | cmp (op : COp) (a b : E) | chain (o1 o2 : COp) (a b c : E)
  | and (a b : E) | or (a b : E) | ife (c : C) (a b : E)
  | tup (es : Es) | pur (f : F) | new (f : F)
  | idx (a b : E) | didx (a b : E) | sl (a : E) (lo hi : O) | rev (a : E)
  | fld (a : E) (f : String) | call (f : String) (es : Es) | callv (i : Nat) (cs : List String) (es : Es) | make (c : String) (es : Es)
  | meth (m : String) (a : E) (es : Es)
  | isi (a : E) (ts : List Ty) | b1 (b : B1) (a : E) | b2 (b : B2) (x y : E) | maxd (a d : E)
  | m0 (m : M0) (a : E) | m1 (m : M1) (a x : E) | m2 (m : M2) (a x y : E)
  | refused (f : String) (b : E) | bad
inductive O where
  | no | e (a : E)
inductive Es where
  | nil | cons (e : E) (r : Es) | star (e : E) (r : Es)
inductive Ps where
  | nil | cons (k v : E) (r : Ps)
inductive C where
  | e (a : E) | and (a b : C) | or (a b : C) | not (a : C)
inductive F where
  | lst (es : Es) | dct (ps : Ps) | lc (own : List Nat) (tg : Tg) (it : I) (c : Cs) (a : E) | dc (own : List Nat) (tg : Tg) (it : I) (c : Cs) (k v : E)
  | sorted (a : E) | list (a : E) | dict (a : E) | cat (a b : E)
inductive Cs where
  | no | c (c : C)
inductive I where
  | e (a : E) | keys (a : E) | items (a : E) | values (a : E) | rng1 (a : E) | rng2 (a b : E) | rng3 (a b c : E) | enum (a : E) (k : Nat) | zip (a b : E) | enumz (a b : E)
end
mutual
inductive S where
  | set (tg : Tg) (e : E) | par (i j : Nat) (a b : E) | setIx (a i e : E) | setKey (a i e : E) | setFld (a : E) (f : String) (e : E) | aug (i : Nat) (op : BOp) (e : E)
  | ex (e : E) | ife (c : C) (a b : Ss) | for (tg : Tg) (it : I) (b : Ss) | while (c : C) (b : Ss)
  | ret (e : E) | retN | raise (c : String) (es : Es) | brk | cont | pass | bad | freeze (i : Nat)
inductive Ss where
  | nil | cons (s : S) (r : Ss)
end

/-! ### the program -/
inductive Mode where | pure | eff | keep | obj
structure Fn where
  params : Nat
  slots : Nat
  mode : Mode := .pure
  body : Ss
structure Prog where
  fn : String → Option Fn
  glob : String → Option W
  /-- the handlers of a def that tries a call: class, word, fields (one: itself, several: their tuple) -/
  refused : String → Option (List (String × List Nat × List String))
  /-- an exception's class: 1 keeps its one argument, 2 is made with what and limit -/
  exc : String → Option Nat

/-! ### operations on values -/
def int? : W → Option Int
  | .d (.int i) => some i
  | _ => none
def CMulB (i j : Int) : Bool := (decide (-(2 ^ 64) < i) && decide (i < 2 ^ 64)) || (decide (-(2 ^ 64) < j) && decide (j < 2 ^ 64))
def binD : BOp → D → D → Option D
  | .add, .int i, .int j => some (.int (i + j))
  | .add, .str x, .str y => if (tl x).length + (tl y).length ≤ SZ then some (dStr (tl x ++ tl y)) else none
  | .add, .list x, .list y => if x.length + y.length ≤ SZ then some (.list (x ++ y)) else none
  | .add, .tuple x, .tuple y => if x.length + y.length ≤ SZ then some (.tuple (x ++ y)) else none
  | .sub, .int i, .int j => some (.int (i - j))
  | .mul, .int i, .int j => if CMulB i j then some (.int (i * j)) else none
  | .mul, .str x, .int j => if (tl x).length * j.toNat ≤ SZ ∧ j < 2 ^ 62 ∧ 0 ≤ j then some (dStr (List.replicate j.toNat (tl x)).flatten) else none
  | .mul, .list x, .int j => if x.length * j.toNat ≤ SZ ∧ j < 2 ^ 62 ∧ 0 ≤ j then some (.list (List.replicate j.toNat x).flatten) else none
  | .fdiv, .int i, .int j => if 0 < j ∧ j < 1073741824 then some (.int (i / j)) else none
  | .mod, .int i, .int j => if 0 < j then some (.int (i % j)) else none
  | .pow, .int i, .int j => if 0 ≤ j ∧ j ≤ 1000000 ∧ i.natAbs < 2 ^ 64 then some (.int (i ^ j.toNat)) else none
  | _, _, _ => none
def binW (st : Sto) (op : BOp) (x y : W) : Option W := match vw st x, vw st y with
  | some a, some b => (binD op a b).map .d
  | _, _ => none
/-- op= : ints and texts -/
def noPow : BOp → Bool
  | .pow => false
  | _ => true
def augW (op : BOp) (x y : W) : Option W := match x, y with
  | .d (.str x), .d (.str y) => (match op with
    | .add => (binD .add (.str x) (.str y)).map .d
    | _ => none)
  | .d (.int i), .d (.int j) => if noPow op then (binD op (.int i) (.int j)).map .d else none
  | _, _ => none
def isD : D → D → Option Bool
  | .bool a, .bool b => some (a == b)
  | .none, .none => some true
  | .bool _, .none => some false
  | .int _, .none => some false
  | .str _, .none => some false
  | .list _, .none => some false
  | .tuple _, .none => some false
  | .dict _, .none => some false
  | _, _ => none
def inStr (x y : Str) : Option Bool := match tl x with
  | [c] => some ((tl y).contains c)
  | _ => none
def cmpD : COp → D → D → Option Bool
  | .eq, x, y => if eqOk x y then some (eqD x y) else none
  | .ne, x, y => if eqOk x y then some (!eqD x y) else none
  | .lt, x, y => if cmpOk x y then some (ltD x y) else none
  | .le, x, y => if cmpOk x y then some (!ltD y x) else none
  | .gt, x, y => if cmpOk x y then some (ltD y x) else none
  | .ge, x, y => if cmpOk x y then some (!ltD x y) else none
  | .is, x, y => isD x y
  | .isin, .str x, .str y => inStr x y
  | .isin, x, .list ys => if ys.all (eqOk x) then some (ys.any (eqD · x)) else none
  | .isin, x, .tuple ys => if ys.all (eqOk x) then some (ys.any (eqD · x)) else none
  | _, _, _ => none
def cmpP (st : Sto) (op : COp) (x y : W) : Option Bool := match vw st x, vw st y with
  | some a, some b => cmpD op a b
  | _, _ => none
/-- in, of a dict by its keys -/
def inDW (st : Sto) (x y : W) : Option Bool := match dctW st y with
  | some kvs => (match x with
    | .d k => if keyC k then some (look k kvs).isSome else none
    | _ => none)
  | none => none
/-- is: a cell is not None -/
def isW (st : Sto) (x y : W) : Option Bool := match x, y with
  | .ref _, .d .none => some false
  | .d x, .d y => isD x y
  | _, _ => none
def cmpW (st : Sto) : COp → W → W → Option Bool
  | .notin, x, y => (cmpP st .isin x y).map (! ·)
  | .din, x, y => inDW st x y
  | .dnotin, x, y => (inDW st x y).map (! ·)
  | .is, x, y => isW st x y
  | .isnot, x, y => (isW st x y).map (! ·)
  | op, x, y => cmpP st op x y
def truD : D → Option Bool
  | .none => some false
  | .bool b => some b
  | .int i => some (decide (i ≠ 0))
  | .str s => if (tl s).length ≤ SZ then some (!(tl s).isEmpty) else none
  | .list xs => some (!xs.isEmpty)
  | .tuple xs => some (!xs.isEmpty)
  | .dict _ => none
def truW (st : Sto) : W → Option Bool
  | .d x => truD x
  | .ref n => match st[n]? with
    | some (.lst ws) => some (!ws.isEmpty)
    | _ => none
  | .fn _ => none
def lenW (st : Sto) : W → Option Int
  | .d (.str s) => if (tl s).length ≤ SZ then some (tl s).length else none
  | w => (seqW st w).map fun ws => ws.length
def lenDW (st : Sto) (w : W) : Option Int := (dctW st w).map fun kvs => kvs.length
def tyOf (st : Sto) : W → Option Ty
  | .d .none => none
  | .d (.bool _) => some .bool
  | .d (.int _) => some .int
  | .d (.str _) => some .str
  | .d (.list _) => some .list
  | .d (.tuple _) => some .tuple
  | .d (.dict _) => some .dict
  | .ref n => match st[n]? with
    | some (.lst _) => some .list
    | some (.dct _) => some .dict
    | _ => none
  | .fn _ => none
/-- a kind that isinstance can be asked of -/
def kindOk (st : Sto) : W → Bool
  | .d (.dict _) => false
  | .d _ => true
  | .ref n => match st[n]? with
    | some (.lst _) => true
    | _ => false
  | .fn _ => false
def isTy (t : Option Ty) (u : Ty) : Bool := match t with
  | some t => decide (t = u) || (decide (t = .bool) && decide (u = .int))
  | none => false
def isiW (st : Sto) (w : W) (ts : List Ty) : Option Bool := if kindOk st w then some (ts.any (isTy (tyOf st w))) else none
def sumI : List D → Option Int
  | [] => some 0
  | .int i :: r => (sumI r).map (i + ·)
  | _ :: _ => none
def boolsD : List D → Option (List Bool)
  | [] => some []
  | .bool b :: r => (boolsD r).map (b :: ·)
  | _ :: _ => none
def strsD : List D → Option (List (List Nat))
  | [] => some []
  | .str s :: r => (strsD r).map (tl s :: ·)
  | _ :: _ => none
def alkAllB (xs : List D) : Bool := xs.all fun x => xs.all fun y => alk x y
def minL : D → List D → D
  | m, [] => m
  | m, x :: r => minL (if ltD x m then x else m) r
def maxL : D → List D → D
  | m, [] => m
  | m, x :: r => maxL (if ltD m x then x else m) r
def depOk (xs : List D) : Bool := xs.all fun x => decide (dep x ≤ 64)

structure Fun1 where
  repr : D → List Nat
  showI : Int → List Nat
  ok : D → Bool
/-- what repr may be asked of -/
def reprOk (R : Fun1) : D → Bool
  | .tuple xs => nod (.tuple xs) && (decide (dep (.tuple xs) ≤ 60) && R.ok (.tuple xs))
  | _ => false
def b1W (R : Fun1) (st : Sto) (b : B1) (w : W) : Option W := match b with
  | .len => (lenW st w).map fun i => .d (.int i)
  | .dlen => (lenDW st w).map fun i => .d (.int i)
  | .int => match w with
    | .d (.int i) => some (.d (.int i))
    | .d (.str s) => none
    | _ => none
  | .str => match w with
    | .d (.int i) => if i.natAbs < 2 ^ 1900 then some (.d (dStr (R.showI i))) else none
    | _ => none
  | .ord => match w with
    | .d (.str s) => (match tl s with
      | [c] => some (.d (.int c))
      | _ => none)
    | _ => none
  | .abs => match w with
    | .d (.int i) => some (.d (.int (if i < 0 then -i else i)))
    | _ => none
  | .sum => match vw st w with
    | some (.list xs) => (sumI xs).map fun i => .d (.int i)
    | _ => none
  | .all => match vw st w with
    | some (.list xs) => (boolsD xs).map fun bs => .d (.bool (bs.all id))
    | _ => none
  | .any => match vw st w with
    | some (.list xs) => (boolsD xs).map fun bs => .d (.bool (bs.any id))
    | _ => none
  | .tuple => match vw st w with
    | some (.list xs) => some (.d (.tuple xs))
    | some (.tuple xs) => some (.d (.tuple xs))
    | _ => none
  | .repr => match vw st w with
    | some x => if reprOk R x then some (.d (dStr (R.repr x))) else none
    | none => none
  | .min => match vw st w with
    | some (.list (x :: r)) => if (alkAllB (x :: r) && depOk (x :: r)) && (x :: r).all (fun y => !isNo y) then some (.d (minL x r)) else none
    | _ => none
  | .max => match vw st w with
    | some (.list (x :: r)) => if (alkAllB (x :: r) && depOk (x :: r)) && (x :: r).all (fun y => !isNo y) then some (.d (maxL x r)) else none
    | _ => none
def b2W (b : B2) (x y : W) : Option W := match b, x, y with
  | .max, .d (.int i), .d (.int j) => some (.d (.int (if j > i then j else i)))
  | .min, .d (.int i), .d (.int j) => some (.d (.int (if j < i then j else i)))
  | _, _, _ => none
/-- max(.., default=..) of a list, a tuple or a dict's keys -/
def maxdW (st : Sto) (w d : W) : Option W :=
  let go : List D → Option W := fun xs => match xs with
    | [] => some d
    | x :: r => if alkAllB (x :: r) && depOk (x :: r) then some (.d (maxL x r)) else none
  match vw st w with
  | some (.list xs) => go xs
  | some (.tuple xs) => go xs
  | _ => none
def m0W (m : M0) (w : W) : Option W := match m, w with
  | .lower, .d (.str s) => if (tl s).all (fun c => decide (c < 128)) && decide ((tl s).length ≤ 1000000) then some (.d (dStr ((tl s).map lower1))) else none
  | .upper, .d (.str s) => if (tl s).all (fun c => decide (c < 128)) && decide ((tl s).length ≤ 1000000) then some (.d (dStr ((tl s).map upper1))) else none
  | _, _ => none
def noneW : W := .d .none
/-- the items of a list or a tuple, as data -/
def rowD : D → Option (List D)
  | .list xs => some xs
  | .tuple xs => some xs
  | _ => none
@[simp] theorem rowD_list (xs : List D) : rowD (.list xs) = some xs := rfl
@[simp] theorem rowD_tup (xs : List D) : rowD (.tuple xs) = some xs := rfl
/-- a method with one argument: the answer and the store behind it -/
def m1W (st : Sto) (m : M1) (a x : W) : Option (W × Sto) := match m with
  | .append => (match a with
    | .ref n => (match st[n]? with
      | some (.lst ws) => if ws.length < SZ then some (noneW, st.set n (.lst (ws ++ [x]))) else none
      | _ => none)
    | _ => none)
  | .extend => (match a, seqW st x with
    | .ref n, some ys => (match st[n]? with
      | some (.lst ws) => if ws.length + ys.length ≤ SZ then some (noneW, st.set n (.lst (ws ++ ys))) else none
      | _ => none)
    | _, _ => none)
  | .get => (match dctW st a, x with
    | some kvs, .d k => if keyC k then some ((look k kvs).getD noneW, st) else none
    | _, _ => none)
  | .join => (match a, (vw st x).bind rowD with
    | .d (.str s), some xs => (match strsD xs with
      | some ls => if (ls.map List.length).sum + ls.length * (tl s).length ≤ SZ then some (.d (dStr (joinT (tl s) ls)), st) else none
      | none => none)
    | _, _ => none)
  | .partition => (match a, x with
    | .d (.str s), .d (.str p) => (match tl p with
      | [c] => if (tl s).length ≤ SZ then (match partC c (tl s) with
        | some (u, v) => some (.d (.tuple [dStr u, dStr [c], dStr v]), st)
        | none => some (.d (.tuple [dStr (tl s), dStr [], dStr []]), st)) else none
      | _ => none)
    | _, _ => none)
  | .split => (match a, x with
    | .d (.str s), .d (.str p) => (match tl p with
      | [c] => if (tl s).length + 2 ≤ SZ ∧ c < 256 then some (.d (.list ((splitC c (tl s)).map dStr)), st) else none
      | _ => none)
    | _, _ => none)
  | .pop => (match a, x with
    | .ref n, .d k => (match st[n]?, k with
      | some (.lst (w :: ws)), .int 0 => some (w, st.set n (.lst ws))
      | _, _ => none)
    | _, _ => none)
  | .dpop => (match a, x with
    | .ref n, .d k => (match st[n]?, k with
      | some (.dct kvs), k => if keyC k then (match look k kvs with
        | some w => some (w, st.set n (.dct (rem k kvs)))
        | none => none) else none
      | _, _ => none)
    | _, _ => none)
  | .remove => (match a, x with
    | .ref n, .d y => (match st[n]? with
      | some (.lst ws) => (match allD ws with
        | some xs => if xs.all (eqOk y) && decide (dep y ≤ 64) && xs.any (eqD · y) then some (noneW, st.set n (.lst ((xs.eraseP (eqD · y)).map .d))) else none
        | none => none)
      | _ => none)
    | _, _ => none)
  | .index => (match vw st a, x with
    | some (.list xs), .d (.bool b) => (match boolsD xs with
      | some bs => if bs.contains b then some (.d (.int (bs.findIdx (· == b))), st) else none
      | none => none)
    | some (.str s), .d (.str p) => (match tl p with
      | [c] => if (tl s).contains c && decide ((tl s).length ≤ SZ) then some (.d (.int ((tl s).findIdx (· == c))), st) else none
      | _ => none)
    | _, _ => none)
def m2W (st : Sto) (m : M2) (a x y : W) : Option (W × Sto) := match m with
  | .get => (match dctW st a, x with
    | some kvs, .d k => if keyC k then some ((look k kvs).getD y, st) else none
    | _, _ => none)
  | .setdefault => (match a, x with
    | .ref n, .d k => (match st[n]? with
      | some (.dct kvs) => if keyC k && decide (kvs.length < SZ) then (match look k kvs with
        | some w => some (w, st)
        | none => some (y, st.set n (.dct (put k y kvs)))) else none
      | _ => none)
    | _, _ => none)
def idxW (st : Sto) (a i : W) : Option W := match i with
  | .d (.int i) => (match a with
    | .d (.str s) => if (tl s).length ≤ SZ then (atI (tl s) i).map fun c => .d (dStr [c]) else none
    | _ => match seqW st a with
      | some ws => atI ws i
      | none => none)
  | _ => none
def idxDW (st : Sto) (a i : W) : Option W := match dctW st a, i with
  | some kvs, .d k => if keyC k then look k kvs else none
  | _, _ => none
/-- nothing is cut off -/
def cutWhole (n : Nat) (lo hi : Option Int) : Bool := decide ((match lo with
    | some i => sIdx n i
    | none => 0) = 0) && decide ((match hi with
    | some i => sIdx n i
    | none => n) = n)
def slD (a : D) (lo hi : Option Int) : Option D := match a with
  | .list xs => some (.list (cut xs lo hi))
  | .tuple xs => if cutWhole xs.length lo hi then none else some (.tuple (cut xs lo hi))
  | .str s => if (tl s).length ≤ SZ then some (dStr (cut (tl s) lo hi)) else none
  | _ => none
def slW (st : Sto) (x : W) (lo hi : Option Int) : Option W := match vw st x with
  | some d => (slD d lo hi).map .d
  | none => none
def revD (a : D) : Option D := match a with
  | .list xs => some (.list xs.reverse)

  | _ => none
def fldW (st : Sto) (a : W) (f : String) : Option W := match a with
  | .ref n => (match st[n]? with
    | some (.ins _ fs) => fs.lookup f
    | _ => none)
  | _ => none
def putFl (f : String) (w : W) : List (String × W) → List (String × W)
  | [] => [(f, w)]
  | (g, u) :: r => if g = f then (g, w) :: r else (g, u) :: putFl f w r

/-! ### targets, environments -/
def varW (ρ : Env) (i : Nat) : Option W := match ρ[i]? with
  | some (some w) => some w
  | _ => none
mutual
def asgT : Tg → W → Env → Option Env
  | .v i, w, ρ => some (ρ.set i (some w))
  | .t ts, .d (.tuple xs), ρ => asgTs ts xs ρ
  | .t _, _, _ => none
def asgTs : List Tg → List D → Env → Option Env
  | [], [], ρ => some ρ
  | t :: ts, x :: xs, ρ => (asgT t (.d x) ρ).bind fun ρ => asgTs ts xs ρ
  | _, _, _ => none
end
def wip (ρ : Env) : List Nat → Env
  | [] => ρ
  | v :: vs => (wip ρ vs).set v none

/-! ### fresh containers -/
inductive Fr where
  | l (ws : List W) | m (kvs : List (D × W))
def Fr.pur : Fr → Option W
  | .l ws => (allD ws).map fun xs => .d (.list xs)
  | .m kvs => (allDK kvs).map fun xs => .d (.dict xs)
def Fr.cell : Fr → Cell
  | .l ws => .lst ws
  | .m kvs => .dct kvs
/-- the sources of loops: the items, and the cell that must stand still -/
abbrev Src := List W × Option Nat
def srcW (st : Sto) (w : W) : Option Src := match w with
  | .d (.list xs) => some (xs.map .d, none)
  | .d (.tuple xs) => some (xs.map .d, none)
  | .d (.str s) => if (tl s).length ≤ SZ then some (chars s, none) else none
  | .ref n => (match st[n]? with
    | some (.lst ws) => some (ws, some n)
    | _ => none)
  | _ => none
def guardOf : W → Option Nat
  | .ref n => some n
  | _ => none
def keysW (st : Sto) (w : W) : Option Src := match dctW st w with
  | some kvs => some (kvs.map fun p => .d p.1, guardOf w)
  | none => none
def itemsW (st : Sto) (w : W) : Option Src := match dctW st w with
  | some kvs => (allDK kvs).map fun l => (l.map fun p => .d (.tuple [p.1, p.2]), guardOf w)
  | none => none
def valuesW (st : Sto) (w : W) : Option Src := match dctW st w with
  | some kvs => some (kvs.map (·.2), guardOf w)
  | none => none
def rngL (lo : Int) (n : Nat) : List W := (List.range n).map fun i => .d (.int (lo + (i : Nat)))
def rngN (lo : Int) (n : Nat) : List W := (List.range n).map fun i => .d (.int (lo - (i : Nat)))
def rngOk (i : Int) : Bool := decide (-(2 ^ 62) ≤ i) && decide (i < 2 ^ 62)
def enumL : Int → List D → List D
  | _, [] => []
  | k, x :: r => .tuple [.int k, x] :: enumL (k + 1) r
def seqD (st : Sto) (w : W) : Option (List D) := match seqW st w with
  | some ws => allD ws
  | none => none
def zipL : List D → List D → List D
  | x :: r, y :: s => .tuple [x, y] :: zipL r s
  | _, _ => []
def sortD (xs : List D) : List D := xs.mergeSort leD
def sortable (xs : List D) : Bool := xs.all (fun x => match x with
    | .tuple (_ :: _) => true
    | _ => false) || xs.all fun x => match x with
    | .tuple _ => false
    | .none => false
    | _ => true
def sortOk (xs : List D) : Bool := alkAllB xs && (sortable xs && (depOk xs && decide (xs.length ≤ SZ)))
/-- the items of what is sorted or listed, as data -/
def srcD (s : Option Src) : Option (List D) := match s with
  | some (ws, _) => allD ws
  | none => none
def pairsD : List D → Option (List (D × D))
  | [] => some []
  | .tuple [k, v] :: r => if keyC k then (pairsD r).map ((k, v) :: ·) else none
  | _ :: _ => none
def mergeK {α : Type} (acc : List (D × α)) : List (D × α) → List (D × α)
  | [] => acc
  | (k, v) :: r => mergeK (put k v acc) r

/-! ### loops -/
open Classical in
/-- the cell at g stands as it stood -/
noncomputable def still (g : Option Nat) (st st' : Sto) : Bool := match g with
  | none => true
  | some n => decide (st'[n]? = st[n]?)
noncomputable def lcL {α : Type} (g : Option Nat) (step : W → Sto → Res (Option α)) : List W → Sto → Res (List α)
  | [], st => .ok [] st
  | w :: r, st => match step w st with
    | .ok o st' => if still g st st' then (match lcL g step r st' with
      | .ok ys st'' => .ok (match o with
        | some y => y :: ys
        | none => ys) st''
      | _ => .bad) else .bad
    | _ => .bad
noncomputable def forL (g : Option Nat) (step : W → Env → Sto → Out) : List W → Env → Sto → Out
  | [], ρ, st => .nx ρ st
  | w :: r, ρ, st => match step w ρ st with
    | .nx ρ' st' => if still g st st' then forL g step r ρ' st' else .bad
    | .ct ρ' st' => if still g st st' then forL g step r ρ' st' else .bad
    | .bk ρ' st' => .nx ρ' st'
    | o => o
/-- one turn of a while: what it ends with, or where it goes on -/
def wTurn (c : Env → Sto → Res Bool) (b : Env → Sto → Out) (ρ : Env) (st : Sto) : Out ⊕ (Env × Sto) := match c ρ st with
  | .ok true st' => (match b ρ st' with
    | .nx ρ' st'' => .inr (ρ', st'')
    | .ct ρ' st'' => .inr (ρ', st'')
    | .bk ρ' st'' => .inl (.nx ρ' st'')
    | o => .inl o)
  | .ok false st' => .inl (.nx ρ st')
  | .exn x st' => .inl (.exn x st')
  | .bad => .inl .bad
def wIter (c : Env → Sto → Res Bool) (b : Env → Sto → Out) : Nat → Env → Sto → Option Out
  | 0, _, _ => none
  | n + 1, ρ, st => match wTurn c b ρ st with
    | .inl o => some o
    | .inr (ρ', st') => wIter c b n ρ' st'
open Classical in
noncomputable def whileL (c : Env → Sto → Res Bool) (b : Env → Sto → Out) (ρ : Env) (st : Sto) : Out :=
  if h : ∃ n, (wIter c b n ρ st).isSome then (wIter c b h.choose ρ st).getD .bad else .bad

/-! ### calls -/
abbrev Call := String → List W → Sto → Res W
def W.below (n : Nat) : W → Bool
  | .ref k => decide (k < n)
  | _ => true
def Cell.below (n : Nat) : Cell → Bool
  | .lst ws => ws.all (W.below n)
  | .dct kvs => kvs.all fun p => p.2.below n
  | .ins _ fs => fs.all fun p => p.2.below n
  | .dead => true
/-- older cells are as they were, or name older cells alone -/
def okOld (st st' : Sto) : Prop := ∀ i, i < st.length → st'[i]? = st[i]? ∨ ∃ c, st'[i]? = some c ∧ c.below st.length = true
/-- a value as it stands once the cells from n on are frozen -/
def frzW (n : Nat) (st : Sto) (w : W) : Option W := match w with
  | .ref k => if k < n then some w else (vw st w).map .d
  | w => some w
def frzF (n : Nat) (st : Sto) : List (String × W) → Option (List (String × W))
  | [] => some []
  | (f, w) :: r => (frzW n st w).bind fun w => (frzF n st r).map ((f, w) :: ·)
open Classical in
noncomputable def exitOk (m : Mode) (st : Sto) (w : W) (st' : Sto) : Res W := match m with
  | .pure => if st'.take st.length = st then Res.of (frzW st.length st' w) st else .bad
  | .eff => if st.length ≤ st'.length ∧ okOld st st' then Res.of (frzW st.length st' w) (st'.take st.length) else .bad
  | .keep => .ok w st'
  | .obj => if st.length ≤ st'.length ∧ okOld st st' then (match w with
    | .ref k => if k < st.length then .bad else (match st'[k]? with
      | some (.ins c fs) => (match frzF st.length st' fs with
        | some fs => .ok (.ref st.length) (st'.take st.length ++ [.ins c fs])
        | none => .bad)
      | some (.lst ws) => if (Cell.lst ws).below st.length then .ok (.ref st.length) (st'.take st.length ++ [.lst ws]) else .bad
      | _ => .bad)
    | _ => .bad) else .bad
open Classical in
noncomputable def exitExn (m : Mode) (st : Sto) (x : Exn) (st' : Sto) : Res W := match m with
  | .keep => .exn x st'
  | _ => if st.length ≤ st'.length ∧ okOld st st' then (match frzF st.length st' x.fs with
    | some fs => .exn ⟨x.c, fs⟩ (st'.take st.length)
    | none => .bad) else .bad
noncomputable def exitR (m : Mode) (st : Sto) : Out → Res W
  | .nx _ st' => exitOk m st noneW st'
  | .rt w st' => exitOk m st w st'
  | .exn x st' => exitExn m st x st'
  | _ => .bad

/-! ### the evaluator -/
section
variable (P : Prog) (R : Fun1) (Φ : Call)
def ofP : Option (W × Sto) → Res W
  | some (w, st) => .ok w st
  | none => .bad
/-- the receiver is of the method's kind -/
def rcv1 (st : Sto) (m : M1) (u : W) : Bool := match m with
  | .append | .extend | .pop | .remove => decide (tyOf st u = some .list)
  | .get | .dpop => decide (tyOf st u = some .dict)
  | .join | .partition | .split => decide (tyOf st u = some .str)
  | .index => decide (tyOf st u = some .list) || decide (tyOf st u = some .str)
/-- what a handler answers -/
def handled (hs : List (String × List Nat × List String)) (x : Exn) (st : Sto) : Option W := match hs with
  | [] => none
  | (c, word, fs) :: r => if c = x.c then (match fs with
    | [f] => (match x.fs.lookup f with
      | some (.d d) => some (.d (.tuple [dStr word, d]))
      | _ => none)
    | [f, g] => (match x.fs.lookup f, x.fs.lookup g with
      | some (.d u), some (.d v) => some (.d (.tuple [dStr word, .tuple [u, v]]))
      | _, _ => none)
    | _ => none) else handled r x st
mutual
noncomputable def evE : E → Env → Sto → Res W
  | .var i, ρ, st => Res.of (varW ρ i) st
  | .glob x, _, st => Res.of (P.glob x) st
  | .none, _, st => .ok noneW st
  | .bl b, _, st => .ok (.d (.bool b)) st
  | .int i, _, st => .ok (.d (.int i)) st
  | .str l, _, st => .ok (.d (dStr l)) st
  | .bin op a b, ρ, st => (evE a ρ st).bind fun x st => (evE b ρ st).bind fun y st => Res.of (binW st op x y) st
  | .neg a, ρ, st => (evE a ρ st).bind fun x st => Res.of ((int? x).map fun i => .d (.int (-i))) st
  | .not a, ρ, st => (evE a ρ st).bind fun x st => match x with
    | .d (.bool b) => .ok (.d (.bool (!b))) st
    | _ => .bad
  | .cmp op a b, ρ, st => (evE a ρ st).bind fun x st => (evE b ρ st).bind fun y st => Res.of ((cmpW st op x y).map fun b => .d (.bool b)) st
  | .chain o1 o2 a b c, ρ, st => (evE a ρ st).bind fun x st => (evE b ρ st).bind fun y st => (Res.of (cmpW st o1 x y) st).bind fun k st =>
    if k then (evE c ρ st).bind fun z st => Res.of ((cmpW st o2 y z).map fun b => .d (.bool b)) st else .ok (.d (.bool false)) st
  | .and a b, ρ, st => (evE a ρ st).bind fun x st => match x with
    | .d (.bool true) => evE b ρ st
    | .d (.bool false) => .ok (.d (.bool false)) st
    | _ => .bad
  | .or a b, ρ, st => (evE a ρ st).bind fun x st => match x with
    | .d (.bool false) => evE b ρ st
    | .d (.bool true) => .ok (.d (.bool true)) st
    | _ => .bad
  | .ife c a b, ρ, st => (evC c ρ st).bind fun k st => if k then evE a ρ st else evE b ρ st
  | .tup es, ρ, st => (evEs es ρ st).bind fun ws st => match allD ws with
    | some xs => if xs.length ≤ SZ then .ok (.d (.tuple xs)) st else .bad
    | none => .bad
  | .pur f, ρ, st => (evF f ρ st).bind fun c st => Res.of c.pur st
  | .new f, ρ, st => (evF f ρ st).bind fun c st => .ok (.ref st.length) (st ++ [c.cell])
  | .idx a b, ρ, st => (evE a ρ st).bind fun x st => (evE b ρ st).bind fun y st => Res.of (idxW st x y) st
  | .didx a b, ρ, st => (evE a ρ st).bind fun x st => (evE b ρ st).bind fun y st => Res.of (idxDW st x y) st
  | .bad, _, _ => .bad
  | .sl a lo hi, ρ, st => (evE a ρ st).bind fun x st => (evO lo ρ st).bind fun l st => (evO hi ρ st).bind fun h st => Res.of (slW st x l h) st
  | .rev a, ρ, st => (evE a ρ st).bind fun x st => Res.of ((vw st x).bind fun d => (revD d).map .d) st
  | .fld a f, ρ, st => (evE a ρ st).bind fun x st => Res.of (fldW st x f) st
  | .call f es, ρ, st => (evEs es ρ st).bind fun ws st => Φ f ws st
  | .callv i cs es, ρ, st => match varW ρ i with
    | some (.fn f) => if cs.contains f then (evEs es ρ st).bind fun ws st => Φ f ws st else .bad
    | _ => .bad
  | .make c es, ρ, st => (evEs es ρ st).bind fun ws st => (Φ (c ++ ".__init__") (.ref st.length :: ws) (st ++ [.ins c []])).bind fun w st' => match w with
    | .d .none => .ok (.ref st.length) st'
    | _ => .bad
  | .meth m a es, ρ, st => (evE a ρ st).bind fun x st => match x with
    | .ref n => (match st[n]? with
      | some (.ins c _) => (evEs es ρ st).bind fun ws st => Φ (c ++ "." ++ m) (.ref n :: ws) st
      | _ => .bad)
    | _ => .bad
  | .isi a ts, ρ, st => (evE a ρ st).bind fun x st => Res.of ((isiW st x ts).map fun b => .d (.bool b)) st
  | .b1 b a, ρ, st => (evE a ρ st).bind fun x st => Res.of (b1W R st b x) st
  | .b2 b x y, ρ, st => (evE x ρ st).bind fun u st => (evE y ρ st).bind fun v st => Res.of (b2W b u v) st
  | .maxd a d, ρ, st => (evE a ρ st).bind fun u st => (evE d ρ st).bind fun v st => Res.of (maxdW st u v) st
  | .m0 m a, ρ, st => (evE a ρ st).bind fun x st => Res.of (m0W m x) st
  | .m1 m a x, ρ, st => (evE a ρ st).bind fun u st => if rcv1 st m u then (evE x ρ st).bind fun v st => ofP (m1W st m u v) else .bad
  | .m2 m a x y, ρ, st => (evE a ρ st).bind fun u st => if tyOf st u = some .dict then (evE x ρ st).bind fun v st => (evE y ρ st).bind fun z st => ofP (m2W st m u v z) else .bad
  | .refused f b, ρ, st => match P.refused f, exitR .eff st (match evE b ρ st with
      | .ok _ st' => .nx ρ st'
      | .exn x st' => .exn x st'
      | .bad => .bad) with
    | some _, .ok _ st' => .ok (.d (.tuple [dStr [], .none])) st'
    | some hs, .exn x st' => Res.of (handled hs x st') st'
    | _, _ => .bad
noncomputable def evO : O → Env → Sto → Res (Option Int)
  | .no, _, st => .ok none st
  | .e a, ρ, st => (evE a ρ st).bind fun x st => Res.of ((int? x).map some) st
noncomputable def evEs : Es → Env → Sto → Res (List W)
  | .nil, _, st => .ok [] st
  | .cons e r, ρ, st => (evE e ρ st).bind fun w st => (evEs r ρ st).bind fun ws st => .ok (w :: ws) st
  | .star e r, ρ, st => (evE e ρ st).bind fun w st => (Res.of (srcW st w) st).bind fun s st => (evEs r ρ st).bind fun ws st => .ok (s.1 ++ ws) st
noncomputable def evPs : Ps → Env → Sto → Res (List (D × W))
  | .nil, _, st => .ok [] st
  | .cons k v r, ρ, st => (evE k ρ st).bind fun kw st => (evE v ρ st).bind fun w st => match kw with
    | .d k => if keyC k then (evPs r ρ st).bind fun kvs st => .ok ((k, w) :: kvs) st else .bad
    | _ => .bad
noncomputable def evC : C → Env → Sto → Res Bool
  | .e a, ρ, st => (evE a ρ st).bind fun x st => Res.of (truW st x) st
  | .and a b, ρ, st => (evC a ρ st).bind fun k st => if k then evC b ρ st else .ok false st
  | .or a b, ρ, st => (evC a ρ st).bind fun k st => if k then .ok true st else evC b ρ st
  | .not a, ρ, st => (evC a ρ st).bind fun k st => .ok (!k) st
noncomputable def evCs : Cs → Env → Sto → Res Bool
  | .no, _, st => .ok true st
  | .c c, ρ, st => evC c ρ st
noncomputable def evF : F → Env → Sto → Res Fr
  | .lst es, ρ, st => (evEs es ρ st).bind fun ws st => if ws.length ≤ SZ then .ok (.l ws) st else .bad
  | .dct ps, ρ, st => (evPs ps ρ st).bind fun kvs st => .ok (.m (mergeK [] kvs)) st
  | .lc own tg it c a, ρ, st => (evI it ρ st).bind fun s st => if SZ < s.1.length then .bad else (lcL s.2 (fun w st => match asgT tg w (wip ρ own) with
      | some ρ' => (evCs c ρ' st).bind fun k st => if k then (evE a ρ' st).bind fun y st => .ok (some y) st else .ok none st
      | none => .bad) s.1 st).bind fun ys st => .ok (.l ys) st
  | .dc own tg it c k v, ρ, st => (evI it ρ st).bind fun s st => if SZ < s.1.length then .bad else (lcL s.2 (fun w st => match asgT tg w (wip ρ own) with
      | some ρ' => (evCs c ρ' st).bind fun b st => if b then (evE k ρ' st).bind fun x st => (evE v ρ' st).bind fun y st => (match x with
          | .d x => if keyC x then Res.ok (some (x, y)) st else Res.bad
          | _ => Res.bad) else .ok none st
      | none => .bad) s.1 st).bind fun kvs st => .ok (.m (mergeK [] kvs)) st
  | .sorted a, ρ, st => (evE a ρ st).bind fun x st => match (lstW st x).bind allD with
    | some xs => if sortOk xs then .ok (.l ((sortD xs).map .d)) st else .bad
    | none => .bad
  | .list a, ρ, st => (evE a ρ st).bind fun x st => match srcW st x with
    | some s => .ok (.l s.1) st
    | none => .bad
  | .dict a, ρ, st => (evE a ρ st).bind fun x st => match seqD st x with
    | some xs => (match pairsD xs with
      | some kvs => .ok (.m ((mergeK [] kvs).map fun p => (p.1, .d p.2))) st
      | none => .bad)
    | none => .bad
  | .cat a b, ρ, st => (evE a ρ st).bind fun x st => (evE b ρ st).bind fun y st => match lstW st x, lstW st y with
    | some u, some v => if u.length + v.length ≤ SZ then .ok (.l (u ++ v)) st else .bad
    | _, _ => .bad
noncomputable def evI : I → Env → Sto → Res Src
  | .e a, ρ, st => (evE a ρ st).bind fun x st => Res.of (srcW st x) st
  | .keys a, ρ, st => (evE a ρ st).bind fun x st => Res.of (keysW st x) st
  | .items a, ρ, st => (evE a ρ st).bind fun x st => Res.of (itemsW st x) st
  | .values a, ρ, st => (evE a ρ st).bind fun x st => Res.of (valuesW st x) st
  | .rng1 a, ρ, st => (evE a ρ st).bind fun x st => match int? x with
    | some i => if rngOk i then .ok (rngL 0 i.toNat, none) st else .bad
    | none => .bad
  | .rng2 a b, ρ, st => (evE a ρ st).bind fun x st => (evE b ρ st).bind fun y st => match int? x, int? y with
    | some i, some j => if rngOk i && rngOk j then .ok (rngL i (j - i).toNat, none) st else .bad
    | _, _ => .bad
  | .rng3 a b c, ρ, st => (evE a ρ st).bind fun x st => (evE b ρ st).bind fun y st => (evE c ρ st).bind fun z st => match int? x, int? y, int? z with
    | some i, some j, some (-1) => if rngOk i && rngOk j then .ok (rngN i (i - j).toNat, none) st else .bad
    | _, _, _ => .bad
  | .enum a k, ρ, st => (evE a ρ st).bind fun x st => match seqD st x with
    | some xs => .ok ((enumL k xs).map .d, guardOf x) st
    | none => .bad
  | .zip a b, ρ, st => (evE a ρ st).bind fun x st => (evE b ρ st).bind fun y st => match seqD st x, seqD st y, guardOf x, guardOf y with
    | some u, some v, none, g => .ok ((zipL u v).map .d, g) st
    | some u, some v, some g, none => .ok ((zipL u v).map .d, some g) st
    | _, _, _, _ => .bad
  | .enumz a b, ρ, st => (evE a ρ st).bind fun x st => (evE b ρ st).bind fun y st => match x, y with
    | .d x, .d y => (match seqD st (.d x), seqD st (.d y) with
      | some u, some v => .ok ((enumL 0 (zipL u v)).map .d, none) st
      | _, _ => .bad)
    | _, _ => .bad
end

def atIx (n : Nat) (i : Int) : Option Nat := if 0 ≤ i then (if i.toNat < n then some i.toNat else none) else if 0 ≤ (n : Int) + i then some ((n : Int) + i).toNat else none
/-- a[i] = w -/
def setIxW (st : Sto) (a i w : W) : Option Sto := match a, i with
  | .ref n, .d k => (match st[n]? with
    | some (.lst ws) => (match k with
      | .int i => (match atIx ws.length i with
        | some j => some (st.set n (.lst (ws.set j w)))
        | none => none)
      | _ => none)
    | _ => none)
  | _, _ => none
def setKeyW (st : Sto) (a i w : W) : Option Sto := match a, i with
  | .ref n, .d k => (match st[n]? with
    | some (.dct kvs) => if keyC k && decide (kvs.length < SZ) then some (st.set n (.dct (put k w kvs))) else none
    | _ => none)
  | _, _ => none
def setFldW (st : Sto) (a : W) (f : String) (w : W) : Option Sto := match a with
  | .ref n => (match st[n]? with
    | some (.ins c fs) => if fs.length < 900 then some (st.set n (.ins c (putFl f w fs))) else none
    | _ => none)
  | _ => none
/-- the fields of a new exception -/
def excFs (c : String) (ws : List W) : Option (List (String × W)) := match P.exc c, ws with
  | some 1, [] => some [("value", noneW)]
  | some 1, [w] => some [("value", w)]
  | some 2, [u, v] => some [("limit", v), ("what", u), ("value", u)]
  | _, _ => none
def frzS (ρ : Env) (st : Sto) (i : Nat) : Out := match varW ρ i with
  | some (.ref n) => (match vw st (.ref n) with
    | some x => .nx (ρ.set i (some (.d x))) (st.set n .dead)
    | none => .bad)
  | some (.d _) => .nx ρ st
  | _ => .bad
mutual
noncomputable def evS : S → Env → Sto → Out
  | .set tg e, ρ, st => (evE P R Φ e ρ st).out fun w st => match asgT tg w ρ with
    | some ρ' => .nx ρ' st
    | none => .bad
  | .par i j a b, ρ, st => (evE P R Φ a ρ st).out fun v st => (evE P R Φ b ρ st).out fun w st => .nx ((ρ.set i (some v)).set j (some w)) st
  | .setIx a i e, ρ, st => (evE P R Φ e ρ st).out fun w st => (evE P R Φ a ρ st).out fun x st => (evE P R Φ i ρ st).out fun k st => match setIxW st x k w with
    | some st' => .nx ρ st'
    | none => .bad
  | .setKey a i e, ρ, st => (evE P R Φ e ρ st).out fun w st => (evE P R Φ a ρ st).out fun x st => (evE P R Φ i ρ st).out fun k st => match setKeyW st x k w with
    | some st' => .nx ρ st'
    | none => .bad
  | .setFld a f e, ρ, st => (evE P R Φ e ρ st).out fun w st => (evE P R Φ a ρ st).out fun x st => match setFldW st x f w with
    | some st' => .nx ρ st'
    | none => .bad
  | .aug i op e, ρ, st => match varW ρ i with
    | some x => (evE P R Φ e ρ st).out fun y st => match augW op x y with
      | some w => .nx (ρ.set i (some w)) st
      | none => .bad
    | none => .bad
  | .ex e, ρ, st => (evE P R Φ e ρ st).out fun _ st => .nx ρ st
  | .ife c a b, ρ, st => (evC P R Φ c ρ st).out fun k st => if k then evSs a ρ st else evSs b ρ st
  | .for tg it b, ρ, st => (evI P R Φ it ρ st).out fun s st => forL s.2 (fun w ρ st => match asgT tg w ρ with
    | some ρ' => evSs b ρ' st
    | none => .bad) s.1 ρ st
  | .while c b, ρ, st => whileL (evC P R Φ c) (evSs b) ρ st
  | .ret e, ρ, st => (evE P R Φ e ρ st).out fun w st => .rt w st
  | .retN, _, st => .rt noneW st
  | .raise c es, ρ, st => (evEs P R Φ es ρ st).out fun ws st => match excFs P c ws with
    | some fs => .exn ⟨c, fs⟩ st
    | none => .bad
  | .brk, ρ, st => .bk ρ st
  | .cont, ρ, st => .ct ρ st
  | .pass, ρ, st => .nx ρ st
  | .bad, _, _ => .bad
  | .freeze i, ρ, st => frzS ρ st i
noncomputable def evSs : Ss → Env → Sto → Out
  | .nil, ρ, st => .nx ρ st
  | .cons s r, ρ, st => (evS s ρ st).next fun ρ st => evSs r ρ st
end
end
def entry (fn : Fn) (ws : List W) : Env := ws.map some ++ List.replicate (fn.slots - fn.params) none
noncomputable def runFn (P : Prog) (R : Fun1) (Φ : Call) (fn : Fn) (ws : List W) (st : Sto) : Res W :=
  if ws.length = fn.params then exitR fn.mode st (evSs P R Φ fn.body (entry fn ws) st) else .bad
noncomputable def callD (P : Prog) (R : Fun1) : Nat → Call
  | 0 => fun _ _ _ => .bad
  | n + 1 => fun f ws st => match P.fn f with
    | some fn => runFn P R (callD P R n) fn ws st
    | none => .bad
end FM
end

section
/-! FM2: how the evaluator's values and store lie in the layer's abstract heap. -/
set_option Elab.async false
set_option linter.all false
set_option maxRecDepth 100000
set_option autoImplicit false
namespace FM
open PySem PySem.Spec PyProof.Rows L2

/-- what stands where, once the top has run -/
structure Rt where
  prog : Program
  w : World
  K : PySem.W.Frag
  fa : String → Addr
  ca : String → Addr
  tabs : List (Addr × Str)

/-! ### keys -/
mutual
def nk : D → NestedKey
  | .int i => .num i
  | .str x => .text x
  | .tuple xs => .tup (nkAll xs)
  | _ => .none
def nkAll : List D → List NestedKey
  | [] => []
  | x :: xs => nk x :: nkAll xs
end
def hashD (Y : Rt) : D → Int
  | .int i => hashInt i
  | .str x => hashStr Y.w x
  | d => (nestedKind Y.prog Y.w).hash (nk d)

/-- a dict object with the entries es -/
def DctO (a : Addr) (es : List DictEntry) : HO := .ext fun h => ∃ o ep, h.get? a = some o ∧ o.ExactDict ∧ o.data = .dict es.toArray ep
/-- the same of the written part -/
def DctK (K : PySem.W.Frag) (a : Addr) (es : List DictEntry) : Prop := ∃ o ep, K.lookup a = some o ∧ o.ExactDict ∧ o.data = .dict es.toArray ep

/-! ### data in the abstract heap; nl: the addresses that stand still -/
section
variable (Y : Rt) (H : Hp) (nl : Addr → Prop)
def TupC (a : Addr) (vs : List V) : Prop := (Rd H a (.tup vs) ∧ nl a) ∨
  ∃ (o : Obj) (its : Array Value) (n : Nat), Y.K.lookup a = some o ∧ o.cls = .type "tuple" ∧ o.data = .seq its n ∧ its.size ≤ sizeLine ∧ Vals vs its.toList
def LstC (a : Addr) (vs : List V) : Prop := Rd H a (.lst vs) ∧ nl a
def DctC (a : Addr) (es : List DictEntry) : Prop := (H a = some (DctO a es) ∧ nl a) ∨ DctK Y.K a es
mutual
inductive PV : V → D → Prop
  | none : PV .non .none
  | bool (b : Bool) : PV (.bl b) (.bool b)
  | int (i : Int) : PV (.int i) (.int i)
  | str (x : Str) : PV (.str x) (.str x)
  | tup {a : Addr} {vs : List V} {ds : List D} : TupC Y H nl a vs → PVs vs ds → PV (.ref a) (.tuple ds)
  | lst {a : Addr} {vs : List V} {ds : List D} : LstC H nl a vs → PVs vs ds → PV (.ref a) (.list ds)
  | dct {a : Addr} {es : List DictEntry} {kvs : List (D × D)} : DctC Y H nl a es → (a == sysModules) = false → es.length ≤ sizeLine → PEs es kvs → (kvs.map fun p => nk p.1).Nodup → PV (.ref a) (.dict kvs)
inductive PVs : List V → List D → Prop
  | nil : PVs [] []
  | cons {v : V} {vs : List V} {d : D} {ds : List D} : PV v d → PVs vs ds → PVs (v :: vs) (d :: ds)
inductive PEs : List DictEntry → List (D × D) → Prop
  | nil : PEs [] []
  | cons {e : DictEntry} {es : List DictEntry} {k d : D} {r : List (D × D)} {kv v : V} : RelV kv e.key → PV kv k → keyC k = true → e.hash = hashD Y k → RelV v e.val → PV v d → PEs es r → PEs (e :: es) ((k, d) :: r)
end
end

/-! ### the store -/
/-- μ: where the cells stand; R: addresses that belong to a loop or a comprehension under way -/
structure Wd where
  R : List Addr
  μ : List Addr
  st : Sto
  H : Hp
def Wd.live (x : Wd) (a : Addr) : Prop := ∃ (n : Nat) (c : Cell), x.μ[n]? = some a ∧ x.st[n]? = some c ∧ c ≠ Cell.dead
def Wd.nl (x : Wd) (a : Addr) : Prop := a ∉ x.R ∧ ¬ x.live a
def PW (Y : Rt) (x : Wd) (v : V) (d : D) : Prop := PV Y x.H x.nl v d
inductive WV (Y : Rt) (x : Wd) : V → W → Prop
  | d {v : V} {d : D} : PV Y x.H x.nl v d → WV Y x v (.d d)
  | ref {n : Nat} {a : Addr} : x.μ[n]? = some a → WV Y x (.ref a) (.ref n)
  | fn (f : String) : WV Y x (.ref (Y.fa f)) (.fn f)
inductive WVs (Y : Rt) (x : Wd) : List V → List W → Prop
  | nil : WVs Y x [] []
  | cons {v : V} {w : W} {vs : List V} {ws : List W} : WV Y x v w → WVs Y x vs ws → WVs Y x (v :: vs) (w :: ws)
inductive WEs (Y : Rt) (x : Wd) : List DictEntry → List (D × W) → Prop
  | nil : WEs Y x [] []
  | cons {e : DictEntry} {es : List DictEntry} {k : D} {w : W} {r : List (D × W)} {kv v : V} : RelV kv e.key → PV Y x.H x.nl kv k → keyC k = true → e.hash = hashD Y k → RelV v e.val → WV Y x v w → WEs Y x es r → WEs Y x (e :: es) ((k, w) :: r)
inductive WFs (Y : Rt) (x : Wd) : List (Str × V) → List (String × W) → Prop
  | nil : WFs Y x [] []
  | cons {f : String} {v : V} {w : W} {fs : List (Str × V)} {ws : List (String × W)} : WV Y x v w → WFs Y x fs ws → WFs Y x ((Str.ofString f, v) :: fs) ((f, w) :: ws)
def CellOk (Y : Rt) (x : Wd) (a : Addr) : Cell → Prop
  | .lst ws => ∃ vs, x.H a = some (.lst vs) ∧ WVs Y x vs ws
  | .dct kvs => ∃ es, x.H a = some (DctO a es) ∧ (a == sysModules) = false ∧ es.length ≤ sizeLine ∧ WEs Y x es kvs ∧ (kvs.map fun p => nk p.1).Nodup
  | .ins c fs => ∃ dx vs, x.H a = some (.ins (Y.ca c) dx vs) ∧ WFs Y x vs fs ∧ (fs.map (·.1)).Nodup
  | .dead => True
structure SR (Y : Rt) (x : Wd) : Prop where
  len : x.μ.length = x.st.length
  nd : x.μ.Nodup
  dom : ∀ a ∈ x.μ, ∃ o, x.H a = some o ∧ (∀ ps, o ≠ .tbl ps) ∧ ∀ q, o ≠ LamX.CodeO a q
  res : ∀ a ∈ x.R, a ∉ x.μ ∧ ∃ o, x.H a = some o ∧ ∀ ps, o ≠ .tbl ps
  cell : ∀ (n : Nat) (a : Addr) (c : Cell), x.μ[n]? = some a → x.st[n]? = some c → CellOk Y x a c
  tabs : LamX.Tabs Y.tabs x.H
/-- from x to y: what stood still stands, the cells keep their places -/
structure Ext (x y : Wd) : Prop where
  R : y.R = x.R
  pre : x.μ <+: y.μ
  keep : ∀ a o, x.H a = some o → (∀ ps, o ≠ .tbl ps) → ¬ x.live a → y.H a = some o ∧ ¬ y.live a
  dom : ∀ a o, x.H a = some o → (∀ ps, o ≠ .tbl ps) → ∃ o', y.H a = some o' ∧ ∀ ps, o' ≠ .tbl ps
theorem Ext.refl (x : Wd) : Ext x x := ⟨rfl, List.prefix_refl _, fun _ _ h _ n => ⟨h, n⟩, fun _ o h t => ⟨o, h, t⟩⟩
theorem Ext.trans {x y z : Wd} (a : Ext x y) (b : Ext y z) : Ext x z := by
  refine ⟨b.R.trans a.R, a.pre.trans b.pre, fun c o h t n => ?_, fun c o h t => ?_⟩
  · obtain ⟨h1, n1⟩ := a.keep c o h t n
    exact b.keep c o h1 t n1
  · obtain ⟨o1, h1, t1⟩ := a.dom c o h t
    exact b.dom c o1 h1 t1
theorem Ext.nl {x y : Wd} (e : Ext x y) {a : Addr} {o : HO} (h : x.H a = some o) (t : ∀ ps, o ≠ .tbl ps) (n : x.nl a) : y.H a = some o ∧ y.nl a := by
  obtain ⟨h1, n1⟩ := e.keep a o h t n.2
  exact ⟨h1, by rw [e.R]; exact n.1, n1⟩
theorem Ext.get {x y : Wd} (e : Ext x y) {n : Nat} {a : Addr} (h : x.μ[n]? = some a) : y.μ[n]? = some a := by
  obtain ⟨l, hl⟩ := e.pre
  rw [← hl]
  exact List.getElem?_append_left (List.getElem?_eq_some_iff.mp h).1 |>.trans h

/-- what is known at x is known at y -/
structure Mv (x y : Wd) : Prop where
  pre : x.μ <+: y.μ
  nl_ : ∀ a o, x.H a = some o → (∀ ps, o ≠ .tbl ps) → x.nl a → y.H a = some o ∧ y.nl a
theorem Mv.nl {x y : Wd} (e : Mv x y) {a : Addr} {o : HO} (h : x.H a = some o) (t : ∀ ps, o ≠ .tbl ps) (n : x.nl a) : y.H a = some o ∧ y.nl a := e.nl_ a o h t n
theorem Mv.get {x y : Wd} (e : Mv x y) {n : Nat} {a : Addr} (h : x.μ[n]? = some a) : y.μ[n]? = some a := by
  obtain ⟨l, hl⟩ := e.pre
  rw [← hl]
  exact List.getElem?_append_left (List.getElem?_eq_some_iff.mp h).1 |>.trans h
theorem Mv.trans {x y z : Wd} (a : Mv x y) (b : Mv y z) : Mv x z := ⟨a.pre.trans b.pre, fun c o h t n => by
  obtain ⟨h1, n1⟩ := a.nl_ c o h t n
  exact b.nl_ c o h1 t n1⟩
theorem Ext.mv {x y : Wd} (e : Ext x y) : Mv x y := ⟨e.pre, fun _ _ h t n => e.nl h t n⟩
section
variable {Y : Rt} {x y : Wd}
theorem Mv.tupC (e : Mv x y) {a : Addr} {vs : List V} (h : TupC Y x.H x.nl a vs) : TupC Y y.H y.nl a vs := by
  rcases h with ⟨h, n⟩ | h
  · rcases h with h | ⟨o, h⟩
    · obtain ⟨h1, n1⟩ := e.nl h (fun _ z => by cases z) n
      exact .inl ⟨.inl h1, n1⟩
    · obtain ⟨h1, n1⟩ := e.nl h (fun _ z => by cases z) n
      exact .inl ⟨.inr ⟨o, h1⟩, n1⟩
  · exact .inr h
theorem Mv.lstC (e : Mv x y) {a : Addr} {vs : List V} (h : LstC x.H x.nl a vs) : LstC y.H y.nl a vs := by
  obtain ⟨h, n⟩ := h
  rcases h with h | ⟨o, h⟩
  · obtain ⟨h1, n1⟩ := e.nl h (fun _ z => by cases z) n
    exact ⟨.inl h1, n1⟩
  · obtain ⟨h1, n1⟩ := e.nl h (fun _ z => by cases z) n
    exact ⟨.inr ⟨o, h1⟩, n1⟩
theorem Mv.dctC (e : Mv x y) {a : Addr} {es : List DictEntry} (h : DctC Y x.H x.nl a es) : DctC Y y.H y.nl a es := by
  rcases h with ⟨h, n⟩ | h
  · obtain ⟨h1, n1⟩ := e.nl h (fun _ z => by cases z) n
    exact .inl ⟨h1, n1⟩
  · exact .inr h
mutual
theorem Mv.pv (e : Mv x y) : ∀ {v : V} {d : D}, PV Y x.H x.nl v d → PV Y y.H y.nl v d
  | _, _, .none => .none
  | _, _, .bool b => .bool b
  | _, _, .int i => .int i
  | _, _, .str s => .str s
  | _, _, .tup h1 h2 => .tup (e.tupC h1) (Mv.pvs e h2)
  | _, _, .lst h1 h2 => .lst (e.lstC h1) (Mv.pvs e h2)
  | _, _, .dct h1 h2 h3 h4 h5 => .dct (e.dctC h1) h2 h3 (Mv.pes e h4) h5
theorem Mv.pvs (e : Mv x y) : ∀ {vs : List V} {ds : List D}, PVs Y x.H x.nl vs ds → PVs Y y.H y.nl vs ds
  | _, _, .nil => .nil
  | _, _, .cons h1 h2 => .cons (Mv.pv e h1) (Mv.pvs e h2)
theorem Mv.pes (e : Mv x y) : ∀ {es : List DictEntry} {kvs : List (D × D)}, PEs Y x.H x.nl es kvs → PEs Y y.H y.nl es kvs
  | _, _, .nil => .nil
  | _, _, .cons h1 h2 h3 h4 h5 h6 h7 => .cons h1 (Mv.pv e h2) h3 h4 h5 (Mv.pv e h6) (Mv.pes e h7)
end
theorem Mv.wv (e : Mv x y) {v : V} {w : W} (h : WV Y x v w) : WV Y y v w := by
  cases h with
  | d h => exact .d (e.pv h)
  | ref h => exact .ref (e.get h)
  | fn f => exact .fn f
theorem Mv.wvs (e : Mv x y) {vs : List V} {ws : List W} (h : WVs Y x vs ws) : WVs Y y vs ws := by
  induction h with
  | nil => exact .nil
  | cons h _ ih => exact .cons (e.wv h) ih
theorem Mv.wes (e : Mv x y) {es : List DictEntry} {ws : List (D × W)} (h : WEs Y x es ws) : WEs Y y es ws := by
  induction h with
  | nil => exact .nil
  | cons h1 h2 h3 h4 h5 h6 _ ih => exact .cons h1 (e.pv h2) h3 h4 h5 (e.wv h6) ih
theorem Mv.wfs (e : Mv x y) {fs : List (Str × V)} {ws : List (String × W)} (h : WFs Y x fs ws) : WFs Y y fs ws := by
  induction h with
  | nil => exact .nil
  | cons h1 _ ih => exact .cons (e.wv h1) ih
theorem Ext.tupC (e : Ext x y) {a : Addr} {vs : List V} (h : TupC Y x.H x.nl a vs) : TupC Y y.H y.nl a vs := e.mv.tupC h
theorem Ext.dctC (e : Ext x y) {a : Addr} {es : List DictEntry} (h : DctC Y x.H x.nl a es) : DctC Y y.H y.nl a es := e.mv.dctC h
theorem Ext.pv (e : Ext x y) {v : V} {d : D} (h : PV Y x.H x.nl v d) : PV Y y.H y.nl v d := e.mv.pv h
theorem Ext.pvs (e : Ext x y) {v : List V} {d : List D} (h : PVs Y x.H x.nl v d) : PVs Y y.H y.nl v d := e.mv.pvs h
theorem Ext.pes (e : Ext x y) {v : List DictEntry} {d : List (D × D)} (h : PEs Y x.H x.nl v d) : PEs Y y.H y.nl v d := e.mv.pes h
theorem Ext.wv (e : Ext x y) {v : V} {w : W} (h : WV Y x v w) : WV Y y v w := e.mv.wv h
theorem Ext.wvs (e : Ext x y) {v : List V} {w : List W} (h : WVs Y x v w) : WVs Y y v w := e.mv.wvs h
theorem Ext.wes (e : Ext x y) {v : List DictEntry} {w : List (D × W)} (h : WEs Y x v w) : WEs Y y v w := e.mv.wes h
theorem Ext.wfs (e : Ext x y) {v : List (Str × V)} {w : List (String × W)} (h : WFs Y x v w) : WFs Y y v w := e.mv.wfs h
theorem Ext.lstC (e : Ext x y) {a : Addr} {vs : List V} (h : LstC x.H x.nl a vs) : LstC y.H y.nl a vs := e.mv.lstC h
/-! lists of values -/
theorem WVs.length {vs : List V} {ws : List W} (h : WVs Y x vs ws) : vs.length = ws.length := by
  induction h with
  | nil => rfl
  | cons _ _ ih => simp [ih]
theorem PVs.length {H : Hp} {nl : Addr → Prop} : ∀ {vs : List V} {ds : List D}, PVs Y H nl vs ds → vs.length = ds.length
  | _, _, .nil => rfl
  | _, _, .cons _ h => by simp [PVs.length h]
theorem WVs.get {vs : List V} {ws : List W} (h : WVs Y x vs ws) : ∀ {i : Nat} {w : W}, ws[i]? = some w → ∃ v, vs[i]? = some v ∧ WV Y x v w := by
  induction h with
  | nil => intro i w e; simp at e
  | cons h _ ih =>
    intro i w e
    cases i with
    | zero => simp at e; subst e; exact ⟨_, rfl, h⟩
    | succ i => obtain ⟨v, e1, e2⟩ := ih (i := i) (w := w) (by simpa using e); exact ⟨v, by simpa using e1, e2⟩
theorem WVs.getV {vs : List V} {ws : List W} (h : WVs Y x vs ws) : ∀ {i : Nat} {v : V}, vs[i]? = some v → ∃ w, ws[i]? = some w ∧ WV Y x v w := by
  induction h with
  | nil => intro i w e; simp at e
  | cons h _ ih =>
    intro i w e
    cases i with
    | zero => simp at e; subst e; exact ⟨_, rfl, h⟩
    | succ i => obtain ⟨v, e1, e2⟩ := ih (i := i) (v := w) (by simpa using e); exact ⟨v, by simpa using e1, e2⟩
theorem WVs.append {vs vs' : List V} {ws ws' : List W} (h : WVs Y x vs ws) (h' : WVs Y x vs' ws') : WVs Y x (vs ++ vs') (ws ++ ws') := by
  induction h with
  | nil => exact h'
  | cons h _ ih => exact .cons h ih
theorem WVs.set {v : V} {w : W} (hv : WV Y x v w) {vs : List V} {ws : List W} (h : WVs Y x vs ws) : ∀ i : Nat, WVs Y x (vs.set i v) (ws.set i w) := by
  induction h with
  | nil => intro i; exact .nil
  | cons h t ih =>
    intro i
    cases i with
    | zero => exact .cons hv t
    | succ i => exact .cons h (ih i)
theorem PVs.wvs : ∀ {vs : List V} {ds : List D}, PVs Y x.H x.nl vs ds → WVs Y x vs (ds.map W.d)
  | _, _, .nil => .nil
  | _, _, .cons h t => .cons (.d h) (PVs.wvs t)
theorem WVs.pvs : ∀ {ws : List W} {vs : List V} {ds : List D}, WVs Y x vs ws → allD ws = some ds → PVs Y x.H x.nl vs ds
  | [], _, _, h, e => by
    cases h
    simp [allD] at e
    subst e
    exact .nil
  | w :: ws, _, ds, h, e => by
    cases h with
    | cons h t =>
      cases h with
      | d h =>
        simp only [allD, Option.map_eq_some_iff] at e
        obtain ⟨r, e1, e2⟩ := e
        subst e2
        exact .cons h (WVs.pvs t e1)
      | ref _ => simp [allD] at e
      | fn _ => simp [allD] at e
end
end FM
end

section
/-! FM3: the judgements, and how they are chained. -/
set_option Elab.async false
set_option linter.all false
set_option maxRecDepth 100000
set_option autoImplicit false
namespace FM
open PySem PySem.Spec PyProof.Rows L2

/-- where the defs, the classes and the tables of code objects stand -/
structure Gd where
  fa : String → Addr
  ca : String → Addr
  tabs : List (Addr × Str)
abbrev yof (G : Gd) (X : Cx) : Rt := ⟨X.prog, X.w, X.K, G.fa, G.ca, G.tabs⟩

structure EnvOk (Y : Rt) (x : Wd) (ρ : Env) (σ : L2.St) : Prop where
  len : ρ.length = σ.length
  at_ : ∀ (i : Nat) (w : W), ρ[i]? = some (some w) → ∃ v, σ[i]? = some (some v) ∧ WV Y x v w
section
variable {Y : Rt} {x y : Wd} {ρ : Env} {σ : L2.St}
theorem EnvOk.ext (h : EnvOk Y x ρ σ) (e : Ext x y) : EnvOk Y y ρ σ := ⟨h.len, fun i w hi => let ⟨v, h1, h2⟩ := h.at_ i w hi; ⟨v, h1, e.wv h2⟩⟩
theorem EnvOk.mv (h : EnvOk Y x ρ σ) (e : Mv x y) : EnvOk Y y ρ σ := ⟨h.len, fun i w hi => let ⟨v, h1, h2⟩ := h.at_ i w hi; ⟨v, h1, e.wv h2⟩⟩
theorem EnvOk.var (h : EnvOk Y x ρ σ) {i : Nat} {w : W} (e : varW ρ i = some w) : ∃ v, σ[i]? = some (some v) ∧ WV Y x v w := by
  refine h.at_ i w ?_
  unfold varW at e
  split at e
  · rename_i u hu
    cases e
    exact hu
  · cases e
theorem EnvOk.set (h : EnvOk Y x ρ σ) {i : Nat} {v : V} {w : W} (hv : WV Y x v w) : EnvOk Y x (ρ.set i (some w)) (σ.set i (some v)) := by
  refine ⟨by simp [h.len], fun j u hj => ?_⟩
  by_cases e : i = j
  · subst e
    by_cases hl : i < ρ.length
    · rw [List.getElem?_set_self hl] at hj
      cases hj
      exact ⟨v, List.getElem?_set_self (by rw [← h.len]; exact hl), hv⟩
    · rw [List.getElem?_eq_none (by simpa using hl)] at hj
      cases hj
  · rw [List.getElem?_set_ne e] at hj
    obtain ⟨v', h1, h2⟩ := h.at_ j u hj
    exact ⟨v', by rw [List.getElem?_set_ne e]; exact h1, h2⟩
theorem EnvOk.wip (h : EnvOk Y x ρ σ) : ∀ vs : List Nat, EnvOk Y x (wip ρ vs) (wipe σ vs)
  | [] => h
  | v :: vs => by
    have ih := EnvOk.wip h vs
    refine ⟨by show ((FM.wip ρ vs).set v none).length = ((L2.wipe σ vs).set v none).length; simp [ih.len], fun j u hj => ?_⟩
    have hj : ((FM.wip ρ vs).set v none)[j]? = some (some u) := hj
    show ∃ v', ((L2.wipe σ vs).set v none)[j]? = some (some v') ∧ _
    by_cases e : v = j
    · subst e
      by_cases hl : v < (FM.wip ρ vs).length
      · rw [List.getElem?_set_self hl] at hj
        cases hj
      · rw [List.getElem?_eq_none (by simpa using hl)] at hj
        cases hj
    · rw [List.getElem?_set_ne e] at hj
      obtain ⟨v', h1, h2⟩ := ih.at_ j u hj
      exact ⟨v', by rw [List.getElem?_set_ne e]; exact h1, h2⟩
/-- an environment that knows less -/
theorem EnvOk.sub {ρ' : Env} (h : EnvOk Y x ρ σ) (hl : ρ'.length = ρ.length) (hs : ∀ (i : Nat) (w : W), ρ'[i]? = some (some w) → ρ[i]? = some (some w)) : EnvOk Y x ρ' σ := ⟨hl.trans h.len, fun i w hi => h.at_ i w (hs i w hi)⟩

/-- an exception as it lies behind its making -/
def ExR (Y : Rt) (y : Wd) (cls : Value) (d : Option Addr) (e : Exn) : Prop :=
  cls = .ref (Y.ca e.c) ∧ ∃ dx fs, d = some dx ∧ y.H dx = some (.xd fs) ∧ y.nl dx ∧ WFs Y y fs e.fs
variable {α β γ δ : Type}
/-- what must hold of an end -/
def rpost (Y : Rt) (Wx : WX) (σ : L2.St) (x : Wd) (rel : Wd → β → α → Prop) (Q : β → Hp → Prop) : Res α → Prop
  | .ok a st' => ∀ v y, Ext x y → SR Y y → y.st = st' → rel y v a → Q v y.H
  | .exn e st' => ∀ cls d y, Ext x y → SR Y y → y.st = st' → ExR Y y cls d e → Wx cls d σ y.H
  | .bad => False
def rd (Y : Rt) (Wx : WX) (rel : Wd → β → α → Prop) (t : Env → Sto → Res α) : L2.St → Hp → (β → Hp → Prop) → Prop :=
  fun σ H Q => ∃ ρ x, x.H = H ∧ SR Y x ∧ EnvOk Y x ρ σ ∧ rpost Y Wx σ x rel Q (t ρ x.st)
theorem rpost_ext {Wx : WX} {rel : Wd → β → α → Prop} {Q : β → Hp → Prop} {r : Res α} (e : Ext x y) (h : rpost Y Wx σ x rel Q r) : rpost Y Wx σ y rel Q r := by
  cases r with
  | ok a st' => exact fun v z e' => h v z (e.trans e')
  | exn a st' => exact fun c d z e' => h c d z (e.trans e')
  | bad => exact h
theorem rpost_bind {Wx : WX} {rel : Wd → β → α → Prop} {rel' : Wd → δ → γ → Prop} {Q : δ → Hp → Prop} {K : β → Hp → Prop} {r : Res α} {f : α → Sto → Res γ}
    (h : rpost Y Wx σ x rel' Q (r.bind f)) (k : ∀ v y a, Ext x y → SR Y y → rel y v a → rpost Y Wx σ y rel' Q (f a y.st) → K v y.H) : rpost Y Wx σ x rel K r := by
  cases r with
  | ok a st' =>
    intro v y e s hy hr
    subst hy
    exact k v y a e s hr (rpost_ext e h)
  | exn a st' => exact h
  | bad => exact h
theorem rpost_imp {Wx : WX} {rel : Wd → β → α → Prop} {Q Q' : β → Hp → Prop} {r : Res α} (h : rpost Y Wx σ x rel Q r) (k : ∀ v H, Q v H → Q' v H) : rpost Y Wx σ x rel Q' r := by
  cases r with
  | ok a st' => exact fun v y e s hy hr => k _ _ (h v y e s hy hr)
  | exn a st' => exact h
  | bad => exact h
/-- the step is done, by an operation on values -/
theorem rpost_of {Wx : WX} {rel : Wd → β → α → Prop} {Q : β → Hp → Prop} {o : Option α} (h : rpost Y Wx σ x rel Q (Res.of o x.st)) : ∃ a, o = some a ∧ ∀ v y, Ext x y → SR Y y → y.st = x.st → rel y v a → Q v y.H := by
  cases o with
  | none => exact h.elim
  | some a => exact ⟨a, rfl, h⟩
end

section
variable {X : Cx} {e : Expr}
theorem _root_.L2.PE.imp {t t' : TE} (h : PE X e t) (k : ∀ σ H Q, t' σ H Q → t σ H Q) : PE X e t' := ⟨fun pins s σ H Q I hq => h.run pins s σ H Q I (k σ H Q hq)⟩
theorem _root_.L2.PT.imp {t t' : TT} (h : PT X e t) (k : ∀ σ H Q, t' σ H Q → t σ H Q) : PT X e t' := ⟨fun pins s σ H Q I hq => h.run pins s σ H Q I (k σ H Q hq)⟩
theorem _root_.L2.PA.imp {es : List Expr} {t t' : TA} (h : PA X es t) (k : ∀ σ H Q, t' σ H Q → t σ H Q) : PA X es t' := ⟨fun pos pins s σ H Q I hq => h.run pos pins s σ H Q I (k σ H Q hq)⟩
theorem _root_.L2.PS.imp {st : Stmt} {t t' : TS} (h : PS X st t) (k : ∀ D σ H, t' D σ H → t D σ H) : PS X st t' := ⟨fun pins s σ H D I hq => h.run pins s σ H D I (k D σ H hq)⟩
theorem _root_.L2.PSs.imp {st : List Stmt} {t t' : TS} (h : PSs X st t) (k : ∀ D σ H, t' D σ H → t D σ H) : PSs X st t' := ⟨fun pins s σ H D I hq => h.run pins s σ H D I (k D σ H hq)⟩
end
/-- an expression, an argument list, a test, by what the evaluator says -/
abbrev FE (G : Gd) (X : Cx) (Wx : WX) (e : Expr) (t : Env → Sto → Res W) : Prop := PE X e (rd (yof G X) Wx (fun y v w => WV (yof G X) y v w) t)
abbrev FA (G : Gd) (X : Cx) (Wx : WX) (es : List Expr) (t : Env → Sto → Res (List W)) : Prop := PA X es (rd (yof G X) Wx (fun y v w => WVs (yof G X) y v w) t)
abbrev FT (G : Gd) (X : Cx) (Wx : WX) (e : Expr) (t : Env → Sto → Res Bool) : Prop := PT X e (rd (yof G X) Wx (fun _ v w => v = w) t)

/-! ### what lies in the real heap -/
section
variable {G : Gd} {X : Cx} {pins : List (Addr × Obj)} {σ : L2.St} {H : Hp} {s : Shared} {nl : Addr → Prop}
theorem TupC.sq {a : Addr} {vs : List V} (h : TupC (yof G X) H nl a vs) : SqT X.K H a vs := by
  rcases h with ⟨h, _⟩ | h
  · exact .inl h
  · exact .inr h
theorem LstC.sq {K : PySem.W.Frag} {a : Addr} {vs : List V} (h : LstC H nl a vs) : SqL K H a vs := .inl h.1
theorem rd_lst (I : Inv X pins σ H s) {a : Addr} {vs : List V} (h : Rd H a (.lst vs)) : ∃ (its : List Value) (n : Nat), Vals vs its ∧ s.heap.get? a = some { cls := .type "list", data := .seq its.toArray n } ∧ vs.length = its.length ∧ vs.length ≤ sizeLine := by
  obtain ⟨z, its, n, r, e⟩ := h.ok I.hok
  exact ⟨its, n, r, e, r.length, z⟩
theorem dctO_at (I : Inv X pins σ H s) {a : Addr} {es : List DictEntry} (h : H a = some (DctO a es)) : ∃ o ep, s.heap.get? a = some o ∧ o.ExactDict ∧ o.data = .dict es.toArray ep := (I.hok a _ h).1
theorem DctC.at_ (I : Inv X pins σ H s) {a : Addr} {es : List DictEntry} (h : DctC (yof G X) H nl a es) : ∃ o ep, s.heap.get? a = some o ∧ o.ExactDict ∧ o.data = .dict es.toArray ep := by
  rcases h with ⟨h, _⟩ | ⟨o, ep, h, h2⟩
  · exact dctO_at I h
  · exact ⟨o, ep, I.kIn a o h, h2⟩
mutual
theorem PV.reads (I : Inv X pins σ H s) : ∀ {v : V} {d : D} {u : Value}, PV (yof G X) H nl v d → RelV v u → ∃ as, Reads s.heap u d as
  | _, _, _, .none, r => by cases r; exact ⟨_, .none⟩
  | _, _, _, .bool b, r => by cases r; exact ⟨_, .bool b⟩
  | _, _, _, .int i, r => by obtain ⟨t, rfl⟩ := r; exact ⟨_, .int i t⟩
  | _, _, _, .str z, r => by obtain ⟨t, rfl⟩ := r; exact ⟨_, .str z t⟩
  | _, _, _, .tup h1 h2, r => by
    cases r
    obtain ⟨its, rv, ⟨o, e, c, n, d⟩, _⟩ := I.tuple h1.sq
    obtain ⟨as, ra⟩ := PVs.reads I h2 rv
    exact ⟨_, .tuple e c d (by simpa using ra)⟩
  | _, _, _, .lst h1 h2, r => by
    cases r
    obtain ⟨its, rv, ⟨o, n, e, c, _, d⟩, _⟩ := I.list h1.sq
    obtain ⟨as, ra⟩ := PVs.reads I h2 rv
    exact ⟨_, .list e c d (by simpa using ra)⟩
  | _, _, _, .dct h1 h2 h3 h4 h5, r => by
    cases r
    obtain ⟨o, ep, e, c, d⟩ := h1.at_ I
    obtain ⟨as, bs, r1, r2⟩ := PEs.reads I h4
    exact ⟨_, .dict e c.1 d (by simpa using r1) (by simpa using r2)⟩
theorem PVs.reads (I : Inv X pins σ H s) : ∀ {vs : List V} {ds : List D} {us : List Value}, PVs (yof G X) H nl vs ds → Vals vs us → ∃ as, ReadsAll s.heap us ds as
  | _, _, _, .nil, r => by cases r; exact ⟨_, .nil⟩
  | _, _, _, .cons h1 h2, r => by
    cases r with
    | cons r1 r2 =>
      obtain ⟨as, q1⟩ := PV.reads I h1 r1
      obtain ⟨bs, q2⟩ := PVs.reads I h2 r2
      exact ⟨_, .cons q1 q2⟩
theorem PEs.reads (I : Inv X pins σ H s) : ∀ {es : List DictEntry} {kvs : List (D × D)}, PEs (yof G X) H nl es kvs → ∃ as bs, ReadsAll s.heap (es.map (·.key)) (kvs.map (·.1)) as ∧ ReadsAll s.heap (es.map (·.val)) (kvs.map (·.2)) bs
  | _, _, .nil => ⟨_, _, .nil, .nil⟩
  | _, _, .cons h1 h2 h3 h4 h5 h6 h7 => by
    obtain ⟨as, q1⟩ := PV.reads I h2 h1
    obtain ⟨bs, q2⟩ := PV.reads I h6 h5
    obtain ⟨cs, ds, q3, q4⟩ := PEs.reads I h7
    exact ⟨_, _, .cons q1 q3, .cons q2 q4⟩
end
end

/-! ### new things -/
theorem nodup_at {α : Type} : ∀ {l : List α}, l.Nodup → ∀ {i j : Nat} {a : α}, l[i]? = some a → l[j]? = some a → i = j
  | [], _, i, j, a, h, _ => by simp at h
  | b :: l, nd, 0, 0, a, _, _ => rfl
  | b :: l, nd, 0, j + 1, a, h1, h2 => by
    simp at h1 h2
    subst h1
    exact ((List.nodup_cons.mp nd).1 (List.mem_of_getElem? h2)).elim
  | b :: l, nd, i + 1, 0, a, h1, h2 => by
    simp at h1 h2
    subst h2
    exact ((List.nodup_cons.mp nd).1 (List.mem_of_getElem? h1)).elim
  | b :: l, nd, i + 1, j + 1, a, h1, h2 => by
    simp at h1 h2
    rw [nodup_at (List.nodup_cons.mp nd).2 h1 h2]
theorem heap_of_size : ∀ n : Nat, ∃ h : Heap, h.objs.size = n
  | 0 => ⟨{ (default : Heap) with objs := #[] }, rfl⟩
  | n + 1 => by
    obtain ⟨h, e⟩ := heap_of_size n
    exact ⟨h.push { cls := .none, data := .plain }, by rw [Heap.size_push, e]⟩
theorem dct_code {a : Addr} {es : List DictEntry} {q : Str} : DctO a es ≠ LamX.CodeO a q := fun z => by
  unfold DctO LamX.CodeO at z
  injection z with z
  obtain ⟨h, e⟩ := heap_of_size a
  have k : ∃ (oc : Obj) (vs : Array Value) (t : Tok), (h.push { cls := .none, data := .fields #[.none, .str q 0] }).get? a = some oc ∧ oc.data = .fields vs ∧ vs[1]? = some (.str q t) :=
    ⟨_, _, 0, by rw [← e]; exact Heap.get?_push_size _ rfl, rfl, rfl⟩
  obtain ⟨o, ep, e1, _, e2⟩ := Eq.mp (congrFun z _).symm k
  have e3 := Heap.get?_push_size h (o := { cls := .none, data := .fields #[.none, .str q 0] }) rfl
  rw [e] at e3
  rw [e3] at e1
  cases e1
  cases e2
section
variable {Y : Rt} {x : Wd}
theorem CellOk.mv {x y : Wd} (e : Mv x y) {a : Addr} {c : Cell} (hH : ∀ o, x.H a = some o → (∀ ps, o ≠ .tbl ps) → y.H a = some o) (h : CellOk Y x a c) : CellOk Y y a c := by
  cases c with
  | lst ws =>
    obtain ⟨vs, h, r⟩ := h
    exact ⟨vs, hH _ h (fun _ z => by cases z), e.wvs r⟩
  | dct kvs =>
    obtain ⟨es, h, h2, h3, r, h4⟩ := h
    exact ⟨es, hH _ h (fun _ z => by cases z), h2, h3, e.wes r, h4⟩
  | ins cc fs =>
    obtain ⟨dx, vs, h, r, nd⟩ := h
    exact ⟨dx, vs, hH _ h (fun _ z => by cases z), e.wfs r, nd⟩
  | dead => exact True.intro
/-- nothing stands there, but a table at the most -/
def NT (x : Wd) (p : Addr) : Prop := ∀ o, x.H p = some o → ∃ ps, o = .tbl ps
theorem NT.of {x : Wd} {p : Addr} (h : x.H p = none) : NT x p := fun o e => by rw [h] at e; cases e
theorem Ext.nt {x y : Wd} (e : Ext x y) {p : Addr} (h : NT y p) : NT x p := fun o k => Classical.byContradiction fun z => by
  obtain ⟨o', h1, h2⟩ := e.dom p o k fun ps q => z ⟨ps, q⟩
  obtain ⟨ps, q⟩ := h o' h1
  exact h2 ps q
/-- a new object that belongs to what is under way -/
theorem new_res {p : Addr} {o : HO} (S : SR Y x) (hn : x.H p = none) (ho : ∀ ps, o ≠ .tbl ps) :
    Ext ⟨p :: x.R, x.μ, x.st, x.H⟩ ⟨p :: x.R, x.μ, x.st, upd x.H p o⟩ ∧ Mv x ⟨p :: x.R, x.μ, x.st, upd x.H p o⟩ ∧ SR Y ⟨p :: x.R, x.μ, x.st, upd x.H p o⟩ := by
  have ne : ∀ {b : Addr} {u : HO}, x.H b = some u → b ≠ p := fun {b u} h z => by rw [z, hn] at h; cases h
  have up : ∀ {b : Addr} {u : HO}, x.H b = some u → upd x.H p o b = some u := fun {b u} h => by rw [upd_ne (ne h)]; exact h
  have hμ : p ∉ x.μ := fun z => by
    obtain ⟨o', h, _⟩ := S.dom p z
    rw [hn] at h; cases h
  have mv : Mv x ⟨p :: x.R, x.μ, x.st, upd x.H p o⟩ := ⟨List.prefix_refl _, fun a u h t n => ⟨up h, fun z => (List.mem_cons.mp z).elim (ne h) n.1, n.2⟩⟩
  refine ⟨⟨rfl, List.prefix_refl _, fun b u h _ n => ⟨up h, n⟩, fun b u h t => ⟨u, up h, t⟩⟩, mv, ⟨S.len, S.nd, fun b hb => ?_, fun b hb => ?_, fun n b c h1 h2 => (S.cell n b c h1 h2).mv mv (fun u h _ => up h), ?_⟩⟩
  · obtain ⟨u, h, t⟩ := S.dom b hb
    exact ⟨u, up h, t⟩
  · rcases List.mem_cons.mp hb with z | z
    · rw [z]
      exact ⟨hμ, _, upd_same, ho⟩
    · obtain ⟨h1, u, h, t⟩ := S.res b z
      exact ⟨h1, u, up h, t⟩
  · exact S.tabs.ext fun b u h => up h
/-- what was under way is done: it stands still -/
theorem res_still {x y : Wd} {p : Addr} (e : Ext ⟨p :: x.R, x.μ, x.st, x.H⟩ y) (S : SR Y y) : Ext x ⟨x.R, y.μ, y.st, y.H⟩ ∧ Mv y ⟨x.R, y.μ, y.st, y.H⟩ ∧ SR Y ⟨x.R, y.μ, y.st, y.H⟩ := by
  have eR : y.R = p :: x.R := e.R
  have mv : Mv y ⟨x.R, y.μ, y.st, y.H⟩ := ⟨List.prefix_refl _, fun a u h t n => ⟨h, fun z => n.1 (by rw [eR]; exact List.mem_cons_of_mem _ z), n.2⟩⟩
  exact ⟨⟨rfl, e.pre, e.keep, e.dom⟩, mv, ⟨S.len, S.nd, S.dom, fun b hb => S.res b (by rw [eR]; exact List.mem_cons_of_mem _ hb), fun n b c h1 h2 => (S.cell n b c h1 h2).mv mv (fun u h _ => h), S.tabs⟩⟩
/-- .. it becomes a cell -/
theorem res_cell {x y : Wd} {p : Addr} {c : Cell} (e : Ext ⟨p :: x.R, x.μ, x.st, x.H⟩ y) (S : SR Y y) (hn : NT x p) (hp : ∃ o, y.H p = some o ∧ (∀ ps, o ≠ .tbl ps) ∧ ∀ q, o ≠ LamX.CodeO p q) (hR : p ∉ x.R) (hc : CellOk Y y p c) :
    Ext x ⟨x.R, y.μ ++ [p], y.st ++ [c], y.H⟩ ∧ Mv y ⟨x.R, y.μ ++ [p], y.st ++ [c], y.H⟩ ∧ SR Y ⟨x.R, y.μ ++ [p], y.st ++ [c], y.H⟩ ∧ WV Y ⟨x.R, y.μ ++ [p], y.st ++ [c], y.H⟩ (.ref p) (.ref y.st.length) := by
  have eR : y.R = p :: x.R := e.R
  have pR : p ∈ y.R := by rw [eR]; exact List.mem_cons_self
  have hμ : p ∉ y.μ := (S.res p pR).1
  have live : ∀ {a : Addr}, Wd.live ⟨x.R, y.μ ++ [p], y.st ++ [c], y.H⟩ a → y.live a ∨ a = p := fun {a} ⟨n, d, h1, h2, h3⟩ => by
    have h1 : (y.μ ++ [p])[n]? = some a := h1
    have h2 : (y.st ++ [c])[n]? = some d := h2
    by_cases hl : n < y.μ.length
    · rw [List.getElem?_append_left hl] at h1
      rw [List.getElem?_append_left (by rw [← S.len]; exact hl)] at h2
      exact .inl ⟨n, d, h1, h2, h3⟩
    · rw [List.getElem?_append_right (by omega)] at h1
      have : n - y.μ.length = 0 := by
        have := (List.getElem?_eq_some_iff.mp h1).1
        simp at this
        omega
      rw [this] at h1
      simp at h1
      exact .inr h1.symm
  have mv : Mv y ⟨x.R, y.μ ++ [p], y.st ++ [c], y.H⟩ := ⟨List.prefix_append _ _, fun a u h t n => ⟨h, fun z => n.1 (by rw [eR]; exact List.mem_cons_of_mem _ z), fun z => (live z).elim n.2 fun q => n.1 (by rw [q]; exact pR)⟩⟩
  refine ⟨⟨rfl, e.pre.trans (List.prefix_append _ _), fun a o h t n => ?_, e.dom⟩, mv, ⟨by simp [S.len], ?_, fun a ha => ?_, fun b hb => ?_, fun n b d h1 h2 => ?_, S.tabs⟩, .ref ?_⟩
  · obtain ⟨h1, n1⟩ := e.keep a o h t n
    exact ⟨h1, fun z => (live z).elim n1 fun q => by
      rw [q] at h
      obtain ⟨ps, z⟩ := hn o h
      exact t ps z⟩
  · exact List.nodup_append.mpr ⟨S.nd, by simp, fun a ha b hb => by
      have : b = p := by simpa using hb
      rw [this]; exact fun z => hμ (by rw [← z]; exact ha)⟩
  · rcases List.mem_append.mp ha with z | z
    · exact S.dom a z
    · have : a = p := by simpa using z
      rw [this]; exact hp
  · have hb : b ∈ x.R := hb
    obtain ⟨h1, u, h, t⟩ := S.res b (by rw [eR]; exact List.mem_cons_of_mem _ hb)
    refine ⟨fun z => ?_, u, h, t⟩
    rcases List.mem_append.mp z with z | z
    · exact h1 z
    · have : b = p := by simpa using z
      rw [this] at hb; exact hR hb
  · have h1 : (y.μ ++ [p])[n]? = some b := h1
    have h2 : (y.st ++ [c])[n]? = some d := h2
    by_cases hl : n < y.μ.length
    · rw [List.getElem?_append_left hl] at h1
      rw [List.getElem?_append_left (by rw [← S.len]; exact hl)] at h2
      exact (S.cell n b d h1 h2).mv mv (fun u h _ => h)
    · rw [List.getElem?_append_right (by omega)] at h1
      rw [List.getElem?_append_right (by rw [← S.len]; omega)] at h2
      have e0 : n - y.μ.length = 0 := by
        have := (List.getElem?_eq_some_iff.mp h1).1
        simp at this
        omega
      rw [e0] at h1
      rw [← S.len, e0] at h2
      simp at h1 h2
      rw [← h1, ← h2]
      exact hc.mv mv (fun u h _ => h)
  · show (y.μ ++ [p])[y.st.length]? = some p
    rw [← S.len, List.getElem?_append_right (Nat.le_refl _)]
    simp
/-- a new object, not live -/
theorem Ext.new {a : Addr} {o : HO} (s : SR Y x) (hn : x.H a = none) (ho : ∀ ps, o ≠ .tbl ps) : Ext x ⟨x.R, x.μ, x.st, upd x.H a o⟩ ∧ SR Y ⟨x.R, x.μ, x.st, upd x.H a o⟩ ∧ Wd.nl ⟨x.R, x.μ, x.st, upd x.H a o⟩ a := by
  have ne : ∀ {b : Addr} {u : HO}, x.H b = some u → b ≠ a := fun {b u} h z => by rw [z, hn] at h; cases h
  have hμ : a ∉ x.μ := fun z => by
    obtain ⟨o', h, _⟩ := s.dom a z
    rw [hn] at h; cases h
  have ext : Ext x ⟨x.R, x.μ, x.st, upd x.H a o⟩ := by
    refine ⟨rfl, List.prefix_refl _, fun b u h _ n => ⟨by show upd x.H a o b = _; rw [upd_ne (ne h)]; exact h, n⟩, fun b u h t => ⟨u, by show upd x.H a o b = _; rw [upd_ne (ne h)]; exact h, t⟩⟩
  refine ⟨ext, ⟨s.len, s.nd, fun b hb => ?_, fun b hb => ?_, fun n b c h1 h2 => ?_, ?_⟩, fun z => ?_, fun ⟨n, c, h1, _⟩ => hμ (List.mem_of_getElem? h1)⟩
  · obtain ⟨u, h, t⟩ := s.dom b hb
    exact ⟨u, by show upd x.H a o b = _; rw [upd_ne (ne h)]; exact h, t⟩
  · obtain ⟨h1, u, h, t⟩ := s.res b hb
    exact ⟨h1, u, by show upd x.H a o b = _; rw [upd_ne (ne h)]; exact h, t⟩
  · have hc := s.cell n b c h1 h2
    cases c with
    | lst ws =>
      obtain ⟨vs, h, r⟩ := hc
      exact ⟨vs, by show upd x.H a o b = _; rw [upd_ne (ne h)]; exact h, ext.wvs r⟩
    | dct kvs =>
      obtain ⟨es, h, h2, h3, r, h4⟩ := hc
      exact ⟨es, by show upd x.H a o b = _; rw [upd_ne (ne h)]; exact h, h2, h3, ext.wes r, h4⟩
    | ins cc fs =>
      obtain ⟨dx, vs, h, r, nd⟩ := hc
      exact ⟨dx, vs, by show upd x.H a o b = _; rw [upd_ne (ne h)]; exact h, ext.wfs r, nd⟩
    | dead => exact True.intro
  · exact s.tabs.ext fun b u h => by show upd x.H a o b = _; rw [upd_ne (ne h)]; exact h
  · obtain ⟨_, u, h, _⟩ := s.res a z
    rw [hn] at h; cases h
theorem nlNew {a : Addr} {o : HO} {H : Hp} : upd H a o a = some o := upd_same
end
end FM
end

section
/-! FM4: operations on values. -/
set_option Elab.async false
set_option linter.all false
set_option maxRecDepth 100000
set_option autoImplicit false
set_option maxHeartbeats 1000000
namespace FM
open PySem PySem.Spec PyProof.Rows L2

theorem SZ_eq : SZ = sizeLine := by rw [sizeLine_eq]; rfl
theorem len_eq (z : Str) : z.length = (tl z).length := by simp [tl, Str.length]

theorem str_app (i j : Str) : (i ++ j : Str) = T (tl i ++ tl j) := by
  show (⟨i.cps ++ j.cps⟩ : Str) = T (tl i ++ tl j)
  cases i; cases j
  simp [T, tl]

/-! ### views -/
inductive VD (Y : Rt) (x : Wd) : V → D → Prop
  | pv {v : V} {d : D} : PV Y x.H x.nl v d → VD Y x v d
  | lst {a : Addr} {vs : List V} {ds : List D} : x.H a = some (.lst vs) → PVs Y x.H x.nl vs ds → VD Y x (.ref a) (.list ds)
  | dct {a : Addr} {es : List DictEntry} {kvs : List (D × D)} : x.H a = some (DctO a es) → (a == sysModules) = false → es.length ≤ sizeLine → PEs Y x.H x.nl es kvs → (kvs.map fun p => nk p.1).Nodup → VD Y x (.ref a) (.dict kvs)
section
variable {Y : Rt} {x : Wd} {v : V} {d : D}
theorem WEs.pes : ∀ {ws : List (D × W)} {es : List DictEntry} {kvs : List (D × D)}, WEs Y x es ws → allDK ws = some kvs → PEs Y x.H x.nl es kvs
  | [], _, _, h, e => by
    cases h
    simp [allDK] at e
    subst e
    exact .nil
  | (k, w) :: ws, _, kvs, h, e => by
    cases h with
    | cons h1 h2 h3 h4 h5 h6 h7 =>
      cases h6 with
      | d h =>
        simp only [allDK, Option.map_eq_some_iff] at e
        obtain ⟨r, e1, e2⟩ := e
        subst e2
        exact .cons h1 h2 h3 h4 h5 h (WEs.pes h7 e1)
      | ref _ => simp [allDK] at e
      | fn _ => simp [allDK] at e
theorem allDK_keys : ∀ {ws : List (D × W)} {kvs : List (D × D)}, allDK ws = some kvs → ws.map (·.1) = kvs.map (·.1)
  | [], _, e => by simp [allDK] at e; subst e; rfl
  | (k, .d u) :: ws, kvs, e => by
    simp only [allDK, Option.map_eq_some_iff] at e
    obtain ⟨r, e1, e2⟩ := e
    subst e2
    simp [allDK_keys e1]
  | (k, .ref n) :: ws, kvs, e => by simp [allDK] at e
  | (k, .fn n) :: ws, kvs, e => by simp [allDK] at e
theorem SR.vw (S : SR Y x) {w : W} (h : WV Y x v w) (e : FM.vw x.st w = some d) : VD Y x v d := by
  cases h with
  | d h => cases e; exact .pv h
  | ref h =>
    rename_i n a
    simp only [FM.vw] at e
    cases hc : x.st[n]? with
    | none => rw [hc] at e; cases e
    | some c =>
      rw [hc] at e
      have hk := S.cell n a c h hc
      cases c with
      | lst ws =>
        obtain ⟨vs, hH, r⟩ := hk
        simp only [Option.map_eq_some_iff] at e
        obtain ⟨ds, e1, e2⟩ := e
        subst e2
        exact .lst hH (r.pvs e1)
      | dct kvs =>
        obtain ⟨es, hH, h2, h3, r, nd⟩ := hk
        simp only [Option.map_eq_some_iff] at e
        obtain ⟨ds, e1, e2⟩ := e
        subst e2
        refine .dct hH h2 h3 (r.pes e1) ?_
        have := allDK_keys e1
        have e3 : (ds.map fun p => nk p.1) = (kvs.map fun p => nk p.1) := by
          have := congrArg (List.map nk) this
          simpa [List.map_map, Function.comp_def] using this.symm
        rw [e3]
        exact nd
      | ins c fs => cases e
      | dead => cases e
  | fn f => cases e
theorem VD.int {i : Int} (h : VD Y x v (.int i)) : v = .int i := by cases h with | pv h => cases h; rfl
theorem VD.bool {b : Bool} (h : VD Y x v (.bool b)) : v = .bl b := by cases h with | pv h => cases h; rfl
theorem VD.none (h : VD Y x v .none) : v = .non := by cases h with | pv h => cases h; rfl
theorem VD.str {z : Str} (h : VD Y x v (.str z)) : v = .str z := by cases h with | pv h => cases h; rfl
theorem VD.list {ds : List D} (h : VD Y x v (.list ds)) : ∃ a vs, v = .ref a ∧ Rd x.H a (.lst vs) ∧ PVs Y x.H x.nl vs ds := by
  cases h with
  | pv h => cases h with | lst h1 h2 => exact ⟨_, _, rfl, h1.1, h2⟩
  | lst h1 h2 => exact ⟨_, _, rfl, .inl h1, h2⟩
theorem VD.tuple {ds : List D} (h : VD Y x v (.tuple ds)) : ∃ a vs, v = .ref a ∧ TupC Y x.H x.nl a vs ∧ PVs Y x.H x.nl vs ds := by
  cases h with
  | pv h => cases h with | tup h1 h2 => exact ⟨_, _, rfl, h1, h2⟩
theorem VD.dict {kvs : List (D × D)} (h : VD Y x v (.dict kvs)) : ∃ a es, v = .ref a ∧ (x.H a = some (DctO a es) ∨ DctK Y.K a es) ∧ (a == sysModules) = false ∧ es.length ≤ sizeLine ∧ PEs Y x.H x.nl es kvs ∧ (kvs.map fun p => nk p.1).Nodup := by
  cases h with
  | pv h => cases h with | dct h1 h2 h3 h4 h5 => exact ⟨_, _, rfl, h1.imp (·.1) id, h2, h3, h4, h5⟩
  | dct h1 h2 h3 h4 h5 => exact ⟨_, _, rfl, .inl h1, h2, h3, h4, h5⟩
end
section
variable {G : Gd} {X : Cx} {pins : List (Addr × Obj)} {σ : L2.St} {s : Shared} {x : Wd}
theorem dct_at (I : Inv X pins σ x.H s) {a : Addr} {es : List DictEntry} (h : x.H a = some (DctO a es) ∨ DctK X.K a es) : ∃ o ep, s.heap.get? a = some o ∧ o.ExactDict ∧ o.data = .dict es.toArray ep := by
  rcases h with h | ⟨o, ep, h, h2⟩
  · exact dctO_at I h
  · exact ⟨o, ep, I.kIn a o h, h2⟩
theorem VD.reads (I : Inv X pins σ x.H s) {v : V} {d : D} {u : Value} (h : VD (yof G X) x v d) (r : RelV v u) : ∃ as, Reads s.heap u d as := by
  cases h with
  | pv h => exact h.reads I r
  | lst h1 h2 =>
    cases r
    obtain ⟨its, n, rv, e, _⟩ := rd_lst I (.inl h1)
    obtain ⟨as, ra⟩ := PVs.reads I h2 rv
    exact ⟨_, .list e rfl rfl (by simpa using ra)⟩
  | dct h1 h2 h3 h4 h5 =>
    cases r
    obtain ⟨o, ep, e, c, d⟩ := dctO_at I h1
    obtain ⟨as, bs, r1, r2⟩ := PEs.reads I h4
    exact ⟨_, .dict e c.1 d (by simpa using r1) (by simpa using r2)⟩
end

/-! ### readings of operations by values -/
/-- what may come behind an operation that leaves the store -/
def After (Y : Rt) (x : Wd) (w : W) (Q : VK) : Prop := ∀ v' y, Ext x y → SR Y y → y.st = x.st → WV Y y v' w → Q v' y.H
def rOp (Y : Rt) (f : Sto → W → W → Option W) : R2 := fun v u H Q => ∃ x a b w, x.H = H ∧ SR Y x ∧ WV Y x v a ∧ WV Y x u b ∧ f x.st a b = some w ∧ After Y x w Q
section
variable {Y : Rt} {x : Wd} {Q : VK}
theorem After.d {v : V} {d : D} (q : After Y x (.d d) Q) (S : SR Y x) (h : PV Y x.H x.nl v d) : Q v x.H := q v x (Ext.refl x) S rfl (.d h)
theorem After.w {v : V} {w : W} (q : After Y x w Q) (S : SR Y x) (h : WV Y x v w) : Q v x.H := q v x (Ext.refl x) S rfl h
/-- a new list of data -/
theorem After.lst {ds : List D} {vs : List V} {p : Addr} (q : After Y x (.d (.list ds)) Q) (S : SR Y x) (h : PVs Y x.H x.nl vs ds) (hn : x.H p = none) : Q (.ref p) (upd x.H p (.lst vs)) := by
  obtain ⟨e, s, n⟩ := Ext.new (o := .lst vs) S hn (fun _ z => by cases z)
  exact q _ _ e s rfl (.d (.lst ⟨.inl upd_same, n⟩ (Ext.pvs e h)))
theorem After.tup {ds : List D} {vs : List V} {p : Addr} (q : After Y x (.d (.tuple ds)) Q) (S : SR Y x) (h : PVs Y x.H x.nl vs ds) (hn : x.H p = none) : Q (.ref p) (upd x.H p (.tup vs)) := by
  obtain ⟨e, s, n⟩ := Ext.new (o := .tup vs) S hn (fun _ z => by cases z)
  exact q _ _ e s rfl (.d (.tup (.inl ⟨.inl upd_same, n⟩) (Ext.pvs e h)))
theorem PVs.append {H : Hp} {nl : Addr → Prop} : ∀ {vs us : List V} {ds es : List D}, PVs Y H nl vs ds → PVs Y H nl us es → PVs Y H nl (vs ++ us) (ds ++ es)
  | _, _, _, _, .nil, h => h
  | _, _, _, _, .cons h t, h' => .cons h (PVs.append t h')
theorem PVs.flat {H : Hp} {nl : Addr → Prop} {vs : List V} {ds : List D} (h : PVs Y H nl vs ds) : ∀ n : Nat, PVs Y H nl (List.replicate n vs).flatten (List.replicate n ds).flatten
  | 0 => .nil
  | n + 1 => by
    simp only [List.replicate_succ, List.flatten_cons]
    exact h.append (PVs.flat h n)
end

section
variable {G : Gd} {X : Cx}
theorem binW_some {st : Sto} {op : BOp} {a b w : W} (h : binW st op a b = some w) : ∃ d1 d2 d, vw st a = some d1 ∧ vw st b = some d2 ∧ binD op d1 d2 = some d ∧ w = .d d := by
  unfold binW at h
  cases h1 : vw st a with
  | none => rw [h1] at h; cases h
  | some d1 =>
    cases h2 : vw st b with
    | none => rw [h1, h2] at h; cases h
    | some d2 =>
      rw [h1, h2] at h
      simp only [Option.map_eq_some_iff] at h
      obtain ⟨d, e1, e2⟩ := h
      exact ⟨d1, d2, d, rfl, rfl, e1, e2.symm⟩
/-- list + list, both as they may be read -/
theorem op_catR : OpR X (binaryOp .Add) (fun x y H Q => ∃ l b xs zs, x = .ref l ∧ y = .ref b ∧ Rd H l (.lst xs) ∧ Rd H b (.lst zs) ∧ xs.length + zs.length ≤ sizeLine ∧ ∀ p, H p = none → Q (.ref p) (upd H p (.lst (xs ++ zs)))) := by
  intro pins s σ H x y v u Q I rx ry h
  obtain ⟨l, b, xs, zs, rfl, rfl, hH, hB, hz, q⟩ := h
  cases rx
  cases ry
  obtain ⟨its, n, r, e, hl, _⟩ := rd_lst I hH
  obtain ⟨its2, n2, r2, e2, hl2, _⟩ := rd_lst I hB
  refine PySem.P.add_list e e2 ?_ (by simp only [List.size_toArray]; omega)
  rw [show its.toArray ++ its2.toArray = (its ++ its2).toArray by simp]
  exact ⟨.ref _, _, I.lnew (t' := s.toks) (r.append r2) (by rw [List.length_append]; exact hz), rfl, q _ I.fresh⟩
theorem ofn_add : OpR X (binaryOp .Add) (rOp (yof G X) fun st => binW st .add) := by
  intro pins s σ H v u vv uu Q I rv ru ⟨x, a, b, w, hx, S, ha, hb, hw, q⟩
  subst hx
  obtain ⟨d1, d2, d, e1, e2, e3, rfl⟩ := binW_some hw
  have h1 := S.vw ha e1
  have h2 := S.vw hb e2
  cases d1 <;> cases d2 <;> simp only [binD] at e3 <;> try cases e3
  · rename_i i j
    obtain rfl := h1.int
    obtain rfl := h2.int
    exact op_add pins s σ _ _ _ _ _ _ I rv ru ⟨i, j, rfl, rfl, q.d S (.int _)⟩
  · rename_i i j
    split at e3 <;> cases e3
    rename_i hz
    obtain rfl := h1.str
    obtain rfl := h2.str
    refine op_add_str pins s σ _ _ _ _ _ _ I rv ru ⟨i, j, rfl, rfl, by rw [len_eq, len_eq, ← SZ_eq]; exact hz, ?_⟩
    have e : (i ++ j : Str) = T (tl i ++ tl j) := str_app i j
    rw [e]
    exact q.d S (.str _)
  · split at e3 <;> cases e3
    rename_i hz
    obtain ⟨a1, v1, rfl, r1, p1⟩ := h1.list
    obtain ⟨a2, v2, rfl, r2, p2⟩ := h2.list
    exact op_catR pins s σ _ _ _ _ _ _ I rv ru ⟨a1, a2, v1, v2, rfl, rfl, r1, r2, by rw [p1.length, p2.length, ← SZ_eq]; exact hz, fun p hp => q.lst S (p1.append p2) hp⟩
  · rename_i xs ys
    split at e3 <;> cases e3
    rename_i hz
    obtain ⟨a1, v1, rfl, r1, p1⟩ := h1.tuple
    obtain ⟨a2, v2, rfl, r2, p2⟩ := h2.tuple
    refine op_catA pins s σ _ _ _ _ _ _ I rv ru ⟨a1, a2, v1, v2, rfl, rfl, r1.sq, r2.sq, by rw [p1.length, p2.length, ← SZ_eq]; exact hz, fun z => ?_, fun _ z => ?_, fun _ _ p hp => q.tup S (p1.append p2) hp⟩
    · subst z
      have : xs = [] := List.eq_nil_of_length_eq_zero (by rw [← p1.length]; rfl)
      subst this
      exact q.d S (.tup r2 p2)
    · subst z
      have : ys = [] := List.eq_nil_of_length_eq_zero (by rw [← p2.length]; rfl)
      subst this
      rw [List.append_nil] at q
      exact q.d S (.tup r1 p1)
theorem ofn_sub : OpR X (binaryOp .Sub) (rOp (yof G X) fun st => binW st .sub) := by
  intro pins s σ H v u vv uu Q I rv ru ⟨x, a, b, w, hx, S, ha, hb, hw, q⟩
  subst hx
  obtain ⟨d1, d2, d, e1, e2, e3, rfl⟩ := binW_some hw
  have h1 := S.vw ha e1
  have h2 := S.vw hb e2
  cases d1 <;> cases d2 <;> simp only [binD] at e3 <;> try cases e3
  rename_i i j
  obtain rfl := h1.int
  obtain rfl := h2.int
  exact op_sub pins s σ _ _ _ _ _ _ I rv ru ⟨i, j, rfl, rfl, q.d S (.int _)⟩
theorem ofn_fdiv : OpR X (binaryOp .FloorDiv) (rOp (yof G X) fun st => binW st .fdiv) := by
  intro pins s σ H v u vv uu Q I rv ru ⟨x, a, b, w, hx, S, ha, hb, hw, q⟩
  subst hx
  obtain ⟨d1, d2, d, e1, e2, e3, rfl⟩ := binW_some hw
  have h1 := S.vw ha e1
  have h2 := S.vw hb e2
  cases d1 <;> cases d2 <;> simp only [binD] at e3 <;> try cases e3
  rename_i i j
  split at e3 <;> cases e3
  rename_i hz
  obtain rfl := h1.int
  obtain rfl := h2.int
  exact op_fdiv pins s σ _ _ _ _ _ _ I rv ru ⟨i, j, rfl, rfl, hz, q.d S (.int _)⟩
theorem ofn_mod : OpR X (binaryOp .Mod) (rOp (yof G X) fun st => binW st .mod) := by
  intro pins s σ H v u vv uu Q I rv ru ⟨x, a, b, w, hx, S, ha, hb, hw, q⟩
  subst hx
  obtain ⟨d1, d2, d, e1, e2, e3, rfl⟩ := binW_some hw
  have h1 := S.vw ha e1
  have h2 := S.vw hb e2
  cases d1 <;> cases d2 <;> simp only [binD] at e3 <;> try cases e3
  rename_i i j
  split at e3 <;> cases e3
  rename_i hz
  obtain rfl := h1.int
  obtain rfl := h2.int
  exact op_mod pins s σ _ _ _ _ _ _ I rv ru ⟨i, j, rfl, rfl, hz, q.d S (.int _)⟩
theorem ofn_pow : OpR X (binaryOp .Pow) (rOp (yof G X) fun st => binW st .pow) := by
  intro pins s σ H v u vv uu Q I rv ru ⟨x, a, b, w, hx, S, ha, hb, hw, q⟩
  subst hx
  obtain ⟨d1, d2, d, e1, e2, e3, rfl⟩ := binW_some hw
  have h1 := S.vw ha e1
  have h2 := S.vw hb e2
  cases d1 <;> cases d2 <;> simp only [binD] at e3 <;> try cases e3
  rename_i i j
  split at e3 <;> cases e3
  rename_i hz
  obtain rfl := h1.int
  obtain rfl := h2.int
  exact op_pow pins s σ _ _ _ _ _ _ I rv ru ⟨i, j, rfl, rfl, hz, q.d S (.int _)⟩
theorem CMulB_ok {i j : Int} (h : CMulB i j = true) : CMul i j := by
  simp only [CMulB, Bool.or_eq_true, Bool.and_eq_true, decide_eq_true_eq] at h
  exact h
theorem flat_fold {α : Type} (xs : Array α) : ∀ (m : Nat) (acc : Array α), (List.replicate m xs).foldl (· ++ ·) acc = acc ++ (List.replicate m xs.toList).flatten.toArray
  | 0, acc => by simp
  | m + 1, acc => by
    rw [List.replicate_succ, List.foldl_cons, flat_fold xs m, List.replicate_succ, List.flatten_cons]
    rw [Array.append_assoc]
    congr 1
    apply Array.toList_inj.mp
    simp
/-- list * int, the list as it may be read -/
theorem op_repR : OpR X (binaryOp .Mult) (fun x y H Q => ∃ l k xs, x = .ref l ∧ y = .int k ∧ Rd H l (.lst xs) ∧ -(2 ^ 63) ≤ k ∧ k < 2 ^ 63 ∧ xs.length * k.toNat ≤ sizeLine ∧ ∀ p, H p = none → Q (.ref p) (upd H p (.lst (List.replicate k.toNat xs).flatten))) := by
  intro pins s σ H x y v u Q I rx ry h
  obtain ⟨l, k, xs, rfl, rfl, hH, b1, b2, hz, q⟩ := h
  cases rx
  obtain ⟨tk, rfl⟩ := ry
  obtain ⟨its, n, rv, e, hl, _⟩ := rd_lst I hH
  have hlen : its.toArray.size * k.toNat ≤ sizeLine := by
    rw [List.size_toArray, ← hl]
    exact hz
  have c1 : ¬ (!Builtin.List.listFitsIndex k) = true := by simp [fitsIndex_both b1 b2]
  have c2 : ¬ its.toArray.size * k.toNat > (2 ^ 63 - 1) / 8 := by
    have z : (sizeLine : Nat) ≤ (2 ^ 63 - 1) / 8 := by decide
    omega
  have c3 : ¬ Builtin.List.listTooLong (its.toArray.size * k.toNat) = true := by rw [notLongL hlen]; exact Bool.false_ne_true
  have enew : List.foldl (fun x1 x2 => x1 ++ x2) #[] (List.replicate (if its.toArray.isEmpty = true then 0 else k.toNat) its.toArray) = (List.replicate k.toNat its).flatten.toArray := by
    rw [flat_fold]
    cases its with
    | nil => simp
    | cons a r => simp
  refine wpAny_binaryOp_repeat_ref (T := "list") (U := "int") (by decide) ⟨_, e, rfl⟩ (fun s' => typeIs_int s' k tk) noFill_list_mul F.fills_int_mul F.slot_int_rmul repeat_list F.slot_int_index.lookup ?_
  refine call_meets F.slot_int_rmul (typeIs_int s k tk) F.entry_int_rmul (F.args_int_rmul_2 _ _) (int___rmul___int_list k tk l its.toArray n) ⟨e, rfl, ⟨_, e, rfl⟩, ?_⟩
  refine call_meets F.slot_list_mul ⟨_, e, rfl⟩ F.entry_list_mul (F.args_list_mul_2 _ _) (AutoListH.list___mul___list_int_3 l its.toArray n k tk c1 c2 c3) ⟨e, ?_⟩
  rw [enew]
  have rl : Vals (List.replicate k.toNat xs).flatten (List.replicate k.toNat its).flatten := by
    generalize k.toNat = m
    induction m with
    | zero => exact .nil
    | succ m ih =>
      simp only [List.replicate_succ, List.flatten_cons]
      exact rv.append ih
  have ll : (List.replicate k.toNat xs).flatten.length ≤ sizeLine := by
    simp only [List.length_flatten, List.map_replicate, List.sum_replicate_nat]
    rw [Nat.mul_comm]
    exact hz
  exact ⟨.ref _, _, I.lnew (t' := s.toks) rl ll, rfl, q _ I.fresh⟩
theorem flat_str (z : Str) (m : Nat) : (⟨(List.replicate m z.cps).foldl (· ++ ·) #[]⟩ : Str) = T (List.replicate m (tl z)).flatten := by
  rw [flat_fold]
  cases z
  simp [T, tl]
theorem op_mul_str : OpR X (binaryOp .Mult) (fun x y H Q => ∃ z k, x = .str z ∧ y = .int k ∧ k < 2 ^ 62 ∧ -(2 ^ 63) ≤ k ∧ (tl z).length * k.toNat ≤ SZ ∧ Q (.str (T (List.replicate k.toNat (tl z)).flatten)) H) := by
  intro pins s σ H x y v u Q I rx ry h
  obtain ⟨z, k, rfl, rfl, b1, b0, hz, q⟩ := h
  obtain ⟨t, rfl⟩ := rx
  obtain ⟨t', rfl⟩ := ry
  rw [SZ_eq, sizeLine_eq] at hz
  refine PySem.P.mul_str (by rw [decide_eq_false (by omega), decide_eq_false (by omega)]; rfl) (fun h1 _ h3 => ?_) (fun h1 _ => ?_) ?_
  · rw [len_eq] at h3
    have e : (((tl z).length * k.toNat : Nat) : Int) = ((tl z).length : Int) * k := by
      rw [Int.natCast_mul, Int.toNat_of_nonneg (by omega)]
    have h4 : ((tl z).length : Int) * k ≤ 16777216 := by omega
    have h5 : (2 ^ 63 - 1 : Int) / k * k ≤ 16777216 := Int.le_trans (Int.mul_le_mul_of_nonneg_right (Int.le_of_lt h3) (by omega)) h4
    have h6 := Int.emod_lt_of_pos (2 ^ 63 - 1 : Int) (show 0 < k by omega)
    have h7 := Int.emod_def (2 ^ 63 - 1 : Int) k
    rw [Int.mul_comm] at h7
    have big : (33554432 : Int) ≤ 2 ^ 63 - 1 := by decide
    have hk : k ≤ 16777216 ∨ (tl z).length = 0 := by
      by_cases z0 : (tl z).length = 0
      · exact .inr z0
      · refine .inl (Int.le_trans ?_ h4)
        have := Int.mul_le_mul_of_nonneg_right (show (1 : Int) ≤ ((tl z).length : Int) by omega) (show 0 ≤ k by omega)
        omega
    rcases hk with hk | hk
    · have h8 : (2 ^ 63 - 1 : Int) = 9223372036854775807 := by decide
      rw [h8] at h5 h6 h7
      omega
    · rw [hk] at h3
      have h9 : (0 : Int) ≤ (2 ^ 63 - 1) / k := Int.ediv_nonneg (by decide) (by omega)
      omega
  · rw [len_eq]
    have hs : sizeLine = 16777216 := sizeLine_eq
    unfold Builtin.Str.tooLong
    simp only [decide_eq_false_iff_not]
    omega
  · by_cases h1 : k < 1
    · rw [if_pos h1]
      have e : k.toNat = 0 := by omega
      rw [e] at q
      exact ⟨by decide, ⟨.str _, H, I.tok _, ⟨_, rfl⟩, q⟩⟩
    · rw [if_neg h1]
      by_cases h2 : (k == 1 || z.length == 0) = true
      · rw [if_pos h2]
        have e : T (List.replicate k.toNat (tl z)).flatten = z := by
          simp only [Bool.or_eq_true, beq_iff_eq] at h2
          rcases h2 with h2 | h2
          · subst h2
            simp
          · rw [len_eq] at h2
            have e : tl z = [] := List.eq_nil_of_length_eq_zero h2
            rw [e, ← T_tl z, e]
            simp
        rw [e] at q
        exact ⟨.str z, H, I, ⟨_, rfl⟩, q⟩
      · rw [if_neg h2, flat_str]
        refine ⟨?_, ⟨.str _, H, I.tok _, ⟨_, rfl⟩, q⟩⟩
        rw [len_eq, tl_T, sizeLine_eq]
        simp only [List.length_flatten, List.map_replicate, List.sum_replicate_nat]
        rw [Nat.mul_comm]
        exact hz
theorem ofn_mul : OpR X (binaryOp .Mult) (rOp (yof G X) fun st => binW st .mul) := by
  intro pins s σ H v u vv uu Q I rv ru ⟨x, a, b, w, hx, S, ha, hb, hw, q⟩
  subst hx
  obtain ⟨d1, d2, d, e1, e2, e3, rfl⟩ := binW_some hw
  have h1 := S.vw ha e1
  have h2 := S.vw hb e2
  cases d1 <;> cases d2 <;> simp only [binD] at e3 <;> try cases e3
  · rename_i i j
    split at e3 <;> cases e3
    rename_i hz
    obtain rfl := h1.int
    obtain rfl := h2.int
    exact op_mul pins s σ _ _ _ _ _ _ I rv ru ⟨i, j, rfl, rfl, CMulB_ok hz, q.d S (.int _)⟩
  · rename_i i j
    split at e3 <;> cases e3
    rename_i hz
    obtain rfl := h1.str
    obtain rfl := h2.int
    by_cases hn : -(2 ^ 63) ≤ j
    · exact op_mul_str pins s σ _ _ _ _ _ _ I rv ru ⟨i, j, rfl, rfl, hz.2.1, hn, hz.1, q.d S (.str _)⟩
    · exact (hn (by have := hz.2.2; omega)).elim
  · rename_i i j
    split at e3 <;> cases e3
    rename_i hz
    obtain ⟨a1, v1, rfl, r1, p1⟩ := h1.list
    obtain rfl := h2.int
    refine op_repR pins s σ _ _ _ _ _ _ I rv ru ⟨a1, j, v1, rfl, rfl, r1, by have := hz.2.2; omega, by have := hz.2.1; omega, by rw [p1.length, ← SZ_eq]; exact hz.1, fun p hp => q.lst S (p1.flat _) hp⟩
end
end FM
end

section
/-! FM5: comparisons. -/
set_option Elab.async false
set_option linter.all false
set_option maxRecDepth 100000
set_option autoImplicit false
set_option maxHeartbeats 1000000
namespace FM
open PySem PySem.Spec PyProof.Rows L2

/-! ### the evaluator's words are the library's -/
mutual
theorem eqD_eqv : ∀ x y : D, eqD x y = PyData.eqv x y
  | .none, y => by cases y <;> simp [eqD, PyData.eqv]
  | .bool _, y => by cases y <;> simp [eqD, PyData.eqv]
  | .int _, y => by cases y <;> simp [eqD, PyData.eqv]
  | .str _, y => by cases y <;> simp [eqD, PyData.eqv]
  | .list xs, y => by cases y <;> simp [eqD, PyData.eqv, eqAll_eqv]
  | .tuple xs, y => by cases y <;> simp [eqD, PyData.eqv, eqAll_eqv]
  | .dict _, y => by cases y <;> simp [eqD, PyData.eqv]
theorem eqAll_eqv : ∀ xs ys : List D, eqAll xs ys = PyData.eqvAll xs ys
  | [], [] => by simp [eqAll, PyData.eqvAll]
  | [], _ :: _ => by simp [eqAll, PyData.eqvAll]
  | _ :: _, [] => by simp [eqAll, PyData.eqvAll]
  | x :: xs, y :: ys => by simp [eqAll, PyData.eqvAll, eqD_eqv x y, eqAll_eqv xs ys]
end
mutual
theorem dep_depth : ∀ x : D, dep x = x.depth
  | .none => by simp [dep, PyData.depth]
  | .bool _ => by simp [dep, PyData.depth]
  | .int _ => by simp [dep, PyData.depth]
  | .str _ => by simp [dep, PyData.depth]
  | .list xs => by simp [dep, PyData.depth, depAll_depth xs]
  | .tuple xs => by simp [dep, PyData.depth, depAll_depth xs]
  | .dict kvs => by simp [dep, PyData.depth, depKv_depth kvs]
theorem depAll_depth : ∀ xs : List D, depAll xs = PyData.depthAll xs
  | [] => by simp [depAll, PyData.depthAll]
  | x :: xs => by simp [depAll, PyData.depthAll, dep_depth x, depAll_depth xs]
theorem depKv_depth : ∀ xs : List (D × D), depKv xs = PyData.depthKv xs
  | [] => by simp [depKv, PyData.depthKv]
  | (a, b) :: xs => by simp [depKv, PyData.depthKv, dep_depth a, dep_depth b, depKv_depth xs]
end
mutual
theorem eqD_comm : ∀ x y : D, eqD x y = eqD y x
  | .none, y => by cases y <;> simp [eqD]
  | .bool a, y => by
    cases y <;> simp only [eqD]
    · exact Bool.beq_comm
    · exact Bool.beq_comm
  | .int i, y => by
    cases y <;> simp only [eqD]
    · exact Bool.beq_comm
    · exact Bool.beq_comm
  | .str a, y => by
    cases y <;> simp [eqD]
    exact Bool.beq_comm
  | .list xs, y => by
    cases y <;> simp [eqD]
    exact eqAll_comm xs _
  | .tuple xs, y => by
    cases y <;> simp [eqD]
    exact eqAll_comm xs _
  | .dict _, y => by cases y <;> simp [eqD]
theorem eqAll_comm : ∀ xs ys : List D, eqAll xs ys = eqAll ys xs
  | [], [] => rfl
  | [], _ :: _ => rfl
  | _ :: _, [] => rfl
  | x :: xs, y :: ys => by
    show (eqD x y && eqAll xs ys) = (eqD y x && eqAll ys xs)
    rw [eqD_comm x y, eqAll_comm xs ys]
end
theorem ltL_iff : ∀ a b : List Nat, ltL a b = decide (a < b)
  | [], [] => by simp [ltL]
  | [], _ :: _ => by simp [ltL]
  | _ :: _, [] => by simp [ltL]
  | a :: x, b :: y => by
    rw [ltL, ltL_iff x y]
    by_cases h : a = b
    · subst h
      rw [if_pos rfl]
      simp [List.cons_lt_cons_iff]
    · rw [if_neg h]
      simp [List.cons_lt_cons_iff, h]

/-! ### == -/
mutual
theorem eqD_refl : ∀ {x : D}, nod x = true → eqD x x = true
  | .none, _ => by simp [eqD]
  | .bool _, _ => by simp [eqD]
  | .int _, _ => by simp [eqD]
  | .str _, _ => by simp [eqD]
  | .list xs, h => by simp only [eqD]; exact eqAll_refl (by simpa [nod] using h)
  | .tuple xs, h => by simp only [eqD]; exact eqAll_refl (by simpa [nod] using h)
  | .dict _, h => by simp [nod] at h
theorem eqAll_refl : ∀ {xs : List D}, nodAll xs = true → eqAll xs xs = true
  | [], _ => by simp [eqAll]
  | x :: xs, h => by
    simp only [nodAll, Bool.and_eq_true] at h
    simp [eqAll, eqD_refl h.1, eqAll_refl h.2]
end
theorem nodAll_get : ∀ {xs : List D} {j : Nat} {x : D}, nodAll xs = true → xs[j]? = some x → nod x = true
  | [], _, _, _, h => by simp at h
  | a :: xs, 0, x, h, e => by
    simp only [nodAll, Bool.and_eq_true] at h
    simp at e
    subst e
    exact h.1
  | a :: xs, j + 1, x, h, e => by
    simp only [nodAll, Bool.and_eq_true] at h
    exact nodAll_get h.2 (by simpa using e)
theorem depAll_get : ∀ {xs : List D} {j : Nat} {x : D}, xs[j]? = some x → dep x ≤ depAll xs
  | [], _, _, h => by simp at h
  | a :: xs, 0, x, h => by
    simp at h
    subst h
    simp only [depAll]
    omega
  | a :: xs, j + 1, x, h => by
    have := depAll_get (xs := xs) (j := j) (x := x) (by simpa using h)
    simp only [depAll]
    omega
theorem readsAll_get {h : Heap} : ∀ {vs : List Value} {ds : List D} {as : List Addr} {j : Nat} {v : Value}, ReadsAll h vs ds as → vs[j]? = some v → ∃ d bs, ds[j]? = some d ∧ Reads h v d bs
  | _, _, _, _, _, .nil, e => by simp at e
  | _, _, _, 0, _, .cons h1 _, e => by simp at e; subst e; exact ⟨_, _, rfl, h1⟩
  | _, _, _, j + 1, _, .cons _ h2, e => by
    obtain ⟨d, bs, e1, e2⟩ := readsAll_get (j := j) h2 (by simpa using e)
    exact ⟨d, bs, by simpa using e1, e2⟩
theorem readsAll_len {h : Heap} : ∀ {vs : List Value} {ds : List D} {as : List Addr}, ReadsAll h vs ds as → vs.length = ds.length
  | _, _, _, .nil => rfl
  | _, _, _, .cons _ h2 => by simp [readsAll_len h2]
open SeqAt in
theorem pairEq_eqD {xs ys : List D} {j : Nat} {x y : D} (h1 : xs[j]? = some x) (h2 : ys[j]? = some y) : pairEq xs ys j = eqD x y := by
  unfold pairEq
  rw [List.getD_eq_getElem?_getD, List.getD_eq_getElem?_getD, h1, h2, eqD_eqv]
  rfl
open SeqAt in
/-- == of two values that read as data: the sequences' items are asked by ih -/
theorem rcAtN {n : Nat} (ih : ∀ (da db : D) (A : Around) (s : Shared) (a b : Value) (as bs : List Addr), dep da < n → Reads s.heap a da as → Reads s.heap b db bs → nod da = true → nod db = true → A.units + min (dep da) (dep db) < cLine → EqAt A s a b (eqD da db))
    (da db : D) (A : Around) (s : Shared) (a b : Value) (as bs : List Addr) (hn : dep da ≤ n) (ra : Reads s.heap a da as) (rb : Reads s.heap b db bs) (na : nod da = true) (nb : nod db = true)
    (hu : A.units + min (dep da) (dep db) < cLine) : RcAt A s a b (eqD da db) := by
  have hu0 : A.units < cLine := by omega
  have items : ∀ (xs ys : List D) (vs ws : Array Value) (as bs : List Addr), nodAll xs = true → nodAll ys = true → depAll xs < n → A.units + 1 + min (depAll xs) (depAll ys) < cLine → ReadsAll s.heap vs.toList xs as → ReadsAll s.heap ws.toList ys bs →
      ∀ (j : Nat) (h1 : j < vs.size) (h2 : j < ws.size), EqAt A.in1 s vs[j] ws[j] (pairEq xs ys j) := fun xs ys vs ws as bs na nb hd hu ra rb j h1 h2 => by
    obtain ⟨x, cs, e1, r1⟩ := readsAll_get (j := j) (v := vs[j]) ra (by simp [h1])
    obtain ⟨y, ds, e2, r2⟩ := readsAll_get (j := j) (v := ws[j]) rb (by simp [h2])
    rw [pairEq_eqD e1 e2]
    have d1 := depAll_get e1
    have d2 := depAll_get e2
    have l1 := Nat.min_le_left (dep x) (dep y)
    have l2 := Nat.min_le_right (dep x) (dep y)
    refine ih x y A.in1 s _ _ cs ds (by omega) r1 r2 (nodAll_get na e1) (nodAll_get nb e2) ?_
    show A.units + 1 + min (dep x) (dep y) < cLine
    omega
  cases ra with
  | dict => simp [nod] at na
  | none =>
    cases rb with
    | dict => simp [nod] at nb
    | none => exact RcAt.none_none
    | bool y => exact RcAt.none_bool y
    | int y u => exact RcAt.none_int y u
    | str y u => exact RcAt.none_str y u
    | list k1 k2 k3 k4 => exact RcAt.none_list ⟨_, k1, k2, _, k3⟩ hu0
    | tuple k1 k2 k3 k4 => exact RcAt.none_tuple ⟨_, k1, k2, _, k3⟩ hu0
  | bool x =>
    cases rb with
    | dict => simp [nod] at nb
    | none => exact RcAt.bool_none x
    | bool y => exact RcAt.bool_bool x y
    | int y u => exact RcAt.bool_int x y u
    | str y u => exact RcAt.bool_str x y u
    | list k1 k2 k3 k4 => exact RcAt.bool_list x ⟨_, k1, k2, _, k3⟩ hu0
    | tuple k1 k2 k3 k4 => exact RcAt.bool_tuple x ⟨_, k1, k2, _, k3⟩ hu0
  | int x t =>
    cases rb with
    | dict => simp [nod] at nb
    | none => exact RcAt.int_none x t
    | bool y => exact RcAt.int_bool x t y
    | int y u => exact RcAt.int_int x t y u
    | str y u => exact RcAt.int_str x t y u
    | list k1 k2 k3 k4 => exact RcAt.int_list x t ⟨_, k1, k2, _, k3⟩ hu0
    | tuple k1 k2 k3 k4 => exact RcAt.int_tuple x t ⟨_, k1, k2, _, k3⟩ hu0
  | str x t =>
    cases rb with
    | dict => simp [nod] at nb
    | none => exact RcAt.str_none x t
    | bool y => exact RcAt.str_bool x t y
    | int y u => exact RcAt.str_int x t y u
    | str y u => exact RcAt.str_str x t y u
    | list k1 k2 k3 k4 => exact RcAt.str_list x t ⟨_, k1, k2, _, k3⟩ hu0
    | tuple k1 k2 k3 k4 => exact RcAt.str_tuple x t ⟨_, k1, k2, _, k3⟩ hu0
  | @list l o vs m xs as₁ h1 h2 h3 h4 =>
    have hl : s.heap.IsList l vs := ⟨_, h1, h2, _, h3⟩
    cases rb with
    | dict => simp [nod] at nb
    | none => exact RcAt.list_none hl hu0
    | bool y => exact RcAt.list_bool y hl hu0
    | int y u => exact RcAt.list_int y u hl hu0
    | str y u => exact RcAt.list_str y u hl hu0
    | tuple k1 k2 k3 k4 => exact RcAt.list_tuple hl ⟨_, k1, k2, _, k3⟩ hu0
    | @list l' o' vs' m' ys bs₁ k1 k2 k3 k4 =>
      have hl' : s.heap.IsList l' vs' := ⟨_, k1, k2, _, k3⟩
      have n1 : vs.size = xs.length := by simpa using readsAll_len h4
      have n2 : vs'.size = ys.length := by simpa using readsAll_len k4
      have na' : nodAll xs = true := by simpa [nod] using na
      have nb' : nodAll ys = true := by simpa [nod] using nb
      have dn : depAll xs < n := by simp only [dep] at hn; omega
      simp only [dep] at hu
      show RcAt A s (.ref l) (.ref l') (eqD (.list xs) (.list ys))
      rw [show eqD (.list xs) (.list ys) = PyData.eqvAll xs ys by simp only [eqD]; exact eqAll_eqv xs ys]
      by_cases hsz : vs.size = vs'.size
      · rw [← eqvAll_same_length (by omega : xs.length = ys.length), ← n1]
        exact RcAt.lists hl hl' hsz hu0 (items xs ys vs vs' _ _ na' nb' dn (by omega) h4 k4)
      · rw [eqvAll_other_length (by omega : xs.length ≠ ys.length)]
        exact RcAt.lists_lengths hl hl' (by simpa using hsz) hu0
  | @tuple l o vs m xs as₁ h1 h2 h3 h4 =>
    have hl : s.heap.IsTuple l vs := ⟨_, h1, h2, _, h3⟩
    cases rb with
    | dict => simp [nod] at nb
    | none => exact RcAt.tuple_none hl hu0
    | bool y => exact RcAt.tuple_bool y hl hu0
    | int y u => exact RcAt.tuple_int y u hl hu0
    | str y u => exact RcAt.tuple_str y u hl hu0
    | list k1 k2 k3 k4 => exact RcAt.tuple_list hl ⟨_, k1, k2, _, k3⟩ hu0
    | @tuple l' o' vs' m' ys bs₁ k1 k2 k3 k4 =>
      have hl' : s.heap.IsTuple l' vs' := ⟨_, k1, k2, _, k3⟩
      have n1 : vs.size = xs.length := by simpa using readsAll_len h4
      have n2 : vs'.size = ys.length := by simpa using readsAll_len k4
      have na' : nodAll xs = true := by simpa [nod] using na
      have nb' : nodAll ys = true := by simpa [nod] using nb
      have dn : depAll xs < n := by simp only [dep] at hn; omega
      simp only [dep] at hu
      show RcAt A s (.ref l) (.ref l') (eqD (.tuple xs) (.tuple ys))
      rw [show eqD (.tuple xs) (.tuple ys) = PyData.eqvAll xs ys by simp only [eqD]; exact eqAll_eqv xs ys, ← eqvAll_eq xs ys, ← n1, ← n2]
      exact RcAt.tuples hl hl' hu0 (items xs ys vs vs' _ _ na' nb' dn (by omega) h4 k4)
open SeqAt in
theorem eqAtN : ∀ (n : Nat) (da db : D) (A : Around) (s : Shared) (a b : Value) (as bs : List Addr), dep da < n → Reads s.heap a da as → Reads s.heap b db bs → nod da = true → nod db = true →
    A.units + min (dep da) (dep db) < cLine → EqAt A s a b (eqD da db) := by
  intro n
  induction n with
  | zero => intro da db A s a b as bs h; omega
  | succ n ih =>
    intro da db A s a b as bs hn ra rb na nb hu
    have rc : RcAt A s a b (eqD da db) := rcAtN (n := n) ih da db A s a b as bs (by omega) ra rb na nb hu
    have hu0 : A.units < cLine := by omega
    cases ra with
    | dict => simp [nod] at na
    | none =>
      cases rb with
      | dict => simp [nod] at nb
      | none => exact EqAt.same _
      | bool y => exact EqAt.none_bool y
      | int y u => exact EqAt.none_int y u
      | str y u => exact EqAt.none_str y u
      | list k1 k2 k3 k4 => exact EqAt.none_list ⟨_, k1, k2, _, k3⟩ hu0
      | tuple k1 k2 k3 k4 => exact EqAt.none_tuple ⟨_, k1, k2, _, k3⟩ hu0
    | bool x =>
      cases rb with
      | dict => simp [nod] at nb
      | none => exact EqAt.bool_none x
      | bool y => exact EqAt.bool_bool x y
      | int y u => exact EqAt.bool_int x y u
      | str y u => exact EqAt.bool_str x y u
      | list k1 k2 k3 k4 => exact EqAt.bool_list x ⟨_, k1, k2, _, k3⟩ hu0
      | tuple k1 k2 k3 k4 => exact EqAt.bool_tuple x ⟨_, k1, k2, _, k3⟩ hu0
    | int x t =>
      cases rb with
      | dict => simp [nod] at nb
      | none => exact EqAt.int_none x t
      | bool y => exact EqAt.int_bool x t y
      | int y u => exact EqAt.int_int x t y u
      | str y u => exact EqAt.int_str x t y u
      | list k1 k2 k3 k4 => exact EqAt.int_list x t ⟨_, k1, k2, _, k3⟩ hu0
      | tuple k1 k2 k3 k4 => exact EqAt.int_tuple x t ⟨_, k1, k2, _, k3⟩ hu0
    | str x t =>
      cases rb with
      | dict => simp [nod] at nb
      | none => exact EqAt.str_none x t
      | bool y => exact EqAt.str_bool x t y
      | int y u => exact EqAt.str_int x t y u
      | str y u => exact EqAt.str_str x t y u
      | list k1 k2 k3 k4 => exact EqAt.str_list x t ⟨_, k1, k2, _, k3⟩ hu0
      | tuple k1 k2 k3 k4 => exact EqAt.str_tuple x t ⟨_, k1, k2, _, k3⟩ hu0
    | @list l o vs m xs as₁ h1 h2 h3 h4 =>
      have hl : s.heap.IsList l vs := ⟨_, h1, h2, _, h3⟩
      cases rb with
      | dict => simp [nod] at nb
      | none => exact EqAt.list_none hl hu0
      | bool y => exact EqAt.list_bool y hl hu0
      | int y u => exact EqAt.list_int y u hl hu0
      | str y u => exact EqAt.list_str y u hl hu0
      | tuple k1 k2 k3 k4 => exact EqAt.list_tuple hl ⟨_, k1, k2, _, k3⟩ hu0
      | @list l' o' vs' m' ys bs₁ k1 k2 k3 k4 =>
        by_cases hll : l = l'
        · subst hll
          obtain ⟨e, _⟩ := PyProof.Rows.reads_det (fun _ _ e _ => e) (Reads.list h1 h2 h3 h4) (Reads.list k1 k2 k3 k4)
          rw [e, eqD_refl na]
          exact EqAt.same _
        · exact EqAt.of_refs hll rc
    | @tuple l o vs m xs as₁ h1 h2 h3 h4 =>
      have hl : s.heap.IsTuple l vs := ⟨_, h1, h2, _, h3⟩
      cases rb with
      | dict => simp [nod] at nb
      | none => exact EqAt.tuple_none hl hu0
      | bool y => exact EqAt.tuple_bool y hl hu0
      | int y u => exact EqAt.tuple_int y u hl hu0
      | str y u => exact EqAt.tuple_str y u hl hu0
      | list k1 k2 k3 k4 => exact EqAt.tuple_list hl ⟨_, k1, k2, _, k3⟩ hu0
      | @tuple l' o' vs' m' ys bs₁ k1 k2 k3 k4 =>
        by_cases hll : l = l'
        · subst hll
          obtain ⟨e, _⟩ := PyProof.Rows.reads_det (fun _ _ e _ => e) (Reads.tuple h1 h2 h3 h4) (Reads.tuple k1 k2 k3 k4)
          rw [e, eqD_refl na]
          exact EqAt.same _
        · exact EqAt.of_refs hll rc
open SeqAt in
theorem eqAtD {da db : D} {A : Around} {s : Shared} {a b : Value} {as bs : List Addr} (ra : Reads s.heap a da as) (rb : Reads s.heap b db bs) (na : nod da = true) (nb : nod db = true) (hu : A.units + min (dep da) (dep db) < cLine) : EqAt A s a b (eqD da db) :=
  eqAtN _ da db A s a b as bs (Nat.lt_succ_self _) ra rb na nb hu
open SeqAt in
theorem rcAtD {da db : D} {A : Around} {s : Shared} {a b : Value} {as bs : List Addr} (ra : Reads s.heap a da as) (rb : Reads s.heap b db bs) (na : nod da = true) (nb : nod db = true) (hu : A.units + min (dep da) (dep db) < cLine) : RcAt A s a b (eqD da db) :=
  rcAtN (fun da db A s a b as bs => eqAtN _ da db A s a b as bs) da db A s a b as bs (Nat.le_refl _) ra rb na nb hu
open SeqAt in
/-- != of two values that read as data: the sequences' items are asked by ih -/
theorem rcNeN {n : Nat} (ih : ∀ (da db : D) (A : Around) (s : Shared) (a b : Value) (as bs : List Addr), dep da < n → Reads s.heap a da as → Reads s.heap b db bs → nod da = true → nod db = true → A.units + min (dep da) (dep db) < cLine → EqAt A s a b (eqD da db))
    (da db : D) (A : Around) (s : Shared) (a b : Value) (as bs : List Addr) (hn : dep da ≤ n) (ra : Reads s.heap a da as) (rb : Reads s.heap b db bs) (na : nod da = true) (nb : nod db = true)
    (hu : A.units + min (dep da) (dep db) < cLine) : RcNeAt A s a b (!eqD da db) := by
  have hu0 : A.units < cLine := by omega
  have items : ∀ (xs ys : List D) (vs ws : Array Value) (as bs : List Addr), nodAll xs = true → nodAll ys = true → depAll xs < n → A.units + 1 + min (depAll xs) (depAll ys) < cLine → ReadsAll s.heap vs.toList xs as → ReadsAll s.heap ws.toList ys bs →
      ∀ (j : Nat) (h1 : j < vs.size) (h2 : j < ws.size), EqAt A.in1 s vs[j] ws[j] (pairEq xs ys j) := fun xs ys vs ws as bs na nb hd hu ra rb j h1 h2 => by
    obtain ⟨x, cs, e1, r1⟩ := readsAll_get (j := j) (v := vs[j]) ra (by simp [h1])
    obtain ⟨y, ds, e2, r2⟩ := readsAll_get (j := j) (v := ws[j]) rb (by simp [h2])
    rw [pairEq_eqD e1 e2]
    have d1 := depAll_get e1
    have d2 := depAll_get e2
    have l1 := Nat.min_le_left (dep x) (dep y)
    have l2 := Nat.min_le_right (dep x) (dep y)
    refine ih x y A.in1 s _ _ cs ds (by omega) r1 r2 (nodAll_get na e1) (nodAll_get nb e2) ?_
    show A.units + 1 + min (dep x) (dep y) < cLine
    omega
  cases ra with
  | dict => simp [nod] at na
  | none =>
    cases rb with
    | dict => simp [nod] at nb
    | none => exact RcNeAt.none_none
    | bool y => exact RcNeAt.none_bool y
    | int y u => exact RcNeAt.none_int y u
    | str y u => exact RcNeAt.none_str y u
    | list k1 k2 k3 k4 => exact RcNeAt.none_list ⟨_, k1, k2, _, k3⟩ hu0
    | tuple k1 k2 k3 k4 => exact RcNeAt.none_tuple ⟨_, k1, k2, _, k3⟩ hu0
  | bool x =>
    cases rb with
    | dict => simp [nod] at nb
    | none => exact RcNeAt.bool_none x
    | bool y => exact RcNeAt.bool_bool x y
    | int y u => exact RcNeAt.bool_int x y u
    | str y u => exact RcNeAt.bool_str x y u
    | list k1 k2 k3 k4 => exact RcNeAt.bool_list x ⟨_, k1, k2, _, k3⟩ hu0
    | tuple k1 k2 k3 k4 => exact RcNeAt.bool_tuple x ⟨_, k1, k2, _, k3⟩ hu0
  | int x t =>
    cases rb with
    | dict => simp [nod] at nb
    | none => exact RcNeAt.int_none x t
    | bool y => exact RcNeAt.int_bool x t y
    | int y u => exact RcNeAt.int_int x t y u
    | str y u => exact RcNeAt.int_str x t y u
    | list k1 k2 k3 k4 => exact RcNeAt.int_list x t ⟨_, k1, k2, _, k3⟩ hu0
    | tuple k1 k2 k3 k4 => exact RcNeAt.int_tuple x t ⟨_, k1, k2, _, k3⟩ hu0
  | str x t =>
    cases rb with
    | dict => simp [nod] at nb
    | none => exact RcNeAt.str_none x t
    | bool y => exact RcNeAt.str_bool x t y
    | int y u => exact RcNeAt.str_int x t y u
    | str y u => exact RcNeAt.str_str x t y u
    | list k1 k2 k3 k4 => exact RcNeAt.str_list x t ⟨_, k1, k2, _, k3⟩ hu0
    | tuple k1 k2 k3 k4 => exact RcNeAt.str_tuple x t ⟨_, k1, k2, _, k3⟩ hu0
  | @list l o vs m xs as₁ h1 h2 h3 h4 =>
    have hl : s.heap.IsList l vs := ⟨_, h1, h2, _, h3⟩
    cases rb with
    | dict => simp [nod] at nb
    | none => exact RcNeAt.list_none hl hu0
    | bool y => exact RcNeAt.list_bool y hl hu0
    | int y u => exact RcNeAt.list_int y u hl hu0
    | str y u => exact RcNeAt.list_str y u hl hu0
    | tuple k1 k2 k3 k4 => exact RcNeAt.list_tuple hl ⟨_, k1, k2, _, k3⟩ hu0
    | @list l' o' vs' m' ys bs₁ k1 k2 k3 k4 =>
      have hl' : s.heap.IsList l' vs' := ⟨_, k1, k2, _, k3⟩
      have n1 : vs.size = xs.length := by simpa using readsAll_len h4
      have n2 : vs'.size = ys.length := by simpa using readsAll_len k4
      have na' : nodAll xs = true := by simpa [nod] using na
      have nb' : nodAll ys = true := by simpa [nod] using nb
      have dn : depAll xs < n := by simp only [dep] at hn; omega
      simp only [dep] at hu
      show RcNeAt A s (.ref l) (.ref l') (!eqD (.list xs) (.list ys))
      rw [show eqD (.list xs) (.list ys) = PyData.eqvAll xs ys by simp only [eqD]; exact eqAll_eqv xs ys]
      by_cases hsz : vs.size = vs'.size
      · rw [← eqvAll_same_length (by omega : xs.length = ys.length), ← n1]
        exact RcNeAt.lists hl hl' hsz hu0 (items xs ys vs vs' _ _ na' nb' dn (by omega) h4 k4)
      · rw [eqvAll_other_length (by omega : xs.length ≠ ys.length)]
        exact RcNeAt.lists_lengths hl hl' (by simpa using hsz) hu0
  | @tuple l o vs m xs as₁ h1 h2 h3 h4 =>
    have hl : s.heap.IsTuple l vs := ⟨_, h1, h2, _, h3⟩
    cases rb with
    | dict => simp [nod] at nb
    | none => exact RcNeAt.tuple_none hl hu0
    | bool y => exact RcNeAt.tuple_bool y hl hu0
    | int y u => exact RcNeAt.tuple_int y u hl hu0
    | str y u => exact RcNeAt.tuple_str y u hl hu0
    | list k1 k2 k3 k4 => exact RcNeAt.tuple_list hl ⟨_, k1, k2, _, k3⟩ hu0
    | @tuple l' o' vs' m' ys bs₁ k1 k2 k3 k4 =>
      have hl' : s.heap.IsTuple l' vs' := ⟨_, k1, k2, _, k3⟩
      have n1 : vs.size = xs.length := by simpa using readsAll_len h4
      have n2 : vs'.size = ys.length := by simpa using readsAll_len k4
      have na' : nodAll xs = true := by simpa [nod] using na
      have nb' : nodAll ys = true := by simpa [nod] using nb
      have dn : depAll xs < n := by simp only [dep] at hn; omega
      simp only [dep] at hu
      show RcNeAt A s (.ref l) (.ref l') (!eqD (.tuple xs) (.tuple ys))
      rw [show eqD (.tuple xs) (.tuple ys) = PyData.eqvAll xs ys by simp only [eqD]; exact eqAll_eqv xs ys, ← eqvAll_eq xs ys, ← n1, ← n2]
      exact RcNeAt.tuples hl hl' hu0 (items xs ys vs vs' _ _ na' nb' dn (by omega) h4 k4)
open SeqAt in
theorem rcNeD {da db : D} {A : Around} {s : Shared} {a b : Value} {as bs : List Addr} (ra : Reads s.heap a da as) (rb : Reads s.heap b db bs) (na : nod da = true) (nb : nod db = true) (hu : A.units + min (dep da) (dep db) < cLine) : RcNeAt A s a b (!eqD da db) :=
  rcNeN (fun da db A s a b as bs => eqAtN _ da db A s a b as bs) da db A s a b as bs (Nat.le_refl _) ra rb na nb hu
section
variable {G : Gd} {X : Cx} {pins : List (Addr × Obj)} {σ : L2.St} {s : Shared} {x : Wd}
def rCm (Y : Rt) (op : COp) : R2 := fun v u H Q => ∃ x a b k, x.H = H ∧ SR Y x ∧ WV Y x v a ∧ WV Y x u b ∧ cmpW x.st op a b = some k ∧ Q (.bl k) H
theorem eqOk_room {A : Around} {d e : D} (h : eqOk d e = true) (hu : A.units + 64 < cLine) : nod d = true ∧ nod e = true ∧ A.units + min (dep d) (dep e) < cLine := by
  simp only [eqOk, Bool.and_eq_true, Bool.or_eq_true, decide_eq_true_eq] at h
  obtain ⟨⟨h1, h2⟩, h3⟩ := h
  refine ⟨h1, h2, ?_⟩
  rcases h3 with h3 | h3
  · have := Nat.min_le_left (dep d) (dep e)
    omega
  · have := Nat.min_le_right (dep d) (dep e)
    omega
theorem cmpW_vw {st : Sto} {op : COp} {a b : W} {k : Bool} (h : cmpW st op a b = some k) (h2 : op ≠ .notin) (h3 : op ≠ .is) (h4 : op ≠ .isnot) (h5 : op ≠ .din) (h6 : op ≠ .dnotin) : ∃ d1 d2, vw st a = some d1 ∧ vw st b = some d2 ∧ cmpD op d1 d2 = some k := by
  have key : cmpW st op a b = match vw st a, vw st b with
    | some a, some b => cmpD op a b
    | _, _ => none := by
    cases op <;> first | rfl | contradiction
  rw [key] at h
  cases e1 : vw st a with
  | none => rw [e1] at h; cases h
  | some d1 =>
    cases e2 : vw st b with
    | none => rw [e1, e2] at h; cases h
    | some d2 => rw [e1, e2] at h; exact ⟨d1, d2, rfl, rfl, h⟩
theorem oc_eq (hu : X.A.units + 64 < cLine) : OpR X (compareOp .Eq) (rCm (yof G X) .eq) := by
  intro pins s σ H v u vv uu Q I rv ru ⟨x, a, b, k, hx, S, ha, hb, hk, q⟩
  subst hx
  obtain ⟨d1, d2, e1, e2, e3⟩ := cmpW_vw hk (by simp) (by simp) (by simp) (by simp) (by simp)
  simp only [cmpD] at e3
  split at e3 <;> cases e3
  rename_i ok
  obtain ⟨c1, c2, c3⟩ := eqOk_room ok hu
  obtain ⟨as, r1⟩ := (S.vw ha e1).reads I rv
  obtain ⟨bs, r2⟩ := (S.vw hb e2).reads I ru
  exact rcAtD r1 r2 c1 c2 c3 _ _ _ _ ⟨.bl _, x.H, I, rfl, q⟩
theorem oc_ne (hu : X.A.units + 64 < cLine) : OpR X (compareOp .NotEq) (rCm (yof G X) .ne) := by
  intro pins s σ H v u vv uu Q I rv ru ⟨x, a, b, k, hx, S, ha, hb, hk, q⟩
  subst hx
  obtain ⟨d1, d2, e1, e2, e3⟩ := cmpW_vw hk (by simp) (by simp) (by simp) (by simp) (by simp)
  simp only [cmpD] at e3
  split at e3 <;> cases e3
  rename_i ok
  obtain ⟨c1, c2, c3⟩ := eqOk_room ok hu
  obtain ⟨as, r1⟩ := (S.vw ha e1).reads I rv
  obtain ⟨bs, r2⟩ := (S.vw hb e2).reads I ru
  exact rcNeD r1 r2 c1 c2 c3 _ _ _ _ ⟨.bl _, x.H, I, rfl, q⟩
end

/-! ### order -/
/-- what an order's comparison gives -/
def ordR : CmpOp → D → D → Bool
  | .Lt, x, y => ltD x y
  | .LtE, x, y => !ltD y x
  | .Gt, x, y => ltD y x
  | _, x, y => !ltD x y
def ordZ : CmpOp → Nat → Nat → Bool
  | .Lt, m, n => decide (m < n)
  | .LtE, m, n => decide (m ≤ n)
  | .Gt, m, n => decide (n < m)
  | _, m, n => decide (n ≤ m)
def ordL (op : CmpOp) : List D → List D → Bool
  | x :: xs, y :: ys => if eqD x y then ordL op xs ys else ordR op x y
  | xs, ys => ordZ op xs.length ys.length
def IsOrd (op : CmpOp) : Prop := op = .Lt ∨ op = .LtE ∨ op = .Gt ∨ op = .GtE
theorem ordL_eq {op : CmpOp} (ho : IsOrd op) : ∀ xs ys : List D, ordL op xs ys = ordR op (.tuple xs) (.tuple ys)
  | [], [] => by rcases ho with rfl | rfl | rfl | rfl <;> simp [ordL, ordR, ordZ, ltD, ltAll]
  | [], _ :: _ => by rcases ho with rfl | rfl | rfl | rfl <;> simp [ordL, ordR, ordZ, ltD, ltAll]
  | _ :: _, [] => by rcases ho with rfl | rfl | rfl | rfl <;> simp [ordL, ordR, ordZ, ltD, ltAll]
  | x :: xs, y :: ys => by
    have ih := ordL_eq ho xs ys
    have c := eqD_comm x y
    rcases ho with rfl | rfl | rfl | rfl <;> simp only [ordL, ordR, ltD, ltAll] at * <;> rw [ih] <;> cases h : eqD x y <;> simp_all
def atE (xs ys : List D) (j : Nat) : Bool := match xs[j]?, ys[j]? with
  | some x, some y => eqD x y
  | _, _ => true
def atR (op : CmpOp) (xs ys : List D) (j : Nat) : Bool := match xs[j]?, ys[j]? with
  | some x, some y => ordR op x y
  | _, _ => true
theorem lexAt_ordL {op : CmpOp} (ho : IsOrd op) (xs ys : List D) : ∀ (k i : Nat), k = min xs.length ys.length - i → i ≤ min xs.length ys.length →
    Ob.lexAt (atE xs ys) (atR op xs ys) (ordZ op xs.length ys.length) i k = ordL op (xs.drop i) (ys.drop i)
  | 0, i, hk, hi => by
    rw [Ob.lexAt_zero]
    have h : xs.length = i ∨ ys.length = i := by omega
    have hx : i ≤ xs.length := by omega
    have hy : i ≤ ys.length := by omega
    rcases h with h | h
    · have e : xs.drop i = [] := List.drop_eq_nil_of_le (by omega)
      rw [e]
      cases h2 : ys.drop i with
      | nil =>
        have := congrArg List.length h2
        simp at this
        rcases ho with rfl | rfl | rfl | rfl <;> simp [ordL, ordZ] <;> omega
      | cons y r =>
        have := congrArg List.length h2
        simp at this
        rcases ho with rfl | rfl | rfl | rfl <;> simp [ordL, ordZ] <;> omega
    · have e : ys.drop i = [] := List.drop_eq_nil_of_le (by omega)
      rw [e]
      cases h2 : xs.drop i with
      | nil =>
        have := congrArg List.length h2
        simp at this
        rcases ho with rfl | rfl | rfl | rfl <;> simp [ordL, ordZ] <;> omega
      | cons y r =>
        have := congrArg List.length h2
        simp at this
        rcases ho with rfl | rfl | rfl | rfl <;> simp [ordL, ordZ] <;> omega
  | k + 1, i, hk, hi => by
    have h1 : i < xs.length := by omega
    have h2 : i < ys.length := by omega
    rw [Ob.lexAt_succ, lexAt_ordL ho xs ys k (i + 1) (by omega) (by omega), List.drop_eq_getElem_cons h1, List.drop_eq_getElem_cons h2]
    show (if atE xs ys i = true then ordL op (xs.drop (i + 1)) (ys.drop (i + 1)) else atR op xs ys i) = if eqD xs[i] ys[i] = true then _ else _
    simp only [atE, atR, List.getElem?_eq_getElem h1, List.getElem?_eq_getElem h2]
theorem ordAll_mem : ∀ {xs : List D} {x : D}, ordAll xs = true → x ∈ xs → ordOk x = true
  | y :: ys, x, h, m => by
    simp only [ordAll, Bool.and_eq_true] at h
    rcases List.mem_cons.mp m with rfl | m
    · exact h.1
    · exact ordAll_mem h.2 m
mutual
theorem nod_ord : ∀ {x : D}, ordOk x = true → nod x = true
  | .none, _ => by simp [nod]
  | .int _, _ => by simp [nod]
  | .str _, _ => by simp [nod]
  | .tuple xs, h => by
    simp only [nod]
    exact nodAll_ord (by simpa [ordOk] using h)
  | .bool _, h => by simp [ordOk] at h
  | .list _, h => by simp [ordOk] at h
  | .dict _, h => by simp [ordOk] at h
theorem nodAll_ord : ∀ {xs : List D}, ordAll xs = true → nodAll xs = true
  | [], _ => by simp [nodAll]
  | x :: xs, h => by
    simp only [ordAll, Bool.and_eq_true] at h
    simp [nodAll, nod_ord h.1, nodAll_ord h.2]
end
theorem alkAll_get : ∀ {xs ys : List D} {j : Nat} {x y : D}, alkAll xs ys = true → xs[j]? = some x → ys[j]? = some y → alk x y = true
  | [], _, _, _, _, _, h, _ => by simp at h
  | _ :: _, [], _, _, _, _, _, h => by simp at h
  | c :: xs, d :: ys, 0, x, y, h, h1, h2 => by
    simp only [alkAll, Bool.and_eq_true] at h
    simp at h1 h2
    subst h1; subst h2
    exact h.1
  | c :: xs, d :: ys, j + 1, x, y, h, h1, h2 => by
    simp only [alkAll, Bool.and_eq_true] at h
    exact alkAll_get h.2 (by simpa using h1) (by simpa using h2)
theorem dec_le (i j : Int) : (!decide (j < i)) = decide (i ≤ j) := by
  by_cases h : i ≤ j
  · rw [decide_eq_true h, decide_eq_false (by omega)]; rfl
  · rw [decide_eq_false h, decide_eq_true (by omega)]; rfl
theorem tl_lt (x y : Str) : ltL (tl x) (tl y) = decide (x.cps.toList < y.cps.toList) := ltL_iff _ _
/-- the order of alike data -/
theorem rc_ord {op : CmpOp} (ho : IsOrd op) : ∀ (n : Nat) (da db : D) (A : Around) (s : Shared) (a b : Value) (as bs : List Addr), dep da < n → Reads s.heap a da as → Reads s.heap b db bs → alk da db = true → ordOk da = true → ordOk db = true → isNo da = false →
    A.units + min (dep da) (dep db) < cLine → Ob.RcOp op A s a b (ordR op da db) := by
  intro n
  induction n with
  | zero => intro da db A s a b as bs h; omega
  | succ n ih =>
    intro da db A s a b as bs hn ra rb hal o1 o2 hno hu
    have hu0 : A.units < cLine := by omega
    cases da with
    | none => simp [isNo] at hno
    | bool _ => simp [ordOk] at o1
    | list _ => simp [ordOk] at o1
    | dict _ => simp [ordOk] at o1
    | int i =>
      cases db <;> simp [alk] at hal
      rename_i j
      cases ra
      cases rb
      rename_i t u
      rcases ho with rfl | rfl | rfl | rfl
      · exact Ob.RcOp.lt_int i j t u
      · show Ob.RcOp .LtE A s _ _ (!decide (j < i))
        rw [dec_le]
        exact Ob.RcOp.le_int i j t u
      · exact Ob.RcOp.gt_int i j t u
      · show Ob.RcOp .GtE A s _ _ (!decide (i < j))
        rw [dec_le]
        exact Ob.RcOp.ge_int i j t u
    | str x =>
      cases db <;> simp [alk] at hal
      rename_i y
      cases ra
      cases rb
      rename_i t u
      rcases ho with rfl | rfl | rfl | rfl
      · show Ob.RcOp .Lt A s _ _ (ltL (tl x) (tl y))
        rw [tl_lt]
        exact fun prog w E Q h => PyProof.Rows.lt_str h
      · show Ob.RcOp .LtE A s _ _ (!ltL (tl y) (tl x))
        rw [tl_lt]
        exact fun prog w E Q h => PySem.P.le_str h
      · show Ob.RcOp .Gt A s _ _ (ltL (tl y) (tl x))
        rw [tl_lt]
        exact fun prog w E Q h => PySem.P.gt_str h
      · show Ob.RcOp .GtE A s _ _ (!ltL (tl x) (tl y))
        rw [tl_lt]
        exact fun prog w E Q h => PySem.P.ge_str h
    | tuple xs =>
      cases db <;> simp only [alk] at hal <;> try (cases hal)
      rename_i ys
      rw [← ordL_eq ho xs ys]
      have oa : ordAll xs = true := by simpa [ordOk] using o1
      have ob : ordAll ys = true := by simpa [ordOk] using o2
      cases ra with
      | @tuple l o vs m _ as₁ h1 h2 h3 h4 =>
        cases rb with
        | @tuple l' o' vs' m' _ bs₁ k1 k2 k3 k4 =>
          have hl : s.heap.IsTuple l vs := ⟨_, h1, h2, _, h3⟩
          have hl' : s.heap.IsTuple l' vs' := ⟨_, k1, k2, _, k3⟩
          have n1 : vs.size = xs.length := by simpa using readsAll_len h4
          have n2 : vs'.size = ys.length := by simpa using readsAll_len k4
          simp only [dep] at hn hu
          have item : ∀ (j : Nat) (h1 : j < vs.size) (h2 : j < vs'.size), ∃ x y cs ds, xs[j]? = some x ∧ ys[j]? = some y ∧ Reads s.heap vs[j] x cs ∧ Reads s.heap vs'[j] y ds ∧ alk x y = true ∧ ordOk x = true ∧ ordOk y = true ∧ dep x < n ∧ A.in1.units + min (dep x) (dep y) < cLine := fun j j1 j2 => by
            obtain ⟨x, cs, e1, r1⟩ := readsAll_get (j := j) (v := vs[j]) h4 (by simp [j1])
            obtain ⟨y, ds, e2, r2⟩ := readsAll_get (j := j) (v := vs'[j]) k4 (by simp [j2])
            have d1 := depAll_get e1
            have d2 := depAll_get e2
            have l1 := Nat.min_le_left (dep x) (dep y)
            have l2 := Nat.min_le_right (dep x) (dep y)
            refine ⟨x, y, cs, ds, e1, e2, r1, r2, alkAll_get hal e1 e2, ordAll_mem oa (List.mem_of_getElem? e1), ordAll_mem ob (List.mem_of_getElem? e2), by omega, ?_⟩
            show A.units + 1 + min (dep x) (dep y) < cLine
            omega
          have eqs : ∀ (j : Nat) (h1 : j < vs.size) (h2 : j < vs'.size), SeqAt.EqAt A.in1 s vs[j] vs'[j] (atE xs ys j) := fun j j1 j2 => by
            obtain ⟨x, y, cs, ds, e1, e2, r1, r2, _, q1, q2, _, hu'⟩ := item j j1 j2
            have e : atE xs ys j = eqD x y := by simp [atE, e1, e2]
            rw [e]
            exact eqAtD r1 r2 (nod_ord q1) (nod_ord q2) hu'
          have ors : ∀ (j : Nat) (h1 : j < vs.size) (h2 : j < vs'.size), atE xs ys j = false → Ob.RcOp op A.in1 s vs[j] vs'[j] (atR op xs ys j) := fun j j1 j2 ne => by
            obtain ⟨x, y, cs, ds, e1, e2, r1, r2, q0, q1, q2, q3, hu'⟩ := item j j1 j2
            have e : atR op xs ys j = ordR op x y := by simp [atR, e1, e2]
            rw [e]
            refine ih x y A.in1 s _ _ cs ds q3 r1 r2 q0 q1 q2 ?_ hu'
            cases x <;> simp [isNo]
            cases y <;> simp [alk] at q0
            simp [atE, e1, e2, eqD] at ne
          have fin := lexAt_ordL ho xs ys (min xs.length ys.length) 0 (by omega) (by omega)
          simp only [List.drop_zero] at fin
          rw [← fin, ← n1, ← n2]
          rcases ho with rfl | rfl | rfl | rfl
          · exact Ob.RcOp.tuples_lt hl hl' hu0 eqs ors
          · exact Ob.RcOp.tuples_le hl hl' hu0 eqs ors
          · exact Ob.RcOp.tuples_gt hl hl' hu0 eqs ors
          · exact Ob.RcOp.tuples_ge hl hl' hu0 eqs ors
def cop : COp → CmpOp
  | .eq => .Eq | .ne => .NotEq | .lt => .Lt | .le => .LtE | .gt => .Gt | .ge => .GtE | .isin => .In | .notin => .NotIn | .din => .In | .dnotin => .NotIn | .is => .Is | .isnot => .IsNot
section
variable {G : Gd} {X : Cx} {pins : List (Addr × Obj)} {σ : L2.St} {s : Shared} {x : Wd}
theorem oc_ord {op : COp} (ho : op = .lt ∨ op = .le ∨ op = .gt ∨ op = .ge) (hu : X.A.units + 64 < cLine) : OpR X (compareOp (cop op)) (rCm (yof G X) op) := by
  intro pins s σ H v u vv uu Q I rv ru ⟨x, a, b, k, hx, S, ha, hb, hk, q⟩
  subst hx
  obtain ⟨d1, d2, e1, e2, e3⟩ := cmpW_vw hk (by rcases ho with rfl | rfl | rfl | rfl <;> simp) (by rcases ho with rfl | rfl | rfl | rfl <;> simp) (by rcases ho with rfl | rfl | rfl | rfl <;> simp) (by rcases ho with rfl | rfl | rfl | rfl <;> simp) (by rcases ho with rfl | rfl | rfl | rfl <;> simp)
  have hc : IsOrd (cop op) := by rcases ho with rfl | rfl | rfl | rfl <;> simp [IsOrd, cop]
  have e4 : cmpOk d1 d2 = true ∧ ordR (cop op) d1 d2 = k := by
    rcases ho with rfl | rfl | rfl | rfl <;> (simp only [cmpD] at e3; split at e3 <;> cases e3; rename_i ok; exact ⟨ok, rfl⟩)
  obtain ⟨ok, e5⟩ := e4
  simp only [cmpOk, Bool.and_eq_true, decide_eq_true_eq, Bool.not_eq_true'] at ok
  obtain ⟨c1, c2, c3, c4, c5, c6⟩ := ok
  obtain ⟨as, r1⟩ := (S.vw ha e1).reads I rv
  obtain ⟨bs, r2⟩ := (S.vw hb e2).reads I ru
  have l1 := Nat.min_le_left (dep d1) (dep d2)
  have fin := rc_ord hc _ d1 d2 X.A s vv uu as bs (Nat.lt_succ_self _) r1 r2 c1 c2 c3 c4 (by omega) X.prog X.w X.xe (EP X pins σ Q)
  rw [e5] at fin
  have fin := fin ⟨.bl k, x.H, I, rfl, q⟩
  rcases ho with rfl | rfl | rfl | rfl <;> exact fin
end
end FM
end

section
/-! FM6: is, in; the plain expressions. -/
set_option Elab.async false
set_option linter.all false
set_option maxRecDepth 100000
set_option autoImplicit false
set_option maxHeartbeats 1000000
namespace FM
open PySem PySem.Spec PyProof.Rows L2
section
variable {G : Gd} {X : Cx} {pins : List (Addr × Obj)} {σ : L2.St} {s : Shared} {x : Wd}
/-- what is asks of two values -/
theorem isD_V {Y : Rt} {v u : V} {d1 d2 : D} {k : Bool} (h1 : VD Y x v d1) (h2 : VD Y x u d2) (h : isD d1 d2 = some k) : (u = .non ∧ k = decide (v = .non)) ∨ ∃ a b, v = .bl a ∧ u = .bl b ∧ k = decide (a = b) := by
  cases d1 <;> cases d2 <;> simp only [isD] at h <;> cases h
  · exact .inl ⟨h2.none, by rw [h1.none]; rfl⟩
  · exact .inl ⟨h2.none, by rw [h1.bool]; rfl⟩
  · refine .inr ⟨_, _, h1.bool, h2.bool, ?_⟩
    rw [Bool.beq_eq_decide_eq]
  · exact .inl ⟨h2.none, by rw [h1.int]; rfl⟩
  · exact .inl ⟨h2.none, by rw [h1.str]; rfl⟩
  · obtain ⟨a, vs, rfl, _⟩ := h1.list
    exact .inl ⟨h2.none, rfl⟩
  · obtain ⟨a, vs, rfl, _⟩ := h1.tuple
    exact .inl ⟨h2.none, rfl⟩
  · obtain ⟨a, vs, rfl, _⟩ := h1.dict
    exact .inl ⟨h2.none, rfl⟩
theorem isW_V {Y : Rt} {x : Wd} {v u : V} {a b : W} {k : Bool} (h1 : WV Y x v a) (h2 : WV Y x u b) (h : isW x.st a b = some k) : (u = .non ∧ k = decide (v = .non)) ∨ ∃ a b, v = .bl a ∧ u = .bl b ∧ k = decide (a = b) := by
  cases h1 with
  | d h1 =>
    cases h2 with
    | d h2 => exact isD_V (x := x) (.pv h1) (.pv h2) h
    | ref _ => cases h
    | fn _ => cases h
  | ref h1 =>
    cases h2 with
    | d h2 =>
      rename_i d2
      cases d2 <;> simp only [isW] at h <;> cases h
      cases h2
      exact .inl ⟨rfl, rfl⟩
    | ref _ => cases h
    | fn _ => cases h
  | fn f => cases h
theorem oc_is : OpR X (compareOp .Is) (rCm (yof G X) .is) := by
  intro pins s σ H v u vv uu Q I rv ru ⟨x, a, b, k, hx, S, ha, hb, hk, q⟩
  subst hx
  rcases isW_V ha hb hk with ⟨rfl, rfl⟩ | ⟨i, j, rfl, rfl, rfl⟩
  · exact op_isN pins s σ _ _ _ _ _ _ I rv ru ⟨rfl, q⟩
  · exact op_is_bl pins s σ _ _ _ _ _ _ I rv ru ⟨i, j, rfl, rfl, q⟩
theorem oc_isnot : OpR X (compareOp .IsNot) (rCm (yof G X) .isnot) := by
  intro pins s σ H v u vv uu Q I rv ru ⟨x, a, b, k, hx, S, ha, hb, hk, q⟩
  subst hx
  have hk : (isW x.st a b).map (! ·) = some k := hk
  simp only [Option.map_eq_some_iff] at hk
  obtain ⟨k', hk2, rfl⟩ := hk
  rcases isW_V ha hb hk2 with ⟨rfl, rfl⟩ | ⟨i, j, rfl, rfl, rfl⟩
  · exact op_notN pins s σ _ _ _ _ _ _ I rv ru ⟨rfl, q⟩
  · exact op_isnot_bl pins s σ _ _ _ _ _ _ I rv ru ⟨i, j, rfl, rfl, q⟩

/-! ### in -/
/-- is a value's data equal to d, in the heap h -/
noncomputable def eqIn (h : Heap) (d : D) (v : Value) : Bool := @decide (∃ e as, Reads h v e as ∧ eqD e d = true) (Classical.propDecidable _)
theorem eqIn_of {h : Heap} {d e : D} {v : Value} {as : List Addr} (r : Reads h v e as) : eqIn h d v = eqD e d := by
  unfold eqIn
  by_cases q : eqD e d = true
  · rw [q]
    exact @decide_eq_true _ (Classical.propDecidable _) ⟨e, as, r, q⟩
  · have q0 : eqD e d = false := by simpa using q
    rw [q0]
    refine @decide_eq_false _ (Classical.propDecidable _) ?_
    · rintro ⟨e', as', r', q'⟩
      obtain ⟨z, _⟩ := PyProof.Rows.reads_det (fun _ _ e _ => e) r r'
      subst z
      exact q q'
theorem any_eqIn {h : Heap} {d : D} : ∀ {vs : List Value} {ds : List D} {as : List Addr}, ReadsAll h vs ds as → vs.any (eqIn h d) = ds.any (eqD · d)
  | _, _, _, .nil => rfl
  | _, _, _, .cons r t => by
    rw [List.any_cons, List.any_cons, eqIn_of r, any_eqIn t]
theorem eqAt_items {A : Around} {d : D} {u : Value} {bs : List Addr} (hu : A.units + 65 < cLine) (rd : Reads s.heap u d bs) : ∀ {vs : List Value} {ds : List D} {as : List Addr}, ReadsAll s.heap vs ds as → ds.all (eqOk d) = true → ∀ y ∈ vs, SeqAt.EqAt A.in1 s y u (eqIn s.heap d y)
  | _, _, _, .nil, _, y, h => by simp at h
  | _, _, _, .cons r t, ok, y, h => by
    simp only [List.all_cons, Bool.and_eq_true] at ok
    rcases List.mem_cons.mp h with rfl | h
    · rw [eqIn_of r]
      obtain ⟨c1, c2, c3⟩ := eqOk_room (A := A.in1) ok.1 (by show A.units + 1 + 64 < cLine; omega)
      exact eqAtD r rd c2 c1 (by rw [Nat.min_comm]; exact c3)
    · exact eqAt_items hu rd t ok.2 y h
theorem inStr_some {x y : Str} {k : Bool} (h : inStr x y = some k) : ∃ c, x = ⟨#[c]⟩ ∧ k = decide (c ∈ y.cps.toList) := by
  unfold inStr at h
  split at h
  · rename_i c e
    cases h
    refine ⟨c, ?_, ?_⟩
    · rw [← T_tl x, e]
      rfl
    · show (tl y).contains c = _
      rw [List.contains_eq_mem]
      rfl
  · cases h
/-- in of a list, a tuple, a text -/
theorem oc_in_seq (hu : X.A.units + 65 < cLine) {v u : V} {vv uu : Value} {d1 d2 : D} {k : Bool} (I : Inv X pins σ x.H s) (rv : RelV v vv) (ru : RelV u uu) (h1 : VD (yof G X) x v d1) (h2 : VD (yof G X) x u d2) (h : cmpD .isin d1 d2 = some k) :
    (∀ Q : Value → Shared → Prop, Q (.bool k) s → wpAny (model X.prog X.w) X.A (compareOp .In vv uu) Q X.xe s) ∧ (∀ Q : Value → Shared → Prop, Q (.bool (!k)) s → wpAny (model X.prog X.w) X.A (compareOp .NotIn vv uu) Q X.xe s) := by
  obtain ⟨as, r1⟩ := h1.reads I rv
  have seq : ∀ (ys : List D) (k : Bool), (if ys.all (eqOk d1) = true then some (ys.any (eqD · d1)) else none) = some k → ys.all (eqOk d1) = true ∧ k = ys.any (eqD · d1) := fun ys k h => by
    split at h
    · rename_i q
      cases h
      exact ⟨q, rfl⟩
    · cases h
  cases d2 with
  | none => cases d1 <;> cases h
  | bool _ => cases d1 <;> cases h
  | int _ => cases d1 <;> cases h
  | dict _ => cases d1 <;> cases h
  | str y =>
    cases d1 <;> simp only [cmpD] at h <;> try cases h
    obtain ⟨c, rfl, rfl⟩ := inStr_some h
    obtain rfl := h1.str
    obtain rfl := h2.str
    obtain ⟨t, rfl⟩ := rv
    obtain ⟨t', rfl⟩ := ru
    refine ⟨fun Q q => PyProof.Rows.in_str ?_, fun Q q => PyProof.Rows.notIn_str ?_⟩
    · rw [PySem.StrLaws.found_one]; exact q
    · rw [PySem.StrLaws.found_one]; exact q
  | list ys =>
    have h : (if ys.all (eqOk d1) = true then some (ys.any (eqD · d1)) else none) = some k := by cases d1 <;> exact h
    obtain ⟨ok, rfl⟩ := seq ys k h
    obtain ⟨a, vs, rfl, rd, ps⟩ := h2.list
    cases ru
    obtain ⟨its, n, rl, e, _⟩ := rd_lst I rd
    obtain ⟨bs, ra⟩ := PVs.reads I ps rl
    have hl : s.heap.IsList a its.toArray := ⟨_, e, rfl, _, rfl⟩
    have ea : its.toArray.any (eqIn s.heap d1) = ys.any (eqD · d1) := by rw [← any_eqIn ra]; simp
    refine ⟨fun Q q => SeqAt.in_listAt (eqIn s.heap d1) hl (fun y hy => eqAt_items hu r1 ra ok y (by simpa using hy)) (by rw [ea]; exact q), fun Q q => SeqAt.notIn_listAt (eqIn s.heap d1) hl (fun y hy => eqAt_items hu r1 ra ok y (by simpa using hy)) (by rw [ea]; exact q)⟩
  | tuple ys =>
    have h : (if ys.all (eqOk d1) = true then some (ys.any (eqD · d1)) else none) = some k := by cases d1 <;> exact h
    obtain ⟨ok, rfl⟩ := seq ys k h
    obtain ⟨a, vs, rfl, rd, ps⟩ := h2.tuple
    cases ru
    obtain ⟨its, rl, ⟨o, e, c, n, dd⟩, _⟩ := I.tuple rd.sq
    obtain ⟨bs, ra⟩ := PVs.reads I ps rl
    have hl : s.heap.IsTuple a its.toArray := ⟨o, e, c, n, dd⟩
    have ea : its.toArray.any (eqIn s.heap d1) = ys.any (eqD · d1) := by rw [← any_eqIn ra]; simp
    refine ⟨fun Q q => SeqAt.in_tupleAt (eqIn s.heap d1) hl (fun y hy => eqAt_items hu r1 ra ok y (by simpa using hy)) (by rw [ea]; exact q), fun Q q => SeqAt.notIn_tupleAt (eqIn s.heap d1) hl (fun y hy => eqAt_items hu r1 ra ok y (by simpa using hy)) (by rw [ea]; exact q)⟩
theorem oc_in (hu : X.A.units + 65 < cLine) : OpR X (compareOp .In) (rCm (yof G X) .isin) := by
  intro pins s σ H v u vv uu Q I rv ru ⟨x, a, b, k, hx, S, ha, hb, hk, q⟩
  subst hx
  obtain ⟨d1, d2, e1, e2, e3⟩ := cmpW_vw hk (by simp) (by simp) (by simp) (by simp) (by simp)
  exact (oc_in_seq hu I rv ru (S.vw ha e1) (S.vw hb e2) e3).1 _ ⟨.bl k, x.H, I, rfl, q⟩
theorem oc_notin (hu : X.A.units + 65 < cLine) : OpR X (compareOp .NotIn) (rCm (yof G X) .notin) := by
  intro pins s σ H v u vv uu Q I rv ru ⟨x, a, b, k, hx, S, ha, hb, hk, q⟩
  subst hx
  have hk : (cmpP x.st .isin a b).map (! ·) = some k := hk
  simp only [Option.map_eq_some_iff] at hk
  obtain ⟨k', hk2, rfl⟩ := hk
  obtain ⟨d1, d2, e1, e2, e3⟩ := cmpW_vw (op := .isin) hk2 (by simp) (by simp) (by simp) (by simp) (by simp)
  exact (oc_in_seq hu I rv ru (S.vw ha e1) (S.vw hb e2) e3).2 _ ⟨.bl (!k'), x.H, I, rfl, q⟩
end
end FM
end

section
/-! FM7: the plain expressions, by the evaluator. -/
set_option Elab.async false
set_option linter.all false
set_option maxRecDepth 100000
set_option autoImplicit false
set_option maxHeartbeats 1000000
namespace FM
open PySem PySem.Spec PyProof.Rows L2
section
variable {G : Gd} {X : Cx} {Wx : WX} {P : Prog} {R : Fun1} {Φ : Call} {pos : Pos}
abbrev FV (G : Gd) (X : Cx) (Wx : WX) (P : Prog) (R : Fun1) (Φ : Call) (e : Expr) (a : E) : Prop := FE G X Wx e (evE P R Φ a)
abbrev FC (G : Gd) (X : Cx) (Wx : WX) (P : Prog) (R : Fun1) (Φ : Call) (e : Expr) (c : C) : Prop := FT G X Wx e (evC P R Φ c)
abbrev FL (G : Gd) (X : Cx) (Wx : WX) (P : Prog) (R : Fun1) (Φ : Call) (es : List Expr) (a : Es) : Prop := FA G X Wx es (evEs P R Φ a)
variable {e e1 e2 e3 : Expr} {a b c : E}

theorem fe_bad : FV G X Wx P R Φ e .bad := ⟨fun pins s σ H Q I ⟨ρ, x, hx, S, En, h⟩ => by rw [evE] at h; exact h.elim⟩
theorem fe_var {i : Nat} {n : Str} (hN : X.N[i]? = some n := by rfl) (hv : Vis X.env.scope n := by first | exact Or.inl rfl | exact Or.inr (Or.inl rfl) | exact Or.inr (Or.inr rfl)) (hd : (n == ("__debug__" : Str)) = false := by decide)
    (hcd : (n == ("__classdict__" : Str)) = false := by decide) : FV G X Wx P R Φ (.Name n pos) (.var i) := (pe_var hN hv hd hcd).imp fun σ H Q ⟨ρ, x, hx, S, En, h⟩ => by
  rw [evE] at h
  obtain ⟨w, e1, k⟩ := rpost_of h
  obtain ⟨v, e2, hv⟩ := En.var e1
  subst hx
  exact ⟨v, e2, k v x (Ext.refl x) S rfl hv⟩
theorem fe_int {i : Int} {j} : FV G X Wx P R Φ (.Constant (.int i) j pos) (.int i) := pe_int.imp fun σ H Q ⟨ρ, x, hx, S, En, h⟩ => by
  rw [evE] at h; subst hx; exact h _ x (Ext.refl x) S rfl (.d (.int i))
theorem fe_bl {i : Bool} {j} : FV G X Wx P R Φ (.Constant (.bool i) j pos) (.bl i) := pe_bl.imp fun σ H Q ⟨ρ, x, hx, S, En, h⟩ => by
  rw [evE] at h; subst hx; exact h _ x (Ext.refl x) S rfl (.d (.bool i))
theorem fe_none {j} : FV G X Wx P R Φ (.Constant .none j pos) .none := pe_non.imp fun σ H Q ⟨ρ, x, hx, S, En, h⟩ => by
  rw [evE] at h; subst hx; exact h _ x (Ext.refl x) S rfl (.d .none)
theorem fe_str {z : Str} {l : List Nat} {j} (hz : z = T l := by rfl) : FV G X Wx P R Φ (.Constant (.str z) j pos) (.str l) := pe_str.imp fun σ H Q ⟨ρ, x, hx, S, En, h⟩ => by
  rw [evE] at h; subst hx; subst hz; exact h _ x (Ext.refl x) S rfl (.d (.str _))
/-- a name of the module: an int, a text -/
theorem fe_glob {n : Str} {f : String} {v : V} {u : Value} {w : W} (hg : Gl X n) (hm : X.mg n = some u) (r : RelV v u) (hP : P.glob f = some w) (hw : ∀ x : Wd, SR (yof G X) x → WV (yof G X) x v w) (hd : (n == ("__debug__" : Str)) = false := by decide) :
    FV G X Wx P R Φ (.Name n pos) (.glob f) := (pe_glob hg hm r hd).imp fun σ H Q ⟨ρ, x, hx, S, En, h⟩ => by
  rw [evE, hP] at h; subst hx; exact h _ x (Ext.refl x) S rfl (hw x S)

/-! two values, then an operation that leaves the store -/
theorem rd2 {α β : Env → Sto → Res W} {f : Sto → W → W → Option W} {σ : L2.St} {H : Hp} {Q : VK}
    (h : rd (yof G X) Wx (fun y v w => WV (yof G X) y v w) (fun ρ st => (α ρ st).bind fun x st => (β ρ st).bind fun y st => Res.of (f st x y) st) σ H Q) :
    tOp (rOp (yof G X) f) (rd (yof G X) Wx (fun y v w => WV (yof G X) y v w) α) (rd (yof G X) Wx (fun y v w => WV (yof G X) y v w) β) σ H Q := by
  obtain ⟨ρ, x, hx, S, En, h⟩ := h
  refine ⟨ρ, x, hx, S, En, rpost_bind h fun v y a e1 Sy r h2 => ⟨ρ, y, rfl, Sy, En.ext e1, rpost_bind h2 fun u z b e2 Sz r2 h3 => ?_⟩⟩
  obtain ⟨w, hw, k⟩ := rpost_of h3
  exact ⟨z, a, b, w, rfl, Sz, e2.wv r, r2, hw, k⟩
def bop : BOp → Operator
  | .add => .Add | .sub => .Sub | .mul => .Mult | .fdiv => .FloorDiv | .mod => .Mod | .pow => .Pow
theorem fe_bin {op : BOp} (hu : X.A.units + 66 < cLine) (ha : FV G X Wx P R Φ e1 a) (hb : FV G X Wx P R Φ e2 b) : FV G X Wx P R Φ (.BinOp e1 (bop op) e2 pos) (.bin op a b) := by
  have ho : OpR X (binaryOp (bop op)) (rOp (yof G X) fun st => binW st op) := by
    cases op
    · exact ofn_add
    · exact ofn_sub
    · exact ofn_mul
    · exact ofn_fdiv
    · exact ofn_mod
    · exact ofn_pow
  refine (pe_op ho ha hb).imp fun σ H Q ⟨ρ, x, hx, S, En, h⟩ => ?_
  rw [evE] at h
  exact rd2 ⟨ρ, x, hx, S, En, h⟩
theorem fe_neg (ha : FV G X Wx P R Φ e a) : FV G X Wx P R Φ (.UnaryOp .USub e pos) (.neg a) := by
  refine (pe_un un_neg ha).imp fun σ H Q ⟨ρ, x, hx, S, En, h⟩ => ?_
  rw [evE] at h
  refine ⟨ρ, x, hx, S, En, rpost_bind h fun v y w e1 Sy r h2 => ?_⟩
  obtain ⟨w', hw, k⟩ := rpost_of h2
  cases w with
  | d d =>
    cases d <;> simp [int?] at hw
    subst hw
    cases r with
    | d r =>
      cases r
      exact ⟨_, rfl, k _ y (Ext.refl y) Sy rfl (.d (.int _))⟩
  | ref _ => simp [int?] at hw
  | fn _ => simp [int?] at hw
theorem bool_of {Y : Rt} {x : Wd} {v : V} {b : Bool} (h : WV Y x v (.d (.bool b))) : v = .bl b := by
  cases h with
  | d h => cases h; rfl
theorem fe_not (ha : FV G X Wx P R Φ e a) : FV G X Wx P R Φ (.UnaryOp .Not e pos) (.not a) := by
  refine (pe_not ha).imp fun σ H Q ⟨ρ, x, hx, S, En, h⟩ => ?_
  rw [evE] at h
  refine ⟨ρ, x, hx, S, En, rpost_bind h fun v y w e1 Sy r h2 => ?_⟩
  split at h2
  · have := bool_of r
    subst this
    exact ⟨_, rfl, h2 _ y (Ext.refl y) Sy rfl (.d (.bool _))⟩
  · exact h2.elim
/-! ### comparisons -/
/-- a test of two values by f -/
def rTb (Y : Rt) (f : Sto → W → W → Option Bool) : R2 := fun v u H Q => ∃ x a b k, x.H = H ∧ SR Y x ∧ WV Y x v a ∧ WV Y x u b ∧ f x.st a b = some k ∧ Q (.bl k) H
theorem rdC {op : COp} {σ : L2.St} {H : Hp} {Q Q' : VK} (h : rd (yof G X) Wx (fun y v w => WV (yof G X) y v w) (evE P R Φ (.cmp op a b)) σ H Q) (hQ : ∀ k H, Q (.bl k) H → Q' (.bl k) H) :
    tOp (rCm (yof G X) op) (rd (yof G X) Wx (fun y v w => WV (yof G X) y v w) (evE P R Φ a)) (rd (yof G X) Wx (fun y v w => WV (yof G X) y v w) (evE P R Φ b)) σ H Q' := by
  obtain ⟨ρ, x, hx, S, En, h⟩ := h
  rw [evE] at h
  refine ⟨ρ, x, hx, S, En, rpost_bind h fun v y a e1 Sy r h2 => ⟨ρ, y, rfl, Sy, En.ext e1, rpost_bind h2 fun u z b e2 Sz r2 h3 => ?_⟩⟩
  obtain ⟨w, hw, k⟩ := rpost_of h3
  simp only [Option.map_eq_some_iff] at hw
  obtain ⟨k', e3, rfl⟩ := hw
  exact ⟨z, a, b, k', rfl, Sz, e2.wv r, r2, e3, hQ _ _ (k _ z (Ext.refl z) Sz rfl (.d (.bool _)))⟩
/-- a test by a value that is known to be a bool -/
def KB (Q : Bool → Hp → Prop) : VK := fun v H => ∀ k, v = .bl k → Q k H
theorem rdB {σ : L2.St} {H : Hp} {Q : Bool → Hp → Prop} (h : rd (yof G X) Wx (fun _ v w => v = w) (evC P R Φ (.e a)) σ H Q) : rd (yof G X) Wx (fun y v w => WV (yof G X) y v w) (evE P R Φ a) σ H (KB Q) := by
  obtain ⟨ρ, x, hx, S, En, h⟩ := h
  rw [evC] at h
  refine ⟨ρ, x, hx, S, En, rpost_bind h fun v y w e1 Sy r h2 k hv => ?_⟩
  subst hv
  cases r with
  | d r =>
    cases r
    exact h2 _ y (Ext.refl y) Sy rfl rfl
/-- the comparisons that need no dict -/
def cSeq : COp → Bool
  | .din | .dnotin => false
  | _ => true
theorem oc_all (hu : X.A.units + 66 < cLine) : ∀ {op : COp}, cSeq op = true → OpR X (compareOp (cop op)) (rCm (yof G X) op)
  | .eq, _ => oc_eq (by omega)
  | .ne, _ => oc_ne (by omega)
  | .lt, _ => oc_ord (by simp) (by omega)
  | .le, _ => oc_ord (by simp) (by omega)
  | .gt, _ => oc_ord (by simp) (by omega)
  | .ge, _ => oc_ord (by simp) (by omega)
  | .isin, _ => oc_in (by omega)
  | .notin, _ => oc_notin (by omega)
  | .is, _ => oc_is
  | .isnot, _ => oc_isnot
theorem fe_cmp {op : COp} (hu : X.A.units + 66 < cLine) (ha : FV G X Wx P R Φ e1 a) (hb : FV G X Wx P R Φ e2 b) (hm : behindInMarks (cop op) e2 = false := by with_unfolding_all rfl) (hs : cSeq op = true := by rfl) :
    FV G X Wx P R Φ (.Compare e1 [cop op] [e2] pos) (.cmp op a b) := (pe_cmpR (oc_all hu hs) ha hb hm).imp fun σ H Q h => rdC h fun _ _ q => q
theorem fc_cmp {op : COp} (hu : X.A.units + 66 < cLine) (ha : FV G X Wx P R Φ e1 a) (hb : FV G X Wx P R Φ e2 b) (hm : behindInMarks (cop op) e2 = false := by with_unfolding_all rfl) (hs : cSeq op = true := by rfl) :
    FC G X Wx P R Φ (.Compare e1 [cop op] [e2] pos) (.e (.cmp op a b)) := (pt_cmpR (oc_all hu hs) ha hb hm).imp fun σ H Q h => rdC (rdB h) fun k H q => ⟨k, rfl, q k rfl⟩
theorem rdCh {o1 o2 : COp} {σ : L2.St} {H : Hp} {Q Q' : VK} (h : rd (yof G X) Wx (fun y v w => WV (yof G X) y v w) (evE P R Φ (.chain o1 o2 a b c)) σ H Q) (hQ : ∀ k H, Q (.bl k) H → Q' (.bl k) H) :
    tChain (rCm (yof G X) o1) (rCm (yof G X) o2) (rd (yof G X) Wx (fun y v w => WV (yof G X) y v w) (evE P R Φ a)) (rd (yof G X) Wx (fun y v w => WV (yof G X) y v w) (evE P R Φ b)) (rd (yof G X) Wx (fun y v w => WV (yof G X) y v w) (evE P R Φ c)) σ H Q' := by
  obtain ⟨ρ, x, hx, S, En, h⟩ := h
  rw [evE] at h
  refine ⟨ρ, x, hx, S, En, rpost_bind h fun v y wa e1 Sy r h2 => ⟨ρ, y, rfl, Sy, En.ext e1, rpost_bind h2 fun u z wb e2 Sz r2 h3 => ?_⟩⟩
  have Ez : EnvOk (yof G X) z ρ σ := (En.ext e1).ext e2
  cases hk : cmpW z.st o1 wa wb with
  | none => rw [hk] at h3; exact h3.elim
  | some k =>
    rw [hk] at h3
    refine ⟨z, wa, wb, k, rfl, Sz, e2.wv r, r2, hk, k, rfl, ?_⟩
    have h3 : rpost (yof G X) Wx σ z (fun y v w => WV (yof G X) y v w) Q (if k = true then _ else _) := h3
    cases k with
    | false => exact hQ _ _ (h3 _ z (Ext.refl z) Sz rfl (.d (.bool _)))
    | true =>
      refine ⟨ρ, z, rfl, Sz, Ez, rpost_bind h3 fun t x4 wc e4 S4 r4 h4 => ?_⟩
      obtain ⟨w, hw, q⟩ := rpost_of h4
      simp only [Option.map_eq_some_iff] at hw
      obtain ⟨k', e5, rfl⟩ := hw
      exact ⟨x4, wb, wc, k', rfl, S4, e4.wv r2, r4, e5, hQ _ _ (q _ x4 (Ext.refl x4) S4 rfl (.d (.bool _)))⟩
theorem fe_chain {o1 o2 : COp} (hu : X.A.units + 66 < cLine) (ha : FV G X Wx P R Φ e1 a) (hb : FV G X Wx P R Φ e2 b) (hc : FV G X Wx P R Φ e3 c) (hm : lastMarks [cop o1, cop o2] [e2, e3] = false := by with_unfolding_all rfl) (hs : cSeq o1 = true := by rfl) (hs2 : cSeq o2 = true := by rfl) :
    FV G X Wx P R Φ (.Compare e1 [cop o1, cop o2] [e2, e3] pos) (.chain o1 o2 a b c) := (pe_chain (oc_all hu hs) (oc_all hu hs2) ha hb hc hm).imp fun σ H Q h => rdCh h fun _ _ q => q
theorem fc_chain {o1 o2 : COp} (hu : X.A.units + 66 < cLine) (ha : FV G X Wx P R Φ e1 a) (hb : FV G X Wx P R Φ e2 b) (hc : FV G X Wx P R Φ e3 c) (hm : lastMarks [cop o1, cop o2] [e2, e3] = false := by with_unfolding_all rfl) (hs : cSeq o1 = true := by rfl) (hs2 : cSeq o2 = true := by rfl) :
    FC G X Wx P R Φ (.Compare e1 [cop o1, cop o2] [e2, e3] pos) (.e (.chain o1 o2 a b c)) := (pt_chain (oc_all hu hs) (oc_all hu hs2) ha hb hc hm).imp fun σ H Q h => rdCh (rdB h) fun k H q => ⟨k, rfl, q k rfl⟩
/-! ### truth -/
theorem tru_of {x : Wd} (S : SR (yof G X) x) {v : V} {w : W} {k : Bool} (r : WV (yof G X) x v w) (h : truW x.st w = some k) : TruV X.K v x.H k := by
  cases r with
  | @d _ d r =>
    cases d <;> simp only [truW, truD] at h
    · cases h; cases r; rfl
    · cases h; cases r; rfl
    · cases h; cases r; show decide _ = _; exact (Bool.eq_iff_iff.mpr (by simp))
    · split at h <;> cases h
      cases r
      rename_i z hz
      refine ⟨by rw [len_eq, ← SZ_eq]; exact hz, ?_⟩
      rw [len_eq]
      cases tl z <;> simp
      omega
    · cases h
      cases r with
      | lst h1 h2 => exact .inl ⟨_, h1.sq, by cases h2 <;> rfl⟩
    · cases h
      cases r with
      | tup h1 h2 => exact .inr (.inl ⟨_, h1.sq, by cases h2 <;> rfl⟩)
    · cases h
  | @ref n p hn =>
    simp only [truW] at h
    split at h
    · rename_i ws hc
      cases h
      obtain ⟨vs, hH, rs⟩ := S.cell _ _ _ hn hc
      exact .inl ⟨vs, .inl (.inl hH), by cases rs <;> rfl⟩
    · cases h
  | fn f => cases h
theorem fc_val (ha : FV G X Wx P R Φ e a) (he : ∀ whole, isTrue e X.env whole = (do let v ← whole; standAt e.pos; holding [v] (truthy v)) := by exact fun _ => rfl) : FC G X Wx P R Φ e (.e a) := by
  refine (pt_truth ha he).imp fun σ H Q ⟨ρ, x, hx, S, En, h⟩ => ?_
  rw [evC] at h
  refine ⟨ρ, x, hx, S, En, rpost_bind h fun v y w e1 Sy r h2 => ?_⟩
  obtain ⟨k, hk, q⟩ := rpost_of h2
  exact ⟨k, tru_of Sy r hk, q _ y (Ext.refl y) Sy rfl rfl⟩
/-! ### and, or, not -/
abbrev FW (G : Gd) (X : Cx) (Wx : WX) (P : Prog) (R : Fun1) (Φ : Call) (e : Expr) (c : C) : Prop := L2.PW X e (rd (yof G X) Wx (fun _ v w => v = w) (evC P R Φ c))
theorem _root_.L2.PW.imp {X : Cx} {e : Expr} {t t' : TT} (h : L2.PW X e t) (k : ∀ σ H Q, t' σ H Q → t σ H Q) : L2.PW X e t' := ⟨fun wh pins s σ H Q I hq => h.run wh pins s σ H Q I (k σ H Q hq)⟩
variable {c1 c2 : C} {rest : List Expr}
theorem fw_and1 (h : FC G X Wx P R Φ e c1) : FW G X Wx P R Φ (.BoolOp .And [e] pos) c1 := pw_and1 h
theorem fw_or1 (h : FC G X Wx P R Φ e c1) : FW G X Wx P R Φ (.BoolOp .Or [e] pos) c1 := pw_or1 h
theorem fw_and (h1 : FC G X Wx P R Φ e1 c1) (h2 : FW G X Wx P R Φ (.BoolOp .And (e2 :: rest) pos) c2) : FW G X Wx P R Φ (.BoolOp .And (e1 :: e2 :: rest) pos) (.and c1 c2) := by
  refine (pw_and h1 h2).imp fun σ H Q ⟨ρ, x, hx, S, En, h⟩ => ?_
  rw [evC] at h
  refine ⟨ρ, x, hx, S, En, rpost_bind h fun k y w e1 Sy r h2 => ?_⟩
  subst r
  cases k with
  | true => exact ⟨ρ, y, rfl, Sy, En.ext e1, h2⟩
  | false => exact h2 _ y (Ext.refl y) Sy rfl rfl
theorem fw_or (h1 : FC G X Wx P R Φ e1 c1) (h2 : FW G X Wx P R Φ (.BoolOp .Or (e2 :: rest) pos) c2) : FW G X Wx P R Φ (.BoolOp .Or (e1 :: e2 :: rest) pos) (.or c1 c2) := by
  refine (pw_or h1 h2).imp fun σ H Q ⟨ρ, x, hx, S, En, h⟩ => ?_
  rw [evC] at h
  refine ⟨ρ, x, hx, S, En, rpost_bind h fun k y w e1 Sy r h2 => ?_⟩
  subst r
  cases k with
  | false => exact ⟨ρ, y, rfl, Sy, En.ext e1, h2⟩
  | true => exact h2 _ y (Ext.refl y) Sy rfl rfl
theorem fc_w (h : FW G X Wx P R Φ e c1) : FC G X Wx P R Φ e c1 := h.pt
theorem fc_not (h1 : FC G X Wx P R Φ e1 c1) : FC G X Wx P R Φ (.UnaryOp .Not e1 pos) (.not c1) := by
  refine (pt_not h1).imp fun σ H Q ⟨ρ, x, hx, S, En, h⟩ => ?_
  rw [evC] at h
  refine ⟨ρ, x, hx, S, En, rpost_bind h fun k y w e1 Sy r h2 => ?_⟩
  subst r
  exact h2 _ y (Ext.refl y) Sy rfl rfl
theorem fe_one {op} (h : FV G X Wx P R Φ e a) : FV G X Wx P R Φ (.BoolOp op [e] pos) a := pe_one h
theorem fe_and (h1 : FV G X Wx P R Φ e1 a) (h2 : FV G X Wx P R Φ (.BoolOp .And (e2 :: rest) pos) b) : FV G X Wx P R Φ (.BoolOp .And (e1 :: e2 :: rest) pos) (.and a b) := by
  refine (pe_and h1 h2).imp fun σ H Q ⟨ρ, x, hx, S, En, h⟩ => ?_
  rw [evE] at h
  refine ⟨ρ, x, hx, S, En, rpost_bind h fun v y w e1 Sy r h2 => ?_⟩
  split at h2
  · obtain rfl := bool_of r
    exact ⟨true, rfl, ρ, y, rfl, Sy, En.ext e1, h2⟩
  · obtain rfl := bool_of r
    exact ⟨false, rfl, h2 _ y (Ext.refl y) Sy rfl (.d (.bool _))⟩
  · exact h2.elim
theorem fe_or (h1 : FV G X Wx P R Φ e1 a) (h2 : FV G X Wx P R Φ (.BoolOp .Or (e2 :: rest) pos) b) : FV G X Wx P R Φ (.BoolOp .Or (e1 :: e2 :: rest) pos) (.or a b) := by
  refine (pe_or h1 h2).imp fun σ H Q ⟨ρ, x, hx, S, En, h⟩ => ?_
  rw [evE] at h
  refine ⟨ρ, x, hx, S, En, rpost_bind h fun v y w e1 Sy r h2 => ?_⟩
  split at h2
  · obtain rfl := bool_of r
    exact ⟨false, rfl, ρ, y, rfl, Sy, En.ext e1, h2⟩
  · obtain rfl := bool_of r
    exact ⟨true, rfl, h2 _ y (Ext.refl y) Sy rfl (.d (.bool _))⟩
  · exact h2.elim
theorem fe_ife (h0 : FC G X Wx P R Φ e1 c1) (h1 : FV G X Wx P R Φ e2 a) (h2 : FV G X Wx P R Φ e3 b) : FV G X Wx P R Φ (.IfExp e1 e2 e3 pos) (.ife c1 a b) := by
  refine (pe_ifExp h0 h1 h2).imp fun σ H Q ⟨ρ, x, hx, S, En, h⟩ => ?_
  rw [evE] at h
  refine ⟨ρ, x, hx, S, En, rpost_bind h fun k y w e1 Sy r h2 => ?_⟩
  subst r
  cases k with
  | false => exact ⟨ρ, y, rfl, Sy, En.ext e1, h2⟩
  | true => exact ⟨ρ, y, rfl, Sy, En.ext e1, h2⟩
end
end FM
end

section
/-! FM8: rows of expressions, displays, places, cuts. -/
set_option Elab.async false
set_option linter.all false
set_option maxRecDepth 100000
set_option autoImplicit false
set_option maxHeartbeats 1000000
namespace FM
open PySem PySem.Spec PyProof.Rows L2
section
variable {G : Gd} {X : Cx} {Wx : WX} {P : Prog} {R : Fun1} {Φ : Call} {pos : Pos} {e e1 e2 e3 : Expr} {a b c : E} {es : List Expr} {as : Es}
/-! ### a row as it is read -/
theorem seq_of {x : Wd} (S : SR (yof G X) x) {v : V} {w : W} {ws : List W} (r : WV (yof G X) x v w) (h : seqW x.st w = some ws) : ∃ p vs, v = .ref p ∧ (SqL X.K x.H p vs ∨ SqT X.K x.H p vs) ∧ WVs (yof G X) x vs ws := by
  cases r with
  | @d _ d r =>
    cases d <;> simp only [seqW] at h <;> cases h
    · cases r with
      | lst h1 h2 => exact ⟨_, _, rfl, .inl h1.sq, h2.wvs⟩
    · cases r with
      | tup h1 h2 => exact ⟨_, _, rfl, .inr h1.sq, h2.wvs⟩
  | @ref n p hn =>
    simp only [seqW] at h
    split at h
    · rename_i l hc
      cases h
      obtain ⟨vs, hH, rs⟩ := S.cell _ _ _ hn hc
      exact ⟨p, vs, rfl, .inl (.inl (.inl hH)), rs⟩
    · cases h
  | fn f => cases h
/-! ### rows of expressions -/
theorem fl_nil : FL G X Wx P R Φ [] .nil := pa_nil.imp fun σ H Q ⟨ρ, x, hx, S, En, h⟩ => by
  rw [evEs] at h
  subst hx
  exact h [] x (Ext.refl x) S rfl .nil
theorem fl_cons (ha : FV G X Wx P R Φ e a) (hr : FL G X Wx P R Φ es as) (hs : starEach (e :: es) X.env = (false, eval e X.env) :: starEach es X.env := by rfl) : FL G X Wx P R Φ (e :: es) (.cons a as) := by
  refine (pa_cons ha hr hs).imp fun σ H Q ⟨ρ, x, hx, S, En, h⟩ => ?_
  rw [evEs] at h
  refine ⟨ρ, x, hx, S, En, rpost_bind h fun v y w e1 Sy r h2 => ⟨ρ, y, rfl, Sy, En.ext e1, rpost_bind h2 fun vs z ws e2 Sz r2 h3 => ?_⟩⟩
  exact h3 _ z (Ext.refl z) Sz rfl (.cons (e2.wv r) r2)
/-- the signs of a text -/
def signs (z : Str) : List V := z.cps.toList.map fun c => .str ⟨#[c]⟩
theorem shared_eta {s s' : Shared} (h1 : s'.gens = s.gens) (h2 : s'.drawn = s.drawn) (h3 : s'.os = s.os) : s' = { s with heap := s'.heap, toks := s'.toks } := by
  cases s; cases s'; subst h1 h2 h3; rfl
theorem vals_of_get : ∀ {vs : List V} {us : List Value}, vs.length = us.length → (∀ (i : Nat) (v : V) (u : Value), vs[i]? = some v → us[i]? = some u → RelV v u) → Vals vs us
  | [], [], _, _ => .nil
  | [], _ :: _, h, _ => by simp at h
  | _ :: _, [], h, _ => by simp at h
  | v :: vs, u :: us, h, k => .cons (k 0 v u rfl rfl) (vals_of_get (by simpa using h) fun i v u h1 h2 => k (i + 1) v u (by simpa using h1) (by simpa using h2))
theorem signs_vals {z : Str} {acc : Array Value} (h : ItemsOf (SignAt z) acc z.cps.size) : Vals (signs z) acc.toList := by
  refine vals_of_get (by simp [signs, h.1]) fun i v u h1 h2 => ?_
  obtain ⟨c, t, h3, h4⟩ := h.2 i u (by simpa using h2)
  subst h4
  simp only [signs, List.getElem?_map, Option.map_eq_some_iff] at h1
  obtain ⟨c', h5, h6⟩ := h1
  have : c' = c := by
    rw [Array.getElem?_toList, h3] at h5
    cases h5; rfl
  subst this
  subst h6
  exact ⟨t, rfl⟩
theorem star_str {pins : List (Addr × Obj)} {σ : L2.St} {H : Hp} {s : Shared} {z : Str} {t : Tok} {E : Value → Shared → Prop} {Q : List Value → Shared → Prop} (hc : X.calm = true) (I : Inv X pins σ H s) (hz : z.length ≤ sizeLine) (hQ : ∀ us s', Inv X pins σ H s' → Vals (signs z) us → Q us s') :
    PySem.W.StarOf (model X.prog X.w) X.A E (.str z t) Q s := by
  have k : wpAny (model X.prog X.w) X.A (collect (.str z t)) Q E s := by
    refine wpAny_collect_str (I.ok.hd hc) z t (fun s' acc hk h1 h2 h3 it => ?_) hz
    refine hQ _ _ ?_ (signs_vals it)
    rw [shared_eta h1 h2 h3]
    exact I.kept (t' := s'.toks) hk
  unfold PySem.W.StarOf notIterableAtAll
  exact wpAny_bind (wpAny_specialOf (typeIs_str s z t) PySem.F.slot_str_iter.lookup (wpAny_pure ⟨rfl, k⟩))
theorem signs_wvs {Y : Rt} {x : Wd} (z : Str) : WVs Y x (signs z) (chars z) := by
  unfold signs chars tl
  induction z.cps.toList with
  | nil => exact .nil
  | cons c r ih => exact .cons (.d (.str _)) ih
theorem fl_star {sp : Pos} (hc : X.calm = true) (ha : FV G X Wx P R Φ e a) (hr : FL G X Wx P R Φ es as) (hs : starEach (.Starred e sp :: es) X.env = (true, eval e X.env) :: starEach es X.env := by rfl) : FL G X Wx P R Φ (.Starred e sp :: es) (.star a as) := by
  refine ⟨fun pos pins s σ H Q I ⟨ρ, x, hx, S, En, h⟩ => ?_⟩
  rw [evEs] at h
  refine PySem.W.items_star (thn (ha.run pins s σ H _ I ⟨ρ, x, hx, S, En, rpost_bind (K := fun v H1 => ∃ y w src, y.H = H1 ∧ SR (yof G X) y ∧ EnvOk (yof G X) y ρ σ ∧ WV (yof G X) y v w ∧ srcW y.st w = some src ∧ rpost (yof G X) Wx σ y (fun y v w => WVs (yof G X) y v w) Q ((evEs P R Φ as ρ y.st).bind fun ws st => .ok (src.1 ++ ws) st)) h fun v y w e1 Sy r h2 => ?_⟩) fun v s1 ⟨u, H1, I1, ru, y, w, src, hy, Sy, Ey, r, hsrc, h3⟩ => ?_) hs
  · cases hw : srcW y.st w with
    | none => rw [hw] at h2; exact h2.elim
    | some src =>
      rw [hw] at h2
      exact ⟨y, w, src, rfl, Sy, En.ext e1, r, hw, h2⟩
  · subst hy
    have go : ∀ (vs : List V), WVs (yof G X) y vs src.1 → ∀ us s2, Inv X pins σ y.H s2 → Vals vs us → wpAny (model X.prog X.w) X.A (spliced (backTo pos (starEach es X.env))) (fun ws s3 => AP X pins σ Q (us ++ ws) s3) X.xe s2 := fun vs hv us s2 I2 rv => by
      refine thn (hr.run pos pins s2 σ y.H (fun ws H3 => Q (vs ++ ws) H3) I2 ⟨ρ, y, rfl, Sy, Ey, rpost_bind h3 fun xs z ws e2 Sz r2 h4 => h4 _ z (Ext.refl z) Sz rfl ((e2.wvs hv).append r2)⟩) fun ws s3 ⟨xs, H3, I3, r3, q3⟩ => ⟨vs ++ xs, H3, I3, rv.append r3, q3⟩
    cases r with
    | @d _ d r =>
      cases d <;> simp only [srcW] at hsrc <;> try cases hsrc
      · rename_i z
        split at hsrc <;> cases hsrc
        rename_i hz
        cases r
        obtain ⟨t, rfl⟩ := ru
        exact star_str hc I1 (by rw [len_eq, ← SZ_eq]; exact hz) fun us s2 I2 rv => go _ (signs_wvs z) us s2 I2 rv
      · cases r with
        | lst h1 h2 =>
          cases ru
          exact StX.star_any I1 (.inr h1.sq) fun us s2 I2 rv => go _ h2.wvs us s2 I2 rv
      · cases r with
        | tup h1 h2 =>
          cases ru
          exact StX.star_any I1 (.inl h1.sq) fun us s2 I2 rv => go _ h2.wvs us s2 I2 rv
    | @ref n p hn =>
      simp only [srcW] at hsrc
      split at hsrc
      · rename_i l hcl
        cases hsrc
        obtain ⟨vs, hH, rs⟩ := Sy.cell _ _ _ hn hcl
        cases ru
        exact StX.star_any I1 (.inr (.inl (.inl hH))) fun us s2 I2 rv => go _ rs us s2 I2 rv
      · cases hsrc
    | fn f => cases hsrc
/-! ### tuples -/
theorem fe_tup {x1} (h : FL G X Wx P R Φ es as) : FV G X Wx P R Φ (.Tuple es x1 pos) (.tup as) := by
  refine (pe_tup h).imp fun σ H Q ⟨ρ, x, hx, S, En, h⟩ => ?_
  rw [evE] at h
  refine ⟨ρ, x, hx, S, En, rpost_bind h fun vs y ws e1 Sy r h2 => ?_⟩
  split at h2
  · rename_i xs hxs
    split at h2
    · rename_i hz
      have p := r.pvs hxs
      refine ⟨by rw [p.length, ← SZ_eq]; exact hz, fun q hq => ?_⟩
      obtain ⟨e2, S2, n⟩ := Ext.new (o := .tup vs) Sy hq (fun _ z => by cases z)
      exact h2 _ _ e2 S2 rfl (.d (.tup (.inl ⟨.inl upd_same, n⟩) (Ext.pvs e2 p)))
    · exact h2.elim
  · exact h2.elim
/-! ### fresh lists -/
def hoOf (p : Addr) : (List V ⊕ List DictEntry) → HO
  | .inl vs => .lst vs
  | .inr es => DctO p es
theorem hoOf_tbl {p : Addr} {u : List V ⊕ List DictEntry} : ∀ ps, hoOf p u ≠ .tbl ps := by
  intro ps
  cases u with
  | inl vs => exact fun z => by cases z
  | inr es => exact fun z => by cases z
theorem hoOf_code {p : Addr} {u : List V ⊕ List DictEntry} : ∀ q, hoOf p u ≠ LamX.CodeO p q := by
  intro q
  cases u with
  | inl vs => exact fun z => by unfold LamX.CodeO hoOf at z; cases z
  | inr es => exact dct_code
def FrR (Y : Rt) (y : Wd) (p : Addr) : (List V ⊕ List DictEntry) → Fr → Prop
  | .inl vs, .l ws => WVs Y y vs ws
  | .inr es, .m kvs => (p == sysModules) = false ∧ es.length ≤ sizeLine ∧ WEs Y y es kvs ∧ (kvs.map fun p => nk p.1).Nodup
  | _, _ => False
def rpostF (Y : Rt) (Wx : WX) (σ : L2.St) (x : Wd) (Q : VK) : Res Fr → Prop
  | .ok fr st' => ∀ y p u, Ext ⟨p :: x.R, x.μ, x.st, x.H⟩ y → SR Y y → y.st = st' → NT x p → y.H p = some (hoOf p u) → p ∉ x.R → FrR Y y p u fr → Q (.ref p) y.H
  | .exn e st' => ∀ cls d y, Ext x y → SR Y y → y.st = st' → ExR Y y cls d e → Wx cls d σ y.H
  | .bad => False
abbrev FF (G : Gd) (X : Cx) (Wx : WX) (P : Prog) (R : Fun1) (Φ : Call) (e : Expr) (f : F) : Prop := PE X e fun σ H Q => ∃ ρ x, x.H = H ∧ SR (yof G X) x ∧ EnvOk (yof G X) x ρ σ ∧ rpostF (yof G X) Wx σ x Q (evF P R Φ f ρ x.st)
theorem Ext.res {x y : Wd} (e : Ext x y) (p : Addr) : Ext ⟨p :: x.R, x.μ, x.st, x.H⟩ ⟨p :: y.R, y.μ, y.st, y.H⟩ := ⟨by show p :: y.R = p :: x.R; rw [e.R], e.pre, e.keep, e.dom⟩
theorem rpostF_ext {Y : Rt} {σ : L2.St} {x y : Wd} {Q : VK} {r : Res Fr} (e : Ext x y) (h : rpostF Y Wx σ x Q r) : rpostF Y Wx σ y Q r := by
  cases r with
  | ok a st' => exact fun z p u e' s h1 h2 h3 h4 => h z p u ((e.res p).trans e') s h1 (e.nt h2) h3 (by rw [← e.R]; exact h4)
  | exn a st' => exact fun c d z e' => h c d z (e.trans e')
  | bad => exact h
theorem rpostF_bind {Y : Rt} {σ : L2.St} {x : Wd} {α β : Type} {rel : Wd → β → α → Prop} {Q : VK} {K : β → Hp → Prop} {r : Res α} {f : α → Sto → Res Fr} (h : rpostF Y Wx σ x Q (r.bind f))
    (k : ∀ v y a, Ext x y → SR Y y → rel y v a → rpostF Y Wx σ y Q (f a y.st) → K v y.H) : rpost Y Wx σ x rel K r := by
  cases r with
  | ok a st' =>
    intro v y e s hy hr
    subst hy
    exact k v y a e s hr (rpostF_ext e h)
  | exn a st' => exact h
  | bad => exact h
/-- a fresh address is nobody's -/
theorem SR.fresh {Y : Rt} {x : Wd} (S : SR Y x) {p : Addr} (h : x.H p = none) : p ∉ x.R := fun z => by
  obtain ⟨_, o, h2, _⟩ := S.res p z
  rw [h] at h2; cases h2
theorem ff_lst (h : FL G X Wx P R Φ es as) : FF G X Wx P R Φ (.List es pos) (.lst as) := by
  refine (pe_lst h).imp fun σ H Q ⟨ρ, x, hx, S, En, h⟩ => ?_
  rw [evF] at h
  refine ⟨ρ, x, hx, S, En, rpostF_bind h fun vs y ws e1 Sy r h2 => ?_⟩
  split at h2
  · rename_i hz
    refine ⟨by rw [r.length, ← SZ_eq]; exact hz, fun q hq => ?_⟩
    obtain ⟨e2, m2, S2⟩ := new_res (o := .lst vs) Sy hq (fun _ z => by cases z)
    exact h2 _ q (.inl vs) e2 S2 rfl (NT.of hq) upd_same (Sy.fresh hq) (m2.wvs r)
  · exact h2.elim
theorem pur_read {f : F} {σ : L2.St} {H : Hp} {Q : VK} (h : rd (yof G X) Wx (fun y v w => WV (yof G X) y v w) (evE P R Φ (.pur f)) σ H Q) : ∃ ρ x, x.H = H ∧ SR (yof G X) x ∧ EnvOk (yof G X) x ρ σ ∧ rpostF (yof G X) Wx σ x Q (evF P R Φ f ρ x.st) := by
  obtain ⟨ρ, x, hx, S, En, h⟩ := h
  refine ⟨ρ, x, hx, S, En, ?_⟩
  rw [evE] at h
  cases hf : evF P R Φ f ρ x.st with
  | ok fr st' =>
    rw [hf] at h
    intro y p u e1 Sy hy hn hp hR rf
    obtain ⟨e2, m2, S2⟩ := res_still e1 Sy
    have nl : Wd.nl ⟨x.R, y.μ, y.st, y.H⟩ p := ⟨hR, fun ⟨n, c, h1, _⟩ => (Sy.res p (by rw [e1.R]; exact List.mem_cons_self)).1 (List.mem_of_getElem? h1)⟩
    cases hw : fr.pur with
    | none => rw [Res.bind_ok, hw] at h; exact h.elim
    | some w =>
      rw [Res.bind_ok, hw] at h
      refine h _ ⟨x.R, y.μ, y.st, y.H⟩ e2 S2 hy ?_
      cases u with
      | inl vs =>
        cases fr with
        | l ws =>
          simp only [Fr.pur, Option.map_eq_some_iff] at hw
          obtain ⟨xs, e3, rfl⟩ := hw
          exact .d (.lst ⟨.inl hp, nl⟩ (WVs.pvs (m2.wvs rf) e3))
        | m kvs => exact rf.elim
      | inr es =>
        cases fr with
        | l ws => exact rf.elim
        | m kvs =>
          simp only [Fr.pur, Option.map_eq_some_iff] at hw
          obtain ⟨xs, e3, rfl⟩ := hw
          obtain ⟨r1, r2, r3, r4⟩ := rf
          have e4 : (xs.map fun p => nk p.1) = (kvs.map fun p => nk p.1) := by
            have := congrArg (List.map nk) (allDK_keys e3)
            simpa [List.map_map, Function.comp_def] using this.symm
          exact .d (.dct (.inl ⟨hp, nl⟩) r1 r2 ((m2.wes r3).pes e3) (by rw [e4]; exact r4))
  | exn a st' => rw [hf] at h; exact h
  | bad => rw [hf] at h; exact h
theorem fe_pur {f : F} (h : FF G X Wx P R Φ e f) : FV G X Wx P R Φ e (.pur f) := h.imp fun σ H Q h => pur_read h
theorem new_read {f : F} {σ : L2.St} {H : Hp} {Q : VK} (h : rd (yof G X) Wx (fun y v w => WV (yof G X) y v w) (evE P R Φ (.new f)) σ H Q) : ∃ ρ x, x.H = H ∧ SR (yof G X) x ∧ EnvOk (yof G X) x ρ σ ∧ rpostF (yof G X) Wx σ x Q (evF P R Φ f ρ x.st) := by
  obtain ⟨ρ, x, hx, S, En, h⟩ := h
  refine ⟨ρ, x, hx, S, En, ?_⟩
  rw [evE] at h
  cases hf : evF P R Φ f ρ x.st with
  | ok fr st' =>
    rw [hf] at h
    intro y p u e1 Sy hy hn hp hR rf
    have hc : CellOk (yof G X) y p fr.cell := by
      cases u with
      | inl vs =>
        cases fr with
        | l ws => exact ⟨vs, hp, rf⟩
        | m kvs => exact rf.elim
      | inr es =>
        cases fr with
        | l ws => exact rf.elim
        | m kvs =>
          obtain ⟨r1, r2, r3, r4⟩ := rf
          exact ⟨es, hp, r1, r2, r3, r4⟩
    obtain ⟨e2, m2, S2, r2⟩ := res_cell e1 Sy hn ⟨_, hp, hoOf_tbl, hoOf_code⟩ hR hc
    subst hy
    exact h (.ref p) ⟨x.R, y.μ ++ [p], y.st ++ [fr.cell], y.H⟩ e2 S2 rfl r2
  | exn a st' => rw [hf] at h; exact h
  | bad => rw [hf] at h; exact h
theorem fe_new {f : F} (h : FF G X Wx P R Φ e f) : FV G X Wx P R Φ e (.new f) := h.imp fun σ H Q h => new_read h
end
end FM
end

section
/-! FM9: places, cuts, builtins. -/
set_option Elab.async false
set_option linter.all false
set_option maxRecDepth 100000
set_option autoImplicit false
set_option maxHeartbeats 1000000
namespace FM
open PySem PySem.Spec PyProof.Rows L2
theorem atI_eq {α : Type} (xs : List α) (i : Int) : L2.atI xs i = FM.atI xs i := by
  unfold L2.atI L2.ixN FM.atI
  by_cases h : 0 ≤ i
  · rw [if_pos h, if_pos h]
    by_cases h2 : i < xs.length
    · rw [if_pos h2]; rfl
    · rw [if_neg h2, List.getElem?_eq_none (by omega)]; rfl
  · rw [if_neg h, if_neg h]
    by_cases h2 : -(xs.length : Int) ≤ i
    · rw [if_pos h2, if_pos (by omega), Int.add_comm]; rfl
    · rw [if_neg h2, if_neg (by omega)]; rfl
theorem atI_map {α β : Type} (f : α → β) (xs : List α) (i : Int) : FM.atI (xs.map f) i = (FM.atI xs i).map f := by
  unfold FM.atI
  simp only [List.length_map, List.getElem?_map]
  split
  · rfl
  · split <;> rfl
section
variable {G : Gd} {X : Cx} {Wx : WX} {P : Prog} {R : Fun1} {Φ : Call} {pos : Pos} {e e1 e2 e3 : Expr} {a b c : E} {es : List Expr} {as : Es}
theorem wvs_at {Y : Rt} {x : Wd} {vs : List V} {ws : List W} (h : WVs Y x vs ws) {i : Int} {w : W} (e : FM.atI ws i = some w) : ∃ v, L2.atI vs i = some v ∧ WV Y x v w := by
  rw [atI_eq]
  unfold FM.atI at e ⊢
  rw [h.length]
  split at e
  · obtain ⟨v, h1, h2⟩ := h.get e
    rename_i h0
    rw [if_pos h0]
    exact ⟨v, h1, h2⟩
  · rename_i h0
    rw [if_neg h0]
    split at e
    · rename_i h1
      rw [if_pos h1]
      exact h.get e
    · cases e
theorem ix_rop : IxR X (rOp (yof G X) idxW) := by
  intro value slice pins s σ H v u vv uu Q I rv ru ⟨x, wa, wb, w, hx, S, ha, hb, hw, q⟩ hs
  subst hx
  unfold idxW at hw
  split at hw
  · rename_i i
    cases hb with
    | d hb =>
      cases hb
      split at hw
      · rename_i z
        split at hw
        · rename_i hz
          simp only [Option.map_eq_some_iff] at hw
          obtain ⟨c, e1, rfl⟩ := hw
          cases ha with
          | d ha =>
            cases ha
            exact ix_seq value slice pins s σ _ _ _ _ _ _ I rv ru (.inr (.inr ⟨z, i, c, rfl, rfl, by rw [len_eq, ← SZ_eq]; exact hz, by rw [atI_eq]; exact e1, q.d S (.str _)⟩)) hs
        · cases hw
      · split at hw
        · rename_i ws hws
          obtain ⟨p, vs, rfl, hp, rs⟩ := seq_of S ha hws
          obtain ⟨v', e1, r1⟩ := wvs_at rs hw
          rcases hp with hp | hp
          · exact ix_seq value slice pins s σ _ _ _ _ _ _ I rv ru (.inl ⟨p, vs, i, v', rfl, rfl, hp, e1, q.w S r1⟩) hs
          · exact ix_seq value slice pins s σ _ _ _ _ _ _ I rv ru (.inr (.inl ⟨p, vs, i, v', rfl, rfl, hp, e1, q.w S r1⟩)) hs
        · cases hw
  · cases hw
theorem fe_idx (ha : FV G X Wx P R Φ e1 a) (hb : FV G X Wx P R Φ e2 b) (hs : PlainIx e2 := by exact fun _ _ => rfl) : FV G X Wx P R Φ (.Subscript e1 e2 pos) (.idx a b) := by
  refine (pe_ix (ix_rop (G := G)) ha hb hs).imp fun σ H Q ⟨ρ, x, hx, S, En, h⟩ => ?_
  rw [evE] at h
  exact rd2 ⟨ρ, x, hx, S, En, h⟩
/-! ### cuts -/
abbrev FO (G : Gd) (X : Cx) (Wx : WX) (P : Prog) (R : Fun1) (Φ : Call) (e : Option Expr) (o : O) : Prop := PO X e (rd (yof G X) Wx (fun _ v w => v = w) (evO P R Φ o))
theorem _root_.L2.PO.imp {X : Cx} {e : Option Expr} {t t' : TO} (h : PO X e t) (k : ∀ σ H Q, t' σ H Q → t σ H Q) : PO X e t' := ⟨fun pins s σ H Q I hq => h.run pins s σ H Q I (k σ H Q hq)⟩
theorem fo_no : FO G X Wx P R Φ none .no := po_none.imp fun σ H Q ⟨ρ, x, hx, S, En, h⟩ => by
  rw [evO] at h
  subst hx
  exact h none x (Ext.refl x) S rfl rfl
theorem int_of {Y : Rt} {x : Wd} {v : V} {w : W} {i : Int} (r : WV Y x v w) (h : int? w = some i) : v = .int i ∧ w = .d (.int i) := by
  cases r with
  | @d _ d r =>
    cases d <;> simp [int?] at h
    subst h
    cases r
    exact ⟨rfl, rfl⟩
  | ref _ => simp [int?] at h
  | fn _ => simp [int?] at h
theorem fo_e (h : FV G X Wx P R Φ e a) : FO G X Wx P R Φ (some e) (.e a) := by
  refine (po_some h).imp fun σ H Q ⟨ρ, x, hx, S, En, h⟩ => ?_
  rw [evO] at h
  refine ⟨ρ, x, hx, S, En, rpost_bind h fun v y w e1 Sy r h2 => ?_⟩
  obtain ⟨o, ho, k⟩ := rpost_of h2
  simp only [Option.map_eq_some_iff] at ho
  obtain ⟨i, hi, rfl⟩ := ho
  obtain ⟨rfl, _⟩ := int_of r hi
  exact ⟨i, rfl, k _ y (Ext.refl y) Sy rfl rfl⟩
def rSlW (Y : Rt) : V → Option Int → Option Int → Hp → VK → Prop := fun v lo hi H Q => ∃ x a w, x.H = H ∧ SR Y x ∧ WV Y x v a ∧ slW x.st a lo hi = some w ∧ After Y x w Q
theorem cut_eq {α : Type} (xs : List α) (lo hi : Option Int) : cut xs lo hi = (xs.drop (HT.sIx xs.length 0 lo)).take (HT.sIx xs.length xs.length hi - HT.sIx xs.length 0 lo) := by
  unfold cut
  cases lo <;> cases hi <;> simp [HT.sIx, sIdx, Int.add_comm]
theorem PVs.drop {Y : Rt} {H : Hp} {nl : Addr → Prop} : ∀ {vs : List V} {ds : List D}, PVs Y H nl vs ds → ∀ n : Nat, PVs Y H nl (vs.drop n) (ds.drop n)
  | _, _, .nil, n => by simp; exact .nil
  | _, _, .cons h t, 0 => .cons h t
  | _, _, .cons h t, n + 1 => PVs.drop t n
theorem PVs.take {Y : Rt} {H : Hp} {nl : Addr → Prop} : ∀ {vs : List V} {ds : List D}, PVs Y H nl vs ds → ∀ n : Nat, PVs Y H nl (vs.take n) (ds.take n)
  | _, _, .nil, n => by simp; exact .nil
  | _, _, .cons h t, 0 => .nil
  | _, _, .cons h t, n + 1 => .cons h (PVs.take t n)
theorem PVs.reverse {Y : Rt} {H : Hp} {nl : Addr → Prop} : ∀ {vs : List V} {ds : List D}, PVs Y H nl vs ds → PVs Y H nl vs.reverse ds.reverse
  | _, _, .nil => .nil
  | _, _, .cons h t => by
    rw [List.reverse_cons, List.reverse_cons]
    exact (PVs.reverse t).append (.cons h .nil)
theorem PVs.cut {Y : Rt} {H : Hp} {nl : Addr → Prop} {vs : List V} {ds : List D} (h : PVs Y H nl vs ds) (lo hi : Option Int) : PVs Y H nl (cutV vs lo hi) (cut ds lo hi) := by
  rw [cut_eq, ← h.length]
  exact (h.drop _).take _
theorem sl_rop : SlR X (rSlW (yof G X)) := by
  intro pins s σ H v vv vl vu lo hi sl Q I rv hs pl pu ⟨x, wa, w, hx, S, ha, hw, q⟩
  subst hx
  unfold slW at hw
  split at hw
  · rename_i d hd
    simp only [Option.map_eq_some_iff] at hw
    obtain ⟨d', e1, rfl⟩ := hw
    have h1 := S.vw ha hd
    cases d <;> simp only [slD] at e1 <;> try cases e1
    · split at e1 <;> cases e1
      rename_i z hz
      obtain rfl := h1.str
      refine sl_str pins s σ _ _ _ _ _ _ _ _ _ I rv hs pl pu ⟨z, rfl, by rw [len_eq, ← SZ_eq]; exact hz, ?_⟩
      have e2 : cutS z lo hi = T (cut (tl z) lo hi) := by
        rw [cut_eq]
        unfold cutS
        rw [len_eq]
        rfl
      rw [e2]
      exact q.d S (.str _)
    · obtain ⟨p, vs, rfl, hp, ps⟩ := h1.list
      exact sl_list pins s σ _ _ _ _ _ _ _ _ _ I rv hs pl pu ⟨p, vs, rfl, .inl hp, fun n hn => q.lst S (ps.cut lo hi) hn⟩
    · split at e1 <;> cases e1
      rename_i xs hcw
      obtain ⟨p, vs, rfl, hp, ps⟩ := h1.tuple
      refine sl_tup pins s σ _ _ _ _ _ _ _ _ _ I rv hs pl pu ⟨p, vs, rfl, hp.sq, ?_, fun n hn => q.tup S (ps.cut lo hi) hn⟩
      rintro ⟨h2, h3⟩
      rw [ps.length] at h2 h3
      refine hcw ?_
      unfold cutWhole
      simp only [Bool.and_eq_true, decide_eq_true_eq]
      refine ⟨?_, ?_⟩
      · cases lo <;> simp_all [HT.sIx, sIdx, Int.add_comm]
      · cases hi <;> simp_all [HT.sIx, sIdx, Int.add_comm]
  · cases hw
variable {lo hi : Option Expr} {ol oh : O} {p2 : Pos}
theorem fe_sl (ha : FV G X Wx P R Φ e a) (hl : FO G X Wx P R Φ lo ol) (hh : FO G X Wx P R Φ hi oh) : FV G X Wx P R Φ (.Subscript e (.Slice lo hi none p2) pos) (.sl a ol oh) := by
  refine (pe_slice (p2 := p2) (sl_rop (G := G)) ha hl hh).imp fun σ H Q ⟨ρ, x, hx, S, En, h⟩ => ?_
  rw [evE] at h
  refine ⟨ρ, x, hx, S, En, rpost_bind h fun v y w e1 Sy r h2 => ⟨ρ, y, rfl, Sy, En.ext e1, rpost_bind h2 fun l z l' e2 Sz r2 h3 => ⟨ρ, z, rfl, Sz, (En.ext e1).ext e2, rpost_bind h3 fun h' z4 h'' e4 S4 r4 h5 => ?_⟩⟩⟩
  subst r2 r4
  obtain ⟨w', hw, k⟩ := rpost_of h5
  exact ⟨z4, w, w', rfl, S4, e4.wv (e2.wv r), hw, k⟩
theorem fe_rev {k : Nat} {p1 p2 p3 : Pos} (ha : FV G X Wx P R Φ e a) : FV G X Wx P R Φ (.Subscript e (.Slice none none (some (.UnaryOp .USub (.Constant (.int 1) k p1) p2)) p3) pos) (.rev a) := by
  refine (pe_revL ha).imp fun σ H Q ⟨ρ, x, hx, S, En, h⟩ => ?_
  rw [evE] at h
  refine ⟨ρ, x, hx, S, En, rpost_bind h fun v y w e1 Sy r h2 => ?_⟩
  obtain ⟨w', hw, k⟩ := rpost_of h2
  cases hd : vw y.st w with
  | none => rw [hd] at hw; cases hw
  | some d =>
    rw [hd] at hw
    simp only [Option.bind_some, Option.map_eq_some_iff] at hw
    obtain ⟨d', e2, rfl⟩ := hw
    have h1 := Sy.vw r hd
    cases d <;> simp only [revD] at e2 <;> cases e2
    obtain ⟨p, vs, rfl, hp, ps⟩ := h1.list
    exact ⟨p, vs, rfl, .inl hp, fun n hn => After.lst (Y := yof G X) k Sy ps.reverse hn⟩
/-! ### builtins -/
def rB (Y : Rt) (f : Sto → W → Option W) : List V → Hp → VK → Prop := fun vs H Q => ∃ x v a w, vs = [v] ∧ x.H = H ∧ SR Y x ∧ WV Y x v a ∧ f x.st a = some w ∧ After Y x w Q
theorem rdB1 {f : Sto → W → Option W} {α : Env → Sto → Res W} {σ : L2.St} {H : Hp} {Q : VK} (h : rd (yof G X) Wx (fun y v w => WV (yof G X) y v w) (fun ρ st => (α ρ st).bind fun x st => Res.of (f st x) st) σ H Q) :
    tCB (rB (yof G X) f) (tCons (rd (yof G X) Wx (fun y v w => WV (yof G X) y v w) α) tNil) σ H Q := by
  obtain ⟨ρ, x, hx, S, En, h⟩ := h
  refine ⟨ρ, x, hx, S, En, rpost_bind h fun v y w e1 Sy r h2 => ?_⟩
  obtain ⟨w', hw, k⟩ := rpost_of h2
  exact ⟨y, v, w, w', rfl, rfl, Sy, r, hw, k⟩
/-- the builtins' names are nobody else's -/
def bnames : List Str := ["len", "int", "str", "ord", "isinstance", "list", "tuple", "dict", "bool", "range", "enumerate", "zip", "sorted", "repr", "sum", "all", "any", "max", "min", "abs", "ValueError"]
structure BltN (mg : Str → Option Value) : Prop where
  no : ∀ n ∈ bnames, mg n = none
variable {n : Str} {p : Pos}
theorem fe_bb {b : B1} {id : String} (hc : CallR X (.builtin id) (rB (yof G X) fun st => b1W R st b)) (hv : bootBuiltins n = some (.builtin id)) (hm : X.mg n = none) (hg : Gl X n) (hn : n ≠ "__name__") (hd : (n == ("__debug__" : Str)) = false) (ha : FV G X Wx P R Φ e a)
    (hs : starEach [e] X.env = [(false, eval e X.env)]) : FV G X Wx P R Φ (.Call (.Name n p) [e] [] pos) (.b1 b a) := by
  refine (pe_callB hc hg hm hv (pa_cons ha pa_nil hs) hn hd hs rfl).imp fun σ H Q ⟨ρ, x, hx, S, En, h⟩ => ?_
  rw [evE] at h
  exact rdB1 ⟨ρ, x, hx, S, En, h⟩
theorem fe_bt {b : B1} {id : String} (hc : CallR X (.type id) (rB (yof G X) fun st => b1W R st b)) (hv : bootBuiltins n = some (.type id)) (hm : X.mg n = none) (hg : Gl X n) (hn : n ≠ "__name__") (hd : (n == ("__debug__" : Str)) = false) (ha : FV G X Wx P R Φ e a)
    (hs : starEach [e] X.env = [(false, eval e X.env)]) : FV G X Wx P R Φ (.Call (.Name n p) [e] [] pos) (.b1 b a) := by
  refine (pe_callTy hc hg hm hv (pa_cons ha pa_nil hs) hn hd hs rfl).imp fun σ H Q ⟨ρ, x, hx, S, En, h⟩ => ?_
  rw [evE] at h
  exact rdB1 ⟨ρ, x, hx, S, En, h⟩
theorem cb_len : CallR X (.builtin "len") (rB (yof G X) fun st => b1W R st .len) := by
  intro pins s σ H vs us Q I rv ⟨x, v, wa, w, hv, hx, S, ha, hw, q⟩
  subst hx hv
  simp only [b1W, Option.map_eq_some_iff] at hw
  obtain ⟨i, hi, rfl⟩ := hw
  unfold lenW at hi
  split at hi
  · rename_i z
    split at hi <;> cases hi
    rename_i hz
    cases ha with
    | d ha =>
      cases ha
      refine call_len pins s σ _ _ _ _ I rv ⟨_, (tl z).length, rfl, ⟨by rw [len_eq, ← SZ_eq]; exact hz, (len_eq z).symm⟩, q.d S (.int _)⟩
  · simp only [Option.map_eq_some_iff] at hi
    obtain ⟨ws, hws, rfl⟩ := hi
    obtain ⟨p, vs, rfl, hp, rs⟩ := seq_of S ha hws
    refine call_len pins s σ _ _ _ _ I rv ⟨_, ws.length, rfl, ?_, q.d S (.int _)⟩
    rcases hp with hp | hp
    · exact .inl ⟨vs, hp, rs.length.symm⟩
    · exact .inr ⟨vs, hp, rs.length.symm⟩
theorem cb_int : CallR X (.type "int") (rB (yof G X) fun st => b1W R st .int) := by
  intro pins s σ H vs us Q I rv ⟨x, v, wa, w, hv, hx, S, ha, hw, q⟩
  subst hx hv
  simp only [b1W] at hw
  split at hw
  · cases hw
    cases ha with
    | d ha =>
      cases ha
      exact call_int1 pins s σ _ _ _ _ I rv (.inl ⟨_, rfl, q.d S (.int _)⟩)
  · cases hw
  · cases hw
theorem cb_ord : CallR X (.builtin "ord") (rB (yof G X) fun st => b1W R st .ord) := by
  intro pins s σ H vs us Q I rv ⟨x, v, wa, w, hv, hx, S, ha, hw, q⟩
  subst hx hv
  simp only [b1W] at hw
  split at hw
  · rename_i z
    split at hw
    · rename_i c hz
      cases hw
      cases ha with
      | d ha =>
        cases ha
        refine call_ord pins s σ _ _ _ _ I rv ⟨z, rfl, by rw [len_eq, hz]; rfl, ?_⟩
        have e2 : z.cps.getD 0 0 = c := by
          have e3 : z.cps.toList = [c] := hz
          rw [Array.getD_eq_getD_getElem?, ← Array.getElem?_toList, e3]
          rfl
        rw [e2]
        exact q.d S (.int _)
    · cases hw
  · cases hw
theorem cb_abs : CallR X (.builtin "abs") (rB (yof G X) fun st => b1W R st .abs) := by
  intro pins s σ H vs us Q I rv ⟨x, v, wa, w, hv, hx, S, ha, hw, q⟩
  subst hx hv
  simp only [b1W] at hw
  split at hw
  · cases hw
    cases ha with
    | d ha =>
      cases ha
      exact call_abs pins s σ _ _ _ _ I rv ⟨_, rfl, q.d S (.int _)⟩
  · cases hw
theorem bools_of {Y : Rt} {H : Hp} {nl : Addr → Prop} : ∀ {vs : List V} {ds : List D} {bs : List Bool}, PVs Y H nl vs ds → boolsD ds = some bs → vs = bs.map V.bl
  | _, _, _, .nil, h => by cases h; rfl
  | _, d :: ds, bs, .cons r t, h => by
    cases d <;> simp only [boolsD, Option.map_eq_some_iff, reduceCtorEq] at h
    obtain ⟨l, e1, e2⟩ := h
    cases r
    rw [bools_of t e1, ← e2]
    rfl
theorem cb_all (hc : X.calm = true) : CallR X (.builtin "all") (rB (yof G X) fun st => b1W R st .all) := by
  intro pins s σ H vs us Q I rv ⟨x, v, wa, w, hv, hx, S, ha, hw, q⟩
  subst hx hv
  simp only [b1W] at hw
  split at hw
  · rename_i xs hxs
    simp only [Option.map_eq_some_iff] at hw
    obtain ⟨bs, e1, rfl⟩ := hw
    obtain ⟨p, ws, rfl, hp, ps⟩ := (S.vw ha hxs).list
    have := bools_of ps e1
    subst this
    exact cr_all hc pins s σ _ _ _ _ I rv ⟨p, bs, rfl, .inl hp, q.d S (.bool _)⟩
  · cases hw
theorem cb_any (hc : X.calm = true) : CallR X (.builtin "any") (rB (yof G X) fun st => b1W R st .any) := by
  intro pins s σ H vs us Q I rv ⟨x, v, wa, w, hv, hx, S, ha, hw, q⟩
  subst hx hv
  simp only [b1W] at hw
  split at hw
  · rename_i xs hxs
    simp only [Option.map_eq_some_iff] at hw
    obtain ⟨bs, e1, rfl⟩ := hw
    obtain ⟨p, ws, rfl, hp, ps⟩ := (S.vw ha hxs).list
    have := bools_of ps e1
    subst this
    exact cr_any hc pins s σ _ _ _ _ I rv ⟨p, bs, rfl, .inl hp, q.d S (.bool _)⟩
  · cases hw
theorem ints_of {Y : Rt} {H : Hp} {nl : Addr → Prop} : ∀ {vs : List V} {ds : List D} {i : Int}, PVs Y H nl vs ds → sumI ds = some i → ∃ ns : List Int, vs = ns.map V.int ∧ ns.sum = i
  | _, _, _, .nil, h => by cases h; exact ⟨[], rfl, rfl⟩
  | _, d :: ds, i, .cons r t, h => by
    cases d <;> simp only [sumI, Option.map_eq_some_iff, reduceCtorEq] at h
    rename_i k
    obtain ⟨l, e1, e2⟩ := h
    cases r
    obtain ⟨ns, e3, e4⟩ := ints_of t e1
    exact ⟨k :: ns, by rw [e3]; rfl, by rw [List.sum_cons, e4, e2]⟩
theorem cb_sum (hc : X.calm = true) : CallR X (.builtin "sum") (rB (yof G X) fun st => b1W R st .sum) := by
  intro pins s σ H vs us Q I rv ⟨x, v, wa, w, hv, hx, S, ha, hw, q⟩
  subst hx hv
  simp only [b1W] at hw
  split at hw
  · rename_i xs hxs
    simp only [Option.map_eq_some_iff] at hw
    obtain ⟨i, e1, rfl⟩ := hw
    obtain ⟨p, ws, rfl, hp, ps⟩ := (S.vw ha hxs).list
    obtain ⟨ns, rfl, rfl⟩ := ints_of ps e1
    exact cr_sum hc pins s σ _ _ _ _ I rv ⟨p, ns, rfl, .inl hp, q.d S (.int _)⟩
  · cases hw
theorem cb_tuple : CallR X (.type "tuple") (rB (yof G X) fun st => b1W R st .tuple) := by
  intro pins s σ H vs us Q I rv ⟨x, v, wa, w, hv, hx, S, ha, hw, q⟩
  subst hx hv
  simp only [b1W] at hw
  split at hw
  · rename_i xs hxs
    cases hw
    obtain ⟨p, ws, rfl, hp, ps⟩ := (S.vw ha hxs).list
    exact call_tuple_of pins s σ _ _ _ _ I rv ⟨p, ws, rfl, .inl ⟨.inl hp, fun l hl => q.tup S ps hl⟩⟩
  · rename_i xs hxs
    cases hw
    obtain ⟨p, ws, rfl, hp, ps⟩ := (S.vw ha hxs).tuple
    exact call_tuple_of pins s σ _ _ _ _ I rv ⟨p, ws, rfl, .inr ⟨hp.sq, q.d S (.tup hp ps)⟩⟩
  · cases hw
end
end FM
end

section
/-! FM10: isinstance, repr, methods. -/
set_option Elab.async false
set_option linter.all false
set_option maxRecDepth 100000
set_option autoImplicit false
set_option maxHeartbeats 1000000
namespace FM
open PySem PySem.Spec PyProof.Rows L2
def R0 : Fun1 where
  repr d := tl d.shown
  showI i := tl (toString i : Str)
  ok d := d.showable && decide (d.shown.length ≤ SZ)
mutual
theorem hasDict_nod : ∀ {d : D}, nod d = true → d.hasDict = false
  | .none, _ => rfl
  | .bool _, _ => rfl
  | .int _, _ => rfl
  | .str _, _ => rfl
  | .list xs, h => by
    simp only [PyData.hasDict]
    exact hasDict_nodAll (by simpa [nod] using h)
  | .tuple xs, h => by
    simp only [PyData.hasDict]
    exact hasDict_nodAll (by simpa [nod] using h)
  | .dict _, h => by simp [nod] at h
theorem hasDict_nodAll : ∀ {xs : List D}, nodAll xs = true → PyData.hasDictAll xs = false
  | [], _ => rfl
  | x :: xs, h => by
    simp only [nodAll, Bool.and_eq_true] at h
    simp only [PyData.hasDictAll, hasDict_nod h.1, hasDict_nodAll h.2, Bool.or_self]
end
section
variable {G : Gd} {X : Cx} {Wx : WX} {P : Prog} {R : Fun1} {Φ : Call} {pos : Pos} {e e1 e2 e3 : Expr} {a b c : E} {es : List Expr} {as : Es} {n : Str} {p : Pos}
theorem cb_repr (hg : X.A.guards = some []) (hu : X.A.units + 66 < cLine) : CallR X (.builtin "repr") (rB (yof G X) fun st => b1W R0 st .repr) := by
  intro pins s σ H vs us Q I rv ⟨x, v, wa, w, hv, hx, S, ha, hw, q⟩
  subst hx hv
  simp only [b1W] at hw
  split at hw
  · rename_i d hd
    split at hw
    · rename_i ok
      cases hw
      have h1 := S.vw ha hd
      cases rv with
      | cons r1 r2 =>
        cases r2
        obtain ⟨as, rd⟩ := h1.reads I r1
        cases d <;> simp only [reprOk] at ok <;> try cases ok
        rename_i xs
        simp only [Bool.and_eq_true, decide_eq_true_eq, R0] at ok
        obtain ⟨o1, o2, o3, o4⟩ := ok
        obtain ⟨p, ws, rfl, hp, ps⟩ := h1.tuple
        cases r1
        rw [dep_depth] at o2
        refine repr_of_reads' rd o3 (fun h => by rw [hasDict_nod o1] at h; cases h) hg (by omega) (fun _ _ e => e) (fun h' u tk hk => ?_) (by rw [← SZ_eq]; exact o4)
        refine ⟨.str (PyData.shown (.tuple xs)), x.H, I.kept hk, ⟨u, rfl⟩, ?_⟩
        have e2 : dStr (R0.repr (.tuple xs)) = .str (PyData.shown (.tuple xs)) := by simp [R0]
        rw [e2] at q
        exact q.d S (.str _)
    · cases hw
  · cases hw
/-! ### isinstance -/
def tyN : Ty → String
  | .int => "int" | .str => "str" | .bool => "bool" | .list => "list" | .tuple => "tuple" | .dict => "dict"
def tyO : Option Ty → String
  | none => "NoneType"
  | some t => tyN t
theorem kit_tab {K : PySem.W.Frag} (t : Option Ty) (u : Ty) : PySem.W.kitOne K (.type (tyO t)) (.type (tyN u)) = some (isTy t u) := by
  cases t with
  | none => cases u <;> exact kit_ty (by decide +kernel)
  | some t => cases t <;> cases u <;> exact kit_ty (by decide +kernel)
theorem tyx_of {x : Wd} (S : SR (yof G X) x) {v : V} {w : W} (r : WV (yof G X) x v w) (k : kindOk x.st w = true) : TyX X.K x.H v (.type (tyO (tyOf x.st w))) := by
  cases r with
  | @d _ d r =>
    cases r with
    | none => exact .base .non
    | bool b => exact .base (.bl b)
    | int b => exact .base (.int b)
    | str b => exact .base (.str b)
    | tup h _ =>
      rcases h with ⟨h | ⟨o, h⟩, _⟩ | ⟨o, its, n, h1, h2, _⟩
      · exact .base (.tup h)
      · exact .fTuple h
      · exact .kTuple h1 h2
    | lst h _ =>
      rcases h with ⟨h | ⟨o, h⟩, _⟩
      · exact .base (.lst h)
      · exact .base (.frz h)
    | dct _ _ _ _ _ => simp [kindOk] at k
  | @ref n p hn =>
    simp only [kindOk] at k
    split at k
    · rename_i l hc
      obtain ⟨vs, hH, rs⟩ := S.cell _ _ _ hn hc
      simp only [tyOf, hc]
      exact .base (.lst hH)
    · cases k
  | fn f => simp [kindOk] at k
theorem kit_any {K : PySem.W.Frag} (t : Option Ty) : ∀ ts : List Ty, PySem.W.kitAny K (.type (tyO t)) (ts.map fun u => .type (tyN u)) = some (ts.any (isTy t))
  | [] => kitAny_nil
  | u :: us => by
    refine kitAny_cons (kit_tab t u) (fun h => ?_) (fun h => ?_)
    · rw [List.any_cons, h, Bool.false_or]
      exact kit_any t us
    · rw [List.any_cons, h, Bool.true_or]
/-- a built-in type's name -/
structure TyNm (X : Cx) (e : Expr) (t : Ty) : Prop where
  run : PE X e (tC (.ty (tyN t)))
  plain : ∀ es, starEach (e :: es) X.env = (false, eval e X.env) :: starEach es X.env
theorem tyNm {t : Ty} (hg : Gl X n) (hm : X.mg n = none) (hv : bootBuiltins n = some (.type (tyN t))) (hn : n ≠ "__name__" := by decide) (hd : (n == ("__debug__" : Str)) = false := by decide) : TyNm X (.Name n p) t :=
  ⟨pe_bltn hg hm hv rfl hn hd, fun _ => rfl⟩
theorem isi_done {ts : List Ty} {x : Wd} {w : W} {Q : VK} {σ : L2.St} {k : Bool} (S : SR (yof G X) x) (h : rpost (yof G X) Wx σ x (fun y v w => WV (yof G X) y v w) Q (Res.of ((isiW x.st w ts).map fun b => W.d (.bool b)) x.st)) : kindOk x.st w = true ∧ ∀ y, Ext x y → SR (yof G X) y → y.st = x.st → Q (.bl (ts.any (isTy (tyOf x.st w)))) y.H := by
  obtain ⟨w', hw, q⟩ := rpost_of h
  simp only [Option.map_eq_some_iff] at hw
  obtain ⟨k', e3, rfl⟩ := hw
  unfold isiW at e3
  split at e3
  · rename_i hk
    cases e3
    exact ⟨hk, fun y ey Sy hy => q _ y ey Sy hy (.d (.bool _))⟩
  · cases e3
theorem fe_isi1 {t : Ty} (hg : Gl X "isinstance") (hm : X.mg "isinstance" = none) (ha : FV G X Wx P R Φ e a) (ht : TyNm X e2 t) (hs : starEach [e, e2] X.env = (false, eval e X.env) :: starEach [e2] X.env := by rfl) (hs2 : (backTo pos (starEach [e2] X.env)).any (·.1) = false := by rfl) :
    FV G X Wx P R Φ (.Call (.Name "isinstance" p) [e, e2] [] pos) (.isi a [t]) := by
  refine (pe_callB call_isi hg hm boot_isinstance (pa_cons ha (pa_cons ht.run pa_nil (ht.plain [])) hs) (by decide) (by decide) hs hs2).imp fun σ H Q ⟨ρ, x, hx, S, En, h⟩ => ?_
  rw [evE] at h
  refine ⟨ρ, x, hx, S, En, rpost_bind h fun v y w e1 Sy r h2 => ?_⟩
  obtain ⟨hk, q⟩ := isi_done (k := true) Sy h2
  exact ⟨v, .ty (tyN t), _, .type (tyN t), _, rfl, .ty _, tyx_of Sy r hk, kit_tab _ t, by have := q y (Ext.refl y) Sy rfl; simpa using this⟩
theorem fe_isi2 {t u : Ty} {e3 : Expr} {x1 : Nat} {tp : Pos} (hg : Gl X "isinstance") (hm : X.mg "isinstance" = none) (ha : FV G X Wx P R Φ e a) (ht : TyNm X e2 t) (hu : TyNm X e3 u) (hs : starEach [e, .Tuple [e2, e3] x1 tp] X.env = (false, eval e X.env) :: starEach [.Tuple [e2, e3] x1 tp] X.env := by rfl) :
    FV G X Wx P R Φ (.Call (.Name "isinstance" p) [e, .Tuple [e2, e3] x1 tp] [] pos) (.isi a [t, u]) := by
  refine (pe_callB call_isiT hg hm boot_isinstance (pa_cons ha (pa_cons (pe_tup (pa_cons ht.run (pa_cons hu.run pa_nil (hu.plain [])) (ht.plain _))) pa_nil) hs) (by decide) (by decide) hs).imp fun σ H Q ⟨ρ, x, hx, S, En, h⟩ => ?_
  rw [evE] at h
  refine ⟨ρ, x, hx, S, En, rpost_bind h fun v y w e1 Sy r h2 => ?_⟩
  refine ⟨by show 2 ≤ sizeLine; decide, fun q hq => ?_⟩
  obtain ⟨hk, k⟩ := isi_done (k := true) Sy h2
  obtain ⟨e2, S2, n⟩ := Ext.new (o := .tup [.ty (tyN t), .ty (tyN u)]) Sy hq (fun _ z => by cases z)
  refine ⟨v, q, [.ty (tyN t), .ty (tyN u)], _, [.type (tyN t), .type (tyN u)], _, rfl, upd_same, .cons (.ty _) (.cons (.ty _) .nil), tyx_of S2 (e2.wv r) hk, kit_any _ [t, u], k _ e2 S2 rfl⟩
end
end FM
end

section
/-! FM11: methods. -/
set_option Elab.async false
set_option linter.all false
set_option maxRecDepth 100000
set_option autoImplicit false
set_option maxHeartbeats 1000000
namespace FM
open PySem PySem.Spec PyProof.Rows L2
section
variable {G : Gd} {X : Cx} {Wx : WX} {P : Prog} {R : Fun1} {Φ : Call} {pos : Pos} {e e1 e2 e3 : Expr} {a b c : E} {es : List Expr} {as : Es} {n : Str} {p apos cpos : Pos}
/-- a cell is written -/
theorem cell_set {Y : Rt} {x : Wd} (S : SR Y x) {n : Nat} {a : Addr} {c c' : Cell} {o : HO} (hn : x.μ[n]? = some a) (hc : x.st[n]? = some c) (hd : c ≠ .dead) (hd' : c' ≠ .dead) (ho : ∀ ps, o ≠ .tbl ps) (hq : ∀ q, o ≠ LamX.CodeO a q)
    (h : ∀ z, Mv x z → z.H a = some o → CellOk Y z a c') :
    Ext x ⟨x.R, x.μ, x.st.set n c', upd x.H a o⟩ ∧ SR Y ⟨x.R, x.μ, x.st.set n c', upd x.H a o⟩ := by
  have la : x.live a := ⟨n, c, hn, hc, hd⟩
  have hmem : a ∈ x.μ := List.mem_of_getElem? hn
  obtain ⟨oa, ha, hat, hac⟩ := S.dom a hmem
  have lv : ∀ {b : Addr}, Wd.live ⟨x.R, x.μ, x.st.set n c', upd x.H a o⟩ b → x.live b := fun {b} ⟨m, d, h1, h2, h3⟩ => by
    have h1 : x.μ[m]? = some b := h1
    by_cases e : m = n
    · rw [e, hn] at h1
      cases h1
      exact la
    · have h2 : (x.st.set n c')[m]? = some d := h2
      rw [List.getElem?_set_ne (Ne.symm e)] at h2
      exact ⟨m, d, h1, h2, h3⟩
  have nd : ∀ {b : Addr} {m : Nat}, x.μ[m]? = some b → m ≠ n → b ≠ a := fun {b m} h1 h2 z => by
    rw [z] at h1
    exact h2 (nodup_at S.nd h1 hn)
  have mv : Mv x ⟨x.R, x.μ, x.st.set n c', upd x.H a o⟩ := ⟨List.prefix_refl _, fun b u h1 t n1 => ⟨by show upd x.H a o b = _; rw [upd_ne (fun z => n1.2 (by rw [z]; exact la))]; exact h1, n1.1, fun z => n1.2 (lv z)⟩⟩
  refine ⟨⟨rfl, List.prefix_refl _, fun b u h1 t n1 => ⟨by show upd x.H a o b = _; rw [upd_ne (fun z => n1 (by rw [z]; exact la))]; exact h1, fun z => n1 (lv z)⟩, fun b u h1 t => ?_⟩,
    ⟨by simp [S.len], S.nd, fun b hb => ?_, fun b hb => ?_, fun m b d h1 h2 => ?_, ?_⟩⟩
  · by_cases z : b = a
    · exact ⟨o, by rw [z]; exact upd_same, ho⟩
    · exact ⟨u, by show upd x.H a o b = _; rw [upd_ne z]; exact h1, t⟩
  · by_cases z : b = a
    · exact ⟨o, by rw [z]; exact upd_same, ho, by rw [z]; exact hq⟩
    · obtain ⟨u, h1, t⟩ := S.dom b hb
      exact ⟨u, by show upd x.H a o b = _; rw [upd_ne z]; exact h1, t⟩
  · obtain ⟨h1, u, h2, t⟩ := S.res b hb
    have z : b ≠ a := fun z => h1 (by rw [z]; exact hmem)
    exact ⟨h1, u, by show upd x.H a o b = _; rw [upd_ne z]; exact h2, t⟩
  · have h1 : x.μ[m]? = some b := h1
    have h2 : (x.st.set n c')[m]? = some d := h2
    by_cases e : m = n
    · rw [e] at h1 h2
      rw [hn] at h1
      cases h1
      rw [List.getElem?_set_self (List.getElem?_eq_some_iff.mp hc).1] at h2
      cases h2
      exact h _ mv upd_same
    · rw [List.getElem?_set_ne (Ne.symm e)] at h2
      exact (S.cell m b d h1 h2).mv mv fun u h3 _ => by show upd x.H a o b = _; rw [upd_ne (nd h1 e)]; exact h3
  · intro q hq
    obtain ⟨ps, h1, h2, h3⟩ := S.tabs q hq
    have z : q.1 ≠ a := fun z => hat ps (by rw [z, ha] at h1; exact Option.some.inj h1)
    refine ⟨ps, by show upd x.H a o q.1 = _; rw [upd_ne z]; exact h1, h2, fun pos cv hcv => ?_⟩
    obtain ⟨c0, k1, k2⟩ := h3 pos cv hcv
    refine ⟨c0, k1, ?_⟩
    show upd x.H a o c0 = _
    rw [upd_ne (fun z => hac q.2 (by rw [z, ha] at k2; exact Option.some.inj k2))]
    exact k2
theorem lst_code {a : Addr} {vs : List V} : ∀ q, HO.lst vs ≠ LamX.CodeO a q := fun q z => by unfold LamX.CodeO at z; cases z
/-- a cell that is a list -/
theorem lst_set {Y : Rt} {x : Wd} (S : SR Y x) {n : Nat} {a : Addr} {ws ws' : List W} {vs' : List V} (hn : x.μ[n]? = some a) (hc : x.st[n]? = some (.lst ws)) (h : ∀ z, Mv x z → WVs Y z vs' ws') :
    Ext x ⟨x.R, x.μ, x.st.set n (.lst ws'), upd x.H a (.lst vs')⟩ ∧ SR Y ⟨x.R, x.μ, x.st.set n (.lst ws'), upd x.H a (.lst vs')⟩ :=
  cell_set S hn hc (by simp) (by simp) (fun _ z => by cases z) lst_code fun z m hz => ⟨vs', hz, h z m⟩
def rM1 (Y : Rt) (f : Sto → W → W → Option (W × Sto)) : V → List V → Hp → VK → Prop := fun v vs H Q => ∃ x u wa wb w st', vs = [u] ∧ x.H = H ∧ SR Y x ∧ WV Y x v wa ∧ WV Y x u wb ∧ f x.st wa wb = some (w, st') ∧ ∀ v' z, Ext x z → SR Y z → z.st = st' → WV Y z v' w → Q v' z.H
theorem tyv_of {x : Wd} (S : SR (yof G X) x) {v : V} {w : W} (r : WV (yof G X) x v w) : (tyOf x.st w = some .list → tyV X.K "list" v x.H) ∧ (tyOf x.st w = some .str → tyV X.K "str" v x.H) := by
  cases r with
  | @d _ d r =>
    cases r with
    | lst h _ => exact ⟨fun _ => .inl ⟨rfl, _, h.sq⟩, fun z => by simp [tyOf] at z⟩
    | str z => exact ⟨fun z => by simp [tyOf] at z, fun _ => rfl⟩
    | _ => exact ⟨fun z => by simp [tyOf] at z, fun z => by simp [tyOf] at z⟩
  | @ref n p hn =>
    refine ⟨fun z => ?_, fun z => ?_⟩
    · simp only [tyOf] at z
      split at z
      · rename_i l hc
        obtain ⟨vs, hH, rs⟩ := S.cell _ _ _ hn hc
        exact .inl ⟨rfl, vs, .inl (.inl hH)⟩
      · cases z
      · cases z
    · simp only [tyOf] at z
      split at z <;> cases z
  | fn f => exact ⟨fun z => by simp [tyOf] at z, fun z => by simp [tyOf] at z⟩
theorem fe_m1 {m : M1} {ty id : String} (pa : PlainAttrs ty) (slot : Slot ty n id) (hty : typeOf (.builtin id) = pure (.type "method_descriptor")) (hm : MtR X id (rM1 (yof G X) fun st => m1W st m))
    (hk : ∀ (x : Wd) (v : V) (w : W), SR (yof G X) x → WV (yof G X) x v w → rcv1 x.st m w = true → tyV X.K ty v x.H) (ha : FV G X Wx P R Φ e1 a) (hb : FV G X Wx P R Φ e2 b)
    (hbase : attributeBase e1 n X.env (eval e1 X.env) = eval e1 X.env) (hline : (apos.endLine == cpos.line) = true) (hs : starEach [e2] X.env = [(false, eval e2 X.env)]) : FV G X Wx P R Φ (.Call (.Attribute e1 n apos) [e2] [] cpos) (.m1 m a b) := by
  have hfew : ((backTo cpos (starEach [e2] X.env)).all (fun x => !x.1) && (backToKw cpos (keywordEach [] X.env)).all (fun x => x.1.isSome) && decide (([e2] : List Expr).length + ([] : List Keyword).length + (if ([] : List Keyword).isEmpty then 0 else 1) < 30)) = true := by
    rw [hs]
    rfl
  refine (pe_bm pa slot hty hm ha (pa_cons hb pa_nil hs) hbase hfew hline hs rfl).imp fun σ H Q ⟨ρ, x, hx, S, En, h⟩ => ?_
  rw [evE] at h
  refine ⟨ρ, x, hx, S, En, rpost_bind h fun v y w e1 Sy r h2 => ?_⟩
  split at h2
  · rename_i hr
    refine ⟨hk y v w Sy r hr, ρ, y, rfl, Sy, En.ext e1, rpost_bind h2 fun u z w2 e2 Sz r2 h3 => ?_⟩
    cases hf : m1W z.st m w w2 with
    | none => rw [hf] at h3; exact h3.elim
    | some q =>
      rw [hf] at h3
      exact ⟨z, u, w, w2, q.1, q.2, rfl, rfl, Sz, e2.wv r, r2, hf, h3⟩
  · exact h2.elim
theorem km_append : MtR X "list.append" (rM1 (yof G X) fun st => m1W st .append) := by
  intro pins s σ H v vs vv us Q I rv rvs ⟨x, u, wa, wb, w, st', hv, hx, S, ha, hb, hw, q⟩
  subst hx hv
  simp only [m1W] at hw
  split at hw
  · split at hw
    · split at hw
      · rename_i n ws hc hz
        cases hw
        cases ha with
        | ref hn =>
          obtain ⟨vs, hH, rs⟩ := S.cell _ _ _ hn hc
          obtain ⟨e2, S2⟩ := lst_set (vs' := vs ++ [u]) (ws' := ws ++ [wb]) S hn hc fun z m => (m.wvs rs).append (.cons (m.wv hb) .nil)
          exact mt_append pins s σ _ _ _ _ _ _ I rv rvs ⟨_, vs, u, rfl, rfl, hH, by rw [rs.length, ← SZ_eq]; exact hz, q _ _ e2 S2 rfl (.d .none)⟩
      · cases hw
    · cases hw
  · cases hw
theorem fe_append (ha : FV G X Wx P R Φ e1 a) (hb : FV G X Wx P R Φ e2 b) (hbase : attributeBase e1 "append" X.env (eval e1 X.env) = eval e1 X.env := by rfl) (hline : (apos.endLine == cpos.line) = true := by rfl) (hs : starEach [e2] X.env = [(false, eval e2 X.env)] := by rfl) :
    FV G X Wx P R Φ (.Call (.Attribute e1 "append" apos) [e2] [] cpos) (.m1 .append a b) :=
  fe_m1 F.plainAttrs_list F.slot_list_append F.type_list_append km_append (fun x v w S r h => (tyv_of S r).1 (by simpa [rcv1] using h)) ha hb hbase hline hs
/-! join, split, partition -/
theorem strs_of {Y : Rt} {H : Hp} {nl : Addr → Prop} : ∀ {vs : List V} {ds : List D} {ls : List (List Nat)}, PVs Y H nl vs ds → strsD ds = some ls → ∃ ys : List Str, vs = ys.map V.str ∧ ys.map tl = ls
  | _, _, _, .nil, h => by cases h; exact ⟨[], rfl, rfl⟩
  | _, d :: ds, ls, .cons r t, h => by
    cases d <;> simp only [strsD, Option.map_eq_some_iff, reduceCtorEq] at h
    obtain ⟨l, e1, e2⟩ := h
    cases r
    obtain ⟨ys, e3, e4⟩ := strs_of t e1
    exact ⟨_ :: ys, by rw [e3]; rfl, by rw [← e2, ← e4]; rfl⟩
theorem joinT_eq (sep : List Nat) : ∀ l : List (List Nat), TL.joinL sep l = joinT sep l
  | [] => rfl
  | [x] => rfl
  | x :: y :: r => by
    show x ++ (sep ++ TL.joinL sep (y :: r)) = x ++ sep ++ joinT sep (y :: r)
    rw [joinT_eq sep (y :: r), List.append_assoc]
theorem km_join : MtR X "str.join" (rM1 (yof G X) fun st => m1W st .join) := by
  intro pins s σ H v vs vv us Q I rv rvs ⟨x, u, wa, wb, w, st', hv, hx, S, ha, hb, hw, q⟩
  subst hx hv
  simp only [m1W] at hw
  split at hw
  · rename_i z xs hxs
    split at hw
    · rename_i ls hls
      split at hw
      · rename_i hz
        cases hw
        obtain ⟨d, hd, hr⟩ := Option.bind_eq_some_iff.mp hxs
        have hrow : ∃ (p : Addr) (ws : List V), u = .ref p ∧ (SqL X.K x.H p ws ∨ SqT X.K x.H p ws) ∧ PVs (yof G X) x.H x.nl ws xs := by
          cases d <;> simp [rowD] at hr
          · subst hr
            obtain ⟨p, ws, rfl, hp, ps⟩ := (S.vw hb hd).list
            exact ⟨p, ws, rfl, .inl (.inl hp), ps⟩
          · subst hr
            obtain ⟨p, ws, rfl, hp, ps⟩ := (S.vw hb hd).tuple
            exact ⟨p, ws, rfl, .inr hp.sq, ps⟩
        obtain ⟨p, ws, rfl, hp, ps⟩ := hrow
        obtain ⟨ys, rfl, rfl⟩ := strs_of ps hls
        cases ha with
        | d ha =>
          cases ha
          refine mt_join pins s σ _ _ _ _ _ _ I rv rvs ⟨z, p, ys, rfl, rfl, hp, ?_, ?_⟩
          · have e1 : (ys.map (·.length)) = (ys.map tl).map List.length := by
              rw [List.map_map]
              exact List.map_congr_left fun y _ => len_eq y
            rw [e1, len_eq]
            rw [List.length_map] at hz
            exact hz
          · have e2 : Txt.join z ys = T (joinT (tl z) (ys.map tl)) := by
              rw [TL.join_eq]
              have e3 : tl (Str.join z ys) = joinT (tl z) (ys.map tl) := (TL.tl_join z ys).trans (joinT_eq _ _)
              rw [← e3, T_tl]
            rw [e2]
            exact q _ x (Ext.refl x) S rfl (.d (.str _))
      · cases hw
    · cases hw
  · cases hw
theorem fe_join (ha : FV G X Wx P R Φ e1 a) (hb : FV G X Wx P R Φ e2 b) (hbase : attributeBase e1 "join" X.env (eval e1 X.env) = eval e1 X.env := by rfl) (hline : (apos.endLine == cpos.line) = true := by rfl) (hs : starEach [e2] X.env = [(false, eval e2 X.env)] := by rfl) :
    FV G X Wx P R Φ (.Call (.Attribute e1 "join" apos) [e2] [] cpos) (.m1 .join a b) :=
  fe_m1 F.plainAttrs_str F.slot_str_join F.type_str_join km_join (fun x v w S r h => (tyv_of S r).2 (by simpa [rcv1] using h)) ha hb hbase hline hs
theorem spl_one (c : Nat) : ∀ (l acc : List Nat), TL.spl [c] 0 acc l = (match splitC c l with | [] => [acc] | y :: r => (acc ++ y) :: r)
  | [], acc => by simp [TL.spl_nil, splitC]
  | a :: l, acc => by
    have ne : ∀ l : List Nat, splitC c l ≠ [] := fun l => by
      cases l with
      | nil => simp [splitC]
      | cons b l =>
        simp only [splitC]
        split
        · simp
        · split <;> simp
    by_cases h : a = c
    · subst h
      rw [TL.spl_hit (by simp [TL.pre])]
      show acc :: TL.spl [a] 0 [] l = _
      rw [spl_one a l []]
      simp only [splitC, if_true]
      cases hs : splitC a l with
      | nil => exact absurd hs (ne l)
      | cons y r => simp
    · rw [TL.spl_miss (by simp [TL.pre, h]), spl_one c l (acc ++ [a])]
      simp only [splitC, if_neg h]
      cases hs : splitC c l with
      | nil => exact absurd hs (ne l)
      | cons y r => simp
theorem split_eq (z : Str) (c : Nat) (hc : c < 256) : (Txt.split z ⟨#[c]⟩).map tl = splitC c (tl z) := by
  have h := TL.split_spl z ⟨#[c]⟩ (by simp) (TL.kind_ok (by simp [hc]))
  have e : TL.tl (⟨#[c]⟩ : Str) = [c] := rfl
  rw [e, spl_one] at h
  refine h.trans ?_
  show (match splitC c (tl z) with | [] => [[]] | y :: r => ([] ++ y) :: r) = _
  cases hs : splitC c (tl z) with
  | nil =>
    exfalso
    revert hs
    cases tl z with
    | nil => simp [splitC]
    | cons b l =>
      simp only [splitC]
      split
      · simp
      · split <;> simp
  | cons y r => simp
theorem strs_pv {Y : Rt} {H : Hp} {nl : Addr → Prop} : ∀ ys : List Str, PVs Y H nl (ys.map V.str) ((ys.map tl).map dStr)
  | [] => .nil
  | y :: ys => .cons (by rw [dStr, T_tl]; exact .str y) (strs_pv ys)
theorem one_of {z : Str} {c : Nat} (h : tl z = [c]) : z = ⟨#[c]⟩ := by
  rw [← T_tl z, h]
  rfl
theorem km_split : MtR X "str.split" (rM1 (yof G X) fun st => m1W st .split) := by
  intro pins s σ H v vs vv us Q I rv rvs ⟨x, u, wa, wb, w, st', hv, hx, S, ha, hb, hw, q⟩
  subst hx hv
  simp only [m1W] at hw
  split at hw
  · rename_i z y
    split at hw
    · rename_i c hy
      split at hw
      · rename_i hz
        cases hw
        have := one_of hy
        subst this
        cases ha with
        | d ha =>
          cases ha
          cases hb with
          | d hb =>
            cases hb
            refine mt_split pins s σ _ _ _ _ _ _ I rv rvs ⟨z, ⟨#[c]⟩, rfl, rfl, rfl, by rw [len_eq, ← SZ_eq]; exact hz.1, fun n hn => ?_⟩
            rw [← split_eq z c hz.2] at q
            exact After.lst q S (strs_pv _) hn
      · cases hw
    · cases hw
  · cases hw
theorem fe_split (ha : FV G X Wx P R Φ e1 a) (hb : FV G X Wx P R Φ e2 b) (hbase : attributeBase e1 "split" X.env (eval e1 X.env) = eval e1 X.env := by rfl) (hline : (apos.endLine == cpos.line) = true := by rfl) (hs : starEach [e2] X.env = [(false, eval e2 X.env)] := by rfl) :
    FV G X Wx P R Φ (.Call (.Attribute e1 "split" apos) [e2] [] cpos) (.m1 .split a b) :=
  fe_m1 F.plainAttrs_str F.slot_str_split F.type_str_split km_split (fun x v w S r h => (tyv_of S r).2 (by simpa [rcv1] using h)) ha hb hbase hline hs
theorem low_eq {z : Str} (h : (tl z).all (fun c => decide (c < 128)) = true) : Txt.lower z = T ((tl z).map lower1) := by
  rw [PyProof.Rows.lower_ascii (x := z) (fun c hc => of_decide_eq_true (List.all_eq_true.mp h c hc))]
  have e : tl (⟨z.cps.map PyProof.Rows.lo1⟩ : Str) = (tl z).map lower1 := by
    show (z.cps.map PyProof.Rows.lo1).toList = _
    rw [Array.toList_map]
    rfl
  rw [← e, T_tl]
theorem fe_lower (ha : FV G X Wx P R Φ e1 a) (hbase : attributeBase e1 "lower" X.env (eval e1 X.env) = eval e1 X.env := by rfl) (hline : (apos.endLine == cpos.line) = true := by rfl) : FV G X Wx P R Φ (.Call (.Attribute e1 "lower" apos) [] [] cpos) (.m0 .lower a) := by
  refine (pe_m0 F.slot_str_lower F.type_str_lower mt_lower ha hbase hline).imp fun σ H Q ⟨ρ, x, hx, S, En, h⟩ => ?_
  rw [evE] at h
  refine ⟨ρ, x, hx, S, En, rpost_bind h fun v y w e1 Sy r h2 => ?_⟩
  obtain ⟨w', hw, k⟩ := rpost_of h2
  unfold m0W at hw
  split at hw
  · rename_i z _
    split at hw
    · rename_i hz
      cases hw
      simp only [Bool.and_eq_true, decide_eq_true_eq] at hz
      cases r with
      | d r =>
        cases r
        refine ⟨⟨z, rfl⟩, z, rfl, rfl, by rw [len_eq]; omega, ?_⟩
        rw [low_eq hz.1]
        exact k _ y (Ext.refl y) Sy rfl (.d (.str _))
    · cases hw
  · rename_i hm
    cases hm
  · cases hw
end
end FM
end

section
/-! FM12: statements. -/
set_option Elab.async false
set_option linter.all false
set_option maxRecDepth 100000
set_option autoImplicit false
set_option maxHeartbeats 1000000
namespace FM
open PySem PySem.Spec PyProof.Rows L2
section
variable {G : Gd} {X : Cx} {Wx : WX} {P : Prog} {R : Fun1} {Φ : Call} {pos : Pos} {e e1 e2 e3 : Expr} {a b c : E} {es : List Expr} {as : Es} {n : Str} {p apos cpos : Pos}
def rpostS (Y : Rt) (Wx : WX) (D : Ends) (x : Wd) : Out → Prop
  | .nx ρ st' => ∀ y σ', Ext x y → SR Y y → y.st = st' → EnvOk Y y ρ σ' → D.nx σ' y.H
  | .rt w st' => ∀ v y, Ext x y → SR Y y → y.st = st' → WV Y y v w → D.rt v y.H
  | .bk ρ st' => ∀ y σ', Ext x y → SR Y y → y.st = st' → EnvOk Y y ρ σ' → D.bk σ' y.H
  | .ct ρ st' => ∀ y σ', Ext x y → SR Y y → y.st = st' → EnvOk Y y ρ σ' → D.ct σ' y.H
  | .exn e st' => ∀ cls d y σ', Ext x y → SR Y y → y.st = st' → ExR Y y cls d e → Wx cls d σ' y.H
  | .bad => False
def rdS (Y : Rt) (Wx : WX) (t : Env → Sto → Out) : TS := fun D σ H => ∃ ρ x, x.H = H ∧ SR Y x ∧ EnvOk Y x ρ σ ∧ rpostS Y Wx D x (t ρ x.st)
theorem rpostS_ext {Y : Rt} {D : Ends} {x y : Wd} {o : Out} (e : Ext x y) (h : rpostS Y Wx D x o) : rpostS Y Wx D y o := by
  cases o with
  | nx ρ st' => exact fun z σ' e' => h z σ' (e.trans e')
  | rt w st' => exact fun v z e' => h v z (e.trans e')
  | bk ρ st' => exact fun z σ' e' => h z σ' (e.trans e')
  | ct ρ st' => exact fun z σ' e' => h z σ' (e.trans e')
  | exn x st' => exact fun c d z σ' e' => h c d z σ' (e.trans e')
  | bad => exact h
theorem rpostS_out {Y : Rt} {D : Ends} {x : Wd} {α β : Type} {rel : Wd → β → α → Prop} {K : β → Hp → Prop} {σ : L2.St} {r : Res α} {f : α → Sto → Out} (h : rpostS Y Wx D x (r.out f))
    (k : ∀ v y a, Ext x y → SR Y y → rel y v a → rpostS Y Wx D y (f a y.st) → K v y.H) : rpost Y Wx σ x rel K r := by
  cases r with
  | ok a st' =>
    intro v y e s hy hr
    subst hy
    exact k v y a e s hr (rpostS_ext e h)
  | exn a st' => exact fun c d y e s hy hr => h c d y σ e s hy hr
  | bad => exact h
abbrev FS (G : Gd) (X : Cx) (Wx : WX) (P : Prog) (R : Fun1) (Φ : Call) (st : Stmt) (s : S) : Prop := PS X st (rdS (yof G X) Wx (evS P R Φ s))
abbrev FSs (G : Gd) (X : Cx) (Wx : WX) (P : Prog) (R : Fun1) (Φ : Call) (st : List Stmt) (s : Ss) : Prop := PSs X st (rdS (yof G X) Wx (evSs P R Φ s))
variable {st : Stmt} {sts sts2 : List Stmt} {s : S} {ss ss2 : Ss}
theorem fss_nil : FSs G X Wx P R Φ [] .nil := pss_nil.imp fun D σ H ⟨ρ, x, hx, S, En, h⟩ => by
  rw [evSs] at h
  subst hx
  exact h x σ (Ext.refl x) S rfl En
theorem rdS_next {D : Ends} {σ : L2.St} {H : Hp} (h : rdS (yof G X) Wx (evSs P R Φ (.cons s ss)) D σ H) : rdS (yof G X) Wx (evS P R Φ s) { D with nx := rdS (yof G X) Wx (evSs P R Φ ss) D } σ H := by
  obtain ⟨ρ, x, hx, S, En, h⟩ := h
  rw [evSs] at h
  refine ⟨ρ, x, hx, S, En, ?_⟩
  cases ho : evS P R Φ s ρ x.st with
  | nx ρ' st' =>
    rw [ho] at h
    intro y σ' e1 Sy hy Ey
    subst hy
    exact ⟨ρ', y, rfl, Sy, Ey, rpostS_ext e1 h⟩
  | rt w st' => rw [ho] at h; exact h
  | bk ρ st' => rw [ho] at h; exact h
  | ct ρ st' => rw [ho] at h; exact h
  | exn x st' => rw [ho] at h; exact h
  | bad => rw [ho] at h; exact h
theorem fss_cons (h1 : FS G X Wx P R Φ st s) (h2 : FSs G X Wx P R Φ sts ss) : FSs G X Wx P R Φ (st :: sts) (.cons s ss) := (pss_cons h1 h2).imp fun D σ H h => rdS_next h
theorem fss_one (h1 : FS G X Wx P R Φ st s) : FSs G X Wx P R Φ [st] (.cons s .nil) := fss_cons h1 fss_nil
theorem fs_bad : FS G X Wx P R Φ st .bad := ps_never.imp fun D σ H ⟨ρ, x, hx, S, En, h⟩ => by rw [evS] at h; exact h
theorem fs_pass : FS G X Wx P R Φ (.Pass pos) .pass := ps_pass.imp fun D σ H ⟨ρ, x, hx, S, En, h⟩ => by
  rw [evS] at h; subst hx; exact h x σ (Ext.refl x) S rfl En
theorem fs_brk : FS G X Wx P R Φ (.Break pos) .brk := ps_break.imp fun D σ H ⟨ρ, x, hx, S, En, h⟩ => by
  rw [evS] at h; subst hx; exact h x σ (Ext.refl x) S rfl En
theorem fs_cont : FS G X Wx P R Φ (.Continue pos) .cont := ps_continue.imp fun D σ H ⟨ρ, x, hx, S, En, h⟩ => by
  rw [evS] at h; subst hx; exact h x σ (Ext.refl x) S rfl En
theorem fs_ret (ha : FV G X Wx P R Φ e a) : FS G X Wx P R Φ (.Return (some e) pos) (.ret a) := (ps_ret ha).imp fun D σ H ⟨ρ, x, hx, S, En, h⟩ => by
  rw [evS] at h
  exact ⟨ρ, x, hx, S, En, rpostS_out h fun v y w e1 Sy r h2 => h2 v y (Ext.refl y) Sy rfl r⟩
theorem fs_retN : FS G X Wx P R Φ (.Return none pos) .retN := ps_retN.imp fun D σ H ⟨ρ, x, hx, S, En, h⟩ => by
  rw [evS] at h; subst hx; exact h .non x (Ext.refl x) S rfl (.d .none)
theorem fs_ex (ha : FV G X Wx P R Φ e a) (hs : swapsWith e none pos.line X.env = pure false := by rfl) : FS G X Wx P R Φ (.Expr e pos) (.ex a) := (ps_expr ha hs).imp fun D σ H ⟨ρ, x, hx, S, En, h⟩ => by
  rw [evS] at h
  exact ⟨ρ, x, hx, S, En, rpostS_out h fun v y w e1 Sy r h2 => h2 y σ (Ext.refl y) Sy rfl (En.ext e1)⟩
theorem fs_if {c : C} (h0 : FC G X Wx P R Φ e c) (h1 : FSs G X Wx P R Φ sts ss) (h2 : FSs G X Wx P R Φ sts2 ss2) : FS G X Wx P R Φ (.If e sts sts2 pos) (.ife c ss ss2) := (ps_if h0 h1 h2).imp fun D σ H ⟨ρ, x, hx, S, En, h⟩ => by
  rw [evS] at h
  refine ⟨ρ, x, hx, S, En, rpostS_out h fun k y w e1 Sy r h2 => ?_⟩
  subst r
  cases k with
  | true => exact ⟨ρ, y, rfl, Sy, En.ext e1, h2⟩
  | false => exact ⟨ρ, y, rfl, Sy, En.ext e1, h2⟩
/-! ### targets -/
mutual
def Tg.ix : Tg → List Nat
  | .v i => [i]
  | .t ts => Tg.ixs ts
def Tg.ixs : List Tg → List Nat
  | [] => []
  | u :: us => u.ix ++ Tg.ixs us
end
/-- the slots but those of l are as they were -/
def SameBut (l : List Nat) (σ σ' : L2.St) : Prop := σ'.length = σ.length ∧ ∀ i, i ∉ l → σ'[i]? = σ[i]?
def rdG (Y : Rt) (t : Tg) : TG := fun v σ H Q => ∃ z w ρ ρ', z.H = H ∧ SR Y z ∧ EnvOk Y z ρ σ ∧ WV Y z v w ∧ asgT t w ρ = some ρ' ∧ ∀ σ', EnvOk Y z ρ' σ' → SameBut t.ix σ σ' → Q σ' H
theorem _root_.L2.PG.imp {X : Cx} {e : Expr} {t t' : TG} (h : PG X e t) (k : ∀ v σ H Q, t' v σ H Q → t v σ H Q) : PG X e t' := ⟨fun pins s σ H v u Q I r hq => h.run pins s σ H v u Q I r (k v σ H Q hq)⟩
theorem _root_.L2.PGs.imp {X : Cx} {e : List Expr} {t t' : TGs} (h : PGs X e t) (k : ∀ v σ H Q, t' v σ H Q → t v σ H Q) : PGs X e t' := ⟨fun pins s σ H v u Q I r hq => h.run pins s σ H v u Q I r (k v σ H Q hq)⟩
abbrev FG (G : Gd) (X : Cx) (e : Expr) (t : Tg) : Prop := PG X e (rdG (yof G X) t)
theorem SameBut.set {σ : L2.St} {i : Nat} {v : V} : SameBut [i] σ (σ.set i (some v)) := ⟨by simp, fun j hj => List.getElem?_set_ne (fun z => hj (by simp [z]))⟩
theorem fg_v {i : Nat} (hN : X.N.Nodup) (hi : X.N[i]? = some n := by rfl) (hx : Loc X.env.scope n := by first | exact Or.inl rfl | exact Or.inr rfl) (hf : X.fn n = true ∨ X.env.scope.names.lookup n = some .local := by first | exact .inl rfl | exact .inr rfl) :
    FG G X (.Name n pos) (.v i) := (pg_name hN hi hx hf).imp fun v σ H Q ⟨z, w, ρ, ρ', hz, S, En, r, ha, k⟩ => by
  simp only [asgT, Option.some.injEq] at ha
  subst ha hz
  exact k _ (En.set r) .set
def rdGs (Y : Rt) (ts : List Tg) : TGs := fun vs σ H Q => ∃ z ds ρ ρ', z.H = H ∧ SR Y z ∧ EnvOk Y z ρ σ ∧ PVs Y z.H z.nl vs ds ∧ asgTs ts ds ρ = some ρ' ∧ ∀ σ', EnvOk Y z ρ' σ' → SameBut (Tg.ixs ts) σ σ' → Q σ' H
theorem fgs_nil : PGs X [] (rdGs (yof G X) []) := pgs_nil.imp fun vs σ H Q ⟨z, ds, ρ, ρ', hz, S, En, r, ha, k⟩ => by
  cases r with
  | nil =>
    simp only [asgTs, Option.some.injEq] at ha
    subst ha
    exact ⟨rfl, k _ En ⟨rfl, fun _ _ => rfl⟩⟩
  | cons _ _ => simp [asgTs] at ha
theorem fgs_cons {t : Tg} {ts : List Tg} (h1 : FG G X e t) (h2 : PGs X es (rdGs (yof G X) ts)) (hs : (assignEach (e :: es) X.env).map (·.2) = assign e X.env :: (assignEach es X.env).map (·.2) := by rfl) : PGs X (e :: es) (rdGs (yof G X) (t :: ts)) := by
  refine (pgs_cons h1 h2 hs).imp fun vs σ H Q ⟨z, ds, ρ, ρ', hz, S, En, r, ha, k⟩ => ?_
  cases r with
  | nil => simp [asgTs] at ha
  | cons r rs =>
    simp only [asgTs, Option.bind_eq_some_iff] at ha
    obtain ⟨ρ1, e1, e2⟩ := ha
    subst hz
    refine ⟨_, _, rfl, z, _, ρ, ρ1, rfl, S, En, .d r, e1, fun σ1 E1 s1 => ⟨z, _, ρ1, ρ', rfl, S, E1, rs, e2, fun σ2 E2 s2 => k σ2 E2 ⟨s2.1.trans s1.1, fun i hi => ?_⟩⟩⟩
    simp only [Tg.ixs, List.mem_append, not_or] at hi
    rw [s2.2 i hi.2, s1.2 i hi.1]
theorem fg_t {ts : List Tg} {k : Nat} {m : Nat} (hc : X.calm = true) (h : PGs X es (rdGs (yof G X) ts)) (hm : ts.length = m := by rfl) (hn : (assignEach es X.env).length = m := by rfl) (hst : (assignEach es X.env).findIdx? (·.1) = none := by rfl) : FG G X (.Tuple es k pos) (.t ts) := by
  refine (pg_tup hc h hn hst).imp fun v σ H Q ⟨z, w, ρ, ρ', hz, S, En, r, ha, q⟩ => ?_
  cases r with
  | @d _ d r =>
    cases d <;> simp only [asgT, reduceCtorEq] at ha
    cases r with
    | tup h1 h2 =>
      subst hz
      refine ⟨_, _, rfl, h1.sq, ?_, z, _, ρ, ρ', rfl, S, En, h2, ha, fun σ' E' s' => q σ' E' s'⟩
      rw [h2.length, ← hm]
      clear q h2
      rename_i ds _ _ _
      have : ∀ (ts : List Tg) (ds : List D) (ρ ρ' : Env), asgTs ts ds ρ = some ρ' → ds.length = ts.length := by
        intro ts
        induction ts with
        | nil => intro ds ρ ρ' h; cases ds <;> simp [asgTs] at h ⊢
        | cons t ts ih =>
          intro ds ρ ρ' h
          cases ds with
          | nil => simp [asgTs] at h
          | cons d ds =>
            simp only [asgTs, Option.bind_eq_some_iff] at h
            obtain ⟨ρ1, _, e2⟩ := h
            simp [ih ds ρ1 ρ' e2]
      exact this ts ds ρ ρ' ha
  | ref _ => simp [asgT] at ha
  | fn _ => simp [asgT] at ha
theorem fs_set {t : Tg} {tg : Expr} (ha : FV G X Wx P R Φ e a) (hg : FG G X tg t) (hs : swapsWithSole [tg] e pos.line X.env = pure false := by rfl) (hw : swappedStores [tg] e X.env = pure none := by rfl)
    (h1 : (assignEach [tg] X.env).map (·.2) = [assign tg X.env] := by rfl) : FS G X Wx P R Φ (.Assign [tg] e pos) (.set t a) := (ps_asg ha hg hs hw h1).imp fun D σ H ⟨ρ, x, hx, S, En, h⟩ => by
  rw [evS] at h
  refine ⟨ρ, x, hx, S, En, rpostS_out h fun v y w e1 Sy r h2 => ?_⟩
  split at h2
  · rename_i ρ' hr
    exact ⟨y, w, ρ, ρ', rfl, Sy, En.ext e1, r, hr, fun σ' E' _ => h2 y σ' (Ext.refl y) Sy rfl E'⟩
  · exact h2.elim
theorem fs_par {i j : Nat} {x y : Str} {px py pt : Pos} {kt k2 pt2} (hc : X.calm = true) (hN : X.N.Nodup) (ha : FV G X Wx P R Φ e1 a) (hb : FV G X Wx P R Φ e2 b) (hi : X.N[i]? = some x := by rfl) (hj : X.N[j]? = some y := by rfl) (hij : i ≠ j := by decide)
    (hx : X.env.scope.names.lookup x = some .local := by rfl) (hy : X.env.scope.names.lookup y = some .local := by rfl) (hs : starEach [e1, e2] X.env = (false, eval e1 X.env) :: starEach [e2] X.env := by rfl) (hs2 : starEach [e2] X.env = [(false, eval e2 X.env)] := by rfl) (hw : swappedStores [.Tuple [.Name x px, .Name y py] kt pt] (.Tuple [e1, e2] k2 pt2) X.env = pure (some [x, y]) := by rfl) (hw2 : swapsWithSole [.Tuple [.Name x px, .Name y py] kt pt] (.Tuple [e1, e2] k2 pt2) pos.line X.env = pure false := by rfl) :
    FS G X Wx P R Φ (.Assign [.Tuple [.Name x px, .Name y py] kt pt] (.Tuple [e1, e2] k2 pt2) pos) (.par i j a b) := (ps_par hc hN hi hj hij hx hy (pa_cons ha (pa_cons hb pa_nil hs2) hs) hw hw2).imp fun D σ H ⟨ρ, x, hx, S, En, h⟩ => by
  rw [evS] at h
  refine ⟨ρ, x, hx, S, En, rpostS_out h fun v y w e1 Sy r h2 => ⟨ρ, y, rfl, Sy, En.ext e1, rpostS_out h2 fun u z w2 e2 Sz r2 h3 => ⟨v, u, rfl, ?_⟩⟩⟩
  exact h3 z _ (Ext.refl z) Sz rfl ((((En.ext e1).ext e2).set (e2.wv r)).set r2)
theorem setIx_ok : PSet X (fun o i v H Q => ∃ x wo wi wv st', x.H = H ∧ SR (yof G X) x ∧ WV (yof G X) x o wo ∧ WV (yof G X) x i wi ∧ WV (yof G X) x v wv ∧ (∃ n ws, wo = .ref n ∧ x.st[n]? = some (.lst ws)) ∧ setIxW x.st wo wi wv = some st' ∧ ∀ z, Ext x z → SR (yof G X) z → z.st = st' → Q z.H) := by
  intro pins s σ H o i v ov iv u Q I ro ri rv ⟨x, wo, wi, wv, st', hx, S, ho, hi, hv, ⟨n, ws, hwo, hc⟩, hw, q⟩
  subst hx hwo
  cases wi with
  | d k =>
    simp only [setIxW, hc] at hw
    split at hw
    · rename_i i0
      split at hw
      · rename_i j hj
        cases hw
        cases hi with
        | d hi =>
          cases hi
          cases ho with
          | ref hn =>
            obtain ⟨vs, hH, rs⟩ := S.cell _ _ _ hn hc
            obtain ⟨e2, S2⟩ := lst_set (vs' := vs.set j v) (ws' := ws.set j wv) S hn hc fun z m => WVs.set (m.wv hv) (m.wvs rs) j
            refine set_list pins s σ _ _ _ _ _ _ _ _ I ro ri rv ⟨_, vs, i0, j, rfl, rfl, hH, ?_, q _ e2 S2 rfl⟩
            rw [rs.length]
            unfold atIx at hj
            unfold ixN
            split at hj
            · rename_i h0
              rw [if_pos h0]
              split at hj
              · rename_i h1
                rw [if_pos (by omega)]
                exact hj
              · cases hj
            · rename_i h0
              rw [if_neg h0]
              split at hj
              · rename_i h1
                rw [if_pos (by omega), Int.add_comm]
                exact hj
              · cases hj
      · cases hw
    · cases hw
  | ref _ => simp [setIxW] at hw
  | fn _ => simp [setIxW] at hw
theorem fs_setIx {p2 : Pos} (he : FV G X Wx P R Φ e1 a) (ho : FV G X Wx P R Φ e2 b) (hi : FV G X Wx P R Φ e3 c)
    (hs : swapsWithSole [.Subscript e2 e3 p2] e1 pos.line X.env = pure false := by rfl) (hw : swappedStores [.Subscript e2 e3 p2] e1 X.env = pure none := by rfl)
    (h1 : (assignEach [.Subscript e2 e3 p2] X.env).map (·.2) = [assign (.Subscript e2 e3 p2) X.env] := by rfl)
    (ha : ∀ v, assign (.Subscript e2 e3 p2) X.env v = (do
      let ov ← holding [v] (eval e2 X.env)
      let iv ← holding [v, ov] (eval e3 X.env)
      standAt p2
      holding [v, ov, iv] (setItem ov iv v)
      release [v, ov, iv] []) := by intro _; rfl) :
    FS G X Wx P R Φ (.Assign [.Subscript e2 e3 p2] e1 pos) (.setIx b c a) := (ps_asg he (pg_sub ho hi setIx_ok ha) hs hw h1).imp fun D σ H ⟨ρ, x, hx, S, En, h⟩ => by
  rw [evS] at h
  refine ⟨ρ, x, hx, S, En, rpostS_out h fun v y w e1 Sy r h2 => ⟨ρ, y, rfl, Sy, En.ext e1, rpostS_out h2 fun o z wo e2 Sz r2 h3 => ⟨ρ, z, rfl, Sz, (En.ext e1).ext e2, rpostS_out h3 fun i z4 wi e4 S4 r4 h5 => ?_⟩⟩⟩
  cases hf : setIxW z4.st wo wi w with
  | none => rw [hf] at h5; exact h5.elim
  | some st' =>
    rw [hf] at h5
    refine ⟨z4, wo, wi, w, st', rfl, S4, e4.wv r2, r4, e4.wv (e2.wv r), ?_, hf, fun z5 e5 S5 hst => h5 z5 σ e5 S5 hst ((((En.ext e1).ext e2).ext e4).ext e5)⟩
    unfold setIxW at hf
    split at hf
    · rename_i n k
      split at hf
      · rename_i ws hc
        exact ⟨n, ws, rfl, hc⟩
      · cases hf
    · cases hf
theorem ip_aug {op : BOp} : PIp X (bop op) (fun v u H Q => ∃ x a b w, x.H = H ∧ SR (yof G X) x ∧ WV (yof G X) x v a ∧ WV (yof G X) x u b ∧ augW op a b = some w ∧ After (yof G X) x w Q) := by
  intro pins s σ H v u vv uu Q I rv ru ⟨x, a, b, w, hx, S, ha, hb, hw, q⟩
  subst hx
  unfold augW at hw
  split at hw
  · rename_i z y
    split at hw
    · simp only [binD, Option.map_eq_some_iff] at hw
      obtain ⟨d, e1, rfl⟩ := hw
      split at e1 <;> cases e1
      rename_i hz
      cases ha with
      | d ha =>
        cases ha
        cases hb with
        | d hb =>
          cases hb
          refine iop_add_str pins s σ _ _ _ _ _ _ I rv ru ⟨z, y, rfl, rfl, by rw [len_eq, len_eq, ← SZ_eq]; exact hz, ?_⟩
          rw [str_app]
          exact q.d S (.str _)
    · cases hw
  · rename_i i j
    split at hw
    rotate_left
    · cases hw
    rename_i hop
    cases ha with
    | d ha =>
      cases ha
      cases hb with
      | d hb =>
        cases hb
        cases op <;> simp only [binD, Option.map_eq_some_iff] at hw
        · obtain ⟨d, e1, rfl⟩ := hw
          cases e1
          exact iop_add pins s σ _ _ _ _ _ _ I rv ru ⟨i, j, rfl, rfl, q.d S (.int _)⟩
        · obtain ⟨d, e1, rfl⟩ := hw
          cases e1
          exact iop_sub pins s σ _ _ _ _ _ _ I rv ru ⟨i, j, rfl, rfl, q.d S (.int _)⟩
        · obtain ⟨d, e1, rfl⟩ := hw
          split at e1 <;> cases e1
          rename_i hz
          exact iop_mul pins s σ _ _ _ _ _ _ I rv ru ⟨i, j, rfl, rfl, CMulB_ok hz, q.d S (.int _)⟩
        · obtain ⟨d, e1, rfl⟩ := hw
          split at e1 <;> cases e1
          rename_i hz
          exact iop_fdiv pins s σ _ _ _ _ _ _ I rv ru ⟨i, j, rfl, rfl, hz, q.d S (.int _)⟩
        · obtain ⟨d, e1, rfl⟩ := hw
          split at e1 <;> cases e1
          rename_i hz
          exact iop_mod pins s σ _ _ _ _ _ _ I rv ru ⟨i, j, rfl, rfl, hz, q.d S (.int _)⟩
        · simp [noPow] at hop
  · cases hw
theorem fs_aug {op : BOp} {i : Nat} {pos' : Pos} (hN : X.N.Nodup) (ha : FV G X Wx P R Φ e a) (hi : X.N[i]? = some n := by rfl) (hx : Loc X.env.scope n := by first | exact Or.inl rfl | exact Or.inr rfl)
    (hf : X.fn n = true ∨ X.env.scope.names.lookup n = some .local := by first | exact .inl rfl | exact .inr rfl) : FS G X Wx P R Φ (.AugAssign (.Name n pos') (bop op) e pos) (.aug i op a) := (ps_aug hN hi hx ha (ip_aug (G := G)) hf).imp fun D σ H ⟨ρ, x, hx, S, En, h⟩ => by
  rw [evS] at h
  split at h
  · rename_i w hw
    obtain ⟨v, e1, r⟩ := En.var hw
    refine ⟨v, e1, ρ, x, hx, S, En, rpostS_out h fun u y w2 e2 Sy r2 h2 => ?_⟩
    cases hb : augW op w w2 with
    | none => rw [hb] at h2; exact h2.elim
    | some z =>
      rw [hb] at h2
      exact ⟨y, w, w2, z, rfl, Sy, e2.wv r, r2, hb, fun v' y' e3 S3 hst r3 => h2 y' _ e3 S3 hst (((En.ext e2).ext e3).set r3)⟩
  · exact h.elim
/-- a list that is written no more -/
theorem fss_freeze {i : Nat} (h : FSs G X Wx P R Φ sts ss) : FSs G X Wx P R Φ sts (.cons (.freeze i) ss) := h.imp fun D σ H ⟨ρ, x, hx, S, En, h⟩ => by
  subst hx
  rw [evSs, evS] at h
  unfold frzS at h
  split at h
  · rename_i n hv
    obtain ⟨v, e1, r⟩ := En.var hv
    cases r with
    | @ref _ q hn =>
      split at h
      · rename_i d hd
        have nlv : ∀ {b : Addr}, Wd.live ⟨x.R, x.μ, x.st.set n .dead, x.H⟩ b → x.live b ∧ b ≠ q := fun {b} ⟨m, c, h1, h2, h3⟩ => by
          have h1 : x.μ[m]? = some b := h1
          have h2 : (x.st.set n .dead)[m]? = some c := h2
          by_cases e : m = n
          · subst e
            have hl : m < x.st.length := by rw [← S.len]; exact (List.getElem?_eq_some_iff.mp h1).1
            rw [List.getElem?_set_self hl] at h2
            cases h2
            exact absurd rfl h3
          · rw [List.getElem?_set_ne (Ne.symm e)] at h2
            exact ⟨⟨m, c, h1, h2, h3⟩, fun z => e (nodup_at S.nd (by rw [z] at h1; exact h1) hn)⟩
        have mv : Mv x ⟨x.R, x.μ, x.st.set n .dead, x.H⟩ := ⟨List.prefix_refl _, fun b u h1 t n1 => ⟨h1, n1.1, fun z => n1.2 (nlv z).1⟩⟩
        have ex : Ext x ⟨x.R, x.μ, x.st.set n .dead, x.H⟩ := ⟨rfl, List.prefix_refl _, fun b u h1 t n1 => ⟨h1, fun z => n1 (nlv z).1⟩, fun b u h1 t => ⟨u, h1, t⟩⟩
        have S2 : SR (yof G X) ⟨x.R, x.μ, x.st.set n .dead, x.H⟩ := ⟨by simp [S.len], S.nd, S.dom, S.res, fun m b c h1 h2 => by
          have h1 : x.μ[m]? = some b := h1
          have h2 : (x.st.set n .dead)[m]? = some c := h2
          by_cases e : m = n
          · subst e
            have hl : m < x.st.length := by rw [← S.len]; exact (List.getElem?_eq_some_iff.mp h1).1
            rw [List.getElem?_set_self hl] at h2
            cases h2
            exact True.intro
          · rw [List.getElem?_set_ne (Ne.symm e)] at h2
            exact (S.cell m b c h1 h2).mv mv fun u h3 _ => h3, S.tabs⟩
        have nq : Wd.nl ⟨x.R, x.μ, x.st.set n .dead, x.H⟩ q := ⟨fun z => (S.res q z).1 (List.mem_of_getElem? hn), fun z => (nlv z).2 rfl⟩
        have r2 : WV (yof G X) ⟨x.R, x.μ, x.st.set n .dead, x.H⟩ (.ref q) (.d d) := by
          have hvw := S.vw (.ref hn) hd
          cases hvw with
          | pv h => 
            simp only [vw] at hd
            exact .d (mv.pv h)
          | lst h1 h2 => exact .d (.lst ⟨.inl h1, nq⟩ (mv.pvs h2))
          | dct h1 h2 h3 h4 h5 => exact .d (.dct (.inl ⟨h1, nq⟩) h2 h3 (mv.pes h4) h5)
        refine ⟨ρ.set i (some (.d d)), ⟨x.R, x.μ, x.st.set n .dead, x.H⟩, rfl, S2, ?_, rpostS_ext ex h⟩
        have E2 := (En.ext ex)
        refine ⟨by simp [En.len], fun j w hj => ?_⟩
        by_cases e : i = j
        · subst e
          by_cases hl : i < ρ.length
          · rw [List.getElem?_set_self hl] at hj
            cases hj
            exact ⟨_, e1, r2⟩
          · rw [List.getElem?_eq_none (by simpa using hl)] at hj
            cases hj
        · rw [List.getElem?_set_ne e] at hj
          exact E2.at_ j w hj
      · exact h.elim
  · exact ⟨ρ, x, rfl, S, En, h⟩
  · exact h.elim
/-! ### loops -/
def SrcOk (Y : Rt) (x : Wd) (J : It) (ws : List W) (g : Option Nat) : Prop := ∀ z, Mv x z → SR Y z → (∀ n, g = some n → z.st[n]? = x.st[n]?) →
  J.stop ws.length z.H ∧ ∀ i, i < ws.length → J.go i z.H ∧ ∀ v H', J.yld i z.H v H' → ∃ z' w, ws[i]? = some w ∧ Ext z z' ∧ SR Y z' ∧ z'.st = z.st ∧ z'.H = H' ∧ WV Y z' v w
def rpostI (Y : Rt) (Wx : WX) (σ : L2.St) (x : Wd) (Q : It → Hp → Prop) : Res Src → Prop
  | .ok s st' => ∀ J y, Ext x y → SR Y y → y.st = st' → SrcOk Y y J s.1 s.2 → Q J y.H
  | .exn e st' => ∀ cls d y, Ext x y → SR Y y → y.st = st' → ExR Y y cls d e → Wx cls d σ y.H
  | .bad => False
abbrev FI (G : Gd) (X : Cx) (Wx : WX) (P : Prog) (R : Fun1) (Φ : Call) (tg e : Expr) (it : I) : Prop := PI X tg e fun σ H Q => ∃ ρ x, x.H = H ∧ SR (yof G X) x ∧ EnvOk (yof G X) x ρ σ ∧ rpostI (yof G X) Wx σ x Q (evI P R Φ it ρ x.st)
theorem still_of {g : Option Nat} {st st' : Sto} (h : still g st st' = true) : ∀ n, g = some n → st'[n]? = st[n]? := fun n hn => by
  subst hn
  simpa [still] using h
theorem fs_for {t : Tg} {tg it : Expr} {i : I} {k : Nat} (hp : PassesOwn (model X.prog X.w) X.A X.env X.xe) (hc : X.calm = true) (hi : FI G X Wx P R Φ tg it i) (hg : FG G X tg t) (hb : FSs G X Wx P R Φ sts ss) (hs : ∀ x, foldedSetIterable it X.env x = pure x := by intro _; rfl) :
    FS G X Wx P R Φ (.For tg it sts [] pos) (.for t i ss) := (ps_for hp hc hi hg hb hs).imp fun D σ H ⟨ρ, x, hx, S, En, h⟩ => by
  rw [evS] at h
  refine ⟨ρ, x, hx, S, En, ?_⟩
  cases hI : evI P R Φ i ρ x.st with
  | exn a st' => rw [hI] at h; exact fun c d y e s hy hr => h c d y σ e s hy hr
  | bad => rw [hI] at h; exact h
  | ok s st' =>
    rw [hI] at h
    intro J x1 ex S1 hst so
    subst hst
    have h : rpostS (yof G X) Wx D x (forL s.2 (fun w ρ st => match asgT t w ρ with | some ρ' => evSs P R Φ ss ρ' st | none => .bad) s.1 ρ x1.st) := h
    refine ⟨fun i m σ H => m = s.1.length - i ∧ i ≤ s.1.length ∧ ∃ y ρ, y.H = H ∧ Ext x1 y ∧ SR (yof G X) y ∧ EnvOk (yof G X) y ρ σ ∧ (∀ n, s.2 = some n → y.st[n]? = x1.st[n]?) ∧ rpostS (yof G X) Wx D y (forL s.2 (fun w ρ st => match asgT t w ρ with | some ρ' => evSs P R Φ ss ρ' st | none => .bad) (s.1.drop i) ρ y.st),
      ⟨s.1.length, by simp, Nat.zero_le _, x1, ρ, rfl, Ext.refl _, S1, En.ext ex, fun _ _ => rfl, rpostS_ext ex h⟩, ?_⟩
    rintro i m σ H ⟨rfl, hi, y, ρ, rfl, ey, Sy, Ey, hst, hq⟩
    obtain ⟨stp, tn⟩ := so y ey.mv Sy hst
    by_cases hlt : i < s.1.length
    · obtain ⟨go, yld⟩ := tn i hlt
      refine .inr ⟨go, fun σ' H' => (i + 1 ≤ s.1.length ∧ ∃ y ρ, y.H = H' ∧ Ext x1 y ∧ SR (yof G X) y ∧ EnvOk (yof G X) y ρ σ' ∧ (∀ n, s.2 = some n → y.st[n]? = x1.st[n]?) ∧ rpostS (yof G X) Wx D y (forL s.2 (fun w ρ st => match asgT t w ρ with | some ρ' => evSs P R Φ ss ρ' st | none => .bad) (s.1.drop (i + 1)) ρ y.st)), fun σ' H' hn => ⟨s.1.length - (i + 1), by omega, rfl, hn⟩, fun v H' hy => ?_⟩
      obtain ⟨z', w, hw, ez, Sz, hzs, hzH, rw'⟩ := yld v H' hy
      obtain ⟨hl2, hget⟩ := List.getElem?_eq_some_iff.mp hw
      rw [List.drop_eq_getElem_cons hlt, hget] at hq
      simp only [forL] at hq
      cases ha : asgT t w ρ with
      | none => rw [ha] at hq; exact hq.elim
      | some ρ' =>
        rw [ha] at hq
        refine ⟨z', w, ρ, ρ', hzH, Sz, Ey.ext ez, rw', ha, fun σ2 E2 _ => ⟨ρ', z', hzH, Sz, E2, ?_⟩⟩
        rw [hzs]
        cases ho : evSs P R Φ ss ρ' y.st with
        | nx ρ1 st1 =>
          simp only [ho] at hq
          split at hq
          · rename_i hstl
            intro y2 σ3 e3 S3 hy2 E3
            subst hy2
            exact ⟨hlt, y2, ρ1, rfl, ey.trans (ez.trans e3), S3, E3, fun n hn => (still_of hstl n hn).trans (hst n hn), rpostS_ext (ez.trans e3) hq⟩
          · exact hq.elim
        | ct ρ1 st1 =>
          simp only [ho] at hq
          split at hq
          · rename_i hstl
            intro y2 σ3 e3 S3 hy2 E3
            subst hy2
            exact ⟨hlt, y2, ρ1, rfl, ey.trans (ez.trans e3), S3, E3, fun n hn => (still_of hstl n hn).trans (hst n hn), rpostS_ext (ez.trans e3) hq⟩
          · exact hq.elim
        | bk ρ1 st1 =>
          simp only [ho] at hq
          exact fun y2 σ3 e3 S3 hy2 E3 => hq y2 σ3 (ez.trans e3) S3 hy2 E3
        | rt w1 st1 =>
          simp only [ho] at hq
          exact fun v2 y2 e3 S3 hy2 r3 => hq v2 y2 (ez.trans e3) S3 hy2 r3
        | exn x1 st1 =>
          simp only [ho] at hq
          exact fun c d y2 σ3 e3 S3 hy2 r3 => hq c d y2 σ3 (ez.trans e3) S3 hy2 r3
        | bad => simp only [ho] at hq; exact hq
    · have e : i = s.1.length := by omega
      subst e
      rw [List.drop_length] at hq
      exact .inl ⟨stp, hq y σ (Ext.refl y) Sy rfl Ey⟩
end
end FM
end

section
/-! FM13: what loops run over; comprehensions. -/
set_option Elab.async false
set_option linter.all false
set_option maxRecDepth 100000
set_option autoImplicit false
set_option maxHeartbeats 1000000
namespace FM
open PySem PySem.Spec PyProof.Rows L2
section
variable {G : Gd} {X : Cx} {Wx : WX} {P : Prog} {R : Fun1} {Φ : Call} {pos : Pos} {e e1 e2 e3 : Expr} {a b c : E} {es : List Expr} {as : Es} {n : Str} {p apos cpos : Pos} {tg : Expr}
theorem src_lst {Y : Rt} {y : Wd} {q : Addr} {ws : List W} {g : Option Nat} (h : ∀ z, Mv y z → SR Y z → (∀ n, g = some n → z.st[n]? = y.st[n]?) → ∃ vs, SqL Y.K z.H q vs ∧ WVs Y z vs ws) : SrcOk Y y (Itl Y.K q) ws g := fun z ez Sz hg => by
  obtain ⟨vs, h1, h2⟩ := h z ez Sz hg
  have hl := h2.length
  refine ⟨⟨vs, h1, by rw [hl]; exact Nat.le_refl _⟩, fun i hi => ⟨⟨vs, vs[i]'(by rw [hl]; exact hi), h1, List.getElem?_eq_getElem _⟩, fun v H' ⟨e1, e2⟩ => ?_⟩⟩
  subst e1
  obtain ⟨w, e3, r⟩ := h2.getV (e2 vs h1)
  exact ⟨z, w, e3, Ext.refl z, Sz, rfl, rfl, r⟩
theorem src_tup {Y : Rt} {y : Wd} {q : Addr} {ws : List W} {g : Option Nat} (h : ∀ z, Mv y z → SR Y z → (∀ n, g = some n → z.st[n]? = y.st[n]?) → ∃ vs, SqT Y.K z.H q vs ∧ WVs Y z vs ws) : SrcOk Y y (Itt Y.K q) ws g := fun z ez Sz hg => by
  obtain ⟨vs, h1, h2⟩ := h z ez Sz hg
  have hl := h2.length
  refine ⟨⟨vs, h1, by rw [hl]; exact Nat.le_refl _⟩, fun i hi => ⟨⟨vs, vs[i]'(by rw [hl]; exact hi), h1, List.getElem?_eq_getElem _⟩, fun v H' ⟨e1, e2⟩ => ?_⟩⟩
  subst e1
  obtain ⟨w, e3, r⟩ := h2.getV (e2 vs h1)
  exact ⟨z, w, e3, Ext.refl z, Sz, rfl, rfl, r⟩
theorem src_str {Y : Rt} {y : Wd} {x : Str} {g : Option Nat} : SrcOk Y y (Its x) (chars x) g := fun z ez Sz hg => by
  have hl : (chars x).length = x.cps.size := by simp [chars, tl]
  refine ⟨by show x.cps.size ≤ _; rw [hl]; exact Nat.le_refl _, fun i hi => ⟨by show i < x.cps.size; rw [← hl]; exact hi, fun v H' ⟨e1, c, e2, e3⟩ => ?_⟩⟩
  subst e1 e3
  refine ⟨z, .d (dStr [c]), ?_, Ext.refl z, Sz, rfl, rfl, .d (.str _)⟩
  simp only [chars, tl, List.getElem?_map, Array.getElem?_toList, e2]
  rfl
theorem src_rng {Y : Rt} {y : Wd} {lo : Int} {m : Nat} {g : Option Nat} : SrcOk Y y (Itr lo m) (rngL lo m) g := fun z ez Sz hg => by
  have hl : (rngL lo m).length = m := by simp [rngL]
  refine ⟨by show m ≤ _; rw [hl]; exact Nat.le_refl _, fun i hi => ⟨by show i < m; rw [← hl]; exact hi, fun v H' ⟨e1, e2⟩ => ?_⟩⟩
  subst e1 e2
  refine ⟨z, .d (.int (lo + i)), ?_, Ext.refl z, Sz, rfl, rfl, .d (.int _)⟩
  rw [hl] at hi
  simp [rngL, List.getElem?_range hi]
theorem fi_e (ha : FV G X Wx P R Φ e a) : FI G X Wx P R Φ tg e (.e a) := by
  have p1 := pi_list (tg := tg) ha
  have p2 := pi_tup (tg := tg) ha
  have p3 := pi_str (tg := tg) ha
  refine ⟨fun pins s σ H Q I ⟨ρ, x, hx, S, En, h⟩ => ?_⟩
  rw [evI] at h
  cases hr : evE P R Φ a ρ x.st with
  | exn ex st' => 
    rw [hr] at h
    exact p1.run pins s σ H Q I ⟨ρ, x, hx, S, En, by rw [hr]; exact h⟩
  | bad => rw [hr] at h; exact h.elim
  | ok w st' =>
    rw [hr] at h
    have h : rpostI (yof G X) Wx σ x Q (Res.of (srcW st' w) st') := h
    cases hw : srcW st' w with
    | none => rw [hw] at h; exact h.elim
    | some sr =>
      rw [hw] at h
      cases w with
      | d d =>
        cases d <;> simp only [srcW, reduceCtorEq] at hw
        · split at hw <;> cases hw
          refine p3.run pins s σ H Q I ⟨ρ, x, hx, S, En, ?_⟩
          rw [hr]
          intro v y ey Sy hy r
          cases r with
          | d r =>
            cases r
            exact ⟨_, rfl, h _ y ey Sy hy src_str⟩
        · cases hw
          refine p1.run pins s σ H Q I ⟨ρ, x, hx, S, En, ?_⟩
          rw [hr]
          intro v y ey Sy hy r
          cases r with
          | d r =>
            cases r with
            | lst h1 h2 => exact ⟨_, rfl, ⟨_, h1.sq⟩, h _ y ey Sy hy (src_lst fun z ez Sz _ => ⟨_, (ez.lstC h1).sq, (ez.pvs h2).wvs⟩)⟩
        · cases hw
          refine p2.run pins s σ H Q I ⟨ρ, x, hx, S, En, ?_⟩
          rw [hr]
          intro v y ey Sy hy r
          cases r with
          | d r =>
            cases r with
            | tup h1 h2 => exact ⟨_, rfl, ⟨_, h1.sq⟩, h _ y ey Sy hy (src_tup fun z ez Sz _ => ⟨_, (ez.tupC h1).sq, (ez.pvs h2).wvs⟩)⟩
      | ref n =>
        simp only [srcW] at hw
        split at hw
        · rename_i ws hc
          cases hw
          refine p1.run pins s σ H Q I ⟨ρ, x, hx, S, En, ?_⟩
          rw [hr]
          intro v y ey Sy hy r
          subst hy
          cases r with
          | ref hn =>
            obtain ⟨vs, hH, rs⟩ := Sy.cell _ _ _ hn hc
            refine ⟨_, rfl, ⟨vs, .inl (.inl hH)⟩, h _ y ey Sy rfl (src_lst fun z ez Sz hg => ?_)⟩
            obtain ⟨vs2, hH2, rs2⟩ := Sz.cell _ _ _ (ez.get hn) ((hg n rfl).trans hc)
            exact ⟨vs2, .inl (.inl hH2), rs2⟩
        · cases hw
      | fn f => simp [srcW] at hw
theorem fi_rng1 (hg : Gl X "range") (hm : X.mg "range" = none) (ha : FV G X Wx P R Φ e a) (hs : starEach [e] X.env = [(false, eval e X.env)] := by rfl) : FI G X Wx P R Φ tg (.Call (.Name "range" p) [e] [] pos) (.rng1 a) := by
  refine ⟨fun pins s σ H Q I ⟨ρ, x, hx, S, En, h⟩ => (pi_range1 (tg := tg) hg hm (pa_cons ha pa_nil hs) hs).run pins s σ H Q I ?_⟩
  rw [evI] at h
  refine ⟨ρ, x, hx, S, En, ?_⟩
  cases hr : evE P R Φ a ρ x.st with
  | exn ex st' => rw [hr] at h; exact h
  | bad => rw [hr] at h; exact h
  | ok w st' =>
    rw [hr] at h
    intro v y ey Sy hy r
    have h : rpostI (yof G X) Wx σ x Q (match int? w with | some i => if rngOk i then .ok (rngL 0 i.toNat, none) st' else .bad | none => .bad) := h
    cases hi : int? w with
    | none => rw [hi] at h; exact h.elim
    | some i =>
      rw [hi] at h
      obtain ⟨rfl, _⟩ := int_of r hi
      by_cases ho : rngOk i = true
      · simp only [ho, if_true] at h
        simp only [rngOk, Bool.and_eq_true, decide_eq_true_eq] at ho
        exact ⟨i, rfl, ho.1, ho.2, h _ y ey Sy hy src_rng⟩
      · simp only [ho] at h
        exact h.elim
theorem fi_rng2 (hg : Gl X "range") (hm : X.mg "range" = none) (ha : FV G X Wx P R Φ e1 a) (hb : FV G X Wx P R Φ e2 b) (hs : starEach [e1, e2] X.env = [(false, eval e1 X.env), (false, eval e2 X.env)] := by rfl) (hs2 : starEach [e2] X.env = [(false, eval e2 X.env)] := by rfl) :
    FI G X Wx P R Φ tg (.Call (.Name "range" p) [e1, e2] [] pos) (.rng2 a b) := by
  refine ⟨fun pins s σ H Q I ⟨ρ, x, hx, S, En, h⟩ => (pi_range2 (tg := tg) hg hm (pa_cons ha (pa_cons hb pa_nil hs2) (by rw [hs, hs2])) hs hs2).run pins s σ H Q I ?_⟩
  rw [evI] at h
  refine ⟨ρ, x, hx, S, En, ?_⟩
  cases hr : evE P R Φ a ρ x.st with
  | exn ex st' => rw [hr] at h; exact h
  | bad => rw [hr] at h; exact h
  | ok w st' =>
    rw [hr] at h
    intro v y ey Sy hy r
    subst hy
    refine ⟨ρ, y, rfl, Sy, En.ext ey, ?_⟩
    rw [Res.bind_ok] at h
    cases hr2 : evE P R Φ b ρ y.st with
    | exn ex st' =>
      rw [hr2] at h
      exact fun c d z ez => h c d z (ey.trans ez)
    | bad => rw [hr2] at h; exact h
    | ok w2 st2 =>
      rw [hr2, Res.bind_ok] at h
      intro u z ez Sz hz r2
      cases hi : int? w with
      | none => rw [hi] at h; exact h.elim
      | some i =>
        cases hj : int? w2 with
        | none => rw [hi, hj] at h; exact h.elim
        | some j =>
          rw [hi, hj] at h
          obtain ⟨rfl, _⟩ := int_of r hi
          obtain ⟨rfl, _⟩ := int_of r2 hj
          by_cases ho : (rngOk i && rngOk j) = true
          · simp only [ho, if_true] at h
            simp only [rngOk, Bool.and_eq_true, decide_eq_true_eq] at ho
            exact ⟨i, j, rfl, ⟨ho.1.1, ho.1.2, ho.2.1, ho.2.2⟩, h _ z (ey.trans ez) Sz hz src_rng⟩
          · simp only [ho] at h
            exact h.elim
/-! ### comprehensions -/
abbrev FP (G : Gd) (X : Cx) (Wx : WX) (P : Prog) (R : Fun1) (Φ : Call) (ifs : List Expr) (c : Cs) : Prop := PTs X ifs (rd (yof G X) Wx (fun _ v w => v = w) (evCs P R Φ c))
theorem _root_.L2.PTs.imp {X : Cx} {e : List Expr} {t t' : TT} (h : PTs X e t) (k : ∀ σ H Q, t' σ H Q → t σ H Q) : PTs X e t' := ⟨fun pins s σ H Q I hq => h.run pins s σ H Q I (k σ H Q hq)⟩
theorem fp_no : FP G X Wx P R Φ [] .no := pts_nil.imp fun σ H Q ⟨ρ, x, hx, S, En, h⟩ => by
  rw [evCs] at h
  subst hx
  exact h true x (Ext.refl x) S rfl rfl
theorem fp_c {c : C} (h : FC G X Wx P R Φ e c) : FP G X Wx P R Φ [e] (.c c) := (pts_one h).imp fun σ H Q ⟨ρ, x, hx, S, En, h⟩ => by
  rw [evCs] at h
  exact ⟨ρ, x, hx, S, En, h⟩
abbrev WF : WX := fun _ _ _ _ => False
/-- the list under way grows -/
theorem res_set {Y : Rt} {x y : Wd} {D : Addr} {o : HO} (e : Ext ⟨D :: x.R, x.μ, x.st, x.H⟩ y) (S : SR Y y) (hn : x.H D = none) (ho : ∀ ps, o ≠ .tbl ps) (hc : ∃ o', y.H D = some o' ∧ (∀ ps, o' ≠ .tbl ps) ∧ ∀ q, o' ≠ LamX.CodeO D q) :
    Ext ⟨D :: x.R, x.μ, x.st, x.H⟩ ⟨y.R, y.μ, y.st, upd y.H D o⟩ ∧ Mv y ⟨y.R, y.μ, y.st, upd y.H D o⟩ ∧ SR Y ⟨y.R, y.μ, y.st, upd y.H D o⟩ := by
  have hR : D ∈ y.R := by rw [e.R]; exact List.mem_cons_self
  have hμ : D ∉ y.μ := (S.res D hR).1
  have mv : Mv y ⟨y.R, y.μ, y.st, upd y.H D o⟩ := ⟨List.prefix_refl _, fun b u h t n => ⟨by show upd y.H D o b = _; rw [upd_ne (fun z => n.1 (by rw [z]; exact hR))]; exact h, n⟩⟩
  refine ⟨⟨e.R, e.pre, fun b u h t n => ?_, fun b u h t => ?_⟩, mv, ⟨S.len, S.nd, fun b hb => ?_, fun b hb => ?_, fun m b d h1 h2 => (S.cell m b d h1 h2).mv mv fun u h3 _ => by show upd y.H D o b = _; rw [upd_ne (fun z => hμ (by rw [← z]; exact List.mem_of_getElem? h1))]; exact h3, ?_⟩⟩
  · obtain ⟨h1, n1⟩ := e.keep b u h t n
    exact ⟨by show upd y.H D o b = _; rw [upd_ne (fun z => by rw [z] at h; have h : x.H D = some u := h; rw [hn] at h; cases h)]; exact h1, n1⟩
  · obtain ⟨o', h1, t1⟩ := e.dom b u h t
    by_cases z : b = D
    · exact ⟨o, by rw [z]; exact upd_same, ho⟩
    · exact ⟨o', by show upd y.H D o b = _; rw [upd_ne z]; exact h1, t1⟩
  · obtain ⟨u, h1, t⟩ := S.dom b hb
    exact ⟨u, by show upd y.H D o b = _; rw [upd_ne (fun z => hμ (by rw [← z]; exact hb))]; exact h1, t⟩
  · obtain ⟨h1, u, h2, t⟩ := S.res b hb
    by_cases z : b = D
    · exact ⟨h1, o, by rw [z]; exact upd_same, ho⟩
    · exact ⟨h1, u, by show upd y.H D o b = _; rw [upd_ne z]; exact h2, t⟩
  · obtain ⟨o', hD, hT, hC⟩ := hc
    intro q hq
    obtain ⟨ps, h1, h2, h3⟩ := S.tabs q hq
    have z : q.1 ≠ D := fun z => hT ps (by rw [z, hD] at h1; exact Option.some.inj h1)
    refine ⟨ps, by show upd y.H D o q.1 = _; rw [upd_ne z]; exact h1, h2, fun pos cv hcv => ?_⟩
    obtain ⟨c0, k1, k2⟩ := h3 pos cv hcv
    refine ⟨c0, k1, ?_⟩
    show upd y.H D o c0 = _
    rw [upd_ne (fun z => hC q.2 (by rw [z, hD] at k2; exact Option.some.inj k2))]
    exact k2
theorem wipe_same {l : List Nat} {σ σ' : L2.St} : ∀ {vs : List Nat}, (∀ i ∈ l, i ∈ vs) → SameBut l (wipe σ vs) σ' → wipe σ' vs = wipe σ vs := fun {vs} hl hs => by
  have len : σ'.length = σ.length := hs.1.trans (wipe_length σ vs)
  refine List.ext_getElem? fun i => ?_
  have key : ∀ (τ : L2.St) (vs : List Nat) (i : Nat), (wipe τ vs)[i]? = if i ∈ vs then (if i < τ.length then some none else none) else τ[i]? := by
    intro τ vs
    induction vs with
    | nil => intro i; simp [wipe]
    | cons v vs ih =>
      intro i
      show ((wipe τ vs).set v none)[i]? = _
      by_cases e : v = i
      · subst e
        simp only [List.mem_cons, true_or, if_true]
        by_cases hl : v < τ.length
        · rw [List.getElem?_set_self (by rw [wipe_length]; exact hl), if_pos hl]
        · rw [List.getElem?_eq_none (by rw [List.length_set, wipe_length]; omega), if_neg hl]
      · rw [List.getElem?_set_ne e, ih i]
        simp [Ne.symm e]
  rw [key σ' vs i, key σ vs i]
  by_cases hi : i ∈ vs
  · rw [if_pos hi, if_pos hi, len]
  · rw [if_neg hi, if_neg hi, hs.2 i (fun z => hi (hl i z)), key σ vs i, if_neg hi]
theorem rpost_ok {Y : Rt} {σ : L2.St} {x : Wd} {α β : Type} {rel : Wd → β → α → Prop} {K : β → Hp → Prop} {r : Res α} {o : α} {st' : Sto} (hr : r = .ok o st') (k : ∀ v y, Ext x y → SR Y y → y.st = st' → rel y v o → K v y.H) : rpost Y WF σ x rel K r := by
  rw [hr]
  exact k
/-- the reading of a list comprehension -/
theorem lc_read {i : I} {t : Tg} {cs : Cs} {own : List Nat} {wi : TI} {σ : L2.St} {H : Hp} {Q : VK} (hin : ∀ j ∈ t.ix, j ∈ own) (hwi : wi = fun σ H Q => ∃ ρ x, x.H = H ∧ SR (yof G X) x ∧ EnvOk (yof G X) x ρ σ ∧ rpostI (yof G X) Wx σ x Q (evI P R Φ i ρ x.st))
    (h : ∃ ρ x, x.H = H ∧ SR (yof G X) x ∧ EnvOk (yof G X) x ρ σ ∧ rpostF (yof G X) Wx σ x Q (evF P R Φ (.lc own t i cs a) ρ x.st)) :
    tLc wi (rdG (yof G X) t) (rd (yof G X) WF (fun _ v w => v = w) (evCs P R Φ cs)) (rd (yof G X) WF (fun y v w => WV (yof G X) y v w) (evE P R Φ a)) own σ H Q := by
  subst hwi
  obtain ⟨ρ, x, hx, S, En, h⟩ := h
  rw [evF] at h
  refine ⟨ρ, x, hx, S, En, ?_⟩
  cases hI : evI P R Φ i ρ x.st with
  | exn a st' => rw [hI] at h; exact h
  | bad => rw [hI] at h; exact h
  | ok s st' =>
    rw [hI, Res.bind_ok] at h
    intro J x1 ex S1 hst so D hD
    subst hst
    split at h
    · exact h.elim
    rename_i hsz
    have hsz : s.1.length ≤ SZ := by omega
    generalize hstep : (fun (w : W) (st : Sto) => match asgT t w (wip ρ own) with
      | some ρ' => (evCs P R Φ cs ρ' st).bind fun k st => if k then (evE P R Φ a ρ' st).bind fun y st => .ok (some y) st else .ok none st
      | none => .bad) = step at h
    cases hl : lcL s.2 step s.1 x1.st with
    | exn _ _ => 
      exfalso
      revert hl
      have : ∀ (ws : List W) (st : Sto) (e : Exn) (st' : Sto), lcL s.2 step ws st ≠ .exn e st' := by
        intro ws
        induction ws with
        | nil => intro st e st' h; simp [lcL] at h
        | cons w ws ih =>
          intro st e st' h
          simp only [lcL] at h
          split at h
          · split at h
            · split at h <;> cases h
            · cases h
          · cases h
      exact this _ _ _ _
    | bad => rw [hl] at h; exact h.elim
    | ok ys st2 =>
      rw [hl, Res.bind_ok] at h
      have ex1 : Ext ⟨D :: x.R, x.μ, x.st, x.H⟩ ⟨D :: x1.R, x1.μ, x1.st, x1.H⟩ := ex.res D
      obtain ⟨en, mn, Sn⟩ := new_res (o := .lst []) S1 hD (fun _ z => by cases z)
      have hnx : NT x D := ex.nt (NT.of hD)
      have En1 := En.ext ex
      refine ⟨fun i m H => m = s.1.length - i ∧ i ≤ s.1.length ∧ ∃ y acc done rest, y.H = H ∧ Ext ⟨D :: x1.R, x1.μ, x1.st, x1.H⟩ y ∧ Mv x1 y ∧ SR (yof G X) y ∧ y.H D = some (.lst acc) ∧ WVs (yof G X) y acc done ∧ acc.length ≤ i ∧ (∀ n, s.2 = some n → y.st[n]? = x1.st[n]?) ∧ lcL s.2 step (s.1.drop i) y.st = .ok rest st2 ∧ ys = done ++ rest,
        ⟨s.1.length, by simp, Nat.zero_le _, _, [], [], ys, rfl, en, mn, Sn, upd_same, .nil, Nat.le_refl _, fun _ _ => rfl, hl, rfl⟩, ?_⟩
      rintro i m H ⟨rfl, hi, y, acc, done, rest, rfl, ey, my, Sy, hyD, racc, hacc, hgs, hlc, hys⟩
      have nlD : ¬ y.live D := fun ⟨k, d, h1, _, _⟩ => (Sy.res D (by rw [ey.R]; exact List.mem_cons_self)).1 (List.mem_of_getElem? h1)
      obtain ⟨stp, tn⟩ := so y my Sy hgs
      by_cases hlt : i < s.1.length
      · obtain ⟨go, yld⟩ := tn i hlt
        refine .inr ⟨go, fun H' => (i + 1 ≤ s.1.length ∧ ∃ y acc done rest, y.H = H' ∧ Ext ⟨D :: x1.R, x1.μ, x1.st, x1.H⟩ y ∧ Mv x1 y ∧ SR (yof G X) y ∧ y.H D = some (.lst acc) ∧ WVs (yof G X) y acc done ∧ acc.length ≤ i + 1 ∧ (∀ n, s.2 = some n → y.st[n]? = x1.st[n]?) ∧ lcL s.2 step (s.1.drop (i + 1)) y.st = .ok rest st2 ∧ ys = done ++ rest), fun H' hn => ⟨s.1.length - (i + 1), by omega, rfl, hn⟩, fun v H' hy => ?_⟩
        obtain ⟨z', w, hw, ez, Sz, hzs, hzH, rw'⟩ := yld v H' hy
        obtain ⟨hl2, hget⟩ := List.getElem?_eq_some_iff.mp hw
        rw [List.drop_eq_getElem_cons hlt, hget] at hlc
        simp only [lcL] at hlc
        have hs2 : step w y.st = (match asgT t w (wip ρ own) with
          | some ρ' => (evCs P R Φ cs ρ' y.st).bind fun k st => if k then (evE P R Φ a ρ' st).bind fun y st => .ok (some y) st else .ok none st
          | none => .bad) := by rw [← hstep]
        cases ha : asgT t w (wip ρ own) with
        | none =>
          rw [ha] at hs2
          rw [hs2] at hlc
          cases hlc
        | some ρ' =>
          rw [ha] at hs2
          have hs2 : step w y.st = (evCs P R Φ cs ρ' y.st).bind fun k st => if k then (evE P R Φ a ρ' st).bind fun y st => .ok (some y) st else .ok none st := hs2
          refine ⟨z', w, wip ρ own, ρ', hzH, Sz, ((En1.mv my).ext ez).wip own, rw', ha, fun σ2 E2 sb => ⟨wipe_same hin sb, ρ', z', hzH, Sz, E2, ?_⟩⟩
          rw [hzs]
          cases hc : evCs P R Φ cs ρ' y.st with
          | exn e st => rw [hc] at hs2; rw [hs2] at hlc; cases hlc
          | bad => rw [hc] at hs2; rw [hs2] at hlc; cases hlc
          | ok k st1 =>
            rw [hc] at hs2
            have hs2 : step w y.st = if k then (evE P R Φ a ρ' st1).bind fun y st => .ok (some y) st else .ok none st1 := hs2
            intro k' y2 e2 S2 hy2 hk
            subst hy2
            have hk : k' = k := hk
            subst hk
            cases k' with
            | false =>
              have hs3 : step w y.st = .ok none y2.st := hs2
              rw [hs3] at hlc
              simp only at hlc
              split at hlc
              · rename_i hstl
                split at hlc
                · rename_i ys' st'' hrec
                  cases hlc
                  have et := ez.trans e2
                  exact ⟨hlt, y2, acc, done, rest, rfl, ey.trans et, my.trans et.mv, S2, (et.keep D _ hyD (fun _ z => by cases z) nlD).1, et.wvs racc, Nat.le_succ_of_le hacc, fun n hn => (still_of hstl n hn).trans (hgs n hn), hrec, hys⟩
                · cases hlc
              · cases hlc
            | true =>
              have hs3 : step w y.st = (evE P R Φ a ρ' y2.st).bind fun y st => .ok (some y) st := hs2
              show rd (yof G X) WF (fun y v w => WV (yof G X) y v w) (evE P R Φ a) σ2 y2.H _
              refine ⟨ρ', y2, rfl, S2, E2.ext e2, ?_⟩
              cases he : evE P R Φ a ρ' y2.st with
              | exn e st => rw [he] at hs3; rw [hs3] at hlc; cases hlc
              | bad => rw [he] at hs3; rw [hs3] at hlc; cases hlc
              | ok wv st3 =>
                rw [he] at hs3
                have hs3 : step w y.st = .ok (some wv) st3 := hs3
                rw [hs3] at hlc
                simp only at hlc
                split at hlc
                · rename_i hstl
                  split at hlc
                  · rename_i ys' st'' hrec
                    cases hlc
                    intro u y3 e3 S3 hy3 r3
                    subst hy3
                    have et := (ez.trans e2).trans e3
                    have kD := (et.keep D _ hyD (fun _ z => by cases z) nlD).1
                    obtain ⟨e5, m5, S5⟩ := res_set (o := .lst (acc ++ [u])) (ey.trans et) S3 hD (fun _ z => by cases z) ⟨_, kD, (fun _ z => by cases z), lst_code⟩
                    refine ⟨acc, kD, by rw [← SZ_eq]; omega, hlt, _, acc ++ [u], done ++ [wv], ys', rfl, e5, (my.trans et.mv).trans m5, S5, upd_same, (m5.wvs (et.wvs racc)).append (.cons (m5.wv r3) .nil), by rw [List.length_append]; exact Nat.succ_le_succ hacc, fun n hn => (still_of hstl n hn).trans (hgs n hn), hrec, by rw [hys, List.append_assoc]; rfl⟩
                  · cases hlc
                · cases hlc
      · have e : i = s.1.length := by omega
        subst e
        rw [List.drop_length] at hlc
        simp only [lcL, Res.ok.injEq] at hlc
        obtain ⟨h1, h2⟩ := hlc
        subst h1
        rw [List.append_nil] at hys
        subst hys
        exact .inl ⟨stp, h y D (.inl acc) (ex1.trans ey) Sy h2 hnx hyD (by rw [← ex.R]; exact S1.fresh hD) racc⟩
/-- [a for t in i if cs] -/
theorem ff_lc {t : Tg} {i : I} {cs : Cs} {elt iter : Expr} {ifs : List Expr} {scope : Scope} {own : List (Str × Nat)} (hc : X.calm = true) (hN : X.N.Nodup) (hi : FI G X Wx P R Φ tg iter i) (ok : BlkOk X.N X.env.scope scope own) (hin : ∀ j ∈ t.ix, j ∈ own.map (·.2))
    (hg : ∀ (s : Shared) (H : Hp) (C : Addr) (cl : List (Str × Addr)) (fp : List Addr), FG G (X.blk s H scope (compEnvC scope cl C X.env) fp) tg t) (ht : ∀ (s : Shared) (H : Hp) (C : Addr) (cl : List (Str × Addr)) (fp : List Addr), FP G (X.blk s H scope (compEnvC scope cl C X.env) fp) WF P R Φ ifs cs)
    (he : ∀ (s : Shared) (H : Hp) (C : Addr) (cl : List (Str × Addr)) (fp : List Addr), FV G (X.blk s H scope (compEnvC scope cl C X.env) fp) WF P R Φ elt a) (hs : ∀ x, foldedSetIterable iter X.env x = pure x := by intro _; rfl) :
    FF G X Wx P R Φ (.ListComp elt [⟨tg, iter, ifs, 0⟩] scope pos) (.lc (own.map (·.2)) t i cs a) :=
  (pe_lc hc hN hi ok hg ht he hs).imp fun σ H Q h => lc_read hin rfl h
/-- name = [a for t in i if cs], on one line, the name a local -/
theorem set_read {i : Nat} {D : Ends} {σ : L2.St} {H : Hp} (h : rdS (yof G X) Wx (evS P R Φ (.set (.v i) a)) D σ H) : rd (yof G X) Wx (fun y v w => WV (yof G X) y v w) (evE P R Φ a) σ H (fun v H1 => D.nx (σ.set i (some v)) H1) := by
  obtain ⟨ρ, x, hx, S, En, h⟩ := h
  rw [evS] at h
  refine ⟨ρ, x, hx, S, En, rpostS_out h fun v y w e1 Sy r h2 => ?_⟩
  simp only [asgT] at h2
  exact h2 y _ (Ext.refl y) Sy rfl ((En.ext e1).set r)
variable {t : Tg} {i : I} {cs : Cs} {elt iter : Expr} {ifs : List Expr} {scope : Scope} {own : List (Str × Nat)}
theorem fs_setLcP {j : Nat} {y : Str} {py spos : Pos} (hc : X.calm = true) (hN : X.N.Nodup) (hi : FI G X Wx P R Φ tg iter i) (ok : BlkOk X.N X.env.scope scope own) (hin : ∀ j ∈ t.ix, j ∈ own.map (·.2))
    (hg : ∀ (s : Shared) (H : Hp) (C : Addr) (cl : List (Str × Addr)) (fp : List Addr), FG G (X.blk s H scope (compEnvC scope cl C X.env) fp) tg t) (ht : ∀ (s : Shared) (H : Hp) (C : Addr) (cl : List (Str × Addr)) (fp : List Addr), FP G (X.blk s H scope (compEnvC scope cl C X.env) fp) WF P R Φ ifs cs)
    (he : ∀ (s : Shared) (H : Hp) (C : Addr) (cl : List (Str × Addr)) (fp : List Addr), FV G (X.blk s H scope (compEnvC scope cl C X.env) fp) WF P R Φ elt a) (hy : X.N[j]? = some y := by rfl) (hyl : X.env.scope.names.lookup y = some .local := by rfl)
    (hsw : swapsWith (.ListComp elt [⟨tg, iter, ifs, 0⟩] scope pos) (some (.Name y py)) spos.line X.env = pure true := by first | exact sw_true rfl rfl rfl rfl | exact sw_true rfl rfl rfl (by decide +kernel)) (hs : ∀ x, foldedSetIterable iter X.env x = pure x := by intro _; rfl) :
    FS G X Wx P R Φ (.Assign [.Name y py] (.ListComp elt [⟨tg, iter, ifs, 0⟩] scope pos) spos) (.set (.v j) (.pur (.lc (own.map (·.2)) t i cs a))) :=
  (ps_setLc hc hN hy hyl hsw hi ok hg ht he hs).imp fun D σ H h => lc_read hin rfl (pur_read (set_read h))
theorem fs_setLcN {j : Nat} {y : Str} {py spos : Pos} (hc : X.calm = true) (hN : X.N.Nodup) (hi : FI G X Wx P R Φ tg iter i) (ok : BlkOk X.N X.env.scope scope own) (hin : ∀ j ∈ t.ix, j ∈ own.map (·.2))
    (hg : ∀ (s : Shared) (H : Hp) (C : Addr) (cl : List (Str × Addr)) (fp : List Addr), FG G (X.blk s H scope (compEnvC scope cl C X.env) fp) tg t) (ht : ∀ (s : Shared) (H : Hp) (C : Addr) (cl : List (Str × Addr)) (fp : List Addr), FP G (X.blk s H scope (compEnvC scope cl C X.env) fp) WF P R Φ ifs cs)
    (he : ∀ (s : Shared) (H : Hp) (C : Addr) (cl : List (Str × Addr)) (fp : List Addr), FV G (X.blk s H scope (compEnvC scope cl C X.env) fp) WF P R Φ elt a) (hy : X.N[j]? = some y := by rfl) (hyl : X.env.scope.names.lookup y = some .local := by rfl)
    (hsw : swapsWith (.ListComp elt [⟨tg, iter, ifs, 0⟩] scope pos) (some (.Name y py)) spos.line X.env = pure true := by first | exact sw_true rfl rfl rfl rfl | exact sw_true rfl rfl rfl (by decide +kernel)) (hs : ∀ x, foldedSetIterable iter X.env x = pure x := by intro _; rfl) :
    FS G X Wx P R Φ (.Assign [.Name y py] (.ListComp elt [⟨tg, iter, ifs, 0⟩] scope pos) spos) (.set (.v j) (.new (.lc (own.map (·.2)) t i cs a))) :=
  (ps_setLc hc hN hy hyl hsw hi ok hg ht he hs).imp fun D σ H h => lc_read hin rfl (new_read (set_read h))
end
end FM
end

section
/-! FM14: the end of a def, its promise, its call. -/
set_option Elab.async false
set_option linter.all false
set_option maxRecDepth 100000
set_option autoImplicit false
set_option maxHeartbeats 1000000
namespace FM
open PySem PySem.Spec PyProof.Rows L2
section
variable {Y : Rt} {x y : Wd}
theorem wv_below {v : V} {w : W} (S : SR Y x) (h : WV Y x v w) : w.below x.st.length = true := by
  cases h with
  | d _ => rfl
  | ref h =>
    simp only [W.below, decide_eq_true_eq]
    rw [← S.len]
    exact (List.getElem?_eq_some_iff.mp h).1
  | fn _ => rfl
theorem wvs_below {vs : List V} {ws : List W} (S : SR Y x) (h : WVs Y x vs ws) : ws.all (W.below x.st.length) = true := by
  induction h with
  | nil => rfl
  | cons h _ ih => simp [wv_below S h, ih]
theorem wes_below {es : List DictEntry} {ws : List (D × W)} (S : SR Y x) (h : WEs Y x es ws) : (ws.all fun p => p.2.below x.st.length) = true := by
  induction h with
  | nil => rfl
  | cons _ _ _ _ _ h6 _ ih => simp [wv_below S h6, ih]
theorem wfs_below {es : List (Str × V)} {ws : List (String × W)} (S : SR Y x) (h : WFs Y x es ws) : (ws.all fun p => p.2.below x.st.length) = true := by
  induction h with
  | nil => rfl
  | cons h _ ih => simp [wv_below S h, ih]
theorem cell_below {a : Addr} {c : Cell} (S : SR Y x) (h : CellOk Y x a c) : c.below x.st.length = true := by
  cases c with
  | lst ws =>
    obtain ⟨vs, _, r⟩ := h
    exact wvs_below S r
  | dct kvs =>
    obtain ⟨es, _, _, _, r, _⟩ := h
    exact wes_below S r
  | ins cc fs =>
    obtain ⟨dx, vs, _, r, _⟩ := h
    exact wfs_below S r
  | dead => rfl
/-- behind a call: the caller's cells alone -/
def back (x y : Wd) : Wd := ⟨y.R, x.μ, y.st.take x.st.length, y.H⟩
theorem back_st (hl : x.st.length ≤ y.st.length) {n : Nat} {c : Cell} (h : (back x y).st[n]? = some c) : n < x.st.length ∧ y.st[n]? = some c := by
  have h : (y.st.take x.st.length)[n]? = some c := h
  rw [List.getElem?_take] at h
  split at h
  · exact ⟨by assumption, h⟩
  · cases h
theorem back_live (e : Ext x y) (hl : x.st.length ≤ y.st.length) {a : Addr} (h : (back x y).live a) : y.live a := by
  obtain ⟨n, c, h1, h2, h3⟩ := h
  exact ⟨n, c, e.get h1, (back_st hl h2).2, h3⟩
theorem back_nl (e : Ext x y) (hl : x.st.length ≤ y.st.length) {a : Addr} (h : y.nl a) : (back x y).nl a := ⟨h.1, fun z => h.2 (back_live e hl z)⟩
mutual
theorem PV.mono {H : Hp} {nl nl' : Addr → Prop} (k : ∀ a, nl a → nl' a) : ∀ {v : V} {d : D}, PV Y H nl v d → PV Y H nl' v d
  | _, _, .none => .none
  | _, _, .bool b => .bool b
  | _, _, .int i => .int i
  | _, _, .str s => .str s
  | _, _, .tup h1 h2 => .tup (h1.imp (fun q => ⟨q.1, k _ q.2⟩) id) (PVs.mono k h2)
  | _, _, .lst h1 h2 => .lst ⟨h1.1, k _ h1.2⟩ (PVs.mono k h2)
  | _, _, .dct h1 h2 h3 h4 h5 => .dct (h1.imp (fun q => ⟨q.1, k _ q.2⟩) id) h2 h3 (PEs.mono k h4) h5
theorem PVs.mono {H : Hp} {nl nl' : Addr → Prop} (k : ∀ a, nl a → nl' a) : ∀ {vs : List V} {ds : List D}, PVs Y H nl vs ds → PVs Y H nl' vs ds
  | _, _, .nil => .nil
  | _, _, .cons h1 h2 => .cons (PV.mono k h1) (PVs.mono k h2)
theorem PEs.mono {H : Hp} {nl nl' : Addr → Prop} (k : ∀ a, nl a → nl' a) : ∀ {es : List DictEntry} {kvs : List (D × D)}, PEs Y H nl es kvs → PEs Y H nl' es kvs
  | _, _, .nil => .nil
  | _, _, .cons h1 h2 h3 h4 h5 h6 h7 => .cons h1 (PV.mono k h2) h3 h4 h5 (PV.mono k h6) (PEs.mono k h7)
end
theorem back_wv (e : Ext x y) (Sx : SR Y x) (hl : x.st.length ≤ y.st.length) {v : V} {w : W} (h : WV Y y v w) (hb : w.below x.st.length = true) : WV Y (back x y) v w := by
  cases h with
  | d h => exact .d (h.mono fun a => back_nl e hl)
  | @ref n a h =>
    simp only [W.below, decide_eq_true_eq] at hb
    obtain ⟨l, hp⟩ := e.pre
    rw [← hp, List.getElem?_append_left (by rw [Sx.len]; exact hb)] at h
    exact .ref h
  | fn f => exact .fn f
theorem back_wvs (e : Ext x y) (Sx : SR Y x) (hl : x.st.length ≤ y.st.length) {vs : List V} {ws : List W} (h : WVs Y y vs ws) (hb : ws.all (W.below x.st.length) = true) : WVs Y (back x y) vs ws := by
  induction h with
  | nil => exact .nil
  | cons h _ ih =>
    simp only [List.all_cons, Bool.and_eq_true] at hb
    exact .cons (back_wv e Sx hl h hb.1) (ih hb.2)
theorem back_cell (e : Ext x y) (Sx : SR Y x) (hl : x.st.length ≤ y.st.length) {a : Addr} {c : Cell} (h : CellOk Y y a c) (hb : c.below x.st.length = true) : CellOk Y (back x y) a c := by
  cases c with
  | lst ws =>
    obtain ⟨vs, h1, r⟩ := h
    exact ⟨vs, h1, back_wvs e Sx hl r hb⟩
  | dct kvs =>
    obtain ⟨es, h1, h2, h3, r, nd⟩ := h
    refine ⟨es, h1, h2, h3, ?_, nd⟩
    simp only [Cell.below] at hb
    clear nd h1 h2 h3 a
    induction r with
    | nil => exact .nil
    | cons a1 a2 a3 a4 a5 a6 _ ih =>
      simp only [List.all_cons, Bool.and_eq_true] at hb
      exact .cons a1 (a2.mono fun a => back_nl e hl) a3 a4 a5 (back_wv e Sx hl a6 hb.1) (ih hb.2)
  | ins cc fs =>
    obtain ⟨dx, vs, h1, r, nd⟩ := h
    refine ⟨dx, vs, h1, ?_, nd⟩
    simp only [Cell.below] at hb
    clear nd h1 a
    induction r with
    | nil => exact .nil
    | cons a1 _ ih =>
      simp only [List.all_cons, Bool.and_eq_true] at hb
      exact .cons (back_wv e Sx hl a1 hb.1) (ih hb.2)
  | dead => exact True.intro
theorem back_ok (e : Ext x y) (Sx : SR Y x) (Sy : SR Y y) (hl : x.st.length ≤ y.st.length) (hc : ∀ (n : Nat) (c : Cell), n < x.st.length → y.st[n]? = some c → c.below x.st.length = true) : Ext x (back x y) ∧ SR Y (back x y) := by
  have sub : ∀ a ∈ x.μ, a ∈ y.μ := fun a ha => e.pre.subset ha
  refine ⟨⟨e.R, List.prefix_refl _, fun a o h t n => ?_, e.dom⟩, ⟨?_, Sx.nd, fun a ha => Sy.dom a (sub a ha), fun a ha => ?_, fun n a c h1 h2 => ?_, Sy.tabs⟩⟩
  · obtain ⟨h1, n1⟩ := e.keep a o h t n
    exact ⟨h1, fun z => n1 (back_live e hl z)⟩
  · show x.μ.length = (y.st.take x.st.length).length
    rw [List.length_take, Nat.min_eq_left hl, Sx.len]
  · obtain ⟨h1, o, h2⟩ := Sy.res a ha
    exact ⟨fun z => h1 (sub a z), o, h2⟩
  · obtain ⟨h3, h4⟩ := back_st hl h2
    exact back_cell e Sx hl (Sy.cell n a c (e.get h1) h4) (hc n c h3 h4)
/-- a value as the caller has it -/
theorem back_frz (e : Ext x y) (Sx : SR Y x) (Sy : SR Y y) (hl : x.st.length ≤ y.st.length) {v : V} {w w' : W} (h : WV Y y v w) (hf : frzW x.st.length y.st w = some w') : WV Y (back x y) v w' := by
  cases h with
  | d h => cases hf; exact .d (h.mono fun a => back_nl e hl)
  | fn f => cases hf; exact .fn f
  | @ref n a hn =>
    simp only [frzW] at hf
    split at hf
    · rename_i hk
      cases hf
      exact back_wv e Sx hl (.ref hn) (by simpa [W.below] using hk)
    · rename_i hk
      simp only [Option.map_eq_some_iff] at hf
      obtain ⟨d, hd, rfl⟩ := hf
      have na : (back x y).nl a := ⟨fun z => (Sy.res a z).1 (List.mem_of_getElem? hn), fun ⟨m, c, h1, _⟩ => by
        have h1 : x.μ[m]? = some a := h1
        have := nodup_at Sy.nd (e.get h1) hn
        have h2 := (List.getElem?_eq_some_iff.mp h1).1
        rw [Sx.len] at h2
        omega⟩
      have hv := Sy.vw (.ref hn) hd
      cases hv with
      | pv h => exact .d (h.mono fun a => back_nl e hl)
      | lst h1 h2 => exact .d (.lst ⟨.inl h1, na⟩ (h2.mono fun a => back_nl e hl))
      | dct h1 h2 h3 h4 h5 => exact .d (.dct (.inl ⟨h1, na⟩) h2 h3 (h4.mono fun a => back_nl e hl) h5)
theorem back_frzF (e : Ext x y) (Sx : SR Y x) (Sy : SR Y y) (hl : x.st.length ≤ y.st.length) : ∀ {fs : List (Str × V)} {ws ws' : List (String × W)}, WFs Y y fs ws → frzF x.st.length y.st ws = some ws' → WFs Y (back x y) fs ws'
  | _, _, _, .nil, hf => by cases hf; exact .nil
  | _, _, _, .cons h t, hf => by
    simp only [frzF, Option.bind_eq_some_iff, Option.map_eq_some_iff] at hf
    obtain ⟨w, e1, r, e2, e3⟩ := hf
    subst e3
    exact .cons (back_frz e Sx Sy hl h e1) (back_frzF e Sx Sy hl t e2)
/-- what a def wants of exceptions -/
def wE (E : XK) : WX := fun c d _ H => E c d H
abbrev relW (Y : Rt) : Wd → V → W → Prop := fun y v w => WV Y y v w
theorem old_below (Sx : SR Y x) (ho : okOld x.st y.st) : ∀ (n : Nat) (c : Cell), n < x.st.length → y.st[n]? = some c → c.below x.st.length = true := fun n c hn hc => by
  rcases ho n hn with h | ⟨c', h, hb⟩
  · rw [hc] at h
    obtain ⟨a, ha⟩ : ∃ a, x.μ[n]? = some a := ⟨_, List.getElem?_eq_getElem (by rw [Sx.len]; exact hn)⟩
    exact cell_below Sx (Sx.cell n a c ha h.symm)
  · rw [hc] at h
    cases h
    exact hb

open Classical in
theorem exit_ok {E : XK} {σ : L2.St} {m : Mode} {Q : VK} {o : Out} (Sx : SR Y x) (hm : m ≠ .obj) (h : rpost Y (wE E) σ x (relW Y) Q (exitR m x.st o)) : rpostS Y (wE E) { nx := fun _ H' => Q .non H', rt := Q } x o := by
  have val : ∀ (w : W) (st' : Sto) (v : V) (y : Wd), rpost Y (wE E) σ x (relW Y) Q (exitOk m x.st w st') → Ext x y → SR Y y → y.st = st' → WV Y y v w → Q v y.H := by
    intro w st' v y h ey Sy hy r
    subst hy
    cases m with
    | obj => exact absurd rfl hm
    | keep => exact h v y ey Sy rfl r
    | pure =>
      simp only [exitOk] at h
      split at h
      · rename_i ht
        have hl : x.st.length ≤ y.st.length := by
          have := congrArg List.length ht
          rw [List.length_take] at this
          omega
        have ho : okOld x.st y.st := fun n hn => .inl (by rw [← ht, List.getElem?_take, if_pos hn])
        obtain ⟨eb, Sb⟩ := back_ok ey Sx Sy hl (old_below Sx ho)
        cases hf : frzW x.st.length y.st w with
        | none => rw [hf] at h; exact h.elim
        | some w' =>
          rw [hf] at h
          exact h v (back x y) eb Sb ht (back_frz ey Sx Sy hl r hf)
      · exact h.elim
    | eff =>
      simp only [exitOk] at h
      split at h
      · rename_i ht
        obtain ⟨hl, ho⟩ := ht
        obtain ⟨eb, Sb⟩ := back_ok ey Sx Sy hl (old_below Sx ho)
        cases hf : frzW x.st.length y.st w with
        | none => rw [hf] at h; exact h.elim
        | some w' =>
          rw [hf] at h
          exact h v (back x y) eb Sb rfl (back_frz ey Sx Sy hl r hf)
      · exact h.elim
  cases o with
  | nx ρ st' => exact fun y σ' ey Sy hy _ => val noneW st' .non y h ey Sy hy (.d .none)
  | rt w st' => exact fun v y ey Sy hy r => val w st' v y h ey Sy hy r
  | bk ρ st' => exact h.elim
  | ct ρ st' => exact h.elim
  | bad => exact h.elim
  | exn e st' =>
    intro cls d y σ' ey Sy hy r
    have h : rpost Y (wE E) σ x (relW Y) Q (exitExn m x.st e st') := h
    subst hy
    have go : rpost Y (wE E) σ x (relW Y) Q (if x.st.length ≤ y.st.length ∧ okOld x.st y.st then (match frzF x.st.length y.st e.fs with
      | some fs => .exn ⟨e.c, fs⟩ (y.st.take x.st.length)
      | none => .bad) else .bad) → E cls d y.H := by
      intro h
      split at h
      · rename_i ht
        obtain ⟨hl, ho⟩ := ht
        obtain ⟨eb, Sb⟩ := back_ok ey Sx Sy hl (old_below Sx ho)
        cases hf : frzF x.st.length y.st e.fs with
        | none => rw [hf] at h; exact h.elim
        | some fs =>
          rw [hf] at h
          obtain ⟨r1, dx, vs, r2, r3, r4, r5⟩ := r
          exact h cls d (back x y) eb Sb rfl ⟨r1, dx, vs, r2, r3, back_nl ey hl r4, back_frzF ey Sx Sy hl r5 hf⟩
      · exact h.elim
    cases m with
    | obj => exact absurd rfl hm
    | keep => exact h cls d y ey Sy rfl r
    | pure => exact go h
    | eff => exact go h
end
end FM
end

section
/-! FM15: promises of defs, calls, raise. -/
set_option Elab.async false
set_option linter.all false
set_option maxRecDepth 100000
set_option autoImplicit false
set_option maxHeartbeats 1000000
namespace FM
open PySem PySem.Spec PyProof.Rows L2
/-- a def's promise where nothing is guarded -/
structure FnG (P : Program) (w : World) (K : PySem.W.Frag) (mg : Str → Option Value) (base : Heap) (k : Nat) (f : Addr) (fd : FuncData) (ps : List Str) (sp : Sp) : Prop where
  len : ∀ vs H Q E, sp vs H Q E → vs.length = ps.length
  run : ∀ (A : Around) (outer : List PySem.Env) (s : Shared) (H : Hp) (args : Args) (us : List Value) (vs : List V) (Q : VK) (E : XK), Room k A → A.guards = some [] → Env0 P w K mg base A outer s H →
    BindsTo s fd args (ps.zip us) → Vals vs us → sp vs H Q E → codeAny (model P w) A (.call (.ref f) args) (CR (L2.CX P w) outer P w H s Q E) s
theorem FnG.mono {P : Program} {w : World} {K : PySem.W.Frag} {mg : Str → Option Value} {base : Heap} {j k : Nat} {f : Addr} {fd : FuncData} {ps : List Str} {sp : Sp} (F : FnG P w K mg base j f fd ps sp) (h : j ≤ k) : FnG P w K mg base k f fd ps sp :=
  ⟨F.len, fun A outer s H args us vs Q E hr => F.run A outer s H args us vs Q E (hr.mono h)⟩
theorem guards_deeper {A : Around} {env : PySem.Env} (h : A.guards = some []) : (A.deeper env).guards = some [] := h
/-- a def by its body -/
theorem fnG_of {P : Program} {w : World} {K : PySem.W.Frag} {mg : Str → Option Value} {base : Heap} {x qual : Str} {pr : Arguments} {body : List Stmt} {scope : Scope} {dvs : List V} {kws : List (Str × V)} {f : Addr} {fd : FuncData} {k : Nat} {N ps : List Str} {sp : Sp}
    (F : FunD K x qual pr body scope dvs kws f fd) (S : FnScope N ps scope) (len : ∀ vs H Q E, sp vs H Q E → vs.length = ps.length)
    (hbody : ∀ (cdv : Value) (A : Around) (outer : List PySem.Env) (s : Shared) (H : Hp) (vs : List V) (Q : VK) (E : XK), Room k (A.deeper (envOfC qual scope s.heap.objs.size f cdv)) → A.guards = some [] → fd.code = cdv → sp vs H Q E →
      ∃ t, PSs (cxOf (L2.CX P w) P w K mg base N qual scope f cdv A outer s H E) body t ∧ t { nx := fun _ H' => Q .non H', rt := Q } (start N vs) H) : FnG P w K mg base (k + 1) f fd ps sp := by
  obtain ⟨oc, od, dV, kV, doc, pm, an, cdv, ct, osl, rfl, lk, hcd, _, _⟩ := F.ex
  exact ⟨len, fun A outer s H args us vs Q E hr hg e0 hb r h => LamX.run_ofS lk hcd S hr e0 hb r (len _ _ _ _ h) fun hr' => hbody cdv A outer s H vs Q E hr' hg rfl h⟩
section
variable {X : Cx} {k : Nat} {f C : Addr} {fd : FuncData} {ps : List Str} {sp : Sp} {E : XK} {n : Str} {p pos : Pos} {e : Expr} {es : List Expr} {t : TA}
theorem run_g {pins : List (Addr × Obj)} {σ : L2.St} {H : Hp} {s : Shared} {Q : VK} {us : List Value} {vs : List V} (F : FnG X.prog X.w X.K X.mg X.base k f fd ps sp) (hr : Room k X.A) (hgd : X.A.guards = some []) (hb : Binds X.K fd ps []) (tk : Takes X (wE E))
    (I : Inv X pins σ H s) (r : Vals vs us) (h : sp vs H Q E) : wpAny (model X.prog X.w) X.A (call (.ref f) us) (EP X pins σ Q) X.xe s := by
  have hl : us.length = ps.length := by
    rw [← r.length]
    exact F.len _ _ _ _ h
  have hb2 : BindsTo s fd ⟨us, []⟩ (ps.zip us) := by
    have q := hb s us I.kIn (by rw [List.append_nil]; exact hl)
    rwa [List.append_nil] at q
  have hx := passes_call (E := E) tk fun _ _ _ _ z => z
  refine wpAny_call (codeAny_mono (F.run X.A X.stack s H ⟨us, []⟩ us vs Q E hr hgd I.env0 hb2 r h) fun res s' hq => ?_)
  cases res with
  | error er => exact hx pins σ H s er s' I hq
  | ok fl =>
    cases fl with
    | ret u => exact I.after hq
    | next => exact hq.elim
    | brk => exact hq.elim
    | cont => exact hq.elim
theorem pe_callg (F : FnG X.prog X.w X.K X.mg X.base k f fd ps sp) (hr : Room k X.A) (hgd : X.A.guards = some []) (hb : Binds X.K fd ps []) (tk : Takes X (wE E)) (hg : Gl X n) (hm : X.mg n = some (.ref f)) (hk : PySem.W.keepIn X.K (.ref f) = true) (ha : PA X (e :: es) t)
    (hdb : (n == ("__debug__" : Str)) = false) (he : starEach (e :: es) X.env = (false, eval e X.env) :: starEach es X.env) (hpl : (backTo pos (starEach es X.env)).any (·.1) = false) : PE X (.Call (.Name n p) (e :: es) [] pos) (fun σ H Q => t σ H fun vs H1 => sp vs H1 Q E) := by
  refine ⟨fun pins s σ H Q I h => wpAny_Call_Name_kw (ld_glob I hg hm ?_ hdb)⟩
  exact PySem.W.callWith_K (h₀ := X.base) I.ok.mod.kin hk (thn (ha.run pos pins s σ H _ I h) fun us s1 ⟨vs, H1, I1, r, q⟩ => ⟨I1.kIn, run_g F hr hgd hb tk I1 r q⟩) he hpl
theorem pe_callg0 (F : FnG X.prog X.w X.K X.mg X.base k f fd ps sp) (hr : Room k X.A) (hgd : X.A.guards = some []) (hb : Binds X.K fd ps []) (tk : Takes X (wE E)) (hg : Gl X n) (hm : X.mg n = some (.ref f)) (hk : PySem.W.keepIn X.K (.ref f) = true)
    (hdb : (n == ("__debug__" : Str)) = false) : PE X (.Call (.Name n p) [] [] pos) (fun σ H Q => sp [] H Q E) := by
  refine ⟨fun pins s σ H Q I h => wpAny_Call_Name_kw (ld_glob I hg hm ?_ hdb)⟩
  exact PySem.W.callWith_K0 I.kIn hk (run_g (us := []) F hr hgd hb tk I .nil h)
end
/-- what the evaluator promises of a def -/
def spF (Y : Rt) (Φ : Call) (f : String) (m : Nat) : Sp := fun vs H Q E => vs.length = m ∧ ∃ x ws, x.H = H ∧ SR Y x ∧ WVs Y x vs ws ∧ rpost Y (wE E) [] x (relW Y) Q (Φ f ws x.st)
/-- what is known of a def f with m parameters that stands in the module under the name n -/
structure FnK (G : Gd) (X : Cx) (Φ : Call) (k : Nat) (n : Str) (f : String) (m : Nat) : Prop where
  mg : X.mg n = some (.ref (G.fa f))
  kp : PySem.W.keepIn X.K (.ref (G.fa f)) = true
  ok : ∃ fd ps, ps.length = m ∧ FnG X.prog X.w X.K X.mg X.base k (G.fa f) fd ps (spF (yof G X) Φ f m) ∧ Binds X.K fd ps []
  ar : ∀ ws st, ws.length ≠ m → Φ f ws st = .bad
section
variable {G : Gd} {X : Cx} {E : XK} {P : Prog} {R : Fun1} {Φ : Call} {pos : Pos} {e : Expr} {es : List Expr} {as : Es} {n : Str} {p : Pos} {k m : Nat} {f : String}
theorem rpost_wE {Y : Rt} {σ σ' : L2.St} {x : Wd} {α β : Type} {rel : Wd → β → α → Prop} {Q : β → Hp → Prop} {r : Res α} (h : rpost Y (wE E) σ x rel Q r) : rpost Y (wE E) σ' x rel Q r := by
  cases r with
  | ok a st' => exact h
  | exn a st' => exact h
  | bad => exact h
/-- a call by name -/
theorem fe_call {e1 : Expr} {a1 : FM.E} (F : FnK G X Φ k n f m) (hr : Room k X.A) (hgd : X.A.guards = some []) (tk : Takes X (wE E)) (ha : FL G X (wE E) P R Φ (e1 :: es) (.cons a1 as)) (hg : Gl X n := by rfl) (hdb : (n == ("__debug__" : Str)) = false := by decide)
    (he : starEach (e1 :: es) X.env = (false, eval e1 X.env) :: starEach es X.env := by rfl) (hpl : (backTo pos (starEach es X.env)).any (·.1) = false := by rfl) : FV G X (wE E) P R Φ (.Call (.Name n p) (e1 :: es) [] pos) (.call f (.cons a1 as)) := by
  obtain ⟨fd, ps, hps, FG, hb⟩ := F.ok
  refine (pe_callg FG hr hgd hb tk hg F.mg F.kp ha hdb he hpl).imp fun σ H Q ⟨ρ, x, hx, S, En, h⟩ => ?_
  rw [evE] at h
  refine ⟨ρ, x, hx, S, En, rpost_bind h fun vs y ws e1 Sy r h2 => ?_⟩
  by_cases hl : ws.length = m
  · exact ⟨by rw [r.length, hl], y, ws, rfl, Sy, r, rpost_wE h2⟩
  · rw [F.ar ws y.st hl] at h2
    exact h2.elim
theorem fe_call0 (F : FnK G X Φ k n f m) (hr : Room k X.A) (hgd : X.A.guards = some []) (tk : Takes X (wE E)) (hg : Gl X n := by rfl) (hdb : (n == ("__debug__" : Str)) = false := by decide) : FV G X (wE E) P R Φ (.Call (.Name n p) [] [] pos) (.call f .nil) := by
  obtain ⟨fd, ps, hps, FG, hb⟩ := F.ok
  refine (pe_callg0 FG hr hgd hb tk hg F.mg F.kp hdb).imp fun σ H Q ⟨ρ, x, hx, S, En, h⟩ => ?_
  rw [evE, evEs] at h
  have h : rpost (yof G X) (wE E) σ x (relW (yof G X)) Q (Φ f [] x.st) := h
  subst hx
  by_cases hl : ([] : List W).length = m
  · exact ⟨hl, x, [], rfl, S, .nil, rpost_wE h⟩
  · rw [F.ar [] x.st hl] at h
    exact h.elim
end
/-! ### a def's promise by the evaluator -/
section
variable {G : Gd} {P : Program} {w : World} {K : PySem.W.Frag} {mg : Str → Option Value} {base : Heap}
theorem env_start {Y : Rt} {x : Wd} {vs : List V} {ws : List W} {N : List Str} {fn : Fn} (r : WVs Y x vs ws) (hN : N.length = fn.slots) (hl : ws.length = fn.params) : EnvOk Y x (entry fn ws) (L2.start N vs) := by
  have e := r.length
  refine ⟨?_, fun i u hi => ?_⟩
  · simp only [entry, L2.start, List.length_append, List.length_map, List.length_replicate]
    omega
  · unfold entry at hi
    unfold L2.start
    by_cases hlt : i < ws.length
    · rw [List.getElem?_append_left (by simpa using hlt)] at hi
      rw [List.getElem?_append_left (by simp; omega)]
      simp only [List.getElem?_map, Option.map_eq_some_iff] at hi ⊢
      obtain ⟨u', h1, h2⟩ := hi
      cases h2
      obtain ⟨v, h3, h4⟩ := r.get h1
      exact ⟨v, ⟨v, h3, rfl⟩, h4⟩
    · rw [List.getElem?_append_right (by simpa using hlt), List.getElem?_replicate] at hi
      split at hi <;> cases hi
/-- fn's promise at the next level -/
theorem fn_ok {EP : Prog} {R : Fun1} {Φ : Call} {x qual : Str} {pr : Arguments} {body : List Stmt} {scope : Scope} {dvs : List V} {kws : List (Str × V)} {f : String} {fd : FuncData} {k : Nat} {N ps : List Str} {fn : Fn}
    (F : FunD K x qual pr body scope dvs kws (G.fa f) fd) (S : FnScope N ps scope) (hN : N.length = fn.slots) (hp : ps.length = fn.params) (hm : fn.mode ≠ .obj)
    (hbody : ∀ (cdv : Value) (A : Around) (outer : List PySem.Env) (s : Shared) (H : Hp) (E : XK), Room k (A.deeper (envOfC qual scope s.heap.objs.size (G.fa f) cdv)) → A.guards = some [] → fd.code = cdv →
      FSs G (cxOf (L2.CX P w) P w K mg base N qual scope (G.fa f) cdv A outer s H E) (wE E) EP R Φ body fn.body) : FnG P w K mg base (k + 1) (G.fa f) fd ps (spF ⟨P, w, K, G.fa, G.ca, G.tabs⟩ (fun g => if g = f then runFn EP R Φ fn else fun _ _ => .bad) f fn.params) := by
  refine fnG_of F S (fun vs H Q E h => h.1.trans hp.symm) fun cdv A outer s H vs Q E hr hg hcd ⟨hl, x, ws, hx, Sx, r, h⟩ => ⟨_, hbody cdv A outer s H E hr hg hcd, ?_⟩
  simp only [if_true] at h
  have hwl : ws.length = fn.params := by rw [← r.length]; exact hl
  unfold runFn at h
  rw [if_pos hwl] at h
  exact ⟨entry fn ws, x, hx, Sx, env_start r hN hwl, exit_ok Sx hm h⟩
theorem spF_congr {Y : Rt} {Φ Φ' : Call} {f : String} {m : Nat} (h : Φ f = Φ' f) : spF Y Φ f m = spF Y Φ' f m := by
  unfold spF
  rw [h]
end
end FM
end

section
/-! FM16: try with several clauses that name what they catch; exceptions made. -/
set_option Elab.async false
set_option linter.all false
set_option maxRecDepth 100000
set_option autoImplicit false
set_option maxHeartbeats 1000000
namespace FM
open PySem PySem.Spec PyProof.Rows L2
abbrev TSu := Addr → Value → Option Addr → TS
/-- the ends of a suite whose name in slot i goes -/
def goneD (D : Ends) (i : Nat) : Ends := ⟨fun σ H => D.nx (σ.set i none) H, D.rt, fun σ H => D.bk (σ.set i none) H, fun σ H => D.ct (σ.set i none) H⟩
def wMA (K : PySem.W.Frag) (Wo : WX) (D : Ends) : List (Value × Nat × TSu) → WX
  | [] => Wo
  | (c, i, ts) :: r => fun cls d σ H => ∃ b, PySem.W.exmOne K cls c = some b ∧ (b = true → ∀ a, H a = none → ts a cls d (goneD D i) (σ.set i (some (.ref a))) H) ∧ (b = false → wMA K Wo D r cls d σ H)
inductive HdA (X : Cx) : List ExceptHandler → List (Value × Nat × TSu) → Prop
  | nil : HdA X [] []
  | cons {x nm : Str} {c : Value} {i : Nat} {ts : TSu} {b : Stmt} {bs : List Stmt} {q1 q2 : Pos} {hs : List ExceptHandler} {l : List (Value × Nat × TSu)} (hi : X.N[i]? = some nm) (hl : X.env.kindOf nm = some .local) (hc : Names X x c)
      (hb : ∀ (a : Addr) (oe : Obj) (cls : Value) (d : Option Addr) (pn : List (Addr × Obj)), Zc cls d oe → (∃ vs, oe.data = .fields vs) → PSs (X.suite a ((a, oe) :: pn)) (b :: bs) (ts a cls d)) (r : HdA X hs l) :
      HdA X (.ExceptHandler (some (.Name x q1)) (some nm) (b :: bs) q2 :: hs) ((c, i, ts) :: l)
section
variable {X : Cx} {body : List Stmt} {h0 : ExceptHandler} {hs : List ExceptHandler} {l : List (Value × Nat × TSu)} {pos : Pos} {tb : WX → TS} {Wo : WX}
/-- the clauses in a row, an exception having landed -/
theorem clauses_ok {pins : List (Addr × Obj)} {σ : L2.St} {H : Hp} {sI s : Shared} {D : Ends} {a : Addr} {B h3 : Heap} {cls : Value} {d : Option Addr} (hk : X.stack = X.env :: X.outer) (hf : X.env.frame = some X.env.locals) (hN : X.N.Nodup) (tk : Takes X Wo) (ok : X.Ok)
    (J : Inv X pins σ H sI) (nb : ∀ b o, sI.heap.get? b = some o → b ∉ frs X.stack → B.get? b = some o) (up : sI.heap.UpToSlots h3) (fl : HandSPX.FlyingZ B (X.env :: X.outer) a (Zc cls d) h3) (na : H a = none) (hos : s.os = sI.os) (hag : AllBare s.gens)
    (nL : a ≠ X.env.locals) (nF : a ∉ X.fs) (K3 : Inv X pins σ H { s with heap := h3 }) : ∀ {hs : List ExceptHandler} {l : List (Value × Nat × TSu)}, HdA X hs l → wMA X.K Wo D l cls d σ H → wpAny (model X.prog X.w) X.A (handleBy (.ref a) X.env hs) (SP X pins D) X.xe { s with heap := h3 } := by
  intro hs l hh
  obtain ⟨o3, v3, he3, hz3, hd3⟩ := fl.there
  have S3 := K3.suite he3 hd3 na nL nF
  induction hh with
  | nil =>
    intro w
    refine wpAny_handleBy_nil ?_
    obtain ⟨k1, k2, k3, oe, vs, T, oT, ts', he, hz, hd, h1, hr⟩ := id fl
    have fin : wpAny (model X.prog X.w) X.A (setFlight (.ref a) X.env.frame) (fun _ s4 => wpAny (model X.prog X.w) X.A (throw (.ref a) : Sem Flow) (SP X pins D) X.xe s4) X.xe { s with heap := h3 } := by
      rw [hf]
      exact HandSPX.setFlight_upZ fl fun h4 hh4 up4 => wpAny_throw (tk _ _ ⟨a, B, sI, pins, σ, H, cls, d, rfl, J, nb, up.trans up4, .inr (.inr (by rw [hk]; exact hh4)), na, hos, hag, w⟩)
    unfold PySem.passOn
    refine wpAny_bind (wpAny_field he hd h1 ?_)
    rw [if_neg (show ¬ ((Value.ref T == Value.none) = true) from by simp)]
    first | exact wpAny_bind (wpAny_pure (wpAny_bind fin)) | exact wpAny_bind fin
  | @cons x nm c i ts b bs q1 q2 hs2 l2 hi hl hc hb r ih =>
    intro ⟨b', hb1, hyes, hno⟩
    refine wpAny_handleBy_cons (codeAny_handlers_test ?_) (by intro q; cases q)
    have lt : PySem.W.Looks (model X.prog X.w) h3 (typeOf (.ref a)) cls := fun A Q E s k q => wpAny_typeOf_ref (k _ _ he3) (by rw [hz3.1]; exact q)
    have lm := PySem.W.exm_one (M := model X.prog X.w) K3.kIn lt hb1
    have test : ∀ {Q : Value → Shared → Prop} {E : Value → Shared → Prop}, Q c { s with heap := h3 } → wpAny (model X.prog X.w) (X.A.mark (some (.ref a))) (eval (.Name x q1) X.env) Q E { s with heap := h3 } := by
      intro Q E q
      obtain ⟨hg, hdb, hm | ⟨hm, hv, hnn⟩⟩ := hc
      · exact ld_glob (X := X.suite a ((a, o3) :: (X.pn ++ pins))) S3 hg hm q hdb
      · exact ld_blt (X := X.suite a ((a, o3) :: (X.pn ++ pins))) S3 hg hm hv q hnn hdb
    refine test (lm.here ?_)
    cases b' with
    | false => exact ih (hno rfl)
    | true =>
      refine codeAny_handlers_suite_as (HandSPX.lands_againZ fl fun h4 fl4 up4 => ?_)
      have J4 : Inv X pins σ H { s with heap := h4 } := J.landed nb fl4.1 (up.trans up4) hos hag
      obtain ⟨o4, v4, he4, hz4, hd4⟩ := fl4.there
      have S4 := J4.suite he4 hd4 na nL nF
      refine store_ok (X := X.suite a ((a, o4) :: (X.pn ++ pins))) (v := .ref a) S4 hN hi (.inl hl) rfl (fun s5 S5 => ?_) (.inr hl)
      refine wpAny_mono ((hb a o4 cls d (X.pn ++ pins) hz4 ⟨_, hd4⟩).run [] s5 _ H _ S5 (hyes rfl a na)) (fun f s6 hsp => ?_) (fun _ _ z => z.elim)
      have gone : ∀ {τ : L2.St} {H6 : Hp} {Q : Shared → Prop}, Inv (X.suite a ((a, o4) :: (X.pn ++ pins))) [] τ H6 s6 → (∀ s7, Inv X pins (τ.set i none) H6 s7 → Q s7) →
          wpAny (model X.prog X.w) X.A (do bindName X.env nm .none; unbindBehindTheSuite X.env nm q2) (fun _ s7 => Q s7) X.xe s6 := fun {τ H6 Q} S6 hq => gone_ok (S6.unsuite ok) hN hi hl hq
      cases f with
      | ret u => obtain ⟨v6, τ, H6, S6, r6, q6⟩ := hsp; exact gone S6 fun s7 J7 => ⟨_, _, _, J7, r6, q6⟩
      | next => obtain ⟨τ, H6, S6, q6⟩ := hsp; exact gone S6 fun s7 J7 => ⟨_, _, J7, q6⟩
      | brk => obtain ⟨τ, H6, S6, q6⟩ := hsp; exact gone S6 fun s7 J7 => ⟨_, _, J7, q6⟩
      | cont => obtain ⟨τ, H6, S6, q6⟩ := hsp; exact gone S6 fun s7 J7 => ⟨_, _, J7, q6⟩
theorem ps_try_ma (hk : X.stack = X.env :: X.outer) (hf : X.env.frame = some X.env.locals) (hN : X.N.Nodup) (tk : Takes X Wo)
    (hb : ∀ (W : WX) (pn : List (Addr × Obj)) (xe : Value → Shared → Prop), Takes (X.tr pn xe) W → PassesOwn (model X.prog X.w) X.A X.env xe → PSs (X.tr pn xe) body (tb W)) (hh : HdA X (h0 :: hs) l) :
    PS X (.Try body (h0 :: hs) [] [] pos) (fun D σ H => tb (wMA X.K Wo D l) D σ H) := by
  refine ⟨fun pins s σ H D I h => ?_⟩
  have ok := I.ok
  have hfr : X.A.frames = some (X.env :: X.outer) := by rw [ok.frames, hk]
  refine wpAny_Try_except (wpAny_mono ((hb (wMA X.K Wo D l) (X.pn ++ pins) (fun e s₁ => wpAny (model X.prog X.w) X.A (noteFrame e X.env) (fun _ s₂ => wpAny (model X.prog X.w) X.A (setFlight e none)
    (fun _ s₃ => wpAny (model X.prog X.w) X.A (handleBy e X.env (h0 :: hs)) (SP X pins D) X.xe s₃) X.xe s₂) X.xe s₁) (fun u s' xx => ?_) PassesOwn.looking).run [] s σ H D (I.toTry _) h) (fun f s1 hsp => ?_) (fun e s1 he => he))
  · obtain ⟨a, B, sI, pins', τ, H', cls, d, rfl, J', nb, up, sky, na, hos, hag, w⟩ := xx
    have J : Inv X pins τ H' sI := J'.ofTry ok
    rw [hk] at sky
    show wpAny (model X.prog X.w) X.A (noteFrame (.ref a) X.env) _ _ _
    refine Sky.land Zc.steady hfr hf sky fun h3 fl3 up3 => ?_
    have K3 : Inv X pins τ H' { s' with heap := h3 } := J.landed nb fl3.1 (up.trans up3) hos hag
    obtain ⟨o3, v3, he3, hz3, hd3⟩ := fl3.there
    have nfr : a ∉ frs (X.env :: X.outer) := fun hm => by
      obtain ⟨_, o', e', hnf⟩ := fl3.2.2.1.mem hm
      rw [he3] at e'
      cases e'
      exact hnf _ hd3
    refine clauses_ok hk hf hN tk ok J nb (up.trans up3) fl3 na hos hag (fun z => nfr (List.mem_filterMap.mpr ⟨X.env, List.mem_cons_self, by rw [hf, z]⟩)) (fun hm => ?_) K3 hh w
    obtain ⟨e, he, q⟩ := List.mem_filterMap.mp hm
    exact nfr (List.mem_filterMap.mpr ⟨e, List.mem_cons_of_mem _ he, q⟩)
  · cases f with
    | ret u => obtain ⟨v, τ, H', J', r, q⟩ := hsp; exact ⟨v, τ, H', J'.ofTry ok, r, q⟩
    | next => obtain ⟨τ, H', J', q⟩ := hsp; exact wpAny_execs_nil ⟨τ, H', J'.ofTry ok, q⟩
    | brk => obtain ⟨τ, H', J', q⟩ := hsp; exact ⟨τ, H', J'.ofTry ok, q⟩
    | cont => obtain ⟨τ, H', J', q⟩ := hsp; exact ⟨τ, H', J'.ofTry ok, q⟩
end
/-! ### exceptions are made -/
/-- __init__ of an exception that keeps its one argument -/
def spI (K : PySem.W.Frag) : Sp := fun vs H Q E => ∃ (a C : Addr) (v : V), vs = [.ref a, v] ∧ OexC K C ∧ PySem.W.findIn K (.ref C) "value" = some none ∧ H a = some (exo a C none) ∧ ∀ dx, H dx = none → dx ≠ a → Q .non (upd (upd H dx (exd dx [("value", v)])) a (exo a C (some dx)))
/-- the class c, raised with a value, under the name n -/
structure ExK (G : Gd) (X : Cx) (n : Str) (c : String) : Prop where
  T : OexC X.K (G.ca c)
  no : PySem.W.findIn X.K (.ref (G.ca c)) "value" = some none
  mg : X.mg n = some (.ref (G.ca c))
  init : ∃ fI fd ps, PySem.W.findIn X.K (.ref (G.ca c)) "__init__" = some (some (.ref fI)) ∧ PySem.W.typeIn X.K (.ref fI) = some (.type "function") ∧ FnOk X.prog X.w X.K X.mg X.base CX0 1 fI fd ps (spI X.K) ∧ Binds X.K fd ps []
section
variable {G : Gd} {X : Cx} {E : XK} {P : Prog} {R : Fun1} {Φ : Call} {pos cpos : Pos} {e : Expr} {n : Str} {p : Pos} {c : String} {a : FM.E}
theorem fs_raise (K : ExK G X n c) (hP : P.exc c = some 1) (hr : Room 2 X.A) (hc : X.calm = true) (tk : Takes X (wE E)) (ha : FV G X (wE E) P R Φ e a) (hg : Gl X n := by rfl) (hdb : (n == ("__debug__" : Str)) = false := by decide) (hs : starEach [e] X.env = [(false, eval e X.env)] := by rfl) :
    FS G X (wE E) P R Φ (.Raise (some (.Call (.Name n p) [e] [] cpos)) none pos) (.raise c (.cons a .nil)) := by
  obtain ⟨fI, fd, ps, h1, h2, F, hb⟩ := K.init
  refine (ps_raise (pos := pos) hc tk (pmk_oex (p := p) (pos := cpos) K.T h1 h2 F hr hb .nil pass0 hg K.mg (pa_cons ha pa_nil hs) hdb hs rfl)).imp fun D σ H ⟨ρ, x, hx, S, En, h⟩ => ?_
  rw [evS, evEs] at h
  refine ⟨ρ, x, hx, S, En, ?_⟩
  cases ho : evE P R Φ a ρ x.st with
  | exn ex st' => rw [ho] at h; exact fun cl d y ey Sy hy r => h cl d y σ ey Sy hy r
  | bad => rw [ho] at h; exact h
  | ok w st' =>
    rw [ho] at h
    intro v y ey Sy hy r
    simp only [evEs, Res.bind_ok, Res.out_ok] at h
    have hx1 : excFs P c [w] = some [("value", w)] := by simp [excFs, hP]
    rw [hx1] at h
    refine ⟨by show 1 ≤ 1000; decide, fun b hb0 => ⟨b, G.ca c, v, rfl, K.T, K.no, upd_same, fun dx hdx hne => ?_⟩⟩
    have hdx0 : y.H dx = none := by rwa [upd_ne hne] at hdx
    refine ⟨rfl, dx, [("value", v)], upd_same, by rw [upd_ne hne]; exact upd_same, hdx0, ?_⟩
    have hH : upd (del (upd (upd (upd y.H b (exo b (G.ca c) none)) dx (exd dx [("value", v)])) b (exo b (G.ca c) (some dx))) b) dx (.xd [("value", v)]) = upd y.H dx (.xd [("value", v)]) := by
      funext q
      by_cases q1 : q = dx
      · rw [q1, upd_same, upd_same]
      · rw [upd_ne q1, upd_ne q1]
        by_cases q2 : q = b
        · rw [q2, del_same, hb0]
        · rw [del_ne q2, upd_ne q2, upd_ne q1, upd_ne q2]
    rw [hH]
    obtain ⟨e2, S2, n2⟩ := Ext.new (o := .xd [("value", v)]) Sy hdx0 (fun _ z => by cases z)
    exact h (.ref (G.ca c)) (some dx) _ σ (ey.trans e2) S2 hy ⟨rfl, dx, _, rfl, upd_same, n2, .cons (f := "value") (e2.wv r) .nil⟩
end
end FM
end

section
/-! FM17: a call that may be refused. -/
set_option Elab.async false
set_option linter.all false
set_option maxRecDepth 100000
set_option autoImplicit false
set_option maxHeartbeats 1000000
namespace FM
open PySem PySem.Spec PyProof.Rows L2
theorem takes_len {X : Cx} {W : WX} (tk : Takes X W) : Takes X (fun c d σ H => σ.length = X.N.length → W c d σ H) := fun u s' ⟨a, B, sI, pins, σ, H, cls, d, e, I, nb, up, sky, na, os, ag, w⟩ =>
  tk u s' ⟨a, B, sI, pins, σ, H, cls, d, e, I, nb, up, sky, na, os, ag, w I.len⟩
section
variable {X : Cx} {pins : List (Addr × Obj)} {σ : L2.St} {H : Hp} {s : Shared}
/-- x(), where x holds the lambda -/
theorem act_g {Ng : List Str} {qg : Str} {sg : Scope} {g f c' : Addr} {cdg pm ctv : Value} {params : Arguments} {body : Expr} {scope : Scope} {k i : Nat} {a : Str} {pn : List (Addr × Obj)} {xe : Value → Shared → Prop} {W : WX} {E : XK} {tb : TE} {p1 p2 : Pos}
    (I : Inv X pins σ H s) (L : LamX.LamS X.env.scope scope) (hf : s.heap.get? f = some (PySem.W.kla_obj "<lambda>" (X.env.qual ++ "<lambda>") params body scope (cloFrom X.env.cells scope.names []) pm c' ctv)) (hfn : H f = none) (hfr : f ∉ frs X.stack)
    (hbind : bindArgs (PySem.W.kla_fn "<lambda>" (X.env.qual ++ "<lambda>") params body scope (cloFrom X.env.cells scope.names []) pm (.ref c') ctv) ⟨[], []⟩ = pure [])
    (tk : Takes ((cxOf CX0 X.prog X.w X.K X.mg X.base Ng qg sg g cdg X.A X.stack s H E0).tr pn xe) W) (hW : ∀ cls d σ' H', E cls d H' → σ'.length = Ng.length → W cls d σ' H') (hr : Room (k + 1) (X.A.deeper (envOfC qg sg s.heap.objs.size g cdg))) (hgd : X.A.guards = some [])
    (hbody : ∀ (A : Around) (outer : List PySem.Env) (s : Shared) (H : Hp), Room k (A.deeper (LamX.lamEnv X scope s.heap.objs.size f c')) → A.guards = some [] → PE (LamX.lamCx X A outer s H E scope f c') body tb)
    (hN : Ng[i]? = some a) (hv : Vis sg a) (hd : (a == ("__debug__" : Str)) = false) (hcd : (a == ("__classdict__" : Str)) = false) :
    PE ((cxOf CX0 X.prog X.w X.K X.mg X.base Ng qg sg g cdg X.A X.stack s H E0).tr pn xe) (.Call (.Name a p1) [] [] p2) (fun τ HZ Q => τ[i]? = some (some (.ref f)) ∧ HZ c' = some (LamX.CodeO c' (X.env.qual ++ "<lambda>")) ∧ tb σ HZ Q) := by
  refine ⟨fun pz sz τ HZ Q IZ ⟨hs, hc, ht⟩ => wpAny_Call_Name_kw (thn ((pe_var (pos := p1) (i := i) hN hv hd hcd).run pz sz τ HZ (fun v H1 => v = .ref f ∧ H1 = HZ) IZ ⟨.ref f, hs, rfl, rfl⟩) fun u s1 ⟨v, H1, I1, r1, ev, eH⟩ => ?_)⟩
  subst ev eH
  obtain rfl : u = Value.ref f := r1
  have at1 := I1.base.keep f _ hf hfn hfr (fun z => nomatch (show f ∈ ([] : List Addr) from z))
  refine PySem.W.callWith_F0 ⟨_, _, _, _, at1⟩ ?_
  have un : Un (frs X.stack) [] H H1 s.heap s1.heap := I1.base
  obtain ⟨⟨oc, vs, t, hoc, hdc, hvc⟩, _, _⟩ := I1.hok c' _ hc
  have hx : Passes (L2.CX X.prog X.w) ((cxOf CX0 X.prog X.w X.K X.mg X.base Ng qg sg g cdg X.A X.stack s H E0).tr pn xe) E := passes_call (takes_len tk) fun cls d σ' H' h => fun hl => hW cls d σ' H' h hl
  have rc : codeAny (model X.prog X.w) (X.A.deeper (envOfC qg sg s.heap.objs.size g cdg)) (.call (.ref f) ⟨[], []⟩) (CR (L2.CX X.prog X.w) (envOfC qg sg s.heap.objs.size g cdg :: X.stack) X.prog X.w H1 s1 Q E) s1 := by
    refine PySem.W.kla_callFunE hr.depth at1 rfl L.co L.gen rfl ⟨c', oc, vs, t, rfl, hoc, hdc, hvc⟩ ?_
    rw [hbind]
    refine wpAny_pure (wpAny_newFunctionEnv (fun y hy => (L.own y hy).2) (fun y hy => absurd hy (by simp)) (fun h₁ hns hsb => ⟨I1.nolimit.fresh _ hsb, ?_⟩) L.kind)
    have kp : ∀ b o, s1.heap.get? b = some o → h₁.get? b = some o := fun b o e => hsb.extBut b o (Nat.ne_of_lt (Heap.lt_size e)) (Heap.get?_push_of_some _ e)
    have J : Inv (LamX.lamCx X (X.A.deeper (envOfC qg sg s.heap.objs.size g cdg)) (envOfC qg sg s.heap.objs.size g cdg :: X.stack) s1 H1 E scope f c') [] σ H1 { s1 with heap := h₁, toks := s1.toks + ([] : List (Str × Value)).length } :=
      LamX.lam_start2 I L I1.env0 hr.hd un hns kp
    show codeAny _ _ (.expr body (LamX.lamEnv X scope s1.heap.objs.size f c')) _ _
    refine PySem.W.kla_codeExpr (wpAny_mono ((hbody _ _ s1 H1 (hr.deeper _) hgd).run [] _ _ H1 Q J ht) (fun v s' ⟨w', H', J', rv, q⟩ => ⟨w', H', J'.os, J'.bare, J'.base, J'.hok, rv, q⟩) fun e s' hq => hq)
  refine wpAny_call (codeAny_mono rc fun r s' hq => ?_)
  cases r with
  | error e => exact hx pz τ H1 s1 e s' I1 hq
  | ok fl =>
    cases fl with
    | ret u => exact I1.after hq
    | next => exact hq.elim
    | brk => exact hq.elim
    | cont => exact hq.elim
end
theorem ofString_inj {f g : String} (h : Str.ofString f = Str.ofString g) : f = g := by
  have e := congrArg TL.tl h
  rw [TL.tl_ofString, TL.tl_ofString] at e
  have inj : ∀ {l m : List Char}, l.map Char.toNat = m.map Char.toNat → l = m := by
    intro l
    induction l with
    | nil => intro m h; cases m <;> simp at h ⊢
    | cons a l ih =>
      intro m h
      cases m with
      | nil => simp at h
      | cons b m =>
        simp only [List.map_cons, List.cons.injEq] at h
        rw [ih h.2]
        have : a = b := Char.ext (UInt32.toNat_inj.mp h.1)
        rw [this]
  exact String.toList_inj.mp (inj e)
theorem wfs_look {Y : Rt} {x : Wd} {fs : List (Str × V)} {ws : List (String × W)} (r : WFs Y x fs ws) {f : String} {w : W} (h : ws.lookup f = some w) : ∃ v, fs.lookup (Str.ofString f) = some v ∧ WV Y x v w := by
  induction r with
  | nil => simp at h
  | @cons g v u fs ws r _ ih =>
    rw [List.lookup_cons] at h ⊢
    by_cases e : f = g
    · subst e
      simp only [beq_self_eq_true] at h ⊢
      cases h
      exact ⟨v, rfl, r⟩
    · have e2 : (f == g) = false := by simpa using e
      have e3 : (Str.ofString f == Str.ofString g) = false := by
        simp only [beq_eq_false_iff_ne, ne_eq]
        exact fun z => e (ofString_inj z)
      rw [e2] at h
      rw [e3]
      exact ih h
/-- what a clause 'except c as e: return (word, e.value)' does -/
def tsVal (C : Addr) (word : List Nat) : TSu := fun a cls d => tRet (tTup (tCons (tC (.str (T word))) (tCons (tXf a cls d C "value" (tVar 1)) tNil)))
def hdsOf (G : Gd) (hs : List (String × List Nat × List String)) : List (Value × Nat × TSu) := hs.map fun q => (.ref (G.ca q.1), 1, tsVal (G.ca q.1) q.2.1)
def tEnd : TS := tRet (tTup (tCons (tC (.str (T []))) (tCons (tC .non) tNil)))
/-- the clauses' text -/
inductive HdT (G : Gd) (mg : Str → Option Value) (K : PySem.W.Frag) (sg : Scope) (Ng : List Str) : List ExceptHandler → List (String × List Nat × List String) → Prop
  | nil : HdT G mg K sg Ng [] []
  | cons {x nm z : Str} {c : String} {word : List Nat} {j1 k1 : Nat} {q1 q2 p1 p2 p3 p4 p5 : Pos} {hs : List ExceptHandler} {l : List (String × List Nat × List String)} (hx : sg.names.lookup x = some .globalImplicit) (dx : (x == ("__debug__" : Str)) = false) (hm : mg x = some (.ref (G.ca c)))
      (hn : sg.names.lookup nm = some .local) (h1 : Ng[1]? = some nm) (d1 : (nm == ("__debug__" : Str)) = false) (d2 : (nm == ("__classdict__" : Str)) = false) (hz : z = T word) (xf : XfC K (G.ca c)) (no : PySem.W.findIn K (.ref (G.ca c)) "value" = some none) (r : HdT G mg K sg Ng hs l) :
      HdT G mg K sg Ng (.ExceptHandler (some (.Name x q1)) (some nm) [.Return (some (.Tuple [.Constant (.str z) j1 p1, .Attribute (.Name nm p2) "value" p3] k1 p4)) p5] q2 :: hs) ((c, word, ["value"]) :: l)
theorem HdT.ok {G : Gd} {Z : Cx} : ∀ {hs : List ExceptHandler} {l : List (String × List Nat × List String)}, HdT G Z.mg Z.K Z.env.scope Z.N hs l → HdA Z hs (hdsOf G l)
  | _, _, .nil => .nil
  | _, _, .cons hx dx hm hn h1 d1 d2 hz xf no r => .cons h1 hn ⟨hx, dx, .inl hm⟩ (fun a oe cls d pn h2 h3 => by
      subst hz
      exact pss_one (ps_ret (pe_tup (pa_cons pe_str (pa_cons (pe_xf xf no h2 h3 (pe_var h1 (.inl hn) d1 d2)) pa_nil))))) (HdT.ok r)
/-- the def that tries a call, by its text -/
structure RefK (G : Gd) (X : Cx) (n : Str) (hs : List (String × List Nat × List String)) where
  g : Addr
  pg : Arguments
  sg : Scope
  Ng : List Str
  a : Str
  h0 : ExceptHandler
  hr : List ExceptHandler
  p1 : Pos
  p2 : Pos
  p3 : Pos
  p4 : Pos
  p5 : Pos
  p6 : Pos
  p7 : Pos
  p8 : Pos
  j1 : Nat
  j2 : Nat
  k1 : Nat
  mg : X.mg n = some (.ref g)
  kp : PySem.W.keepIn X.K (.ref g) = true
  fn : ∃ (oc : Value) (od : Option Addr) (dV kV doc pm : Value) (an : Option Addr) (cdv ct : Value) (osl : Array (Option Value)),
    X.K.lookup g = some ⟨oc, od, .func (PySem.W.fnOf n n pg [.Try [.Expr (.Call (.Name a p1) [] [] p2) p3] (h0 :: hr) [] [] p4, .Return (some (.Tuple [.Constant (.str (T [])) j1 p5, .Constant .none j2 p6] k1 p7)) p8] sg dV kV doc pm an cdv ct), osl⟩ ∧
      PySem.W.codeIn X.K cdv n = true ∧ L2.Binds X.K (PySem.W.fnOf n n pg [.Try [.Expr (.Call (.Name a p1) [] [] p2) p3] (h0 :: hr) [] [] p4, .Return (some (.Tuple [.Constant (.str (T [])) j1 p5, .Constant .none j2 p6] k1 p7)) p8] sg dV kV doc pm an cdv ct) [a] []
  sc : FnScope Ng [a] sg
  n0 : Ng[0]? = some a
  n2 : 1 < Ng.length
  va : Vis sg a
  d1 : (a == ("__debug__" : Str)) = false
  d2 : (a == ("__classdict__" : Str)) = false
  tx : HdT G X.mg X.K sg Ng (h0 :: hr) hs
  exm : ∀ q ∈ hs, ∀ r ∈ hs, PySem.W.exmOne X.K (.ref (G.ca q.1)) (.ref (G.ca r.1)) = some (decide (q.1 = r.1))
section
variable {G : Gd} {X : Cx} {Wx : WX} {P : Prog} {R : Fun1} {Φ : Call}
theorem handled_in {hs : List (String × List Nat × List String)} {e : Exn} {st : Sto} {w : W} (h : handled hs e st = some w) : ∃ q ∈ hs, q.1 = e.c := by
  induction hs with
  | nil => cases h
  | cons q r ih =>
    obtain ⟨c, word, fs⟩ := q
    by_cases hc : c = e.c
    · exact ⟨_, List.mem_cons_self, hc⟩
    · simp only [handled, if_neg hc] at h
      obtain ⟨q, h1, h2⟩ := ih h
      exact ⟨q, List.mem_cons_of_mem _ h1, h2⟩
theorem clauses_read {all : List (String × List Nat × List String)} {D : Ends} {Q : VK} {τ : L2.St} {yb : Wd} {cls : Value} {d : Option Addr} {e : Exn} {w : W} (hrt : D.rt = Q) (hlen : 1 < τ.length) (ex : ∀ q ∈ all, ∀ r ∈ all, PySem.W.exmOne X.K (.ref (G.ca q.1)) (.ref (G.ca r.1)) = some (decide (q.1 = r.1)))
    (S : SR (yof G X) yb) (r : ExR (yof G X) yb cls d e) (hin : ∃ q ∈ all, q.1 = e.c) (hone : ∀ q ∈ all, q.2.2 = ["value"]) (hQ : ∀ v y, Ext yb y → SR (yof G X) y → y.st = yb.st → WV (yof G X) y v w → Q v y.H) :
    ∀ hs : List (String × List Nat × List String), (∀ q ∈ hs, q ∈ all) → handled hs e yb.st = some w → wMA X.K (fun _ _ _ _ => False) D (hdsOf G hs) cls d τ yb.H
  | [], _, h => by cases h
  | (c, word, fs) :: rs, hsub, h => by
    obtain ⟨q0, hq0, hqc⟩ := hin
    obtain ⟨r1, dx, vs, r2, r3, r4, r5⟩ := r
    have hm := hsub _ List.mem_cons_self
    have hf : fs = ["value"] := hone _ hm
    have hx := ex q0 hq0 _ hm
    rw [hqc] at hx
    rw [← r1] at hx
    refine ⟨decide (e.c = c), hx, fun hb a ha => ?_, fun hb => ?_⟩
    · have hc : e.c = c := of_decide_eq_true hb
      subst hf
      simp only [handled, if_pos hc.symm] at h
      split at h
      · rename_i dv hl
        cases h
        obtain ⟨v, hv, rv⟩ := wfs_look r5 hl
        refine ⟨.ref a, by rw [List.getElem?_set_self hlen], rfl, by rw [r1, hc], dx, vs, v, r2, r3, hv, (by show 2 ≤ sizeLine; decide), fun p hp => ?_⟩
        obtain ⟨e2, S2, n2⟩ := Ext.new (o := .tup [.str (T word), v]) S hp (fun _ z => by cases z)
        show D.rt _ _
        rw [hrt]
        cases rv with
        | d rv => exact hQ _ _ e2 S2 rfl (.d (.tup (.inl ⟨.inl upd_same, n2⟩) (.cons (.str _) (.cons (e2.pv rv) .nil))))
      · cases h
    · have hc : ¬ c = e.c := fun z => by rw [z] at hb; simp at hb
      simp only [handled, if_neg hc] at h
      exact clauses_read hrt hlen ex S ⟨r1, dx, vs, r2, r3, r4, r5⟩ ⟨q0, hq0, hqc⟩ hone hQ rs (fun q hq => hsub q (List.mem_cons_of_mem _ hq)) h
theorem HdT.one {mg : Str → Option Value} {K : PySem.W.Frag} {sg : Scope} {Ng : List Str} {hs : List ExceptHandler} {l : List (String × List Nat × List String)} (h : HdT G mg K sg Ng hs l) : ∀ q ∈ l, q.2.2 = ["value"] := by
  induction h with
  | nil => intro q hq; cases hq
  | cons _ _ _ _ _ _ _ _ _ _ _ ih =>
    intro q hq
    rcases List.mem_cons.mp hq with z | z
    · rw [z]
    · exact ih q z
open Classical in
theorem fe_refused {k : Nat} {n : Str} {f : String} {hs : List (String × List Nat × List String)} {b : FM.E} {c P0 : Addr} {params : Arguments} {body : Expr} {scope : Scope} {p lpos pos : Pos} (F : RefK G X n hs) (hP : P.refused f = some hs) (hr : Room (k + 2) X.A) (hgd : X.A.guards = some [])
    (TB : LamX.TabB X.base X.mg c P0) (hcode : X.env.code = .ref c) (hmT : (P0, X.env.qual ++ "<lambda>") ∈ G.tabs) (hu : ∀ p ∈ G.tabs, p.1 = P0 → p.2 = X.env.qual ++ "<lambda>") (L : LamX.LamS X.env.scope scope)
    (hbody : ∀ (A : Around) (outer : List PySem.Env) (s : Shared) (H : Hp) (E : XK) (fl c' : Addr), Room k (A.deeper (LamX.lamEnv X scope s.heap.objs.size fl c')) → A.guards = some [] → FV G (LamX.lamCx X A outer s H E scope fl c') (wE E) P R Φ body b)
    (hbind : ∀ (q : Str) (cl : List (Str × Addr)) (pm cv ctv : Value), bindArgs (PySem.W.kla_fn "<lambda>" q params body scope cl pm cv ctv) ⟨[], []⟩ = pure [] := by intros; rfl) (hdef : defaultsOf params X.env = ([], []) := by rfl) (hg : Gl X n := by rfl) (hdb : (n == ("__debug__" : Str)) = false := by decide) :
    FV G X Wx P R Φ (.Call (.Name n p) [.Lambda params body scope lpos] [] pos) (.refused f b) := by
  refine ⟨fun pins s σ H Q I ⟨ρ, x, hx, S, En, h⟩ => ?_⟩
  subst hx
  rw [evE, hP] at h
  obtain ⟨oc, od, dV, kV, doc, pm, an, cdv, ct, osl, lk, hcg, hb⟩ := F.fn
  refine wpAny_Call_Name_kw (ld_glob I hg F.mg ?_ hdb)
  refine PySem.W.callWith_K (h₀ := X.base) I.ok.mod.kin F.kp ?_ (by rfl) (by rfl)
  show wpAny _ _ (spliced ((false, eval (.Lambda params body scope lpos) X.env) :: backTo pos (starEach [] X.env))) _ _ s
  refine Calls.spliced_cons (LamX.lam_make2 I TB hcode hmT hu S.tabs hdef (L.has I.ok) fun fl c' pm' ctv H1 s' I1 eN T1 hf hfn hfr hco => Calls.spliced_nil ⟨I1.kIn, ?_⟩)
  have ex : Ext x ⟨x.R, x.μ, x.st, H1⟩ := ⟨rfl, List.prefix_refl _, fun a o h t n => ⟨eN a o h t, n⟩, fun a o h t => ⟨o, eN a o h t, t⟩⟩
  have mv : Mv x ⟨x.R, x.μ, x.st, H1⟩ := ⟨List.prefix_refl _, fun a o h t n => ⟨eN a o h t, n⟩⟩
  have S1 : SR (yof G X) ⟨x.R, x.μ, x.st, H1⟩ := ⟨S.len, S.nd, fun a ha => by
      obtain ⟨o, h1, h2, h3⟩ := S.dom a ha
      exact ⟨o, eN a o h1 h2, h2, h3⟩, fun a ha => by
      obtain ⟨h0, o, h1, h2⟩ := S.res a ha
      exact ⟨h0, o, eN a o h1 h2, h2⟩, fun m a c h1 h2 => (S.cell m a c h1 h2).mv mv (fun o h t => eN a o h t), T1⟩
  have rc : codeAny (model X.prog X.w) X.A (.call (.ref F.g) ⟨[.ref fl], []⟩) (CR CX0 X.stack X.prog X.w H1 s' Q E0) s' := by
    refine LamX.run_ofS (N := F.Ng) (ps := [F.a]) (us := [.ref fl]) (vs := [.ref fl]) lk hcg F.sc hr I1.env0 (hb s' [.ref fl] I1.kIn rfl) (.cons rfl .nil) rfl fun hr' => ?_
    refine ⟨_, pss_cons (ps_try_ma (tb := fun W D τ HZ => ∃ Ech : XK, (∀ cls d σ' H', Ech cls d H' → σ'.length = F.Ng.length → W cls d σ' H') ∧ τ[0]? = some (some (.ref fl)) ∧ HZ c' = some (LamX.CodeO c' (X.env.qual ++ "<lambda>")) ∧ rd (yof G X) (wE Ech) (relW (yof G X)) (evE P R Φ b) σ HZ (fun _ H2 => D.nx τ H2)) rfl rfl F.sc.nd takes_none5
      (fun W pn xe tk hp => ⟨fun pz sz τ HZ D IZ ⟨Ech, hW, h1, h2, h3⟩ => ?_⟩) F.tx.ok) (pss_one (ps_ret (pe_tup (pa_cons pe_str (pa_cons pe_non pa_nil))))), ?_⟩
    · exact (pss_one (ps_expr (pos := F.p3) (act_g (i := 0) (p1 := F.p1) (p2 := F.p2) I1 L hf hfn hfr (hbind _ _ _ _ _) tk hW hr' hgd (fun A outer s H hr2 hg2 => hbody A outer s H Ech fl c' hr2 hg2) F.n0 F.va F.d1 F.d2) rfl)).run pz sz τ HZ D IZ ⟨h1, h2, h3⟩
    · have l0 : (L2.start F.Ng [V.ref fl])[0]? = some (some (V.ref fl)) := by simp [L2.start]
      refine ⟨fun cls d H' => ∀ σ' : L2.St, σ'.length = F.Ng.length → wMA X.K (fun _ _ _ _ => False) _ (hdsOf G hs) cls d σ' H', fun cls d σ' H' h hl => h σ' hl, l0, hco, ρ, ⟨x.R, x.μ, x.st, H1⟩, rfl, S1, En.ext ex, ?_⟩
      show rpost _ _ _ _ _ _ (evE P R Φ b ρ x.st)
      cases hr2 : evE P R Φ b ρ x.st with
      | bad => rw [hr2] at h; exact h
      | ok w st' =>
        rw [hr2] at h
        intro v y ey Sy hy rv
        subst hy
        have h : rpost (yof G X) Wx σ x (relW (yof G X)) Q (match some hs, (if x.st.length ≤ y.st.length ∧ okOld x.st y.st then Res.ok noneW (y.st.take x.st.length) else .bad : Res W) with
          | some _, .ok _ st' => .ok (.d (.tuple [dStr [], .none])) st'
          | some hs, .exn x st' => Res.of (handled hs x st') st'
          | _, _ => .bad) := h
        split at h
        · rename_i heq
          split at heq
          · rename_i ht
            cases heq
            obtain ⟨hl, ho⟩ := ht
            obtain ⟨eb, Sb⟩ := back_ok ey S1 Sy hl (old_below S1 ho)
            refine ⟨by show 2 ≤ sizeLine; decide, fun p hp => ?_⟩
            obtain ⟨e2, S2, n2⟩ := Ext.new (o := .tup [.str (T []), .non]) Sb hp (fun _ z => by cases z)
            exact h (.ref p) _ (ex.trans (eb.trans e2)) S2 rfl (.d (.tup (.inl ⟨.inl upd_same, n2⟩) (.cons (.str _) (.cons .none .nil))))
          · cases heq
        · rename_i heq
          split at heq <;> cases heq
        · exact h.elim
      | exn e st' =>
        rw [hr2] at h
        intro cls d y ey Sy hy rx σ' hl'
        subst hy
        have h : rpost (yof G X) Wx σ x (relW (yof G X)) Q (match some hs, (if x.st.length ≤ y.st.length ∧ okOld x.st y.st then (match frzF x.st.length y.st e.fs with
            | some fs => .exn ⟨e.c, fs⟩ (y.st.take x.st.length)
            | none => .bad) else .bad : Res W) with
          | some _, .ok _ st' => .ok (.d (.tuple [dStr [], .none])) st'
          | some hs, .exn x st' => Res.of (handled hs x st') st'
          | _, _ => .bad) := h
        by_cases ht : x.st.length ≤ y.st.length ∧ okOld x.st y.st
        · rw [if_pos ht] at h
          obtain ⟨hl, ho⟩ := ht
          obtain ⟨eb, Sb⟩ := back_ok ey S1 Sy hl (old_below S1 ho)
          cases hz : frzF x.st.length y.st e.fs with
          | none => rw [hz] at h; exact h.elim
          | some fs =>
            rw [hz] at h
            have h : rpost (yof G X) Wx σ x (relW (yof G X)) Q (Res.of (handled hs ⟨e.c, fs⟩ (y.st.take x.st.length)) (y.st.take x.st.length)) := h
            cases hh : handled hs ⟨e.c, fs⟩ (y.st.take x.st.length) with
            | none => rw [hh] at h; exact h.elim
            | some w =>
              rw [hh] at h
              obtain ⟨r1, dx, vs, r2, r3, r4, r5⟩ := rx
              exact clauses_read (e := ⟨e.c, fs⟩) (yb := back ⟨x.R, x.μ, x.st, H1⟩ y) (Q := Q) rfl (by rw [hl']; exact F.n2) F.exm Sb ⟨r1, dx, vs, r2, r3, back_nl ey hl r4, back_frzF ey S1 Sy hl r5 hz⟩ (handled_in hh) F.tx.one (fun v z ez Sz hzs rv => h v z (ex.trans (eb.trans ez)) Sz hzs rv) hs (fun q hq => hq) hh
        · rw [if_neg ht] at h
          exact h.elim
  refine wpAny_call (codeAny_mono rc fun r s2 hq => ?_)
  cases r with
  | error e => exact (show False from hq).elim
  | ok fl =>
    cases fl with
    | ret u => exact I1.after hq
    | next => exact hq.elim
    | brk => exact hq.elim
    | cont => exact hq.elim
end
end FM
end

section
/-! FM18: what a derivation of a def's text leans on. -/
set_option Elab.async false
set_option linter.all false
set_option maxRecDepth 100000
set_option autoImplicit false
set_option maxHeartbeats 1000000
namespace FM
open PySem PySem.Spec PyProof.Rows L2
structure Cxt (G : Gd) (X : Cx) (P : Prog) (Φ : Call) (k : Nat) (tb : List (Str × String × Nat)) (ci : List (Str × Int)) (cs : List (Str × List Nat)) (ex : List (Str × String)) : Prop where
  hr : Room k X.A
  k2 : 2 ≤ k
  hgd : X.A.guards = some []
  hc : X.calm = true
  nd : X.N.Nodup
  B : BltN X.mg
  fns : ∀ (i : Nat) (q : Str × String × Nat), tb[i]? = some q → FnK G X Φ k q.1 q.2.1 q.2.2
  nI : ∀ (i : Nat) (q : Str × Int), ci[i]? = some q → ∃ t, X.mg q.1 = some (.int q.2 t)
  nS : ∀ (i : Nat) (q : Str × List Nat), cs[i]? = some q → ∃ t, X.mg q.1 = some (.str (T q.2) t)
  exs : ∀ (i : Nat) (q : Str × String), ex[i]? = some q → ExK G X q.1 q.2 ∧ P.exc q.2 = some 1
section
variable {G : Gd} {X : Cx} {E : XK} {Wx : WX} {P : Prog} {R : Fun1} {Φ : Call} {k : Nat} {tb : List (Str × String × Nat)} {ci : List (Str × Int)} {cs : List (Str × List Nat)} {ex : List (Str × String)}
theorem Cxt.blk {s : Shared} {H : Hp} {scope : Scope} {env : PySem.Env} {fp : List Addr} (C : Cxt G X P Φ k tb ci cs ex) : Cxt G (X.blk s H scope env fp) P Φ k tb ci cs ex :=
  ⟨C.hr, C.k2, C.hgd, C.hc, C.nd, C.B, fun i q h => let F := C.fns i q h; ⟨F.mg, F.kp, F.ok, F.ar⟩, C.nI, C.nS, fun i q h => let ⟨K, h2⟩ := C.exs i q h; ⟨⟨K.T, K.no, K.mg, K.init⟩, h2⟩⟩
theorem Cxt.lam {A : Around} {outer : List PySem.Env} {s : Shared} {H : Hp} {scope : Scope} {fl c' : Addr} (C : Cxt G X P Φ k tb ci cs ex) (hr : Room k (A.deeper (LamX.lamEnv X scope s.heap.objs.size fl c'))) (hg : A.guards = some []) : Cxt G (LamX.lamCx X A outer s H E scope fl c') P Φ k tb ci cs ex :=
  ⟨hr, C.k2, hg, rfl, C.nd, C.B, fun i q h => let F := C.fns i q h; ⟨F.mg, F.kp, F.ok, F.ar⟩, C.nI, C.nS, fun i q h => let ⟨K, h2⟩ := C.exs i q h; ⟨⟨K.T, K.no, K.mg, K.init⟩, h2⟩⟩
theorem Cxt.hu (C : Cxt G X P Φ k tb ci cs ex) : X.A.units + 66 < cLine := by
  have := C.hr.un
  omega
variable {e e1 e2 e3 : Expr} {a b c : FM.E} {es : List Expr} {as : Es} {n : Str} {p pos : Pos}
theorem fe_gi {f : String} {i : Nat} {j : Int} (C : Cxt G X P Φ k tb ci cs ex) (hi : ci[i]? = some (n, j)) (hP : P.glob f = some (.d (.int j))) (hg : Gl X n := by rfl) (hd : (n == ("__debug__" : Str)) = false := by decide) : FV G X Wx P R Φ (.Name n pos) (.glob f) := by
  obtain ⟨t, ht⟩ := C.nI i _ hi
  exact fe_glob (v := .int j) hg ht ⟨t, rfl⟩ hP (fun x _ => .d (.int j)) hd
theorem fe_gs {f : String} {i : Nat} {j : List Nat} (C : Cxt G X P Φ k tb ci cs ex) (hi : cs[i]? = some (n, j)) (hP : P.glob f = some (.d (dStr j))) (hg : Gl X n := by rfl) (hd : (n == ("__debug__" : Str)) = false := by decide) : FV G X Wx P R Φ (.Name n pos) (.glob f) := by
  obtain ⟨t, ht⟩ := C.nS i _ hi
  exact fe_glob (v := .str (T j)) hg ht ⟨t, rfl⟩ hP (fun x _ => .d (.str (T j))) hd
theorem xe_call {f : String} {m : Nat} {a1 : FM.E} (i : Nat) (C : Cxt G X P Φ k tb ci cs ex) (tk : Takes X (wE E)) (ha : FL G X (wE E) P R Φ (e1 :: es) (.cons a1 as)) (hi : tb[i]? = some (n, f, m) := by rfl) (hg : Gl X n := by rfl) (hdb : (n == ("__debug__" : Str)) = false := by decide)
    (he : starEach (e1 :: es) X.env = (false, eval e1 X.env) :: starEach es X.env := by rfl) (hpl : (backTo pos (starEach es X.env)).any (·.1) = false := by rfl) : FV G X (wE E) P R Φ (.Call (.Name n p) (e1 :: es) [] pos) (.call f (.cons a1 as)) := fe_call (C.fns i _ hi) C.hr C.hgd tk ha hg hdb he hpl
theorem xs_raise {cc : String} (i : Nat) {cpos : Pos} (C : Cxt G X P Φ k tb ci cs ex) (tk : Takes X (wE E)) (ha : FV G X (wE E) P R Φ e a) (hi : ex[i]? = some (n, cc) := by rfl) (hg : Gl X n := by rfl) (hdb : (n == ("__debug__" : Str)) = false := by decide) (hs : starEach [e] X.env = [(false, eval e X.env)] := by rfl) :
    FS G X (wE E) P R Φ (.Raise (some (.Call (.Name n p) [e] [] cpos)) none pos) (.raise cc (.cons a .nil)) := fs_raise (C.exs i _ hi).1 (C.exs i _ hi).2 (C.hr.mono C.k2) C.hc tk ha hg hdb hs
/-! builtins -/
theorem xe_len (B : BltN X.mg) (ha : FV G X Wx P R Φ e a) (hg : Gl X "len" := by rfl) (hs : starEach [e] X.env = [(false, eval e X.env)] := by rfl) : FV G X Wx P R Φ (.Call (.Name "len" p) [e] [] pos) (.b1 .len a) := fe_bb cb_len boot_len (B.no _ (by decide)) hg (by decide) (by decide) ha hs
theorem xe_int (B : BltN X.mg) (ha : FV G X Wx P R Φ e a) (hg : Gl X "int" := by rfl) (hs : starEach [e] X.env = [(false, eval e X.env)] := by rfl) : FV G X Wx P R Φ (.Call (.Name "int" p) [e] [] pos) (.b1 .int a) := fe_bt cb_int PyProof.Rows.boot_int (B.no _ (by decide)) hg (by decide) (by decide) ha hs
theorem xe_tuple (B : BltN X.mg) (ha : FV G X Wx P R Φ e a) (hg : Gl X "tuple" := by rfl) (hs : starEach [e] X.env = [(false, eval e X.env)] := by rfl) : FV G X Wx P R Φ (.Call (.Name "tuple" p) [e] [] pos) (.b1 .tuple a) := fe_bt cb_tuple boot_tuple (B.no _ (by decide)) hg (by decide) (by decide) ha hs
theorem xe_ord (B : BltN X.mg) (ha : FV G X Wx P R Φ e a) (hg : Gl X "ord" := by rfl) (hs : starEach [e] X.env = [(false, eval e X.env)] := by rfl) : FV G X Wx P R Φ (.Call (.Name "ord" p) [e] [] pos) (.b1 .ord a) := fe_bb cb_ord boot_ord (B.no _ (by decide)) hg (by decide) (by decide) ha hs
theorem xe_abs (B : BltN X.mg) (ha : FV G X Wx P R Φ e a) (hg : Gl X "abs" := by rfl) (hs : starEach [e] X.env = [(false, eval e X.env)] := by rfl) : FV G X Wx P R Φ (.Call (.Name "abs" p) [e] [] pos) (.b1 .abs a) := fe_bb cb_abs boot_abs (B.no _ (by decide)) hg (by decide) (by decide) ha hs
theorem xe_all (B : BltN X.mg) (hc : X.calm = true) (ha : FV G X Wx P R Φ e a) (hg : Gl X "all" := by rfl) (hs : starEach [e] X.env = [(false, eval e X.env)] := by rfl) : FV G X Wx P R Φ (.Call (.Name "all" p) [e] [] pos) (.b1 .all a) := fe_bb (cb_all hc) boot_all (B.no _ (by decide)) hg (by decide) (by decide) ha hs
theorem xe_any (B : BltN X.mg) (hc : X.calm = true) (ha : FV G X Wx P R Φ e a) (hg : Gl X "any" := by rfl) (hs : starEach [e] X.env = [(false, eval e X.env)] := by rfl) : FV G X Wx P R Φ (.Call (.Name "any" p) [e] [] pos) (.b1 .any a) := fe_bb (cb_any hc) boot_any (B.no _ (by decide)) hg (by decide) (by decide) ha hs
theorem xe_sum (B : BltN X.mg) (hc : X.calm = true) (ha : FV G X Wx P R Φ e a) (hg : Gl X "sum" := by rfl) (hs : starEach [e] X.env = [(false, eval e X.env)] := by rfl) : FV G X Wx P R Φ (.Call (.Name "sum" p) [e] [] pos) (.b1 .sum a) := fe_bb (cb_sum hc) boot_sum (B.no _ (by decide)) hg (by decide) (by decide) ha hs
theorem xe_repr (B : BltN X.mg) (hgd : X.A.guards = some []) (hu : X.A.units + 66 < cLine) (ha : FV G X Wx P R0 Φ e a) (hg : Gl X "repr" := by rfl) (hs : starEach [e] X.env = [(false, eval e X.env)] := by rfl) : FV G X Wx P R0 Φ (.Call (.Name "repr" p) [e] [] pos) (.b1 .repr a) := fe_bb (cb_repr hgd hu) boot_repr (B.no _ (by decide)) hg (by decide) (by decide) ha hs
theorem ty_int (B : BltN X.mg) (hg : Gl X "int" := by rfl) : TyNm X (.Name "int" p) .int := tyNm hg (B.no _ (by decide)) PyProof.Rows.boot_int
theorem ty_str (B : BltN X.mg) (hg : Gl X "str" := by rfl) : TyNm X (.Name "str" p) .str := tyNm hg (B.no _ (by decide)) boot_str
theorem ty_bool (B : BltN X.mg) (hg : Gl X "bool" := by rfl) : TyNm X (.Name "bool" p) .bool := tyNm hg (B.no _ (by decide)) boot_bool
theorem ty_list (B : BltN X.mg) (hg : Gl X "list" := by rfl) : TyNm X (.Name "list" p) .list := tyNm hg (B.no _ (by decide)) boot_list
theorem ty_tuple (B : BltN X.mg) (hg : Gl X "tuple" := by rfl) : TyNm X (.Name "tuple" p) .tuple := tyNm hg (B.no _ (by decide)) boot_tuple
theorem ty_dict (B : BltN X.mg) (hg : Gl X "dict" := by rfl) : TyNm X (.Name "dict" p) .dict := tyNm hg (B.no _ (by decide)) boot_dict
theorem xe_isi1 {t : Ty} (B : BltN X.mg) (ha : FV G X Wx P R Φ e a) (ht : TyNm X e2 t) (hg : Gl X "isinstance" := by rfl) (hs : starEach [e, e2] X.env = (false, eval e X.env) :: starEach [e2] X.env := by rfl) (hs2 : (backTo pos (starEach [e2] X.env)).any (·.1) = false := by rfl) :
    FV G X Wx P R Φ (.Call (.Name "isinstance" p) [e, e2] [] pos) (.isi a [t]) := fe_isi1 hg (B.no _ (by decide)) ha ht hs hs2
theorem xe_isi2 {t u : Ty} {x1 : Nat} {tp : Pos} (B : BltN X.mg) (ha : FV G X Wx P R Φ e a) (ht : TyNm X e2 t) (hu : TyNm X e3 u) (hg : Gl X "isinstance" := by rfl) (hs : starEach [e, .Tuple [e2, e3] x1 tp] X.env = (false, eval e X.env) :: starEach [.Tuple [e2, e3] x1 tp] X.env := by rfl) :
    FV G X Wx P R Φ (.Call (.Name "isinstance" p) [e, .Tuple [e2, e3] x1 tp] [] pos) (.isi a [t, u]) := fe_isi2 hg (B.no _ (by decide)) ha ht hu hs
theorem xi_rng1 {tg : Expr} (B : BltN X.mg) (ha : FV G X Wx P R Φ e a) (hg : Gl X "range" := by rfl) (hs : starEach [e] X.env = [(false, eval e X.env)] := by rfl) : FI G X Wx P R Φ tg (.Call (.Name "range" p) [e] [] pos) (.rng1 a) := fi_rng1 hg (B.no _ (by decide)) ha hs
theorem xi_rng2 {tg : Expr} (B : BltN X.mg) (ha : FV G X Wx P R Φ e1 a) (hb : FV G X Wx P R Φ e2 b) (hg : Gl X "range" := by rfl) (hs : starEach [e1, e2] X.env = [(false, eval e1 X.env), (false, eval e2 X.env)] := by rfl) (hs2 : starEach [e2] X.env = [(false, eval e2 X.env)] := by rfl) :
    FI G X Wx P R Φ tg (.Call (.Name "range" p) [e1, e2] [] pos) (.rng2 a b) := fi_rng2 hg (B.no _ (by decide)) ha hb hs hs2
/-! a + b, a new list -/
theorem lst_of {x : Wd} (S : SR (yof G X) x) {v : V} {w : W} {ws : List W} (r : WV (yof G X) x v w) (h : lstW x.st w = some ws) : ∃ p vs, v = .ref p ∧ Rd x.H p (.lst vs) ∧ WVs (yof G X) x vs ws := by
  cases r with
  | @d _ d r =>
    cases d <;> simp only [lstW, reduceCtorEq] at h
    cases h
    cases r with
    | lst h1 h2 => exact ⟨_, _, rfl, h1.1, h2.wvs⟩
  | @ref n p hn =>
    simp only [lstW] at h
    split at h
    · rename_i l hc
      cases h
      obtain ⟨vs, hH, rs⟩ := S.cell _ _ _ hn hc
      exact ⟨p, vs, rfl, .inl hH, rs⟩
    · cases h
  | fn f => cases h
theorem ff_cat (ha : FV G X Wx P R Φ e1 a) (hb : FV G X Wx P R Φ e2 b) : FF G X Wx P R Φ (.BinOp e1 .Add e2 pos) (.cat a b) := by
  refine (pe_op op_catR ha hb).imp fun σ H Q ⟨ρ, x, hx, S, En, h⟩ => ?_
  rw [evF] at h
  refine ⟨ρ, x, hx, S, En, rpostF_bind h fun v y w e1 Sy r h2 => ⟨ρ, y, rfl, Sy, En.ext e1, rpostF_bind h2 fun u z w2 e2 Sz r2 h3 => ?_⟩⟩
  split at h3
  · rename_i us vs h4 h5
    split at h3
    · rename_i hz
      obtain ⟨p1, v1, rfl, hp1, rs1⟩ := lst_of Sz (e2.wv r) h4
      obtain ⟨p2, v2, rfl, hp2, rs2⟩ := lst_of Sz r2 h5
      refine ⟨p1, p2, v1, v2, rfl, rfl, hp1, hp2, by rw [rs1.length, rs2.length, ← SZ_eq]; exact hz, fun q hq => ?_⟩
      obtain ⟨e4, m4, S4⟩ := new_res (o := .lst (v1 ++ v2)) Sz hq (fun _ z => by cases z)
      exact h3 _ q (.inl (v1 ++ v2)) e4 S4 rfl (NT.of hq) upd_same (Sz.fresh hq) ((m4.wvs rs1).append (m4.wvs rs2))
    · exact h3.elim
  · exact h3.elim
end
/-! ### the base class of the exceptions -/
theorem folk_init {P : Program} {w : World} {K : PySem.W.Frag} {mg : Str → Option Value} {base : Heap} {qual : Str} {pr : Arguments} {scope : Scope} {dvs : List V} {kws : List (Str × V)} {f : Addr} {fd : FuncData} {p1 p2 p3 p4 : Pos}
    (F : FunD K "__init__" qual pr [.Assign [.Attribute (.Name "self" p1) "value" p2] (.Name "value" p3) p4] scope dvs kws f fd) (S : FnScope ["self", "value"] ["self", "value"] scope) (h1 : scope.names.lookup ("self" : Str) = some .local) (h2 : scope.names.lookup ("value" : Str) = some .local) : FnOk P w K mg base CX0 1 f fd ["self", "value"] (spI K) := by
  refine F.ok S (fun vs H Q E ⟨a, C, v, h, _⟩ => by rw [h]; rfl) fun cdv A outer s H vs Q E hr ⟨a, C, v, hvs, T, no, ha, k⟩ => ⟨_, pss_one (ps_ost (pe_var (i := 0) rfl (.inl h1) (by decide) (by decide)) (pe_var (i := 1) rfl (.inl h2) (by decide) (by decide))), ?_⟩
  subst hvs
  exact ⟨v, rfl, .ref a, rfl, a, C, rfl, T, no, .inl ⟨ha, k⟩⟩
end FM
end

section
/-! FM19: from the head's facts to the law's end. -/
set_option Elab.async false
set_option linter.all false
set_option maxRecDepth 100000
set_option autoImplicit false
set_option maxHeartbeats 1000000
namespace FM
open PySem PySem.Spec PyProof.Rows L2
/-- what is known of a def by its text's place alone -/
structure FnB (G : Gd) (K : PySem.W.Frag) (mg : Str → Option Value) (n : Str) (f : String) (fd : FuncData) (ps : List Str) : Prop where
  gl : mg n = some (.ref (G.fa f))
  kp : PySem.W.keepIn K (.ref (G.fa f)) = true
  b : L2.Binds K fd ps []
/-- .. and what it promises -/
structure FnT (G : Gd) (P : Program) (w : World) (K : PySem.W.Frag) (mg : Str → Option Value) (base : Heap) (Φ : Call) (k : Nat) (n : Str) (f : String) (m : Nat) : Prop where
  gl : mg n = some (.ref (G.fa f))
  kp : PySem.W.keepIn K (.ref (G.fa f)) = true
  ok : ∃ fd ps, ps.length = m ∧ FnG P w K mg base k (G.fa f) fd ps (spF ⟨P, w, K, G.fa, G.ca, G.tabs⟩ Φ f m) ∧ L2.Binds K fd ps []
  ar : ∀ ws st, ws.length ≠ m → Φ f ws st = .bad
section
variable {G : Gd} {P : Program} {w : World} {K : PySem.W.Frag} {mg : Str → Option Value} {base : Heap}
theorem FnT.zero {EP : Prog} {R : Fun1} {k : Nat} {n : Str} {f : String} {fd : FuncData} {ps : List Str} (B : FnB G K mg n f fd ps) : FnT G P w K mg base (callD EP R 0) k n f ps.length :=
  ⟨B.gl, B.kp, ⟨fd, ps, rfl, ⟨fun vs H Q E h => h.1, fun A outer s H args us vs Q E _ _ _ _ _ ⟨_, x, ws, _, _, _, h⟩ => h.elim⟩, B.b⟩, fun ws st _ => rfl⟩
theorem FnG.succ {EP : Prog} {R : Fun1} {j : Nat} {x qual : Str} {pr : Arguments} {body : List Stmt} {scope : Scope} {dvs : List V} {kws : List (Str × V)} {f : String} {fd : FuncData} {k : Nat} {N ps : List Str} {fn : Fn}
    (F : FunD K x qual pr body scope dvs kws (G.fa f) fd) (S : FnScope N ps scope) (hN : N.length = fn.slots) (hp : ps.length = fn.params) (hm : fn.mode ≠ .obj) (hf : EP.fn f = some fn)
    (hbody : ∀ (cdv : Value) (A : Around) (outer : List PySem.Env) (s : Shared) (H : Hp) (E : XK), Room k (A.deeper (envOfC qual scope s.heap.objs.size (G.fa f) cdv)) → A.guards = some [] → fd.code = cdv →
      FSs G (cxOf (L2.CX P w) P w K mg base N qual scope (G.fa f) cdv A outer s H E) (wE E) EP R (callD EP R j) body fn.body) : FnG P w K mg base (k + 1) (G.fa f) fd ps (spF ⟨P, w, K, G.fa, G.ca, G.tabs⟩ (callD EP R (j + 1)) f fn.params) := by
  have hΦ : callD EP R (j + 1) f = runFn EP R (callD EP R j) fn := by
    funext ws st
    simp [callD, hf]
  have q := fn_ok (P := P) (w := w) (mg := mg) (base := base) F S hN hp hm hbody
  rwa [spF_congr (Φ' := callD EP R (j + 1)) (by rw [hΦ]; simp)] at q
theorem FnT.succ {EP : Prog} {R : Fun1} {j : Nat} {n x qual : Str} {pr : Arguments} {body : List Stmt} {scope : Scope} {dvs : List V} {kws : List (Str × V)} {f : String} {fd : FuncData} {k : Nat} {N ps : List Str} {fn : Fn}
    (B : FnB G K mg n f fd ps) (F : FunD K x qual pr body scope dvs kws (G.fa f) fd) (S : FnScope N ps scope) (hN : N.length = fn.slots) (hp : ps.length = fn.params) (hm : fn.mode ≠ .obj) (hf : EP.fn f = some fn)
    (hbody : ∀ (cdv : Value) (A : Around) (outer : List PySem.Env) (s : Shared) (H : Hp) (E : XK), Room k (A.deeper (envOfC qual scope s.heap.objs.size (G.fa f) cdv)) → A.guards = some [] → fd.code = cdv →
      FSs G (cxOf (L2.CX P w) P w K mg base N qual scope (G.fa f) cdv A outer s H E) (wE E) EP R (callD EP R j) body fn.body) : FnT G P w K mg base (callD EP R (j + 1)) (k + 1) n f fn.params :=
  ⟨B.gl, B.kp, ⟨fd, ps, hp, FnG.succ F S hN hp hm hf hbody, B.b⟩, fun ws st h => by
    have hΦ : callD EP R (j + 1) f = runFn EP R (callD EP R j) fn := by
      funext ws st
      simp [callD, hf]
    rw [hΦ]
    unfold runFn
    rw [if_neg h]⟩
end
/-! ### what the head says of the exceptions -/
def cK (K : PySem.W.Frag) (c : String) : Addr := He.ga K (Str.ofString c)
def oexB (K : PySem.W.Frag) (C : Addr) : Bool := match K.lookup C with
  | some ⟨.type "type", _, .cls cd, sl⟩ => (match cd.mro, sl.toList with
    | .ref C' :: bm, [_, _, _, _, some (.builtin nn), _] => decide (C' = C) && (decide (nn = "ValueError.__new__") && (!cd.hasDel && (cd.hasDict && PySem.HandSPX.refsVE bm)))
    | _, _ => false)
  | _ => false
theorem oexB_ok {K : PySem.W.Frag} {C : Addr} (h : oexB K C = true) : ∃ nm q N bs bm sn sub ab col dd k0 k1 k2 k3 k5, K.lookup C = some (excClassObj nm q C N bs bm true sn sub ab col dd k0 k1 k2 k3 k5 "ValueError.__new__") ∧ PySem.HandSPX.refsVE bm = true := by
  unfold oexB at h
  split at h
  · rename_i dd cd sl ho
    split at h
    · rename_i C' bm k0 k1 k2 k3 nn k5 hm hs
      simp only [Bool.and_eq_true, decide_eq_true_eq, Bool.not_eq_true'] at h
      obtain ⟨rfl, rfl, h3, h4, h5⟩ := h
      obtain ⟨nm, bs, mro, ns, qn, hd, sn, sub, ab, col, del⟩ := cd
      dsimp only at hm h3 h4
      subst hm h3 h4
      obtain ⟨l⟩ := sl
      simp only at hs
      subst hs
      exact ⟨nm, qn, ns, bs, bm, sn, sub, ab, col, dd, k0, k1, k2, k3, k5, ho, h5⟩
    · cases h
  · cases h
def ex1B (K : PySem.W.Frag) (C : Addr) : Bool := oexB K C && (xfB K C && (decide (PySem.W.findIn K (.ref C) "__setattr__" = some (some (.builtin "object.__setattr__"))) && (decide (PySem.W.typeIn K (.ref C) = some (.type "type")) && (PySem.W.keepIn K (.ref C) &&
  (decide (PySem.W.findIn K (.ref C) "value" = some none) && (decide (PySem.W.findIn K (.ref C) "__init__" = some (some (.ref (He.ma K (He.ga K "FolkError") "__init__")))) && decide (PySem.W.typeIn K (.ref (He.ma K (He.ga K "FolkError") "__init__")) = some (.type "function"))))))))
structure Ex1 (K : PySem.W.Frag) (C : Addr) : Prop where
  T : OexC K C
  xf : XfC K C
  no : PySem.W.findIn K (.ref C) "value" = some none
  i1 : PySem.W.findIn K (.ref C) "__init__" = some (some (.ref (He.ma K (He.ga K "FolkError") "__init__")))
  i2 : PySem.W.typeIn K (.ref (He.ma K (He.ga K "FolkError") "__init__")) = some (.type "function")
theorem ex1B_ok {K : PySem.W.Frag} {C : Addr} (h : ex1B K C = true) : Ex1 K C := by
  simp only [ex1B, Bool.and_eq_true, decide_eq_true_eq] at h
  obtain ⟨h1, h2, h3, h4, h5, h6, h7, h8⟩ := h
  have x := xfB_ok h2
  exact ⟨⟨oexB_ok h1, h3, x.exC, h4, h5⟩, x, h6, h7, h8⟩
def excB (K : PySem.W.Frag) (l : List (Str × String)) : Bool := (l.all fun q => ex1B K (cK K q.2)) && l.all fun q => l.all fun r => decide (PySem.W.exmOne K (.ref (cK K q.2)) (.ref (cK K r.2)) = some (decide (q.2 = r.2)))
theorem excB_1 {K : PySem.W.Frag} {l : List (Str × String)} (h : excB K l = true) {q : Str × String} (hq : q ∈ l) : Ex1 K (cK K q.2) := by
  simp only [excB, Bool.and_eq_true, List.all_eq_true] at h
  exact ex1B_ok (h.1 q hq)
theorem excB_2 {K : PySem.W.Frag} {l : List (Str × String)} (h : excB K l = true) {q r : Str × String} (hq : q ∈ l) (hr : r ∈ l) : PySem.W.exmOne K (.ref (cK K q.2)) (.ref (cK K r.2)) = some (decide (q.2 = r.2)) := by
  simp only [excB, Bool.and_eq_true, List.all_eq_true, decide_eq_true_eq] at h
  exact h.2 q hq r hr
/-- the head's facts of a law of this kind -/
def faOf (glo : List Str) (ci : List (Str × Int)) (cs : List (Str × List Nat)) : List He.Fa := glo.map .glo ++ (bnames.map .free ++ (ci.map (fun q => .int q.1 q.2) ++ cs.map fun q => .str q.1 (T q.2)))
section
variable {glo : List Str} {ci : List (Str × Int)} {cs : List (Str × List Nat)} {fn : List He.DefD} {K : PySem.W.Frag} {h : Heap} {mg : Str → Option Value}
theorem head_glo (c : He.SaysD (faOf glo ci cs) fn K) (X : K.In h) (Gn : h.Ns mainGlobals mg) {x : Str} (hx : x ∈ glo) : mg x = some (.ref (He.ga K x)) := He.glo_ok X Gn (c.facts (List.mem_append_left _ (List.mem_map_of_mem hx)))
theorem head_blt (c : He.SaysD (faOf glo ci cs) fn K) (X : K.In h) (Gn : h.Ns mainGlobals mg) : BltN mg := ⟨fun n hn => He.free_ok X Gn (c.facts (List.mem_append_right _ (List.mem_append_left _ (List.mem_map_of_mem hn))))⟩
theorem head_int (c : He.SaysD (faOf glo ci cs) fn K) (X : K.In h) (Gn : h.Ns mainGlobals mg) (i : Nat) (q : Str × Int) (hq : ci[i]? = some q) : ∃ t, mg q.1 = some (.int q.2 t) :=
  He.int_ok X Gn (c.facts (List.mem_append_right _ (List.mem_append_right _ (List.mem_append_left _ (List.mem_map.mpr ⟨q, List.mem_of_getElem? hq, rfl⟩)))))
theorem head_str (c : He.SaysD (faOf glo ci cs) fn K) (X : K.In h) (Gn : h.Ns mainGlobals mg) (i : Nat) (q : Str × List Nat) (hq : cs[i]? = some q) : ∃ t, mg q.1 = some (.str (T q.2) t) :=
  He.str_ok X Gn (c.facts (List.mem_append_right _ (List.mem_append_right _ (List.mem_append_right _ (List.mem_map.mpr ⟨q, List.mem_of_getElem? hq, rfl⟩)))))
end
/-! ### the law's end -/
/-- the script alone is known -/
theorem sr_start {Y : Rt} {H : Hp} (hT : LamX.Tabs Y.tabs H) : SR Y ⟨[], [], [], H⟩ := ⟨rfl, List.nodup_nil, (fun a h => nomatch h), (fun a h => nomatch h), (fun n a c h _ => by simp at h), hT⟩
def noLst (K : PySem.W.Frag) : Bool := K.all fun q => !decide (q.2.cls = .type "list")
theorem noLst_ok {K : PySem.W.Frag} (h : noLst K = true) {a : Addr} {o : Obj} (e : K.lookup a = some o) : o.cls ≠ .type "list" := by
  have := He.lookup_mem e
  simp only [noLst, List.all_eq_true, Bool.not_eq_true', decide_eq_false_iff_not] at h
  exact h _ this
theorem ints_pv {Y : Rt} {H : Hp} {nl : Addr → Prop} : ∀ ns : List Int, PVs Y H nl (ns.map V.int) (ns.map .int)
  | [] => .nil
  | n :: ns => .cons (.int n) (ints_pv ns)
theorem law_sp {Y : Rt} {Φ : Call} {H : Hp} {a : Addr} {ns : List Int} {E : XK} (hK : noLst Y.K = true) (hT : LamX.Tabs Y.tabs H) (hS : SqL Y.K H a (ns.map V.int)) (h : ∃ st, Φ "law" [.d (.list (ns.map .int))] [] = .ok (.d (.bool true)) st) :
    spF Y Φ "law" 1 [.ref a] H (fun v _ => v = .bl true) E := by
  obtain ⟨st, h⟩ := h
  have hR : Rd H a (.lst (ns.map V.int)) := by
    rcases hS with h | ⟨o, its, n, h1, h2, _⟩
    · exact h
    · exact absurd h2 (noLst_ok hK h1)
  refine ⟨rfl, ⟨[], [], [], H⟩, [.d (.list (ns.map .int))], rfl, sr_start hT, .cons (.d (.lst ⟨hR, (fun z => nomatch z), fun ⟨n, c, h1, _⟩ => by simp at h1⟩ (ints_pv ns))) .nil, ?_⟩
  show rpost _ _ _ _ _ _ (Φ "law" [.d (.list (ns.map .int))] [])
  rw [h]
  intro v y _ _ _ r
  exact bool_of r
theorem cx_none {P : Program} {w : World} {outer : List PySem.Env} {H : Hp} {s : Shared} {u : Value} {s' : Shared} (h : L2.CX P w outer H s (fun _ _ _ => False) u s') : False := by
  unfold L2.CX at h
  obtain ⟨_, h⟩ := h
  repeat (first | exact h | (obtain ⟨_, h⟩ := h))
/-- the row's call of the law, by a promise where nothing is guarded -/
theorem law_callG {P : Program} {w : World} {K : PySem.W.Frag} {mg mb : Str → Option Value} {k : Nat} {fa a : Addr} {cs : List (Addr × Addr)} {fd : FuncData} {x : Str} {sp : Sp} {s : Shared} {vs : List Value} {ns : List Int}
    (KX : K.In s.heap) (hns : s.heap.Ns mainGlobals mg) (hb : s.heap.Ns builtinsNs mb) (hbb : ∀ x : Str, x ≠ "__name__" → mb x = bootBuiltins x) (hlim : s.heap.NoLimit) (hg : s.gens = #[])
    (hT : ∀ p ∈ cs, s.heap.get? p.2 = some { cls := .none, data := .fields #[] }) (nT : ∀ p ∈ cs, K.lookup p.2 = none) (hC : ∀ p ∈ cs, PySem.W.CodeHd s.heap p.1 p.2)
    (hbm : ∃ (bm : Addr) (ob : Obj), mg "__builtins__" = some (.ref bm) ∧ bm ≠ builtinsNs ∧ s.heap.get? bm = some ob ∧ ob.cls = .type "module" ∧ ob.dict = some builtinsNs ∧ ob.data = .plain)
    (ha : s.heap.get? a = some { cls := .type "list", data := .seq vs.toArray }) (hi : IntsAre vs ns) (hl : ns.length ≤ sizeLine) (hr : Room k callerA) (hK : K.lookup a = none)
    (F : ∀ base : Heap, K.In base → base.Ns mainGlobals mg → (∀ p ∈ cs, LamX.TabB base mg p.1 p.2) → FnG P w K mg base k fa fd [x] sp) (hbind : ∀ (s : Shared) (u : Value), BindsTo s fd ⟨[u], []⟩ [(x, u)])
    (hsp : ∀ H : Hp, (∀ p ∈ cs, H p.2 = some (.tbl #[])) → SqL K H a (ns.map V.int) → sp [.ref a] H (fun v _ => v = .bl true) fun _ _ _ => False) :
    codeAny (model P w) callerA (.call (.ref fa) ⟨[.ref a], []⟩) (fun r s' => r = .ok (.ret (.bool true)) ∧ OldK s.heap s'.heap ∧ s'.os = s.os ∧ AllBare s'.gens) s := by
  have rv := vals_of_ints hi
  let tabs := cs.map (·.2)
  have isT : ∀ b ∈ tabs, s.heap.get? b = some { cls := .none, data := .fields #[] } := fun b hb => by
    obtain ⟨q, hq, e⟩ := List.mem_map.mp hb
    exact e ▸ hT q hq
  have aT : a ∉ tabs := fun z => by
    have q := isT a z
    rw [ha] at q
    cases q
  have mT : ∀ q ∈ cs, q.2 ∈ tabs := fun q hq => List.mem_map.mpr ⟨q, hq, rfl⟩
  let H0 : Hp := fun b => if b = a then some (.frz { cls := .type "list", data := .seq vs.toArray } (.lst (ns.map V.int))) else if b ∈ tabs then some (.tbl #[]) else none
  have Ha : H0 a = some (.frz { cls := .type "list", data := .seq vs.toArray } (.lst (ns.map V.int))) := if_pos rfl
  have Ht : ∀ b ∈ tabs, H0 b = some (.tbl #[]) := fun b hb => (if_neg (show ¬ b = a from fun z => aT (by rw [← z]; exact hb))).trans (if_pos hb)
  have Hn : ∀ b, b ≠ a → b ∉ tabs → H0 b = none := fun b h1 h2 => (if_neg h1).trans (if_neg h2)
  have cases3 : ∀ b, b = a ∨ b ∈ tabs ∨ (b ≠ a ∧ b ∉ tabs) := fun b => by
    by_cases h1 : b = a
    · exact .inl h1
    · by_cases h2 : b ∈ tabs
      · exact .inr (.inl h2)
      · exact .inr (.inr ⟨h1, h2⟩)
  have hok : HOk P w H0 s.heap := fun b u e => by
    rcases cases3 b with h | h | ⟨h1, h2⟩
    · subst h
      rw [Ha] at e
      cases e
      exact ⟨ha, by rw [List.length_map]; exact hl, vs, _, rv, ha⟩
    · rw [Ht b h] at e
      cases e
      exact isT b h
    · rw [Hn b h1 h2] at e
      cases e
  -- what is neither the script nor a table is hidden from nobody
  have plain : ∀ {b : Addr} {o : Obj}, s.heap.get? b = some o → (∀ us n, o.data ≠ .seq us n) → o.data ≠ .fields #[] → H0 b = none := fun {b o} e h1 h2 => by
    rcases cases3 b with h | h | ⟨h3, h4⟩
    · subst h
      rw [ha] at e
      cases e
      exact (h1 _ _ rfl).elim
    · rw [isT b h] at e
      cases e
      exact (h2 rfl).elim
    · exact Hn b h3 h4
  have to0 : ∀ {b : Addr} {o : Obj}, s.heap.get? b = some o → H0 b = none → (hidT s.heap H0).get? b = some o := fun e n => hidT_get e n
  have nsOf : ∀ {b : Addr} {m : Str → Option Value}, s.heap.Ns b m → (hidT s.heap H0).Ns b m := fun {b m} ⟨o, es, ep, e, d, r⟩ => ⟨o, es, ep, to0 e (plain e (fun us n z => by rw [d] at z; cases z) fun z => by rw [d] at z; cases z), d, r⟩
  have K0 : K.In (hidT s.heap H0) := fun b o e => to0 (KX b o e) (by
    rcases cases3 b with h | h | ⟨h3, h4⟩
    · rw [h, hK] at e
      cases e
    · obtain ⟨q, hq, eq⟩ := List.mem_map.mp h
      rw [← eq, nT q hq] at e
      cases e
    · exact Hn b h3 h4)
  have M0 : L2.Mod K mg (hidT s.heap H0) := ⟨K0, nsOf hns, ⟨mb, nsOf hb, hbb⟩, let ⟨mc, h1, h2⟩ := hlim; ⟨mc, nsOf h1, h2⟩⟩
  have TB : ∀ q ∈ cs, LamX.TabB (hidT s.heap H0) mg q.1 q.2 := fun q hq => by
    have tq := hT q hq
    refine ⟨?_, ?_, fun z => ?_⟩
    · obtain ⟨o, us, file, tf, flags, tg, inF, text, tt, e1, r1, r2, r3, r⟩ := hC q hq
      refine ⟨o, us, file, tf, flags, tg, inF, text, tt, to0 e1 (plain e1 (fun us n z => by rw [r2] at z; cases z) fun z => ?_), r1, r2, r3, r⟩
      rw [r2] at z
      cases z
      simp at r3
    · obtain ⟨bm, ob, b1, b2, b3, b4, b5, b6⟩ := hbm
      refine ⟨bm, ob, b1, b2, fun z => ?_, fun z => ?_, to0 b3 (plain b3 (fun us n z => by rw [b6] at z; cases z) fun z => by rw [b6] at z; cases z), b4, b5, b6⟩
      · obtain ⟨o, es, ep, e, hd, _⟩ := hns
        rw [z, e] at b3
        cases b3
        rw [hd] at b6
        cases b6
      · rw [z, tq] at b3
        cases b3
        cases b6
    · obtain ⟨o, es, ep, e, hd, _⟩ := hns
      rw [z, tq] at e
      cases e
      cases hd
  have e0 : Env0 P w K mg (hidT s.heap H0) callerA [] s H0 := ⟨rfl, M0, fun b o e => of_hidT e, Nat.le_of_eq (hidT_size _ _), trivial, (fun b hb => nomatch hb), hok, .of_eq hg⟩
  refine codeAny_mono ((F _ K0 (nsOf hns) TB).run callerA [] s H0 ⟨[.ref a], []⟩ [.ref a] [.ref a] _ _ hr rfl e0 (hbind s (.ref a)) (.cons rfl .nil) (hsp H0 (fun q hq => Ht _ (mT q hq)) (.inl (.inr ⟨_, Ha⟩)))) fun r s' h => ?_
  cases r with
  | error e => exact (cx_none h).elim
  | ok fl =>
    cases fl with
    | next => exact h.elim
    | brk => exact h.elim
    | cont => exact h.elim
    | ret u =>
      obtain ⟨v, H', os, bare, un, hok', r', q⟩ := h
      have q : v = .bl true := q
      subst q
      obtain rfl : u = Value.bool true := r'
      have stay : ∀ b o, b ∉ tabs → s.heap.get? b = some o → s'.heap.get? b = some o := fun b o nb e => by
        rcases cases3 b with h | h | ⟨h3, h4⟩
        · subst h
          have z2 := un.frzs b _ _ Ha
          obtain ⟨e2, _⟩ := hok' b _ z2
          rw [ha] at e
          cases e
          exact e2
        · exact absurd h nb
        · exact un.keep b o e (Hn b h3 h4) (by intro z; cases z) (by simp)
      have grown : ∀ q ∈ cs, ∃ more : Array Value, s'.heap.get? q.2 = some { cls := .none, data := .fields more } := fun q hq => by
        obtain ⟨more, z⟩ := un.tbls q.2 #[] (Ht _ (mT q hq))
        exact ⟨_, hok' q.2 _ z⟩
      refine ⟨rfl, ⟨fun b o e => ?_, fun b o e => ?_⟩, os, bare⟩
      · by_cases hb : b ∈ tabs
        · obtain ⟨q, hq, eq⟩ := List.mem_map.mp hb
          subst eq
          obtain ⟨more, hm⟩ := grown q hq
          have tq := hT q hq
          rw [tq] at e
          cases e
          exact .inr (.inl ⟨((hC q hq).tab tq).isCodeTable, rfl, #[], more, rfl, by rw [Array.empty_append]; exact hm⟩)
        · exact .inl (stay b o hb e)
      · by_cases hb : b ∈ tabs
        · obtain ⟨q, hq, eq⟩ := List.mem_map.mp hb
          subst eq
          exact ⟨_, (grown q hq).choose_spec⟩
        · exact ⟨o, stay b o hb e⟩
/-- the walk of the law's row -/
theorem walkG {l : PySem.W.OpenLaw} {n k N : Nat} {q : Program} {loose : List Str} {XP : (Str → Option Value) → Heap → Prop} {YP : World → Heap → Prop} {d : DefRec} {EP : Prog}
    (hn : l.most = some n) (hn2 : n ≤ sizeLine) (hdf : d.params.defaults = []) (hr : Room k callerA)
    (F : ∀ (w : World) (mg : Str → Option Value) (fa : Addr) (h : Heap), YP w h → h.Ns mainGlobals mg → mg d.name = some (.ref fa) → ∃ (K : PySem.W.Frag) (G : Gd) (fd : FuncData) (cs : List (Addr × Addr)) (x : Str), K.In h ∧ noLst K = true ∧
      (∀ p ∈ cs, h.get? p.2 = some { cls := .none, data := .fields #[] }) ∧ (∀ p ∈ cs, K.lookup p.2 = none) ∧ (∀ p ∈ cs, PySem.W.CodeHd h p.1 p.2) ∧ (∀ (s : Shared) (u : Value), BindsTo s fd ⟨[u], []⟩ [(x, u)]) ∧
      (∀ H : Hp, (∀ p ∈ cs, H p.2 = some (.tbl #[])) → LamX.Tabs G.tabs H) ∧
      ∀ base : Heap, K.In base → base.Ns mainGlobals mg → (∀ p ∈ cs, LamX.TabB base mg p.1 p.2) → FnG l.prog w K mg base k fa fd [x] (spF ⟨l.prog, w, K, G.fa, G.ca, G.tabs⟩ (callD EP R0 N) "law" 1))
    (hlaw : ∀ ns : List Int, ns.length ≤ n → (∀ z ∈ ns, Builtin.Int.intBits z ≤ 1048576) → ∃ st, callD EP R0 N "law" [.d (.list (ns.map .int))] [] = .ok (.d (.bool true)) st) : PySem.W.WalkO q loose XP YP l.row.toRowW d [] (fun f vs => PySem.call f vs) := by
  refine Att.attach_callB hn hdf fun w s₀ s₁ mg mb fa o pm cd doc a vs ns Gr Y ho hd hcd hmg hobj hints hlen hbits hg => ?_
  obtain ⟨K, G, fd, cs, x, KX, hnl, hT, nT, hC, hb, hTab, hF⟩ := F w mg fa _ Y Gr.T.g hmg
  have hK : K.lookup a = none := by
    cases e : K.lookup a with
    | none => rfl
    | some o =>
      have e2 := KX a o e
      rw [hobj] at e2
      cases e2
      exact absurd rfl (noLst_ok hnl e)
  exact law_callG KX Gr.T.g Gr.T.b Gr.T.builtins Gr.T.nolimit hg hT nT hC Gr.T.bmain hobj hints (Nat.le_trans hlen hn2) hr hK hF hb fun H hH hS => law_sp (Y := ⟨l.prog, w, K, G.fa, G.ca, G.tabs⟩) hnl (hTab H hH) hS (hlaw ns hlen hbits)
def RefK.of {G : Gd} {X : Cx} {n : Str} {hs : List (String × List Nat × List String)} {g : Addr} {pg : Arguments} {sg : Scope} {Ng : List Str} {a : Str} {h0 : ExceptHandler} {hr : List ExceptHandler} {p1 p2 p3 p4 p5 p6 p7 p8 : Pos} {j1 j2 k1 : Nat} {fd : FuncData}
    (F : FunD X.K n n pg [.Try [.Expr (.Call (.Name a p1) [] [] p2) p3] (h0 :: hr) [] [] p4, .Return (some (.Tuple [.Constant (.str (T [])) j1 p5, .Constant .none j2 p6] k1 p7)) p8] sg [] [] g fd) (mg : X.mg n = some (.ref g)) (hb : L2.Binds X.K fd [a] []) (sc : FnScope Ng [a] sg) (n0 : Ng[0]? = some a) (n2 : 1 < Ng.length)
    (va : Vis sg a) (d1 : (a == ("__debug__" : Str)) = false) (d2 : (a == ("__classdict__" : Str)) = false) (tx : HdT G X.mg X.K sg Ng (h0 :: hr) hs) (exm : ∀ q ∈ hs, ∀ r ∈ hs, PySem.W.exmOne X.K (.ref (G.ca q.1)) (.ref (G.ca r.1)) = some (decide (q.1 = r.1))) : RefK G X n hs where
  g := g
  pg := pg
  sg := sg
  Ng := Ng
  a := a
  h0 := h0
  hr := hr
  p1 := p1
  p2 := p2
  p3 := p3
  p4 := p4
  p5 := p5
  p6 := p6
  p7 := p7
  p8 := p8
  j1 := j1
  j2 := j2
  k1 := k1
  mg := mg
  kp := F.kp
  fn := by
    obtain ⟨oc, od, dV, kV, doc, pm, an, cdv, ct, osl, rfl, lk, hcd, _, _⟩ := F.ex
    exact ⟨oc, od, dV, kV, doc, pm, an, cdv, ct, osl, lk, hcd, hb⟩
  sc := sc
  n0 := n0
  n2 := n2
  va := va
  d1 := d1
  d2 := d2
  tx := tx
  exm := exm
/-- the bits that a def's context asks for -/
theorem mkC {G : Gd} {P : Program} {w : World} {K : PySem.W.Frag} {mg : Str → Option Value} {base : Heap} {EP : Prog} {Φ : Call} {k : Nat} {tb : List (Str × String × Nat)} {ci : List (Str × Int)} {cs : List (Str × List Nat)} {ex : List (Str × String)} (ih : ∀ (i : Nat) (q : Str × String × Nat), tb[i]? = some q → FnT G P w K mg base Φ k q.1 q.2.1 q.2.2)
    (k2 : 2 ≤ k) (B : BltN mg) (nI : ∀ (i : Nat) (q : Str × Int), ci[i]? = some q → ∃ t, mg q.1 = some (.int q.2 t)) (nS : ∀ (i : Nat) (q : Str × List Nat), cs[i]? = some q → ∃ t, mg q.1 = some (.str (T q.2) t))
    (he : ∀ q ∈ ex, Ex1 K (G.ca q.2) ∧ mg q.1 = some (.ref (G.ca q.2)) ∧ EP.exc q.2 = some 1) (hi : ∃ fd ps, FnOk P w K mg base CX0 1 (He.ma K (He.ga K "FolkError") "__init__") fd ps (spI K) ∧ L2.Binds K fd ps [])
    {N : List Str} {qual : Str} {scope : Scope} {f : Addr} {cdv : Value} {A : Around} {outer : List PySem.Env} {s : Shared} {H : Hp} {E : XK} (hr : Room (k + 2) (A.deeper (envOfC qual scope s.heap.objs.size f cdv))) (hg : A.guards = some []) (nd : N.Nodup) :
    Cxt G (cxOf (L2.CX P w) P w K mg base N qual scope f cdv A outer s H E) EP Φ k tb ci cs ex :=
  ⟨hr.mono (by omega), k2, hg, rfl, nd, B, fun i q h => let F := ih i q h; ⟨F.gl, F.kp, F.ok, F.ar⟩, nI, nS, fun i q h => by
    obtain ⟨e1, e2, e3⟩ := he q (List.mem_of_getElem? h)
    obtain ⟨fd, ps, h1, h2⟩ := hi
    exact ⟨⟨e1.T, e1.no, e2, _, fd, ps, e1.i1, e1.i2, h1, h2⟩, e3⟩⟩
end FM
end

section
/-! FM20: order of data, sorted, min, max, list, upper, functions as values, enumerate. -/
set_option Elab.async false
set_option linter.all false
set_option maxRecDepth 100000
set_option autoImplicit false
set_option maxHeartbeats 1000000
namespace FM
open PySem PySem.Spec PyProof.Rows L2
/-! ### the order is the library's -/
mutual
theorem alk_alike : ∀ x y : D, alk x y = PySem.W.alike x y
  | .none, y => by cases y <;> simp [alk, PySem.W.alike]
  | .bool _, y => by cases y <;> simp [alk, PySem.W.alike]
  | .int _, y => by cases y <;> simp [alk, PySem.W.alike]
  | .str _, y => by cases y <;> simp [alk, PySem.W.alike]
  | .list xs, y => by cases y <;> simp [alk, PySem.W.alike, alkAll_alike]
  | .tuple xs, y => by cases y <;> simp [alk, PySem.W.alike, alkAll_alike]
  | .dict _, y => by cases y <;> simp [alk, PySem.W.alike]
theorem alkAll_alike : ∀ xs ys : List D, alkAll xs ys = PySem.W.alikeAll xs ys
  | [], _ => by simp [alkAll, PySem.W.alikeAll]
  | _ :: _, [] => by simp [alkAll, PySem.W.alikeAll]
  | x :: xs, y :: ys => by simp [alkAll, PySem.W.alikeAll, alk_alike x y, alkAll_alike xs ys]
end
mutual
theorem ltD_data : ∀ x y : D, alk x y = true → ltD x y = PySem.W.dataLt x y
  | .none, y, h => by
    cases y <;> simp [alk] at h
    rfl
  | .bool a, y, h => by
    cases y <;> simp [alk] at h
    rename_i b
    rw [PySem.W.dataLt_bool]
    cases a <;> cases b <;> rfl
  | .int i, y, h => by
    cases y <;> simp [alk] at h
    rw [PySem.W.dataLt_int]
    rfl
  | .str x, y, h => by
    cases y <;> simp [alk] at h
    rw [PySem.W.dataLt_str]
    exact tl_lt _ _
  | .list xs, y, h => by
    cases y <;> simp [alk] at h
    rw [PySem.W.dataLt_list]
    exact ltAll_data xs _ h
  | .tuple xs, y, h => by
    cases y <;> simp [alk] at h
    rw [PySem.W.dataLt_tuple]
    exact ltAll_data xs _ h
  | .dict _, y, h => by cases y <;> simp [alk] at h
theorem ltAll_data : ∀ xs ys : List D, alkAll xs ys = true → ltAll xs ys = PyProof.Rows.lexLt itemOrd (PySem.W.keyToksAll xs) (PySem.W.keyToksAll ys)
  | [], [], _ => rfl
  | [], y :: ys, _ => rfl
  | x :: xs, [], _ => rfl
  | x :: xs, y :: ys, h => by
    simp only [alkAll, Bool.and_eq_true] at h
    obtain ⟨h1, h2⟩ := h
    have h3 := h1
    rw [alk_alike] at h3
    simp only [ltAll]
    rw [eqD_eqv]
    cases he : PyData.eqv x y with
    | true =>
      rw [PySem.W.dataLt_all_yes h3 he]
      exact ltAll_data xs ys h2
    | false =>
      rw [PySem.W.dataLt_all_no h3 he]
      exact ltD_data x y h1
end
theorem alkAllB_of {xs : List D} (h : alkAllB xs = true) : ∀ x ∈ xs, ∀ y ∈ xs, alk x y = true := by
  intro x hx y hy
  unfold alkAllB at h
  exact List.all_eq_true.mp (List.all_eq_true.mp h x hx) y hy
theorem minL_mem : ∀ (xs : List D) (m : D), minL m xs = m ∨ minL m xs ∈ xs
  | [], m => .inl rfl
  | x :: r, m => by
    simp only [minL]
    rcases minL_mem r (if ltD x m then x else m) with h | h
    · rw [h]
      split
      · exact .inr List.mem_cons_self
      · exact .inl rfl
    · exact .inr (List.mem_cons_of_mem _ h)
theorem maxL_mem : ∀ (xs : List D) (m : D), maxL m xs = m ∨ maxL m xs ∈ xs
  | [], m => .inl rfl
  | x :: r, m => by
    simp only [maxL]
    rcases maxL_mem r (if ltD m x then x else m) with h | h
    · rw [h]
      split
      · exact .inr List.mem_cons_self
      · exact .inl rfl
    · exact .inr (List.mem_cons_of_mem _ h)
theorem minL_data (all : List D) (ha : ∀ x ∈ all, ∀ y ∈ all, alk x y = true) : ∀ (xs : List D) (m : D), m ∈ all → (∀ x ∈ xs, x ∈ all) → minL m xs = PySem.W.minD m xs
  | [], m, _, _ => rfl
  | x :: r, m, hm, hx => by
    simp only [minL]
    have h1 := ltD_data x m (ha x (hx x List.mem_cons_self) m hm)
    rw [minL_data all ha r _ (by split; exact hx x List.mem_cons_self; exact hm) fun y hy => hx y (List.mem_cons_of_mem _ hy), h1]
    rfl
theorem maxL_data (all : List D) (ha : ∀ x ∈ all, ∀ y ∈ all, alk x y = true) : ∀ (xs : List D) (m : D), m ∈ all → (∀ x ∈ xs, x ∈ all) → maxL m xs = PySem.W.maxD m xs
  | [], m, _, _ => rfl
  | x :: r, m, hm, hx => by
    simp only [maxL]
    have h1 := ltD_data m x (ha m hm x (hx x List.mem_cons_self))
    rw [maxL_data all ha r _ (by split; exact hx x List.mem_cons_self; exact hm) fun y hy => hx y (List.mem_cons_of_mem _ hy), h1]
    rfl
theorem depOk_of {xs : List D} (h : depOk xs = true) : PyData.depthAll xs ≤ 64 := by
  induction xs with
  | nil => simp [PyData.depthAll]
  | cons x xs ih =>
    simp only [depOk, List.all_cons, Bool.and_eq_true, decide_eq_true_eq] at h
    have := ih h.2
    rw [PyData.depthAll, ← dep_depth]
    omega
theorem PVs.mem {Y : Rt} {H : Hp} {nl : Addr → Prop} : ∀ {ds : List D} {vs : List V} {i : Nat} {v : V}, PVs Y H nl vs ds → vs[i]? = some v → ∃ d, ds[i]? = some d ∧ PV Y H nl v d := by
  intro ds
  induction ds with
  | nil =>
    intro vs i v h e
    cases h
    simp at e
  | cons d ds ih =>
    intro vs i v h e
    cases h with
    | cons h t =>
      cases i with
      | zero =>
        simp at e
        subst e
        exact ⟨_, rfl, h⟩
      | succ i => exact ih t (by simpa using e)
section
variable {G : Gd} {X : Cx} {Wx : WX} {P : Prog} {R : Fun1} {Φ : Call} {pos : Pos} {e e1 e2 e3 : Expr} {a b c : FM.E} {es : List Expr} {as : Es} {n : Str} {p apos cpos : Pos}
/-! ### min, max of a list -/
theorem reads_mem {h : Heap} : ∀ {us : List Value} {ds : List D} {as : List Addr} {i : Nat} {u : Value} {d : D}, ReadsAll h us ds as → us[i]? = some u → ds[i]? = some d → ∃ bs, Reads h u d bs
  | _, _, _, _, _, _, .nil, h, _ => by simp at h
  | _, _, _, 0, _, _, .cons r rs, h1, h2 => by
    simp at h1 h2
    subst h1 h2
    exact ⟨_, r⟩
  | _, _, _, i + 1, _, _, .cons r rs, h1, h2 => reads_mem rs (by simpa using h1) (by simpa using h2)
theorem vals_at : ∀ {us : List Value} {vs : List V} {i : Nat} {u : Value}, Vals vs us → us[i]? = some u → ∃ v, vs[i]? = some v ∧ RelV v u := by
  intro us
  induction us with
  | nil => intro vs i u h e; simp at e
  | cons w us ih =>
    intro vs i u h e
    cases h with
    | cons r rs =>
      cases i with
      | zero =>
        simp at e
        subst e
        exact ⟨_, rfl, r⟩
      | succ i =>
        obtain ⟨v, h1, h2⟩ := ih rs (by simpa using e)
        exact ⟨v, by simpa using h1, h2⟩
theorem alikeAll_of {x : D} {xs : List D} (h1 : alkAllB (x :: xs) = true) (h2 : (x :: xs).all (fun y => !isNo y) = true) : PySem.W.AlikeAll (x :: xs) := by
  refine ⟨fun y hy z hz => ?_, fun y hy e => ?_⟩
  · rw [← alk_alike]
    exact alkAllB_of h1 y hy z hz
  · have := List.all_eq_true.mp h2 y hy
    rw [e] at this
    simp [isNo] at this
theorem cb_min (hc : X.calm = true) (hu : X.A.units + 66 < cLine) : CallR X (.builtin "min") (rB (yof G X) fun st => b1W R st .min) := by
  intro pins s σ H vs us Q I rv ⟨x, v, wa, w, hv, hx, S, ha, hw, q⟩
  subst hx hv
  simp only [b1W] at hw
  split at hw
  · rename_i d ds hxs
    split at hw
    · rename_i hk
      cases hw
      simp only [Bool.and_eq_true] at hk
      obtain ⟨⟨k1, k2⟩, k3⟩ := hk
      obtain ⟨p, ws, rfl, hp, ps⟩ := (S.vw ha hxs).list
      obtain ⟨its, rv2, hl, hz⟩ := I.list (.inl hp)
      rw [Vals.ref1 rv]
      obtain ⟨as, ra⟩ := PVs.reads (G := G) I ps rv2
      refine PySem.W.min_list_data (I.ok.hd hc) hl.isList ra (alikeAll_of k1 k3) (by have := depOk_of k2; omega) fun i u h' tk bs hi hr hk => ?_
      obtain ⟨v', hv', rv'⟩ := vals_at rv2 (by simpa using hi)
      obtain ⟨d', hd', pv'⟩ := PVs.mem ps hv'
      obtain ⟨cs, rc⟩ := reads_mem ra (by simpa using hi) hd'
      have em : minL d ds = PySem.W.minD d ds := minL_data (d :: ds) (alkAllB_of k1) ds d List.mem_cons_self fun y hy => List.mem_cons_of_mem _ hy
      have hm : minL d ds ∈ d :: ds := by
        rcases minL_mem ds d with h | h
        · rw [h]; exact List.mem_cons_self
        · exact List.mem_cons_of_mem _ h
      have ed : d' = minL d ds := by
        rw [em] at hm ⊢
        exact PySem.W.alike_unique _ _ _ _ _ (by rw [← alk_alike]; exact alkAllB_of k1 _ (List.mem_of_getElem? hd') _ hm) (Reads.keeps hk rc) hr
      exact ⟨v', x.H, I.kept (t' := tk) hk, rv', by rw [ed] at pv'; exact q.d S pv'⟩
    · cases hw
  · cases hw
theorem cb_max (hc : X.calm = true) (hu : X.A.units + 66 < cLine) : CallR X (.builtin "max") (rB (yof G X) fun st => b1W R st .max) := by
  intro pins s σ H vs us Q I rv ⟨x, v, wa, w, hv, hx, S, ha, hw, q⟩
  subst hx hv
  simp only [b1W] at hw
  split at hw
  · rename_i d ds hxs
    split at hw
    · rename_i hk
      cases hw
      simp only [Bool.and_eq_true] at hk
      obtain ⟨⟨k1, k2⟩, k3⟩ := hk
      obtain ⟨p, ws, rfl, hp, ps⟩ := (S.vw ha hxs).list
      obtain ⟨its, rv2, hl, hz⟩ := I.list (.inl hp)
      rw [Vals.ref1 rv]
      obtain ⟨as, ra⟩ := PVs.reads (G := G) I ps rv2
      refine PySem.W.max_list_data (I.ok.hd hc) hl.isList ra (alikeAll_of k1 k3) (by have := depOk_of k2; omega) fun i u h' tk bs hi hr hk => ?_
      obtain ⟨v', hv', rv'⟩ := vals_at rv2 (by simpa using hi)
      obtain ⟨d', hd', pv'⟩ := PVs.mem ps hv'
      obtain ⟨cs, rc⟩ := reads_mem ra (by simpa using hi) hd'
      have em : maxL d ds = PySem.W.maxD d ds := maxL_data (d :: ds) (alkAllB_of k1) ds d List.mem_cons_self fun y hy => List.mem_cons_of_mem _ hy
      have hm : maxL d ds ∈ d :: ds := by
        rcases maxL_mem ds d with h | h
        · rw [h]; exact List.mem_cons_self
        · exact List.mem_cons_of_mem _ h
      have ed : d' = maxL d ds := by
        rw [em] at hm ⊢
        exact PySem.W.alike_unique _ _ _ _ _ (by rw [← alk_alike]; exact alkAllB_of k1 _ (List.mem_of_getElem? hd') _ hm) (Reads.keeps hk rc) hr
      exact ⟨v', x.H, I.kept (t' := tk) hk, rv', by rw [ed] at pv'; exact q.d S pv'⟩
    · cases hw
  · cases hw
theorem xe_min (B : BltN X.mg) (hc : X.calm = true) (hu : X.A.units + 66 < cLine) (ha : FV G X Wx P R Φ e a) (hg : Gl X "min" := by rfl) (hs : starEach [e] X.env = [(false, eval e X.env)] := by rfl) : FV G X Wx P R Φ (.Call (.Name "min" p) [e] [] pos) (.b1 .min a) := fe_bb (cb_min hc hu) boot_min (B.no _ (by decide)) hg (by decide) (by decide) ha hs
theorem xe_max (B : BltN X.mg) (hc : X.calm = true) (hu : X.A.units + 66 < cLine) (ha : FV G X Wx P R Φ e a) (hg : Gl X "max" := by rfl) (hs : starEach [e] X.env = [(false, eval e X.env)] := by rfl) : FV G X Wx P R Φ (.Call (.Name "max" p) [e] [] pos) (.b1 .max a) := fe_bb (cb_max hc hu) boot_max (B.no _ (by decide)) hg (by decide) (by decide) ha hs
end
end FM
end

section
/-! FM21: sorted, list, min and max of two, upper, defs as values. -/
set_option Elab.async false
set_option linter.all false
set_option maxRecDepth 100000
set_option autoImplicit false
set_option maxHeartbeats 1000000
namespace FM
open PySem PySem.Spec PyProof.Rows L2
section
variable {G : Gd} {X : Cx} {Wx : WX} {P : Prog} {R : Fun1} {Φ : Call} {pos : Pos} {e e1 e2 e3 : Expr} {a b c : FM.E} {es : List Expr} {as : Es} {n : Str} {p apos cpos : Pos}
/-! ### sorted -/
theorem each_zip {Y : Rt} {H : Hp} {nl : Addr → Prop} : ∀ {ds : List D} {vs : List V} {us : List Value}, PVs Y H nl vs ds → Vals vs us → PySem.W.EachIs (fun u (q : V × D) => RelV q.1 u ∧ PV Y H nl q.1 q.2) us (vs.zip ds) := by
  intro ds
  induction ds with
  | nil =>
    intro vs us h r
    cases h
    cases r
    exact .nil
  | cons d ds ih =>
    intro vs us h r
    cases h with
    | cons h t =>
      cases r with
      | cons r rs => exact .cons ⟨r, h⟩ (ih t rs)
theorem zip_snd : ∀ {ds : List D} {vs : List V}, vs.length = ds.length → (vs.zip ds).map (·.2) = ds := by
  intro ds
  induction ds with
  | nil => intro vs h; simp
  | cons d ds ih =>
    intro vs h
    cases vs with
    | nil => simp at h
    | cons v vs => simp [ih (by simpa using h)]
theorem zip_out {Y : Rt} {H : Hp} {nl : Addr → Prop} {us : List Value} {bs : List (V × D)} (h : PySem.W.EachIs (fun u (q : V × D) => RelV q.1 u ∧ PV Y H nl q.1 q.2) us bs) : Vals (bs.map (·.1)) us ∧ PVs Y H nl (bs.map (·.1)) (bs.map (·.2)) := by
  induction h with
  | nil => exact ⟨.nil, .nil⟩
  | cons h _ ih => exact ⟨.cons h.1 ih.1, .cons h.2 ih.2⟩
theorem sortable_of {xs : List D} (h : sortable xs = true) : PySem.W.Sortable xs := by
  unfold sortable at h
  simp only [Bool.or_eq_true, List.all_eq_true] at h
  rcases h with h | h
  · refine .inl fun d hd => ?_
    have h1 := h d hd
    match d, h1 with
    | .tuple (x :: r), _ => exact ⟨x, r, rfl⟩
  · refine .inr fun d hd => ?_
    have h1 := h d hd
    exact ⟨fun z => (by subst z; cases h1), fun l z => (by subst z; cases h1)⟩
theorem sortD_data {xs : List D} (h : alkAllB xs = true) : xs.mergeSort (PySem.W.dataLe false id) = sortD xs := by
  refine PySem.W.sort_congr fun x hx y hy => ?_
  show (!PySem.W.dataLt y x) = leD x y
  unfold leD
  rw [ltD_data y x (alkAllB_of h y hy x hx)]
/-- the items of a list, as data -/
def rSortedD (Y : Rt) : List V → Hp → VK → Prop := fun vs H Q => ∃ x v w xs, vs = [v] ∧ x.H = H ∧ SR Y x ∧ WV Y x v w ∧ (lstW x.st w).bind allD = some xs ∧ sortOk xs = true ∧ ∀ (q : Addr) (vs' : List V), x.H q = none → PVs Y x.H x.nl vs' (sortD xs) → Q (.ref q) (upd x.H q (.lst vs'))
theorem cr_sortedD (hu : X.A.units + 66 < cLine) : CallR X (.builtin "sorted") (rSortedD (yof G X)) := by
  intro pins s σ H vs us Q I rv ⟨x, v, w, xs, hv, hx, S, hw, hxs, hok, q⟩
  subst hx hv
  obtain ⟨ws, hl, hd⟩ := Option.bind_eq_some_iff.mp hxs
  obtain ⟨p, vs0, rfl, hp, rs⟩ := lst_of S hw hl
  have ps := rs.pvs hd
  obtain ⟨its, rv2, hl2, hz⟩ := I.list (.inl hp)
  rw [Vals.ref1 rv]
  simp only [sortOk, Bool.and_eq_true, decide_eq_true_eq] at hok
  obtain ⟨k1, k2, k3, k4⟩ := hok
  have hlen := ps.length
  have hs2 := zip_snd hlen
  have ez := each_zip ps rv2
  have hbl : (vs0.zip xs).length = xs.length := by simp [hlen]
  have hm : ∀ b ∈ vs0.zip xs, b.2 ∈ xs := fun b hb => by
    rw [← hs2]
    exact List.mem_map.mpr ⟨b, hb, rfl⟩
  have hal : PySem.W.AllAlike ((vs0.zip xs).map (·.2)) := by
    rw [hs2]
    intro d hd d' hd'
    rw [← alk_alike]
    exact alkAllB_of k1 d hd d' hd'
  refine PySem.W.sorted_data (β := V × D) (R := fun u (q : V × D) => RelV q.1 u ∧ PV (yof G X) x.H x.nl q.1 q.2) (enc := (·.2)) (bs := vs0.zip xs) hl2.isList ez (ez.mono fun u q h => PV.reads (G := G) I h.2 h.1) hal (by rw [hs2]; exact sortable_of k2) (by rw [hbl, ← SZ_eq]; exact k4) (fun b hb => ?_) fun out ho eo => ?_
  · have h1 := List.all_eq_true.mp k3 b.2 (hm b hb)
    simp only [decide_eq_true_eq] at h1
    rw [dep_depth] at h1
    omega
  · obtain ⟨r1, r2⟩ := zip_out eo
    have e1 : ((vs0.zip xs).mergeSort (PySem.W.dataLe false (·.2))).map (·.2) = sortD xs := by
      have e2 : ((vs0.zip xs).mergeSort (PySem.W.dataLe false (·.2))).map (·.2) = ((vs0.zip xs).map (·.2)).mergeSort (PySem.W.dataLe false id) := PySem.W.sort_maps (fun q : V × D => q.2) fun _ _ _ _ => rfl
      rw [e2, hs2, sortD_data k1]
    rw [e1] at r2
    obtain ⟨ep, he'⟩ := PyProof.Rows.sortedAll_at s.heap its out.toArray
    have hlen2 : (((vs0.zip xs).mergeSort (PySem.W.dataLe false (·.2))).map (·.1)).length ≤ sizeLine := by
      rw [List.length_map, List.length_mergeSort, hbl, ← SZ_eq]
      exact k4
    exact ⟨.ref _, upd x.H (s.heap.objs.size + 1) (.lst (((vs0.zip xs).mergeSort (PySem.W.dataLe false (·.2))).map (·.1))), I.laid (t' := s.toks) (fun _ _ => PyProof.Rows.sortedAll_old) (Nat.le_succ _) ⟨hlen2, out, ep, r1, he'⟩, rfl, q _ _ (I.hok.fresh (Nat.le_succ _)) r2⟩
theorem ff_sorted (hu : X.A.units + 66 < cLine) (hg : Gl X "sorted") (hm : X.mg "sorted" = none) (ha : FV G X Wx P R Φ e a) (hs : starEach [e] X.env = [(false, eval e X.env)] := by rfl) : FF G X Wx P R Φ (.Call (.Name "sorted" p) [e] [] pos) (.sorted a) := by
  refine (pe_callB (cr_sortedD (G := G) hu) hg hm boot_sorted (pa_cons ha pa_nil hs) (by decide) (by decide) hs rfl).imp fun σ H Q ⟨ρ, x, hx, S, En, h⟩ => ?_
  rw [evF] at h
  refine ⟨ρ, x, hx, S, En, rpostF_bind h fun v y w e1 Sy r h2 => ?_⟩
  split at h2
  · rename_i xs hxs
    split at h2
    · rename_i hok
      refine ⟨y, v, w, xs, rfl, rfl, Sy, r, hxs, hok, fun q vs' hq ps => ?_⟩
      obtain ⟨e4, m4, S4⟩ := new_res (o := .lst vs') Sy hq (fun _ z => by cases z)
      exact h2 _ q (.inl vs') e4 S4 rfl (NT.of hq) upd_same (Sy.fresh hq) (m4.wvs ps.wvs)
    · exact h2.elim
  · exact h2.elim
/-! ### list(..) -/
def rListD (Y : Rt) : List V → Hp → VK → Prop := fun vs H Q => ∃ x v w s, vs = [v] ∧ x.H = H ∧ SR Y x ∧ WV Y x v w ∧ srcW x.st w = some s ∧ ∀ (q : Addr) (vs' : List V), x.H q = none → WVs Y x vs' s.1 → Q (.ref q) (upd x.H q (.lst vs'))
theorem cr_listD (hc : X.calm = true) : CallR X (.type "list") (rListD (yof G X)) := by
  intro pins s σ H vs us Q I rv ⟨x, v, w, src, hv, hx, S, hw, hsrc, q⟩
  subst hx hv
  cases hw with
  | @d _ d r =>
    cases d <;> simp only [srcW, reduceCtorEq] at hsrc
    · split at hsrc <;> cases hsrc
      rename_i z hz
      cases r
      obtain ⟨u, rfl, t, rfl⟩ := vals1 rv
      have hz2 : z.length ≤ sizeLine := by rw [len_eq, ← SZ_eq]; exact hz
      refine call_list_str (I.ok.hd hc) z t (hn := hz2) fun h' tk acc' c' hk hS' hacc => ?_
      have hl : (signs z).length ≤ sizeLine := by simpa [signs, Str.length] using hz2
      exact ⟨.ref _, upd x.H s.heap.objs.size (.lst (signs z)), I.laid (t' := tk) (fun b o e => hk b o e) (Nat.le_refl _) ⟨hl, acc'.toList, c', signs_vals hacc, by simpa using hS'⟩, rfl, q _ _ (I.hok.fresh (Nat.le_refl _)) (signs_wvs z)⟩
    · cases hsrc
      cases r with
      | lst h1 h2 => exact call_list_of pins s σ _ _ _ _ I rv ⟨_, _, rfl, .inl h1.sq, fun l hl => q l _ hl h2.wvs⟩
    · cases hsrc
      cases r with
      | tup h1 h2 => exact call_list_of pins s σ _ _ _ _ I rv ⟨_, _, rfl, .inr h1.sq, fun l hl => q l _ hl h2.wvs⟩
  | @ref n p hn =>
    simp only [srcW] at hsrc
    split at hsrc
    · rename_i ws hcl
      cases hsrc
      obtain ⟨vs, hH, rs⟩ := S.cell _ _ _ hn hcl
      exact call_list_of pins s σ _ _ _ _ I rv ⟨_, _, rfl, .inl (.inl (.inl hH)), fun l hl => q l _ hl rs⟩
    · cases hsrc
  | fn f => simp [srcW] at hsrc
theorem ff_list (hc : X.calm = true) (hg : Gl X "list") (hm : X.mg "list" = none) (ha : FV G X Wx P R Φ e a) (hs : starEach [e] X.env = [(false, eval e X.env)] := by rfl) : FF G X Wx P R Φ (.Call (.Name "list" p) [e] [] pos) (.list a) := by
  refine (pe_callTy (cr_listD (G := G) hc) hg hm PyProof.Rows.boot_list (pa_cons ha pa_nil hs) (by decide) (by decide) hs rfl).imp fun σ H Q ⟨ρ, x, hx, S, En, h⟩ => ?_
  rw [evF] at h
  refine ⟨ρ, x, hx, S, En, rpostF_bind h fun v y w e1 Sy r h2 => ?_⟩
  split at h2
  · rename_i src hsrc
    refine ⟨y, v, w, src, rfl, rfl, Sy, r, hsrc, fun q vs' hq ps => ?_⟩
    obtain ⟨e4, m4, S4⟩ := new_res (o := .lst vs') Sy hq (fun _ z => by cases z)
    exact h2 _ q (.inl vs') e4 S4 rfl (NT.of hq) upd_same (Sy.fresh hq) (m4.wvs ps)
  · exact h2.elim
/-! ### min(a, b), max(a, b) of ints -/
def rB2 (Y : Rt) (k : B2) : List V → Hp → VK → Prop := fun vs H Q => ∃ x v u a b w, vs = [v, u] ∧ x.H = H ∧ SR Y x ∧ WV Y x v a ∧ WV Y x u b ∧ b2W k a b = some w ∧ After Y x w Q
theorem cb_min2 (hc : X.calm = true) : CallR X (.builtin "min") (rB2 (yof G X) .min) := by
  intro pins s σ H vs us Q I rv ⟨x, v, u, wa, wb, w, hv, hx, S, ha, hb, hw, q⟩
  subst hx hv
  unfold b2W at hw
  split at hw <;> cases hw
  · rename_i z
    cases z
  · cases ha with
    | d ha =>
      cases hb with
      | d hb =>
        cases ha
        cases hb
        exact call_min2 hc pins s σ _ _ _ _ I rv ⟨_, _, rfl, q.d S (.int _)⟩
theorem cb_max2 (hc : X.calm = true) : CallR X (.builtin "max") (rB2 (yof G X) .max) := by
  intro pins s σ H vs us Q I rv ⟨x, v, u, wa, wb, w, hv, hx, S, ha, hb, hw, q⟩
  subst hx hv
  unfold b2W at hw
  split at hw <;> cases hw
  · cases ha with
    | d ha =>
      cases hb with
      | d hb =>
        cases ha
        cases hb
        exact call_max2 hc pins s σ _ _ _ _ I rv ⟨_, _, rfl, q.d S (.int _)⟩
  · rename_i z
    cases z
theorem xe_b2 {k : B2} {id : String} (hcr : CallR X (.builtin id) (rB2 (yof G X) k)) (hm : X.mg n = none) (hv : bootBuiltins n = some (.builtin id)) (ha : FV G X Wx P R Φ e1 a) (hb : FV G X Wx P R Φ e2 b) (hg : Gl X n) (hn : n ≠ "__name__") (hd : (n == ("__debug__" : Str)) = false)
    (hs : starEach [e1, e2] X.env = (false, eval e1 X.env) :: starEach [e2] X.env) (hs2 : starEach [e2] X.env = [(false, eval e2 X.env)]) (hpl : (backTo pos (starEach [e2] X.env)).any (·.1) = false) : FV G X Wx P R Φ (.Call (.Name n p) [e1, e2] [] pos) (.b2 k a b) := by
  refine (pe_callB hcr hg hm hv (pa_cons ha (pa_cons hb pa_nil hs2) hs) hn hd hs hpl).imp fun σ H Q ⟨ρ, x, hx, S, En, h⟩ => ?_
  rw [evE] at h
  refine ⟨ρ, x, hx, S, En, rpost_bind h fun v y w e1 Sy r h2 => ⟨ρ, y, rfl, Sy, En.ext e1, rpost_bind h2 fun u z w2 e2 Sz r2 h3 => ?_⟩⟩
  obtain ⟨w', hw, k⟩ := rpost_of h3
  exact ⟨z, v, u, w, w2, w', rfl, rfl, Sz, e2.wv r, r2, hw, k⟩
theorem xe_min2 (B : BltN X.mg) (hc : X.calm = true) (ha : FV G X Wx P R Φ e1 a) (hb : FV G X Wx P R Φ e2 b) (hg : Gl X "min" := by rfl) (hs : starEach [e1, e2] X.env = (false, eval e1 X.env) :: starEach [e2] X.env := by rfl) (hs2 : starEach [e2] X.env = [(false, eval e2 X.env)] := by rfl) (hpl : (backTo pos (starEach [e2] X.env)).any (·.1) = false := by rfl) :
    FV G X Wx P R Φ (.Call (.Name "min" p) [e1, e2] [] pos) (.b2 .min a b) := xe_b2 (cb_min2 hc) (B.no _ (by decide)) boot_min ha hb hg (by decide) (by decide) hs hs2 hpl
theorem xe_max2 (B : BltN X.mg) (hc : X.calm = true) (ha : FV G X Wx P R Φ e1 a) (hb : FV G X Wx P R Φ e2 b) (hg : Gl X "max" := by rfl) (hs : starEach [e1, e2] X.env = (false, eval e1 X.env) :: starEach [e2] X.env := by rfl) (hs2 : starEach [e2] X.env = [(false, eval e2 X.env)] := by rfl) (hpl : (backTo pos (starEach [e2] X.env)).any (·.1) = false := by rfl) :
    FV G X Wx P R Φ (.Call (.Name "max" p) [e1, e2] [] pos) (.b2 .max a b) := xe_b2 (cb_max2 hc) (B.no _ (by decide)) boot_max ha hb hg (by decide) (by decide) hs hs2 hpl
/-! ### upper -/
theorem up_eq {z : Str} (h : (tl z).all (fun c => decide (c < 128)) = true) : Txt.upper z = T ((tl z).map upper1) := by
  rw [PyProof.Rows.upper_ascii (x := z) (fun c hc => of_decide_eq_true (List.all_eq_true.mp h c hc))]
  have e : tl (⟨z.cps.map PyProof.Rows.up1⟩ : Str) = (tl z).map upper1 := by
    show (z.cps.map PyProof.Rows.up1).toList = _
    rw [Array.toList_map]
    rfl
  rw [← e, T_tl]
theorem fe_upper (ha : FV G X Wx P R Φ e1 a) (hbase : attributeBase e1 "upper" X.env (eval e1 X.env) = eval e1 X.env := by rfl) (hline : (apos.endLine == cpos.line) = true := by rfl) : FV G X Wx P R Φ (.Call (.Attribute e1 "upper" apos) [] [] cpos) (.m0 .upper a) := by
  refine (pe_m0 F.slot_str_upper F.type_str_upper mt_upper ha hbase hline).imp fun σ H Q ⟨ρ, x, hx, S, En, h⟩ => ?_
  rw [evE] at h
  refine ⟨ρ, x, hx, S, En, rpost_bind h fun v y w e1 Sy r h2 => ?_⟩
  obtain ⟨w', hw, k⟩ := rpost_of h2
  unfold m0W at hw
  split at hw
  · rename_i hm
    cases hm
  · rename_i z _
    split at hw
    · rename_i hz
      cases hw
      simp only [Bool.and_eq_true, decide_eq_true_eq] at hz
      cases r with
      | d r =>
        cases r
        refine ⟨⟨z, rfl⟩, z, rfl, rfl, by rw [len_eq]; omega, ?_⟩
        rw [up_eq hz.1]
        exact k _ y (Ext.refl y) Sy rfl (.d (.str _))
    · cases hw
  · cases hw
/-! ### defs as values -/
theorem fe_gfn {f : String} {m k : Nat} (F : FnK G X Φ k n f m) (hP : P.glob f = some (.fn f)) (hg : Gl X n := by rfl) (hd : (n == ("__debug__" : Str)) = false := by decide) : FV G X Wx P R Φ (.Name n pos) (.glob f) :=
  fe_glob (v := .ref (G.fa f)) hg F.mg rfl hP (fun x _ => .fn f) hd
/-- the call of a local that holds one of some defs -/
def CandOk (G : Gd) (X : Cx) (Φ : Call) (k : Nat) (cs : List String) : Prop := ∀ f ∈ cs, ∃ n m, FnK G X Φ k n f m
theorem cand_nil {k : Nat} : CandOk G X Φ k [] := fun f h => by cases h
theorem cand_cons {k m : Nat} {f : String} {cs : List String} (F : FnK G X Φ k n f m) (h : CandOk G X Φ k cs) : CandOk G X Φ k (f :: cs) := fun g hg => by
  rcases List.mem_cons.mp hg with e | hg
  · subst e
    exact ⟨_, _, F⟩
  · exact h g hg
theorem fe_callv {E : XK} {i k : Nat} {cs : List String} {a1 : FM.E} (C : CandOk G X Φ k cs) (hr : Room k X.A) (hgd : X.A.guards = some []) (tk : Takes X (wE E)) (ha : FL G X (wE E) P R Φ (e1 :: es) (.cons a1 as)) (hN : X.N[i]? = some n := by rfl) (hv : Vis X.env.scope n := by first | exact Or.inl rfl | exact Or.inr (Or.inl rfl) | exact Or.inr (Or.inr rfl)) (hdb : (n == ("__debug__" : Str)) = false := by decide) (hcd : (n == ("__classdict__" : Str)) = false := by decide)
    (he : starEach (e1 :: es) X.env = (false, eval e1 X.env) :: starEach es X.env := by rfl) (hpl : (backTo pos (starEach es X.env)).any (·.1) = false := by rfl) : FV G X (wE E) P R Φ (.Call (.Name n p) (e1 :: es) [] pos) (.callv i cs (.cons a1 as)) := by
  refine ⟨fun pins s σ H Q I ⟨ρ, x, hx, S, En, h⟩ => ?_⟩
  rw [evE] at h
  cases hw : varW ρ i with
  | none => rw [hw] at h; exact h.elim
  | some w =>
    rw [hw] at h
    cases w with
    | d _ => exact h.elim
    | ref _ => exact h.elim
    | fn f =>
      have h : rpost (yof G X) (wE E) σ x (fun y v w => WV (yof G X) y v w) Q (if cs.contains f then (evEs P R Φ (.cons a1 as) ρ x.st).bind fun ws st => Φ f ws st else .bad) := h
      split at h
      · rename_i hf
        obtain ⟨n', m, F⟩ := C f (by simpa using hf)
        obtain ⟨v, hσ, rv⟩ := En.var hw
        cases rv
        obtain ⟨fd, ps, hps, FG, hb⟩ := F.ok
        refine wpAny_Call_Name_kw (thn ((pe_var (pos := p) hN hv hdb hcd).run pins s σ H (fun v H1 => v = .ref (G.fa f) ∧ H1 = H) I ⟨.ref (G.fa f), hσ, rfl, rfl⟩) fun u s1 ⟨v, H1, I1, r1, q1⟩ => ?_)
        obtain ⟨rfl, rfl⟩ := q1
        cases r1
        refine PySem.W.callWith_K (h₀ := X.base) I.ok.mod.kin F.kp (thn (ha.run pos pins s1 σ _ (fun vs H1 => spF (yof G X) Φ f m vs H1 Q E) I1 ⟨ρ, x, hx, S, En, rpost_bind h fun vs y ws e1 Sy r h2 => ?_⟩) fun us s2 ⟨vs, H2, I2, r, q⟩ => ⟨I2.kIn, run_g FG hr hgd hb tk I2 r q⟩) he hpl
        by_cases hl : ws.length = m
        · exact ⟨by rw [r.length, hl], y, ws, rfl, Sy, r, rpost_wE h2⟩
        · rw [F.ar ws y.st hl] at h2
          exact h2.elim
      · exact h.elim
end
end FM
end

section
/-! FM22: enumerate over lists and tuples, from any start. -/
set_option Elab.async false
set_option linter.all false
set_option maxRecDepth 100000
set_option autoImplicit false
set_option maxHeartbeats 1000000
namespace FM
open PySem PySem.Spec PyProof.Rows L2
/-! ### enumerate(v) begins -/
set_option maxHeartbeats 1000000 in
theorem meets_enum1 {v : Value} {o : Obj} {H : Heap → Prop} (B : Begins v o H) :
    Meets (Builtin.«enumerate.__new__» ⟨[.type "enumerate", v], []⟩) (fun _ R s => H s.heap ∧
      R (.ok (.ret (.ref (s.heap.push o).objs.size))) { s with heap := (s.heap.push o).push { cls := .type "enumerate", data := .fields #[.none, .bool false, .ref s.heap.objs.size, rawInt 0, .none, .none] } }) :=
  .of_wp fun prog w A R s h => by
    obtain ⟨hp, g, d, tk, os⟩ := s; obtain ⟨h1, h⟩ := h
    have hsub := sub_enumerate
    have q1 : ∀ {A' : Around} {E : Value → Shared → Prop} {Q : Value → Shared → Prop}, Q (.ref hp.objs.size) ⟨hp.push o, g, d, tk, os⟩ → wpAny (model prog w) A' (pyIter v) Q E ⟨hp, g, d, tk, os⟩ :=
      fun q => B.iter prog w _ _ ⟨hp, g, d, tk, os⟩ _ h1 q
    wp_walk using q1
    refine wpAny_stack_any fun st => wpAny_pure ?_
    split
    · rename_i c _ _ _ _ _
      cases (c == Value.type "enumerate")
      · wp_walk using q1
        exact ⟨_, rfl, h⟩
      · wp_walk using q1
        exact ⟨_, rfl, h⟩
    · wp_walk using q1
      exact ⟨_, rfl, h⟩
section
variable {prog : Program} {w : World} {A : Around} {E : Value → Shared → Prop} {s : Shared}
theorem enum_new1 {v : Value} {o : Obj} {H : Heap → Prop} {Q : Value → Shared → Prop} (B : Begins v o H) (h1 : H s.heap)
    (h : ∀ h', IsEnum h' (s.heap.objs.size + 1) s.heap.objs.size 0 .none → h'.get? s.heap.objs.size = some o → h'.objs.size = s.heap.objs.size + 2 →
      (∀ b o, s.heap.get? b = some o → h'.get? b = some o) → Q (.ref (s.heap.objs.size + 1)) { s with heap := h' }) :
    wpAny (model prog w) A (call (.type "enumerate") [v]) Q E s := by
  refine callType_new F.called_enumerate (by decide) (F.typeCall_enumerate_1 _) (F.newCall_enumerate_1 _) (fun obj => F.args_object_init_2 obj _) F.entry_enumerate_new
    (meets_enum1 B) ⟨h1, ?_⟩
  have hz : (s.heap.push o).objs.size = s.heap.objs.size + 1 := Heap.size_push ..
  show _ ∧ _
  rw [hz]
  have he : IsEnum ((s.heap.push o).push { cls := .type "enumerate", data := .fields #[.none, .bool false, .ref s.heap.objs.size, rawInt 0, .none, .none] }) (s.heap.objs.size + 1) s.heap.objs.size 0 .none := by
    have := Heap.get?_push_size (s.heap.push o) (o := { cls := .type "enumerate", data := .fields #[.none, .bool false, .ref s.heap.objs.size, rawInt 0, .none, .none] }) rfl
    rw [hz] at this; exact this
  exact ⟨⟨_, he, rfl⟩, h _ he (Heap.get?_push_of_some _ (Heap.get?_push_size _ B.free)) (by rw [Heap.size_push, hz]) fun b o x => Heap.get?_push_of_some _ (Heap.get?_push_of_some _ x)⟩
end
/-! ### the turns -/
/-- a row (a list or a tuple) as it stands -/
def SqX (t : Bool) (K : PySem.W.Frag) (H : Hp) (a : Addr) (xs : List V) : Prop := if t then SqT K H a xs else SqL K H a xs
def RowV (t : Bool) (h : Heap) (a : Addr) (its : Array Value) : Prop := if t then h.IsTuple a its else h.IsList a its
def ItrV (t : Bool) (h : Heap) (it a : Addr) (i : Nat) : Prop := if t then h.IsTupleIter it a i else h.IsListIter it a i
def IteX (t : Bool) (K : PySem.W.Frag) (c : Int) (a : Addr) : It :=
  ⟨fun i H => ∃ (xs : List V) (x : V), SqX t K H a xs ∧ xs[i]? = some x, fun i H v H' => ∃ T x, v = .ref T ∧ H T = none ∧ H' = upd H T (.tup [.int (c + (i : Nat)), x]) ∧ ∀ xs, SqX t K H a xs → xs[i]? = some x, fun i H => ∃ xs : List V, SqX t K H a xs ∧ xs.length ≤ i⟩
theorem sqx_row {t : Bool} {X : Cx} {pins : List (Addr × Obj)} {σ : L2.St} {H : Hp} {s : Shared} {a : Addr} {xs : List V} (I : Inv X pins σ H s) (h : SqX t X.K H a xs) : ∃ its : List Value, Vals xs its ∧ RowV t s.heap a its.toArray := by
  cases t with
  | true =>
    obtain ⟨its, rv, p, _⟩ := I.tuple h
    exact ⟨its, rv, p⟩
  | false =>
    obtain ⟨its, rv, p, _⟩ := I.list h
    exact ⟨its, rv, p.isList⟩
theorem sqx_inj {t : Bool} {X : Cx} {pins : List (Addr × Obj)} {σ : L2.St} {H : Hp} {s : Shared} {a : Addr} {xs ys : List V} (I : Inv X pins σ H s) (h : SqX t X.K H a xs) (h' : SqX t X.K H a ys) : xs = ys := by
  cases t with
  | true => exact I.tuple_inj h h'
  | false => exact I.list_inj h h'
theorem drawsX {t : Bool} {prog : Program} {w : World} {A : Around} (hh : A.handled = none) (it a : Addr) (hne : a ≠ it) (items : Array Value) :
    Draws prog w A it [it, a] items.size (fun i v => items[i]? = some v) (fun i h => ItrV t h it a i ∧ RowV t h a items) := by
  cases t with
  | true => exact Draws.tuple hh it a hne items
  | false => exact Draws.list hh it a hne items
theorem ItrV.live {t : Bool} {h : Heap} {it a : Addr} {i : Nat} (x : ItrV t h it a i) : ∃ o, h.get? it = some o ∧ ∀ v, o.data ≠ .cell v := by
  cases t with
  | true => exact let ⟨o, h1, _, h2⟩ := x; ⟨o, h1, fun v z => by rw [h2] at z; cases z⟩
  | false => exact let ⟨o, h1, _, h2⟩ := x; ⟨o, h1, fun v z => by rw [h2] at z; cases z⟩
theorem ItrV.keep {t : Bool} {h h' : Heap} {it a : Addr} {i : Nat} (x : ItrV t h it a i) (k : ∀ o, h.get? it = some o → h'.get? it = some o) : ItrV t h' it a i := by
  cases t with
  | true => exact let ⟨o, h1, h2⟩ := x; ⟨o, k o h1, h2⟩
  | false => exact let ⟨o, h1, h2⟩ := x; ⟨o, k o h1, h2⟩
theorem enum_endX {t : Bool} {prog : Program} {w : World} {A : Around} {E : Value → Shared → Prop} {s : Shared} {e it l : Addr} {c : Int} {i : Nat} {items : Array Value} {old : Value} {Q : Option Value → Shared → Prop} (hh : A.handled = none)
    (he : IsEnum s.heap e it c old) (hit : ItrV t s.heap it l i) (hl : RowV t s.heap l items) (hx : items[i]? = none)
    (hQ : ∀ h', Heap.ExtBut it s.heap h' → Q none { s with heap := h' }) : wpAny (model prog w) A (pyNext (.ref e)) Q E s := by
  have hT : s.TypeIs (.ref e) "enumerate" := ⟨_, he, rfl⟩
  unfold pyNext
  refine wpAny_bind (wpAny_attempt (wpAny_callSpecial?_slot (name := Str.ofString "__next__") hT F.slot_enumerate_next
    (wpAny_call_entry F.slot_enumerate_next hT F.entry_enumerate_next ?_ (F.args_enumerate_next_1 _))))
  show wpAny _ _ (field (.ref e) 2 >>= _) _ _ _
  refine wpAny_bind (wpAny_field he rfl (x := .ref it) rfl ?_)
  cases t with
  | true =>
    refine wpAny_bind (wpAny_nextOf_tuple_end hh hit hl hx fun h' x he' hx' => ?_)
    obtain ⟨o, ho, hc⟩ := hx'
    refine wpAny_bind (wpAny_isInstance (T := "StopIteration") (b := true) ⟨o, ho, hc⟩ isSubtype_stop ?_)
    exact wpAny_pure (hQ _ he')
  | false =>
    refine wpAny_bind (wpAny_nextOf_list_end hh hit hl hx fun h' x he' hx' => ?_)
    obtain ⟨o, ho, hc⟩ := hx'
    refine wpAny_bind (wpAny_isInstance (T := "StopIteration") (b := true) ⟨o, ho, hc⟩ isSubtype_stop ?_)
    exact wpAny_pure (hQ _ he')
theorem turn_enumX {t : Bool} {P : Program} {w : World} {K : PySem.W.Frag} {elts : List Expr} {kk : Nat} {tpos : Pos} {c : Int} (a e it : Addr) :
    Turn P w K (.Tuple elts kk tpos) (IteX t K c a) [e, it] e (fun i h => (∃ old, IsEnum h e it (c + ((i : Nat) : Int)) old) ∧ ItrV t h it a i ∧ e ≠ it ∧ e ≠ a ∧ a ≠ it) where
  mem := by simp
  obj := fun i h st b hb => by
    obtain ⟨⟨old, he⟩, hi, _⟩ := st
    obtain ⟨o, ho, hd⟩ := hi.live
    have e' : b = e ∨ b = it := by simpa using hb
    rcases e' with z | z
    · rw [z]; exact ⟨_, he, fun v q => nomatch q⟩
    · rw [z]; exact ⟨o, ho, hd⟩
  keep := fun i h h' st k => let ⟨⟨old, he⟩, hi, hne⟩ := st; ⟨⟨old, k e (by simp) _ he⟩, hi.keep fun o q => k it (by simp) o q, hne⟩
  item := by
    intro X hP hw hK hc i pins s σ H E I hf st hg
    subst hP hw hK
    obtain ⟨⟨old, he⟩, hit, hne, hea, hai⟩ := st
    obtain ⟨xs, x, hq, hx⟩ := hg
    obtain ⟨its, rv, p⟩ := sqx_row I hq
    obtain ⟨u, hu, ru⟩ := rv.get hx
    have hel : e < s.heap.objs.size := Heap.lt_size he
    have hil : it < s.heap.objs.size := by obtain ⟨_, q, _⟩ := hit.live; exact Heap.lt_size q
    have hlt : i < its.toArray.size := by
      have := (List.getElem?_eq_some_iff.mp hu).1
      simpa using this
    refine wpAny_pyNext_enum_itemC (drawsX (t := t) (A := X.A.in1) (I.ok.hd hc) it a hai its.toArray) he ⟨hit, p⟩ hlt hne (by simp [hne, hea]) fun y h' tk hy ho st' hT hsz hk => ?_
    obtain ⟨hit', _⟩ := st'
    have ey : y = u := by
      have h1 : its.toArray[i]? = some y := hy
      have h2 : its.toArray[i]? = some u := by simpa using hu
      rw [h1] at h2
      exact Option.some.inj h2
    subst ey
    refine ⟨_, rfl, wpAny_letOwnedTupleGo_enum (s := { s with heap := h', toks := tk + 1 }) ho fun h'' he' sb => ?_⟩
    have hT2 : h''.get? s.heap.objs.size = some { cls := .type "tuple", data := .seq #[.int (c + (i : Nat)) tk, y] } := (sb.2 _ (Nat.ne_of_gt hel)).trans hT
    have new : ObjOk X.prog X.w (upd H s.heap.objs.size (.tup [.int (c + (i : Nat)), x])) h'' s.heap.objs.size (.tup [.int (c + (i : Nat)), x]) :=
      ⟨by show 2 ≤ sizeLine; decide, [.int (c + (i : Nat)) tk, y], .cons ⟨_, rfl⟩ (.cons ru .nil), ⟨_, hT2, rfl, _, rfl⟩⟩
    have I1 : Inv X pins σ (upd H s.heap.objs.size (.tup [.int (c + (i : Nat)), x])) { s with heap := h'', toks := tk + 1 } :=
      I.turnedNew (ch := [e, it]) (fun b ob hb q => (sb.2 b (fun z => hb (by simp [z]))).trans (hk b ob (fun z => hb (by simp [z])) (fun z => hb (by simp [z])) q)) hf (Nat.le_refl _) new
    refine ⟨.ref s.heap.objs.size, _, I1, rfl, ⟨_, x, rfl, I.hok.fresh (Nat.le_refl _), rfl, fun ys hy => by rw [sqx_inj I hy hq]; exact hx⟩, ⟨⟨y, ?_⟩, hit'.keep fun o q => (sb.2 it (Ne.symm hne)).trans q, hne, hea, hai⟩, fun b hb => ?_⟩
    · have e1 : c + ((i + 1 : Nat) : Int) = c + (i : Int) + 1 := by omega
      rw [e1]; exact he'
    · have hb' : b < s.heap.objs.size := by
        have e' : b = e ∨ b = it := by simpa using hb
        rcases e' with z | z
        · rw [z]; exact hel
        · rw [z]; exact hil
      rw [upd_ne (Nat.ne_of_lt hb')]
      exact (hf b hb).1
  done := by
    intro X hP hw hK hc i pins s σ H E I hf st hg
    subst hP hw hK
    obtain ⟨⟨old, he⟩, hit, hne, hea, hai⟩ := st
    obtain ⟨xs, hq, hx⟩ := hg
    obtain ⟨its, rv, p⟩ := sqx_row I hq
    obtain ⟨f0, f1, f2, f3, f4, f5⟩ := hf it (by simp)
    have hl := rv.length
    have hend : its.toArray[i]? = none := by simp; omega
    exact enum_endX (I.ok.hd hc) he hit p hend fun h' eb => ⟨rfl, I.turned (t' := s.toks) (fun b o hb q => eb b o hb q) f0 f1 f3 f4 f5⟩
  self := fun A i s Q E st h => let ⟨⟨_, he⟩, _⟩ := st; wpAny_pyIter_enum he h

/-! ### for .. in enumerate(xs), enumerate(xs, start=k) -/
theorem beginsX {t : Bool} (l : Addr) (items : Array Value) : ∃ o : Obj, Begins (.ref l) o (fun h => RowV t h l items) ∧ ∀ h it, h.get? it = some o → ItrV t h it l 0 := by
  cases t with
  | true => exact ⟨_, begins_tuple l items, fun h it e => ⟨_, e, rfl, rfl⟩⟩
  | false => exact ⟨_, begins_list l items, fun h it e => ⟨_, e, rfl, rfl⟩⟩
theorem RowV.lt {t : Bool} {h : Heap} {a : Addr} {its : Array Value} (p : RowV t h a its) : a < h.objs.size := by
  cases t with
  | true => exact let ⟨o, ho, _⟩ := p; Heap.lt_size ho
  | false => exact let ⟨o, ho, _⟩ := p; Heap.lt_size ho
def iEnumX (K : PySem.W.Frag) (c : Int) (ta : TA) : TI := fun σ H R => ta σ H fun vs H1 => ∃ t a xs, vs = [.ref a] ∧ SqX t K H1 a xs ∧ R (IteX t K c a) H1
theorem enum_pie {t : Bool} {X : Cx} {pins : List (Addr × Obj)} {σ : L2.St} {H : Hp} {s : Shared} {R : It → Hp → Prop} {a : Addr} {its : Array Value} {o : Obj} {c : Int} {elts : List Expr} {kk : Nat} {tpos : Pos} {h' : Heap} (I : Inv X pins σ H s) (p : RowV t s.heap a its) (ho : ∀ h it, h.get? it = some o → ItrV t h it a 0)
    (he : IsEnum h' (s.heap.objs.size + 1) s.heap.objs.size c .none) (hit : h'.get? s.heap.objs.size = some o) (hk : ∀ b o, s.heap.get? b = some o → h'.get? b = some o) (q : R (IteX t X.K c a) H) :
    PIE X pins σ (.Tuple elts kk tpos) R (.ref (s.heap.objs.size + 1)) { s with heap := h' } := by
  have I2 : Inv X pins σ H { s with heap := h' } := I.kept (t' := s.toks) hk
  have hal := p.lt
  refine ⟨s.heap.objs.size + 1, [s.heap.objs.size + 1, s.heap.objs.size], _, _, H, rfl, I2, turn_enumX (t := t) (c := c) a (s.heap.objs.size + 1) s.heap.objs.size, ⟨⟨.none, by simpa using he⟩, ho _ _ hit, Nat.succ_ne_self _, Nat.ne_of_gt (Nat.lt_succ_of_lt hal), Nat.ne_of_lt hal⟩, fun b hb => ?_, q⟩
  have e' : b = s.heap.objs.size + 1 ∨ b = s.heap.objs.size := by simpa using hb
  have hle : s.heap.objs.size ≤ b := by
    rcases e' with z | z
    · rw [z]; exact Nat.le_add_right _ _
    · rw [z]; exact Nat.le_refl _
  exact I.fpOk hle (I.hok.fresh hle)
section
variable {X : Cx} {e : Expr} {ta : TA} {p pos tpos : Pos} {elts : List Expr} {kk : Nat}
theorem pi_enumX (hg : Gl X "enumerate") (hm : X.mg "enumerate" = none) (ha : PA X [e] ta) (hs : starEach [e] X.env = [(false, eval e X.env)] := by rfl) :
    PI X (.Tuple elts kk tpos) (.Call (.Name "enumerate" p) [e] [] pos) (iEnumX X.K 0 ta) := by
  refine ⟨fun pins s σ H R I h => ?_⟩
  refine Call_ (ld_blt I hg hm boot_enumerate (PyProof.Rows.callWith_type1 (thn (ha.run pos pins s σ H _ I h) fun us s1 ⟨vs, H1, I1, r1, q1⟩ => ?_) hs rfl))
  obtain ⟨t, a, xs, ex, hq, q⟩ := q1
  subst ex
  cases r1 with
  | cons r rr =>
    cases rr
    cases r
    obtain ⟨its, rv, p'⟩ := sqx_row I1 hq
    obtain ⟨o, B, ho⟩ := beginsX (t := t) a its.toArray
    exact enum_new1 B p' fun h' he hit hsz hk => wpAny_pyIter_enum he (enum_pie I1 p' ho he hit hk q)
end
section
variable {G : Gd} {X : Cx} {Wx : WX} {P : Prog} {R : Fun1} {Φ : Call} {pos : Pos} {e e1 e2 e3 : Expr} {a b c : FM.E} {es : List Expr} {as : Es} {n : Str} {p apos cpos tpos : Pos} {elts : List Expr} {kk : Nat}
theorem enumL_get : ∀ (xs : List D) (k : Int) (i : Nat) {d : D}, xs[i]? = some d → (enumL k xs)[i]? = some (.tuple [.int (k + (i : Nat)), d])
  | [], _, _, _, h => by simp at h
  | x :: r, k, 0, d, h => by
    simp at h
    subst h
    simp [enumL]
  | x :: r, k, i + 1, d, h => by
    have := enumL_get r (k + 1) i (by simpa using h)
    simp only [enumL, List.getElem?_cons_succ, this]
    rw [show k + 1 + (i : Int) = k + ((i + 1 : Nat) : Int) by omega]
theorem enumL_len : ∀ (xs : List D) (k : Int), (enumL k xs).length = xs.length
  | [], _ => rfl
  | x :: r, k => by simp [enumL, enumL_len r (k + 1)]
theorem src_enum {Y : Rt} {y : Wd} {t : Bool} {q : Addr} {xs : List D} {k : Nat} {g : Option Nat} (h : ∀ z, Mv y z → SR Y z → (∀ n, g = some n → z.st[n]? = y.st[n]?) → ∃ vs, SqX t Y.K z.H q vs ∧ PVs Y z.H z.nl vs xs) : SrcOk Y y (IteX t Y.K k q) ((enumL k xs).map .d) g := fun z ez Sz hg => by
  obtain ⟨vs, h1, h2⟩ := h z ez Sz hg
  have hl := h2.length
  refine ⟨⟨vs, h1, by simp [enumL_len, hl]⟩, fun i hi => ?_⟩
  have hi2 : i < vs.length := by simpa [enumL_len, hl] using hi
  refine ⟨⟨vs, vs[i], h1, List.getElem?_eq_getElem _⟩, fun v H' ⟨T, x, e1, e2, e3, e4⟩ => ?_⟩
  subst e1 e3
  obtain ⟨d, hd, pv⟩ := PVs.mem h2 (e4 vs h1)
  obtain ⟨ex, Sx, nl⟩ := Ext.new (o := .tup [.int ((k : Int) + (i : Nat)), x]) Sz e2 (fun _ z => by cases z)
  refine ⟨_, _, ?_, ex, Sx, rfl, rfl, .d (.tup (.inl ⟨.inl upd_same, nl⟩) (.cons (.int _) (.cons (ex.pv pv) .nil)))⟩
  rw [List.getElem?_map, enumL_get xs k i hd]
  rfl
theorem fi_enum (hg : Gl X "enumerate") (hm : X.mg "enumerate" = none) (ha : FV G X Wx P R Φ e a) (hs : starEach [e] X.env = [(false, eval e X.env)] := by rfl) : FI G X Wx P R Φ (.Tuple elts kk tpos) (.Call (.Name "enumerate" p) [e] [] pos) (.enum a 0) := by
  refine ⟨fun pins s σ H Q I ⟨ρ, x, hx, S, En, h⟩ => (pi_enumX hg hm (pa_cons ha pa_nil hs) hs).run pins s σ H Q I ?_⟩
  rw [evI] at h
  refine ⟨ρ, x, hx, S, En, ?_⟩
  cases hr : evE P R Φ a ρ x.st with
  | exn ex st' => rw [hr] at h; exact h
  | bad => rw [hr] at h; exact h
  | ok w st' =>
    rw [hr] at h
    have h : rpostI (yof G X) Wx σ x Q (match seqD st' w with | some xs => .ok ((enumL 0 xs).map .d, guardOf w) st' | none => .bad) := h
    cases hw : seqD st' w with
    | none => rw [hw] at h; exact h.elim
    | some xs =>
      rw [hw] at h
      simp only [seqD] at hw
      intro v y ey Sy hy r
      cases r with
      | @d _ d r =>
        cases d <;> simp only [seqW, reduceCtorEq, allD_map, Option.some.injEq] at hw
        · subst hw
          cases r with
          | lst h1 h2 => exact ⟨false, _, _, rfl, h1.sq, h _ y ey Sy hy (src_enum (t := false) fun z ez Sz _ => ⟨_, (ez.lstC h1).sq, ez.pvs h2⟩)⟩
        · subst hw
          cases r with
          | tup h1 h2 => exact ⟨true, _, _, rfl, h1.sq, h _ y ey Sy hy (src_enum (t := true) fun z ez Sz _ => ⟨_, (ez.tupC h1).sq, ez.pvs h2⟩)⟩
      | @ref n _ hn =>
        cases hc : st'[n]? with
        | none => simp [seqW, hc] at hw
        | some c =>
          cases c with
          | lst l =>
            simp only [seqW, hc] at hw
            subst hy
            obtain ⟨vs, hH, rs⟩ := Sy.cell _ _ _ hn hc
            refine ⟨false, _, _, rfl, .inl (.inl hH), h _ y ey Sy rfl (src_enum (t := false) fun z ez Sz hg => ?_)⟩
            obtain ⟨vs2, hH2, rs2⟩ := Sz.cell _ _ _ (ez.get hn) ((hg n rfl).trans hc)
            exact ⟨vs2, .inl (.inl hH2), rs2.pvs hw⟩
          | dct _ => simp [seqW, hc] at hw
          | ins _ _ => simp [seqW, hc] at hw
          | dead => simp [seqW, hc] at hw
      | fn f => simp [seqW] at hw
theorem xi_enum (B : BltN X.mg) (ha : FV G X Wx P R Φ e a) (hg : Gl X "enumerate" := by rfl) (hs : starEach [e] X.env = [(false, eval e X.env)] := by rfl) : FI G X Wx P R Φ (.Tuple elts kk tpos) (.Call (.Name "enumerate" p) [e] [] pos) (.enum a 0) := fi_enum hg (B.no _ (by decide)) ha hs
theorem xf_sorted (B : BltN X.mg) (hu : X.A.units + 66 < cLine) (ha : FV G X Wx P R Φ e a) (hg : Gl X "sorted" := by rfl) (hs : starEach [e] X.env = [(false, eval e X.env)] := by rfl) : FF G X Wx P R Φ (.Call (.Name "sorted" p) [e] [] pos) (.sorted a) := ff_sorted hu hg (B.no _ (by decide)) ha hs
theorem xf_list (B : BltN X.mg) (hc : X.calm = true) (ha : FV G X Wx P R Φ e a) (hg : Gl X "list" := by rfl) (hs : starEach [e] X.env = [(false, eval e X.env)] := by rfl) : FF G X Wx P R Φ (.Call (.Name "list" p) [e] [] pos) (.list a) := ff_list hc hg (B.no _ (by decide)) ha hs
end
end FM
end

section
/-! FP1: reasoning about the evaluator alone. -/
set_option Elab.async false
set_option linter.all false
set_option maxRecDepth 100000
set_option autoImplicit false
set_option maxHeartbeats 1000000
namespace FM
open PySem
/-- it ends well, with Q -/
def okR {α : Type} (r : Res α) (Q : α → Sto → Prop) : Prop := match r with
  | .ok a st => Q a st
  | _ => False
def okO (o : Out) (N : Env → Sto → Prop) (Rt : W → Sto → Prop) : Prop := match o with
  | .nx ρ st => N ρ st
  | .rt w st => Rt w st
  | _ => False
section
variable {α β : Type} {P : Prog} {R : Fun1} {Φ : Call}
@[simp] theorem okR_ok {a : α} {st : Sto} {Q : α → Sto → Prop} : okR (.ok a st) Q ↔ Q a st := Iff.rfl
@[simp] theorem okR_bind {r : Res α} {f : α → Sto → Res β} {Q : β → Sto → Prop} : okR (r.bind f) Q ↔ okR r (fun a st => okR (f a st) Q) := by cases r <;> exact Iff.rfl
@[simp] theorem okR_some {a : α} {st : Sto} {Q : α → Sto → Prop} : okR (Res.of (some a) st) Q ↔ Q a st := Iff.rfl
theorem okR_imp {r : Res α} {Q Q' : α → Sto → Prop} (h : okR r Q) (k : ∀ a st, Q a st → Q' a st) : okR r Q' := by
  cases r with
  | ok a st => exact k a st h
  | exn _ _ => exact h.elim
  | bad => exact h.elim
theorem okR_eq {r : Res α} {a : α} {st : Sto} {Q : α → Sto → Prop} (h : r = .ok a st) (q : Q a st) : okR r Q := by rw [h]; exact q
@[simp] theorem okO_nx {ρ : Env} {st : Sto} {N : Env → Sto → Prop} {Rt : W → Sto → Prop} : okO (.nx ρ st) N Rt ↔ N ρ st := Iff.rfl
@[simp] theorem okO_rt {w : W} {st : Sto} {N : Env → Sto → Prop} {Rt : W → Sto → Prop} : okO (.rt w st) N Rt ↔ Rt w st := Iff.rfl
@[simp] theorem okO_next {o : Out} {f : Env → Sto → Out} {N : Env → Sto → Prop} {Rt : W → Sto → Prop} : okO (o.next f) N Rt ↔ okO o (fun ρ st => okO (f ρ st) N Rt) Rt := by cases o <;> exact Iff.rfl
@[simp] theorem okO_out {r : Res α} {f : α → Sto → Out} {N : Env → Sto → Prop} {Rt : W → Sto → Prop} : okO (r.out f) N Rt ↔ okR r (fun a st => okO (f a st) N Rt) := by cases r <;> exact Iff.rfl
theorem okO_imp {o : Out} {N N' : Env → Sto → Prop} {Rt Rt' : W → Sto → Prop} (h : okO o N Rt) (k1 : ∀ a st, N a st → N' a st) (k2 : ∀ a st, Rt a st → Rt' a st) : okO o N' Rt' := by
  cases o with
  | nx a st => exact k1 a st h
  | rt a st => exact k2 a st h
  | bk _ _ => exact h.elim
  | ct _ _ => exact h.elim
  | exn _ _ => exact h.elim
  | bad => exact h.elim
@[simp] theorem okO_ite {c : Prop} [Decidable c] {a b : Out} {N : Env → Sto → Prop} {Rt : W → Sto → Prop} : okO (if c then a else b) N Rt ↔ if c then okO a N Rt else okO b N Rt := by split <;> exact Iff.rfl
@[simp] theorem okR_ite {c : Prop} [Decidable c] {a b : Res α} {Q : α → Sto → Prop} : okR (if c then a else b) Q ↔ if c then okR a Q else okR b Q := by split <;> exact Iff.rfl
open Classical in
theorem exit_pure {st : Sto} {o : Out} {Q : W → Sto → Prop} (h : okO o (fun _ st' => st'.take st.length = st ∧ Q (.d .none) st) (fun w st' => st'.take st.length = st ∧ ∃ w', frzW st.length st' w = some w' ∧ Q w' st)) : okR (exitR .pure st o) Q := by
  cases o with
  | nx ρ st' =>
    obtain ⟨h1, h2⟩ := h
    simp only [exitR, exitOk, if_pos h1]
    exact h2
  | rt w st' =>
    obtain ⟨h1, w', h2, h3⟩ := h
    simp only [exitR, exitOk, if_pos h1, h2]
    exact h3
  | bk _ _ => exact h.elim
  | ct _ _ => exact h.elim
  | exn _ _ => exact h.elim
  | bad => exact h.elim
open Classical in
theorem exit_eff {st : Sto} {o : Out} {Q : W → Sto → Prop} (h : okO o (fun _ st' => (st.length ≤ st'.length ∧ okOld st st') ∧ Q (.d .none) (st'.take st.length)) (fun w st' => (st.length ≤ st'.length ∧ okOld st st') ∧ ∃ w', frzW st.length st' w = some w' ∧ Q w' (st'.take st.length))) : okR (exitR .eff st o) Q := by
  cases o with
  | nx ρ st' =>
    obtain ⟨h1, h2⟩ := h
    simp only [exitR, exitOk, if_pos h1]
    exact h2
  | rt w st' =>
    obtain ⟨h1, w', h2, h3⟩ := h
    simp only [exitR, exitOk, if_pos h1, h2]
    exact h3
  | bk _ _ => exact h.elim
  | ct _ _ => exact h.elim
  | exn _ _ => exact h.elim
  | bad => exact h.elim
@[simp] theorem frzW_d {n : Nat} {st : Sto} {x : D} : frzW n st (.d x) = some (.d x) := rfl
theorem callD_fn {j : Nat} {f : String} {fn : Fn} (hf : P.fn f = some fn) (ws : List W) (st : Sto) (hl : ws.length = fn.params) : callD P R (j + 1) f ws st = exitR fn.mode st (evSs P R (callD P R j) fn.body (entry fn ws) st) := by
  simp [callD, hf, runFn, hl]
/-! ### comprehensions -/
theorem lc_pure {γ : Type} {step : W → Sto → Res (Option γ)} {st : Sto} (f : W → Option γ) : ∀ ws : List W, (∀ w ∈ ws, step w st = .ok (f w) st) → lcL none step ws st = .ok (ws.filterMap f) st
  | [], _ => rfl
  | w :: ws, h => by
    simp only [lcL, h w List.mem_cons_self, still, if_true, lc_pure f ws fun u hu => h u (List.mem_cons_of_mem _ hu)]
    cases hf : f w <;> simp [List.filterMap_cons, hf]
theorem lc_inv {γ : Type} {step : W → Sto → Res (Option γ)} {I : Sto → Prop} {Pw : γ → Prop} : ∀ (ws : List W) (st : Sto), I st → (∀ w ∈ ws, ∀ st, I st → okR (step w st) fun o st' => I st' ∧ ∃ y, o = some y ∧ Pw y) → okR (lcL none step ws st) fun ys st' => I st' ∧ ys.length = ws.length ∧ ∀ y ∈ ys, Pw y
  | [], st, h0, _ => ⟨h0, rfl, fun y hy => by cases hy⟩
  | w :: ws, st, h0, h => by
    have h1 := h w List.mem_cons_self st h0
    cases hs : step w st with
    | exn _ _ => rw [hs] at h1; exact h1.elim
    | bad => rw [hs] at h1; exact h1.elim
    | ok o st' =>
      rw [hs] at h1
      obtain ⟨h2, y, rfl, hy⟩ := h1
      have h3 := lc_inv ws st' h2 fun u hu => h u (List.mem_cons_of_mem _ hu)
      simp only [lcL, hs, still, if_true]
      cases hr : lcL none step ws st' with
      | exn _ _ => rw [hr] at h3; exact h3.elim
      | bad => rw [hr] at h3; exact h3.elim
      | ok ys st'' =>
        rw [hr] at h3
        obtain ⟨h4, h5, h6⟩ := h3
        refine ⟨h4, by simp [h5], fun z hz => ?_⟩
        rcases List.mem_cons.mp hz with e | e
        · rw [e]; exact hy
        · exact h6 z e
/-! ### loops -/
theorem for_inv {g : Option Nat} {step : W → Env → Sto → Out} {Rt : W → Sto → Prop} (I : List W → Env → Sto → Prop) : ∀ (ws : List W) (ρ : Env) (st : Sto), I ws ρ st →
    (∀ w r ρ st, I (w :: r) ρ st → okO (step w ρ st) (fun ρ' st' => still g st st' = true ∧ I r ρ' st') Rt) → okO (forL g step ws ρ st) (fun ρ' st' => I [] ρ' st') Rt
  | [], ρ, st, h0, _ => h0
  | w :: ws, ρ, st, h0, h => by
    have h1 := h w ws ρ st h0
    simp only [forL]
    cases hs : step w ρ st with
    | nx ρ' st' =>
      rw [hs] at h1
      obtain ⟨h2, h3⟩ := h1
      simp only [h2, if_true]
      exact for_inv I ws ρ' st' h3 h
    | rt w' st' => rw [hs] at h1; exact h1
    | bk _ _ => rw [hs] at h1; exact h1.elim
    | ct _ _ => rw [hs] at h1; exact h1.elim
    | exn _ _ => rw [hs] at h1; exact h1.elim
    | bad => rw [hs] at h1; exact h1.elim
/-! ### texts and lists -/
theorem chars_T (l : List Nat) : chars (T l) = l.map fun c => .d (dStr [c]) := by simp [chars]
theorem lc_chars {γ : Type} {step : W → Sto → Res (Option γ)} {st : Sto} (p : Nat → Bool) (g : Nat → γ) : ∀ l : List Nat, (∀ c ∈ l, step (.d (dStr [c])) st = .ok (if p c then some (g c) else none) st) → lcL none step (chars (T l)) st = .ok ((l.filter p).map g) st := fun l h => by
  rw [chars_T]
  induction l with
  | nil => rfl
  | cons c l ih =>
    simp only [List.map_cons, lcL, h c List.mem_cons_self, still, if_true, ih fun u hu => h u (List.mem_cons_of_mem _ hu), List.filter_cons]
    cases p c <;> rfl
theorem lc_list {γ : Type} {step : W → Sto → Res (Option γ)} {st : Sto} (p : D → Bool) (g : D → γ) : ∀ l : List D, (∀ c ∈ l, step (.d c) st = .ok (if p c then some (g c) else none) st) → lcL none step (l.map W.d) st = .ok ((l.filter p).map g) st := fun l h => by
  induction l with
  | nil => rfl
  | cons c l ih =>
    simp only [List.map_cons, lcL, h c List.mem_cons_self, still, if_true, ih fun u hu => h u (List.mem_cons_of_mem _ hu), List.filter_cons]
    cases p c <;> rfl
@[simp] theorem allD_mapd {γ : Type} (g : γ → D) (l : List γ) : allD (l.map fun c => W.d (g c)) = some (l.map g) := by
  induction l with
  | nil => rfl
  | cons c l ih => simp [allD, ih]
@[simp] theorem strsD_map (l : List (List Nat)) : strsD (l.map dStr) = some l := by
  induction l with
  | nil => rfl
  | cons c l ih => simp [strsD, ih]
@[simp] theorem strsD_one (l : List Nat) : strsD (l.map fun c => dStr [c]) = some (l.map fun c => [c]) := by
  induction l with
  | nil => rfl
  | cons c l ih => simp [strsD, ih]
@[simp] theorem boolsD_map {γ : Type} (p : γ → Bool) (l : List γ) : boolsD (l.map fun c => .bool (p c)) = some (l.map p) := by
  induction l with
  | nil => rfl
  | cons c l ih => simp [boolsD, ih]
@[simp] theorem joinT_nil_one (l : List Nat) : joinT [] (l.map fun c => [c]) = l := by
  induction l with
  | nil => rfl
  | cons c l ih =>
    cases l with
    | nil => rfl
    | cons d l =>
      show [c] ++ [] ++ joinT [] ((d :: l).map fun c => [c]) = _
      rw [ih]
      rfl
@[simp] theorem sum_ones (l : List Nat) : (List.map List.length (l.map fun c => [c])).sum = l.length := by
  induction l with
  | nil => rfl
  | cons c l ih =>
    simp only [List.map_cons, List.sum_cons, ih, List.length_cons, List.length_nil]
    omega
@[simp] theorem sum_ones' (l : List Nat) : (List.map (List.length ∘ fun c => [c]) l).sum = l.length := by
  rw [← List.map_map]
  exact sum_ones l
/-! choices are drawn out -/
@[simp] theorem next_ite {c : Prop} [Decidable c] {a b : Out} {f : Env → Sto → Out} : (if c then a else b).next f = if c then a.next f else b.next f := by split <;> rfl
@[simp] theorem bind_ite' {γ δ : Type} {c : Prop} [Decidable c] {a b : Res γ} {f : γ → Sto → Res δ} : (if c then a else b).bind f = if c then a.bind f else b.bind f := by split <;> rfl
@[simp] theorem out_ite' {γ : Type} {c : Prop} [Decidable c] {a b : Res γ} {f : γ → Sto → Out} : (if c then a else b).out f = if c then a.out f else b.out f := by split <;> rfl
@[simp] theorem exit_ite {c : Prop} [Decidable c] {m : Mode} {st : Sto} {a b : Out} : exitR m st (if c then a else b) = if c then exitR m st a else exitR m st b := by split <;> rfl
@[simp] theorem exit_one {st : Sto} {x : D} : exitR .pure st (.rt (.d x) st) = .ok (.d x) st := by simp [exitR, exitOk]
@[simp] theorem chars_len (l : List Nat) : (chars (T l)).length = l.length := by simp [chars]
end
end FM
end

section
/-! FP2: what all laws' texts share: the draws, the look whether two values are alike. -/
set_option Elab.async false
set_option linter.all false
set_option maxRecDepth 100000
set_option autoImplicit false
set_option maxHeartbeats 4000000
namespace FM
open PySem
def takenB : FM.Ss := .cons (.ife (.e (.cmp .gt (.idx (.var 0) (.int 3)) (.int 0))) (.cons (.set (.v 3) (.bin .mod (.b1 .int (.idx (.var 0) (.int 3))) (.var 1))) (.cons (.setIx (.var 0) (.int 3) (.bin .fdiv (.idx (.var 0) (.int 3)) (.var 1))) (.cons (.ret (.var 3)) (.nil)))) (.nil)) (.cons (.setIx (.var 0) (.int 1) (.bin .add (.idx (.var 0) (.int 1)) (.int 1))) (.cons (.ife (.e (.cmp .gt (.idx (.var 0) (.int 1)) (.b1 .len (.idx (.var 0) (.int 0))))) (.cons (.setIx (.var 0) (.int 2) (.bin .mod (.b1 .int (.bin .add (.bin .mul (.idx (.var 0) (.int 2)) (.int 48271)) (.int 11))) (.int 2147483647))) (.cons (.ret (.bin .mod (.b1 .int (.bin .fdiv (.idx (.var 0) (.int 2)) (.int 7))) (.var 1))) (.nil))) (.nil)) (.cons (.set (.v 2) (.idx (.idx (.var 0) (.int 0)) (.bin .sub (.idx (.var 0) (.int 1)) (.int 1)))) (.cons (.setIx (.var 0) (.int 2) (.bin .mod (.b1 .int (.bin .add (.bin .add (.bin .mul (.idx (.var 0) (.int 2)) (.int 48271)) (.var 2)) (.int 11))) (.int 2147483647))) (.cons (.ife (.e (.cmp .ge (.var 2) (.bin .pow (.int 10) (.int 18)))) (.cons (.setIx (.var 0) (.int 3) (.bin .fdiv (.var 2) (.var 1))) (.nil)) (.nil)) (.cons (.ret (.bin .mod (.b1 .int (.var 2)) (.var 1))) (.nil)))))))
def pickB : FM.Ss := .cons (.ret (.idx (.var 1) (.call "_law_taken" (.cons (.var 0) (.cons (.b1 .len (.var 1)) (.nil)))))) (.nil)
def alikeB : FM.Ss := .cons (.ife (.e (.isi (.var 1) [.tuple, .list])) (.cons (.ife (.or (.not (.e (.isi (.var 0) [.tuple, .list]))) (.e (.cmp .ne (.isi (.var 0) [.list]) (.isi (.var 1) [.list])))) (.cons (.ret (.bl false)) (.nil)) (.nil)) (.cons (.ife (.e (.cmp .ne (.b1 .len (.var 0)) (.b1 .len (.var 1)))) (.cons (.ret (.bl false)) (.nil)) (.nil)) (.cons (.ret (.cmp .eq (.pur (.lc [2] (.v 2) (.rng1 (.b1 .len (.var 1))) (.c (.not (.e (.call "_law_alike" (.cons (.idx (.var 0) (.var 2)) (.cons (.idx (.var 1) (.var 2)) (.nil))))))) (.var 2))) (.pur (.lst (.nil))))) (.nil)))) (.nil)) (.cons (.ife (.e (.isi (.var 1) [.dict])) (.cons (.ife (.or (.not (.e (.isi (.var 0) [.dict]))) (.e (.cmp .ne (.pur (.list (.var 0))) (.pur (.list (.var 1)))))) (.cons (.ret (.bl false)) (.nil)) (.nil)) (.cons (.ret (.cmp .eq (.pur (.lc [3] (.v 3) (.e (.var 1)) (.c (.not (.e (.call "_law_alike" (.cons (.idx (.var 0) (.var 3)) (.cons (.idx (.var 1) (.var 3)) (.nil))))))) (.var 3))) (.pur (.lst (.nil))))) (.nil))) (.nil)) (.cons (.ife (.or (.e (.cmp .is (.var 1) (.none))) (.e (.isi (.var 1) [.str]))) (.cons (.ret (.and (.cmp .eq (.var 0) (.var 1)) (.cmp .eq (.isi (.var 0) [.str]) (.isi (.var 1) [.str])))) (.nil)) (.nil)) (.cons (.ret (.and (.isi (.var 0) [.int]) (.and (.cmp .eq (.isi (.var 0) [.bool]) (.isi (.var 1) [.bool])) (.cmp .eq (.var 0) (.var 1))))) (.nil))))
def rowC (ns : List Int) (a b c : Int) : Cell := .lst [.d (.list (ns.map .int)), .d (.int a), .d (.int b), .d (.int c)]
theorem cmul1 (b : Int) : CMulB b 48271 = true := by simp [CMulB]
theorem old_row {ns : List Int} {a b c a' b' c' : Int} {rest : Sto} : okOld (rowC ns a b c :: rest) (rowC ns a' b' c' :: rest) := fun i hi => by
  cases i with
  | zero => exact .inr ⟨_, rfl, by simp [rowC, Cell.below, W.below]⟩
  | succ i => exact .inl rfl
/-- the row, drawn on -/
def Row (ns : List Int) (rest : Sto) (st : Sto) : Prop := ∃ a b c, 0 ≤ a ∧ st = rowC ns a b c :: rest
section
variable {P : Prog} {R : Fun1} {ns : List Int} {rest st : Sto} {j : Nat}
theorem row_new {b : Int} : Row ns rest (rowC ns 0 b 0 :: rest) := ⟨0, b, 0, by omega, rfl⟩
theorem taken (hP : P.fn "_law_taken" = some ⟨2, 4, .eff, takenB⟩) {m : Int} (h : Row ns rest st) (hm : 0 < m) (hm2 : m < 1073741824) :
    okR (callD P R (j + 1) "_law_taken" [.ref 0, .d (.int m)] st) fun w st' => (∃ k, 0 ≤ k ∧ k < m ∧ w = .d (.int k)) ∧ Row ns rest st' := by
  obtain ⟨a, b, c, ha, rfl⟩ := h
  have mod0 : ∀ x : Int, 0 ≤ x % m := fun x => Int.emod_nonneg _ (by omega)
  have mod1 : ∀ x : Int, x % m < m := fun x => Int.emod_lt_of_pos _ hm
  rw [callD_fn hP _ _ rfl]
  apply exit_eff
  simp only [takenB, entry, evSs, evS, evC, evE, okO_next, okO_out, okR_bind]
  by_cases hc : 0 < c
  · simp [varW, idxW, seqW, FM.atI, Res.of, cmpW, cmpP, vw, cmpD, cmpOk, alk, ordOk, isNo, dep, ltD, truW, truD, b1W, binW, binD, asgT, setIxW, atIx, lenW, rowC, hm, hm2, hc]
    exact ⟨old_row, ⟨mod0 _, mod1 _⟩, _, _, _, ha, rfl⟩
  · by_cases hl : (ns.length : Int) < a + 1
    · simp [varW, idxW, seqW, FM.atI, Res.of, cmpW, cmpP, vw, cmpD, cmpOk, alk, ordOk, isNo, dep, ltD, truW, truD, b1W, binW, binD, asgT, setIxW, atIx, lenW, rowC, hm, hm2, hc, hl, cmul1]
      exact ⟨old_row, ⟨mod0 _, mod1 _⟩, _, _, _, (by omega), rfl⟩
    · have hx : a.toNat < ns.length := by omega
      by_cases hx2 : (1000000000000000000 : Int) ≤ ns[a.toNat]
      · simp [varW, idxW, seqW, FM.atI, Res.of, cmpW, cmpP, vw, cmpD, cmpOk, alk, ordOk, isNo, dep, ltD, truW, truD, b1W, binW, binD, asgT, setIxW, atIx, lenW, rowC, hm, hm2, hc, hl, cmul1, ha, hx, hx2]
        exact ⟨old_row, ⟨mod0 _, mod1 _⟩, _, _, _, (by omega), rfl⟩
      · simp [varW, idxW, seqW, FM.atI, Res.of, cmpW, cmpP, vw, cmpD, cmpOk, alk, ordOk, isNo, dep, ltD, truW, truD, b1W, binW, binD, asgT, setIxW, atIx, lenW, rowC, hm, hm2, hc, hl, cmul1, ha, hx, hx2]
        exact ⟨old_row, ⟨mod0 _, mod1 _⟩, _, _, _, (by omega), rfl⟩
/-- one of the items of a row that stands beside the draws -/
theorem pickW (hP : P.fn "_law_taken" = some ⟨2, 4, .eff, takenB⟩) (hP2 : P.fn "_law_pick" = some ⟨2, 2, .eff, pickB⟩) {w0 : W} {ws : List W} (h : Row ns rest st) (hw : ∀ a b c, seqW (rowC ns a b c :: rest) w0 = some ws) (hn : ∀ z, w0 ≠ .d (.str z)) (hb : ∀ w ∈ ws, ∀ n, w ≠ .ref n) (hm : ws ≠ []) (hm2 : ws.length < 1073741824) :
    okR (callD P R (j + 2) "_law_pick" [.ref 0, w0] st) fun w st' => w ∈ ws ∧ Row ns rest st' := by
  have hp : 0 < ws.length := by cases ws <;> simp at hm ⊢
  rw [callD_fn hP2 _ _ rfl]
  apply exit_eff
  obtain ⟨a, b, c, ha, rfl⟩ := h
  have hl : lenW (rowC ns a b c :: rest) w0 = some (ws.length : Int) := by
    unfold lenW
    split
    · exact absurd rfl (hn _)
    · rw [hw]; rfl
  simp only [pickB, entry, evSs, evS, evE, evEs, okO_next, okO_out, okR_bind]
  simp [varW, b1W, hl]
  refine okR_imp (taken hP ⟨a, b, c, ha, rfl⟩ (m := (ws.length : Int)) (by omega) (by omega)) fun w st' ⟨⟨k, h1, h2, hw2⟩, h3⟩ => ?_
  subst hw2
  obtain ⟨a', b', c', ha', rfl⟩ := h3
  have hk : k.toNat < ws.length := by omega
  have hi : idxW (rowC ns a' b' c' :: rest) w0 (.d (.int k)) = some ws[k.toNat] := by
    have hq := hw a' b' c'
    cases w0 with
    | d x =>
      cases x <;> simp only [idxW, hq] <;> first | exact absurd rfl (hn _) | simp [FM.atI, h1, hk]
    | ref m =>
      simp only [idxW, hq]
      simp [FM.atI, h1, hk]
    | fn f => simp [seqW] at hq
  simp [hi]
  have hmem : ws[k.toNat] ∈ ws := List.getElem_mem hk
  have hz : frzW (rest.length + 1) (rowC ns a' b' c' :: rest) ws[k.toNat] = some ws[k.toNat] := by
    have := hb _ hmem
    cases hc : ws[k.toNat] with
    | d x => rfl
    | ref n => exact absurd hc (this n)
    | fn f => rfl
  exact ⟨old_row, ws[k.toNat], hz, hmem, a', b', c', ha', by simp⟩
theorem pick (hP : P.fn "_law_taken" = some ⟨2, 4, .eff, takenB⟩) (hP2 : P.fn "_law_pick" = some ⟨2, 2, .eff, pickB⟩) {xs : List D} (h : Row ns rest st) (hm : xs ≠ []) (hm2 : xs.length < 1073741824) :
    okR (callD P R (j + 2) "_law_pick" [.ref 0, .d (.list xs)] st) fun w st' => (∃ x ∈ xs, w = .d x) ∧ Row ns rest st' := by
  refine okR_imp (pickW hP hP2 (ws := xs.map .d) h (fun _ _ _ => rfl) (fun z e => by cases e) (fun w hw n e => ?_) (by simpa using hm) (by simpa using hm2)) fun w st' ⟨h1, h2⟩ => ⟨?_, h2⟩
  · obtain ⟨x, _, rfl⟩ := List.mem_map.mp hw
    cases e
  · obtain ⟨x, hx, rfl⟩ := List.mem_map.mp h1
    exact ⟨x, hx, rfl⟩
end
end FM
end

section
/-! FP3: the look whether two values are alike, of one value. -/
set_option Elab.async false
set_option linter.all false
set_option maxRecDepth 100000
set_option autoImplicit false
set_option maxHeartbeats 4000000
namespace FM
open PySem
section
variable {P : Prog} {R : Fun1} {ns : List Int} {rest st : Sto} {j : Nat}
/-! ### alike -/
mutual
/-- no dict within, no long rows -/
def sm : D → Bool
  | .list xs => decide (xs.length ≤ SZ) && smAll xs
  | .tuple xs => decide (xs.length ≤ SZ) && smAll xs
  | .dict _ => false
  | _ => true
def smAll : List D → Bool
  | [] => true
  | x :: xs => sm x && smAll xs
end
mutual
theorem sm_nod : ∀ x : D, sm x = true → nod x = true
  | .none, _ => rfl
  | .bool _, _ => rfl
  | .int _, _ => rfl
  | .str _, _ => rfl
  | .list xs, h => by
    simp only [sm, Bool.and_eq_true] at h
    exact smAll_nod xs h.2
  | .tuple xs, h => by
    simp only [sm, Bool.and_eq_true] at h
    exact smAll_nod xs h.2
  | .dict _, h => by cases h
theorem smAll_nod : ∀ xs : List D, smAll xs = true → nodAll xs = true
  | [], _ => rfl
  | x :: xs, h => by
    simp only [smAll, Bool.and_eq_true] at h
    simp only [nodAll, Bool.and_eq_true]
    exact ⟨sm_nod x h.1, smAll_nod xs h.2⟩
end
theorem sm_get : ∀ {xs : List D} {i : Nat} {x : D}, smAll xs = true → xs[i]? = some x → sm x = true := by
  intro xs
  induction xs with
  | nil => intro i x h e; simp at e
  | cons y ys ih =>
    intro i x h e
    simp only [smAll, Bool.and_eq_true] at h
    cases i with
    | zero =>
      simp at e
      subst e
      exact h.1
    | succ i => exact ih h.2 (by simpa using e)
theorem dep_get : ∀ {xs : List D} {i : Nat} {x : D}, xs[i]? = some x → dep x ≤ depAll xs := by
  intro xs
  induction xs with
  | nil => intro i x e; simp at e
  | cons y ys ih =>
    intro i x e
    simp only [depAll]
    cases i with
    | zero =>
      simp at e
      subst e
      omega
    | succ i =>
      have := ih (i := i) (x := x) (by simpa using e)
      omega
def tyD : D → Option Ty
  | .none => none
  | .bool _ => some .bool
  | .int _ => some .int
  | .str _ => some .str
  | .list _ => some .list
  | .tuple _ => some .tuple
  | .dict _ => some .dict
/-- data, or a list's cell -/
theorem vw_cases {w : W} {x : D} (h : vw st w = some x) (hn : nod x = true) : w = .d x ∨ ∃ n ws xs, w = .ref n ∧ st[n]? = some (.lst ws) ∧ allD ws = some xs ∧ x = .list xs := by
  cases w with
  | d y =>
    simp [vw] at h
    exact .inl (by rw [h])
  | ref n =>
    right
    simp only [vw] at h
    split at h
    · rename_i ws hc
      simp only [Option.map_eq_some_iff] at h
      obtain ⟨xs, h1, h2⟩ := h
      exact ⟨n, ws, xs, rfl, hc, h1, h2.symm⟩
    · simp only [Option.map_eq_some_iff] at h
      obtain ⟨xs, h1, h2⟩ := h
      rw [← h2] at hn
      cases hn
    · cases h
  | fn f => cases h
theorem allD_eq : ∀ {ws : List W} {xs : List D}, allD ws = some xs → ws = xs.map .d := by
  intro ws
  induction ws with
  | nil =>
    intro xs h
    simp [allD] at h
    subst h
    rfl
  | cons w ws ih =>
    intro xs h
    cases w with
    | d x =>
      simp only [allD, Option.map_eq_some_iff] at h
      obtain ⟨r, h1, rfl⟩ := h
      rw [ih h1]
      rfl
    | ref _ => simp [allD] at h
    | fn _ => simp [allD] at h
theorem isi_of {w : W} {x : D} (h : vw st w = some x) (hn : nod x = true) (ts : List Ty) : isiW st w ts = some (ts.any (isTy (tyD x))) := by
  rcases vw_cases h hn with rfl | ⟨n, ws, xs, rfl, h1, h2, rfl⟩
  · cases x <;> simp [isiW, kindOk, tyOf, tyD]
    simp [nod] at hn
  · simp [isiW, kindOk, tyOf, tyD, h1]
theorem seq_list {w : W} {xs : List D} (h : vw st w = some (.list xs)) (hn : nod (.list xs) = true) : seqW st w = some (xs.map .d) ∧ lenW st w = some (xs.length : Int) ∧ ∀ i, idxW st w (.d (.int i)) = FM.atI (xs.map W.d) i := by
  rcases vw_cases h hn with rfl | ⟨n, ws, ys, rfl, h1, h2, h3⟩
  · refine ⟨rfl, by simp [lenW, seqW], fun i => rfl⟩
  · cases h3
    have := allD_eq h2
    subst this
    refine ⟨by simp [seqW, h1], by simp [lenW, seqW, h1], fun i => by simp [idxW, seqW, h1]⟩
theorem seq_tup {w : W} {xs : List D} (h : vw st w = some (.tuple xs)) (hn : nod (.tuple xs) = true) : seqW st w = some (xs.map .d) ∧ lenW st w = some (xs.length : Int) ∧ ∀ i, idxW st w (.d (.int i)) = FM.atI (xs.map W.d) i := by
  rcases vw_cases h hn with rfl | ⟨n, ws, ys, rfl, h1, h2, h3⟩
  · exact ⟨rfl, by simp [lenW, seqW], fun i => rfl⟩
  · cases h3
theorem lc_none {γ : Type} {step : W → Sto → Res (Option γ)} : ∀ ws : List W, (∀ w ∈ ws, step w st = .ok none st) → lcL none step ws st = .ok [] st
  | [], _ => rfl
  | w :: ws, h => by
    simp only [lcL, h w List.mem_cons_self, still, if_true, lc_none ws fun u hu => h u (List.mem_cons_of_mem _ hu)]
theorem rng_mem {lo : Int} {n : Nat} {w : W} (h : w ∈ rngL lo n) : ∃ i, i < n ∧ w = .d (.int (lo + (i : Nat))) := by
  simp only [rngL, List.mem_map, List.mem_range] at h
  obtain ⟨i, h1, h2⟩ := h
  exact ⟨i, h1, h2.symm⟩
theorem rngL_len {lo : Int} {n : Nat} : (rngL lo n).length = n := by simp [rngL]
theorem eqAll_refl_nil : eqAll [] [] = true := rfl
theorem alike_atom (hP : P.fn "_law_alike" = some ⟨2, 4, .pure, alikeB⟩) {x : D} {st : Sto} {j : Nat} (hs : sm x = true) (hnl : (∀ xs, x ≠ .list xs) ∧ ∀ xs, x ≠ .tuple xs) : callD P R (j + 1) "_law_alike" [.d x, .d x] st = .ok (.d (.bool true)) st := by
  rw [callD_fn hP _ _ rfl]
  simp only [alikeB, entry, evSs, evS, evC, evE]
  cases x with
  | none => simp [varW, isiW, kindOk, tyOf, isTy, truW, truD, cmpW, isW, isD, cmpP, vw, cmpD, eqOk, nod, dep, eqD, noneW]
  | bool b => simp [varW, isiW, kindOk, tyOf, isTy, truW, truD, cmpW, isW, isD, cmpP, vw, cmpD, eqOk, nod, dep, eqD, noneW]
  | int _ => simp [varW, isiW, kindOk, tyOf, isTy, truW, truD, cmpW, isW, isD, cmpP, vw, cmpD, eqOk, nod, dep, eqD, noneW]
  | str _ => simp [varW, isiW, kindOk, tyOf, isTy, truW, truD, cmpW, isW, isD, cmpP, vw, cmpD, eqOk, nod, dep, eqD, noneW]
  | list xs => exact absurd rfl (hnl.1 xs)
  | tuple xs => exact absurd rfl (hnl.2 xs)
  | dict _ => cases hs
theorem alike_row (hP : P.fn "_law_alike" = some ⟨2, 4, .pure, alikeB⟩) {x : D} {xs : List D} {f d : W} {st : Sto} {n : Nat} (hx : x = .list xs ∨ x = .tuple xs) (i1 : ∀ ts, isiW st f ts = some (ts.any (isTy (tyD x)))) (i2 : ∀ ts, isiW st d ts = some (ts.any (isTy (tyD x)))) (h3 : xs.length ≤ SZ)
    (h4 : lenW st f = some (xs.length : Int)) (h5 : lenW st d = some (xs.length : Int)) (key : ∀ i : Nat, i < xs.length → ∃ y, idxW st f (.d (.int i)) = some (.d y) ∧ idxW st d (.d (.int i)) = some (.d y) ∧ callD P R n "_law_alike" [.d y, .d y] st = .ok (.d (.bool true)) st) :
    callD P R (n + 1) "_law_alike" [f, d] st = .ok (.d (.bool true)) st := by
  have hr : rngOk (xs.length : Int) = true := by
    have hSZ : SZ = 16777216 := rfl
    simp [rngOk]
    omega
  have hlen : ¬ SZ < (rngL 0 xs.length).length := by rw [rngL_len]; omega
  rw [callD_fn hP _ _ rfl]
  have hv0 : varW (entry ⟨2, 4, .pure, alikeB⟩ [f, d]) 0 = some f := rfl
  have hv1 : varW (entry ⟨2, 4, .pure, alikeB⟩ [f, d]) 1 = some d := rfl
  have hl4 : (entry ⟨2, 4, .pure, alikeB⟩ [f, d]).length = 4 := rfl
  generalize entry ⟨2, 4, .pure, alikeB⟩ [f, d] = ρ at hv0 hv1 hl4
  have b4 : b1W R st .len f = some (.d (.int xs.length)) := by simp [b1W, h4]
  have b5 : b1W R st .len d = some (.d (.int xs.length)) := by simp [b1W, h5]
  have hx1 : tyD x = some .list ∨ tyD x = some .tuple := by rcases hx with rfl | rfl <;> simp [tyD]
  have k1 : [Ty.tuple, Ty.list].any (isTy (tyD x)) = true := by rcases hx with rfl | rfl <;> simp [tyD, isTy]
  generalize hb : [Ty.list].any (isTy (tyD x)) = b at *
  have c1 : evC P R (callD P R n) (.e (.isi (.var 1) [.tuple, .list])) ρ st = .ok true st := by
    simp only [evC, evE, hv1, Res.of_some, Res.bind_ok, i2, k1, Option.map_some, truW, truD]
  have c2 : evC P R (callD P R n) (.or (.not (.e (.isi (.var 0) [.tuple, .list]))) (.e (.cmp .ne (.isi (.var 0) [.list]) (.isi (.var 1) [.list])))) ρ st = .ok false st := by
    simp only [evC, evE, hv0, hv1, Res.of_some, Res.bind_ok, i1, i2, k1, hb, Option.map_some, truW, truD, Bool.not_true, cmpW, cmpP, vw, cmpD, eqOk, nod, dep]
    cases b <;> simp [eqD, truW, truD]
  have c3 : evC P R (callD P R n) (.e (.cmp .ne (.b1 .len (.var 0)) (.b1 .len (.var 1)))) ρ st = .ok false st := by
    simp [evC, evE, hv0, hv1, b4, b5, cmpW, cmpP, cmpD, eqOk, nod, dep, eqD, truW, truD]
  have hI : evI P R (callD P R n) (.rng1 (.b1 .len (.var 1))) ρ st = .ok (rngL 0 xs.length, none) st := by
    rw [evI, evE, evE, hv1, Res.of_some, Res.bind_ok, b5, Res.of_some, Res.bind_ok]
    exact (if_pos hr).trans (by rw [Int.toNat_natCast])
  have hL : evF P R (callD P R n) (.lc [2] (.v 2) (.rng1 (.b1 .len (.var 1))) (.c (.not (.e (.call "_law_alike" (.cons (.idx (.var 0) (.var 2)) (.cons (.idx (.var 1) (.var 2)) (.nil))))))) (.var 2)) ρ st = .ok (.l []) st := by
    rw [evF, hI, Res.bind_ok]
    simp only
    rw [if_neg hlen, lc_none]
    · rfl
    intro w hw
    obtain ⟨i, hi, rfl⟩ := rng_mem hw
    obtain ⟨y, e1, e2, e3⟩ := key i hi
    have g : ∀ (k : Nat) (v : W), k ≠ 2 → varW ρ k = some v → varW ((wip ρ [2]).set 2 (some (.d (.int (0 + (i : Nat)))))) k = some v := by
      intro k v hk h
      simp only [wip, varW, List.set_set] at h ⊢
      rw [List.getElem?_set_ne (fun e => hk e.symm)]
      exact h
    have g2 : varW ((wip ρ [2]).set 2 (some (.d (.int (0 + (i : Nat)))))) 2 = some (.d (.int (0 + (i : Nat)))) := by
      have : 2 < ρ.length := by rw [hl4]; omega
      simp [varW, wip, this]
    simp only [asgT, evCs, evC, evE, evEs, g 0 f (by omega) hv0, g 1 d (by omega) hv1, g2, Res.of_some, Res.bind_ok]
    rw [show (0 + (i : Int)) = (i : Int) by omega]
    simp only [e1, e2, Res.of_some, Res.bind_ok, e3, truW, truD, Bool.not_true]
    rfl
  have c4 : evE P R (callD P R n) (.cmp .eq (.pur (.lc [2] (.v 2) (.rng1 (.b1 .len (.var 1))) (.c (.not (.e (.call "_law_alike" (.cons (.idx (.var 0) (.var 2)) (.cons (.idx (.var 1) (.var 2)) (.nil))))))) (.var 2))) (.pur (.lst (.nil)))) ρ st = .ok (.d (.bool true)) st := by
    rw [evE, evE, hL]
    simp [evE, evF, evEs, Fr.pur, allD, cmpW, cmpP, cmpD, eqOk, nod, nodAll, dep, depAll, eqD, eqAll, vw]
  simp only [alikeB, evSs, evS, c1, c2, c3, c4, Res.out_ok, if_true, if_false, Out.next_rt, Out.next_nx, Bool.false_eq_true, exit_one]
theorem alike_refl (hP : P.fn "_law_alike" = some ⟨2, 4, .pure, alikeB⟩) : ∀ (n : Nat) (x : D) (f d : W) (st : Sto) (j : Nat), dep x ≤ n → sm x = true → vw st f = some x → vw st d = some x → callD P R (j + n + 1) "_law_alike" [f, d] st = .ok (.d (.bool true)) st := by
  have atom : ∀ (x : D) (f d : W) (st : Sto) (m : Nat), sm x = true → vw st f = some x → vw st d = some x → (∀ xs, x ≠ .list xs) ∧ (∀ xs, x ≠ .tuple xs) → callD P R (m + 1) "_law_alike" [f, d] st = .ok (.d (.bool true)) st := by
    intro x f d st m hs hf hd2 hnl
    have hn := sm_nod x hs
    have ef : f = .d x := by
      rcases vw_cases hf hn with e | ⟨_, _, xs, _, _, _, e⟩
      · exact e
      · exact absurd e (hnl.1 xs)
    have ed : d = .d x := by
      rcases vw_cases hd2 hn with e | ⟨_, _, xs, _, _, _, e⟩
      · exact e
      · exact absurd e (hnl.1 xs)
    rw [ef, ed]
    exact alike_atom hP hs hnl
  intro n
  induction n with
  | zero =>
    intro x f d st j hd hs hf hd2
    exact atom x f d st _ hs hf hd2 ⟨fun xs e => by subst e; simp [dep] at hd, fun xs e => by subst e; simp [dep] at hd⟩
  | succ n ih =>
    intro x f d st j hd hs hf hd2
    have hn := sm_nod x hs
    have key : ∀ xs : List D, smAll xs = true → depAll xs ≤ n → (∀ i, idxW st f (.d (.int i)) = FM.atI (xs.map W.d) i) → (∀ i, idxW st d (.d (.int i)) = FM.atI (xs.map W.d) i) → ∀ i : Nat, i < xs.length → ∃ y, idxW st f (.d (.int i)) = some (.d y) ∧ idxW st d (.d (.int i)) = some (.d y) ∧ callD P R (j + n + 1) "_law_alike" [.d y, .d y] st = .ok (.d (.bool true)) st := by
      intro xs h1 h2 h4 h5 i hi
      have e : xs[i]? = some xs[i] := List.getElem?_eq_getElem hi
      refine ⟨xs[i], ?_, ?_, ih _ _ _ _ _ (by have := dep_get e; omega) (sm_get h1 e) rfl rfl⟩
      · rw [h4]; simp [FM.atI, hi]
      · rw [h5]; simp [FM.atI, hi]
    cases x with
    | list xs =>
      simp only [sm, Bool.and_eq_true, decide_eq_true_eq] at hs
      obtain ⟨a1, a2, a3⟩ := seq_list hf hn
      obtain ⟨b1, b2, b3⟩ := seq_list hd2 hn
      exact alike_row (n := j + n + 1) hP (.inl rfl) (isi_of hf hn) (isi_of hd2 hn) hs.1 a2 b2 (key xs hs.2 (by simp [dep] at hd; omega) a3 b3)
    | tuple xs =>
      simp only [sm, Bool.and_eq_true, decide_eq_true_eq] at hs
      obtain ⟨a1, a2, a3⟩ := seq_tup hf hn
      obtain ⟨b1, b2, b3⟩ := seq_tup hd2 hn
      exact alike_row (n := j + n + 1) hP (.inr rfl) (isi_of hf hn) (isi_of hd2 hn) hs.1 a2 b2 (key xs hs.2 (by simp [dep] at hd; omega) a3 b3)
    | none => exact atom _ f d st _ hs hf hd2 ⟨fun _ e => (by cases e), fun _ e => (by cases e)⟩
    | bool _ => exact atom _ f d st _ hs hf hd2 ⟨fun _ e => (by cases e), fun _ e => (by cases e)⟩
    | int _ => exact atom _ f d st _ hs hf hd2 ⟨fun _ e => (by cases e), fun _ e => (by cases e)⟩
    | str _ => exact atom _ f d st _ hs hf hd2 ⟨fun _ e => (by cases e), fun _ e => (by cases e)⟩
    | dict _ => cases hs
end
end FM
end

section
/-! FP4: lemmas that several laws share. -/
set_option Elab.async false
set_option linter.all false
set_option maxRecDepth 100000
set_option autoImplicit false
set_option maxHeartbeats 4000000
namespace FM
open PySem
theorem cut_up {α : Type} (l : List α) (n : Nat) : cut l (some (n : Int)) none = l.drop n := by
  unfold cut sIdx
  simp only [show ¬ ((n : Int) < 0) by omega, if_false, Int.toNat_natCast]
  by_cases h : n ≤ l.length
  · rw [Nat.min_eq_left h, List.take_of_length_le (by simp [noneW, allD, eqAll, nodAll, depAll, varW, idxW, seqW, FM.atI, cmpW, cmpP, vw, cmpD, eqOk, nod, dep, eqD, truW, truD, b1W, binW, binD, asgT, lenW, srcW, rcv1, tyOf, Fr.pur, ofP, m1W, int?, slW, slD, isiW, isTy, kindOk, isD, isW, inStr])]
  · rw [Nat.min_eq_right (by omega), List.drop_length, List.drop_eq_nil_of_le (by omega)]
    simp [noneW, allD, eqAll, nodAll, depAll, varW, idxW, seqW, FM.atI, cmpW, cmpP, vw, cmpD, eqOk, nod, dep, eqD, truW, truD, b1W, binW, binD, asgT, lenW, srcW, rcv1, tyOf, Fr.pur, ofP, m1W, int?, slW, slD, isiW, isTy, kindOk, isD, isW, inStr]
theorem cut_to {α : Type} (l : List α) (n : Nat) : cut l none (some (n : Int)) = l.take n := by
  unfold cut sIdx
  simp only [show ¬ ((n : Int) < 0) by omega, if_false, Int.toNat_natCast, List.drop_zero, Nat.sub_zero]
  by_cases h : n ≤ l.length
  · rw [Nat.min_eq_left h]
  · rw [Nat.min_eq_right (by omega), List.take_length, List.take_of_length_le (by omega)]
theorem cut1 {α : Type} (l : List α) : cut l (some 1) none = l.drop 1 := cut_up l 1
theorem cut2 {α : Type} (l : List α) : cut l (some 2) none = l.drop 2 := cut_up l 2
theorem cutT1 {α : Type} (l : List α) : cut l none (some 1) = l.take 1 := cut_to l 1
theorem cutT2 {α : Type} (l : List α) : cut l none (some 2) = l.take 2 := cut_to l 2
theorem flt_true (l : List Nat) : l.filter (fun _ => true) = l := by simp [noneW, allD, eqAll, nodAll, depAll, varW, idxW, seqW, FM.atI, cmpW, cmpP, vw, cmpD, eqOk, nod, dep, eqD, truW, truD, b1W, binW, binD, asgT, lenW, srcW, rcv1, tyOf, Fr.pur, ofP, m1W, int?, slW, slD, isiW, isTy, kindOk, isD, isW, inStr]
theorem lt3 (n : Nat) : decide ((n : Int) < 3) = !decide (3 ≤ n) := by
  by_cases h : 3 ≤ n
  · simp [noneW, allD, eqAll, nodAll, depAll, varW, idxW, seqW, FM.atI, cmpW, cmpP, vw, cmpD, eqOk, nod, dep, eqD, truW, truD, b1W, binW, binD, asgT, lenW, srcW, rcv1, tyOf, Fr.pur, ofP, m1W, int?, slW, slD, isiW, isTy, kindOk, isD, isW, inStr, h]
    omega
  · simp [noneW, allD, eqAll, nodAll, depAll, varW, idxW, seqW, FM.atI, cmpW, cmpP, vw, cmpD, eqOk, nod, dep, eqD, truW, truD, b1W, binW, binD, asgT, lenW, srcW, rcv1, tyOf, Fr.pur, ofP, m1W, int?, slW, slD, isiW, isTy, kindOk, isD, isW, inStr, h]
    omega
theorem nod_ones (l : List Nat) : nodAll (l.map fun c => dStr [c]) = true := by
  induction l with
  | nil => rfl
  | cons c l ih => simp [noneW, allD, eqAll, nodAll, depAll, varW, idxW, seqW, FM.atI, cmpW, cmpP, vw, cmpD, eqOk, nod, dep, eqD, truW, truD, b1W, binW, binD, asgT, lenW, srcW, rcv1, tyOf, Fr.pur, ofP, m1W, int?, slW, slD, isiW, isTy, kindOk, isD, isW, inStr, ih]
def asc (t : List Nat) : Prop := ∀ c ∈ t, c < 128
theorem lower_ok {t : List Nat} (h : asc t) (hl : t.length ≤ 1000) : m0W .lower (.d (dStr t)) = some (.d (dStr (t.map lower1))) := by
  have : t.all (fun c => decide (c < 128)) = true := by
    rw [List.all_eq_true]
    intro x hx
    simpa [noneW, allD, eqAll, nodAll, depAll, varW, idxW, seqW, FM.atI, cmpW, cmpP, vw, cmpD, eqOk, nod, dep, eqD, truW, truD, b1W, binW, binD, asgT, lenW, srcW, rcv1, tyOf, Fr.pur, ofP, m1W, int?, slW, slD, isiW, isTy, kindOk, isD, isW, inStr] using h x hx
  simp only [m0W, tl_T, dStr]
  rw [this]
  simp [noneW, allD, eqAll, nodAll, depAll, varW, idxW, seqW, FM.atI, cmpW, cmpP, vw, cmpD, eqOk, nod, dep, eqD, truW, truD, b1W, binW, binD, asgT, lenW, srcW, rcv1, tyOf, Fr.pur, ofP, m1W, int?, slW, slD, isiW, isTy, kindOk, isD, isW, inStr, show t.length ≤ 1000000 by omega]
theorem upper_ok {t : List Nat} (h : asc t) (hl : t.length ≤ 1000) : m0W .upper (.d (dStr t)) = some (.d (dStr (t.map upper1))) := by
  have : t.all (fun c => decide (c < 128)) = true := by
    rw [List.all_eq_true]
    intro x hx
    simpa [noneW, allD, eqAll, nodAll, depAll, varW, idxW, seqW, FM.atI, cmpW, cmpP, vw, cmpD, eqOk, nod, dep, eqD, truW, truD, b1W, binW, binD, asgT, lenW, srcW, rcv1, tyOf, Fr.pur, ofP, m1W, int?, slW, slD, isiW, isTy, kindOk, isD, isW, inStr] using h x hx
  simp only [m0W, tl_T, dStr]
  rw [this]
  simp [noneW, allD, eqAll, nodAll, depAll, varW, idxW, seqW, FM.atI, cmpW, cmpP, vw, cmpD, eqOk, nod, dep, eqD, truW, truD, b1W, binW, binD, asgT, lenW, srcW, rcv1, tyOf, Fr.pur, ofP, m1W, int?, slW, slD, isiW, isTy, kindOk, isD, isW, inStr, show t.length ≤ 1000000 by omega]
theorem split_ne (c : Nat) : ∀ l : List Nat, splitC c l ≠ [] := fun l => by
  cases l with
  | nil => simp [noneW, allD, eqAll, nodAll, depAll, varW, idxW, seqW, FM.atI, cmpW, cmpP, vw, cmpD, eqOk, nod, dep, eqD, truW, truD, b1W, binW, binD, asgT, lenW, srcW, rcv1, tyOf, Fr.pur, ofP, m1W, int?, slW, slD, isiW, isTy, kindOk, isD, isW, inStr, splitC]
  | cons a l =>
    simp only [splitC]
    split
    · simp [noneW, allD, eqAll, nodAll, depAll, varW, idxW, seqW, FM.atI, cmpW, cmpP, vw, cmpD, eqOk, nod, dep, eqD, truW, truD, b1W, binW, binD, asgT, lenW, srcW, rcv1, tyOf, Fr.pur, ofP, m1W, int?, slW, slD, isiW, isTy, kindOk, isD, isW, inStr]
    · split <;> simp [noneW, allD, eqAll, nodAll, depAll, varW, idxW, seqW, FM.atI, cmpW, cmpP, vw, cmpD, eqOk, nod, dep, eqD, truW, truD, b1W, binW, binD, asgT, lenW, srcW, rcv1, tyOf, Fr.pur, ofP, m1W, int?, slW, slD, isiW, isTy, kindOk, isD, isW, inStr]
theorem split_len (c : Nat) : ∀ l : List Nat, ((splitC c l).map List.length).sum + (splitC c l).length = l.length + 1 := fun l => by
  induction l with
  | nil => rfl
  | cons a l ih =>
    simp only [splitC]
    split
    · simp [noneW, allD, eqAll, nodAll, depAll, varW, idxW, seqW, FM.atI, cmpW, cmpP, vw, cmpD, eqOk, nod, dep, eqD, truW, truD, b1W, binW, binD, asgT, lenW, srcW, rcv1, tyOf, Fr.pur, ofP, m1W, int?, slW, slD, isiW, isTy, kindOk, isD, isW, inStr]
      omega
    · have := split_ne c l
      split
      · contradiction
      · rename_i y r h
        rw [h] at ih
        simp [noneW, allD, eqAll, nodAll, depAll, varW, idxW, seqW, FM.atI, cmpW, cmpP, vw, cmpD, eqOk, nod, dep, eqD, truW, truD, b1W, binW, binD, asgT, lenW, srcW, rcv1, tyOf, Fr.pur, ofP, m1W, int?, slW, slD, isiW, isTy, kindOk, isD, isW, inStr] at ih ⊢
        omega
theorem split_no (c : Nat) : ∀ l : List Nat, ∀ w ∈ splitC c l, c ∉ w := fun l => by
  induction l with
  | nil => simp [noneW, allD, eqAll, nodAll, depAll, varW, idxW, seqW, FM.atI, cmpW, cmpP, vw, cmpD, eqOk, nod, dep, eqD, truW, truD, b1W, binW, binD, asgT, lenW, srcW, rcv1, tyOf, Fr.pur, ofP, m1W, int?, slW, slD, isiW, isTy, kindOk, isD, isW, inStr, splitC]
  | cons a l ih =>
    simp only [splitC]
    split
    · simpa [noneW, allD, eqAll, nodAll, depAll, varW, idxW, seqW, FM.atI, cmpW, cmpP, vw, cmpD, eqOk, nod, dep, eqD, truW, truD, b1W, binW, binD, asgT, lenW, srcW, rcv1, tyOf, Fr.pur, ofP, m1W, int?, slW, slD, isiW, isTy, kindOk, isD, isW, inStr] using ih
    · rename_i ha
      have := split_ne c l
      split
      · contradiction
      · rename_i y r h
        rw [h] at ih
        simp [noneW, allD, eqAll, nodAll, depAll, varW, idxW, seqW, FM.atI, cmpW, cmpP, vw, cmpD, eqOk, nod, dep, eqD, truW, truD, b1W, binW, binD, asgT, lenW, srcW, rcv1, tyOf, Fr.pur, ofP, m1W, int?, slW, slD, isiW, isTy, kindOk, isD, isW, inStr] at ih ⊢
        exact ⟨⟨fun z => ha z.symm, ih.1⟩, ih.2⟩
theorem filter_sum (p : List Nat → Bool) : ∀ l : List (List Nat), ((l.filter p).map List.length).sum + (l.filter p).length ≤ (l.map List.length).sum + l.length := fun l => by
  induction l with
  | nil => simp [noneW, allD, eqAll, nodAll, depAll, varW, idxW, seqW, FM.atI, cmpW, cmpP, vw, cmpD, eqOk, nod, dep, eqD, truW, truD, b1W, binW, binD, asgT, lenW, srcW, rcv1, tyOf, Fr.pur, ofP, m1W, int?, slW, slD, isiW, isTy, kindOk, isD, isW, inStr]
  | cons a l ih =>
    simp only [List.filter_cons]
    split
    · simp [noneW, allD, eqAll, nodAll, depAll, varW, idxW, seqW, FM.atI, cmpW, cmpP, vw, cmpD, eqOk, nod, dep, eqD, truW, truD, b1W, binW, binD, asgT, lenW, srcW, rcv1, tyOf, Fr.pur, ofP, m1W, int?, slW, slD, isiW, isTy, kindOk, isD, isW, inStr]
      omega
    · simp [noneW, allD, eqAll, nodAll, depAll, varW, idxW, seqW, FM.atI, cmpW, cmpP, vw, cmpD, eqOk, nod, dep, eqD, truW, truD, b1W, binW, binD, asgT, lenW, srcW, rcv1, tyOf, Fr.pur, ofP, m1W, int?, slW, slD, isiW, isTy, kindOk, isD, isW, inStr]
      omega
theorem lc_strs {γ : Type} {step : W → Sto → Res (Option γ)} {st : Sto} (p : List Nat → Bool) (g : List Nat → γ) : ∀ l : List (List Nat), (∀ c ∈ l, step (.d (dStr c)) st = .ok (if p c then some (g c) else none) st) → lcL none step (l.map (W.d ∘ dStr)) st = .ok ((l.filter p).map g) st := fun l h => by
  induction l with
  | nil => rfl
  | cons c l ih =>
    simp only [List.map_cons, lcL, Function.comp, h c List.mem_cons_self, still, if_true, List.filter_cons]
    have := ih fun u hu => h u (List.mem_cons_of_mem _ hu)
    rw [this]
    cases p c <;> rfl
theorem mem_sum {u : List Nat} : ∀ {l : List (List Nat)}, u ∈ l → u.length ≤ (l.map List.length).sum := fun {l} h => by
  induction l with
  | nil => cases h
  | cons a l ih =>
    simp only [List.map_cons, List.sum_cons]
    rcases List.mem_cons.mp h with rfl | h
    · omega
    · have := ih h
      omega
theorem split_word {c : Nat} : ∀ w : List Nat, c ∉ w → splitC c w = [w] := fun w h => by
  induction w with
  | nil => rfl
  | cons a l ih =>
    simp [noneW, allD, eqAll, nodAll, depAll, varW, idxW, seqW, FM.atI, cmpW, cmpP, vw, cmpD, eqOk, nod, dep, eqD, truW, truD, b1W, binW, binD, asgT, lenW, srcW, rcv1, tyOf, Fr.pur, ofP, m1W, int?, slW, slD, isiW, isTy, kindOk, isD, isW, inStr] at h
    simp [noneW, allD, eqAll, nodAll, depAll, varW, idxW, seqW, FM.atI, cmpW, cmpP, vw, cmpD, eqOk, nod, dep, eqD, truW, truD, b1W, binW, binD, asgT, lenW, srcW, rcv1, tyOf, Fr.pur, ofP, m1W, int?, slW, slD, isiW, isTy, kindOk, isD, isW, inStr, splitC, Ne.symm h.1, ih h.2]
theorem split_app {c : Nat} (s : List Nat) : ∀ w : List Nat, c ∉ w → splitC c (w ++ c :: s) = w :: splitC c s := fun w h => by
  induction w with
  | nil => simp [noneW, allD, eqAll, nodAll, depAll, varW, idxW, seqW, FM.atI, cmpW, cmpP, vw, cmpD, eqOk, nod, dep, eqD, truW, truD, b1W, binW, binD, asgT, lenW, srcW, rcv1, tyOf, Fr.pur, ofP, m1W, int?, slW, slD, isiW, isTy, kindOk, isD, isW, inStr, splitC]
  | cons a l ih =>
    simp [noneW, allD, eqAll, nodAll, depAll, varW, idxW, seqW, FM.atI, cmpW, cmpP, vw, cmpD, eqOk, nod, dep, eqD, truW, truD, b1W, binW, binD, asgT, lenW, srcW, rcv1, tyOf, Fr.pur, ofP, m1W, int?, slW, slD, isiW, isTy, kindOk, isD, isW, inStr] at h
    simp [noneW, allD, eqAll, nodAll, depAll, varW, idxW, seqW, FM.atI, cmpW, cmpP, vw, cmpD, eqOk, nod, dep, eqD, truW, truD, b1W, binW, binD, asgT, lenW, srcW, rcv1, tyOf, Fr.pur, ofP, m1W, int?, slW, slD, isiW, isTy, kindOk, isD, isW, inStr, splitC, Ne.symm h.1, ih h.2]
theorem split_join : ∀ xs : List (List Nat), (∀ w ∈ xs, 32 ∉ w) → xs ≠ [] → splitC 32 (joinT [32] xs) = xs
  | [], _, h => (h rfl).elim
  | [x], h, _ => split_word x (h x List.mem_cons_self)
  | x :: y :: r, h, _ => by
    have := split_join (y :: r) (fun w hw => h w (List.mem_cons_of_mem _ hw)) (by simp [noneW, allD, eqAll, nodAll, depAll, varW, idxW, seqW, FM.atI, cmpW, cmpP, vw, cmpD, eqOk, nod, dep, eqD, truW, truD, b1W, binW, binD, asgT, lenW, srcW, rcv1, tyOf, Fr.pur, ofP, m1W, int?, slW, slD, isiW, isTy, kindOk, isD, isW, inStr])
    show splitC 32 (x ++ [32] ++ joinT [32] (y :: r)) = _
    rw [List.append_assoc]
    show splitC 32 (x ++ 32 :: joinT [32] (y :: r)) = _
    rw [split_app _ x (h x List.mem_cons_self), this]
def bad1 (c : String) (x : D) : Exn := ⟨c, [("value", .d x)]⟩
theorem exit_exn {st : Sto} {c : String} {x : D} : exitR .pure st (.exn ⟨c, [("value", .d x)]⟩ st) = .exn (bad1 c x) st := by
  have : okOld st st := fun i hi => .inl rfl
  simp [noneW, allD, eqAll, nodAll, depAll, varW, idxW, seqW, FM.atI, cmpW, cmpP, vw, cmpD, eqOk, nod, dep, eqD, truW, truD, b1W, binW, binD, asgT, lenW, srcW, rcv1, tyOf, Fr.pur, ofP, m1W, int?, slW, slD, isiW, isTy, kindOk, isD, isW, inStr, exitR, exitExn, frzF, this, bad1]
theorem next_exn {x : Exn} {st : Sto} {f : FM.Env → Sto → Out} : (Out.exn x st).next f = .exn x st := rfl
theorem okR_ex {α : Type} {r : Res α} {Q : α → Sto → Prop} (h : okR r Q) : ∃ a st, r = .ok a st ∧ Q a st := by
  cases r with
  | ok a st => exact ⟨a, st, rfl, h⟩
  | exn _ _ => exact h.elim
  | bad => exact h.elim
theorem T_beq (a b : List Nat) : (T a == T b) = decide (a = b) := by
  by_cases h : a = b
  · subst h
    simp [noneW, allD, eqAll, nodAll, depAll, varW, idxW, seqW, FM.atI, cmpW, cmpP, vw, cmpD, eqOk, nod, dep, eqD, truW, truD, b1W, binW, binD, asgT, lenW, srcW, rcv1, tyOf, Fr.pur, ofP, m1W, int?, slW, slD, isiW, isTy, kindOk, isD, isW, inStr]
  · have : T a ≠ T b := fun z => h (by rw [← tl_T a, z, tl_T])
    simp [noneW, allD, eqAll, nodAll, depAll, varW, idxW, seqW, FM.atI, cmpW, cmpP, vw, cmpD, eqOk, nod, dep, eqD, truW, truD, b1W, binW, binD, asgT, lenW, srcW, rcv1, tyOf, Fr.pur, ofP, m1W, int?, slW, slD, isiW, isTy, kindOk, isD, isW, inStr, h, this]
theorem nod_strs (l : List (List Nat)) : nodAll (l.map dStr) = true := by
  induction l with
  | nil => rfl
  | cons c l ih => simp [noneW, allD, eqAll, nodAll, depAll, varW, idxW, seqW, FM.atI, cmpW, cmpP, vw, cmpD, eqOk, nod, dep, eqD, truW, truD, b1W, binW, binD, asgT, lenW, srcW, rcv1, tyOf, Fr.pur, ofP, m1W, int?, slW, slD, isiW, isTy, kindOk, isD, isW, inStr, ih]
theorem eq_strs (l m : List (List Nat)) : eqAll (l.map dStr) (m.map dStr) = decide (l = m) := by
  induction l generalizing m with
  | nil => cases m <;> simp [noneW, allD, eqAll, nodAll, depAll, varW, idxW, seqW, FM.atI, cmpW, cmpP, vw, cmpD, eqOk, nod, dep, eqD, truW, truD, b1W, binW, binD, asgT, lenW, srcW, rcv1, tyOf, Fr.pur, ofP, m1W, int?, slW, slD, isiW, isTy, kindOk, isD, isW, inStr, T_beq]
  | cons c l ih => cases m <;> simp [noneW, allD, eqAll, nodAll, depAll, varW, idxW, seqW, FM.atI, cmpW, cmpP, vw, cmpD, eqOk, nod, dep, eqD, truW, truD, b1W, binW, binD, asgT, lenW, srcW, rcv1, tyOf, Fr.pur, ofP, m1W, int?, slW, slD, isiW, isTy, kindOk, isD, isW, inStr, T_beq, ih]
theorem eq_nil (l : List (List Nat)) : eqAll (l.map dStr) [] = decide (l = []) := by cases l <;> simp [noneW, allD, eqAll, nodAll, depAll, varW, idxW, seqW, FM.atI, cmpW, cmpP, vw, cmpD, eqOk, nod, dep, eqD, truW, truD, b1W, binW, binD, asgT, lenW, srcW, rcv1, tyOf, Fr.pur, ofP, m1W, int?, slW, slD, isiW, isTy, kindOk, isD, isW, inStr, T_beq]
theorem dep_strs (l : List (List Nat)) : depAll (l.map dStr) = 0 := by
  induction l with
  | nil => rfl
  | cons c l ih => simp [noneW, allD, eqAll, nodAll, depAll, varW, idxW, seqW, FM.atI, cmpW, cmpP, vw, cmpD, eqOk, nod, dep, eqD, truW, truD, b1W, binW, binD, asgT, lenW, srcW, rcv1, tyOf, Fr.pur, ofP, m1W, int?, slW, slD, isiW, isTy, kindOk, isD, isW, inStr, T_beq, nod_strs, ih]
theorem join_flat : ∀ gs : List (List Nat), joinT [] gs = gs.flatten
  | [] => rfl
  | [x] => by simp [noneW, allD, eqAll, nodAll, depAll, varW, idxW, seqW, FM.atI, cmpW, cmpP, vw, cmpD, eqOk, nod, dep, eqD, truW, truD, b1W, binW, binD, asgT, lenW, srcW, rcv1, tyOf, Fr.pur, ofP, m1W, int?, slW, slD, isiW, isTy, kindOk, isD, isW, inStr, T_beq, nod_strs, joinT]
  | x :: y :: r => by
    show x ++ [] ++ joinT [] (y :: r) = _
    rw [join_flat (y :: r)]
    simp [noneW, allD, eqAll, nodAll, depAll, varW, idxW, seqW, FM.atI, cmpW, cmpP, vw, cmpD, eqOk, nod, dep, eqD, truW, truD, b1W, binW, binD, asgT, lenW, srcW, rcv1, tyOf, Fr.pur, ofP, m1W, int?, slW, slD, isiW, isTy, kindOk, isD, isW, inStr, T_beq, nod_strs]
theorem flat_ok {gs : List (List Nat)} (h : ∀ g ∈ gs, asc g ∧ g.length ≤ 2) : asc gs.flatten ∧ gs.flatten.length ≤ 2 * gs.length ∧ (gs.map List.length).sum = gs.flatten.length := by
  induction gs with
  | nil => simp [noneW, allD, eqAll, nodAll, depAll, varW, idxW, seqW, FM.atI, cmpW, cmpP, vw, cmpD, eqOk, nod, dep, eqD, truW, truD, b1W, binW, binD, asgT, lenW, srcW, rcv1, tyOf, Fr.pur, ofP, m1W, int?, slW, slD, isiW, isTy, kindOk, isD, isW, inStr, T_beq, nod_strs, asc]
  | cons g gs ih =>
    obtain ⟨h1, h2, h3⟩ := ih fun x hx => h x (List.mem_cons_of_mem _ hx)
    obtain ⟨h4, h5⟩ := h g List.mem_cons_self
    refine ⟨fun c hc => ?_, ?_, ?_⟩
    · rcases List.mem_append.mp (show c ∈ g ++ gs.flatten by simpa [noneW, allD, eqAll, nodAll, depAll, varW, idxW, seqW, FM.atI, cmpW, cmpP, vw, cmpD, eqOk, nod, dep, eqD, truW, truD, b1W, binW, binD, asgT, lenW, srcW, rcv1, tyOf, Fr.pur, ofP, m1W, int?, slW, slD, isiW, isTy, kindOk, isD, isW, inStr, T_beq, nod_strs] using hc) with hc | hc
      · exact h4 c hc
      · exact h1 c hc
    · simp only [List.flatten_cons, List.length_append, List.length_cons]
      omega
    · simp only [List.map_cons, List.sum_cons, List.flatten_cons, List.length_append, h3]
theorem T_len (l : List Nat) : (T l).length = l.length := by simp [noneW, allD, eqAll, nodAll, depAll, varW, idxW, seqW, FM.atI, cmpW, cmpP, vw, cmpD, eqOk, nod, dep, eqD, truW, truD, b1W, binW, binD, asgT, lenW, srcW, rcv1, tyOf, Fr.pur, ofP, m1W, int?, slW, slD, isiW, isTy, kindOk, isD, isW, inStr, T_beq, nod_strs, T, Str.length]
theorem repr_le (l : List Nat) (h : ∀ c ∈ l, c < 1114112) : (reprText (T l)).length ≤ 10 * l.length + 2 := by
  have := StrLaws.reprText_len (T l) (fun c hc => by have := h c (by simpa [noneW, allD, eqAll, nodAll, depAll, varW, idxW, seqW, FM.atI, cmpW, cmpP, vw, cmpD, eqOk, nod, dep, eqD, truW, truD, b1W, binW, binD, asgT, lenW, srcW, rcv1, tyOf, Fr.pur, ofP, m1W, int?, slW, slD, isiW, isTy, kindOk, isD, isW, inStr, T_beq, nod_strs, T] using hc); omega)
  rwa [T_len] at this
theorem app_len (a b : Str) : (a ++ b).length = a.length + b.length := by
  show (a.cps ++ b.cps).size = _
  simp [noneW, allD, eqAll, nodAll, depAll, varW, idxW, seqW, FM.atI, cmpW, cmpP, vw, cmpD, eqOk, nod, dep, eqD, truW, truD, b1W, binW, binD, asgT, lenW, srcW, rcv1, tyOf, Fr.pur, ofP, m1W, int?, slW, slD, isiW, isTy, kindOk, isD, isW, inStr, T_beq, nod_strs, Str.length]
theorem seqS {P : Prog} {Rr : Fun1} {Φ : Call} {s : S} {r : FM.Ss} {ρ : FM.Env} {st : Sto} {N N' : FM.Env → Sto → Prop} {Q : W → Sto → Prop} (h1 : okO (evS P Rr Φ s ρ st) N' Q) (h2 : ∀ ρ st, N' ρ st → okO (evSs P Rr Φ r ρ st) N Q) : okO (evSs P Rr Φ (.cons s r) ρ st) N Q := by
  rw [evSs, okO_next]
  exact okO_imp h1 h2 fun _ _ h => h
theorem rep_ok (w : List Nat) (x : D) (hn : nod x = true) (hd : dep x ≤ 50) (hs : x.showable = true) (hl : x.shown.length ≤ 1000) (hw : ∀ c ∈ w, c < 1114112) (hw2 : w.length ≤ 100) : reprOk R0 (PyData.tuple [dStr w, x]) = true := by
  have h1 := repr_le w hw
  have h2 := StrLaws.join_length_le (Str.ofString ", ") [reprText (T w), x.shown]
  have h3 : (Str.ofString ", ").length = 2 := by decide
  have h4 : (Str.ofString "(").length = 1 := by decide
  have h5 : (Str.ofString ")").length = 1 := by decide
  have hSZ : SZ = 16777216 := rfl
  simp [noneW, allD, eqAll, nodAll, depAll, varW, idxW, seqW, FM.atI, cmpW, cmpP, vw, cmpD, eqOk, nod, dep, eqD, truW, truD, b1W, binW, binD, asgT, lenW, srcW, rcv1, tyOf, Fr.pur, ofP, m1W, int?, slW, slD, isiW, isTy, kindOk, isD, isW, inStr, T_beq, nod_strs, h3] at h2
  simp [noneW, allD, eqAll, nodAll, depAll, varW, idxW, seqW, FM.atI, cmpW, cmpP, vw, cmpD, eqOk, nod, dep, eqD, truW, truD, b1W, binW, binD, asgT, lenW, srcW, rcv1, tyOf, Fr.pur, ofP, m1W, int?, slW, slD, isiW, isTy, kindOk, isD, isW, inStr, T_beq, nod_strs, reprOk, R0, PyData.showable, PyData.shown, nod, nodAll, dep, depAll, dStr, PyData.showableAll, PyData.shownAll, tupleText, hn, hs]
  rw [app_len, app_len]
  omega
theorem rep_str (w l : List Nat) (hw : ∀ c ∈ w, c < 1114112) (hw2 : w.length ≤ 100) (h : ∀ c ∈ l, c < 1114112) (h2 : l.length ≤ 90) : reprOk R0 (PyData.tuple [dStr w, dStr l]) = true := by
  refine rep_ok w (dStr l) (by simp [noneW, allD, eqAll, nodAll, depAll, varW, idxW, seqW, FM.atI, cmpW, cmpP, vw, cmpD, eqOk, nod, dep, eqD, truW, truD, b1W, binW, binD, asgT, lenW, srcW, rcv1, tyOf, Fr.pur, ofP, m1W, int?, slW, slD, isiW, isTy, kindOk, isD, isW, inStr, T_beq, nod_strs, nod]) (by simp [noneW, allD, eqAll, nodAll, depAll, varW, idxW, seqW, FM.atI, cmpW, cmpP, vw, cmpD, eqOk, nod, dep, eqD, truW, truD, b1W, binW, binD, asgT, lenW, srcW, rcv1, tyOf, Fr.pur, ofP, m1W, int?, slW, slD, isiW, isTy, kindOk, isD, isW, inStr, T_beq, nod_strs, dep]) (by simp [noneW, allD, eqAll, nodAll, depAll, varW, idxW, seqW, FM.atI, cmpW, cmpP, vw, cmpD, eqOk, nod, dep, eqD, truW, truD, b1W, binW, binD, asgT, lenW, srcW, rcv1, tyOf, Fr.pur, ofP, m1W, int?, slW, slD, isiW, isTy, kindOk, isD, isW, inStr, T_beq, nod_strs, PyData.showable]) ?_ hw hw2
  have := repr_le l h
  simp only [PyData.shown, dStr]
  omega
theorem rep_none (w : List Nat) (hw : ∀ c ∈ w, c < 1114112) (hw2 : w.length ≤ 100) : reprOk R0 (PyData.tuple [dStr w, .none]) = true :=
  rep_ok w .none (by simp [noneW, allD, eqAll, nodAll, depAll, varW, idxW, seqW, FM.atI, cmpW, cmpP, vw, cmpD, eqOk, nod, dep, eqD, truW, truD, b1W, binW, binD, asgT, lenW, srcW, rcv1, tyOf, Fr.pur, ofP, m1W, int?, slW, slD, isiW, isTy, kindOk, isD, isW, inStr, T_beq, nod_strs, nod]) (by simp [noneW, allD, eqAll, nodAll, depAll, varW, idxW, seqW, FM.atI, cmpW, cmpP, vw, cmpD, eqOk, nod, dep, eqD, truW, truD, b1W, binW, binD, asgT, lenW, srcW, rcv1, tyOf, Fr.pur, ofP, m1W, int?, slW, slD, isiW, isTy, kindOk, isD, isW, inStr, T_beq, nod_strs, dep]) (by simp [noneW, allD, eqAll, nodAll, depAll, varW, idxW, seqW, FM.atI, cmpW, cmpP, vw, cmpD, eqOk, nod, dep, eqD, truW, truD, b1W, binW, binD, asgT, lenW, srcW, rcv1, tyOf, Fr.pur, ofP, m1W, int?, slW, slD, isiW, isTy, kindOk, isD, isW, inStr, T_beq, nod_strs, PyData.showable]) (by simp only [PyData.shown]; decide) hw hw2
theorem rep_int1 (w : List Nat) (hw : ∀ c ∈ w, c < 1114112) (hw2 : w.length ≤ 100) : reprOk R0 (PyData.tuple [dStr w, .int 1]) = true :=
  rep_ok w (.int 1) (by simp [noneW, allD, eqAll, nodAll, depAll, varW, idxW, seqW, FM.atI, cmpW, cmpP, vw, cmpD, eqOk, nod, dep, eqD, truW, truD, b1W, binW, binD, asgT, lenW, srcW, rcv1, tyOf, Fr.pur, ofP, m1W, int?, slW, slD, isiW, isTy, kindOk, isD, isW, inStr, T_beq, nod_strs, nod]) (by simp [noneW, allD, eqAll, nodAll, depAll, varW, idxW, seqW, FM.atI, cmpW, cmpP, vw, cmpD, eqOk, nod, dep, eqD, truW, truD, b1W, binW, binD, asgT, lenW, srcW, rcv1, tyOf, Fr.pur, ofP, m1W, int?, slW, slD, isiW, isTy, kindOk, isD, isW, inStr, T_beq, nod_strs, dep]) (by simp [noneW, allD, eqAll, nodAll, depAll, varW, idxW, seqW, FM.atI, cmpW, cmpP, vw, cmpD, eqOk, nod, dep, eqD, truW, truD, b1W, binW, binD, asgT, lenW, srcW, rcv1, tyOf, Fr.pur, ofP, m1W, int?, slW, slD, isiW, isTy, kindOk, isD, isW, inStr, T_beq, nod_strs, PyData.showable]; decide) (by simp only [PyData.shown]; decide) hw hw2
theorem rep_int5 (w : List Nat) (hw : ∀ c ∈ w, c < 1114112) (hw2 : w.length ≤ 100) : reprOk R0 (PyData.tuple [dStr w, .int 5]) = true :=
  rep_ok w (.int 5) (by simp [noneW, allD, eqAll, nodAll, depAll, varW, idxW, seqW, FM.atI, cmpW, cmpP, vw, cmpD, eqOk, nod, dep, eqD, truW, truD, b1W, binW, binD, asgT, lenW, srcW, rcv1, tyOf, Fr.pur, ofP, m1W, int?, slW, slD, isiW, isTy, kindOk, isD, isW, inStr, T_beq, nod_strs, nod]) (by simp [noneW, allD, eqAll, nodAll, depAll, varW, idxW, seqW, FM.atI, cmpW, cmpP, vw, cmpD, eqOk, nod, dep, eqD, truW, truD, b1W, binW, binD, asgT, lenW, srcW, rcv1, tyOf, Fr.pur, ofP, m1W, int?, slW, slD, isiW, isTy, kindOk, isD, isW, inStr, T_beq, nod_strs, dep]) (by simp [noneW, allD, eqAll, nodAll, depAll, varW, idxW, seqW, FM.atI, cmpW, cmpP, vw, cmpD, eqOk, nod, dep, eqD, truW, truD, b1W, binW, binD, asgT, lenW, srcW, rcv1, tyOf, Fr.pur, ofP, m1W, int?, slW, slD, isiW, isTy, kindOk, isD, isW, inStr, T_beq, nod_strs, PyData.showable]; decide) (by simp only [PyData.shown]; decide) hw hw2
theorem exit_eff_exn {st : Sto} {c : String} {x : D} : exitR .eff st (.exn (bad1 c x) st) = .exn (bad1 c x) st := by
  have : okOld st st := fun i hi => .inl rfl
  simp [noneW, allD, eqAll, nodAll, depAll, varW, idxW, seqW, FM.atI, cmpW, cmpP, vw, cmpD, eqOk, nod, dep, eqD, truW, truD, b1W, binW, binD, asgT, lenW, srcW, rcv1, tyOf, Fr.pur, ofP, m1W, int?, slW, slD, isiW, isTy, kindOk, isD, isW, inStr, T_beq, nod_strs, exitR, exitExn, frzF, this, bad1]
theorem exit_eff_nx {st : Sto} {ρ : FM.Env} : exitR .eff st (.nx ρ st) = .ok (.d .none) st := by
  have : okOld st st := fun i hi => .inl rfl
  simp [noneW, allD, eqAll, nodAll, depAll, varW, idxW, seqW, FM.atI, cmpW, cmpP, vw, cmpD, eqOk, nod, dep, eqD, truW, truD, b1W, binW, binD, asgT, lenW, srcW, rcv1, tyOf, Fr.pur, ofP, m1W, int?, slW, slD, isiW, isTy, kindOk, isD, isW, inStr, T_beq, nod_strs, exitR, exitOk, this]
def dropS : Nat → FM.Ss → FM.Ss
  | 0, s => s
  | n + 1, .cons _ r => dropS n r
  | _, .nil => .nil
end FM
end

section
set_option Elab.async false
set_option linter.all false
set_option maxRecDepth 100000
set_option maxHeartbeats 0
namespace HT
open PySem FM
def tb : List (Str × String × Nat) := [("is_row", "is_row", 1), ("rows_of", "rows_of", 2), ("is_written", "is_written", 1), ("told_words", "told_words", 1), ("words_of", "words_of", 1), ("are_pair", "are_pair", 2), ("fits_in", "fits_in", 2), ("told_one", "told_one", 2), ("may_be_one", "may_be_one", 2), ("fullest", "fullest", 1), ("_law_taken", "_law_taken", 2), ("_law_pick", "_law_pick", 2), ("_law_alike", "_law_alike", 2), ("_law_unlike", "_law_unlike", 1), ("_law_words", "_law_words", 1), ("_law_pair", "_law_pair", 2), ("_law_ways", "_law_ways", 2), ("_law_one", "_law_one", 2), ("_law_written", "_law_written", 1)]
def ci : List (Str × Int) := [("MOST_SIGNS", 40), ("MOST_NAMES", 12)]
def cs : List (Str × List Nat) := [("LETTERS", [97, 98, 99, 100, 101, 102, 103, 104, 105, 106, 107, 108, 109, 110, 111, 112, 113, 114, 115, 116, 117, 118, 119, 120, 121, 122])]
def ex : List (Str × String) := [("BadWritten", "BadWritten"), ("BadNames", "BadNames")]
def hs : List (String × List Nat × List String) := [("BadNames", [110, 97, 109, 101, 115], ["value"]), ("BadWritten", [119, 114, 105, 116, 116, 101, 110], ["value"])]
def bis_row : FM.Ss := .cons (.ret (.isi (.var 0) [.list, .tuple])) (.nil)
def fis_row : Fn := ⟨1, 1, .pure, bis_row⟩
def brows_of : FM.Ss := .cons (.set (.v 2) (.new (.lst (.nil)))) (.cons (.set (.v 3) (.str [])) (.cons (.for (.v 4) (.e (.pur (.lst (.star (.m0 .lower (.var 0)) (.cons (.str [32]) (.nil)))))) (.cons (.ife (.e (.cmp .isin (.var 4) (.var 1))) (.cons (.aug 3 .add (.var 4)) (.nil)) (.cons (.ife (.e (.cmp .ne (.var 3) (.str []))) (.cons (.ex (.m1 .append (.var 2) (.var 3))) (.nil)) (.nil)) (.cons (.set (.v 3) (.str [])) (.nil)))) (.nil))) (.cons (.ret (.var 2)) (.nil))))
def frows_of : Fn := ⟨2, 5, .pure, brows_of⟩
def bis_written : FM.Ss := .cons (.ife (.or (.not (.e (.isi (.var 0) [.str]))) (.not (.e (.chain .le .le (.int 1) (.b1 .len (.var 0)) (.glob "MOST_SIGNS"))))) (.cons (.ret (.bl false)) (.nil)) (.nil)) (.cons (.ret (.and (.b1 .all (.pur (.lc [1] (.v 1) (.e (.var 0)) (.no) (.chain .le .le (.str [32]) (.var 1) (.str [126]))))) (.cmp .ne (.call "rows_of" (.cons (.var 0) (.cons (.glob "LETTERS") (.nil)))) (.pur (.lst (.nil)))))) (.nil))
def fis_written : Fn := ⟨1, 2, .pure, bis_written⟩
def btold_words : FM.Ss := .cons (.set (.v 1) (.m1 .split (.var 0) (.str [44]))) (.cons (.ife (.e (.cmp .eq (.b1 .len (.var 1)) (.int 2))) (.cons (.ret (.tup (.star (.call "rows_of" (.cons (.idx (.var 1) (.int 1)) (.cons (.glob "LETTERS") (.nil)))) (.star (.call "rows_of" (.cons (.idx (.var 1) (.int 0)) (.cons (.glob "LETTERS") (.nil)))) (.nil))))) (.nil)) (.nil)) (.cons (.ret (.b1 .tuple (.call "rows_of" (.cons (.var 0) (.cons (.glob "LETTERS") (.nil)))))) (.nil)))
def ftold_words : Fn := ⟨1, 2, .pure, btold_words⟩
def bwords_of : FM.Ss := .cons (.ife (.not (.e (.call "is_written" (.cons (.var 0) (.nil))))) (.cons (.raise "BadWritten" (.cons (.var 0) .nil)) (.nil)) (.nil)) (.cons (.ret (.call "told_words" (.cons (.var 0) (.nil)))) (.nil))
def fwords_of : Fn := ⟨1, 1, .pure, bwords_of⟩
def bare_pair : FM.Ss := .cons (.ife (.e (.cmp .eq (.var 0) (.var 1))) (.cons (.ret (.bl true)) (.nil)) (.nil)) (.cons (.ret (.and (.cmp .eq (.b2 .min (.b1 .len (.var 0)) (.b1 .len (.var 1))) (.int 1)) (.cmp .eq (.idx (.var 0) (.int 0)) (.idx (.var 1) (.int 0))))) (.nil))
def fare_pair : Fn := ⟨2, 2, .pure, bare_pair⟩
def bfits_in : FM.Ss := .cons (.set (.v 2) (.int 0)) (.cons (.for (.v 3) (.e (.var 1)) (.cons (.ife (.and (.e (.cmp .lt (.var 2) (.b1 .len (.var 0)))) (.e (.call "are_pair" (.cons (.idx (.var 0) (.var 2)) (.cons (.var 3) (.nil)))))) (.cons (.aug 2 .add (.int 1)) (.nil)) (.nil)) (.nil))) (.cons (.ret (.cmp .eq (.var 2) (.b1 .len (.var 0)))) (.nil)))
def ffits_in : Fn := ⟨2, 4, .pure, bfits_in⟩
def btold_one : FM.Ss := .cons (.set (.v 2) (.call "told_words" (.cons (.var 0) (.nil)))) (.cons (.set (.v 3) (.call "told_words" (.cons (.var 1) (.nil)))) (.cons (.ife (.e (.cmp .ne (.idx (.var 2) (.neg (.int 1))) (.idx (.var 3) (.neg (.int 1))))) (.cons (.ret (.bl false)) (.nil)) (.nil)) (.cons (.ife (.e (.cmp .gt (.b1 .len (.var 2)) (.b1 .len (.var 3)))) (.cons (.par 2 3 (.var 3) (.var 2)) (.nil)) (.nil)) (.cons (.ret (.call "fits_in" (.cons (.sl (.var 2) (.no) (.e (.neg (.int 1)))) (.cons (.sl (.var 3) (.no) (.e (.neg (.int 1)))) (.nil))))) (.nil)))))
def ftold_one : Fn := ⟨2, 4, .pure, btold_one⟩
def bmay_be_one : FM.Ss := .cons (.for (.v 2) (.e (.tup (.cons (.var 0) (.cons (.var 1) (.nil))))) (.cons (.ife (.not (.e (.call "is_written" (.cons (.var 2) (.nil))))) (.cons (.raise "BadWritten" (.cons (.var 2) .nil)) (.nil)) (.nil)) (.nil))) (.cons (.ret (.call "told_one" (.cons (.var 0) (.cons (.var 1) (.nil))))) (.nil))
def fmay_be_one : Fn := ⟨2, 3, .pure, bmay_be_one⟩
def bfullest : FM.Ss := .cons (.ife (.or (.not (.e (.call "is_row" (.cons (.var 0) (.nil))))) (.not (.e (.chain .le .le (.int 1) (.b1 .len (.var 0)) (.glob "MOST_NAMES"))))) (.cons (.raise "BadNames" (.cons (.neg (.int 1)) .nil)) (.nil)) (.nil)) (.cons (.for (.t [.v 3, .v 1]) (.enum (.var 0) 0) (.cons (.ife (.not (.e (.call "is_written" (.cons (.var 1) (.nil))))) (.cons (.raise "BadNames" (.cons (.var 3) .nil)) (.nil)) (.nil)) (.nil))) (.cons (.for (.v 1) (.e (.var 0)) (.cons (.ife (.not (.e (.b1 .all (.pur (.lc [4] (.v 4) (.e (.var 0)) (.no) (.call "told_one" (.cons (.var 1) (.cons (.var 4) (.nil))))))))) (.cons (.ret (.none)) (.nil)) (.nil)) (.nil))) (.cons (.set (.v 2) (.pur (.lc [1] (.v 1) (.e (.var 0)) (.no) (.tup (.cons (.neg (.b1 .len (.call "told_words" (.cons (.var 1) (.nil))))) (.cons (.neg (.b1 .sum (.pur (.lc [5] (.v 5) (.e (.call "told_words" (.cons (.var 1) (.nil)))) (.no) (.b1 .len (.var 5)))))) (.cons (.var 1) (.nil)))))))) (.cons (.ret (.idx (.b1 .min (.var 2)) (.int 2))) (.nil)))))
def ffullest : Fn := ⟨1, 6, .pure, bfullest⟩
def b_law_taken : FM.Ss := .cons (.ife (.e (.cmp .gt (.idx (.var 0) (.int 3)) (.int 0))) (.cons (.set (.v 3) (.bin .mod (.b1 .int (.idx (.var 0) (.int 3))) (.var 1))) (.cons (.setIx (.var 0) (.int 3) (.bin .fdiv (.idx (.var 0) (.int 3)) (.var 1))) (.cons (.ret (.var 3)) (.nil)))) (.nil)) (.cons (.setIx (.var 0) (.int 1) (.bin .add (.idx (.var 0) (.int 1)) (.int 1))) (.cons (.ife (.e (.cmp .gt (.idx (.var 0) (.int 1)) (.b1 .len (.idx (.var 0) (.int 0))))) (.cons (.setIx (.var 0) (.int 2) (.bin .mod (.b1 .int (.bin .add (.bin .mul (.idx (.var 0) (.int 2)) (.int 48271)) (.int 11))) (.int 2147483647))) (.cons (.ret (.bin .mod (.b1 .int (.bin .fdiv (.idx (.var 0) (.int 2)) (.int 7))) (.var 1))) (.nil))) (.nil)) (.cons (.set (.v 2) (.idx (.idx (.var 0) (.int 0)) (.bin .sub (.idx (.var 0) (.int 1)) (.int 1)))) (.cons (.setIx (.var 0) (.int 2) (.bin .mod (.b1 .int (.bin .add (.bin .add (.bin .mul (.idx (.var 0) (.int 2)) (.int 48271)) (.var 2)) (.int 11))) (.int 2147483647))) (.cons (.ife (.e (.cmp .ge (.var 2) (.bin .pow (.int 10) (.int 18)))) (.cons (.setIx (.var 0) (.int 3) (.bin .fdiv (.var 2) (.var 1))) (.nil)) (.nil)) (.cons (.ret (.bin .mod (.b1 .int (.var 2)) (.var 1))) (.nil)))))))
def f_law_taken : Fn := ⟨2, 4, .eff, b_law_taken⟩
def b_law_pick : FM.Ss := .cons (.ret (.idx (.var 1) (.call "_law_taken" (.cons (.var 0) (.cons (.b1 .len (.var 1)) (.nil)))))) (.nil)
def f_law_pick : Fn := ⟨2, 2, .eff, b_law_pick⟩
def b_law_alike : FM.Ss := .cons (.ife (.e (.isi (.var 1) [.tuple, .list])) (.cons (.ife (.or (.not (.e (.isi (.var 0) [.tuple, .list]))) (.e (.cmp .ne (.isi (.var 0) [.list]) (.isi (.var 1) [.list])))) (.cons (.ret (.bl false)) (.nil)) (.nil)) (.cons (.ife (.e (.cmp .ne (.b1 .len (.var 0)) (.b1 .len (.var 1)))) (.cons (.ret (.bl false)) (.nil)) (.nil)) (.cons (.ret (.cmp .eq (.pur (.lc [2] (.v 2) (.rng1 (.b1 .len (.var 1))) (.c (.not (.e (.call "_law_alike" (.cons (.idx (.var 0) (.var 2)) (.cons (.idx (.var 1) (.var 2)) (.nil))))))) (.var 2))) (.pur (.lst (.nil))))) (.nil)))) (.nil)) (.cons (.ife (.e (.isi (.var 1) [.dict])) (.cons (.ife (.or (.not (.e (.isi (.var 0) [.dict]))) (.e (.cmp .ne (.pur (.list (.var 0))) (.pur (.list (.var 1)))))) (.cons (.ret (.bl false)) (.nil)) (.nil)) (.cons (.ret (.cmp .eq (.pur (.lc [3] (.v 3) (.e (.var 1)) (.c (.not (.e (.call "_law_alike" (.cons (.idx (.var 0) (.var 3)) (.cons (.idx (.var 1) (.var 3)) (.nil))))))) (.var 3))) (.pur (.lst (.nil))))) (.nil))) (.nil)) (.cons (.ife (.or (.e (.cmp .is (.var 1) (.none))) (.e (.isi (.var 1) [.str]))) (.cons (.ret (.and (.cmp .eq (.var 0) (.var 1)) (.cmp .eq (.isi (.var 0) [.str]) (.isi (.var 1) [.str])))) (.nil)) (.nil)) (.cons (.ret (.and (.isi (.var 0) [.int]) (.and (.cmp .eq (.isi (.var 0) [.bool]) (.isi (.var 1) [.bool])) (.cmp .eq (.var 0) (.var 1))))) (.nil))))
def f_law_alike : Fn := ⟨2, 4, .pure, b_law_alike⟩
def b_law_unlike : FM.Ss := .cons (.set (.v 1) (.new (.lst (.nil)))) (.cons (.for (.v 2) (.e (.pur (.sorted (.pur (.list (.var 0)))))) (.cons (.ife (.or (.e (.cmp .eq (.var 1) (.pur (.lst (.nil))))) (.e (.cmp .ne (.idx (.var 1) (.neg (.int 1))) (.var 2)))) (.cons (.ex (.m1 .append (.var 1) (.var 2))) (.nil)) (.nil)) (.nil))) (.cons (.ret (.var 1)) (.nil)))
def f_law_unlike : Fn := ⟨1, 3, .pure, b_law_unlike⟩
def b_law_words : FM.Ss := .cons (.set (.v 1) (.m1 .split (.m0 .lower (.var 0)) (.str [44]))) (.cons (.set (.v 2) (.ife (.e (.cmp .eq (.b1 .len (.var 1)) (.int 2))) (.bin .add (.bin .add (.idx (.var 1) (.int 1)) (.str [32])) (.idx (.var 1) (.int 0))) (.m1 .join (.str [32]) (.var 1)))) (.cons (.par 4 5 (.pur (.lst (.nil))) (.str [])) (.cons (.for (.v 3) (.e (.bin .add (.pur (.list (.var 2))) (.pur (.lst (.cons (.str [32]) (.nil)))))) (.cons (.ife (.e (.cmp .isin (.var 3) (.str [97, 98, 99, 100, 101, 102, 103, 104, 105, 106, 107, 108, 109, 110, 111, 112, 113, 114, 115, 116, 117, 118, 119, 120, 121, 122]))) (.cons (.set (.v 5) (.bin .add (.var 5) (.var 3))) (.nil)) (.cons (.par 4 5 (.bin .add (.var 4) (.ife (.e (.cmp .ne (.var 5) (.str []))) (.pur (.lst (.cons (.var 5) (.nil)))) (.pur (.lst (.nil))))) (.str [])) (.nil))) (.nil))) (.cons (.ret (.b1 .tuple (.var 4))) (.nil)))))
def f_law_words : Fn := ⟨1, 6, .pure, b_law_words⟩
def b_law_pair : FM.Ss := .cons (.ret (.or (.cmp .eq (.var 0) (.var 1)) (.or (.and (.cmp .eq (.b1 .len (.var 0)) (.int 1)) (.cmp .eq (.idx (.var 1) (.int 0)) (.var 0))) (.and (.cmp .eq (.b1 .len (.var 1)) (.int 1)) (.cmp .eq (.idx (.var 0) (.int 0)) (.var 1)))))) (.nil)
def f_law_pair : Fn := ⟨2, 2, .pure, b_law_pair⟩
def b_law_ways : FM.Ss := .cons (.ife (.or (.e (.cmp .eq (.var 0) (.tup (.nil)))) (.e (.cmp .eq (.var 1) (.tup (.nil))))) (.cons (.ret (.pur (.lst (.cons (.tup (.cons (.b1 .len (.var 0)) (.cons (.b1 .len (.var 1)) (.nil)))) (.nil))))) (.nil)) (.nil)) (.cons (.set (.v 2) (.bin .add (.pur (.lc [3, 4] (.t [.v 3, .v 4]) (.e (.call "_law_ways" (.cons (.sl (.var 0) (.e (.int 1)) (.no)) (.cons (.var 1) (.nil))))) (.no) (.tup (.cons (.bin .add (.var 3) (.int 1)) (.cons (.var 4) (.nil)))))) (.pur (.lc [3, 4] (.t [.v 3, .v 4]) (.e (.call "_law_ways" (.cons (.var 0) (.cons (.sl (.var 1) (.e (.int 1)) (.no)) (.nil))))) (.no) (.tup (.cons (.var 3) (.cons (.bin .add (.var 4) (.int 1)) (.nil)))))))) (.cons (.ret (.call "_law_unlike" (.cons (.bin .add (.var 2) (.ife (.e (.call "_law_pair" (.cons (.idx (.var 0) (.int 0)) (.cons (.idx (.var 1) (.int 0)) (.nil))))) (.call "_law_ways" (.cons (.sl (.var 0) (.e (.int 1)) (.no)) (.cons (.sl (.var 1) (.e (.int 1)) (.no)) (.nil)))) (.pur (.lst (.nil))))) (.nil)))) (.nil)))
def f_law_ways : Fn := ⟨2, 5, .pure, b_law_ways⟩
def b_law_one : FM.Ss := .cons (.par 2 3 (.call "_law_words" (.cons (.var 0) (.nil))) (.call "_law_words" (.cons (.var 1) (.nil)))) (.cons (.ret (.and (.cmp .eq (.idx (.var 2) (.neg (.int 1))) (.idx (.var 3) (.neg (.int 1)))) (.cmp .ne (.pur (.lc [4] (.v 4) (.e (.call "_law_ways" (.cons (.sl (.var 2) (.no) (.e (.neg (.int 1)))) (.cons (.sl (.var 3) (.no) (.e (.neg (.int 1)))) (.nil))))) (.c (.or (.e (.cmp .eq (.idx (.var 4) (.int 0)) (.int 0))) (.e (.cmp .eq (.idx (.var 4) (.int 1)) (.int 0))))) (.var 4))) (.pur (.lst (.nil)))))) (.nil))
def f_law_one : Fn := ⟨2, 5, .pure, b_law_one⟩
def b_law_written : FM.Ss := .cons (.ife (.e (.cmp .eq (.call "_law_taken" (.cons (.var 0) (.cons (.int 6) (.nil)))) (.int 0))) (.cons (.set (.v 5) (.pur (.lc [6] (.v 6) (.rng1 (.bin .add (.int 1) (.call "_law_taken" (.cons (.var 0) (.cons (.int 8) (.nil)))))) (.no) (.call "_law_pick" (.cons (.var 0) (.cons (.pur (.lst (.cons (.str [97]) (.cons (.str [66]) (.cons (.str [46]) (.cons (.str [44]) (.cons (.str [32]) (.cons (.str [45]) (.cons (.str [57]) (.cons (.str [108, 101, 101]) (.cons (.str [39]) (.nil)))))))))))) (.nil))))))) (.cons (.ret (.bin .add (.m1 .join (.str []) (.var 5)) (.call "_law_pick" (.cons (.var 0) (.cons (.pur (.lst (.cons (.str [97]) (.cons (.str [76, 101, 101]) (.cons (.str [82, 97, 121]) (.nil)))))) (.nil)))))) (.nil))) (.nil)) (.cons (.set (.v 1) (.new (.lst (.nil)))) (.cons (.for (.v 2) (.e (.pur (.lst (.cons (.str [65, 110, 110]) (.cons (.str [77, 97, 114, 121]) (.cons (.str [65, 108, 98, 97]) (.nil))))))) (.cons (.set (.v 4) (.call "_law_taken" (.cons (.var 0) (.cons (.int 5) (.nil))))) (.cons (.ife (.e (.cmp .gt (.var 4) (.int 0))) (.cons (.ex (.m1 .append (.var 1) (.ife (.e (.cmp .lt (.var 4) (.int 3))) (.var 2) (.ife (.e (.cmp .eq (.var 4) (.int 3))) (.bin .add (.sl (.var 2) (.no) (.e (.int 1))) (.str [46])) (.m0 .lower (.sl (.var 2) (.no) (.e (.int 1)))))))) (.nil)) (.nil)) (.nil)))) (.cons (.set (.v 3) (.call "_law_pick" (.cons (.var 0) (.cons (.pur (.lst (.cons (.str [76, 101, 101]) (.cons (.str [76, 101, 101]) (.cons (.str [76, 69, 69]) (.cons (.str [82, 97, 121]) (.nil))))))) (.nil))))) (.cons (.set (.v 4) (.call "_law_taken" (.cons (.var 0) (.cons (.int 4) (.nil))))) (.cons (.ife (.e (.cmp .eq (.var 4) (.int 0))) (.cons (.ret (.ife (.e (.cmp .ne (.var 1) (.pur (.lst (.nil))))) (.bin .add (.bin .add (.var 3) (.str [44, 32])) (.m1 .join (.str [32]) (.var 1))) (.var 3))) (.nil)) (.nil)) (.cons (.ret (.m1 .join (.call "_law_pick" (.cons (.var 0) (.cons (.pur (.lst (.cons (.str [32]) (.cons (.str [32, 32]) (.cons (.str [45]) (.nil)))))) (.nil)))) (.bin .add (.var 1) (.pur (.lst (.cons (.var 3) (.nil))))))) (.nil)))))))
def f_law_written : Fn := ⟨1, 7, .eff, b_law_written⟩
def blaw : FM.Ss := .cons (.set (.v 1) (.new (.lst (.cons (.var 0) (.cons (.int 0) (.cons (.int 119) (.cons (.int 0) (.nil)))))))) (.cons (.set (.v 2) (.pur (.lc [9] (.v 9) (.rng1 (.bin .add (.int 2) (.call "_law_taken" (.cons (.var 1) (.cons (.int 4) (.nil)))))) (.no) (.call "_law_written" (.cons (.var 1) (.nil)))))) (.cons (.for (.v 3) (.e (.var 2)) (.cons (.ife (.not (.e (.call "_law_alike" (.cons (.call "words_of" (.cons (.var 3) (.nil))) (.cons (.call "_law_words" (.cons (.var 3) (.nil))) (.nil)))))) (.cons (.ret (.bl false)) (.nil)) (.nil)) (.cons (.for (.v 8) (.e (.var 2)) (.cons (.ife (.not (.e (.call "_law_alike" (.cons (.call "may_be_one" (.cons (.var 3) (.cons (.var 8) (.nil)))) (.cons (.call "_law_one" (.cons (.var 3) (.cons (.var 8) (.nil)))) (.nil)))))) (.cons (.ret (.bl false)) (.nil)) (.nil)) (.nil))) (.nil)))) (.cons (.set (.v 4) (.cmp .eq (.pur (.lc [3] (.v 3) (.e (.var 2)) (.c (.e (.cmp .ne (.pur (.lc [8] (.v 8) (.e (.var 2)) (.c (.not (.e (.call "_law_one" (.cons (.var 3) (.cons (.var 8) (.nil))))))) (.var 8))) (.pur (.lst (.nil)))))) (.var 3))) (.pur (.lst (.nil))))) (.cons (.set (.v 5) (.pur (.sorted (.pur (.lc [3] (.v 3) (.e (.var 2)) (.no) (.tup (.cons (.bin .sub (.int 0) (.b1 .len (.call "_law_words" (.cons (.var 3) (.nil))))) (.cons (.bin .sub (.int 0) (.b1 .len (.m1 .join (.str []) (.call "_law_words" (.cons (.var 3) (.nil)))))) (.cons (.var 3) (.nil)))))))))) (.cons (.ife (.not (.e (.call "_law_alike" (.cons (.call "fullest" (.cons (.b1 .tuple (.var 2)) (.nil))) (.cons (.ife (.e (.var 4)) (.idx (.idx (.var 5) (.int 0)) (.int 2)) (.none)) (.nil)))))) (.cons (.ret (.bl false)) (.nil)) (.nil)) (.cons (.set (.v 6) (.call "_law_pick" (.cons (.var 1) (.cons (.var 2) (.nil))))) (.cons (.ife (.or (.e (.cmp .ne (.call "fullest" (.cons (.pur (.lst (.cons (.var 6) (.nil)))) (.nil))) (.var 6))) (.or (.e (.cmp .isnot (.call "may_be_one" (.cons (.var 6) (.cons (.m0 .upper (.var 6)) (.nil)))) (.bl true))) (.e (.cmp .ne (.call "words_of" (.cons (.m0 .upper (.var 6)) (.nil))) (.call "words_of" (.cons (.m0 .lower (.var 6)) (.nil))))))) (.cons (.ret (.bl false)) (.nil)) (.nil)) (.cons (.set (.v 7) (.call "_law_pick" (.cons (.var 1) (.cons (.pur (.lst (.cons (.str []) (.cons (.str [57]) (.cons (.str [32, 44, 32]) (.cons (.bin .mul (.str [120]) (.int 41)) (.cons (.none) (.cons (.int 5) (.cons (.str [9]) (.cons (.str [46, 46]) (.cons (.str [97, 10]) (.nil)))))))))))) (.nil))))) (.cons (.ife (.e (.cmp .ne (.b1 .repr (.refused "_law_refused" (.call "words_of" (.cons (.var 7) (.nil))))) (.b1 .repr (.tup (.cons (.str [119, 114, 105, 116, 116, 101, 110]) (.cons (.var 7) (.nil))))))) (.cons (.ret (.bl false)) (.nil)) (.nil)) (.cons (.ife (.e (.cmp .ne (.b1 .repr (.refused "_law_refused" (.call "may_be_one" (.cons (.var 6) (.cons (.var 7) (.nil)))))) (.b1 .repr (.tup (.cons (.str [119, 114, 105, 116, 116, 101, 110]) (.cons (.var 7) (.nil))))))) (.cons (.ret (.bl false)) (.nil)) (.nil)) (.cons (.ife (.e (.cmp .ne (.b1 .repr (.refused "_law_refused" (.call "may_be_one" (.cons (.var 7) (.cons (.none) (.nil)))))) (.b1 .repr (.tup (.cons (.str [119, 114, 105, 116, 116, 101, 110]) (.cons (.var 7) (.nil))))))) (.cons (.ret (.bl false)) (.nil)) (.nil)) (.cons (.ife (.e (.cmp .ne (.refused "_law_refused" (.call "fullest" (.cons (.bin .add (.var 2) (.pur (.lst (.cons (.var 7) (.nil))))) (.nil)))) (.tup (.cons (.str [110, 97, 109, 101, 115]) (.cons (.b1 .len (.var 2)) (.nil)))))) (.cons (.ret (.bl false)) (.nil)) (.nil)) (.cons (.ret (.cmp .eq (.refused "_law_refused" (.call "fullest" (.cons (.call "_law_pick" (.cons (.var 1) (.cons (.pur (.lst (.cons (.none) (.cons (.pur (.lst (.nil))) (.cons (.bin .mul (.pur (.lst (.cons (.str [97]) (.nil)))) (.int 13)) (.cons (.int 5) (.nil))))))) (.nil)))) (.nil)))) (.tup (.cons (.str [110, 97, 109, 101, 115]) (.cons (.neg (.int 1)) (.nil)))))) (.nil))))))))))))))
def flaw : Fn := ⟨1, 10, .pure, blaw⟩
def EP : Prog where
  fn f := if f = "is_row" then some fis_row else if f = "rows_of" then some frows_of else if f = "is_written" then some fis_written else if f = "told_words" then some ftold_words else if f = "words_of" then some fwords_of else if f = "are_pair" then some fare_pair else if f = "fits_in" then some ffits_in else if f = "told_one" then some ftold_one else if f = "may_be_one" then some fmay_be_one else if f = "fullest" then some ffullest else if f = "_law_taken" then some f_law_taken else if f = "_law_pick" then some f_law_pick else if f = "_law_alike" then some f_law_alike else if f = "_law_unlike" then some f_law_unlike else if f = "_law_words" then some f_law_words else if f = "_law_pair" then some f_law_pair else if f = "_law_ways" then some f_law_ways else if f = "_law_one" then some f_law_one else if f = "_law_written" then some f_law_written else if f = "law" then some flaw else none
  glob x := if x = "MOST_SIGNS" then some (.d (.int 40)) else if x = "MOST_NAMES" then some (.d (.int 12)) else if x = "LETTERS" then some (.d (dStr [97, 98, 99, 100, 101, 102, 103, 104, 105, 106, 107, 108, 109, 110, 111, 112, 113, 114, 115, 116, 117, 118, 119, 120, 121, 122])) else none
  refused f := if f = "_law_refused" then some hs else none
  exc c := if c = "BadWritten" then some 1 else if c = "BadNames" then some 1 else none
end HT
end

section
set_option Elab.async false
set_option linter.all false
set_option maxRecDepth 100000
set_option autoImplicit false
set_option maxHeartbeats 4000000
namespace HT
open PySem FM
def LT : List Nat := [97, 98, 99, 100, 101, 102, 103, 104, 105, 106, 107, 108, 109, 110, 111, 112, 113, 114, 115, 116, 117, 118, 119, 120, 121, 122]
theorem gL : EP.glob "LETTERS" = some (.d (dStr LT)) := by simp [noneW, allD, eqAll, nodAll, depAll, varW, idxW, seqW, FM.atI, cmpW, cmpP, vw, cmpD, eqOk, nod, dep, eqD, truW, truD, b1W, binW, binD, asgT, lenW, srcW, rcv1, tyOf, Fr.pur, ofP, m1W, int?, slW, slD, isiW, isTy, kindOk, isD, isW, inStr, nod_ones, T_beq, nod_strs, dep_strs, EP, LT]
theorem gM : EP.glob "MOST_SIGNS" = some (.d (.int 40)) := by simp [noneW, allD, eqAll, nodAll, depAll, varW, idxW, seqW, FM.atI, cmpW, cmpP, vw, cmpD, eqOk, nod, dep, eqD, truW, truD, b1W, binW, binD, asgT, lenW, srcW, rcv1, tyOf, Fr.pur, ofP, m1W, int?, slW, slD, isiW, isTy, kindOk, isD, isW, inStr, nod_ones, T_beq, nod_strs, dep_strs, EP]
theorem gN : EP.glob "MOST_NAMES" = some (.d (.int 12)) := by simp [noneW, allD, eqAll, nodAll, depAll, varW, idxW, seqW, FM.atI, cmpW, cmpP, vw, cmpD, eqOk, nod, dep, eqD, truW, truD, b1W, binW, binD, asgT, lenW, srcW, rcv1, tyOf, Fr.pur, ofP, m1W, int?, slW, slD, isiW, isTy, kindOk, isD, isW, inStr, nod_ones, T_beq, nod_strs, dep_strs, EP]
/-- one sign more: the rows that are whole, and the one under way -/
def rstep (s : List (List Nat) × List Nat) (c : Nat) : List (List Nat) × List Nat := if c ∈ LT then (s.1, s.2 ++ [c]) else (if s.2 = [] then s.1 else s.1 ++ [s.2], [])
def scan (l : List Nat) : List (List Nat) := (l.foldl rstep ([], [])).1
def rowsP (t : List Nat) : List (List Nat) := scan (t.map lower1 ++ [32])
def RI (t : List Nat) (tot : List (List Nat) × List Nat) (st : Sto) (ws : List W) (ρ : FM.Env) (st' : Sto) : Prop := ∃ (l : List Nat) (s : List (List Nat) × List Nat) (v : Option W), ws = l.map (fun c => .d (dStr [c])) ∧ ρ = [some (.d (dStr t)), some (.d (dStr LT)), some (.ref st.length), some (.d (dStr s.2)), v] ∧ st' = st ++ [.lst (s.1.map fun r => .d (dStr r))] ∧ l.length + s.1.length + s.2.length ≤ 2000 ∧ l.foldl rstep s = tot
theorem rows_ok {t : List Nat} {st : Sto} {j : Nat} (h : asc t) (hl : t.length ≤ 1000) : okR (callD EP R0 (j + 1) "rows_of" [.d (dStr t), .d (dStr LT)] st) fun w st' => st' = st ∧ w = .d (.list ((rowsP t).map dStr)) := by
  have hSZ : SZ = 16777216 := rfl
  rw [callD_fn (fn := frows_of) rfl _ _ rfl]
  apply exit_pure
  simp only [frows_of, brows_of, entry, evSs, evS, evE, evO, evF, evI, evC, evCs, evEs, okO_next, okO_out, okR_bind]
  have e : chars (T (t.map lower1)) ++ [W.d (dStr [32])] = (t.map lower1 ++ [32]).map fun c => W.d (dStr [c]) := by rw [chars_T, List.map_append]; rfl
  simp [noneW, allD, eqAll, nodAll, depAll, varW, idxW, seqW, FM.atI, cmpW, cmpP, vw, cmpD, eqOk, nod, dep, eqD, truW, truD, b1W, binW, binD, asgT, lenW, srcW, rcv1, tyOf, Fr.pur, ofP, m1W, int?, slW, slD, isiW, isTy, kindOk, isD, isW, inStr, nod_ones, T_beq, nod_strs, dep_strs, lower_ok h hl, hSZ, show t.length ≤ 16777216 by omega, show t.length ≤ 16777215 by omega]
  rw [e]
  rw [allD_mapd]
  simp [noneW, allD, eqAll, nodAll, depAll, varW, idxW, seqW, FM.atI, cmpW, cmpP, vw, cmpD, eqOk, nod, dep, eqD, truW, truD, b1W, binW, binD, asgT, lenW, srcW, rcv1, tyOf, Fr.pur, ofP, m1W, int?, slW, slD, isiW, isTy, kindOk, isD, isW, inStr, nod_ones, T_beq, nod_strs, dep_strs, show t.length ≤ 16777215 by omega, -List.map_append, -List.map_map]
  refine okO_imp (for_inv (Rt := fun w st' => False) (RI t ((t.map lower1 ++ [32]).foldl rstep ([], [])) st) _ _ _ ?_ ?_) ?_ ?_
  · refine ⟨t.map lower1 ++ [32], ([], []), none, ?_, rfl, rfl, ?_, rfl⟩
    · simp [noneW, allD, eqAll, nodAll, depAll, varW, idxW, seqW, FM.atI, cmpW, cmpP, vw, cmpD, eqOk, nod, dep, eqD, truW, truD, b1W, binW, binD, asgT, lenW, srcW, rcv1, tyOf, Fr.pur, ofP, m1W, int?, slW, slD, isiW, isTy, kindOk, isD, isW, inStr, nod_ones, T_beq, nod_strs, dep_strs]
    · simp [noneW, allD, eqAll, nodAll, depAll, varW, idxW, seqW, FM.atI, cmpW, cmpP, vw, cmpD, eqOk, nod, dep, eqD, truW, truD, b1W, binW, binD, asgT, lenW, srcW, rcv1, tyOf, Fr.pur, ofP, m1W, int?, slW, slD, isiW, isTy, kindOk, isD, isW, inStr, nod_ones, T_beq, nod_strs, dep_strs]
      omega
  · rintro w r ρ st' ⟨l, s, v, h1, rfl, rfl, h4, h5⟩
    cases l with
    | nil => simp [noneW, allD, eqAll, nodAll, depAll, varW, idxW, seqW, FM.atI, cmpW, cmpP, vw, cmpD, eqOk, nod, dep, eqD, truW, truD, b1W, binW, binD, asgT, lenW, srcW, rcv1, tyOf, Fr.pur, ofP, m1W, int?, slW, slD, isiW, isTy, kindOk, isD, isW, inStr, nod_ones, T_beq, nod_strs, dep_strs] at h1
    | cons c l =>
      simp [noneW, allD, eqAll, nodAll, depAll, varW, idxW, seqW, FM.atI, cmpW, cmpP, vw, cmpD, eqOk, nod, dep, eqD, truW, truD, b1W, binW, binD, asgT, lenW, srcW, rcv1, tyOf, Fr.pur, ofP, m1W, int?, slW, slD, isiW, isTy, kindOk, isD, isW, inStr, nod_ones, T_beq, nod_strs, dep_strs] at h1
      obtain ⟨rfl, rfl⟩ := h1
      simp [noneW, allD, eqAll, nodAll, depAll, varW, idxW, seqW, FM.atI, cmpW, cmpP, vw, cmpD, eqOk, nod, dep, eqD, truW, truD, b1W, binW, binD, asgT, lenW, srcW, rcv1, tyOf, Fr.pur, ofP, m1W, int?, slW, slD, isiW, isTy, kindOk, isD, isW, inStr, nod_ones, T_beq, nod_strs, dep_strs] at h4 h5
      by_cases hc : c ∈ LT
      · simp [noneW, allD, eqAll, nodAll, depAll, varW, idxW, seqW, FM.atI, cmpW, cmpP, vw, cmpD, eqOk, nod, dep, eqD, truW, truD, b1W, binW, binD, asgT, lenW, srcW, rcv1, tyOf, Fr.pur, ofP, m1W, int?, slW, slD, isiW, isTy, kindOk, isD, isW, inStr, nod_ones, T_beq, nod_strs, dep_strs, hc, augW, hSZ, still, show s.2.length + 1 ≤ 16777216 by omega]
        refine ⟨l, (s.1, s.2 ++ [c]), _, rfl, rfl, rfl, ?_, ?_⟩
        · simp [noneW, allD, eqAll, nodAll, depAll, varW, idxW, seqW, FM.atI, cmpW, cmpP, vw, cmpD, eqOk, nod, dep, eqD, truW, truD, b1W, binW, binD, asgT, lenW, srcW, rcv1, tyOf, Fr.pur, ofP, m1W, int?, slW, slD, isiW, isTy, kindOk, isD, isW, inStr, nod_ones, T_beq, nod_strs, dep_strs]
          omega
        · rw [← h5, rstep, if_pos hc]
      · by_cases hr : s.2 = []
        · simp [noneW, allD, eqAll, nodAll, depAll, varW, idxW, seqW, FM.atI, cmpW, cmpP, vw, cmpD, eqOk, nod, dep, eqD, truW, truD, b1W, binW, binD, asgT, lenW, srcW, rcv1, tyOf, Fr.pur, ofP, m1W, int?, slW, slD, isiW, isTy, kindOk, isD, isW, inStr, nod_ones, T_beq, nod_strs, dep_strs, hc, hr, hSZ, still]
          refine ⟨l, (s.1, []), _, rfl, rfl, rfl, ?_, ?_⟩
          · simp [noneW, allD, eqAll, nodAll, depAll, varW, idxW, seqW, FM.atI, cmpW, cmpP, vw, cmpD, eqOk, nod, dep, eqD, truW, truD, b1W, binW, binD, asgT, lenW, srcW, rcv1, tyOf, Fr.pur, ofP, m1W, int?, slW, slD, isiW, isTy, kindOk, isD, isW, inStr, nod_ones, T_beq, nod_strs, dep_strs]
            omega
          · rw [← h5, rstep, if_neg hc, if_pos hr]
        · have : 0 < s.2.length := List.length_pos_iff.mpr hr
          simp [noneW, allD, eqAll, nodAll, depAll, varW, idxW, seqW, FM.atI, cmpW, cmpP, vw, cmpD, eqOk, nod, dep, eqD, truW, truD, b1W, binW, binD, asgT, lenW, srcW, rcv1, tyOf, Fr.pur, ofP, m1W, int?, slW, slD, isiW, isTy, kindOk, isD, isW, inStr, nod_ones, T_beq, nod_strs, dep_strs, hc, hr, hSZ, still, show s.1.length < 16777216 by omega]
          refine ⟨l, (s.1 ++ [s.2], []), _, rfl, rfl, by simp [noneW, allD, eqAll, nodAll, depAll, varW, idxW, seqW, FM.atI, cmpW, cmpP, vw, cmpD, eqOk, nod, dep, eqD, truW, truD, b1W, binW, binD, asgT, lenW, srcW, rcv1, tyOf, Fr.pur, ofP, m1W, int?, slW, slD, isiW, isTy, kindOk, isD, isW, inStr, nod_ones, T_beq, nod_strs, dep_strs], ?_, ?_⟩
          · simp [noneW, allD, eqAll, nodAll, depAll, varW, idxW, seqW, FM.atI, cmpW, cmpP, vw, cmpD, eqOk, nod, dep, eqD, truW, truD, b1W, binW, binD, asgT, lenW, srcW, rcv1, tyOf, Fr.pur, ofP, m1W, int?, slW, slD, isiW, isTy, kindOk, isD, isW, inStr, nod_ones, T_beq, nod_strs, dep_strs]
            omega
          · rw [← h5, rstep, if_neg hc, if_neg hr]
  · rintro ρ st' ⟨l, s, v, h1, rfl, rfl, h4, h5⟩
    simp [noneW, allD, eqAll, nodAll, depAll, varW, idxW, seqW, FM.atI, cmpW, cmpP, vw, cmpD, eqOk, nod, dep, eqD, truW, truD, b1W, binW, binD, asgT, lenW, srcW, rcv1, tyOf, Fr.pur, ofP, m1W, int?, slW, slD, isiW, isTy, kindOk, isD, isW, inStr, nod_ones, T_beq, nod_strs, dep_strs] at h1
    subst h1
    simp [noneW, allD, eqAll, nodAll, depAll, varW, idxW, seqW, FM.atI, cmpW, cmpP, vw, cmpD, eqOk, nod, dep, eqD, truW, truD, b1W, binW, binD, asgT, lenW, srcW, rcv1, tyOf, Fr.pur, ofP, m1W, int?, slW, slD, isiW, isTy, kindOk, isD, isW, inStr, nod_ones, T_beq, nod_strs, dep_strs] at h5
    subst h5
    simp [noneW, allD, eqAll, nodAll, depAll, varW, idxW, seqW, FM.atI, cmpW, cmpP, vw, cmpD, eqOk, nod, dep, eqD, truW, truD, b1W, binW, binD, asgT, lenW, srcW, rcv1, tyOf, Fr.pur, ofP, m1W, int?, slW, slD, isiW, isTy, kindOk, isD, isW, inStr, nod_ones, T_beq, nod_strs, dep_strs, frzW, rowsP, scan]
  · intro _ _ h
    exact h.elim
theorem rows_eq {t : List Nat} {st : Sto} {j : Nat} (h : asc t) (hl : t.length ≤ 1000) : callD EP R0 (j + 1) "rows_of" [.d (dStr t), .d (dStr LT)] st = .ok (.d (.list ((rowsP t).map dStr))) st := by
  obtain ⟨w, st', h1, rfl, rfl⟩ := okR_ex (rows_ok (st := st) (j := j) h hl)
  exact h1
end HT
end

section
set_option Elab.async false
set_option linter.all false
set_option maxRecDepth 100000
set_option autoImplicit false
set_option maxHeartbeats 4000000
namespace HT
open PySem FM
def pr (c : Nat) : Bool := decide (32 ≤ c ∧ c ≤ 126)
def wrtP (t : List Nat) : Bool := decide (1 ≤ t.length ∧ t.length ≤ 40) && (t.all pr && decide (rowsP t ≠ []))
theorem chain_pr {c : Nat} {st : Sto} {Φ : FM.Call} {ρ : FM.Env} (hv : varW ρ 1 = some (.d (dStr [c]))) : evE EP R0 Φ (.chain .le .le (.str [32]) (.var 1) (.str [126])) ρ st = .ok (.d (.bool (pr c))) st := by
  have h1 : ltL [c] [32] = decide (c < 32) := by
    by_cases h : c = 32
    · subst h; rfl
    · simp [noneW, allD, eqAll, nodAll, depAll, varW, idxW, seqW, FM.atI, cmpW, cmpP, vw, cmpD, eqOk, nod, dep, eqD, truW, truD, b1W, binW, binD, asgT, lenW, srcW, rcv1, tyOf, Fr.pur, ofP, m1W, int?, slW, slD, isiW, isTy, kindOk, isD, isW, inStr, nod_ones, T_beq, nod_strs, dep_strs, ltL, h]
  have h2 : ltL [126] [c] = decide (126 < c) := by
    by_cases h : 126 = c
    · subst h; rfl
    · simp [noneW, allD, eqAll, nodAll, depAll, varW, idxW, seqW, FM.atI, cmpW, cmpP, vw, cmpD, eqOk, nod, dep, eqD, truW, truD, b1W, binW, binD, asgT, lenW, srcW, rcv1, tyOf, Fr.pur, ofP, m1W, int?, slW, slD, isiW, isTy, kindOk, isD, isW, inStr, nod_ones, T_beq, nod_strs, dep_strs, ltL, h]
  simp only [evE, hv, Res.of_some, Res.bind_ok]
  simp [noneW, allD, eqAll, nodAll, depAll, varW, idxW, seqW, FM.atI, cmpW, cmpP, vw, cmpD, eqOk, nod, dep, eqD, truW, truD, b1W, binW, binD, asgT, lenW, srcW, rcv1, tyOf, Fr.pur, ofP, m1W, int?, slW, slD, isiW, isTy, kindOk, isD, isW, inStr, nod_ones, T_beq, nod_strs, dep_strs, cmpOk, alk, ordOk, isNo, ltD, h1, h2]
  by_cases h3 : c < 32
  · have : pr c = false := by simp [noneW, allD, eqAll, nodAll, depAll, varW, idxW, seqW, FM.atI, cmpW, cmpP, vw, cmpD, eqOk, nod, dep, eqD, truW, truD, b1W, binW, binD, asgT, lenW, srcW, rcv1, tyOf, Fr.pur, ofP, m1W, int?, slW, slD, isiW, isTy, kindOk, isD, isW, inStr, nod_ones, T_beq, nod_strs, dep_strs, pr]; omega
    simp [noneW, allD, eqAll, nodAll, depAll, varW, idxW, seqW, FM.atI, cmpW, cmpP, vw, cmpD, eqOk, nod, dep, eqD, truW, truD, b1W, binW, binD, asgT, lenW, srcW, rcv1, tyOf, Fr.pur, ofP, m1W, int?, slW, slD, isiW, isTy, kindOk, isD, isW, inStr, nod_ones, T_beq, nod_strs, dep_strs, h3, this]
    omega
  · have h4 : 32 ≤ c := by omega
    simp [noneW, allD, eqAll, nodAll, depAll, varW, idxW, seqW, FM.atI, cmpW, cmpP, vw, cmpD, eqOk, nod, dep, eqD, truW, truD, b1W, binW, binD, asgT, lenW, srcW, rcv1, tyOf, Fr.pur, ofP, m1W, int?, slW, slD, isiW, isTy, kindOk, isD, isW, inStr, nod_ones, T_beq, nod_strs, dep_strs, h3, pr, h4]
    by_cases h5 : 126 < c
    · simp [noneW, allD, eqAll, nodAll, depAll, varW, idxW, seqW, FM.atI, cmpW, cmpP, vw, cmpD, eqOk, nod, dep, eqD, truW, truD, b1W, binW, binD, asgT, lenW, srcW, rcv1, tyOf, Fr.pur, ofP, m1W, int?, slW, slD, isiW, isTy, kindOk, isD, isW, inStr, nod_ones, T_beq, nod_strs, dep_strs, h5]
    · simp [noneW, allD, eqAll, nodAll, depAll, varW, idxW, seqW, FM.atI, cmpW, cmpP, vw, cmpD, eqOk, nod, dep, eqD, truW, truD, b1W, binW, binD, asgT, lenW, srcW, rcv1, tyOf, Fr.pur, ofP, m1W, int?, slW, slD, isiW, isTy, kindOk, isD, isW, inStr, nod_ones, T_beq, nod_strs, dep_strs, h5]
      omega
theorem isw_ok {t : List Nat} {st : Sto} {j : Nat} (h : asc t) (hl : t.length ≤ 1000) : callD EP R0 (j + 2) "is_written" [.d (dStr t)] st = .ok (.d (.bool (wrtP t))) st := by
  have hSZ : SZ = 16777216 := rfl
  rw [callD_fn (fn := fis_written) rfl _ _ rfl]
  simp only [fis_written, bis_written, entry, evSs, evS]
  by_cases h1 : 1 ≤ t.length ∧ t.length ≤ 40
  · have hr : wrtP t = (t.all pr && decide (rowsP t ≠ [])) := by simp only [wrtP, h1, and_self, decide_true, Bool.true_and]
    rw [hr]
    have key : evE EP R0 (callD EP R0 (j + 1)) (.b1 .all (.pur (.lc [1] (.v 1) (.e (.var 0)) (.no) (.chain .le .le (.str [32]) (.var 1) (.str [126]))))) (List.map some [W.d (dStr t)] ++ List.replicate (2 - 1) none) st = .ok (.d (.bool (t.all pr))) st := by
      rw [evE, evE, evF, evI, evE]
      simp [noneW, allD, eqAll, nodAll, depAll, varW, idxW, seqW, FM.atI, cmpW, cmpP, vw, cmpD, eqOk, nod, dep, eqD, truW, truD, b1W, binW, binD, asgT, lenW, srcW, rcv1, tyOf, Fr.pur, ofP, m1W, int?, slW, slD, isiW, isTy, kindOk, isD, isW, inStr, nod_ones, T_beq, nod_strs, dep_strs, hSZ, show t.length ≤ 16777216 by omega, show ¬ 16777216 < t.length by omega]
      rw [lc_chars (fun c => true) (fun c => .d (.bool (pr c)))]
      · rw [flt_true]
        simp [noneW, allD, eqAll, nodAll, depAll, varW, idxW, seqW, FM.atI, cmpW, cmpP, vw, cmpD, eqOk, nod, dep, eqD, truW, truD, b1W, binW, binD, asgT, lenW, srcW, rcv1, tyOf, Fr.pur, ofP, m1W, int?, slW, slD, isiW, isTy, kindOk, isD, isW, inStr, nod_ones, T_beq, nod_strs, dep_strs]
      · intro u hu
        rw [evCs]
        simp only [Res.bind_ok, if_true]
        rw [chain_pr (c := u) (by simp [noneW, allD, eqAll, nodAll, depAll, varW, idxW, seqW, FM.atI, cmpW, cmpP, vw, cmpD, eqOk, nod, dep, eqD, truW, truD, b1W, binW, binD, asgT, lenW, srcW, rcv1, tyOf, Fr.pur, ofP, m1W, int?, slW, slD, isiW, isTy, kindOk, isD, isW, inStr, nod_ones, T_beq, nod_strs, dep_strs, wip])]
        rfl
    have hC : evC EP R0 (callD EP R0 (j + 1)) (.or (.not (.e (.isi (.var 0) [.str]))) (.not (.e (.chain .le .le (.int 1) (.b1 .len (.var 0)) (.glob "MOST_SIGNS"))))) (List.map some [W.d (dStr t)] ++ List.replicate (2 - 1) none) st = .ok false st := by
      simp [noneW, allD, eqAll, nodAll, depAll, varW, idxW, seqW, FM.atI, cmpW, cmpP, vw, cmpD, eqOk, nod, dep, eqD, truW, truD, b1W, binW, binD, asgT, lenW, srcW, rcv1, tyOf, Fr.pur, ofP, m1W, int?, slW, slD, isiW, isTy, kindOk, isD, isW, inStr, nod_ones, T_beq, nod_strs, dep_strs, evC, evE, gM, hSZ, cmpOk, alk, ordOk, isNo, ltD, show t.length ≤ 16777216 by omega, show (1 : Int) ≤ t.length by omega, show ¬ (40 : Int) < t.length by omega]
    rw [hC]
    simp only [Res.out_ok, Bool.false_eq_true, if_false, Out.next_nx]
    rw [evE, key]
    cases hp : t.all pr
    · simp [noneW, allD, eqAll, nodAll, depAll, varW, idxW, seqW, FM.atI, cmpW, cmpP, vw, cmpD, eqOk, nod, dep, eqD, truW, truD, b1W, binW, binD, asgT, lenW, srcW, rcv1, tyOf, Fr.pur, ofP, m1W, int?, slW, slD, isiW, isTy, kindOk, isD, isW, inStr, nod_ones, T_beq, nod_strs, dep_strs, evE, gM, hSZ, cmpOk, alk, ordOk, isNo, ltD, show t.length ≤ 16777216 by omega, show (1 : Int) ≤ t.length by omega, show ¬ (40 : Int) < t.length by omega]
    · simp [noneW, allD, eqAll, nodAll, depAll, varW, idxW, seqW, FM.atI, cmpW, cmpP, vw, cmpD, eqOk, nod, dep, eqD, truW, truD, b1W, binW, binD, asgT, lenW, srcW, rcv1, tyOf, Fr.pur, ofP, m1W, int?, slW, slD, isiW, isTy, kindOk, isD, isW, inStr, nod_ones, T_beq, nod_strs, dep_strs, evE, evF, evEs, gM, gL, hSZ, cmpOk, alk, ordOk, isNo, ltD, show t.length ≤ 16777216 by omega, show (1 : Int) ≤ t.length by omega, show ¬ (40 : Int) < t.length by omega, rows_eq h hl, eq_nil]
  · have hr : wrtP t = false := by simp only [wrtP, h1, decide_false, Bool.false_and]
    rw [hr]
    by_cases h2 : 1 ≤ t.length
    · have h3 : 40 < t.length := by omega
      simp [noneW, allD, eqAll, nodAll, depAll, varW, idxW, seqW, FM.atI, cmpW, cmpP, vw, cmpD, eqOk, nod, dep, eqD, truW, truD, b1W, binW, binD, asgT, lenW, srcW, rcv1, tyOf, Fr.pur, ofP, m1W, int?, slW, slD, isiW, isTy, kindOk, isD, isW, inStr, nod_ones, T_beq, nod_strs, dep_strs, evC, evE, gM, hSZ, cmpOk, alk, ordOk, isNo, ltD, show t.length ≤ 16777216 by omega, show (1 : Int) ≤ t.length by omega, show (40 : Int) < t.length by omega]
    · have h3 : t = [] := by cases t <;> simp [noneW, allD, eqAll, nodAll, depAll, varW, idxW, seqW, FM.atI, cmpW, cmpP, vw, cmpD, eqOk, nod, dep, eqD, truW, truD, b1W, binW, binD, asgT, lenW, srcW, rcv1, tyOf, Fr.pur, ofP, m1W, int?, slW, slD, isiW, isTy, kindOk, isD, isW, inStr, nod_ones, T_beq, nod_strs, dep_strs] at h2 ⊢
      subst h3
      simp [noneW, allD, eqAll, nodAll, depAll, varW, idxW, seqW, FM.atI, cmpW, cmpP, vw, cmpD, eqOk, nod, dep, eqD, truW, truD, b1W, binW, binD, asgT, lenW, srcW, rcv1, tyOf, Fr.pur, ofP, m1W, int?, slW, slD, isiW, isTy, kindOk, isD, isW, inStr, nod_ones, T_beq, nod_strs, dep_strs, evC, evE, gM, hSZ, cmpOk, alk, ordOk, isNo, ltD]
theorem isw_other {x : D} {st : Sto} {j : Nat} (hx : x = .none ∨ x = .int 5) : callD EP R0 (j + 1) "is_written" [.d x] st = .ok (.d (.bool false)) st := by
  rw [callD_fn (fn := fis_written) rfl _ _ rfl]
  simp only [fis_written, bis_written, entry, evSs, evS, evC, evE]
  rcases hx with h | h <;> subst h <;> simp [noneW, allD, eqAll, nodAll, depAll, varW, idxW, seqW, FM.atI, cmpW, cmpP, vw, cmpD, eqOk, nod, dep, eqD, truW, truD, b1W, binW, binD, asgT, lenW, srcW, rcv1, tyOf, Fr.pur, ofP, m1W, int?, slW, slD, isiW, isTy, kindOk, isD, isW, inStr, nod_ones, T_beq, nod_strs, dep_strs]
/-! ### the words -/
theorem scan_app (l m : List Nat) (hm : ∀ s : List (List Nat) × List Nat, (m.foldl rstep (s.1, [])).1 = s.1 ++ (m.foldl rstep ([], [])).1) (hl : (l.foldl rstep ([], [])).2 = []) : scan (l ++ m) = scan l ++ scan m := by
  unfold scan
  rw [List.foldl_append]
  have := hm (l.foldl rstep ([], []))
  rw [← this]
  have e : l.foldl rstep ([], []) = ((l.foldl rstep ([], [])).1, []) := Prod.ext rfl hl
  rw [← e]
theorem fold_pre : ∀ (m : List Nat) (a : List (List Nat)) (r : List Nat), m.foldl rstep (a, r) = (a ++ (m.foldl rstep ([], r)).1, (m.foldl rstep ([], r)).2)
  | [], a, r => by simp [noneW, allD, eqAll, nodAll, depAll, varW, idxW, seqW, FM.atI, cmpW, cmpP, vw, cmpD, eqOk, nod, dep, eqD, truW, truD, b1W, binW, binD, asgT, lenW, srcW, rcv1, tyOf, Fr.pur, ofP, m1W, int?, slW, slD, isiW, isTy, kindOk, isD, isW, inStr, nod_ones, T_beq, nod_strs, dep_strs]
  | c :: m, a, r => by
    simp only [List.foldl_cons]
    by_cases hc : c ∈ LT
    · simp only [rstep, hc, if_true]
      exact fold_pre m a (r ++ [c])
    · by_cases hr : r = []
      · simp only [rstep, hc, hr, if_true, if_false]
        exact fold_pre m a []
      · simp only [rstep, hc, hr, if_false, List.nil_append]
        rw [fold_pre m (a ++ [r]) [], fold_pre m [r] []]
        simp [noneW, allD, eqAll, nodAll, depAll, varW, idxW, seqW, FM.atI, cmpW, cmpP, vw, cmpD, eqOk, nod, dep, eqD, truW, truD, b1W, binW, binD, asgT, lenW, srcW, rcv1, tyOf, Fr.pur, ofP, m1W, int?, slW, slD, isiW, isTy, kindOk, isD, isW, inStr, nod_ones, T_beq, nod_strs, dep_strs]
theorem scan_cat (l m : List Nat) : scan (l ++ [32] ++ m) = scan (l ++ [32]) ++ scan m := by
  refine scan_app _ _ (fun s => ?_) ?_
  · rw [fold_pre m s.1 []]
  · rw [List.foldl_append]
    simp [noneW, allD, eqAll, nodAll, depAll, varW, idxW, seqW, FM.atI, cmpW, cmpP, vw, cmpD, eqOk, nod, dep, eqD, truW, truD, b1W, binW, binD, asgT, lenW, srcW, rcv1, tyOf, Fr.pur, ofP, m1W, int?, slW, slD, isiW, isTy, kindOk, isD, isW, inStr, nod_ones, T_beq, nod_strs, dep_strs, rstep, LT]
/-- commas and blanks part alike -/
theorem scan_sub (l : List Nat) : scan (l.map fun c => if c = 44 then 32 else c) = scan l := by
  unfold scan
  have : ∀ (l : List Nat) (s : List (List Nat) × List Nat), (l.map fun c => if c = 44 then 32 else c).foldl rstep s = l.foldl rstep s := by
    intro l
    induction l with
    | nil => intro s; rfl
    | cons c l ih =>
      intro s
      simp only [List.map_cons, List.foldl_cons]
      by_cases h : c = 44
      · subst h
        have e : rstep s 32 = rstep s 44 := by simp [noneW, allD, eqAll, nodAll, depAll, varW, idxW, seqW, FM.atI, cmpW, cmpP, vw, cmpD, eqOk, nod, dep, eqD, truW, truD, b1W, binW, binD, asgT, lenW, srcW, rcv1, tyOf, Fr.pur, ofP, m1W, int?, slW, slD, isiW, isTy, kindOk, isD, isW, inStr, nod_ones, T_beq, nod_strs, dep_strs, rstep, LT]
        simp only [if_true]
        rw [e]
        exact ih _
      · rw [if_neg h]
        exact ih _
  rw [this]
theorem join_split (l : List Nat) : joinT [32] (splitC 44 l) = l.map fun c => if c = 44 then 32 else c := by
  induction l with
  | nil => rfl
  | cons c l ih =>
    have hne := split_ne 44 l
    simp only [splitC]
    by_cases h : c = 44
    · rw [if_pos h]
      cases hs : splitC 44 l with
      | nil => exact absurd hs hne
      | cons y r =>
        rw [hs] at ih
        simp only [joinT, List.nil_append, ih, List.map_cons, h, if_true]
        rfl
    · rw [if_neg h]
      cases hs : splitC 44 l with
      | nil => exact absurd hs hne
      | cons y r =>
        rw [hs] at ih
        cases r with
        | nil =>
          simp only [joinT] at ih ⊢
          simp [noneW, allD, eqAll, nodAll, depAll, varW, idxW, seqW, FM.atI, cmpW, cmpP, vw, cmpD, eqOk, nod, dep, eqD, truW, truD, b1W, binW, binD, asgT, lenW, srcW, rcv1, tyOf, Fr.pur, ofP, m1W, int?, slW, slD, isiW, isTy, kindOk, isD, isW, inStr, nod_ones, T_beq, nod_strs, dep_strs, h, ih]
        | cons z r =>
          simp only [joinT] at ih ⊢
          rw [List.map_cons, if_neg h, ← ih]
          rfl
theorem low44 (c : Nat) : lower1 c = 44 ↔ c = 44 := by
  unfold lower1
  split <;> omega
theorem split_low (l : List Nat) : splitC 44 (l.map lower1) = (splitC 44 l).map (·.map lower1) := by
  induction l with
  | nil => rfl
  | cons c l ih =>
    simp only [List.map_cons, splitC, low44]
    split
    · rw [ih]; rfl
    · rw [ih]
      cases hs : splitC 44 l with
      | nil => exact absurd hs (split_ne 44 l)
      | cons y r => rfl
/-- the words of a name -/
def wordsP (t : List Nat) : List (List Nat) := match splitC 44 t with
  | [a, b] => rowsP b ++ rowsP a
  | _ => rowsP t
end HT
end

section
set_option Elab.async false
set_option linter.all false
set_option maxRecDepth 100000
set_option autoImplicit false
set_option maxHeartbeats 4000000
namespace HT
open PySem FM
theorem split_mem {c : Nat} : ∀ {l w : List Nat}, w ∈ splitC c l → ∀ x ∈ w, x ∈ l := by
  intro l
  induction l with
  | nil => intro w h x hx; simp [noneW, allD, eqAll, nodAll, depAll, varW, idxW, seqW, FM.atI, cmpW, cmpP, vw, cmpD, eqOk, nod, dep, eqD, truW, truD, b1W, binW, binD, asgT, lenW, srcW, rcv1, tyOf, Fr.pur, ofP, m1W, int?, slW, slD, isiW, isTy, kindOk, isD, isW, inStr, nod_ones, T_beq, nod_strs, dep_strs, splitC] at h; subst h; exact hx
  | cons a l ih =>
    intro w h x hx
    simp only [splitC] at h
    split at h
    · rcases List.mem_cons.mp h with h | h
      · subst h; cases hx
      · exact List.mem_cons_of_mem _ (ih h x hx)
    · cases hs : splitC c l with
      | nil => exact absurd hs (split_ne c l)
      | cons y r =>
        rw [hs] at h
        rcases List.mem_cons.mp h with h | h
        · subst h
          rcases List.mem_cons.mp hx with h | h
          · rw [h]; exact List.mem_cons_self
          · exact List.mem_cons_of_mem _ (ih (by rw [hs]; exact List.mem_cons_self) x h)
        · exact List.mem_cons_of_mem _ (ih (by rw [hs]; exact List.mem_cons_of_mem _ h) x hx)
theorem split_le {c : Nat} {l w : List Nat} (h : w ∈ splitC c l) : w.length ≤ l.length := by
  have h1 := mem_sum h
  have h2 := split_len c l
  have h3 : 0 < (splitC c l).length := List.length_pos_iff.mpr (split_ne c l)
  omega
theorem fold_len : ∀ (l : List Nat) (s : List (List Nat) × List Nat), (l.foldl rstep s).1.length ≤ s.1.length + l.length
  | [], s => by simp [noneW, allD, eqAll, nodAll, depAll, varW, idxW, seqW, FM.atI, cmpW, cmpP, vw, cmpD, eqOk, nod, dep, eqD, truW, truD, b1W, binW, binD, asgT, lenW, srcW, rcv1, tyOf, Fr.pur, ofP, m1W, int?, slW, slD, isiW, isTy, kindOk, isD, isW, inStr, nod_ones, T_beq, nod_strs, dep_strs]
  | c :: l, s => by
    simp only [List.foldl_cons, List.length_cons]
    have h1 := fold_len l (rstep s c)
    have h2 : (rstep s c).1.length ≤ s.1.length + 1 := by
      unfold rstep
      split
      · simp [noneW, allD, eqAll, nodAll, depAll, varW, idxW, seqW, FM.atI, cmpW, cmpP, vw, cmpD, eqOk, nod, dep, eqD, truW, truD, b1W, binW, binD, asgT, lenW, srcW, rcv1, tyOf, Fr.pur, ofP, m1W, int?, slW, slD, isiW, isTy, kindOk, isD, isW, inStr, nod_ones, T_beq, nod_strs, dep_strs]
      · split <;> simp [noneW, allD, eqAll, nodAll, depAll, varW, idxW, seqW, FM.atI, cmpW, cmpP, vw, cmpD, eqOk, nod, dep, eqD, truW, truD, b1W, binW, binD, asgT, lenW, srcW, rcv1, tyOf, Fr.pur, ofP, m1W, int?, slW, slD, isiW, isTy, kindOk, isD, isW, inStr, nod_ones, T_beq, nod_strs, dep_strs]
    omega
theorem rows_len (t : List Nat) : (rowsP t).length ≤ t.length + 1 := by
  have := fold_len (t.map lower1 ++ [32]) ([], [])
  simpa [noneW, allD, eqAll, nodAll, depAll, varW, idxW, seqW, FM.atI, cmpW, cmpP, vw, cmpD, eqOk, nod, dep, eqD, truW, truD, b1W, binW, binD, asgT, lenW, srcW, rcv1, tyOf, Fr.pur, ofP, m1W, int?, slW, slD, isiW, isTy, kindOk, isD, isW, inStr, nod_ones, T_beq, nod_strs, dep_strs, rowsP, scan] using this
theorem told_words_ok {t : List Nat} {st : Sto} {j : Nat} (h : asc t) (hl : t.length ≤ 1000) : callD EP R0 (j + 2) "told_words" [.d (dStr t)] st = .ok (.d (.tuple ((wordsP t).map dStr))) st := by
  have hSZ : SZ = 16777216 := rfl
  rw [callD_fn (fn := ftold_words) rfl _ _ rfl]
  simp only [ftold_words, btold_words, entry, evSs, evS, evC, evE, evEs]
  have hm : ∀ w ∈ splitC 44 t, asc w ∧ w.length ≤ 1000 := fun w hw => ⟨fun x hx => h x (split_mem hw x hx), by have := split_le hw; omega⟩
  have h0 := rows_eq (st := st) (j := j) h hl
  have l0 := rows_len t
  unfold wordsP
  simp [noneW, allD, eqAll, nodAll, depAll, varW, idxW, seqW, FM.atI, cmpW, cmpP, vw, cmpD, eqOk, nod, dep, eqD, truW, truD, b1W, binW, binD, asgT, lenW, srcW, rcv1, tyOf, Fr.pur, ofP, m1W, int?, slW, slD, isiW, isTy, kindOk, isD, isW, inStr, nod_ones, T_beq, nod_strs, dep_strs, hSZ, show t.length ≤ 16777214 by omega]
  generalize splitC 44 t = ps at *
  match ps, hm with
  | [], _ => simp [noneW, allD, eqAll, nodAll, depAll, varW, idxW, seqW, FM.atI, cmpW, cmpP, vw, cmpD, eqOk, nod, dep, eqD, truW, truD, b1W, binW, binD, asgT, lenW, srcW, rcv1, tyOf, Fr.pur, ofP, m1W, int?, slW, slD, isiW, isTy, kindOk, isD, isW, inStr, nod_ones, T_beq, nod_strs, dep_strs, gL, h0]
  | [a], _ => simp [noneW, allD, eqAll, nodAll, depAll, varW, idxW, seqW, FM.atI, cmpW, cmpP, vw, cmpD, eqOk, nod, dep, eqD, truW, truD, b1W, binW, binD, asgT, lenW, srcW, rcv1, tyOf, Fr.pur, ofP, m1W, int?, slW, slD, isiW, isTy, kindOk, isD, isW, inStr, nod_ones, T_beq, nod_strs, dep_strs, gL, h0]
  | [a, b], hm =>
    obtain ⟨a1, a2⟩ := hm a (by simp [noneW, allD, eqAll, nodAll, depAll, varW, idxW, seqW, FM.atI, cmpW, cmpP, vw, cmpD, eqOk, nod, dep, eqD, truW, truD, b1W, binW, binD, asgT, lenW, srcW, rcv1, tyOf, Fr.pur, ofP, m1W, int?, slW, slD, isiW, isTy, kindOk, isD, isW, inStr, nod_ones, T_beq, nod_strs, dep_strs])
    obtain ⟨b1, b2⟩ := hm b (by simp [noneW, allD, eqAll, nodAll, depAll, varW, idxW, seqW, FM.atI, cmpW, cmpP, vw, cmpD, eqOk, nod, dep, eqD, truW, truD, b1W, binW, binD, asgT, lenW, srcW, rcv1, tyOf, Fr.pur, ofP, m1W, int?, slW, slD, isiW, isTy, kindOk, isD, isW, inStr, nod_ones, T_beq, nod_strs, dep_strs])
    have la := rows_len a
    have lb := rows_len b
    have e : allD (List.map (W.d ∘ dStr) (rowsP b) ++ List.map (W.d ∘ dStr) (rowsP a)) = some ((rowsP b ++ rowsP a).map dStr) := by
      rw [← List.map_append]
      exact allD_mapd dStr _
    simp [noneW, allD, eqAll, nodAll, depAll, varW, idxW, seqW, FM.atI, cmpW, cmpP, vw, cmpD, eqOk, nod, dep, eqD, truW, truD, b1W, binW, binD, asgT, lenW, srcW, rcv1, tyOf, Fr.pur, ofP, m1W, int?, slW, slD, isiW, isTy, kindOk, isD, isW, inStr, nod_ones, T_beq, nod_strs, dep_strs, gL, rows_eq a1 a2, rows_eq b1 b2, e, hSZ]
    have : (rowsP b).length + (rowsP a).length ≤ 16777216 := by omega
    intro h
    omega
  | a :: b :: c :: r, _ =>
    have : ¬ ((r.length : Int) + 1 + 1 + 1 = 2) := by omega
    simp [noneW, allD, eqAll, nodAll, depAll, varW, idxW, seqW, FM.atI, cmpW, cmpP, vw, cmpD, eqOk, nod, dep, eqD, truW, truD, b1W, binW, binD, asgT, lenW, srcW, rcv1, tyOf, Fr.pur, ofP, m1W, int?, slW, slD, isiW, isTy, kindOk, isD, isW, inStr, nod_ones, T_beq, nod_strs, dep_strs, gL, h0, this]
/-! ### the law's words -/
def partsJ : List (List Nat) → List Nat
  | [a, b] => b ++ [32] ++ a
  | ps => joinT [32] ps
theorem partsJ_no {qs : List (List Nat)} (h2 : ¬ ∃ a b, qs = [a, b]) : partsJ qs = joinT [32] qs := by
  match qs, h2 with
  | [], _ => rfl
  | [a], _ => rfl
  | [a, b], h2 => exact absurd ⟨a, b, rfl⟩ h2
  | a :: b :: c :: r, _ => rfl
theorem sc_words (t : List Nat) : scan (partsJ ((splitC 44 t).map (·.map lower1)) ++ [32]) = wordsP t := by
  have key : scan (joinT [32] ((splitC 44 t).map (·.map lower1)) ++ [32]) = rowsP t := by
    rw [← split_low, join_split, rowsP, ← scan_sub (t.map lower1 ++ [32]), List.map_append]
    rfl
  unfold wordsP
  generalize splitC 44 t = ps at *
  match ps, key with
  | [], key => exact key
  | [a], key => exact key
  | [a, b], _ =>
    show scan (b.map lower1 ++ [32] ++ a.map lower1 ++ [32]) = _
    rw [List.append_assoc, scan_cat]
    rfl
  | a :: b :: c :: r, key => exact key
def LI (tot : List (List Nat) × List Nat) (v0 v1 v2 : Option W) (st : Sto) (ws : List W) (ρ : FM.Env) (st' : Sto) : Prop := ∃ (l : List Nat) (s : List (List Nat) × List Nat) (v : Option W), ws = l.map (fun c => .d (dStr [c])) ∧ ρ = [v0, v1, v2, v, some (.d (.list (s.1.map dStr))), some (.d (dStr s.2))] ∧ st' = st ∧ l.length + s.1.length + s.2.length ≤ 3000 ∧ l.foldl rstep s = tot
theorem law_words_ok {t : List Nat} {st : Sto} {j : Nat} (h : asc t) (hl : t.length ≤ 1000) : callD EP R0 (j + 1) "_law_words" [.d (dStr t)] st = .ok (.d (.tuple ((wordsP t).map dStr))) st := by
  have hSZ : SZ = 16777216 := rfl
  suffices hq : okR (callD EP R0 (j + 1) "_law_words" [.d (dStr t)] st) fun w st' => st' = st ∧ w = .d (.tuple ((wordsP t).map dStr)) by
    obtain ⟨w, st', h1, rfl, rfl⟩ := okR_ex hq
    exact h1
  rw [callD_fn (fn := f_law_words) rfl _ _ rfl]
  apply exit_pure
  have e1 : m1W st .split (.d (dStr (t.map lower1))) (.d (dStr [44])) = some (.d (.list (((splitC 44 t).map (·.map lower1)).map dStr)), st) := by
    rw [← split_low]
    simp [noneW, allD, eqAll, nodAll, depAll, varW, idxW, seqW, FM.atI, cmpW, cmpP, vw, cmpD, eqOk, nod, dep, eqD, truW, truD, b1W, binW, binD, asgT, lenW, srcW, rcv1, tyOf, Fr.pur, ofP, m1W, int?, slW, slD, isiW, isTy, kindOk, isD, isW, inStr, nod_ones, T_beq, nod_strs, dep_strs, hSZ, show t.length ≤ 16777214 by omega]
  rw [← sc_words]
  have hT : ∃ u : List Nat, u = partsJ ((splitC 44 t).map (·.map lower1)) ∧ u.length ≤ 2001 ∧ evS EP R0 (callD EP R0 j) (.set (.v 2) (.ife (.e (.cmp .eq (.b1 .len (.var 1)) (.int 2))) (.bin .add (.bin .add (.idx (.var 1) (.int 1)) (.str [32])) (.idx (.var 1) (.int 0))) (.m1 .join (.str [32]) (.var 1)))) [some (.d (dStr t)), some (.d (.list (((splitC 44 t).map (·.map lower1)).map dStr))), none, none, none, none] st = .nx [some (.d (dStr t)), some (.d (.list (((splitC 44 t).map (·.map lower1)).map dStr))), some (.d (dStr u)), none, none, none] st := by
    have hj : (joinT [32] ((splitC 44 t).map (·.map lower1))).length = t.length := by
      rw [← split_low, join_split]
      simp [noneW, allD, eqAll, nodAll, depAll, varW, idxW, seqW, FM.atI, cmpW, cmpP, vw, cmpD, eqOk, nod, dep, eqD, truW, truD, b1W, binW, binD, asgT, lenW, srcW, rcv1, tyOf, Fr.pur, ofP, m1W, int?, slW, slD, isiW, isTy, kindOk, isD, isW, inStr, nod_ones, T_beq, nod_strs, dep_strs]
    have hs : (((splitC 44 t).map (·.map lower1)).map List.length).sum + ((splitC 44 t).map (·.map lower1)).length = t.length + 1 := by
      have := split_len 44 t
      simpa [noneW, allD, eqAll, nodAll, depAll, varW, idxW, seqW, FM.atI, cmpW, cmpP, vw, cmpD, eqOk, nod, dep, eqD, truW, truD, b1W, binW, binD, asgT, lenW, srcW, rcv1, tyOf, Fr.pur, ofP, m1W, int?, slW, slD, isiW, isTy, kindOk, isD, isW, inStr, nod_ones, T_beq, nod_strs, dep_strs, List.map_map, Function.comp_def] using this
    generalize (splitC 44 t).map (·.map lower1) = qs at *
    by_cases h2 : ∃ a b, qs = [a, b]
    · obtain ⟨a, b, rfl⟩ := h2
      simp [noneW, allD, eqAll, nodAll, depAll, varW, idxW, seqW, FM.atI, cmpW, cmpP, vw, cmpD, eqOk, nod, dep, eqD, truW, truD, b1W, binW, binD, asgT, lenW, srcW, rcv1, tyOf, Fr.pur, ofP, m1W, int?, slW, slD, isiW, isTy, kindOk, isD, isW, inStr, nod_ones, T_beq, nod_strs, dep_strs] at hs
      refine ⟨_, rfl, by simp [noneW, allD, eqAll, nodAll, depAll, varW, idxW, seqW, FM.atI, cmpW, cmpP, vw, cmpD, eqOk, nod, dep, eqD, truW, truD, b1W, binW, binD, asgT, lenW, srcW, rcv1, tyOf, Fr.pur, ofP, m1W, int?, slW, slD, isiW, isTy, kindOk, isD, isW, inStr, nod_ones, T_beq, nod_strs, dep_strs, partsJ]; omega, ?_⟩
      simp [noneW, allD, eqAll, nodAll, depAll, varW, idxW, seqW, FM.atI, cmpW, cmpP, vw, cmpD, eqOk, nod, dep, eqD, truW, truD, b1W, binW, binD, asgT, lenW, srcW, rcv1, tyOf, Fr.pur, ofP, m1W, int?, slW, slD, isiW, isTy, kindOk, isD, isW, inStr, nod_ones, T_beq, nod_strs, dep_strs, partsJ, evS, evC, evE, hSZ, show b.length + 1 ≤ 16777216 by omega, show b.length + 1 + a.length ≤ 16777216 by omega]
    · have hne : ¬ ((qs.length : Int) = 2) := fun z => h2 (by
        match qs, z with
        | [a, b], _ => exact ⟨a, b, rfl⟩
        | [], z => simp [noneW, allD, eqAll, nodAll, depAll, varW, idxW, seqW, FM.atI, cmpW, cmpP, vw, cmpD, eqOk, nod, dep, eqD, truW, truD, b1W, binW, binD, asgT, lenW, srcW, rcv1, tyOf, Fr.pur, ofP, m1W, int?, slW, slD, isiW, isTy, kindOk, isD, isW, inStr, nod_ones, T_beq, nod_strs, dep_strs] at z
        | [a], z => simp [noneW, allD, eqAll, nodAll, depAll, varW, idxW, seqW, FM.atI, cmpW, cmpP, vw, cmpD, eqOk, nod, dep, eqD, truW, truD, b1W, binW, binD, asgT, lenW, srcW, rcv1, tyOf, Fr.pur, ofP, m1W, int?, slW, slD, isiW, isTy, kindOk, isD, isW, inStr, nod_ones, T_beq, nod_strs, dep_strs] at z
        | a :: b :: c :: r, z => simp [noneW, allD, eqAll, nodAll, depAll, varW, idxW, seqW, FM.atI, cmpW, cmpP, vw, cmpD, eqOk, nod, dep, eqD, truW, truD, b1W, binW, binD, asgT, lenW, srcW, rcv1, tyOf, Fr.pur, ofP, m1W, int?, slW, slD, isiW, isTy, kindOk, isD, isW, inStr, nod_ones, T_beq, nod_strs, dep_strs] at z; omega)
      have hm := partsJ_no h2
      refine ⟨_, rfl, by rw [hm, hj]; omega, ?_⟩
      rw [hm]
      simp [noneW, allD, eqAll, nodAll, depAll, varW, idxW, seqW, FM.atI, cmpW, cmpP, vw, cmpD, eqOk, nod, dep, eqD, truW, truD, b1W, binW, binD, asgT, lenW, srcW, rcv1, tyOf, Fr.pur, ofP, m1W, int?, slW, slD, isiW, isTy, kindOk, isD, isW, inStr, nod_ones, T_beq, nod_strs, dep_strs, evS, evC, evE, hSZ, hne, show (qs.map List.length).sum + qs.length ≤ 16777216 by omega]
  obtain ⟨u, hu, hul, hstep⟩ := hT
  rw [← hu]
  have s1 : evS EP R0 (callD EP R0 j) (.set (.v 1) (.m1 .split (.m0 .lower (.var 0)) (.str [44]))) [some (.d (dStr t)), none, none, none, none, none] st = .nx [some (.d (dStr t)), some (.d (.list (((splitC 44 t).map (·.map lower1)).map dStr))), none, none, none, none] st := by
    simp only [evS, evE, varW, List.getElem?_cons_zero, Res.of_some, Res.bind_ok, lower_ok h hl]
    rw [if_pos (by rfl), e1]
    rfl
  show okO (evSs EP R0 (callD EP R0 j) b_law_words [some (.d (dStr t)), none, none, none, none, none] st) _ _
  rw [b_law_words, evSs, s1, Out.next_nx, evSs, hstep, Out.next_nx, evSs]
  generalize (splitC 44 t).map (·.map lower1) = qs at *
  simp only [evSs, evS, evE, evO, evF, evI, evC, evCs, evEs, okO_next, okO_out, okR_bind]
  have e : chars (T u) ++ [W.d (dStr [32])] = (u ++ [32]).map fun c => W.d (dStr [c]) := by rw [chars_T, List.map_append]; rfl
  have e3 : allD (chars (T u)) = some (u.map fun c => dStr [c]) := by rw [chars_T]; exact allD_mapd (fun c => dStr [c]) u
  simp [noneW, allD, eqAll, nodAll, depAll, varW, idxW, seqW, FM.atI, cmpW, cmpP, vw, cmpD, eqOk, nod, dep, eqD, truW, truD, b1W, binW, binD, asgT, lenW, srcW, rcv1, tyOf, Fr.pur, ofP, m1W, int?, slW, slD, isiW, isTy, kindOk, isD, isW, inStr, nod_ones, T_beq, nod_strs, dep_strs, hSZ, show u.length ≤ 16777216 by omega, e3, show u.length + 1 ≤ 16777216 by omega]
  refine okO_imp (for_inv (Rt := fun w st' => False) (LI ((u ++ [32]).foldl rstep ([], [])) (some (.d (dStr t))) (some (.d (.list (qs.map dStr)))) (some (.d (dStr u))) st) _ _ _ ?_ ?_) ?_ ?_
  · refine ⟨u ++ [32], ([], []), none, ?_, rfl, rfl, ?_, rfl⟩
    · simp [noneW, allD, eqAll, nodAll, depAll, varW, idxW, seqW, FM.atI, cmpW, cmpP, vw, cmpD, eqOk, nod, dep, eqD, truW, truD, b1W, binW, binD, asgT, lenW, srcW, rcv1, tyOf, Fr.pur, ofP, m1W, int?, slW, slD, isiW, isTy, kindOk, isD, isW, inStr, nod_ones, T_beq, nod_strs, dep_strs]
    · simp [noneW, allD, eqAll, nodAll, depAll, varW, idxW, seqW, FM.atI, cmpW, cmpP, vw, cmpD, eqOk, nod, dep, eqD, truW, truD, b1W, binW, binD, asgT, lenW, srcW, rcv1, tyOf, Fr.pur, ofP, m1W, int?, slW, slD, isiW, isTy, kindOk, isD, isW, inStr, nod_ones, T_beq, nod_strs, dep_strs]
      omega
  · rintro w r ρ st' ⟨l, s, v, h1, rfl, rfl, h4, h5⟩
    cases l with
    | nil => simp [noneW, allD, eqAll, nodAll, depAll, varW, idxW, seqW, FM.atI, cmpW, cmpP, vw, cmpD, eqOk, nod, dep, eqD, truW, truD, b1W, binW, binD, asgT, lenW, srcW, rcv1, tyOf, Fr.pur, ofP, m1W, int?, slW, slD, isiW, isTy, kindOk, isD, isW, inStr, nod_ones, T_beq, nod_strs, dep_strs] at h1
    | cons c l =>
      simp [noneW, allD, eqAll, nodAll, depAll, varW, idxW, seqW, FM.atI, cmpW, cmpP, vw, cmpD, eqOk, nod, dep, eqD, truW, truD, b1W, binW, binD, asgT, lenW, srcW, rcv1, tyOf, Fr.pur, ofP, m1W, int?, slW, slD, isiW, isTy, kindOk, isD, isW, inStr, nod_ones, T_beq, nod_strs, dep_strs] at h1
      obtain ⟨rfl, rfl⟩ := h1
      simp [noneW, allD, eqAll, nodAll, depAll, varW, idxW, seqW, FM.atI, cmpW, cmpP, vw, cmpD, eqOk, nod, dep, eqD, truW, truD, b1W, binW, binD, asgT, lenW, srcW, rcv1, tyOf, Fr.pur, ofP, m1W, int?, slW, slD, isiW, isTy, kindOk, isD, isW, inStr, nod_ones, T_beq, nod_strs, dep_strs] at h4 h5
      have hcl : ([97, 98, 99, 100, 101, 102, 103, 104, 105, 106, 107, 108, 109, 110, 111, 112, 113, 114, 115, 116, 117, 118, 119, 120, 121, 122] : List Nat) = LT := rfl
      by_cases hc : c ∈ LT
      · simp only [hcl]
        simp [noneW, allD, eqAll, nodAll, depAll, varW, idxW, seqW, FM.atI, cmpW, cmpP, vw, cmpD, eqOk, nod, dep, eqD, truW, truD, b1W, binW, binD, asgT, lenW, srcW, rcv1, tyOf, Fr.pur, ofP, m1W, int?, slW, slD, isiW, isTy, kindOk, isD, isW, inStr, nod_ones, T_beq, nod_strs, dep_strs, hc, hSZ, still, show s.2.length + 1 ≤ 16777216 by omega]
        refine ⟨l, (s.1, s.2 ++ [c]), _, rfl, rfl, rfl, ?_, ?_⟩
        · simp [noneW, allD, eqAll, nodAll, depAll, varW, idxW, seqW, FM.atI, cmpW, cmpP, vw, cmpD, eqOk, nod, dep, eqD, truW, truD, b1W, binW, binD, asgT, lenW, srcW, rcv1, tyOf, Fr.pur, ofP, m1W, int?, slW, slD, isiW, isTy, kindOk, isD, isW, inStr, nod_ones, T_beq, nod_strs, dep_strs]
          omega
        · rw [← h5, rstep, if_pos hc]
      · by_cases hr : s.2 = []
        · simp only [hcl]
          simp [noneW, allD, eqAll, nodAll, depAll, varW, idxW, seqW, FM.atI, cmpW, cmpP, vw, cmpD, eqOk, nod, dep, eqD, truW, truD, b1W, binW, binD, asgT, lenW, srcW, rcv1, tyOf, Fr.pur, ofP, m1W, int?, slW, slD, isiW, isTy, kindOk, isD, isW, inStr, nod_ones, T_beq, nod_strs, dep_strs, hc, hr, hSZ, still, show s.1.length ≤ 16777216 by omega]
          refine ⟨l, (s.1, []), _, rfl, rfl, rfl, ?_, ?_⟩
          · simp [noneW, allD, eqAll, nodAll, depAll, varW, idxW, seqW, FM.atI, cmpW, cmpP, vw, cmpD, eqOk, nod, dep, eqD, truW, truD, b1W, binW, binD, asgT, lenW, srcW, rcv1, tyOf, Fr.pur, ofP, m1W, int?, slW, slD, isiW, isTy, kindOk, isD, isW, inStr, nod_ones, T_beq, nod_strs, dep_strs]
            omega
          · rw [← h5, rstep, if_neg hc, if_pos hr]
        · have : 0 < s.2.length := List.length_pos_iff.mpr hr
          simp only [hcl]
          simp [noneW, allD, eqAll, nodAll, depAll, varW, idxW, seqW, FM.atI, cmpW, cmpP, vw, cmpD, eqOk, nod, dep, eqD, truW, truD, b1W, binW, binD, asgT, lenW, srcW, rcv1, tyOf, Fr.pur, ofP, m1W, int?, slW, slD, isiW, isTy, kindOk, isD, isW, inStr, nod_ones, T_beq, nod_strs, dep_strs, hc, hr, hSZ, still, show s.1.length + 1 ≤ 16777216 by omega]
          refine ⟨l, (s.1 ++ [s.2], []), some (.d (dStr [c])), rfl, by simp [noneW, allD, eqAll, nodAll, depAll, varW, idxW, seqW, FM.atI, cmpW, cmpP, vw, cmpD, eqOk, nod, dep, eqD, truW, truD, b1W, binW, binD, asgT, lenW, srcW, rcv1, tyOf, Fr.pur, ofP, m1W, int?, slW, slD, isiW, isTy, kindOk, isD, isW, inStr, nod_ones, T_beq, nod_strs, dep_strs], rfl, ?_, ?_⟩
          · simp [noneW, allD, eqAll, nodAll, depAll, varW, idxW, seqW, FM.atI, cmpW, cmpP, vw, cmpD, eqOk, nod, dep, eqD, truW, truD, b1W, binW, binD, asgT, lenW, srcW, rcv1, tyOf, Fr.pur, ofP, m1W, int?, slW, slD, isiW, isTy, kindOk, isD, isW, inStr, nod_ones, T_beq, nod_strs, dep_strs]
            omega
          · rw [← h5, rstep, if_neg hc, if_neg hr]
  · rintro ρ st' ⟨l, s, v, h1, rfl, rfl, h4, h5⟩
    simp [noneW, allD, eqAll, nodAll, depAll, varW, idxW, seqW, FM.atI, cmpW, cmpP, vw, cmpD, eqOk, nod, dep, eqD, truW, truD, b1W, binW, binD, asgT, lenW, srcW, rcv1, tyOf, Fr.pur, ofP, m1W, int?, slW, slD, isiW, isTy, kindOk, isD, isW, inStr, nod_ones, T_beq, nod_strs, dep_strs] at h1
    subst h1
    simp [noneW, allD, eqAll, nodAll, depAll, varW, idxW, seqW, FM.atI, cmpW, cmpP, vw, cmpD, eqOk, nod, dep, eqD, truW, truD, b1W, binW, binD, asgT, lenW, srcW, rcv1, tyOf, Fr.pur, ofP, m1W, int?, slW, slD, isiW, isTy, kindOk, isD, isW, inStr, nod_ones, T_beq, nod_strs, dep_strs] at h5
    subst h5
    simp [noneW, allD, eqAll, nodAll, depAll, varW, idxW, seqW, FM.atI, cmpW, cmpP, vw, cmpD, eqOk, nod, dep, eqD, truW, truD, b1W, binW, binD, asgT, lenW, srcW, rcv1, tyOf, Fr.pur, ofP, m1W, int?, slW, slD, isiW, isTy, kindOk, isD, isW, inStr, nod_ones, T_beq, nod_strs, dep_strs, scan]
  · intro _ _ h
    exact h.elim
end HT
end

section
set_option Elab.async false
set_option linter.all false
set_option maxRecDepth 100000
set_option autoImplicit false
set_option maxHeartbeats 4000000
namespace HT
open PySem FM
/-- two words go together -/
def pairP (a b : List Nat) : Bool := decide (a = b) || (decide (min a.length b.length = 1) && decide (a.head? = b.head?))
theorem pairP_refl (a : List Nat) : pairP a a = true := by simp [noneW, allD, eqAll, nodAll, depAll, varW, idxW, seqW, FM.atI, cmpW, cmpP, vw, cmpD, eqOk, nod, dep, eqD, truW, truD, b1W, binW, binD, asgT, lenW, srcW, rcv1, tyOf, Fr.pur, ofP, m1W, int?, slW, slD, isiW, isTy, kindOk, isD, isW, inStr, nod_ones, T_beq, nod_strs, dep_strs, b2W, pairP]
theorem pairP_comm (a b : List Nat) : pairP a b = pairP b a := by
  unfold pairP
  rw [Nat.min_comm, decide_eq_decide.mpr (eq_comm (a := a)), decide_eq_decide.mpr (eq_comm (a := a.head?))]
theorem are_pair_ok {a b : List Nat} {st : Sto} {j : Nat} (ha : a ≠ []) (hb : b ≠ []) (la : a.length ≤ 1000) (lb : b.length ≤ 1000) : callD EP R0 (j + 1) "are_pair" [.d (dStr a), .d (dStr b)] st = .ok (.d (.bool (pairP a b))) st := by
  have hSZ : SZ = 16777216 := rfl
  rw [callD_fn (fn := fare_pair) rfl _ _ rfl]
  simp only [fare_pair, bare_pair, entry, evSs, evS, evC, evE]
  by_cases h : a = b
  · subst h
    simp [noneW, allD, eqAll, nodAll, depAll, varW, idxW, seqW, FM.atI, cmpW, cmpP, vw, cmpD, eqOk, nod, dep, eqD, truW, truD, b1W, binW, binD, asgT, lenW, srcW, rcv1, tyOf, Fr.pur, ofP, m1W, int?, slW, slD, isiW, isTy, kindOk, isD, isW, inStr, nod_ones, T_beq, nod_strs, dep_strs, b2W, pairP_refl]
  · obtain ⟨x, a, rfl⟩ := List.exists_cons_of_ne_nil ha
    obtain ⟨y, b, rfl⟩ := List.exists_cons_of_ne_nil hb
    simp [noneW, allD, eqAll, nodAll, depAll, varW, idxW, seqW, FM.atI, cmpW, cmpP, vw, cmpD, eqOk, nod, dep, eqD, truW, truD, b1W, binW, binD, asgT, lenW, srcW, rcv1, tyOf, Fr.pur, ofP, m1W, int?, slW, slD, isiW, isTy, kindOk, isD, isW, inStr, nod_ones, T_beq, nod_strs, dep_strs, b2W] at la lb
    simp [noneW, allD, eqAll, nodAll, depAll, varW, idxW, seqW, FM.atI, cmpW, cmpP, vw, cmpD, eqOk, nod, dep, eqD, truW, truD, b1W, binW, binD, asgT, lenW, srcW, rcv1, tyOf, Fr.pur, ofP, m1W, int?, slW, slD, isiW, isTy, kindOk, isD, isW, inStr, nod_ones, T_beq, nod_strs, dep_strs, b2W, h, hSZ, show a.length + 1 ≤ 16777216 by omega, show b.length + 1 ≤ 16777216 by omega, pairP]
    have hk : ((if b.length < a.length then (b.length : Int) + 1 else a.length + 1) == 1) = (decide (a = []) || decide (b = [])) := by
      cases a with
      | nil => cases b <;> simp [noneW, allD, eqAll, nodAll, depAll, varW, idxW, seqW, FM.atI, cmpW, cmpP, vw, cmpD, eqOk, nod, dep, eqD, truW, truD, b1W, binW, binD, asgT, lenW, srcW, rcv1, tyOf, Fr.pur, ofP, m1W, int?, slW, slD, isiW, isTy, kindOk, isD, isW, inStr, nod_ones, T_beq, nod_strs, dep_strs, b2W]
      | cons x a =>
        cases b with
        | nil => simp [noneW, allD, eqAll, nodAll, depAll, varW, idxW, seqW, FM.atI, cmpW, cmpP, vw, cmpD, eqOk, nod, dep, eqD, truW, truD, b1W, binW, binD, asgT, lenW, srcW, rcv1, tyOf, Fr.pur, ofP, m1W, int?, slW, slD, isiW, isTy, kindOk, isD, isW, inStr, nod_ones, T_beq, nod_strs, dep_strs, b2W]
        | cons y b =>
          simp [noneW, allD, eqAll, nodAll, depAll, varW, idxW, seqW, FM.atI, cmpW, cmpP, vw, cmpD, eqOk, nod, dep, eqD, truW, truD, b1W, binW, binD, asgT, lenW, srcW, rcv1, tyOf, Fr.pur, ofP, m1W, int?, slW, slD, isiW, isTy, kindOk, isD, isW, inStr, nod_ones, T_beq, nod_strs, dep_strs, b2W]
          split <;> omega
    rw [hk]
    cases (decide (a = []) || decide (b = [])) <;> simp [noneW, allD, eqAll, nodAll, depAll, varW, idxW, seqW, FM.atI, cmpW, cmpP, vw, cmpD, eqOk, nod, dep, eqD, truW, truD, b1W, binW, binD, asgT, lenW, srcW, rcv1, tyOf, Fr.pur, ofP, m1W, int?, slW, slD, isiW, isTy, kindOk, isD, isW, inStr, nod_ones, T_beq, nod_strs, dep_strs, b2W]
theorem law_pair_ok {a b : List Nat} {st : Sto} {j : Nat} (ha : a ≠ []) (hb : b ≠ []) (la : a.length ≤ 1000) (lb : b.length ≤ 1000) : callD EP R0 (j + 1) "_law_pair" [.d (dStr a), .d (dStr b)] st = .ok (.d (.bool (pairP a b))) st := by
  have hSZ : SZ = 16777216 := rfl
  rw [callD_fn (fn := f_law_pair) rfl _ _ rfl]
  simp only [f_law_pair, b_law_pair, entry, evSs, evS, evC, evE]
  by_cases h : a = b
  · subst h
    simp [noneW, allD, eqAll, nodAll, depAll, varW, idxW, seqW, FM.atI, cmpW, cmpP, vw, cmpD, eqOk, nod, dep, eqD, truW, truD, b1W, binW, binD, asgT, lenW, srcW, rcv1, tyOf, Fr.pur, ofP, m1W, int?, slW, slD, isiW, isTy, kindOk, isD, isW, inStr, nod_ones, T_beq, nod_strs, dep_strs, b2W, pairP_refl]
  · obtain ⟨x, a, rfl⟩ := List.exists_cons_of_ne_nil ha
    obtain ⟨y, b, rfl⟩ := List.exists_cons_of_ne_nil hb
    simp [noneW, allD, eqAll, nodAll, depAll, varW, idxW, seqW, FM.atI, cmpW, cmpP, vw, cmpD, eqOk, nod, dep, eqD, truW, truD, b1W, binW, binD, asgT, lenW, srcW, rcv1, tyOf, Fr.pur, ofP, m1W, int?, slW, slD, isiW, isTy, kindOk, isD, isW, inStr, nod_ones, T_beq, nod_strs, dep_strs, b2W] at la lb
    simp [noneW, allD, eqAll, nodAll, depAll, varW, idxW, seqW, FM.atI, cmpW, cmpP, vw, cmpD, eqOk, nod, dep, eqD, truW, truD, b1W, binW, binD, asgT, lenW, srcW, rcv1, tyOf, Fr.pur, ofP, m1W, int?, slW, slD, isiW, isTy, kindOk, isD, isW, inStr, nod_ones, T_beq, nod_strs, dep_strs, b2W, h, hSZ, show a.length + 1 ≤ 16777216 by omega, show b.length + 1 ≤ 16777216 by omega]
    have k1 : ∀ l : List Nat, (((l.length : Int) + 1) == 1) = decide (l = []) := fun l => by
      cases l with
      | nil => simp [noneW, allD, eqAll, nodAll, depAll, varW, idxW, seqW, FM.atI, cmpW, cmpP, vw, cmpD, eqOk, nod, dep, eqD, truW, truD, b1W, binW, binD, asgT, lenW, srcW, rcv1, tyOf, Fr.pur, ofP, m1W, int?, slW, slD, isiW, isTy, kindOk, isD, isW, inStr, nod_ones, T_beq, nod_strs, dep_strs, b2W]
      | cons x l =>
        simp [noneW, allD, eqAll, nodAll, depAll, varW, idxW, seqW, FM.atI, cmpW, cmpP, vw, cmpD, eqOk, nod, dep, eqD, truW, truD, b1W, binW, binD, asgT, lenW, srcW, rcv1, tyOf, Fr.pur, ofP, m1W, int?, slW, slD, isiW, isTy, kindOk, isD, isW, inStr, nod_ones, T_beq, nod_strs, dep_strs, b2W]
        omega
    rw [k1, k1]
    have k2 : pairP (x :: a) (y :: b) = ((decide (a = []) || decide (b = [])) && decide (x = y)) := by
      simp [noneW, allD, eqAll, nodAll, depAll, varW, idxW, seqW, FM.atI, cmpW, cmpP, vw, cmpD, eqOk, nod, dep, eqD, truW, truD, b1W, binW, binD, asgT, lenW, srcW, rcv1, tyOf, Fr.pur, ofP, m1W, int?, slW, slD, isiW, isTy, kindOk, isD, isW, inStr, nod_ones, T_beq, nod_strs, dep_strs, b2W, pairP, h]
    rw [k2]
    by_cases e1 : a = []
    · by_cases e3 : x = y
      · subst e1 e3
        simp [noneW, allD, eqAll, nodAll, depAll, varW, idxW, seqW, FM.atI, cmpW, cmpP, vw, cmpD, eqOk, nod, dep, eqD, truW, truD, b1W, binW, binD, asgT, lenW, srcW, rcv1, tyOf, Fr.pur, ofP, m1W, int?, slW, slD, isiW, isTy, kindOk, isD, isW, inStr, nod_ones, T_beq, nod_strs, dep_strs, b2W]
      · have e4 : ¬ y = x := fun z => e3 z.symm
        by_cases e2 : b = [] <;> simp [noneW, allD, eqAll, nodAll, depAll, varW, idxW, seqW, FM.atI, cmpW, cmpP, vw, cmpD, eqOk, nod, dep, eqD, truW, truD, b1W, binW, binD, asgT, lenW, srcW, rcv1, tyOf, Fr.pur, ofP, m1W, int?, slW, slD, isiW, isTy, kindOk, isD, isW, inStr, nod_ones, T_beq, nod_strs, dep_strs, b2W, e1, e2, e3, e4]
    · by_cases e2 : b = []
      · by_cases e3 : x = y <;> simp [noneW, allD, eqAll, nodAll, depAll, varW, idxW, seqW, FM.atI, cmpW, cmpP, vw, cmpD, eqOk, nod, dep, eqD, truW, truD, b1W, binW, binD, asgT, lenW, srcW, rcv1, tyOf, Fr.pur, ofP, m1W, int?, slW, slD, isiW, isTy, kindOk, isD, isW, inStr, nod_ones, T_beq, nod_strs, dep_strs, b2W, e1, e2, e3]
      · simp [noneW, allD, eqAll, nodAll, depAll, varW, idxW, seqW, FM.atI, cmpW, cmpP, vw, cmpD, eqOk, nod, dep, eqD, truW, truD, b1W, binW, binD, asgT, lenW, srcW, rcv1, tyOf, Fr.pur, ofP, m1W, int?, slW, slD, isiW, isTy, kindOk, isD, isW, inStr, nod_ones, T_beq, nod_strs, dep_strs, b2W, e1, e2]
/-! ### in order -/
/-- the words of s go together with some of l, in order -/
def fitP : List (List Nat) → List (List Nat) → Bool
  | [], _ => true
  | _ :: _, [] => false
  | a :: s, b :: l => if pairP a b then fitP s l else fitP (a :: s) l
inductive Emb : List (List Nat) → List (List Nat) → Prop
  | nil (l) : Emb [] l
  | skip {s b l} : Emb s l → Emb s (b :: l)
  | take {a s b l} : pairP a b = true → Emb s l → Emb (a :: s) (b :: l)
theorem Emb.tail {a : List Nat} {s l : List (List Nat)} (h : Emb (a :: s) l) : Emb s l := by
  generalize he : a :: s = u at h
  induction h with
  | nil l => cases he
  | skip _ ih => exact .skip (ih he)
  | take _ h _ => cases he; exact .skip h
theorem fit_emb : ∀ (l s : List (List Nat)), fitP s l = true ↔ Emb s l
  | [], [] => ⟨fun _ => .nil _, fun _ => rfl⟩
  | [], a :: s => ⟨fun h => by simp [noneW, allD, eqAll, nodAll, depAll, varW, idxW, seqW, FM.atI, cmpW, cmpP, vw, cmpD, eqOk, nod, dep, eqD, truW, truD, b1W, binW, binD, asgT, lenW, srcW, rcv1, tyOf, Fr.pur, ofP, m1W, int?, slW, slD, isiW, isTy, kindOk, isD, isW, inStr, nod_ones, T_beq, nod_strs, dep_strs, b2W, fitP] at h, fun h => by cases h⟩
  | b :: l, [] => ⟨fun _ => .nil _, fun _ => rfl⟩
  | b :: l, a :: s => by
    simp only [fitP]
    by_cases hp : pairP a b = true
    · rw [if_pos hp, fit_emb l s]
      refine ⟨fun h => .take hp h, fun h => ?_⟩
      cases h with
      | skip h => exact h.tail
      | take _ h => exact h
    · rw [if_neg hp, fit_emb l (a :: s)]
      refine ⟨fun h => .skip h, fun h => ?_⟩
      cases h with
      | skip h => exact h
      | take h1 _ => exact absurd h1 hp
theorem Emb.le {s l : List (List Nat)} (h : Emb s l) : s.length ≤ l.length := by
  induction h with
  | nil l => simp [noneW, allD, eqAll, nodAll, depAll, varW, idxW, seqW, FM.atI, cmpW, cmpP, vw, cmpD, eqOk, nod, dep, eqD, truW, truD, b1W, binW, binD, asgT, lenW, srcW, rcv1, tyOf, Fr.pur, ofP, m1W, int?, slW, slD, isiW, isTy, kindOk, isD, isW, inStr, nod_ones, T_beq, nod_strs, dep_strs, b2W]
  | skip _ ih => simp [noneW, allD, eqAll, nodAll, depAll, varW, idxW, seqW, FM.atI, cmpW, cmpP, vw, cmpD, eqOk, nod, dep, eqD, truW, truD, b1W, binW, binD, asgT, lenW, srcW, rcv1, tyOf, Fr.pur, ofP, m1W, int?, slW, slD, isiW, isTy, kindOk, isD, isW, inStr, nod_ones, T_beq, nod_strs, dep_strs, b2W]; omega
  | take _ _ ih => simp [noneW, allD, eqAll, nodAll, depAll, varW, idxW, seqW, FM.atI, cmpW, cmpP, vw, cmpD, eqOk, nod, dep, eqD, truW, truD, b1W, binW, binD, asgT, lenW, srcW, rcv1, tyOf, Fr.pur, ofP, m1W, int?, slW, slD, isiW, isTy, kindOk, isD, isW, inStr, nod_ones, T_beq, nod_strs, dep_strs, b2W]; omega
/-- all are put in pairs -/
theorem Emb.full {s l : List (List Nat)} (h : Emb s l) (hl : s.length = l.length) : Emb l s := by
  induction h with
  | nil l =>
    have : l = [] := by cases l <;> simp [noneW, allD, eqAll, nodAll, depAll, varW, idxW, seqW, FM.atI, cmpW, cmpP, vw, cmpD, eqOk, nod, dep, eqD, truW, truD, b1W, binW, binD, asgT, lenW, srcW, rcv1, tyOf, Fr.pur, ofP, m1W, int?, slW, slD, isiW, isTy, kindOk, isD, isW, inStr, nod_ones, T_beq, nod_strs, dep_strs, b2W] at hl ⊢
    subst this
    exact .nil _
  | skip h _ =>
    have := h.le
    simp [noneW, allD, eqAll, nodAll, depAll, varW, idxW, seqW, FM.atI, cmpW, cmpP, vw, cmpD, eqOk, nod, dep, eqD, truW, truD, b1W, binW, binD, asgT, lenW, srcW, rcv1, tyOf, Fr.pur, ofP, m1W, int?, slW, slD, isiW, isTy, kindOk, isD, isW, inStr, nod_ones, T_beq, nod_strs, dep_strs, b2W] at hl
    omega
  | take hp _ ih => exact .take (by rw [pairP_comm]; exact hp) (ih (by simpa [noneW, allD, eqAll, nodAll, depAll, varW, idxW, seqW, FM.atI, cmpW, cmpP, vw, cmpD, eqOk, nod, dep, eqD, truW, truD, b1W, binW, binD, asgT, lenW, srcW, rcv1, tyOf, Fr.pur, ofP, m1W, int?, slW, slD, isiW, isTy, kindOk, isD, isW, inStr, nod_ones, T_beq, nod_strs, dep_strs, b2W] using hl))
theorem Emb.refl : ∀ s : List (List Nat), Emb s s
  | [] => .nil _
  | a :: s => .take (pairP_refl a) (Emb.refl s)
def FitI (s l : List (List Nat)) (st : Sto) (ws : List W) (ρ : FM.Env) (st' : Sto) : Prop := ∃ (m : List (List Nat)) (k : Nat) (v : Option W), ws = m.map (fun c => .d (dStr c)) ∧ (∀ w ∈ m, w ≠ [] ∧ w.length ≤ 1000) ∧ k ≤ s.length ∧ ρ = [some (.d (.tuple (s.map dStr))), some (.d (.tuple (l.map dStr))), some (.d (.int k)), v] ∧ st' = st ∧ fitP (s.drop k) m = fitP s l
theorem fits_ok {s l : List (List Nat)} {st : Sto} {j : Nat} (hs : ∀ w ∈ s, w ≠ [] ∧ w.length ≤ 1000) (hl : ∀ w ∈ l, w ≠ [] ∧ w.length ≤ 1000) (ls : s.length ≤ 1000) (ll : l.length ≤ 1000) : callD EP R0 (j + 2) "fits_in" [.d (.tuple (s.map dStr)), .d (.tuple (l.map dStr))] st = .ok (.d (.bool (fitP s l))) st := by
  have hSZ : SZ = 16777216 := rfl
  suffices hq : okR (callD EP R0 (j + 2) "fits_in" [.d (.tuple (s.map dStr)), .d (.tuple (l.map dStr))] st) fun w st' => st' = st ∧ w = .d (.bool (fitP s l)) by
    obtain ⟨w, st', h1, rfl, rfl⟩ := okR_ex hq
    exact h1
  rw [callD_fn (fn := ffits_in) rfl _ _ rfl]
  apply exit_pure
  simp only [ffits_in, bfits_in, entry, evSs, evS, evE, evI, evC, evEs, okO_next, okO_out, okR_bind]
  simp [noneW, allD, eqAll, nodAll, depAll, varW, idxW, seqW, FM.atI, cmpW, cmpP, vw, cmpD, eqOk, nod, dep, eqD, truW, truD, b1W, binW, binD, asgT, lenW, srcW, rcv1, tyOf, Fr.pur, ofP, m1W, int?, slW, slD, isiW, isTy, kindOk, isD, isW, inStr, nod_ones, T_beq, nod_strs, dep_strs, b2W]
  refine okO_imp (for_inv (Rt := fun w st' => False) (FitI s l st) _ _ _ ?_ ?_) ?_ ?_
  · exact ⟨l, 0, none, by simp [noneW, allD, eqAll, nodAll, depAll, varW, idxW, seqW, FM.atI, cmpW, cmpP, vw, cmpD, eqOk, nod, dep, eqD, truW, truD, b1W, binW, binD, asgT, lenW, srcW, rcv1, tyOf, Fr.pur, ofP, m1W, int?, slW, slD, isiW, isTy, kindOk, isD, isW, inStr, nod_ones, T_beq, nod_strs, dep_strs, b2W, Function.comp_def], hl, Nat.zero_le _, by simp [noneW, allD, eqAll, nodAll, depAll, varW, idxW, seqW, FM.atI, cmpW, cmpP, vw, cmpD, eqOk, nod, dep, eqD, truW, truD, b1W, binW, binD, asgT, lenW, srcW, rcv1, tyOf, Fr.pur, ofP, m1W, int?, slW, slD, isiW, isTy, kindOk, isD, isW, inStr, nod_ones, T_beq, nod_strs, dep_strs, b2W], rfl, by simp [noneW, allD, eqAll, nodAll, depAll, varW, idxW, seqW, FM.atI, cmpW, cmpP, vw, cmpD, eqOk, nod, dep, eqD, truW, truD, b1W, binW, binD, asgT, lenW, srcW, rcv1, tyOf, Fr.pur, ofP, m1W, int?, slW, slD, isiW, isTy, kindOk, isD, isW, inStr, nod_ones, T_beq, nod_strs, dep_strs, b2W]⟩
  · rintro w r ρ st' ⟨m, k, v, h1, hm, hk, rfl, rfl, h5⟩
    cases m with
    | nil => simp [noneW, allD, eqAll, nodAll, depAll, varW, idxW, seqW, FM.atI, cmpW, cmpP, vw, cmpD, eqOk, nod, dep, eqD, truW, truD, b1W, binW, binD, asgT, lenW, srcW, rcv1, tyOf, Fr.pur, ofP, m1W, int?, slW, slD, isiW, isTy, kindOk, isD, isW, inStr, nod_ones, T_beq, nod_strs, dep_strs, b2W] at h1
    | cons c m =>
      simp [noneW, allD, eqAll, nodAll, depAll, varW, idxW, seqW, FM.atI, cmpW, cmpP, vw, cmpD, eqOk, nod, dep, eqD, truW, truD, b1W, binW, binD, asgT, lenW, srcW, rcv1, tyOf, Fr.pur, ofP, m1W, int?, slW, slD, isiW, isTy, kindOk, isD, isW, inStr, nod_ones, T_beq, nod_strs, dep_strs, b2W] at h1
      obtain ⟨rfl, rfl⟩ := h1
      obtain ⟨c1, c2⟩ := hm c (by simp [noneW, allD, eqAll, nodAll, depAll, varW, idxW, seqW, FM.atI, cmpW, cmpP, vw, cmpD, eqOk, nod, dep, eqD, truW, truD, b1W, binW, binD, asgT, lenW, srcW, rcv1, tyOf, Fr.pur, ofP, m1W, int?, slW, slD, isiW, isTy, kindOk, isD, isW, inStr, nod_ones, T_beq, nod_strs, dep_strs, b2W])
      have hm' : ∀ w ∈ m, w ≠ [] ∧ w.length ≤ 1000 := fun w hw => hm w (List.mem_cons_of_mem _ hw)
      by_cases hlt : k < s.length
      · have hmem := hs s[k] (List.getElem_mem hlt)
        have hd : s.drop k = s[k] :: s.drop (k + 1) := List.drop_eq_getElem_cons hlt
        have hp := are_pair_ok (st := st') (j := j) hmem.1 c1 hmem.2 c2
        rw [hd, fitP] at h5
        simp [noneW, allD, eqAll, nodAll, depAll, varW, idxW, seqW, FM.atI, cmpW, cmpP, vw, cmpD, eqOk, nod, dep, eqD, truW, truD, b1W, binW, binD, asgT, lenW, srcW, rcv1, tyOf, Fr.pur, ofP, m1W, int?, slW, slD, isiW, isTy, kindOk, isD, isW, inStr, nod_ones, T_beq, nod_strs, dep_strs, b2W, cmpOk, alk, ordOk, isNo, ltD, hlt, hp, still]
        cases hb : pairP s[k] c
        · simp [noneW, allD, eqAll, nodAll, depAll, varW, idxW, seqW, FM.atI, cmpW, cmpP, vw, cmpD, eqOk, nod, dep, eqD, truW, truD, b1W, binW, binD, asgT, lenW, srcW, rcv1, tyOf, Fr.pur, ofP, m1W, int?, slW, slD, isiW, isTy, kindOk, isD, isW, inStr, nod_ones, T_beq, nod_strs, dep_strs, b2W]
          rw [hb] at h5
          exact ⟨m, k, _, rfl, hm', hk, rfl, rfl, by rw [hd]; simpa [noneW, allD, eqAll, nodAll, depAll, varW, idxW, seqW, FM.atI, cmpW, cmpP, vw, cmpD, eqOk, nod, dep, eqD, truW, truD, b1W, binW, binD, asgT, lenW, srcW, rcv1, tyOf, Fr.pur, ofP, m1W, int?, slW, slD, isiW, isTy, kindOk, isD, isW, inStr, nod_ones, T_beq, nod_strs, dep_strs, b2W] using h5⟩
        · rw [hb] at h5
          simp [noneW, allD, eqAll, nodAll, depAll, varW, idxW, seqW, FM.atI, cmpW, cmpP, vw, cmpD, eqOk, nod, dep, eqD, truW, truD, b1W, binW, binD, asgT, lenW, srcW, rcv1, tyOf, Fr.pur, ofP, m1W, int?, slW, slD, isiW, isTy, kindOk, isD, isW, inStr, nod_ones, T_beq, nod_strs, dep_strs, b2W, augW]
          exact ⟨m, k + 1, _, rfl, hm', hlt, rfl, rfl, by simpa [noneW, allD, eqAll, nodAll, depAll, varW, idxW, seqW, FM.atI, cmpW, cmpP, vw, cmpD, eqOk, nod, dep, eqD, truW, truD, b1W, binW, binD, asgT, lenW, srcW, rcv1, tyOf, Fr.pur, ofP, m1W, int?, slW, slD, isiW, isTy, kindOk, isD, isW, inStr, nod_ones, T_beq, nod_strs, dep_strs, b2W] using h5⟩
      · have hk2 : k = s.length := by omega
        subst hk2
        simp [noneW, allD, eqAll, nodAll, depAll, varW, idxW, seqW, FM.atI, cmpW, cmpP, vw, cmpD, eqOk, nod, dep, eqD, truW, truD, b1W, binW, binD, asgT, lenW, srcW, rcv1, tyOf, Fr.pur, ofP, m1W, int?, slW, slD, isiW, isTy, kindOk, isD, isW, inStr, nod_ones, T_beq, nod_strs, dep_strs, b2W, cmpOk, alk, ordOk, isNo, ltD, still]
        refine ⟨m, s.length, _, rfl, hm', Nat.le_refl _, rfl, rfl, ?_⟩
        rw [← h5]
        simp [noneW, allD, eqAll, nodAll, depAll, varW, idxW, seqW, FM.atI, cmpW, cmpP, vw, cmpD, eqOk, nod, dep, eqD, truW, truD, b1W, binW, binD, asgT, lenW, srcW, rcv1, tyOf, Fr.pur, ofP, m1W, int?, slW, slD, isiW, isTy, kindOk, isD, isW, inStr, nod_ones, T_beq, nod_strs, dep_strs, b2W, fitP]
  · rintro ρ st' ⟨m, k, v, h1, hm, hk, rfl, rfl, h5⟩
    simp [noneW, allD, eqAll, nodAll, depAll, varW, idxW, seqW, FM.atI, cmpW, cmpP, vw, cmpD, eqOk, nod, dep, eqD, truW, truD, b1W, binW, binD, asgT, lenW, srcW, rcv1, tyOf, Fr.pur, ofP, m1W, int?, slW, slD, isiW, isTy, kindOk, isD, isW, inStr, nod_ones, T_beq, nod_strs, dep_strs, b2W] at h1
    subst h1
    simp [noneW, allD, eqAll, nodAll, depAll, varW, idxW, seqW, FM.atI, cmpW, cmpP, vw, cmpD, eqOk, nod, dep, eqD, truW, truD, b1W, binW, binD, asgT, lenW, srcW, rcv1, tyOf, Fr.pur, ofP, m1W, int?, slW, slD, isiW, isTy, kindOk, isD, isW, inStr, nod_ones, T_beq, nod_strs, dep_strs, b2W]
    rw [← h5]
    by_cases e : k = s.length
    · subst e
      simp [noneW, allD, eqAll, nodAll, depAll, varW, idxW, seqW, FM.atI, cmpW, cmpP, vw, cmpD, eqOk, nod, dep, eqD, truW, truD, b1W, binW, binD, asgT, lenW, srcW, rcv1, tyOf, Fr.pur, ofP, m1W, int?, slW, slD, isiW, isTy, kindOk, isD, isW, inStr, nod_ones, T_beq, nod_strs, dep_strs, b2W, fitP]
    · have hlt : k < s.length := by omega
      have hd : s.drop k = s[k] :: s.drop (k + 1) := List.drop_eq_getElem_cons hlt
      rw [hd]
      simp [noneW, allD, eqAll, nodAll, depAll, varW, idxW, seqW, FM.atI, cmpW, cmpP, vw, cmpD, eqOk, nod, dep, eqD, truW, truD, b1W, binW, binD, asgT, lenW, srcW, rcv1, tyOf, Fr.pur, ofP, m1W, int?, slW, slD, isiW, isTy, kindOk, isD, isW, inStr, nod_ones, T_beq, nod_strs, dep_strs, b2W, fitP]
      omega
  · intro _ _ h
    exact h.elim
end HT
end

section
set_option Elab.async false
set_option linter.all false
set_option maxRecDepth 100000
set_option autoImplicit false
set_option maxHeartbeats 4000000
namespace HT
open PySem FM
def pd (p : Nat × Nat) : D := .tuple [.int p.1, .int p.2]
theorem pd_eq (p q : Nat × Nat) : eqD (pd p) (pd q) = decide (p = q) := by
  obtain ⟨a, b⟩ := p
  obtain ⟨c, d⟩ := q
  have h1 : ((a : Int) == c) = decide (a = c) := by
    by_cases h : a = c <;> simp [noneW, allD, eqAll, nodAll, depAll, varW, idxW, seqW, cmpW, cmpP, vw, cmpD, eqOk, nod, dep, eqD, truW, truD, b1W, binW, binD, asgT, lenW, srcW, rcv1, tyOf, Fr.pur, ofP, m1W, int?, slW, slD, isiW, isTy, kindOk, isD, isW, inStr, nod_ones, T_beq, nod_strs, dep_strs, b2W, h]
    omega
  have h2 : ((b : Int) == d) = decide (b = d) := by
    by_cases h : b = d <;> simp [noneW, allD, eqAll, nodAll, depAll, varW, idxW, seqW, cmpW, cmpP, vw, cmpD, eqOk, nod, dep, eqD, truW, truD, b1W, binW, binD, asgT, lenW, srcW, rcv1, tyOf, Fr.pur, ofP, m1W, int?, slW, slD, isiW, isTy, kindOk, isD, isW, inStr, nod_ones, T_beq, nod_strs, dep_strs, b2W, h]
    omega
  simp [noneW, allD, eqAll, nodAll, depAll, varW, idxW, seqW, cmpW, cmpP, vw, cmpD, eqOk, nod, dep, eqD, truW, truD, b1W, binW, binD, asgT, lenW, srcW, rcv1, tyOf, Fr.pur, ofP, m1W, int?, slW, slD, isiW, isTy, kindOk, isD, isW, inStr, nod_ones, T_beq, nod_strs, dep_strs, b2W, pd, h1, h2]
theorem pd_nod (p : Nat × Nat) : nod (pd p) = true ∧ dep (pd p) = 1 := by simp [noneW, allD, eqAll, nodAll, depAll, varW, idxW, seqW, cmpW, cmpP, vw, cmpD, eqOk, nod, dep, eqD, truW, truD, b1W, binW, binD, asgT, lenW, srcW, rcv1, tyOf, Fr.pur, ofP, m1W, int?, slW, slD, isiW, isTy, kindOk, isD, isW, inStr, nod_ones, T_beq, nod_strs, dep_strs, b2W, pd]
theorem pd_sort {ps : List (Nat × Nat)} (h : ps.length ≤ SZ) : sortOk (ps.map pd) = true := by
  have h1 : alkAllB (ps.map pd) = true := by simp [noneW, allD, eqAll, nodAll, depAll, varW, idxW, seqW, cmpW, cmpP, vw, cmpD, eqOk, nod, dep, eqD, truW, truD, b1W, binW, binD, asgT, lenW, srcW, rcv1, tyOf, Fr.pur, ofP, m1W, int?, slW, slD, isiW, isTy, kindOk, isD, isW, inStr, nod_ones, T_beq, nod_strs, dep_strs, b2W, alkAllB, pd, alk, alkAll]
  have h2 : sortable (ps.map pd) = true := by
    unfold sortable
    rw [Bool.or_eq_true]
    left
    rw [List.all_eq_true]
    intro x hx
    obtain ⟨p, _, rfl⟩ := List.mem_map.mp hx
    rfl
  have h3 : depOk (ps.map pd) = true := by simp [noneW, allD, eqAll, nodAll, depAll, varW, idxW, seqW, cmpW, cmpP, vw, cmpD, eqOk, nod, dep, eqD, truW, truD, b1W, binW, binD, asgT, lenW, srcW, rcv1, tyOf, Fr.pur, ofP, m1W, int?, slW, slD, isiW, isTy, kindOk, isD, isW, inStr, nod_ones, T_beq, nod_strs, dep_strs, b2W, depOk, pd]
  simp [noneW, allD, eqAll, nodAll, depAll, varW, idxW, seqW, cmpW, cmpP, vw, cmpD, eqOk, nod, dep, eqD, truW, truD, b1W, binW, binD, asgT, lenW, srcW, rcv1, tyOf, Fr.pur, ofP, m1W, int?, slW, slD, isiW, isTy, kindOk, isD, isW, inStr, nod_ones, T_beq, nod_strs, dep_strs, b2W, sortOk, h1, h2, h3, h]
theorem pd_perm {ps : List (Nat × Nat)} : ∃ qs : List (Nat × Nat), sortD (ps.map pd) = qs.map pd ∧ qs.Perm ps := by
  have hp : (sortD (ps.map pd)).Perm (ps.map pd) := List.mergeSort_perm _ _
  generalize hm : ps.map pd = ms at hp
  generalize sortD ms = ss at hp
  induction hp generalizing ps with
  | nil =>
    cases ps <;> simp [noneW, allD, eqAll, nodAll, depAll, varW, idxW, seqW, cmpW, cmpP, vw, cmpD, eqOk, nod, dep, eqD, truW, truD, b1W, binW, binD, asgT, lenW, srcW, rcv1, tyOf, Fr.pur, ofP, m1W, int?, slW, slD, isiW, isTy, kindOk, isD, isW, inStr, nod_ones, T_beq, nod_strs, dep_strs, b2W] at hm
    exact ⟨[], rfl, .nil⟩
  | cons x _ ih =>
    cases ps with
    | nil => simp [noneW, allD, eqAll, nodAll, depAll, varW, idxW, seqW, cmpW, cmpP, vw, cmpD, eqOk, nod, dep, eqD, truW, truD, b1W, binW, binD, asgT, lenW, srcW, rcv1, tyOf, Fr.pur, ofP, m1W, int?, slW, slD, isiW, isTy, kindOk, isD, isW, inStr, nod_ones, T_beq, nod_strs, dep_strs, b2W] at hm
    | cons p ps =>
      simp [noneW, allD, eqAll, nodAll, depAll, varW, idxW, seqW, cmpW, cmpP, vw, cmpD, eqOk, nod, dep, eqD, truW, truD, b1W, binW, binD, asgT, lenW, srcW, rcv1, tyOf, Fr.pur, ofP, m1W, int?, slW, slD, isiW, isTy, kindOk, isD, isW, inStr, nod_ones, T_beq, nod_strs, dep_strs, b2W] at hm
      obtain ⟨qs, h1, h2⟩ := ih hm.2
      exact ⟨p :: qs, by rw [List.map_cons, ← h1, hm.1], .cons _ h2⟩
  | swap x y l =>
    cases ps with
    | nil => simp [noneW, allD, eqAll, nodAll, depAll, varW, idxW, seqW, cmpW, cmpP, vw, cmpD, eqOk, nod, dep, eqD, truW, truD, b1W, binW, binD, asgT, lenW, srcW, rcv1, tyOf, Fr.pur, ofP, m1W, int?, slW, slD, isiW, isTy, kindOk, isD, isW, inStr, nod_ones, T_beq, nod_strs, dep_strs, b2W] at hm
    | cons p ps =>
      cases ps with
      | nil => simp [noneW, allD, eqAll, nodAll, depAll, varW, idxW, seqW, cmpW, cmpP, vw, cmpD, eqOk, nod, dep, eqD, truW, truD, b1W, binW, binD, asgT, lenW, srcW, rcv1, tyOf, Fr.pur, ofP, m1W, int?, slW, slD, isiW, isTy, kindOk, isD, isW, inStr, nod_ones, T_beq, nod_strs, dep_strs, b2W] at hm
      | cons q ps =>
        simp [noneW, allD, eqAll, nodAll, depAll, varW, idxW, seqW, cmpW, cmpP, vw, cmpD, eqOk, nod, dep, eqD, truW, truD, b1W, binW, binD, asgT, lenW, srcW, rcv1, tyOf, Fr.pur, ofP, m1W, int?, slW, slD, isiW, isTy, kindOk, isD, isW, inStr, nod_ones, T_beq, nod_strs, dep_strs, b2W] at hm
        exact ⟨q :: p :: ps, by simp [noneW, allD, eqAll, nodAll, depAll, varW, idxW, seqW, cmpW, cmpP, vw, cmpD, eqOk, nod, dep, eqD, truW, truD, b1W, binW, binD, asgT, lenW, srcW, rcv1, tyOf, Fr.pur, ofP, m1W, int?, slW, slD, isiW, isTy, kindOk, isD, isW, inStr, nod_ones, T_beq, nod_strs, dep_strs, b2W, hm.1, hm.2.1, hm.2.2], .swap _ _ _⟩
  | trans _ _ ih1 ih2 =>
    obtain ⟨qs, h1, h2⟩ := ih2 hm
    obtain ⟨rs, h3, h4⟩ := ih1 h1.symm
    exact ⟨rs, h3, h4.trans h2⟩
theorem atI_last {α : Type} (xs : List α) (x : α) : FM.atI (xs ++ [x]) (-1) = some x := by
  unfold FM.atI
  rw [if_neg (by omega), if_pos (by simp [noneW, allD, eqAll, nodAll, depAll, varW, idxW, seqW, cmpW, cmpP, vw, cmpD, eqOk, nod, dep, eqD, truW, truD, b1W, binW, binD, asgT, lenW, srcW, rcv1, tyOf, Fr.pur, ofP, m1W, int?, slW, slD, isiW, isTy, kindOk, isD, isW, inStr, nod_ones, T_beq, nod_strs, dep_strs, b2W]; omega)]
  have : (((xs ++ [x]).length : Int) + -1).toNat = xs.length := by
    simp [noneW, allD, eqAll, nodAll, depAll, varW, idxW, seqW, cmpW, cmpP, vw, cmpD, eqOk, nod, dep, eqD, truW, truD, b1W, binW, binD, asgT, lenW, srcW, rcv1, tyOf, Fr.pur, ofP, m1W, int?, slW, slD, isiW, isTy, kindOk, isD, isW, inStr, nod_ones, T_beq, nod_strs, dep_strs, b2W]
    omega
  rw [this]
  simp [noneW, allD, eqAll, nodAll, depAll, varW, idxW, seqW, cmpW, cmpP, vw, cmpD, eqOk, nod, dep, eqD, truW, truD, b1W, binW, binD, asgT, lenW, srcW, rcv1, tyOf, Fr.pur, ofP, m1W, int?, slW, slD, isiW, isTy, kindOk, isD, isW, inStr, nod_ones, T_beq, nod_strs, dep_strs, b2W]
def UnI (qs : List (Nat × Nat)) (v0 : Option W) (st : Sto) (ws : List W) (ρ : FM.Env) (st' : Sto) : Prop := ∃ (l fs : List (Nat × Nat)) (v : Option W), ws = l.map (fun c => .d (pd c)) ∧ ρ = [v0, some (.ref st.length), v] ∧ st' = st ++ [.lst (fs.map fun c => .d (pd c))] ∧ l.length + fs.length ≤ qs.length ∧ ∀ p, (p ∈ fs ∨ p ∈ l) ↔ p ∈ qs
theorem unlike_ok {ps : List (Nat × Nat)} {st : Sto} {j : Nat} (hl : ps.length ≤ 16000000) : ∃ qs : List (Nat × Nat), callD EP R0 (j + 1) "_law_unlike" [.d (.list (ps.map pd))] st = .ok (.d (.list (qs.map pd))) st ∧ qs.length ≤ ps.length ∧ ∀ p, p ∈ qs ↔ p ∈ ps := by
  have hSZ : SZ = 16777216 := rfl
  suffices hq : okR (callD EP R0 (j + 1) "_law_unlike" [.d (.list (ps.map pd))] st) fun w st' => st' = st ∧ ∃ qs : List (Nat × Nat), w = .d (.list (qs.map pd)) ∧ qs.length ≤ ps.length ∧ ∀ p, p ∈ qs ↔ p ∈ ps by
    obtain ⟨w, st', h1, rfl, qs, rfl, h2⟩ := okR_ex hq
    exact ⟨qs, h1, h2⟩
  obtain ⟨ss, hss, hperm⟩ := pd_perm (ps := ps)
  rw [callD_fn (fn := f_law_unlike) rfl _ _ rfl]
  apply exit_pure
  simp only [f_law_unlike, b_law_unlike, entry, evSs, evS, evE, evF, evI, evC, evEs, okO_next, okO_out, okR_bind]
  have hso := pd_sort (ps := ps) (by omega)
  have hal : allD (List.map (W.d ∘ pd) ps) = some (ps.map pd) := allD_mapd pd ps
  have hal2 : allD (List.map (W.d ∘ pd) ss) = some (ss.map pd) := allD_mapd pd ss
  simp [noneW, allD, eqAll, nodAll, depAll, varW, idxW, seqW, cmpW, cmpP, vw, cmpD, eqOk, nod, dep, eqD, truW, truD, b1W, binW, binD, asgT, lenW, srcW, rcv1, tyOf, Fr.pur, ofP, m1W, int?, slW, slD, isiW, isTy, kindOk, isD, isW, inStr, nod_ones, T_beq, nod_strs, dep_strs, b2W, hSZ, lstW, hso, hss, hal, hal2]
  refine okO_imp (for_inv (Rt := fun w st' => False) (UnI ss (some (.d (.list (ps.map pd)))) st) _ _ _ ?_ ?_) ?_ ?_
  · exact ⟨ss, [], none, by simp [noneW, allD, eqAll, nodAll, depAll, varW, idxW, seqW, cmpW, cmpP, vw, cmpD, eqOk, nod, dep, eqD, truW, truD, b1W, binW, binD, asgT, lenW, srcW, rcv1, tyOf, Fr.pur, ofP, m1W, int?, slW, slD, isiW, isTy, kindOk, isD, isW, inStr, nod_ones, T_beq, nod_strs, dep_strs, b2W, Function.comp_def], rfl, rfl, by simp [noneW, allD, eqAll, nodAll, depAll, varW, idxW, seqW, cmpW, cmpP, vw, cmpD, eqOk, nod, dep, eqD, truW, truD, b1W, binW, binD, asgT, lenW, srcW, rcv1, tyOf, Fr.pur, ofP, m1W, int?, slW, slD, isiW, isTy, kindOk, isD, isW, inStr, nod_ones, T_beq, nod_strs, dep_strs, b2W], by simp [noneW, allD, eqAll, nodAll, depAll, varW, idxW, seqW, cmpW, cmpP, vw, cmpD, eqOk, nod, dep, eqD, truW, truD, b1W, binW, binD, asgT, lenW, srcW, rcv1, tyOf, Fr.pur, ofP, m1W, int?, slW, slD, isiW, isTy, kindOk, isD, isW, inStr, nod_ones, T_beq, nod_strs, dep_strs, b2W]⟩
  · rintro w r ρ st' ⟨l, fs, v, h1, rfl, rfl, h4, h5⟩
    cases l with
    | nil => simp [noneW, allD, eqAll, nodAll, depAll, varW, idxW, seqW, cmpW, cmpP, vw, cmpD, eqOk, nod, dep, eqD, truW, truD, b1W, binW, binD, asgT, lenW, srcW, rcv1, tyOf, Fr.pur, ofP, m1W, int?, slW, slD, isiW, isTy, kindOk, isD, isW, inStr, nod_ones, T_beq, nod_strs, dep_strs, b2W] at h1
    | cons c l =>
      simp [noneW, allD, eqAll, nodAll, depAll, varW, idxW, seqW, cmpW, cmpP, vw, cmpD, eqOk, nod, dep, eqD, truW, truD, b1W, binW, binD, asgT, lenW, srcW, rcv1, tyOf, Fr.pur, ofP, m1W, int?, slW, slD, isiW, isTy, kindOk, isD, isW, inStr, nod_ones, T_beq, nod_strs, dep_strs, b2W] at h1
      obtain ⟨rfl, rfl⟩ := h1
      have hl2 : ss.length = ps.length := hperm.length_eq
      have hsl : (allD (fs.map fun c => W.d (pd c))) = some (fs.map pd) := allD_mapd pd fs
      rcases List.eq_nil_or_concat fs with rfl | ⟨gs, g, rfl⟩
      · simp [noneW, allD, eqAll, nodAll, depAll, varW, idxW, seqW, cmpW, cmpP, vw, cmpD, eqOk, nod, dep, eqD, truW, truD, b1W, binW, binD, asgT, lenW, srcW, rcv1, tyOf, Fr.pur, ofP, m1W, int?, slW, slD, isiW, isTy, kindOk, isD, isW, inStr, nod_ones, T_beq, nod_strs, dep_strs, b2W, still, hSZ]
        refine ⟨l, [c], _, rfl, rfl, by simp [noneW, allD, eqAll, nodAll, depAll, varW, idxW, seqW, cmpW, cmpP, vw, cmpD, eqOk, nod, dep, eqD, truW, truD, b1W, binW, binD, asgT, lenW, srcW, rcv1, tyOf, Fr.pur, ofP, m1W, int?, slW, slD, isiW, isTy, kindOk, isD, isW, inStr, nod_ones, T_beq, nod_strs, dep_strs, b2W], by simpa [noneW, allD, eqAll, nodAll, depAll, varW, idxW, seqW, cmpW, cmpP, vw, cmpD, eqOk, nod, dep, eqD, truW, truD, b1W, binW, binD, asgT, lenW, srcW, rcv1, tyOf, Fr.pur, ofP, m1W, int?, slW, slD, isiW, isTy, kindOk, isD, isW, inStr, nod_ones, T_beq, nod_strs, dep_strs, b2W] using h4, fun p => ?_⟩
        rw [← h5 p]
        simp [noneW, allD, eqAll, nodAll, depAll, varW, idxW, seqW, cmpW, cmpP, vw, cmpD, eqOk, nod, dep, eqD, truW, truD, b1W, binW, binD, asgT, lenW, srcW, rcv1, tyOf, Fr.pur, ofP, m1W, int?, slW, slD, isiW, isTy, kindOk, isD, isW, inStr, nod_ones, T_beq, nod_strs, dep_strs, b2W]
      · have h6 : FM.atI (List.map (fun c => W.d (pd c)) gs ++ [W.d (pd g)]) (-1) = some (.d (pd g)) := atI_last _ _
        have h7 : nodAll (gs.map pd ++ [pd g]) = true ∧ depAll (gs.map pd ++ [pd g]) = 1 := by
          clear h4 h5 h6 hsl
          induction gs with
          | nil => simp [noneW, allD, eqAll, nodAll, depAll, varW, idxW, seqW, cmpW, cmpP, vw, cmpD, eqOk, nod, dep, eqD, truW, truD, b1W, binW, binD, asgT, lenW, srcW, rcv1, tyOf, Fr.pur, ofP, m1W, int?, slW, slD, isiW, isTy, kindOk, isD, isW, inStr, nod_ones, T_beq, nod_strs, dep_strs, b2W, pd_nod]
          | cons x gs ih => simp [noneW, allD, eqAll, nodAll, depAll, varW, idxW, seqW, cmpW, cmpP, vw, cmpD, eqOk, nod, dep, eqD, truW, truD, b1W, binW, binD, asgT, lenW, srcW, rcv1, tyOf, Fr.pur, ofP, m1W, int?, slW, slD, isiW, isTy, kindOk, isD, isW, inStr, nod_ones, T_beq, nod_strs, dep_strs, b2W, pd_nod, ih]
        simp [noneW, allD, eqAll, nodAll, depAll, varW, idxW, seqW, cmpW, cmpP, vw, cmpD, eqOk, nod, dep, eqD, truW, truD, b1W, binW, binD, asgT, lenW, srcW, rcv1, tyOf, Fr.pur, ofP, m1W, int?, slW, slD, isiW, isTy, kindOk, isD, isW, inStr, nod_ones, T_beq, nod_strs, dep_strs, b2W] at h4 hsl
        have h8 : eqAll (gs.map pd ++ [pd g]) [] = false := by cases gs <;> simp [noneW, allD, eqAll, nodAll, depAll, varW, idxW, seqW, cmpW, cmpP, vw, cmpD, eqOk, nod, dep, eqD, truW, truD, b1W, binW, binD, asgT, lenW, srcW, rcv1, tyOf, Fr.pur, ofP, m1W, int?, slW, slD, isiW, isTy, kindOk, isD, isW, inStr, nod_ones, T_beq, nod_strs, dep_strs, b2W]
        simp [noneW, allD, eqAll, nodAll, depAll, varW, idxW, seqW, cmpW, cmpP, vw, cmpD, eqOk, nod, dep, eqD, truW, truD, b1W, binW, binD, asgT, lenW, srcW, rcv1, tyOf, Fr.pur, ofP, m1W, int?, slW, slD, isiW, isTy, kindOk, isD, isW, inStr, nod_ones, T_beq, nod_strs, dep_strs, b2W, hsl, h6, h7, h8, pd_nod, pd_eq, still]
        by_cases hg : g = c
        · subst hg
          simp [noneW, allD, eqAll, nodAll, depAll, varW, idxW, seqW, cmpW, cmpP, vw, cmpD, eqOk, nod, dep, eqD, truW, truD, b1W, binW, binD, asgT, lenW, srcW, rcv1, tyOf, Fr.pur, ofP, m1W, int?, slW, slD, isiW, isTy, kindOk, isD, isW, inStr, nod_ones, T_beq, nod_strs, dep_strs, b2W]
          refine ⟨l, gs ++ [g], _, rfl, rfl, by simp [noneW, allD, eqAll, nodAll, depAll, varW, idxW, seqW, cmpW, cmpP, vw, cmpD, eqOk, nod, dep, eqD, truW, truD, b1W, binW, binD, asgT, lenW, srcW, rcv1, tyOf, Fr.pur, ofP, m1W, int?, slW, slD, isiW, isTy, kindOk, isD, isW, inStr, nod_ones, T_beq, nod_strs, dep_strs, b2W], by simp [noneW, allD, eqAll, nodAll, depAll, varW, idxW, seqW, cmpW, cmpP, vw, cmpD, eqOk, nod, dep, eqD, truW, truD, b1W, binW, binD, asgT, lenW, srcW, rcv1, tyOf, Fr.pur, ofP, m1W, int?, slW, slD, isiW, isTy, kindOk, isD, isW, inStr, nod_ones, T_beq, nod_strs, dep_strs, b2W]; omega, fun p => ?_⟩
          rw [← h5 p]
          simp [noneW, allD, eqAll, nodAll, depAll, varW, idxW, seqW, cmpW, cmpP, vw, cmpD, eqOk, nod, dep, eqD, truW, truD, b1W, binW, binD, asgT, lenW, srcW, rcv1, tyOf, Fr.pur, ofP, m1W, int?, slW, slD, isiW, isTy, kindOk, isD, isW, inStr, nod_ones, T_beq, nod_strs, dep_strs, b2W]
          exact ⟨fun h => by rcases h with (h | h) | h <;> simp [noneW, allD, eqAll, nodAll, depAll, varW, idxW, seqW, cmpW, cmpP, vw, cmpD, eqOk, nod, dep, eqD, truW, truD, b1W, binW, binD, asgT, lenW, srcW, rcv1, tyOf, Fr.pur, ofP, m1W, int?, slW, slD, isiW, isTy, kindOk, isD, isW, inStr, nod_ones, T_beq, nod_strs, dep_strs, b2W, h], fun h => by rcases h with (h | h) | h | h <;> simp [noneW, allD, eqAll, nodAll, depAll, varW, idxW, seqW, cmpW, cmpP, vw, cmpD, eqOk, nod, dep, eqD, truW, truD, b1W, binW, binD, asgT, lenW, srcW, rcv1, tyOf, Fr.pur, ofP, m1W, int?, slW, slD, isiW, isTy, kindOk, isD, isW, inStr, nod_ones, T_beq, nod_strs, dep_strs, b2W, h]⟩
        · simp [noneW, allD, eqAll, nodAll, depAll, varW, idxW, seqW, cmpW, cmpP, vw, cmpD, eqOk, nod, dep, eqD, truW, truD, b1W, binW, binD, asgT, lenW, srcW, rcv1, tyOf, Fr.pur, ofP, m1W, int?, slW, slD, isiW, isTy, kindOk, isD, isW, inStr, nod_ones, T_beq, nod_strs, dep_strs, b2W, hg, hSZ, show gs.length + 1 < 16777216 by omega]
          refine ⟨l, gs ++ [g] ++ [c], some (.d (pd c)), rfl, rfl, by simp [noneW, allD, eqAll, nodAll, depAll, varW, idxW, seqW, cmpW, cmpP, vw, cmpD, eqOk, nod, dep, eqD, truW, truD, b1W, binW, binD, asgT, lenW, srcW, rcv1, tyOf, Fr.pur, ofP, m1W, int?, slW, slD, isiW, isTy, kindOk, isD, isW, inStr, nod_ones, T_beq, nod_strs, dep_strs, b2W], by simp [noneW, allD, eqAll, nodAll, depAll, varW, idxW, seqW, cmpW, cmpP, vw, cmpD, eqOk, nod, dep, eqD, truW, truD, b1W, binW, binD, asgT, lenW, srcW, rcv1, tyOf, Fr.pur, ofP, m1W, int?, slW, slD, isiW, isTy, kindOk, isD, isW, inStr, nod_ones, T_beq, nod_strs, dep_strs, b2W]; omega, fun p => ?_⟩
          rw [← h5 p]
          simp [noneW, allD, eqAll, nodAll, depAll, varW, idxW, seqW, cmpW, cmpP, vw, cmpD, eqOk, nod, dep, eqD, truW, truD, b1W, binW, binD, asgT, lenW, srcW, rcv1, tyOf, Fr.pur, ofP, m1W, int?, slW, slD, isiW, isTy, kindOk, isD, isW, inStr, nod_ones, T_beq, nod_strs, dep_strs, b2W, or_assoc, or_comm, or_left_comm]
  · rintro ρ st' ⟨l, fs, v, h1, rfl, rfl, h4, h5⟩
    simp [noneW, allD, eqAll, nodAll, depAll, varW, idxW, seqW, cmpW, cmpP, vw, cmpD, eqOk, nod, dep, eqD, truW, truD, b1W, binW, binD, asgT, lenW, srcW, rcv1, tyOf, Fr.pur, ofP, m1W, int?, slW, slD, isiW, isTy, kindOk, isD, isW, inStr, nod_ones, T_beq, nod_strs, dep_strs, b2W] at h1
    subst h1
    have hsl : (allD (fs.map fun c => W.d (pd c))) = some (fs.map pd) := allD_mapd pd fs
    simp [noneW, allD, eqAll, nodAll, depAll, varW, idxW, seqW, cmpW, cmpP, vw, cmpD, eqOk, nod, dep, eqD, truW, truD, b1W, binW, binD, asgT, lenW, srcW, rcv1, tyOf, Fr.pur, ofP, m1W, int?, slW, slD, isiW, isTy, kindOk, isD, isW, inStr, nod_ones, T_beq, nod_strs, dep_strs, b2W, frzW, hsl]
    have hl2 : ss.length = ps.length := hperm.length_eq
    refine ⟨fs, rfl, by simp [noneW, allD, eqAll, nodAll, depAll, varW, idxW, seqW, cmpW, cmpP, vw, cmpD, eqOk, nod, dep, eqD, truW, truD, b1W, binW, binD, asgT, lenW, srcW, rcv1, tyOf, Fr.pur, ofP, m1W, int?, slW, slD, isiW, isTy, kindOk, isD, isW, inStr, nod_ones, T_beq, nod_strs, dep_strs, b2W] at h4; omega, fun a b => ?_⟩
    rw [← hperm.mem_iff, ← h5 (a, b)]
    simp [noneW, allD, eqAll, nodAll, depAll, varW, idxW, seqW, cmpW, cmpP, vw, cmpD, eqOk, nod, dep, eqD, truW, truD, b1W, binW, binD, asgT, lenW, srcW, rcv1, tyOf, Fr.pur, ofP, m1W, int?, slW, slD, isiW, isTy, kindOk, isD, isW, inStr, nod_ones, T_beq, nod_strs, dep_strs, b2W]
  · intro _ _ h
    exact h.elim
end HT
end

section
set_option Elab.async false
set_option linter.all false
set_option maxRecDepth 100000
set_option autoImplicit false
set_option maxHeartbeats 4000000
namespace HT
open PySem FM
theorem cutW1 (n : Nat) : cutWhole (n + 1) (some 1) none = false := by
  simp [noneW, allD, eqAll, nodAll, depAll, varW, idxW, seqW, cmpW, cmpP, vw, cmpD, eqOk, nod, dep, eqD, truW, truD, b1W, binW, binD, lenW, srcW, rcv1, tyOf, Fr.pur, ofP, m1W, int?, slW, slD, isiW, isTy, kindOk, isD, isW, inStr, nod_ones, T_beq, nod_strs, dep_strs, b2W, eq_nil, cutWhole, sIdx]
@[local simp] theorem asg_v (i : Nat) (w : W) (ρ : FM.Env) : asgT (.v i) w ρ = some (ρ.set i (some w)) := rfl
theorem asg_pd (i k : Nat) (p : Nat × Nat) (ρ : FM.Env) : asgT (.t [.v i, .v k]) (.d (pd p)) ρ = some ((ρ.set i (some (.d (.int p.1)))).set k (some (.d (.int p.2)))) := rfl
theorem atI0 {α : Type} (x : α) (xs : List α) : FM.atI (x :: xs) 0 = some x := rfl
theorem atI1 {α : Type} (x y : α) (xs : List α) : FM.atI (x :: y :: xs) 1 = some y := rfl
theorem lc_pd {γ : Type} {step : W → Sto → Res (Option γ)} {st : Sto} (g : Nat × Nat → γ) : ∀ l : List (Nat × Nat), (∀ c ∈ l, step (.d (pd c)) st = .ok (some (g c)) st) → lcL none step (l.map fun c => W.d (pd c)) st = .ok (l.map g) st := fun l h => by
  induction l with
  | nil => rfl
  | cons c l ih =>
    simp only [List.map_cons, lcL, h c List.mem_cons_self, still, if_true, ih fun u hu => h u (List.mem_cons_of_mem _ hu)]
theorem wl (ρ : FM.Env) : (wip ρ [3, 4]).length = ρ.length := by simp [noneW, allD, eqAll, nodAll, depAll, varW, idxW, seqW, cmpW, cmpP, vw, cmpD, eqOk, nod, dep, eqD, truW, truD, b1W, binW, binD, lenW, srcW, rcv1, tyOf, Fr.pur, ofP, m1W, int?, slW, slD, isiW, isTy, kindOk, isD, isW, inStr, nod_ones, T_beq, nod_strs, dep_strs, b2W, eq_nil, wip]
theorem at3 {ρ : FM.Env} (h : ρ.length = 5) (u v : Option W) : (((wip ρ [3, 4]).set 3 u).set 4 v)[3]? = some u := by
  rw [List.getElem?_set_ne (by omega), List.getElem?_set_self (by rw [wl]; omega)]
theorem at4 {ρ : FM.Env} (h : ρ.length = 5) (u v : Option W) : (((wip ρ [3, 4]).set 3 u).set 4 v)[4]? = some v := by
  rw [List.getElem?_set_self (by rw [List.length_set, wl]; omega)]
theorem ways_lc {Φ : FM.Call} {e : FM.E} {ρ : FM.Env} {st : Sto} {ps : List (Nat × Nat)} (e1 e2 : FM.E) (d1 d2 : Nat) (hρ : ρ.length = 5) (he : evE EP R0 Φ e ρ st = .ok (.d (.list (ps.map pd))) st) (hl : ps.length ≤ 16777216)
    (h1 : ∀ (ρ' : FM.Env) (p : Nat × Nat), ρ'[3]? = some (some (.d (.int p.1))) → evE EP R0 Φ e1 ρ' st = .ok (.d (.int ((p.1 + d1 : Nat) : Int))) st) (h2 : ∀ (ρ' : FM.Env) (p : Nat × Nat), ρ'[4]? = some (some (.d (.int p.2))) → evE EP R0 Φ e2 ρ' st = .ok (.d (.int ((p.2 + d2 : Nat) : Int))) st) :
    evE EP R0 Φ (.pur (.lc [3, 4] (.t [.v 3, .v 4]) (.e e) (.no) (.tup (.cons e1 (.cons e2 (.nil)))))) ρ st = .ok (.d (.list ((ps.map fun p => (p.1 + d1, p.2 + d2)).map pd))) st := by
  have hSZ : SZ = 16777216 := rfl
  rw [evE, evF, evI, he]
  have hx : srcW st (.d (.list (ps.map pd))) = some (ps.map fun c => W.d (pd c), none) := by simp [noneW, allD, eqAll, nodAll, depAll, varW, idxW, seqW, cmpW, cmpP, vw, cmpD, eqOk, nod, dep, eqD, truW, truD, b1W, binW, binD, lenW, srcW, rcv1, tyOf, Fr.pur, ofP, m1W, int?, slW, slD, isiW, isTy, kindOk, isD, isW, inStr, nod_ones, T_beq, nod_strs, dep_strs, b2W, eq_nil, Function.comp_def]
  simp only [Res.bind_ok, hx, Res.of_some]
  rw [if_neg (by simp [noneW, allD, eqAll, nodAll, depAll, varW, idxW, seqW, cmpW, cmpP, vw, cmpD, eqOk, nod, dep, eqD, truW, truD, b1W, binW, binD, lenW, srcW, rcv1, tyOf, Fr.pur, ofP, m1W, int?, slW, slD, isiW, isTy, kindOk, isD, isW, inStr, nod_ones, T_beq, nod_strs, dep_strs, b2W, eq_nil]; omega), lc_pd (fun p => .d (pd (p.1 + d1, p.2 + d2)))]
  · have : allD (ps.map fun p => W.d (pd (p.1 + d1, p.2 + d2))) = some ((ps.map fun p => (p.1 + d1, p.2 + d2)).map pd) := by
      rw [List.map_map]
      exact allD_mapd (fun p => pd (p.1 + d1, p.2 + d2)) ps
    simp [noneW, allD, eqAll, nodAll, depAll, varW, idxW, seqW, cmpW, cmpP, vw, cmpD, eqOk, nod, dep, eqD, truW, truD, b1W, binW, binD, lenW, srcW, rcv1, tyOf, Fr.pur, ofP, m1W, int?, slW, slD, isiW, isTy, kindOk, isD, isW, inStr, nod_ones, T_beq, nod_strs, dep_strs, b2W, eq_nil, this]
  · intro p hp
    have a1 := h1 _ p (at3 hρ (some (.d (.int p.1))) (some (.d (.int p.2))))
    have a2 := h2 _ p (at4 hρ (some (.d (.int p.1))) (some (.d (.int p.2))))
    simp only [asg_pd, evCs, Res.bind_ok, if_true, evE, evEs, a1, a2]
    simp [noneW, allD, eqAll, nodAll, depAll, varW, idxW, seqW, cmpW, cmpP, vw, cmpD, eqOk, nod, dep, eqD, truW, truD, b1W, binW, binD, lenW, srcW, rcv1, tyOf, Fr.pur, ofP, m1W, int?, slW, slD, isiW, isTy, kindOk, isD, isW, inStr, nod_ones, T_beq, nod_strs, dep_strs, b2W, eq_nil, hSZ, pd]
theorem pow_bd : ∀ n, n ≤ 18 → 5 ^ n ≤ 16000000 * 2 ^ n := by decide
theorem ways_ok : ∀ (n : Nat) (s l : List (List Nat)), s.length + l.length ≤ n → n ≤ 18 → (∀ w ∈ s, w ≠ [] ∧ w.length ≤ 1000) → (∀ w ∈ l, w ≠ [] ∧ w.length ≤ 1000) → ∀ (st : Sto) (j : Nat), ∃ ps : List (Nat × Nat), callD EP R0 (j + n + 2) "_law_ways" [.d (.tuple (s.map dStr)), .d (.tuple (l.map dStr))] st = .ok (.d (.list (ps.map pd))) st ∧
    2 ^ (s.length + l.length) * ps.length ≤ 5 ^ (s.length + l.length) ∧ ((∃ p ∈ ps, p.1 = 0) ↔ Emb s l) ∧ ((∃ p ∈ ps, p.2 = 0) ↔ Emb l s) := by
  have hSZ : SZ = 16777216 := rfl
  intro n
  induction n with
  | zero =>
    intro s l hn _ hs hl st j
    have e1 : s = [] := by cases s <;> simp [noneW, allD, eqAll, nodAll, depAll, varW, idxW, seqW, cmpW, cmpP, vw, cmpD, eqOk, nod, dep, eqD, truW, truD, b1W, binW, binD, lenW, srcW, rcv1, tyOf, Fr.pur, ofP, m1W, int?, slW, slD, isiW, isTy, kindOk, isD, isW, inStr, nod_ones, T_beq, nod_strs, dep_strs, b2W, eq_nil] at hn ⊢
    have e2 : l = [] := by cases l <;> simp [noneW, allD, eqAll, nodAll, depAll, varW, idxW, seqW, cmpW, cmpP, vw, cmpD, eqOk, nod, dep, eqD, truW, truD, b1W, binW, binD, lenW, srcW, rcv1, tyOf, Fr.pur, ofP, m1W, int?, slW, slD, isiW, isTy, kindOk, isD, isW, inStr, nod_ones, T_beq, nod_strs, dep_strs, b2W, eq_nil] at hn ⊢
    subst e1 e2
    refine ⟨[(0, 0)], ?_, by simp [noneW, allD, eqAll, nodAll, depAll, varW, idxW, seqW, cmpW, cmpP, vw, cmpD, eqOk, nod, dep, eqD, truW, truD, b1W, binW, binD, lenW, srcW, rcv1, tyOf, Fr.pur, ofP, m1W, int?, slW, slD, isiW, isTy, kindOk, isD, isW, inStr, nod_ones, T_beq, nod_strs, dep_strs, b2W, eq_nil], ⟨fun _ => .nil _, fun _ => by simp [noneW, allD, eqAll, nodAll, depAll, varW, idxW, seqW, cmpW, cmpP, vw, cmpD, eqOk, nod, dep, eqD, truW, truD, b1W, binW, binD, lenW, srcW, rcv1, tyOf, Fr.pur, ofP, m1W, int?, slW, slD, isiW, isTy, kindOk, isD, isW, inStr, nod_ones, T_beq, nod_strs, dep_strs, b2W, eq_nil]⟩, ⟨fun _ => .nil _, fun _ => by simp [noneW, allD, eqAll, nodAll, depAll, varW, idxW, seqW, cmpW, cmpP, vw, cmpD, eqOk, nod, dep, eqD, truW, truD, b1W, binW, binD, lenW, srcW, rcv1, tyOf, Fr.pur, ofP, m1W, int?, slW, slD, isiW, isTy, kindOk, isD, isW, inStr, nod_ones, T_beq, nod_strs, dep_strs, b2W, eq_nil]⟩⟩
    rw [callD_fn (fn := f_law_ways) rfl _ _ rfl]
    simp only [f_law_ways, b_law_ways, entry, evSs, evS, evC, evE, evEs, evF]
    simp [noneW, allD, eqAll, nodAll, depAll, varW, idxW, seqW, cmpW, cmpP, vw, cmpD, eqOk, nod, dep, eqD, truW, truD, b1W, binW, binD, lenW, srcW, rcv1, tyOf, Fr.pur, ofP, m1W, int?, slW, slD, isiW, isTy, kindOk, isD, isW, inStr, nod_ones, T_beq, nod_strs, dep_strs, b2W, eq_nil, hSZ, pd]
  | succ n ih =>
    intro s l hn hn2 hs hl st j
    have hs0 : s.length ≤ 18 := by omega
    have hl0 : l.length ≤ 18 := by omega
    cases s with
    | nil =>
      refine ⟨[(0, l.length)], ?_, ?_, ⟨fun _ => .nil _, fun _ => by simp [noneW, allD, eqAll, nodAll, depAll, varW, idxW, seqW, cmpW, cmpP, vw, cmpD, eqOk, nod, dep, eqD, truW, truD, b1W, binW, binD, lenW, srcW, rcv1, tyOf, Fr.pur, ofP, m1W, int?, slW, slD, isiW, isTy, kindOk, isD, isW, inStr, nod_ones, T_beq, nod_strs, dep_strs, b2W, eq_nil]⟩, ⟨fun h => ?_, fun h => ?_⟩⟩
      · rw [callD_fn (fn := f_law_ways) rfl _ _ rfl]
        simp only [f_law_ways, b_law_ways, entry, evSs, evS, evC, evE, evEs, evF]
        simp [noneW, allD, eqAll, nodAll, depAll, varW, idxW, seqW, cmpW, cmpP, vw, cmpD, eqOk, nod, dep, eqD, truW, truD, b1W, binW, binD, lenW, srcW, rcv1, tyOf, Fr.pur, ofP, m1W, int?, slW, slD, isiW, isTy, kindOk, isD, isW, inStr, nod_ones, T_beq, nod_strs, dep_strs, b2W, eq_nil, hSZ, pd]
      · simp [noneW, allD, eqAll, nodAll, depAll, varW, idxW, seqW, cmpW, cmpP, vw, cmpD, eqOk, nod, dep, eqD, truW, truD, b1W, binW, binD, lenW, srcW, rcv1, tyOf, Fr.pur, ofP, m1W, int?, slW, slD, isiW, isTy, kindOk, isD, isW, inStr, nod_ones, T_beq, nod_strs, dep_strs, b2W, eq_nil]
        exact Nat.pow_le_pow_left (by omega) _
      · have : l = [] := by cases l <;> simp [noneW, allD, eqAll, nodAll, depAll, varW, idxW, seqW, cmpW, cmpP, vw, cmpD, eqOk, nod, dep, eqD, truW, truD, b1W, binW, binD, lenW, srcW, rcv1, tyOf, Fr.pur, ofP, m1W, int?, slW, slD, isiW, isTy, kindOk, isD, isW, inStr, nod_ones, T_beq, nod_strs, dep_strs, b2W, eq_nil] at h ⊢
        subst this
        exact .nil _
      · have := h.le
        have : l = [] := by cases l <;> simp [noneW, allD, eqAll, nodAll, depAll, varW, idxW, seqW, cmpW, cmpP, vw, cmpD, eqOk, nod, dep, eqD, truW, truD, b1W, binW, binD, lenW, srcW, rcv1, tyOf, Fr.pur, ofP, m1W, int?, slW, slD, isiW, isTy, kindOk, isD, isW, inStr, nod_ones, T_beq, nod_strs, dep_strs, b2W, eq_nil] at this ⊢
        subst this
        simp [noneW, allD, eqAll, nodAll, depAll, varW, idxW, seqW, cmpW, cmpP, vw, cmpD, eqOk, nod, dep, eqD, truW, truD, b1W, binW, binD, lenW, srcW, rcv1, tyOf, Fr.pur, ofP, m1W, int?, slW, slD, isiW, isTy, kindOk, isD, isW, inStr, nod_ones, T_beq, nod_strs, dep_strs, b2W, eq_nil]
    | cons a s =>
      cases l with
      | nil =>
        refine ⟨[(s.length + 1, 0)], ?_, ?_, ⟨fun h => by simp [noneW, allD, eqAll, nodAll, depAll, varW, idxW, seqW, cmpW, cmpP, vw, cmpD, eqOk, nod, dep, eqD, truW, truD, b1W, binW, binD, lenW, srcW, rcv1, tyOf, Fr.pur, ofP, m1W, int?, slW, slD, isiW, isTy, kindOk, isD, isW, inStr, nod_ones, T_beq, nod_strs, dep_strs, b2W, eq_nil] at h, fun h => by cases h⟩, ⟨fun h => .nil _, fun h => by simp [noneW, allD, eqAll, nodAll, depAll, varW, idxW, seqW, cmpW, cmpP, vw, cmpD, eqOk, nod, dep, eqD, truW, truD, b1W, binW, binD, lenW, srcW, rcv1, tyOf, Fr.pur, ofP, m1W, int?, slW, slD, isiW, isTy, kindOk, isD, isW, inStr, nod_ones, T_beq, nod_strs, dep_strs, b2W, eq_nil]⟩⟩
        · rw [callD_fn (fn := f_law_ways) rfl _ _ rfl]
          simp only [f_law_ways, b_law_ways, entry, evSs, evS, evC, evE, evEs, evF]
          simp [noneW, allD, eqAll, nodAll, depAll, varW, idxW, seqW, cmpW, cmpP, vw, cmpD, eqOk, nod, dep, eqD, truW, truD, b1W, binW, binD, lenW, srcW, rcv1, tyOf, Fr.pur, ofP, m1W, int?, slW, slD, isiW, isTy, kindOk, isD, isW, inStr, nod_ones, T_beq, nod_strs, dep_strs, b2W, eq_nil, hSZ, pd]
        · simp [noneW, allD, eqAll, nodAll, depAll, varW, idxW, seqW, cmpW, cmpP, vw, cmpD, eqOk, nod, dep, eqD, truW, truD, b1W, binW, binD, lenW, srcW, rcv1, tyOf, Fr.pur, ofP, m1W, int?, slW, slD, isiW, isTy, kindOk, isD, isW, inStr, nod_ones, T_beq, nod_strs, dep_strs, b2W, eq_nil]
          exact Nat.pow_le_pow_left (by omega) _
      | cons b l =>
        simp [noneW, allD, eqAll, nodAll, depAll, varW, idxW, seqW, cmpW, cmpP, vw, cmpD, eqOk, nod, dep, eqD, truW, truD, b1W, binW, binD, lenW, srcW, rcv1, tyOf, Fr.pur, ofP, m1W, int?, slW, slD, isiW, isTy, kindOk, isD, isW, inStr, nod_ones, T_beq, nod_strs, dep_strs, b2W, eq_nil] at hn hs0 hl0
        obtain ⟨a1, a2⟩ := hs a (by simp [noneW, allD, eqAll, nodAll, depAll, varW, idxW, seqW, cmpW, cmpP, vw, cmpD, eqOk, nod, dep, eqD, truW, truD, b1W, binW, binD, lenW, srcW, rcv1, tyOf, Fr.pur, ofP, m1W, int?, slW, slD, isiW, isTy, kindOk, isD, isW, inStr, nod_ones, T_beq, nod_strs, dep_strs, b2W, eq_nil])
        obtain ⟨b1, b2⟩ := hl b (by simp [noneW, allD, eqAll, nodAll, depAll, varW, idxW, seqW, cmpW, cmpP, vw, cmpD, eqOk, nod, dep, eqD, truW, truD, b1W, binW, binD, lenW, srcW, rcv1, tyOf, Fr.pur, ofP, m1W, int?, slW, slD, isiW, isTy, kindOk, isD, isW, inStr, nod_ones, T_beq, nod_strs, dep_strs, b2W, eq_nil])
        have hs' : ∀ w ∈ s, w ≠ [] ∧ w.length ≤ 1000 := fun w hw => hs w (List.mem_cons_of_mem _ hw)
        have hl' : ∀ w ∈ l, w ≠ [] ∧ w.length ≤ 1000 := fun w hw => hl w (List.mem_cons_of_mem _ hw)
        obtain ⟨p1, c1, z1, f1, g1⟩ := ih s (b :: l) (by simp [noneW, allD, eqAll, nodAll, depAll, varW, idxW, seqW, cmpW, cmpP, vw, cmpD, eqOk, nod, dep, eqD, truW, truD, b1W, binW, binD, lenW, srcW, rcv1, tyOf, Fr.pur, ofP, m1W, int?, slW, slD, isiW, isTy, kindOk, isD, isW, inStr, nod_ones, T_beq, nod_strs, dep_strs, b2W, eq_nil]; omega) (by omega) hs' hl st j
        obtain ⟨p2, c2, z2, f2, g2⟩ := ih (a :: s) l (by simp [noneW, allD, eqAll, nodAll, depAll, varW, idxW, seqW, cmpW, cmpP, vw, cmpD, eqOk, nod, dep, eqD, truW, truD, b1W, binW, binD, lenW, srcW, rcv1, tyOf, Fr.pur, ofP, m1W, int?, slW, slD, isiW, isTy, kindOk, isD, isW, inStr, nod_ones, T_beq, nod_strs, dep_strs, b2W, eq_nil]; omega) (by omega) hs hl' st j
        obtain ⟨p3, c3, z3, f3, g3⟩ := ih s l (by omega) (by omega) hs' hl' st j
        have hp := law_pair_ok (st := st) (j := j + n + 1) a1 b1 a2 b2
        simp [noneW, allD, eqAll, nodAll, depAll, varW, idxW, seqW, cmpW, cmpP, vw, cmpD, eqOk, nod, dep, eqD, truW, truD, b1W, binW, binD, lenW, srcW, rcv1, tyOf, Fr.pur, ofP, m1W, int?, slW, slD, isiW, isTy, kindOk, isD, isW, inStr, nod_ones, T_beq, nod_strs, dep_strs, b2W, eq_nil] at z1 z2 c1 c2
        have y : ∃ p3' : List (Nat × Nat), p3' = (if pairP a b then p3 else []) := ⟨_, rfl⟩
        obtain ⟨p4, hp4⟩ := y
        have z4 : 2 ^ (s.length + l.length) * p4.length ≤ 5 ^ (s.length + l.length) := by
          rw [hp4]
          split
          · exact z3
          · simp [noneW, allD, eqAll, nodAll, depAll, varW, idxW, seqW, cmpW, cmpP, vw, cmpD, eqOk, nod, dep, eqD, truW, truD, b1W, binW, binD, lenW, srcW, rcv1, tyOf, Fr.pur, ofP, m1W, int?, slW, slD, isiW, isTy, kindOk, isD, isW, inStr, nod_ones, T_beq, nod_strs, dep_strs, b2W, eq_nil]
        have tot : 2 ^ (s.length + 1 + (l.length + 1)) * (p1.length + p2.length + p4.length) ≤ 5 ^ (s.length + 1 + (l.length + 1)) := by
          have e1 : s.length + 1 + (l.length + 1) = s.length + l.length + 2 := by omega
          have e2 : s.length + (l.length + 1) = s.length + l.length + 1 := by omega
          have e3 : s.length + 1 + l.length = s.length + l.length + 1 := by omega
          rw [e2] at z1
          rw [e3] at z2
          rw [e1]
          generalize s.length + l.length = k at *
          rw [Nat.pow_succ 2 (k + 1), Nat.pow_succ 5 (k + 1), Nat.pow_succ 5 k] at *
          rw [Nat.pow_succ 2 k] at *
          generalize 2 ^ k = A at *
          generalize 5 ^ k = B at *
          rw [Nat.mul_add, Nat.mul_add]
          have q1 : A * 2 * 2 * p1.length = 2 * (A * 2 * p1.length) := by rw [Nat.mul_comm (A * 2) 2, Nat.mul_assoc]
          have q2 : A * 2 * 2 * p2.length = 2 * (A * 2 * p2.length) := by rw [Nat.mul_comm (A * 2) 2, Nat.mul_assoc]
          have q4 : A * 2 * 2 * p4.length = 4 * (A * p4.length) := by rw [Nat.mul_assoc A 2 2, Nat.mul_comm A 4, Nat.mul_assoc]
          rw [q1, q2, q4]
          omega
        have tl : p1.length + p2.length + p4.length ≤ 16000000 := by
          have h1 := pow_bd (s.length + 1 + (l.length + 1)) (by omega)
          have h2 : 2 ^ (s.length + 1 + (l.length + 1)) * (p1.length + p2.length + p4.length) ≤ 2 ^ (s.length + 1 + (l.length + 1)) * 16000000 := by
            rw [Nat.mul_comm _ 16000000]
            exact Nat.le_trans tot h1
          exact Nat.le_of_mul_le_mul_left h2 (Nat.pow_pos (by omega))
        obtain ⟨qs, u1, u2, u3⟩ := unlike_ok (ps := p1.map (fun p : Nat × Nat => (p.1 + 1, p.2)) ++ p2.map (fun p : Nat × Nat => (p.1, p.2 + 1)) ++ p4) (st := st) (j := j + n + 1) (by simp [noneW, allD, eqAll, nodAll, depAll, varW, idxW, seqW, cmpW, cmpP, vw, cmpD, eqOk, nod, dep, eqD, truW, truD, b1W, binW, binD, lenW, srcW, rcv1, tyOf, Fr.pur, ofP, m1W, int?, slW, slD, isiW, isTy, kindOk, isD, isW, inStr, nod_ones, T_beq, nod_strs, dep_strs, b2W, eq_nil]; omega)
        refine ⟨qs, ?_, ?_, ?_, ?_⟩
        · rw [callD_fn (fn := f_law_ways) rfl _ _ rfl]
          have hl1 : p1.length ≤ 16777216 := by omega
          have hl2 : p2.length ≤ 16777216 := by omega
          have hl4 : p1.length + p2.length ≤ 16777216 := by omega
          have hl5 : p1.length + p2.length + p4.length ≤ 16777216 := by omega
          rw [show j + (n + 1) + 1 = j + n + 2 by omega]
          have m1 := ways_lc (Φ := callD EP R0 (j + n + 2)) (e := .call "_law_ways" (.cons (.sl (.var 0) (.e (.int 1)) (.no)) (.cons (.var 1) (.nil)))) (ρ := [some (.d (.tuple ((a :: s).map dStr))), some (.d (.tuple ((b :: l).map dStr))), none, none, none]) (st := st) (.bin .add (.var 3) (.int 1)) (.var 4) 1 0 rfl (by simp [noneW, allD, eqAll, nodAll, depAll, varW, idxW, seqW, cmpW, cmpP, vw, cmpD, eqOk, nod, dep, eqD, truW, truD, b1W, binW, binD, lenW, srcW, rcv1, tyOf, Fr.pur, ofP, m1W, int?, slW, slD, isiW, isTy, kindOk, isD, isW, inStr, nod_ones, T_beq, nod_strs, dep_strs, b2W, eq_nil, evE, evEs, evO, cutW1, cut1, c1]) hl1 (fun ρ' p h => by simp [noneW, allD, eqAll, nodAll, depAll, varW, idxW, seqW, cmpW, cmpP, vw, cmpD, eqOk, nod, dep, eqD, truW, truD, b1W, binW, binD, lenW, srcW, rcv1, tyOf, Fr.pur, ofP, m1W, int?, slW, slD, isiW, isTy, kindOk, isD, isW, inStr, nod_ones, T_beq, nod_strs, dep_strs, b2W, eq_nil, evE, h]) (fun ρ' p h => by simp [noneW, allD, eqAll, nodAll, depAll, varW, idxW, seqW, cmpW, cmpP, vw, cmpD, eqOk, nod, dep, eqD, truW, truD, b1W, binW, binD, lenW, srcW, rcv1, tyOf, Fr.pur, ofP, m1W, int?, slW, slD, isiW, isTy, kindOk, isD, isW, inStr, nod_ones, T_beq, nod_strs, dep_strs, b2W, eq_nil, evE, h])
          have m2 := ways_lc (Φ := callD EP R0 (j + n + 2)) (e := .call "_law_ways" (.cons (.var 0) (.cons (.sl (.var 1) (.e (.int 1)) (.no)) (.nil)))) (ρ := [some (.d (.tuple ((a :: s).map dStr))), some (.d (.tuple ((b :: l).map dStr))), none, none, none]) (st := st) (.var 3) (.bin .add (.var 4) (.int 1)) 0 1 rfl (by simp [noneW, allD, eqAll, nodAll, depAll, varW, idxW, seqW, cmpW, cmpP, vw, cmpD, eqOk, nod, dep, eqD, truW, truD, b1W, binW, binD, lenW, srcW, rcv1, tyOf, Fr.pur, ofP, m1W, int?, slW, slD, isiW, isTy, kindOk, isD, isW, inStr, nod_ones, T_beq, nod_strs, dep_strs, b2W, eq_nil, evE, evEs, evO, cutW1, cut1, c2]) hl2 (fun ρ' p h => by simp [noneW, allD, eqAll, nodAll, depAll, varW, idxW, seqW, cmpW, cmpP, vw, cmpD, eqOk, nod, dep, eqD, truW, truD, b1W, binW, binD, lenW, srcW, rcv1, tyOf, Fr.pur, ofP, m1W, int?, slW, slD, isiW, isTy, kindOk, isD, isW, inStr, nod_ones, T_beq, nod_strs, dep_strs, b2W, eq_nil, evE, h]) (fun ρ' p h => by simp [noneW, allD, eqAll, nodAll, depAll, varW, idxW, seqW, cmpW, cmpP, vw, cmpD, eqOk, nod, dep, eqD, truW, truD, b1W, binW, binD, lenW, srcW, rcv1, tyOf, Fr.pur, ofP, m1W, int?, slW, slD, isiW, isTy, kindOk, isD, isW, inStr, nod_ones, T_beq, nod_strs, dep_strs, b2W, eq_nil, evE, h])
          have m3 : evE EP R0 (callD EP R0 (j + n + 2)) (.ife (.e (.call "_law_pair" (.cons (.idx (.var 0) (.int 0)) (.cons (.idx (.var 1) (.int 0)) (.nil))))) (.call "_law_ways" (.cons (.sl (.var 0) (.e (.int 1)) (.no)) (.cons (.sl (.var 1) (.e (.int 1)) (.no)) (.nil)))) (.pur (.lst (.nil)))) [some (.d (.tuple ((a :: s).map dStr))), some (.d (.tuple ((b :: l).map dStr))), some (.d (.list ((p1.map (fun p : Nat × Nat => (p.1 + 1, p.2)) ++ p2.map (fun p : Nat × Nat => (p.1, p.2 + 1))).map pd))), none, none] st = .ok (.d (.list (p4.map pd))) st := by
            rw [hp4]
            cases hb : pairP a b <;> simp [noneW, allD, eqAll, nodAll, depAll, varW, idxW, seqW, cmpW, cmpP, vw, cmpD, eqOk, nod, dep, eqD, truW, truD, b1W, binW, binD, lenW, srcW, rcv1, tyOf, Fr.pur, ofP, m1W, int?, slW, slD, isiW, isTy, kindOk, isD, isW, inStr, nod_ones, T_beq, nod_strs, dep_strs, b2W, eq_nil, evE, evEs, evO, evC, evF, atI0, cutW1, cut1, hp, hb, c3]
          generalize hA : FM.E.pur (.lc [3, 4] (.t [.v 3, .v 4]) (.e (.call "_law_ways" (.cons (.sl (.var 0) (.e (.int 1)) (.no)) (.cons (.var 1) (.nil))))) (.no) (.tup (.cons (.bin .add (.var 3) (.int 1)) (.cons (.var 4) (.nil))))) = A at m1
          generalize hB : FM.E.pur (.lc [3, 4] (.t [.v 3, .v 4]) (.e (.call "_law_ways" (.cons (.var 0) (.cons (.sl (.var 1) (.e (.int 1)) (.no)) (.nil))))) (.no) (.tup (.cons (.var 3) (.cons (.bin .add (.var 4) (.int 1)) (.nil))))) = B at m2
          generalize hC : FM.E.ife (.e (.call "_law_pair" (.cons (.idx (.var 0) (.int 0)) (.cons (.idx (.var 1) (.int 0)) (.nil))))) (.call "_law_ways" (.cons (.sl (.var 0) (.e (.int 1)) (.no)) (.cons (.sl (.var 1) (.e (.int 1)) (.no)) (.nil)))) (.pur (.lst (.nil))) = C at m3
          have hb : b_law_ways = .cons (.ife (.or (.e (.cmp .eq (.var 0) (.tup (.nil)))) (.e (.cmp .eq (.var 1) (.tup (.nil))))) (.cons (.ret (.pur (.lst (.cons (.tup (.cons (.b1 .len (.var 0)) (.cons (.b1 .len (.var 1)) (.nil)))) (.nil))))) (.nil)) (.nil)) (.cons (.set (.v 2) (.bin .add A B)) (.cons (.ret (.call "_law_unlike" (.cons (.bin .add (.var 2) C) (.nil)))) (.nil))) := by
            rw [← hA, ← hB, ← hC]
            rfl
          have S1 : evS EP R0 (callD EP R0 (j + n + 2)) (.ife (.or (.e (.cmp .eq (.var 0) (.tup (.nil)))) (.e (.cmp .eq (.var 1) (.tup (.nil))))) (.cons (.ret (.pur (.lst (.cons (.tup (.cons (.b1 .len (.var 0)) (.cons (.b1 .len (.var 1)) (.nil)))) (.nil))))) (.nil)) (.nil)) [some (.d (.tuple ((a :: s).map dStr))), some (.d (.tuple ((b :: l).map dStr))), none, none, none] st = .nx [some (.d (.tuple ((a :: s).map dStr))), some (.d (.tuple ((b :: l).map dStr))), none, none, none] st := by
            simp [noneW, allD, eqAll, nodAll, depAll, varW, idxW, seqW, cmpW, cmpP, vw, cmpD, eqOk, nod, dep, eqD, truW, truD, b1W, binW, binD, lenW, srcW, rcv1, tyOf, Fr.pur, ofP, m1W, int?, slW, slD, isiW, isTy, kindOk, isD, isW, inStr, nod_ones, T_beq, nod_strs, dep_strs, b2W, eq_nil, evS, evSs, evC, evE, evEs, hSZ]
          have S2 : evS EP R0 (callD EP R0 (j + n + 2)) (.set (.v 2) (.bin .add A B)) [some (.d (.tuple ((a :: s).map dStr))), some (.d (.tuple ((b :: l).map dStr))), none, none, none] st = .nx [some (.d (.tuple ((a :: s).map dStr))), some (.d (.tuple ((b :: l).map dStr))), some (.d (.list ((p1.map (fun p : Nat × Nat => (p.1 + 1, p.2)) ++ p2.map (fun p : Nat × Nat => (p.1, p.2 + 1))).map pd))), none, none] st := by
            rw [evS, evE, m1, Res.bind_ok, m2, Res.bind_ok]
            simp [noneW, allD, eqAll, nodAll, depAll, varW, idxW, seqW, cmpW, cmpP, vw, cmpD, eqOk, nod, dep, eqD, truW, truD, b1W, binW, binD, lenW, srcW, rcv1, tyOf, Fr.pur, ofP, m1W, int?, slW, slD, isiW, isTy, kindOk, isD, isW, inStr, nod_ones, T_beq, nod_strs, dep_strs, b2W, eq_nil, hSZ, hl4]
          have S3 : evE EP R0 (callD EP R0 (j + n + 2)) (.bin .add (.var 2) C) [some (.d (.tuple ((a :: s).map dStr))), some (.d (.tuple ((b :: l).map dStr))), some (.d (.list ((p1.map (fun p : Nat × Nat => (p.1 + 1, p.2)) ++ p2.map (fun p : Nat × Nat => (p.1, p.2 + 1))).map pd))), none, none] st = .ok (.d (.list ((p1.map (fun p : Nat × Nat => (p.1 + 1, p.2)) ++ p2.map (fun p : Nat × Nat => (p.1, p.2 + 1)) ++ p4).map pd))) st := by
            rw [evE, evE]
            simp only [varW, List.getElem?_cons_succ, List.getElem?_cons_zero, Res.of_some, Res.bind_ok]
            rw [m3]
            simp [noneW, allD, eqAll, nodAll, depAll, varW, idxW, seqW, cmpW, cmpP, vw, cmpD, eqOk, nod, dep, eqD, truW, truD, b1W, binW, binD, lenW, srcW, rcv1, tyOf, Fr.pur, ofP, m1W, int?, slW, slD, isiW, isTy, kindOk, isD, isW, inStr, nod_ones, T_beq, nod_strs, dep_strs, b2W, eq_nil, hSZ, hl5]
          show exitR .pure st (evSs EP R0 (callD EP R0 (j + n + 2)) b_law_ways [some (.d (.tuple ((a :: s).map dStr))), some (.d (.tuple ((b :: l).map dStr))), none, none, none] st) = _
          rw [hb, evSs, S1, Out.next_nx, evSs, S2, Out.next_nx, evSs, evS, evE, evEs, S3]
          simp only [evEs, Res.bind_ok, show j + n + 2 = j + n + 1 + 1 from rfl, u1, Res.out_ok, Out.next_rt, exit_one]
        · refine Nat.le_trans (Nat.mul_le_mul_left _ u2) ?_
          simpa [noneW, allD, eqAll, nodAll, depAll, varW, idxW, seqW, cmpW, cmpP, vw, cmpD, eqOk, nod, dep, eqD, truW, truD, b1W, binW, binD, lenW, srcW, rcv1, tyOf, Fr.pur, ofP, m1W, int?, slW, slD, isiW, isTy, kindOk, isD, isW, inStr, nod_ones, T_beq, nod_strs, dep_strs, b2W, eq_nil, Nat.add_assoc] using tot
        · have hx : (∃ p ∈ qs, p.1 = 0) ↔ (∃ p ∈ p2, p.1 = 0) ∨ ∃ p ∈ p4, p.1 = 0 := by
            refine ⟨fun ⟨p, h1, h2⟩ => ?_, fun h => ?_⟩
            · rw [u3] at h1
              simp only [List.mem_append, List.mem_map] at h1
              rcases h1 with (⟨q, _, rfl⟩ | ⟨q, hq, rfl⟩) | h1
              · simp [noneW, allD, eqAll, nodAll, depAll, varW, idxW, seqW, cmpW, cmpP, vw, cmpD, eqOk, nod, dep, eqD, truW, truD, b1W, binW, binD, lenW, srcW, rcv1, tyOf, Fr.pur, ofP, m1W, int?, slW, slD, isiW, isTy, kindOk, isD, isW, inStr, nod_ones, T_beq, nod_strs, dep_strs, b2W, eq_nil] at h2
              · exact .inl ⟨q, hq, h2⟩
              · exact .inr ⟨p, h1, h2⟩
            · rcases h with ⟨q, hq, h2⟩ | ⟨q, hq, h2⟩
              · exact ⟨(q.1, q.2 + 1), (u3 _).mpr (by simp only [List.mem_append, List.mem_map]; exact .inl (.inr ⟨q, hq, rfl⟩)), h2⟩
              · exact ⟨q, (u3 _).mpr (by simp only [List.mem_append]; exact .inr hq), h2⟩
          rw [hx, f2, hp4]
          by_cases hb : pairP a b = true
          · rw [if_pos hb, f3]
            exact ⟨fun h => h.elim .skip (.take hb), fun h => by
              cases h with
              | skip h => exact .inl h
              | take _ h => exact .inr h⟩
          · rw [if_neg hb]
            exact ⟨fun h => h.elim .skip (fun ⟨_, h, _⟩ => by cases h), fun h => by
              cases h with
              | skip h => exact .inl h
              | take h1 _ => exact absurd h1 hb⟩
        · have hx : (∃ p ∈ qs, p.2 = 0) ↔ (∃ p ∈ p1, p.2 = 0) ∨ ∃ p ∈ p4, p.2 = 0 := by
            refine ⟨fun ⟨p, h1, h2⟩ => ?_, fun h => ?_⟩
            · rw [u3] at h1
              simp only [List.mem_append, List.mem_map] at h1
              rcases h1 with (⟨q, hq, rfl⟩ | ⟨q, _, rfl⟩) | h1
              · exact .inl ⟨q, hq, h2⟩
              · simp [noneW, allD, eqAll, nodAll, depAll, varW, idxW, seqW, cmpW, cmpP, vw, cmpD, eqOk, nod, dep, eqD, truW, truD, b1W, binW, binD, lenW, srcW, rcv1, tyOf, Fr.pur, ofP, m1W, int?, slW, slD, isiW, isTy, kindOk, isD, isW, inStr, nod_ones, T_beq, nod_strs, dep_strs, b2W, eq_nil] at h2
              · exact .inr ⟨p, h1, h2⟩
            · rcases h with ⟨q, hq, h2⟩ | ⟨q, hq, h2⟩
              · exact ⟨(q.1 + 1, q.2), (u3 _).mpr (by simp only [List.mem_append, List.mem_map]; exact .inl (.inl ⟨q, hq, rfl⟩)), h2⟩
              · exact ⟨q, (u3 _).mpr (by simp only [List.mem_append]; exact .inr hq), h2⟩
          rw [hx, g1, hp4]
          by_cases hb : pairP a b = true
          · rw [if_pos hb, g3]
            exact ⟨fun h => h.elim .skip (.take (by rw [pairP_comm]; exact hb)), fun h => by
              cases h with
              | skip h => exact .inl h
              | take _ h => exact .inr h⟩
          · rw [if_neg hb]
            exact ⟨fun h => h.elim .skip (fun ⟨_, h, _⟩ => by cases h), fun h => by
              cases h with
              | skip h => exact .inl h
              | take h1 _ => exact absurd (by rw [pairP_comm]; exact h1) hb⟩
end HT
end

section
set_option Elab.async false
set_option linter.all false
set_option maxRecDepth 100000
set_option autoImplicit false
set_option maxHeartbeats 4000000
namespace HT
open PySem FM
theorem fold_mem : ∀ (l : List Nat) (s : List (List Nat) × List Nat) (w : List Nat), w ∈ (l.foldl rstep s).1 → w ∈ s.1 ∨ (w ≠ [] ∧ w.length ≤ s.2.length + l.length)
  | [], s, w, h => .inl h
  | c :: l, s, w, h => by
    simp only [List.foldl_cons] at h
    rcases fold_mem l _ w h with h | ⟨h1, h2⟩
    · unfold rstep at h
      split at h
      · exact .inl h
      · split at h
        · exact .inl h
        · rename_i hr
          rcases List.mem_append.mp h with h | h
          · exact .inl h
          · simp [noneW, allD, eqAll, nodAll, depAll, varW, idxW, seqW, cmpW, cmpP, vw, cmpD, eqOk, nod, dep, eqD, truW, truD, b1W, binW, binD, asg_v, lenW, srcW, rcv1, tyOf, Fr.pur, ofP, m1W, int?, slW, slD, isiW, isTy, kindOk, isD, isW, inStr, nod_ones, T_beq, nod_strs, dep_strs, b2W, eq_nil] at h
            subst h
            exact .inr ⟨hr, by simp [noneW, allD, eqAll, nodAll, depAll, varW, idxW, seqW, cmpW, cmpP, vw, cmpD, eqOk, nod, dep, eqD, truW, truD, b1W, binW, binD, asg_v, lenW, srcW, rcv1, tyOf, Fr.pur, ofP, m1W, int?, slW, slD, isiW, isTy, kindOk, isD, isW, inStr, nod_ones, T_beq, nod_strs, dep_strs, b2W, eq_nil]⟩
    · refine .inr ⟨h1, ?_⟩
      unfold rstep at h2
      split at h2
      · simp [noneW, allD, eqAll, nodAll, depAll, varW, idxW, seqW, cmpW, cmpP, vw, cmpD, eqOk, nod, dep, eqD, truW, truD, b1W, binW, binD, asg_v, lenW, srcW, rcv1, tyOf, Fr.pur, ofP, m1W, int?, slW, slD, isiW, isTy, kindOk, isD, isW, inStr, nod_ones, T_beq, nod_strs, dep_strs, b2W, eq_nil] at h2 ⊢
        omega
      · simp [noneW, allD, eqAll, nodAll, depAll, varW, idxW, seqW, cmpW, cmpP, vw, cmpD, eqOk, nod, dep, eqD, truW, truD, b1W, binW, binD, asg_v, lenW, srcW, rcv1, tyOf, Fr.pur, ofP, m1W, int?, slW, slD, isiW, isTy, kindOk, isD, isW, inStr, nod_ones, T_beq, nod_strs, dep_strs, b2W, eq_nil] at h2 ⊢
        omega
theorem rows_mem {t w : List Nat} (h : w ∈ rowsP t) : w ≠ [] ∧ w.length ≤ t.length + 1 := by
  rcases fold_mem _ _ w h with h | ⟨h1, h2⟩
  · cases h
  · exact ⟨h1, by simpa [noneW, allD, eqAll, nodAll, depAll, varW, idxW, seqW, cmpW, cmpP, vw, cmpD, eqOk, nod, dep, eqD, truW, truD, b1W, binW, binD, asg_v, lenW, srcW, rcv1, tyOf, Fr.pur, ofP, m1W, int?, slW, slD, isiW, isTy, kindOk, isD, isW, inStr, nod_ones, T_beq, nod_strs, dep_strs, b2W, eq_nil] using h2⟩
theorem words_mem {t w : List Nat} (h : w ∈ wordsP t) : w ≠ [] ∧ w.length ≤ t.length + 1 := by
  unfold wordsP at h
  split at h
  · rename_i a b hs
    rcases List.mem_append.mp h with h | h
    · obtain ⟨h1, h2⟩ := rows_mem h
      have := split_le (c := 44) (l := t) (w := b) (by rw [hs]; simp [noneW, allD, eqAll, nodAll, depAll, varW, idxW, seqW, cmpW, cmpP, vw, cmpD, eqOk, nod, dep, eqD, truW, truD, b1W, binW, binD, asg_v, lenW, srcW, rcv1, tyOf, Fr.pur, ofP, m1W, int?, slW, slD, isiW, isTy, kindOk, isD, isW, inStr, nod_ones, T_beq, nod_strs, dep_strs, b2W, eq_nil])
      exact ⟨h1, by omega⟩
    · obtain ⟨h1, h2⟩ := rows_mem h
      have := split_le (c := 44) (l := t) (w := a) (by rw [hs]; simp [noneW, allD, eqAll, nodAll, depAll, varW, idxW, seqW, cmpW, cmpP, vw, cmpD, eqOk, nod, dep, eqD, truW, truD, b1W, binW, binD, asg_v, lenW, srcW, rcv1, tyOf, Fr.pur, ofP, m1W, int?, slW, slD, isiW, isTy, kindOk, isD, isW, inStr, nod_ones, T_beq, nod_strs, dep_strs, b2W, eq_nil])
      exact ⟨h1, by omega⟩
  · exact rows_mem h
/-- a name's text -/
structure Nm (t : List Nat) : Prop where
  a : asc t
  l : t.length ≤ 100
  n : wordsP t ≠ []
  w : (wordsP t).length ≤ 10
theorem lc_pdf {γ : Type} {step : W → Sto → Res (Option γ)} {st : Sto} (p : Nat × Nat → Bool) (g : Nat × Nat → γ) : ∀ l : List (Nat × Nat), (∀ c ∈ l, step (.d (pd c)) st = .ok (if p c then some (g c) else none) st) → lcL none step (l.map fun c => W.d (pd c)) st = .ok ((l.filter p).map g) st := fun l h => by
  induction l with
  | nil => rfl
  | cons c l ih =>
    simp only [List.map_cons, lcL, h c List.mem_cons_self, still, if_true, ih fun u hu => h u (List.mem_cons_of_mem _ hu), List.filter_cons]
    cases p c <;> rfl
def oneP (t u : List Nat) : Bool := decide ((wordsP t).getLast? = (wordsP u).getLast?) && (if (wordsP u).length < (wordsP t).length then fitP (wordsP u).dropLast (wordsP t).dropLast else fitP (wordsP t).dropLast (wordsP u).dropLast)
theorem cutLast {α : Type} (xs : List α) (x : α) : cut (xs ++ [x]) none (some (-1)) = xs := by
  unfold cut sIdx
  have : ((xs.length : Int) + 1 + -1).toNat = xs.length := by omega
  simp [noneW, allD, eqAll, nodAll, depAll, varW, idxW, seqW, cmpW, cmpP, vw, cmpD, eqOk, nod, dep, eqD, truW, truD, b1W, binW, binD, asg_v, lenW, srcW, rcv1, tyOf, Fr.pur, ofP, m1W, int?, slW, slD, isiW, isTy, kindOk, isD, isW, inStr, nod_ones, T_beq, nod_strs, dep_strs, b2W, eq_nil, this]
theorem cutWl (n : Nat) : cutWhole (n + 1) none (some (-1)) = false := by
  simp [noneW, allD, eqAll, nodAll, depAll, varW, idxW, seqW, cmpW, cmpP, vw, cmpD, eqOk, nod, dep, eqD, truW, truD, b1W, binW, binD, asg_v, lenW, srcW, rcv1, tyOf, Fr.pur, ofP, m1W, int?, slW, slD, isiW, isTy, kindOk, isD, isW, inStr, nod_ones, T_beq, nod_strs, dep_strs, b2W, eq_nil, cutWhole, sIdx]
  omega
theorem told_one_ok {t u : List Nat} {st : Sto} {j : Nat} (ht : Nm t) (hu : Nm u) : callD EP R0 (j + 3) "told_one" [.d (dStr t), .d (dStr u)] st = .ok (.d (.bool (oneP t u))) st := by
  have hSZ : SZ = 16777216 := rfl
  have w1 := told_words_ok (st := st) (j := j) ht.a (by have := ht.l; omega)
  have w2 := told_words_ok (st := st) (j := j) hu.a (by have := hu.l; omega)
  have m1 : ∀ w ∈ wordsP t, w ≠ [] ∧ w.length ≤ 1000 := fun w hw => ⟨(words_mem hw).1, by have := (words_mem hw).2; have := ht.l; omega⟩
  have m2 : ∀ w ∈ wordsP u, w ≠ [] ∧ w.length ≤ 1000 := fun w hw => ⟨(words_mem hw).1, by have := (words_mem hw).2; have := hu.l; omega⟩
  have n1 := ht.n
  have n2 := hu.n
  have l1 := ht.w
  have l2 := hu.w
  unfold oneP
  generalize wordsP t = a at *
  generalize wordsP u = b at *
  rcases List.eq_nil_or_concat a with rfl | ⟨as, x, rfl⟩
  · exact absurd rfl n1
  rcases List.eq_nil_or_concat b with rfl | ⟨bs, y, rfl⟩
  · exact absurd rfl n2
  simp only [List.concat_eq_append] at *
  have g1 : FM.atI (List.map (W.d ∘ dStr) as ++ [W.d (dStr x)]) (-1) = some (.d (dStr x)) := atI_last _ _
  have g2 : FM.atI (List.map (W.d ∘ dStr) bs ++ [W.d (dStr y)]) (-1) = some (.d (dStr y)) := atI_last _ _
  have k1 : cut (List.map dStr as ++ [dStr x]) none (some (-1)) = as.map dStr := cutLast _ _
  have k2 : cut (List.map dStr bs ++ [dStr y]) none (some (-1)) = bs.map dStr := cutLast _ _
  simp [noneW, allD, eqAll, nodAll, depAll, varW, idxW, seqW, cmpW, cmpP, vw, cmpD, eqOk, nod, dep, eqD, truW, truD, b1W, binW, binD, asg_v, lenW, srcW, rcv1, tyOf, Fr.pur, ofP, m1W, int?, slW, slD, isiW, isTy, kindOk, isD, isW, inStr, nod_ones, T_beq, nod_strs, dep_strs, b2W, eq_nil] at l1 l2
  have f1 := fits_ok (s := as) (l := bs) (st := st) (j := j) (fun w hw => m1 w (by simp [noneW, allD, eqAll, nodAll, depAll, varW, idxW, seqW, cmpW, cmpP, vw, cmpD, eqOk, nod, dep, eqD, truW, truD, b1W, binW, binD, asg_v, lenW, srcW, rcv1, tyOf, Fr.pur, ofP, m1W, int?, slW, slD, isiW, isTy, kindOk, isD, isW, inStr, nod_ones, T_beq, nod_strs, dep_strs, b2W, eq_nil, hw])) (fun w hw => m2 w (by simp [noneW, allD, eqAll, nodAll, depAll, varW, idxW, seqW, cmpW, cmpP, vw, cmpD, eqOk, nod, dep, eqD, truW, truD, b1W, binW, binD, asg_v, lenW, srcW, rcv1, tyOf, Fr.pur, ofP, m1W, int?, slW, slD, isiW, isTy, kindOk, isD, isW, inStr, nod_ones, T_beq, nod_strs, dep_strs, b2W, eq_nil, hw])) (by omega) (by omega)
  have f2 := fits_ok (s := bs) (l := as) (st := st) (j := j) (fun w hw => m2 w (by simp [noneW, allD, eqAll, nodAll, depAll, varW, idxW, seqW, cmpW, cmpP, vw, cmpD, eqOk, nod, dep, eqD, truW, truD, b1W, binW, binD, asg_v, lenW, srcW, rcv1, tyOf, Fr.pur, ofP, m1W, int?, slW, slD, isiW, isTy, kindOk, isD, isW, inStr, nod_ones, T_beq, nod_strs, dep_strs, b2W, eq_nil, hw])) (fun w hw => m1 w (by simp [noneW, allD, eqAll, nodAll, depAll, varW, idxW, seqW, cmpW, cmpP, vw, cmpD, eqOk, nod, dep, eqD, truW, truD, b1W, binW, binD, asg_v, lenW, srcW, rcv1, tyOf, Fr.pur, ofP, m1W, int?, slW, slD, isiW, isTy, kindOk, isD, isW, inStr, nod_ones, T_beq, nod_strs, dep_strs, b2W, eq_nil, hw])) (by omega) (by omega)
  rw [callD_fn (fn := ftold_one) rfl _ _ rfl]
  simp only [ftold_one, btold_one, entry, evSs, evS, evC, evE, evEs, evO]
  simp [noneW, allD, eqAll, nodAll, depAll, varW, idxW, seqW, cmpW, cmpP, vw, cmpD, eqOk, nod, dep, eqD, truW, truD, b1W, binW, binD, asg_v, lenW, srcW, rcv1, tyOf, Fr.pur, ofP, m1W, int?, slW, slD, isiW, isTy, kindOk, isD, isW, inStr, nod_ones, T_beq, nod_strs, dep_strs, b2W, eq_nil, w1, w2, g1, g2]
  by_cases hxy : x = y
  · subst hxy
    simp [noneW, allD, eqAll, nodAll, depAll, varW, idxW, seqW, cmpW, cmpP, vw, cmpD, eqOk, nod, dep, eqD, truW, truD, b1W, binW, binD, asg_v, lenW, srcW, rcv1, tyOf, Fr.pur, ofP, m1W, int?, slW, slD, isiW, isTy, kindOk, isD, isW, inStr, nod_ones, T_beq, nod_strs, dep_strs, b2W, eq_nil, cmpOk, alk, ordOk, isNo, ltD]
    by_cases hl : bs.length < as.length
    · simp [noneW, allD, eqAll, nodAll, depAll, varW, idxW, seqW, cmpW, cmpP, vw, cmpD, eqOk, nod, dep, eqD, truW, truD, b1W, binW, binD, asg_v, lenW, srcW, rcv1, tyOf, Fr.pur, ofP, m1W, int?, slW, slD, isiW, isTy, kindOk, isD, isW, inStr, nod_ones, T_beq, nod_strs, dep_strs, b2W, eq_nil, hl, cutWl, k1, k2, f2]
    · simp [noneW, allD, eqAll, nodAll, depAll, varW, idxW, seqW, cmpW, cmpP, vw, cmpD, eqOk, nod, dep, eqD, truW, truD, b1W, binW, binD, asg_v, lenW, srcW, rcv1, tyOf, Fr.pur, ofP, m1W, int?, slW, slD, isiW, isTy, kindOk, isD, isW, inStr, nod_ones, T_beq, nod_strs, dep_strs, b2W, eq_nil, hl, cutWl, k1, k2, f1]
  · simp [noneW, allD, eqAll, nodAll, depAll, varW, idxW, seqW, cmpW, cmpP, vw, cmpD, eqOk, nod, dep, eqD, truW, truD, b1W, binW, binD, asg_v, lenW, srcW, rcv1, tyOf, Fr.pur, ofP, m1W, int?, slW, slD, isiW, isTy, kindOk, isD, isW, inStr, nod_ones, T_beq, nod_strs, dep_strs, b2W, eq_nil, hxy]
theorem law_one_ok {t u : List Nat} {st : Sto} {j : Nat} (ht : Nm t) (hu : Nm u) : callD EP R0 (j + 21) "_law_one" [.d (dStr t), .d (dStr u)] st = .ok (.d (.bool (oneP t u))) st := by
  have hSZ : SZ = 16777216 := rfl
  have w1 := law_words_ok (st := st) (j := j + 19) ht.a (by have := ht.l; omega)
  have w2 := law_words_ok (st := st) (j := j + 19) hu.a (by have := hu.l; omega)
  have m1 : ∀ w ∈ wordsP t, w ≠ [] ∧ w.length ≤ 1000 := fun w hw => ⟨(words_mem hw).1, by have := (words_mem hw).2; have := ht.l; omega⟩
  have m2 : ∀ w ∈ wordsP u, w ≠ [] ∧ w.length ≤ 1000 := fun w hw => ⟨(words_mem hw).1, by have := (words_mem hw).2; have := hu.l; omega⟩
  have n1 := ht.n
  have n2 := hu.n
  have l1 := ht.w
  have l2 := hu.w
  unfold oneP
  generalize wordsP t = a at *
  generalize wordsP u = b at *
  rcases List.eq_nil_or_concat a with rfl | ⟨as, x, rfl⟩
  · exact absurd rfl n1
  rcases List.eq_nil_or_concat b with rfl | ⟨bs, y, rfl⟩
  · exact absurd rfl n2
  simp only [List.concat_eq_append] at *
  have g1 : FM.atI (List.map (W.d ∘ dStr) as ++ [W.d (dStr x)]) (-1) = some (.d (dStr x)) := atI_last _ _
  have g2 : FM.atI (List.map (W.d ∘ dStr) bs ++ [W.d (dStr y)]) (-1) = some (.d (dStr y)) := atI_last _ _
  have k1 : cut (List.map dStr as ++ [dStr x]) none (some (-1)) = as.map dStr := cutLast _ _
  have k2 : cut (List.map dStr bs ++ [dStr y]) none (some (-1)) = bs.map dStr := cutLast _ _
  simp [noneW, allD, eqAll, nodAll, depAll, varW, idxW, seqW, cmpW, cmpP, vw, cmpD, eqOk, nod, dep, eqD, truW, truD, b1W, binW, binD, asg_v, lenW, srcW, rcv1, tyOf, Fr.pur, ofP, m1W, int?, slW, slD, isiW, isTy, kindOk, isD, isW, inStr, nod_ones, T_beq, nod_strs, dep_strs, b2W, eq_nil] at l1 l2
  obtain ⟨ps, c1, c2, c3, c4⟩ := ways_ok 18 as bs (by omega) (by omega) (fun w hw => m1 w (by simp [noneW, allD, eqAll, nodAll, depAll, varW, idxW, seqW, cmpW, cmpP, vw, cmpD, eqOk, nod, dep, eqD, truW, truD, b1W, binW, binD, asg_v, lenW, srcW, rcv1, tyOf, Fr.pur, ofP, m1W, int?, slW, slD, isiW, isTy, kindOk, isD, isW, inStr, nod_ones, T_beq, nod_strs, dep_strs, b2W, eq_nil, hw])) (fun w hw => m2 w (by simp [noneW, allD, eqAll, nodAll, depAll, varW, idxW, seqW, cmpW, cmpP, vw, cmpD, eqOk, nod, dep, eqD, truW, truD, b1W, binW, binD, asg_v, lenW, srcW, rcv1, tyOf, Fr.pur, ofP, m1W, int?, slW, slD, isiW, isTy, kindOk, isD, isW, inStr, nod_ones, T_beq, nod_strs, dep_strs, b2W, eq_nil, hw])) st j
  have hlen : ps.length ≤ 16000000 := by
    have h1 := pow_bd (as.length + bs.length) (by omega)
    have h2 : 2 ^ (as.length + bs.length) * ps.length ≤ 2 ^ (as.length + bs.length) * 16000000 := by
      rw [Nat.mul_comm _ 16000000]
      exact Nat.le_trans c2 h1
    exact Nat.le_of_mul_le_mul_left h2 (Nat.pow_pos (by omega))
  have key : (ps.filter (fun p => decide (p.1 = 0) || decide (p.2 = 0)) ≠ []) ↔ (if bs.length < as.length then fitP bs as else fitP as bs) = true := by
    have h1 : (ps.filter (fun p => decide (p.1 = 0) || decide (p.2 = 0)) ≠ []) ↔ (∃ p ∈ ps, p.1 = 0) ∨ ∃ p ∈ ps, p.2 = 0 := by
      rw [ne_eq, List.filter_eq_nil_iff]
      constructor
      · intro h
        by_cases q : ∃ p ∈ ps, p.1 = 0
        · exact .inl q
        · refine .inr (Classical.byContradiction fun q2 => h fun p hp => ?_)
          have a1 : ¬ p.1 = 0 := fun z => q ⟨p, hp, z⟩
          have a2 : ¬ p.2 = 0 := fun z => q2 ⟨p, hp, z⟩
          simp [noneW, allD, eqAll, nodAll, depAll, varW, idxW, seqW, cmpW, cmpP, vw, cmpD, eqOk, nod, dep, eqD, truW, truD, b1W, binW, binD, asg_v, lenW, srcW, rcv1, tyOf, Fr.pur, ofP, m1W, int?, slW, slD, isiW, isTy, kindOk, isD, isW, inStr, nod_ones, T_beq, nod_strs, dep_strs, b2W, eq_nil, a1, a2]
      · rintro (⟨p, hp, z⟩ | ⟨p, hp, z⟩) h
        · have := h p hp
          simp [noneW, allD, eqAll, nodAll, depAll, varW, idxW, seqW, cmpW, cmpP, vw, cmpD, eqOk, nod, dep, eqD, truW, truD, b1W, binW, binD, asg_v, lenW, srcW, rcv1, tyOf, Fr.pur, ofP, m1W, int?, slW, slD, isiW, isTy, kindOk, isD, isW, inStr, nod_ones, T_beq, nod_strs, dep_strs, b2W, eq_nil, z] at this
        · have := h p hp
          simp [noneW, allD, eqAll, nodAll, depAll, varW, idxW, seqW, cmpW, cmpP, vw, cmpD, eqOk, nod, dep, eqD, truW, truD, b1W, binW, binD, asg_v, lenW, srcW, rcv1, tyOf, Fr.pur, ofP, m1W, int?, slW, slD, isiW, isTy, kindOk, isD, isW, inStr, nod_ones, T_beq, nod_strs, dep_strs, b2W, eq_nil, z] at this
    rw [h1, c3, c4]
    split
    · rename_i hl
      rw [fit_emb]
      exact ⟨fun h => h.elim (fun h => by have := h.le; omega) id, .inr⟩
    · rename_i hl
      rw [fit_emb]
      exact ⟨fun h => h.elim id (fun h => h.full (by have := h.le; omega)), .inl⟩
  rw [callD_fn (fn := f_law_one) rfl _ _ rfl]
  have P1 : evS EP R0 (callD EP R0 (j + 20)) (.par 2 3 (.call "_law_words" (.cons (.var 0) (.nil))) (.call "_law_words" (.cons (.var 1) (.nil)))) [some (.d (dStr t)), some (.d (dStr u)), none, none, none] st = .nx [some (.d (dStr t)), some (.d (dStr u)), some (.d (.tuple ((as ++ [x]).map dStr))), some (.d (.tuple ((bs ++ [y]).map dStr))), none] st := by
    simp [noneW, allD, eqAll, nodAll, depAll, varW, idxW, seqW, cmpW, cmpP, vw, cmpD, eqOk, nod, dep, eqD, truW, truD, b1W, binW, binD, asg_v, lenW, srcW, rcv1, tyOf, Fr.pur, ofP, m1W, int?, slW, slD, isiW, isTy, kindOk, isD, isW, inStr, nod_ones, T_beq, nod_strs, dep_strs, b2W, eq_nil, evS, evE, evEs, w1, w2]
  generalize hρ : ([some (.d (dStr t)), some (.d (dStr u)), some (.d (.tuple ((as ++ [x]).map dStr))), some (.d (.tuple ((bs ++ [y]).map dStr))), none] : FM.Env) = ρ at P1
  have Q1 : evE EP R0 (callD EP R0 (j + 20)) (.cmp .eq (.idx (.var 2) (.neg (.int 1))) (.idx (.var 3) (.neg (.int 1)))) ρ st = .ok (.d (.bool (decide (x = y)))) st := by
    subst hρ
    simp [noneW, allD, eqAll, nodAll, depAll, varW, idxW, seqW, cmpW, cmpP, vw, cmpD, eqOk, nod, dep, eqD, truW, truD, b1W, binW, binD, asg_v, lenW, srcW, rcv1, tyOf, Fr.pur, ofP, m1W, int?, slW, slD, isiW, isTy, kindOk, isD, isW, inStr, nod_ones, T_beq, nod_strs, dep_strs, b2W, eq_nil, evE, g1, g2]
  have Q0 : evE EP R0 (callD EP R0 (j + 20)) (.call "_law_ways" (.cons (.sl (.var 2) (.no) (.e (.neg (.int 1)))) (.cons (.sl (.var 3) (.no) (.e (.neg (.int 1)))) (.nil)))) ρ st = .ok (.d (.list (ps.map pd))) st := by
    subst hρ
    simp [noneW, allD, eqAll, nodAll, depAll, varW, idxW, seqW, cmpW, cmpP, vw, cmpD, eqOk, nod, dep, eqD, truW, truD, b1W, binW, binD, asg_v, lenW, srcW, rcv1, tyOf, Fr.pur, ofP, m1W, int?, slW, slD, isiW, isTy, kindOk, isD, isW, inStr, nod_ones, T_beq, nod_strs, dep_strs, b2W, eq_nil, evE, evEs, evO, cutWl, k1, k2, c1]
  have hl5 : ρ.length = 5 := by rw [← hρ]; rfl
  have Q2 : evE EP R0 (callD EP R0 (j + 20)) (.cmp .ne (.pur (.lc [4] (.v 4) (.e (.call "_law_ways" (.cons (.sl (.var 2) (.no) (.e (.neg (.int 1)))) (.cons (.sl (.var 3) (.no) (.e (.neg (.int 1)))) (.nil))))) (.c (.or (.e (.cmp .eq (.idx (.var 4) (.int 0)) (.int 0))) (.e (.cmp .eq (.idx (.var 4) (.int 1)) (.int 0))))) (.var 4))) (.pur (.lst (.nil)))) ρ st = .ok (.d (.bool (decide (ps.filter (fun p => decide (p.1 = 0) || decide (p.2 = 0)) ≠ [])))) st := by
    have hx : srcW st (.d (.list (ps.map pd))) = some (ps.map fun c => W.d (pd c), none) := by simp [noneW, allD, eqAll, nodAll, depAll, varW, idxW, seqW, cmpW, cmpP, vw, cmpD, eqOk, nod, dep, eqD, truW, truD, b1W, binW, binD, asg_v, lenW, srcW, rcv1, tyOf, Fr.pur, ofP, m1W, int?, slW, slD, isiW, isTy, kindOk, isD, isW, inStr, nod_ones, T_beq, nod_strs, dep_strs, b2W, eq_nil, Function.comp_def]
    rw [evE, evE, evF, evI, Q0]
    simp only [Res.bind_ok, hx, Res.of_some]
    rw [if_neg (by simp [noneW, allD, eqAll, nodAll, depAll, varW, idxW, seqW, cmpW, cmpP, vw, cmpD, eqOk, nod, dep, eqD, truW, truD, b1W, binW, binD, asg_v, lenW, srcW, rcv1, tyOf, Fr.pur, ofP, m1W, int?, slW, slD, isiW, isTy, kindOk, isD, isW, inStr, nod_ones, T_beq, nod_strs, dep_strs, b2W, eq_nil, hSZ]; omega), lc_pdf (fun p => decide (p.1 = 0) || decide (p.2 = 0)) (fun p => .d (pd p))]
    · generalize ps.filter (fun p => decide (p.1 = 0) || decide (p.2 = 0)) = fs
      have e1 : allD (fs.map fun p => W.d (pd p)) = some (fs.map pd) := allD_mapd pd fs
      have e2 : nodAll (fs.map pd) = true := by
        clear e1
        induction fs with
        | nil => rfl
        | cons f fs ih => simp [noneW, allD, eqAll, nodAll, depAll, varW, idxW, seqW, cmpW, cmpP, vw, cmpD, eqOk, nod, dep, eqD, truW, truD, b1W, binW, binD, asg_v, lenW, srcW, rcv1, tyOf, Fr.pur, ofP, m1W, int?, slW, slD, isiW, isTy, kindOk, isD, isW, inStr, nod_ones, T_beq, nod_strs, dep_strs, b2W, eq_nil, pd_nod, ih]
      have e3 : eqAll (fs.map pd) [] = decide (fs = []) := by cases fs <;> simp [noneW, allD, eqAll, nodAll, depAll, varW, idxW, seqW, cmpW, cmpP, vw, cmpD, eqOk, nod, dep, eqD, truW, truD, b1W, binW, binD, asg_v, lenW, srcW, rcv1, tyOf, Fr.pur, ofP, m1W, int?, slW, slD, isiW, isTy, kindOk, isD, isW, inStr, nod_ones, T_beq, nod_strs, dep_strs, b2W, eq_nil]
      simp [noneW, allD, eqAll, nodAll, depAll, varW, idxW, seqW, cmpW, cmpP, vw, cmpD, eqOk, nod, dep, eqD, truW, truD, b1W, binW, binD, asg_v, lenW, srcW, rcv1, tyOf, Fr.pur, ofP, m1W, int?, slW, slD, isiW, isTy, kindOk, isD, isW, inStr, nod_ones, T_beq, nod_strs, dep_strs, b2W, eq_nil, e1, e2, e3, evE, evF, evEs]
    · intro p hp
      have e4 : varW ((wip ρ [4]).set 4 (some (.d (pd p)))) 4 = some (.d (pd p)) := by
        simp [noneW, allD, eqAll, nodAll, depAll, varW, idxW, seqW, cmpW, cmpP, vw, cmpD, eqOk, nod, dep, eqD, truW, truD, b1W, binW, binD, asg_v, lenW, srcW, rcv1, tyOf, Fr.pur, ofP, m1W, int?, slW, slD, isiW, isTy, kindOk, isD, isW, inStr, nod_ones, T_beq, nod_strs, dep_strs, b2W, eq_nil, wip, hl5]
      simp only [asg_v, evCs, evC, evE, e4, Res.of_some, Res.bind_ok]
      obtain ⟨p1, p2⟩ := p
      simp [noneW, allD, eqAll, nodAll, depAll, varW, idxW, seqW, cmpW, cmpP, vw, cmpD, eqOk, nod, dep, eqD, truW, truD, b1W, binW, binD, asg_v, lenW, srcW, rcv1, tyOf, Fr.pur, ofP, m1W, int?, slW, slD, isiW, isTy, kindOk, isD, isW, inStr, nod_ones, T_beq, nod_strs, dep_strs, b2W, eq_nil, pd, atI0, atI1]
      by_cases z1 : p1 = 0
      · simp [noneW, allD, eqAll, nodAll, depAll, varW, idxW, seqW, cmpW, cmpP, vw, cmpD, eqOk, nod, dep, eqD, truW, truD, b1W, binW, binD, asg_v, lenW, srcW, rcv1, tyOf, Fr.pur, ofP, m1W, int?, slW, slD, isiW, isTy, kindOk, isD, isW, inStr, nod_ones, T_beq, nod_strs, dep_strs, b2W, eq_nil, z1]
      · have : ¬ ((p1 : Int) = 0) := by omega
        have z3 : ((p1 : Int) == 0) = false := by simp [noneW, allD, eqAll, nodAll, depAll, varW, idxW, seqW, cmpW, cmpP, vw, cmpD, eqOk, nod, dep, eqD, truW, truD, b1W, binW, binD, asg_v, lenW, srcW, rcv1, tyOf, Fr.pur, ofP, m1W, int?, slW, slD, isiW, isTy, kindOk, isD, isW, inStr, nod_ones, T_beq, nod_strs, dep_strs, b2W, eq_nil, z1]
        simp [noneW, allD, eqAll, nodAll, depAll, varW, idxW, seqW, cmpW, cmpP, vw, cmpD, eqOk, nod, dep, eqD, truW, truD, b1W, binW, binD, asg_v, lenW, srcW, rcv1, tyOf, Fr.pur, ofP, m1W, int?, slW, slD, isiW, isTy, kindOk, isD, isW, inStr, nod_ones, T_beq, nod_strs, dep_strs, b2W, eq_nil, z1, z3]
        by_cases z2 : p2 = 0
        · simp [noneW, allD, eqAll, nodAll, depAll, varW, idxW, seqW, cmpW, cmpP, vw, cmpD, eqOk, nod, dep, eqD, truW, truD, b1W, binW, binD, asg_v, lenW, srcW, rcv1, tyOf, Fr.pur, ofP, m1W, int?, slW, slD, isiW, isTy, kindOk, isD, isW, inStr, nod_ones, T_beq, nod_strs, dep_strs, b2W, eq_nil, z2]
        · have : ¬ ((p2 : Int) = 0) := by omega
          have z4 : ((p2 : Int) == 0) = false := by simp [noneW, allD, eqAll, nodAll, depAll, varW, idxW, seqW, cmpW, cmpP, vw, cmpD, eqOk, nod, dep, eqD, truW, truD, b1W, binW, binD, asg_v, lenW, srcW, rcv1, tyOf, Fr.pur, ofP, m1W, int?, slW, slD, isiW, isTy, kindOk, isD, isW, inStr, nod_ones, T_beq, nod_strs, dep_strs, b2W, eq_nil, z2]
          simp [noneW, allD, eqAll, nodAll, depAll, varW, idxW, seqW, cmpW, cmpP, vw, cmpD, eqOk, nod, dep, eqD, truW, truD, b1W, binW, binD, asg_v, lenW, srcW, rcv1, tyOf, Fr.pur, ofP, m1W, int?, slW, slD, isiW, isTy, kindOk, isD, isW, inStr, nod_ones, T_beq, nod_strs, dep_strs, b2W, eq_nil, z2, z4]
  show exitR .pure st (evSs EP R0 (callD EP R0 (j + 20)) b_law_one [some (.d (dStr t)), some (.d (dStr u)), none, none, none] st) = _
  rw [b_law_one, evSs, P1, Out.next_nx, evSs, evS, evE, Q1]
  simp only [Res.bind_ok]
  have hlast : decide ((as ++ [x]).getLast? = (bs ++ [y]).getLast?) = decide (x = y) := by simp [noneW, allD, eqAll, nodAll, depAll, varW, idxW, seqW, cmpW, cmpP, vw, cmpD, eqOk, nod, dep, eqD, truW, truD, b1W, binW, binD, asg_v, lenW, srcW, rcv1, tyOf, Fr.pur, ofP, m1W, int?, slW, slD, isiW, isTy, kindOk, isD, isW, inStr, nod_ones, T_beq, nod_strs, dep_strs, b2W, eq_nil]
  have hd1 : (as ++ [x]).dropLast = as := by simp [noneW, allD, eqAll, nodAll, depAll, varW, idxW, seqW, cmpW, cmpP, vw, cmpD, eqOk, nod, dep, eqD, truW, truD, b1W, binW, binD, asg_v, lenW, srcW, rcv1, tyOf, Fr.pur, ofP, m1W, int?, slW, slD, isiW, isTy, kindOk, isD, isW, inStr, nod_ones, T_beq, nod_strs, dep_strs, b2W, eq_nil]
  have hd2 : (bs ++ [y]).dropLast = bs := by simp [noneW, allD, eqAll, nodAll, depAll, varW, idxW, seqW, cmpW, cmpP, vw, cmpD, eqOk, nod, dep, eqD, truW, truD, b1W, binW, binD, asg_v, lenW, srcW, rcv1, tyOf, Fr.pur, ofP, m1W, int?, slW, slD, isiW, isTy, kindOk, isD, isW, inStr, nod_ones, T_beq, nod_strs, dep_strs, b2W, eq_nil]
  rw [hlast, hd1, hd2]
  have hll : ((bs ++ [y]).length < (as ++ [x]).length) ↔ bs.length < as.length := by simp [noneW, allD, eqAll, nodAll, depAll, varW, idxW, seqW, cmpW, cmpP, vw, cmpD, eqOk, nod, dep, eqD, truW, truD, b1W, binW, binD, asg_v, lenW, srcW, rcv1, tyOf, Fr.pur, ofP, m1W, int?, slW, slD, isiW, isTy, kindOk, isD, isW, inStr, nod_ones, T_beq, nod_strs, dep_strs, b2W, eq_nil]
  simp only [hll]
  have hk : decide (ps.filter (fun p => decide (p.1 = 0) || decide (p.2 = 0)) ≠ []) = (if bs.length < as.length then fitP bs as else fitP as bs) := by
    rw [Bool.eq_iff_iff, decide_eq_true_iff]
    exact key
  by_cases hxy : x = y
  · simp only [hxy, decide_true, Q2, hk, Bool.true_and, Res.out_ok, Out.next_rt, exit_one]
  · simp [noneW, allD, eqAll, nodAll, depAll, varW, idxW, seqW, cmpW, cmpP, vw, cmpD, eqOk, nod, dep, eqD, truW, truD, b1W, binW, binD, asg_v, lenW, srcW, rcv1, tyOf, Fr.pur, ofP, m1W, int?, slW, slD, isiW, isTy, kindOk, isD, isW, inStr, nod_ones, T_beq, nod_strs, dep_strs, b2W, eq_nil, hxy]
end HT
end

section
set_option Elab.async false
set_option linter.all false
set_option maxRecDepth 100000
set_option autoImplicit false
set_option maxHeartbeats 4000000
namespace HT
open PySem FM
/-! ### letters -/
def ltr (c : Nat) : Bool := decide (lower1 c ∈ LT)
def nl (t : List Nat) : Nat := (t.filter fun c => !ltr c).length
theorem nl_app (a b : List Nat) : nl (a ++ b) = nl a + nl b := by simp [noneW, allD, eqAll, nodAll, depAll, varW, idxW, seqW, cmpW, cmpP, vw, cmpD, eqOk, nod, dep, eqD, truW, truD, b1W, binW, binD, asg_v, lenW, srcW, rcv1, tyOf, Fr.pur, ofP, m1W, int?, slW, slD, isiW, isTy, kindOk, isD, isW, inStr, nod_ones, T_beq, nod_strs, dep_strs, b2W, eq_nil, nl]
theorem fold_ne (l : List Nat) : ∀ s : List (List Nat) × List Nat, s.1 ≠ [] → (l.foldl rstep s).1 ≠ [] := by
  induction l with
  | nil => intro s h; exact h
  | cons c l ih =>
    intro s h
    refine ih _ ?_
    unfold rstep
    split
    · exact h
    · split
      · exact h
      · simp [noneW, allD, eqAll, nodAll, depAll, varW, idxW, seqW, cmpW, cmpP, vw, cmpD, eqOk, nod, dep, eqD, truW, truD, b1W, binW, binD, asg_v, lenW, srcW, rcv1, tyOf, Fr.pur, ofP, m1W, int?, slW, slD, isiW, isTy, kindOk, isD, isW, inStr, nod_ones, T_beq, nod_strs, dep_strs, b2W, eq_nil]
theorem fold_ne2 (l : List Nat) : ∀ s : List (List Nat) × List Nat, s.2 ≠ [] → ((l ++ [32]).foldl rstep s).1 ≠ [] := by
  induction l with
  | nil =>
    intro s h
    simp [noneW, allD, eqAll, nodAll, depAll, varW, idxW, seqW, cmpW, cmpP, vw, cmpD, eqOk, nod, dep, eqD, truW, truD, b1W, binW, binD, asg_v, lenW, srcW, rcv1, tyOf, Fr.pur, ofP, m1W, int?, slW, slD, isiW, isTy, kindOk, isD, isW, inStr, nod_ones, T_beq, nod_strs, dep_strs, b2W, eq_nil, rstep, LT, h]
  | cons c l ih =>
    intro s h
    simp only [List.cons_append, List.foldl_cons]
    by_cases hc : c ∈ LT
    · refine ih _ ?_
      simp [noneW, allD, eqAll, nodAll, depAll, varW, idxW, seqW, cmpW, cmpP, vw, cmpD, eqOk, nod, dep, eqD, truW, truD, b1W, binW, binD, asg_v, lenW, srcW, rcv1, tyOf, Fr.pur, ofP, m1W, int?, slW, slD, isiW, isTy, kindOk, isD, isW, inStr, nod_ones, T_beq, nod_strs, dep_strs, b2W, eq_nil, rstep, hc]
    · refine fold_ne _ _ ?_
      simp [noneW, allD, eqAll, nodAll, depAll, varW, idxW, seqW, cmpW, cmpP, vw, cmpD, eqOk, nod, dep, eqD, truW, truD, b1W, binW, binD, asg_v, lenW, srcW, rcv1, tyOf, Fr.pur, ofP, m1W, int?, slW, slD, isiW, isTy, kindOk, isD, isW, inStr, nod_ones, T_beq, nod_strs, dep_strs, b2W, eq_nil, rstep, hc, h]
theorem fold_ne3 (l : List Nat) : ∀ s : List (List Nat) × List Nat, (∃ c ∈ l, c ∈ LT) → ((l ++ [32]).foldl rstep s).1 ≠ [] := by
  induction l with
  | nil => rintro s ⟨c, h, _⟩; cases h
  | cons a l ih =>
    rintro s ⟨c, h, hc⟩
    simp only [List.cons_append, List.foldl_cons]
    by_cases ha : a ∈ LT
    · refine fold_ne2 _ _ ?_
      simp [noneW, allD, eqAll, nodAll, depAll, varW, idxW, seqW, cmpW, cmpP, vw, cmpD, eqOk, nod, dep, eqD, truW, truD, b1W, binW, binD, asg_v, lenW, srcW, rcv1, tyOf, Fr.pur, ofP, m1W, int?, slW, slD, isiW, isTy, kindOk, isD, isW, inStr, nod_ones, T_beq, nod_strs, dep_strs, b2W, eq_nil, rstep, ha]
    · rcases List.mem_cons.mp h with rfl | h
      · exact absurd hc ha
      · exact ih _ ⟨c, h, hc⟩
theorem rows_ne {t : List Nat} (h : ∃ c ∈ t, ltr c = true) : rowsP t ≠ [] := by
  obtain ⟨c, h1, h2⟩ := h
  exact fold_ne3 _ _ ⟨lower1 c, List.mem_map.mpr ⟨c, h1, rfl⟩, by simpa [noneW, allD, eqAll, nodAll, depAll, varW, idxW, seqW, cmpW, cmpP, vw, cmpD, eqOk, nod, dep, eqD, truW, truD, b1W, binW, binD, asg_v, lenW, srcW, rcv1, tyOf, Fr.pur, ofP, m1W, int?, slW, slD, isiW, isTy, kindOk, isD, isW, inStr, nod_ones, T_beq, nod_strs, dep_strs, b2W, eq_nil, ltr] using h2⟩
theorem unsplit (l : List Nat) : joinT [44] (splitC 44 l) = l := by
  induction l with
  | nil => rfl
  | cons c l ih =>
    have hne := split_ne 44 l
    simp only [splitC]
    by_cases h : c = 44
    · rw [if_pos h]
      cases hs : splitC 44 l with
      | nil => exact absurd hs hne
      | cons y r =>
        rw [hs] at ih
        simp only [joinT, List.nil_append, ih, h]
        rfl
    · rw [if_neg h]
      cases hs : splitC 44 l with
      | nil => exact absurd hs hne
      | cons y r =>
        rw [hs] at ih
        cases r with
        | nil =>
          simp only [joinT] at ih ⊢
          rw [ih]
        | cons z r =>
          simp only [joinT] at ih ⊢
          rw [← ih]
          rfl
theorem words_ne {t : List Nat} (h : ∃ c ∈ t, ltr c = true) : wordsP t ≠ [] := by
  unfold wordsP
  split
  · rename_i a b hs
    have := unsplit t
    rw [hs] at this
    simp only [joinT] at this
    obtain ⟨c, h1, h2⟩ := h
    rw [← this] at h1
    simp only [List.mem_append, List.mem_singleton] at h1
    rcases h1 with (h1 | h1) | h1
    · have := rows_ne ⟨c, h1, h2⟩
      simp [noneW, allD, eqAll, nodAll, depAll, varW, idxW, seqW, cmpW, cmpP, vw, cmpD, eqOk, nod, dep, eqD, truW, truD, b1W, binW, binD, asg_v, lenW, srcW, rcv1, tyOf, Fr.pur, ofP, m1W, int?, slW, slD, isiW, isTy, kindOk, isD, isW, inStr, nod_ones, T_beq, nod_strs, dep_strs, b2W, eq_nil, this]
    · subst h1
      simp [noneW, allD, eqAll, nodAll, depAll, varW, idxW, seqW, cmpW, cmpP, vw, cmpD, eqOk, nod, dep, eqD, truW, truD, b1W, binW, binD, asg_v, lenW, srcW, rcv1, tyOf, Fr.pur, ofP, m1W, int?, slW, slD, isiW, isTy, kindOk, isD, isW, inStr, nod_ones, T_beq, nod_strs, dep_strs, b2W, eq_nil, ltr, lower1, LT] at h2
    · have := rows_ne ⟨c, h1, h2⟩
      simp [noneW, allD, eqAll, nodAll, depAll, varW, idxW, seqW, cmpW, cmpP, vw, cmpD, eqOk, nod, dep, eqD, truW, truD, b1W, binW, binD, asg_v, lenW, srcW, rcv1, tyOf, Fr.pur, ofP, m1W, int?, slW, slD, isiW, isTy, kindOk, isD, isW, inStr, nod_ones, T_beq, nod_strs, dep_strs, b2W, eq_nil, this]
  · exact rows_ne h
theorem fold_cnt (l : List Nat) : ∀ s : List (List Nat) × List Nat, (l.foldl rstep s).1.length ≤ s.1.length + (l.filter fun c => !decide (c ∈ LT)).length := by
  induction l with
  | nil => intro s; simp [noneW, allD, eqAll, nodAll, depAll, varW, idxW, seqW, cmpW, cmpP, vw, cmpD, eqOk, nod, dep, eqD, truW, truD, b1W, binW, binD, asg_v, lenW, srcW, rcv1, tyOf, Fr.pur, ofP, m1W, int?, slW, slD, isiW, isTy, kindOk, isD, isW, inStr, nod_ones, T_beq, nod_strs, dep_strs, b2W, eq_nil]
  | cons c l ih =>
    intro s
    simp only [List.foldl_cons]
    have := ih (rstep s c)
    by_cases hc : c ∈ LT
    · simp only [rstep, hc, if_true] at this
      simpa [noneW, allD, eqAll, nodAll, depAll, varW, idxW, seqW, cmpW, cmpP, vw, cmpD, eqOk, nod, dep, eqD, truW, truD, b1W, binW, binD, asg_v, lenW, srcW, rcv1, tyOf, Fr.pur, ofP, m1W, int?, slW, slD, isiW, isTy, kindOk, isD, isW, inStr, nod_ones, T_beq, nod_strs, dep_strs, b2W, eq_nil, rstep, hc] using this
    · have h2 : (rstep s c).1.length ≤ s.1.length + 1 := by
        simp only [rstep, hc, if_false]
        split <;> simp [noneW, allD, eqAll, nodAll, depAll, varW, idxW, seqW, cmpW, cmpP, vw, cmpD, eqOk, nod, dep, eqD, truW, truD, b1W, binW, binD, asg_v, lenW, srcW, rcv1, tyOf, Fr.pur, ofP, m1W, int?, slW, slD, isiW, isTy, kindOk, isD, isW, inStr, nod_ones, T_beq, nod_strs, dep_strs, b2W, eq_nil]
      simp [noneW, allD, eqAll, nodAll, depAll, varW, idxW, seqW, cmpW, cmpP, vw, cmpD, eqOk, nod, dep, eqD, truW, truD, b1W, binW, binD, asg_v, lenW, srcW, rcv1, tyOf, Fr.pur, ofP, m1W, int?, slW, slD, isiW, isTy, kindOk, isD, isW, inStr, nod_ones, T_beq, nod_strs, dep_strs, b2W, eq_nil, hc]
      omega
theorem rows_cnt (t : List Nat) : (rowsP t).length ≤ nl t + 1 := by
  have h := fold_cnt (t.map lower1 ++ [32]) ([], [])
  have e : ((t.map lower1 ++ [32]).filter fun c => !decide (c ∈ LT)).length = nl t + 1 := by
    rw [List.filter_append, List.length_append, List.filter_map, List.length_map]
    have : ([32].filter fun c => !decide (c ∈ LT)).length = 1 := by simp [noneW, allD, eqAll, nodAll, depAll, varW, idxW, seqW, cmpW, cmpP, vw, cmpD, eqOk, nod, dep, eqD, truW, truD, b1W, binW, binD, asg_v, lenW, srcW, rcv1, tyOf, Fr.pur, ofP, m1W, int?, slW, slD, isiW, isTy, kindOk, isD, isW, inStr, nod_ones, T_beq, nod_strs, dep_strs, b2W, eq_nil, LT]
    rw [this]
    rfl
  rw [e] at h
  simpa [noneW, allD, eqAll, nodAll, depAll, varW, idxW, seqW, cmpW, cmpP, vw, cmpD, eqOk, nod, dep, eqD, truW, truD, b1W, binW, binD, asg_v, lenW, srcW, rcv1, tyOf, Fr.pur, ofP, m1W, int?, slW, slD, isiW, isTy, kindOk, isD, isW, inStr, nod_ones, T_beq, nod_strs, dep_strs, b2W, eq_nil, rowsP, scan] using h
theorem words_cnt (t : List Nat) : (wordsP t).length ≤ nl t + 1 := by
  unfold wordsP
  split
  · rename_i a b hs
    have := unsplit t
    rw [hs] at this
    simp only [joinT] at this
    rw [← this, nl_app, nl_app]
    have h1 := rows_cnt a
    have h2 := rows_cnt b
    have h3 : nl [44] = 1 := by simp [noneW, allD, eqAll, nodAll, depAll, varW, idxW, seqW, cmpW, cmpP, vw, cmpD, eqOk, nod, dep, eqD, truW, truD, b1W, binW, binD, asg_v, lenW, srcW, rcv1, tyOf, Fr.pur, ofP, m1W, int?, slW, slD, isiW, isTy, kindOk, isD, isW, inStr, nod_ones, T_beq, nod_strs, dep_strs, b2W, eq_nil, nl, ltr, lower1, LT]
    simp [noneW, allD, eqAll, nodAll, depAll, varW, idxW, seqW, cmpW, cmpP, vw, cmpD, eqOk, nod, dep, eqD, truW, truD, b1W, binW, binD, asg_v, lenW, srcW, rcv1, tyOf, Fr.pur, ofP, m1W, int?, slW, slD, isiW, isTy, kindOk, isD, isW, inStr, nod_ones, T_beq, nod_strs, dep_strs, b2W, eq_nil]
    omega
  · exact rows_cnt t
/-- a piece of a name -/
structure Gt (t : List Nat) (L n : Nat) : Prop where
  a : asc t
  l : t.length ≤ L
  p : t.all pr = true
  n : nl t ≤ n
theorem Gt.app {a b : List Nat} {L M n m : Nat} (h : Gt a L n) (k : Gt b M m) : Gt (a ++ b) (L + M) (n + m) :=
  ⟨fun c hc => (List.mem_append.mp hc).elim (h.a c) (k.a c), by have := h.l; have := k.l; simp [noneW, allD, eqAll, nodAll, depAll, varW, idxW, seqW, cmpW, cmpP, vw, cmpD, eqOk, nod, dep, eqD, truW, truD, b1W, binW, binD, asg_v, lenW, srcW, rcv1, tyOf, Fr.pur, ofP, m1W, int?, slW, slD, isiW, isTy, kindOk, isD, isW, inStr, nod_ones, T_beq, nod_strs, dep_strs, b2W, eq_nil]; omega, by rw [List.all_append, h.p, k.p]; rfl, by have := h.n; have := k.n; rw [nl_app]; omega⟩
theorem Gt.mono {a : List Nat} {L M n m : Nat} (h : Gt a L n) (h1 : L ≤ M) (h2 : n ≤ m) : Gt a M m := ⟨h.a, by have := h.l; omega, h.p, by have := h.n; omega⟩
theorem Gt.nil : Gt [] 0 0 := ⟨fun c h => (by cases h), by simp [noneW, allD, eqAll, nodAll, depAll, varW, idxW, seqW, cmpW, cmpP, vw, cmpD, eqOk, nod, dep, eqD, truW, truD, b1W, binW, binD, asg_v, lenW, srcW, rcv1, tyOf, Fr.pur, ofP, m1W, int?, slW, slD, isiW, isTy, kindOk, isD, isW, inStr, nod_ones, T_beq, nod_strs, dep_strs, b2W, eq_nil], rfl, by simp [noneW, allD, eqAll, nodAll, depAll, varW, idxW, seqW, cmpW, cmpP, vw, cmpD, eqOk, nod, dep, eqD, truW, truD, b1W, binW, binD, asg_v, lenW, srcW, rcv1, tyOf, Fr.pur, ofP, m1W, int?, slW, slD, isiW, isTy, kindOk, isD, isW, inStr, nod_ones, T_beq, nod_strs, dep_strs, b2W, eq_nil, nl]⟩
theorem Gt.flat {gs : List (List Nat)} {L n : Nat} (h : ∀ g ∈ gs, Gt g L n) : Gt gs.flatten (gs.length * L) (gs.length * n) := by
  induction gs with
  | nil => simpa [noneW, allD, eqAll, nodAll, depAll, varW, idxW, seqW, cmpW, cmpP, vw, cmpD, eqOk, nod, dep, eqD, truW, truD, b1W, binW, binD, asg_v, lenW, srcW, rcv1, tyOf, Fr.pur, ofP, m1W, int?, slW, slD, isiW, isTy, kindOk, isD, isW, inStr, nod_ones, T_beq, nod_strs, dep_strs, b2W, eq_nil] using Gt.nil
  | cons g gs ih =>
    have h1 := ih fun x hx => h x (List.mem_cons_of_mem _ hx)
    have h2 := (h g List.mem_cons_self).app h1
    exact h2.mono (by simp [noneW, allD, eqAll, nodAll, depAll, varW, idxW, seqW, cmpW, cmpP, vw, cmpD, eqOk, nod, dep, eqD, truW, truD, b1W, binW, binD, asg_v, lenW, srcW, rcv1, tyOf, Fr.pur, ofP, m1W, int?, slW, slD, isiW, isTy, kindOk, isD, isW, inStr, nod_ones, T_beq, nod_strs, dep_strs, b2W, eq_nil, Nat.succ_mul]; omega) (by simp [noneW, allD, eqAll, nodAll, depAll, varW, idxW, seqW, cmpW, cmpP, vw, cmpD, eqOk, nod, dep, eqD, truW, truD, b1W, binW, binD, asg_v, lenW, srcW, rcv1, tyOf, Fr.pur, ofP, m1W, int?, slW, slD, isiW, isTy, kindOk, isD, isW, inStr, nod_ones, T_beq, nod_strs, dep_strs, b2W, eq_nil, Nat.succ_mul]; omega)
/-- a drawn name -/
structure Dn (t : List Nat) : Prop where
  g : Gt t 40 9
  h : ∃ c ∈ t, ltr c = true
theorem Dn.nm {t : List Nat} (d : Dn t) : Nm t := ⟨d.g.a, by have := d.g.l; omega, words_ne d.h, by have := words_cnt t; have := d.g.n; omega⟩
theorem Dn.wr {t : List Nat} (d : Dn t) : wrtP t = true := by
  have h0 : 1 ≤ t.length := by
    obtain ⟨c, h, _⟩ := d.h
    exact List.length_pos_iff.mpr fun z => by rw [z] at h; cases h
  simp [noneW, allD, eqAll, nodAll, depAll, varW, idxW, seqW, cmpW, cmpP, vw, cmpD, eqOk, nod, dep, eqD, truW, truD, b1W, binW, binD, asg_v, lenW, srcW, rcv1, tyOf, Fr.pur, ofP, m1W, int?, slW, slD, isiW, isTy, kindOk, isD, isW, inStr, nod_ones, T_beq, nod_strs, dep_strs, b2W, eq_nil, wrtP, d.g.p, d.g.l, rows_ne d.h]
  exact h0
end HT
end

section
set_option Elab.async false
set_option linter.all false
set_option maxRecDepth 100000
set_option autoImplicit false
set_option maxHeartbeats 4000000
namespace HT
open PySem FM
theorem hT : EP.fn "_law_taken" = some ⟨2, 4, .eff, takenB⟩ := rfl
theorem hP : EP.fn "_law_pick" = some ⟨2, 2, .eff, pickB⟩ := rfl
theorem hA : EP.fn "_law_alike" = some ⟨2, 4, .pure, alikeB⟩ := rfl
theorem gt_of {t : List Nat} {L n : Nat} (h1 : t.all (fun c => decide (c < 128)) = true) (h2 : decide (t.length ≤ L) = true) (h3 : t.all pr = true) (h4 : decide (nl t ≤ n) = true) : Gt t L n :=
  ⟨fun c hc => by simpa [noneW, allD, eqAll, nodAll, depAll, varW, idxW, seqW, cmpW, cmpP, vw, cmpD, eqOk, nod, dep, eqD, truW, truD, b1W, binW, binD, asg_v, lenW, srcW, rcv1, tyOf, Fr.pur, ofP, m1W, int?, slW, slD, isiW, isTy, kindOk, isD, isW, inStr, nod_ones, T_beq, nod_strs, dep_strs, b2W, eq_nil] using List.all_eq_true.mp h1 c hc, of_decide_eq_true h2, h3, of_decide_eq_true h4⟩
theorem strs_of2 {l : List W} {Q : List Nat → Prop} (h : ∀ y ∈ l, ∃ g : List Nat, Q g ∧ y = .d (dStr g)) : ∃ gs : List (List Nat), (∀ g ∈ gs, Q g) ∧ gs.length = l.length ∧ l = gs.map fun c => .d (dStr c) := by
  induction l with
  | nil => exact ⟨[], (fun c hc => (by simp [noneW, allD, eqAll, nodAll, depAll, varW, idxW, seqW, cmpW, cmpP, vw, cmpD, eqOk, nod, dep, eqD, truW, truD, b1W, binW, binD, asg_v, lenW, srcW, rcv1, tyOf, Fr.pur, ofP, m1W, int?, slW, slD, isiW, isTy, kindOk, isD, isW, inStr, nod_ones, T_beq, nod_strs, dep_strs, b2W, eq_nil] at hc)), rfl, rfl⟩
  | cons a l ih =>
    obtain ⟨c, hc, rfl⟩ := h a List.mem_cons_self
    obtain ⟨ds, h1, h2, rfl⟩ := ih fun y hy => h y (List.mem_cons_of_mem _ hy)
    refine ⟨c :: ds, fun x hx => ?_, by simp [noneW, allD, eqAll, nodAll, depAll, varW, idxW, seqW, cmpW, cmpP, vw, cmpD, eqOk, nod, dep, eqD, truW, truD, b1W, binW, binD, asg_v, lenW, srcW, rcv1, tyOf, Fr.pur, ofP, m1W, int?, slW, slD, isiW, isTy, kindOk, isD, isW, inStr, nod_ones, T_beq, nod_strs, dep_strs, b2W, eq_nil], rfl⟩
    rcases List.mem_cons.mp hx with rfl | hx
    · exact hc
    · exact h1 x hx
theorem sum_flat (gs : List (List Nat)) : (gs.map List.length).sum = gs.flatten.length := by simp [noneW, allD, eqAll, nodAll, depAll, varW, idxW, seqW, cmpW, cmpP, vw, cmpD, eqOk, nod, dep, eqD, truW, truD, b1W, binW, binD, asg_v, lenW, srcW, rcv1, tyOf, Fr.pur, ofP, m1W, int?, slW, slD, isiW, isTy, kindOk, isD, isW, inStr, nod_ones, T_beq, nod_strs, dep_strs, b2W, eq_nil, List.length_flatten]
def WI (ns : List Int) (ws : List W) (ρ : FM.Env) (st : Sto) : Prop := ∃ (gs : List (List Nat)) (v2 v3 v4 v5 v6 : Option W), (∀ w ∈ ws, w = .d (dStr [65, 110, 110]) ∨ w = .d (dStr [77, 97, 114, 121]) ∨ w = .d (dStr [65, 108, 98, 97])) ∧ (∀ g ∈ gs, Gt g 4 1) ∧ gs.length + ws.length ≤ 3 ∧ ρ = [some (.ref 0), some (.ref 1), v2, v3, v4, v5, v6] ∧ Row ns [.lst (gs.map fun g => .d (dStr g))] st
theorem join_gt {sep : List Nat} {m : Nat} (hs : Gt sep m m) {gs : List (List Nat)} {x : List Nat} (h : ∀ g ∈ gs, Gt g 4 1) (hx : Gt x 4 0) (hl : gs.length ≤ 3) : Gt (joinT sep (gs ++ [x])) (16 + 3 * m) (3 + 3 * m) := by
  match gs, hl with
  | [], _ => exact hx.mono (by omega) (by omega)
  | [a], _ =>
    have ha := h a (by simp [noneW, allD, eqAll, nodAll, depAll, varW, idxW, seqW, cmpW, cmpP, vw, cmpD, eqOk, nod, dep, eqD, truW, truD, b1W, binW, binD, asg_v, lenW, srcW, rcv1, tyOf, Fr.pur, ofP, m1W, int?, slW, slD, isiW, isTy, kindOk, isD, isW, inStr, nod_ones, T_beq, nod_strs, dep_strs, b2W, eq_nil])
    exact ((ha.app hs).app hx).mono (by omega) (by omega)
  | [a, b], _ =>
    have ha := h a (by simp [noneW, allD, eqAll, nodAll, depAll, varW, idxW, seqW, cmpW, cmpP, vw, cmpD, eqOk, nod, dep, eqD, truW, truD, b1W, binW, binD, asg_v, lenW, srcW, rcv1, tyOf, Fr.pur, ofP, m1W, int?, slW, slD, isiW, isTy, kindOk, isD, isW, inStr, nod_ones, T_beq, nod_strs, dep_strs, b2W, eq_nil])
    have hb := h b (by simp [noneW, allD, eqAll, nodAll, depAll, varW, idxW, seqW, cmpW, cmpP, vw, cmpD, eqOk, nod, dep, eqD, truW, truD, b1W, binW, binD, asg_v, lenW, srcW, rcv1, tyOf, Fr.pur, ofP, m1W, int?, slW, slD, isiW, isTy, kindOk, isD, isW, inStr, nod_ones, T_beq, nod_strs, dep_strs, b2W, eq_nil])
    exact ((ha.app hs).app ((hb.app hs).app hx)).mono (by omega) (by omega)
  | [a, b, c], _ =>
    have ha := h a (by simp [noneW, allD, eqAll, nodAll, depAll, varW, idxW, seqW, cmpW, cmpP, vw, cmpD, eqOk, nod, dep, eqD, truW, truD, b1W, binW, binD, asg_v, lenW, srcW, rcv1, tyOf, Fr.pur, ofP, m1W, int?, slW, slD, isiW, isTy, kindOk, isD, isW, inStr, nod_ones, T_beq, nod_strs, dep_strs, b2W, eq_nil])
    have hb := h b (by simp [noneW, allD, eqAll, nodAll, depAll, varW, idxW, seqW, cmpW, cmpP, vw, cmpD, eqOk, nod, dep, eqD, truW, truD, b1W, binW, binD, asg_v, lenW, srcW, rcv1, tyOf, Fr.pur, ofP, m1W, int?, slW, slD, isiW, isTy, kindOk, isD, isW, inStr, nod_ones, T_beq, nod_strs, dep_strs, b2W, eq_nil])
    have hc := h c (by simp [noneW, allD, eqAll, nodAll, depAll, varW, idxW, seqW, cmpW, cmpP, vw, cmpD, eqOk, nod, dep, eqD, truW, truD, b1W, binW, binD, asg_v, lenW, srcW, rcv1, tyOf, Fr.pur, ofP, m1W, int?, slW, slD, isiW, isTy, kindOk, isD, isW, inStr, nod_ones, T_beq, nod_strs, dep_strs, b2W, eq_nil])
    exact ((ha.app hs).app ((hb.app hs).app ((hc.app hs).app hx))).mono (by omega) (by omega)
  | a :: b :: c :: d :: r, hl => simp [noneW, allD, eqAll, nodAll, depAll, varW, idxW, seqW, cmpW, cmpP, vw, cmpD, eqOk, nod, dep, eqD, truW, truD, b1W, binW, binD, asg_v, lenW, srcW, rcv1, tyOf, Fr.pur, ofP, m1W, int?, slW, slD, isiW, isTy, kindOk, isD, isW, inStr, nod_ones, T_beq, nod_strs, dep_strs, b2W, eq_nil] at hl
theorem join_mem {sep x : List Nat} : ∀ {gs : List (List Nat)}, ∀ c ∈ x, c ∈ joinT sep (gs ++ [x])
  | [], c, h => h
  | [a], c, h => by
    show c ∈ a ++ sep ++ x
    simp [noneW, allD, eqAll, nodAll, depAll, varW, idxW, seqW, cmpW, cmpP, vw, cmpD, eqOk, nod, dep, eqD, truW, truD, b1W, binW, binD, asg_v, lenW, srcW, rcv1, tyOf, Fr.pur, ofP, m1W, int?, slW, slD, isiW, isTy, kindOk, isD, isW, inStr, nod_ones, T_beq, nod_strs, dep_strs, b2W, eq_nil, h]
  | a :: b :: r, c, h => by
    have := join_mem (sep := sep) (gs := b :: r) c h
    show c ∈ a ++ sep ++ joinT sep (b :: r ++ [x])
    simp only [List.mem_append]
    exact .inr this
theorem join_gt0 {gs : List (List Nat)} (h : ∀ g ∈ gs, Gt g 4 1) (hl : gs.length ≤ 3) : Gt (joinT [32] gs) 14 5 := by
  have hs : Gt [32] 1 1 := gt_of (by decide) (by decide) (by decide) (by decide)
  match gs, hl with
  | [], _ => exact Gt.nil.mono (by omega) (by omega)
  | [a], _ => exact (h a (by simp [noneW, allD, eqAll, nodAll, depAll, varW, idxW, seqW, cmpW, cmpP, vw, cmpD, eqOk, nod, dep, eqD, truW, truD, b1W, binW, binD, asg_v, lenW, srcW, rcv1, tyOf, Fr.pur, ofP, m1W, int?, slW, slD, isiW, isTy, kindOk, isD, isW, inStr, nod_ones, T_beq, nod_strs, dep_strs, b2W, eq_nil])).mono (by omega) (by omega)
  | [a, b], _ => exact (((h a (by simp [noneW, allD, eqAll, nodAll, depAll, varW, idxW, seqW, cmpW, cmpP, vw, cmpD, eqOk, nod, dep, eqD, truW, truD, b1W, binW, binD, asg_v, lenW, srcW, rcv1, tyOf, Fr.pur, ofP, m1W, int?, slW, slD, isiW, isTy, kindOk, isD, isW, inStr, nod_ones, T_beq, nod_strs, dep_strs, b2W, eq_nil])).app hs).app (h b (by simp [noneW, allD, eqAll, nodAll, depAll, varW, idxW, seqW, cmpW, cmpP, vw, cmpD, eqOk, nod, dep, eqD, truW, truD, b1W, binW, binD, asg_v, lenW, srcW, rcv1, tyOf, Fr.pur, ofP, m1W, int?, slW, slD, isiW, isTy, kindOk, isD, isW, inStr, nod_ones, T_beq, nod_strs, dep_strs, b2W, eq_nil]))).mono (by omega) (by omega)
  | [a, b, c], _ => exact (((h a (by simp [noneW, allD, eqAll, nodAll, depAll, varW, idxW, seqW, cmpW, cmpP, vw, cmpD, eqOk, nod, dep, eqD, truW, truD, b1W, binW, binD, asg_v, lenW, srcW, rcv1, tyOf, Fr.pur, ofP, m1W, int?, slW, slD, isiW, isTy, kindOk, isD, isW, inStr, nod_ones, T_beq, nod_strs, dep_strs, b2W, eq_nil])).app hs).app (((h b (by simp [noneW, allD, eqAll, nodAll, depAll, varW, idxW, seqW, cmpW, cmpP, vw, cmpD, eqOk, nod, dep, eqD, truW, truD, b1W, binW, binD, asg_v, lenW, srcW, rcv1, tyOf, Fr.pur, ofP, m1W, int?, slW, slD, isiW, isTy, kindOk, isD, isW, inStr, nod_ones, T_beq, nod_strs, dep_strs, b2W, eq_nil])).app hs).app (h c (by simp [noneW, allD, eqAll, nodAll, depAll, varW, idxW, seqW, cmpW, cmpP, vw, cmpD, eqOk, nod, dep, eqD, truW, truD, b1W, binW, binD, asg_v, lenW, srcW, rcv1, tyOf, Fr.pur, ofP, m1W, int?, slW, slD, isiW, isTy, kindOk, isD, isW, inStr, nod_ones, T_beq, nod_strs, dep_strs, b2W, eq_nil])))).mono (by omega) (by omega)
  | a :: b :: c :: d :: r, hl => simp [noneW, allD, eqAll, nodAll, depAll, varW, idxW, seqW, cmpW, cmpP, vw, cmpD, eqOk, nod, dep, eqD, truW, truD, b1W, binW, binD, asg_v, lenW, srcW, rcv1, tyOf, Fr.pur, ofP, m1W, int?, slW, slD, isiW, isTy, kindOk, isD, isW, inStr, nod_ones, T_beq, nod_strs, dep_strs, b2W, eq_nil] at hl
theorem join_len2 (sep : List Nat) : ∀ gs : List (List Nat), (joinT sep gs).length + sep.length ≤ (gs.map List.length).sum + gs.length * sep.length + sep.length
  | [] => by simp [noneW, allD, eqAll, nodAll, depAll, varW, idxW, seqW, cmpW, cmpP, vw, cmpD, eqOk, nod, dep, eqD, truW, truD, b1W, binW, binD, asg_v, lenW, srcW, rcv1, tyOf, Fr.pur, ofP, m1W, int?, slW, slD, isiW, isTy, kindOk, isD, isW, inStr, nod_ones, T_beq, nod_strs, dep_strs, b2W, eq_nil, joinT]
  | [a] => by simp [noneW, allD, eqAll, nodAll, depAll, varW, idxW, seqW, cmpW, cmpP, vw, cmpD, eqOk, nod, dep, eqD, truW, truD, b1W, binW, binD, asg_v, lenW, srcW, rcv1, tyOf, Fr.pur, ofP, m1W, int?, slW, slD, isiW, isTy, kindOk, isD, isW, inStr, nod_ones, T_beq, nod_strs, dep_strs, b2W, eq_nil, joinT]
  | a :: b :: r => by
    have := join_len2 sep (b :: r)
    show (a ++ sep ++ joinT sep (b :: r)).length + _ ≤ _
    simp only [List.length_append, List.map_cons, List.sum_cons, List.length_cons, Nat.succ_mul] at this ⊢
    omega
def WR (ns : List Int) (w : W) (st' : Sto) : Prop := (∃ t, Dn t ∧ w = .d (dStr t)) ∧ ∃ rest', Row ns rest' st'
theorem law_written_ok {ns : List Int} {st : Sto} {j : Nat} (h : Row ns [] st) : okR (callD EP R0 (j + 3) "_law_written" [.ref 0] st) fun w st' => (∃ t, Dn t ∧ w = .d (dStr t)) ∧ Row ns [] st' := by
  have hSZ : SZ = 16777216 := rfl
  rw [callD_fn (fn := f_law_written) rfl _ _ rfl]
  apply exit_eff
  have hst : st.length = 1 := by
    obtain ⟨a, b, c, _, rfl⟩ := h
    rfl
  have old : ∀ st' rest', Row ns rest' st' → (st.length ≤ st'.length ∧ okOld st st') ∧ Row ns [] (st'.take st.length) := fun st' rest' ⟨a', b', c', ha', e⟩ => by
    obtain ⟨a, b, c, _, rfl⟩ := h
    subst e
    refine ⟨⟨by simp [noneW, allD, eqAll, nodAll, depAll, varW, idxW, seqW, cmpW, cmpP, vw, cmpD, eqOk, nod, dep, eqD, truW, truD, b1W, binW, binD, asg_v, lenW, srcW, rcv1, tyOf, Fr.pur, ofP, m1W, int?, slW, slD, isiW, isTy, kindOk, isD, isW, inStr, nod_ones, T_beq, nod_strs, dep_strs, b2W, eq_nil], fun i hi => ?_⟩, a', b', c', ha', rfl⟩
    have : i = 0 := by simp [noneW, allD, eqAll, nodAll, depAll, varW, idxW, seqW, cmpW, cmpP, vw, cmpD, eqOk, nod, dep, eqD, truW, truD, b1W, binW, binD, asg_v, lenW, srcW, rcv1, tyOf, Fr.pur, ofP, m1W, int?, slW, slD, isiW, isTy, kindOk, isD, isW, inStr, nod_ones, T_beq, nod_strs, dep_strs, b2W, eq_nil] at hi; omega
    subst this
    exact .inr ⟨_, rfl, by simp [noneW, allD, eqAll, nodAll, depAll, varW, idxW, seqW, cmpW, cmpP, vw, cmpD, eqOk, nod, dep, eqD, truW, truD, b1W, binW, binD, asg_v, lenW, srcW, rcv1, tyOf, Fr.pur, ofP, m1W, int?, slW, slD, isiW, isTy, kindOk, isD, isW, inStr, nod_ones, T_beq, nod_strs, dep_strs, b2W, eq_nil, rowC, Cell.below, W.below]⟩
  show okO (evSs EP R0 (callD EP R0 (j + 2)) b_law_written [some (.ref 0), none, none, none, none, none, none] st) _ _
  suffices hq : okO (evSs EP R0 (callD EP R0 (j + 2)) b_law_written [some (.ref 0), none, none, none, none, none, none] st) (fun _ _ => False) (WR ns) by
    refine okO_imp hq (fun _ _ h => h.elim) fun w st' ⟨⟨t, ht, hw⟩, rest', hr⟩ => ?_
    subst hw
    exact ⟨(old st' rest' hr).1, _, rfl, ⟨t, ht, rfl⟩, (old st' rest' hr).2⟩
  unfold b_law_written
  rw [evSs, okO_next, evS, okO_out]
  simp only [evC, evE, evEs, okR_bind]
  simp [noneW, allD, eqAll, nodAll, depAll, varW, idxW, seqW, cmpW, cmpP, vw, cmpD, eqOk, nod, dep, eqD, truW, truD, b1W, binW, binD, asg_v, lenW, srcW, rcv1, tyOf, Fr.pur, ofP, m1W, int?, slW, slD, isiW, isTy, kindOk, isD, isW, inStr, nod_ones, T_beq, nod_strs, dep_strs, b2W, eq_nil]
  refine okR_imp (taken hT h (m := 6) (by omega) (by omega)) fun w st1 ⟨⟨k, k1, k2, hw⟩, h1⟩ => ?_
  subst hw
  clear h
  by_cases hk : k = 0
  · subst hk
    simp [noneW, allD, eqAll, nodAll, depAll, varW, idxW, seqW, cmpW, cmpP, vw, cmpD, eqOk, nod, dep, eqD, truW, truD, b1W, binW, binD, asg_v, lenW, srcW, rcv1, tyOf, Fr.pur, ofP, m1W, int?, slW, slD, isiW, isTy, kindOk, isD, isW, inStr, nod_ones, T_beq, nod_strs, dep_strs, b2W, eq_nil]
    simp only [evSs, evS, evE, evEs, evF, evI, evCs, okO_next, okO_out, okR_bind]
    simp [noneW, allD, eqAll, nodAll, depAll, varW, idxW, seqW, cmpW, cmpP, vw, cmpD, eqOk, nod, dep, eqD, truW, truD, b1W, binW, binD, asg_v, lenW, srcW, rcv1, tyOf, Fr.pur, ofP, m1W, int?, slW, slD, isiW, isTy, kindOk, isD, isW, inStr, nod_ones, T_beq, nod_strs, dep_strs, b2W, eq_nil]
    refine okR_imp (taken hT h1 (m := 8) (by omega) (by omega)) fun w st2 ⟨⟨k, k1, k2, hw⟩, h2⟩ => ?_
    subst hw
    have hr : rngOk (1 + k) = true := by
      simp [noneW, allD, eqAll, nodAll, depAll, varW, idxW, seqW, cmpW, cmpP, vw, cmpD, eqOk, nod, dep, eqD, truW, truD, b1W, binW, binD, asg_v, lenW, srcW, rcv1, tyOf, Fr.pur, ofP, m1W, int?, slW, slD, isiW, isTy, kindOk, isD, isW, inStr, nod_ones, T_beq, nod_strs, dep_strs, b2W, eq_nil, rngOk]
      omega
    have hlen : (rngL 0 (1 + k).toNat).length = (1 + k).toNat := by simp [noneW, allD, eqAll, nodAll, depAll, varW, idxW, seqW, cmpW, cmpP, vw, cmpD, eqOk, nod, dep, eqD, truW, truD, b1W, binW, binD, asg_v, lenW, srcW, rcv1, tyOf, Fr.pur, ofP, m1W, int?, slW, slD, isiW, isTy, kindOk, isD, isW, inStr, nod_ones, T_beq, nod_strs, dep_strs, b2W, eq_nil, rngL]
    simp [noneW, allD, eqAll, nodAll, depAll, varW, idxW, seqW, cmpW, cmpP, vw, cmpD, eqOk, nod, dep, eqD, truW, truD, b1W, binW, binD, asg_v, lenW, srcW, rcv1, tyOf, Fr.pur, ofP, m1W, int?, slW, slD, isiW, isTy, kindOk, isD, isW, inStr, nod_ones, T_beq, nod_strs, dep_strs, b2W, eq_nil, hr, hlen, hSZ, show ¬ 16777216 < (1 + k).toNat by omega]
    refine okR_imp (lc_inv (I := Row ns []) (Pw := fun y => ∃ g : List Nat, Gt g 3 1 ∧ y = W.d (dStr g)) _ _ h2 ?_) ?_
    · intro w _ st h
      simp [noneW, allD, eqAll, nodAll, depAll, varW, idxW, seqW, cmpW, cmpP, vw, cmpD, eqOk, nod, dep, eqD, truW, truD, b1W, binW, binD, asg_v, lenW, srcW, rcv1, tyOf, Fr.pur, ofP, m1W, int?, slW, slD, isiW, isTy, kindOk, isD, isW, inStr, nod_ones, T_beq, nod_strs, dep_strs, b2W, eq_nil, wip, hSZ]
      refine okR_imp (pick hT hP h (by simp [noneW, allD, eqAll, nodAll, depAll, varW, idxW, seqW, cmpW, cmpP, vw, cmpD, eqOk, nod, dep, eqD, truW, truD, b1W, binW, binD, asg_v, lenW, srcW, rcv1, tyOf, Fr.pur, ofP, m1W, int?, slW, slD, isiW, isTy, kindOk, isD, isW, inStr, nod_ones, T_beq, nod_strs, dep_strs, b2W, eq_nil]) (by simp [noneW, allD, eqAll, nodAll, depAll, varW, idxW, seqW, cmpW, cmpP, vw, cmpD, eqOk, nod, dep, eqD, truW, truD, b1W, binW, binD, asg_v, lenW, srcW, rcv1, tyOf, Fr.pur, ofP, m1W, int?, slW, slD, isiW, isTy, kindOk, isD, isW, inStr, nod_ones, T_beq, nod_strs, dep_strs, b2W, eq_nil])) fun w st' ⟨⟨x, hx, hw⟩, h⟩ => ?_
      subst hw
      simp [noneW, allD, eqAll, nodAll, depAll, varW, idxW, seqW, cmpW, cmpP, vw, cmpD, eqOk, nod, dep, eqD, truW, truD, b1W, binW, binD, asg_v, lenW, srcW, rcv1, tyOf, Fr.pur, ofP, m1W, int?, slW, slD, isiW, isTy, kindOk, isD, isW, inStr, nod_ones, T_beq, nod_strs, dep_strs, b2W, eq_nil] at hx
      refine ⟨h, ?_⟩
      rcases hx with h | h | h | h | h | h | h | h | h <;> subst h <;> exact ⟨_, gt_of (by decide) (by decide) (by decide) (by decide), rfl⟩
    · rintro ys st3 ⟨h3, hl, hy⟩
      obtain ⟨gs, g1, g2, rfl⟩ := strs_of2 hy
      simp [noneW, allD, eqAll, nodAll, depAll, varW, idxW, seqW, cmpW, cmpP, vw, cmpD, eqOk, nod, dep, eqD, truW, truD, b1W, binW, binD, asg_v, lenW, srcW, rcv1, tyOf, Fr.pur, ofP, m1W, int?, slW, slD, isiW, isTy, kindOk, isD, isW, inStr, nod_ones, T_beq, nod_strs, dep_strs, b2W, eq_nil] at g2 hl
      have hfl := Gt.flat g1
      have hgl : gs.length ≤ 8 := by omega
      have hs : (gs.map List.length).sum ≤ 24 := by
        rw [sum_flat]
        have := hfl.l
        omega
      simp [noneW, allD, eqAll, nodAll, depAll, varW, idxW, seqW, cmpW, cmpP, vw, cmpD, eqOk, nod, dep, eqD, truW, truD, b1W, binW, binD, asg_v, lenW, srcW, rcv1, tyOf, Fr.pur, ofP, m1W, int?, slW, slD, isiW, isTy, kindOk, isD, isW, inStr, nod_ones, T_beq, nod_strs, dep_strs, b2W, eq_nil, hSZ, show (gs.map List.length).sum ≤ 16777216 by omega, join_flat]
      refine okR_imp (pick hT hP h3 (by simp [noneW, allD, eqAll, nodAll, depAll, varW, idxW, seqW, cmpW, cmpP, vw, cmpD, eqOk, nod, dep, eqD, truW, truD, b1W, binW, binD, asg_v, lenW, srcW, rcv1, tyOf, Fr.pur, ofP, m1W, int?, slW, slD, isiW, isTy, kindOk, isD, isW, inStr, nod_ones, T_beq, nod_strs, dep_strs, b2W, eq_nil]) (by simp [noneW, allD, eqAll, nodAll, depAll, varW, idxW, seqW, cmpW, cmpP, vw, cmpD, eqOk, nod, dep, eqD, truW, truD, b1W, binW, binD, asg_v, lenW, srcW, rcv1, tyOf, Fr.pur, ofP, m1W, int?, slW, slD, isiW, isTy, kindOk, isD, isW, inStr, nod_ones, T_beq, nod_strs, dep_strs, b2W, eq_nil])) fun w st4 ⟨⟨x, hx, hw⟩, h4⟩ => ?_
      subst hw
      have hx2 : ∃ g : List Nat, Gt g 3 0 ∧ (∃ c ∈ g, ltr c = true) ∧ x = dStr g := by
        simp [noneW, allD, eqAll, nodAll, depAll, varW, idxW, seqW, cmpW, cmpP, vw, cmpD, eqOk, nod, dep, eqD, truW, truD, b1W, binW, binD, asg_v, lenW, srcW, rcv1, tyOf, Fr.pur, ofP, m1W, int?, slW, slD, isiW, isTy, kindOk, isD, isW, inStr, nod_ones, T_beq, nod_strs, dep_strs, b2W, eq_nil] at hx
        rcases hx with h | h | h <;> subst h
        · exact ⟨_, gt_of (by decide) (by decide) (by decide) (by decide), ⟨97, by simp [noneW, allD, eqAll, nodAll, depAll, varW, idxW, seqW, cmpW, cmpP, vw, cmpD, eqOk, nod, dep, eqD, truW, truD, b1W, binW, binD, asg_v, lenW, srcW, rcv1, tyOf, Fr.pur, ofP, m1W, int?, slW, slD, isiW, isTy, kindOk, isD, isW, inStr, nod_ones, T_beq, nod_strs, dep_strs, b2W, eq_nil], by decide⟩, rfl⟩
        · exact ⟨_, gt_of (by decide) (by decide) (by decide) (by decide), ⟨101, by simp [noneW, allD, eqAll, nodAll, depAll, varW, idxW, seqW, cmpW, cmpP, vw, cmpD, eqOk, nod, dep, eqD, truW, truD, b1W, binW, binD, asg_v, lenW, srcW, rcv1, tyOf, Fr.pur, ofP, m1W, int?, slW, slD, isiW, isTy, kindOk, isD, isW, inStr, nod_ones, T_beq, nod_strs, dep_strs, b2W, eq_nil], by decide⟩, rfl⟩
        · exact ⟨_, gt_of (by decide) (by decide) (by decide) (by decide), ⟨97, by simp [noneW, allD, eqAll, nodAll, depAll, varW, idxW, seqW, cmpW, cmpP, vw, cmpD, eqOk, nod, dep, eqD, truW, truD, b1W, binW, binD, asg_v, lenW, srcW, rcv1, tyOf, Fr.pur, ofP, m1W, int?, slW, slD, isiW, isTy, kindOk, isD, isW, inStr, nod_ones, T_beq, nod_strs, dep_strs, b2W, eq_nil], by decide⟩, rfl⟩
      obtain ⟨g, hg, hlt, rfl⟩ := hx2
      have hgg := hfl.app hg
      have e1 := hgg.l
      simp [noneW, allD, eqAll, nodAll, depAll, varW, idxW, seqW, cmpW, cmpP, vw, cmpD, eqOk, nod, dep, eqD, truW, truD, b1W, binW, binD, asg_v, lenW, srcW, rcv1, tyOf, Fr.pur, ofP, m1W, int?, slW, slD, isiW, isTy, kindOk, isD, isW, inStr, nod_ones, T_beq, nod_strs, dep_strs, b2W, eq_nil] at e1
      have e2 := hg.l
      simp [noneW, allD, eqAll, nodAll, depAll, varW, idxW, seqW, cmpW, cmpP, vw, cmpD, eqOk, nod, dep, eqD, truW, truD, b1W, binW, binD, asg_v, lenW, srcW, rcv1, tyOf, Fr.pur, ofP, m1W, int?, slW, slD, isiW, isTy, kindOk, isD, isW, inStr, nod_ones, T_beq, nod_strs, dep_strs, b2W, eq_nil, hSZ, show (gs.map List.length).sum + g.length ≤ 16777216 by omega]
      refine ⟨⟨gs.flatten ++ g, ⟨hgg.mono (by omega) (by omega), ?_⟩, rfl⟩, [], h4⟩
      obtain ⟨c, hc, hc2⟩ := hlt
      exact ⟨c, by simp [noneW, allD, eqAll, nodAll, depAll, varW, idxW, seqW, cmpW, cmpP, vw, cmpD, eqOk, nod, dep, eqD, truW, truD, b1W, binW, binD, asg_v, lenW, srcW, rcv1, tyOf, Fr.pur, ofP, m1W, int?, slW, slD, isiW, isTy, kindOk, isD, isW, inStr, nod_ones, T_beq, nod_strs, dep_strs, b2W, eq_nil, hc], hc2⟩
  · have hk2 : (k == 0) = false := by simp [noneW, allD, eqAll, nodAll, depAll, varW, idxW, seqW, cmpW, cmpP, vw, cmpD, eqOk, nod, dep, eqD, truW, truD, b1W, binW, binD, asg_v, lenW, srcW, rcv1, tyOf, Fr.pur, ofP, m1W, int?, slW, slD, isiW, isTy, kindOk, isD, isW, inStr, nod_ones, T_beq, nod_strs, dep_strs, b2W, eq_nil, hk]
    simp [noneW, allD, eqAll, nodAll, depAll, varW, idxW, seqW, cmpW, cmpP, vw, cmpD, eqOk, nod, dep, eqD, truW, truD, b1W, binW, binD, asg_v, lenW, srcW, rcv1, tyOf, Fr.pur, ofP, m1W, int?, slW, slD, isiW, isTy, kindOk, isD, isW, inStr, nod_ones, T_beq, nod_strs, dep_strs, b2W, eq_nil, hk2]
    apply seqS (N' := fun ρ st => ρ = [some (.ref 0), some (.ref 1), none, none, none, none, none] ∧ Row ns [.lst []] st)
    · obtain ⟨a, b, c, ha, rfl⟩ := h1
      simp [noneW, allD, eqAll, nodAll, depAll, varW, idxW, seqW, cmpW, cmpP, vw, cmpD, eqOk, nod, dep, eqD, truW, truD, b1W, binW, binD, asg_v, lenW, srcW, rcv1, tyOf, Fr.pur, ofP, m1W, int?, slW, slD, isiW, isTy, kindOk, isD, isW, inStr, nod_ones, T_beq, nod_strs, dep_strs, b2W, eq_nil, evS, evE, evF, evEs, Fr.cell]
      exact ⟨a, b, c, ha, rfl⟩
    clear h1
    rintro ρ st2 ⟨rfl, h2⟩
    apply seqS (N' := WI ns [])
    · simp only [evS, evE, evF, evI, evEs, okO_out, okR_bind]
      simp [noneW, allD, eqAll, nodAll, depAll, varW, idxW, seqW, cmpW, cmpP, vw, cmpD, eqOk, nod, dep, eqD, truW, truD, b1W, binW, binD, asg_v, lenW, srcW, rcv1, tyOf, Fr.pur, ofP, m1W, int?, slW, slD, isiW, isTy, kindOk, isD, isW, inStr, nod_ones, T_beq, nod_strs, dep_strs, b2W, eq_nil, hSZ]
      refine okO_imp (for_inv (Rt := fun _ _ => False) (WI ns) _ _ _ ?_ ?_) ?_ ?_
      · exact ⟨[], none, none, none, none, none, (fun w hw => by simpa [noneW, allD, eqAll, nodAll, depAll, varW, idxW, seqW, cmpW, cmpP, vw, cmpD, eqOk, nod, dep, eqD, truW, truD, b1W, binW, binD, asg_v, lenW, srcW, rcv1, tyOf, Fr.pur, ofP, m1W, int?, slW, slD, isiW, isTy, kindOk, isD, isW, inStr, nod_ones, T_beq, nod_strs, dep_strs, b2W, eq_nil] using hw), (fun g hg => by cases hg), by simp [noneW, allD, eqAll, nodAll, depAll, varW, idxW, seqW, cmpW, cmpP, vw, cmpD, eqOk, nod, dep, eqD, truW, truD, b1W, binW, binD, asg_v, lenW, srcW, rcv1, tyOf, Fr.pur, ofP, m1W, int?, slW, slD, isiW, isTy, kindOk, isD, isW, inStr, nod_ones, T_beq, nod_strs, dep_strs, b2W, eq_nil], rfl, by simpa [noneW, allD, eqAll, nodAll, depAll, varW, idxW, seqW, cmpW, cmpP, vw, cmpD, eqOk, nod, dep, eqD, truW, truD, b1W, binW, binD, asg_v, lenW, srcW, rcv1, tyOf, Fr.pur, ofP, m1W, int?, slW, slD, isiW, isTy, kindOk, isD, isW, inStr, nod_ones, T_beq, nod_strs, dep_strs, b2W, eq_nil] using h2⟩
      · rintro w r ρ st3 ⟨gs, v2, v3, v4, v5, v6, w1, w2, w3, rfl, h3⟩
        have hw : ∃ x : List Nat, Gt x 4 0 ∧ Gt (x.take 1 ++ [46]) 4 1 ∧ Gt ((x.take 1).map lower1) 4 1 ∧ asc (x.take 1) ∧ (x.take 1).length = 1 ∧ x.length ≤ 4 ∧ w = .d (dStr x) := by
          rcases w1 w (by simp [noneW, allD, eqAll, nodAll, depAll, varW, idxW, seqW, cmpW, cmpP, vw, cmpD, eqOk, nod, dep, eqD, truW, truD, b1W, binW, binD, asg_v, lenW, srcW, rcv1, tyOf, Fr.pur, ofP, m1W, int?, slW, slD, isiW, isTy, kindOk, isD, isW, inStr, nod_ones, T_beq, nod_strs, dep_strs, b2W, eq_nil]) with h | h | h <;> exact ⟨_, gt_of (by decide) (by decide) (by decide) (by decide), gt_of (by decide) (by decide) (by decide) (by decide), gt_of (by decide) (by decide) (by decide) (by decide), (fun c hc => by simp [noneW, allD, eqAll, nodAll, depAll, varW, idxW, seqW, cmpW, cmpP, vw, cmpD, eqOk, nod, dep, eqD, truW, truD, b1W, binW, binD, asg_v, lenW, srcW, rcv1, tyOf, Fr.pur, ofP, m1W, int?, slW, slD, isiW, isTy, kindOk, isD, isW, inStr, nod_ones, T_beq, nod_strs, dep_strs, b2W, eq_nil] at hc; omega), by simp [noneW, allD, eqAll, nodAll, depAll, varW, idxW, seqW, cmpW, cmpP, vw, cmpD, eqOk, nod, dep, eqD, truW, truD, b1W, binW, binD, asg_v, lenW, srcW, rcv1, tyOf, Fr.pur, ofP, m1W, int?, slW, slD, isiW, isTy, kindOk, isD, isW, inStr, nod_ones, T_beq, nod_strs, dep_strs, b2W, eq_nil], by simp [noneW, allD, eqAll, nodAll, depAll, varW, idxW, seqW, cmpW, cmpP, vw, cmpD, eqOk, nod, dep, eqD, truW, truD, b1W, binW, binD, asg_v, lenW, srcW, rcv1, tyOf, Fr.pur, ofP, m1W, int?, slW, slD, isiW, isTy, kindOk, isD, isW, inStr, nod_ones, T_beq, nod_strs, dep_strs, b2W, eq_nil], h⟩
        obtain ⟨x, x1, x2, x3, x4, x5, x6, rfl⟩ := hw
        have hr : ∀ w ∈ r, w = .d (dStr [65, 110, 110]) ∨ w = .d (dStr [77, 97, 114, 121]) ∨ w = .d (dStr [65, 108, 98, 97]) := fun w hw => w1 w (List.mem_cons_of_mem _ hw)
        simp [noneW, allD, eqAll, nodAll, depAll, varW, idxW, seqW, cmpW, cmpP, vw, cmpD, eqOk, nod, dep, eqD, truW, truD, b1W, binW, binD, asg_v, lenW, srcW, rcv1, tyOf, Fr.pur, ofP, m1W, int?, slW, slD, isiW, isTy, kindOk, isD, isW, inStr, nod_ones, T_beq, nod_strs, dep_strs, b2W, eq_nil] at w3
        have hlow := lower_ok x4 (by omega)
        simp only [asg_v, evSs, evS, evE, evEs, evC, evO, okO_next, okO_out, okR_bind]
        simp [noneW, allD, eqAll, nodAll, depAll, varW, idxW, seqW, cmpW, cmpP, vw, cmpD, eqOk, nod, dep, eqD, truW, truD, b1W, binW, binD, asg_v, lenW, srcW, rcv1, tyOf, Fr.pur, ofP, m1W, int?, slW, slD, isiW, isTy, kindOk, isD, isW, inStr, nod_ones, T_beq, nod_strs, dep_strs, b2W, eq_nil]
        refine okR_imp (taken hT h3 (m := 5) (by omega) (by omega)) fun w st4 ⟨⟨k, k1, k2, hw⟩, h4⟩ => ?_
        subst hw
        obtain ⟨a, b, c, ha, rfl⟩ := h4
        simp [noneW, allD, eqAll, nodAll, depAll, varW, idxW, seqW, cmpW, cmpP, vw, cmpD, eqOk, nod, dep, eqD, truW, truD, b1W, binW, binD, asg_v, lenW, srcW, rcv1, tyOf, Fr.pur, ofP, m1W, int?, slW, slD, isiW, isTy, kindOk, isD, isW, inStr, nod_ones, T_beq, nod_strs, dep_strs, b2W, eq_nil, cmpOk, alk, ordOk, isNo, ltD]
        by_cases q0 : 0 < k
        · simp [noneW, allD, eqAll, nodAll, depAll, varW, idxW, seqW, cmpW, cmpP, vw, cmpD, eqOk, nod, dep, eqD, truW, truD, b1W, binW, binD, asg_v, lenW, srcW, rcv1, tyOf, Fr.pur, ofP, m1W, int?, slW, slD, isiW, isTy, kindOk, isD, isW, inStr, nod_ones, T_beq, nod_strs, dep_strs, b2W, eq_nil, q0]
          by_cases q1 : k < 3
          · simp [noneW, allD, eqAll, nodAll, depAll, varW, idxW, seqW, cmpW, cmpP, vw, cmpD, eqOk, nod, dep, eqD, truW, truD, b1W, binW, binD, asg_v, lenW, srcW, rcv1, tyOf, Fr.pur, ofP, m1W, int?, slW, slD, isiW, isTy, kindOk, isD, isW, inStr, nod_ones, T_beq, nod_strs, dep_strs, b2W, eq_nil, q1, rowC, hSZ, show gs.length < 16777216 by omega, still]
            exact ⟨gs ++ [x], _, _, _, _, _, hr, fun g hg => (List.mem_append.mp hg).elim (w2 g) (fun h => by simp [noneW, allD, eqAll, nodAll, depAll, varW, idxW, seqW, cmpW, cmpP, vw, cmpD, eqOk, nod, dep, eqD, truW, truD, b1W, binW, binD, asg_v, lenW, srcW, rcv1, tyOf, Fr.pur, ofP, m1W, int?, slW, slD, isiW, isTy, kindOk, isD, isW, inStr, nod_ones, T_beq, nod_strs, dep_strs, b2W, eq_nil] at h; subst h; exact x1.mono (by omega) (by omega)), by simp [noneW, allD, eqAll, nodAll, depAll, varW, idxW, seqW, cmpW, cmpP, vw, cmpD, eqOk, nod, dep, eqD, truW, truD, b1W, binW, binD, asg_v, lenW, srcW, rcv1, tyOf, Fr.pur, ofP, m1W, int?, slW, slD, isiW, isTy, kindOk, isD, isW, inStr, nod_ones, T_beq, nod_strs, dep_strs, b2W, eq_nil]; omega, rfl, a, b, c, ha, by simp [noneW, allD, eqAll, nodAll, depAll, varW, idxW, seqW, cmpW, cmpP, vw, cmpD, eqOk, nod, dep, eqD, truW, truD, b1W, binW, binD, asg_v, lenW, srcW, rcv1, tyOf, Fr.pur, ofP, m1W, int?, slW, slD, isiW, isTy, kindOk, isD, isW, inStr, nod_ones, T_beq, nod_strs, dep_strs, b2W, eq_nil, rowC]⟩
          · by_cases q2 : k = 3
            · subst q2
              simp [noneW, allD, eqAll, nodAll, depAll, varW, idxW, seqW, cmpW, cmpP, vw, cmpD, eqOk, nod, dep, eqD, truW, truD, b1W, binW, binD, asg_v, lenW, srcW, rcv1, tyOf, Fr.pur, ofP, m1W, int?, slW, slD, isiW, isTy, kindOk, isD, isW, inStr, nod_ones, T_beq, nod_strs, dep_strs, b2W, eq_nil, rowC, hSZ, show gs.length < 16777216 by omega, still, show x.length ≤ 16777216 by omega, cutT1]
              have : (x.take 1).length + 1 ≤ 16777216 := by omega
              simp [noneW, allD, eqAll, nodAll, depAll, varW, idxW, seqW, cmpW, cmpP, vw, cmpD, eqOk, nod, dep, eqD, truW, truD, b1W, binW, binD, asg_v, lenW, srcW, rcv1, tyOf, Fr.pur, ofP, m1W, int?, slW, slD, isiW, isTy, kindOk, isD, isW, inStr, nod_ones, T_beq, nod_strs, dep_strs, b2W, eq_nil] at this
              simp [noneW, allD, eqAll, nodAll, depAll, varW, idxW, seqW, cmpW, cmpP, vw, cmpD, eqOk, nod, dep, eqD, truW, truD, b1W, binW, binD, asg_v, lenW, srcW, rcv1, tyOf, Fr.pur, ofP, m1W, int?, slW, slD, isiW, isTy, kindOk, isD, isW, inStr, nod_ones, T_beq, nod_strs, dep_strs, b2W, eq_nil, this, show gs.length < 16777216 by omega]
              exact ⟨gs ++ [x.take 1 ++ [46]], _, _, _, _, _, hr, fun g hg => (List.mem_append.mp hg).elim (w2 g) (fun h => by simp [noneW, allD, eqAll, nodAll, depAll, varW, idxW, seqW, cmpW, cmpP, vw, cmpD, eqOk, nod, dep, eqD, truW, truD, b1W, binW, binD, asg_v, lenW, srcW, rcv1, tyOf, Fr.pur, ofP, m1W, int?, slW, slD, isiW, isTy, kindOk, isD, isW, inStr, nod_ones, T_beq, nod_strs, dep_strs, b2W, eq_nil] at h; subst h; exact x2), by simp [noneW, allD, eqAll, nodAll, depAll, varW, idxW, seqW, cmpW, cmpP, vw, cmpD, eqOk, nod, dep, eqD, truW, truD, b1W, binW, binD, asg_v, lenW, srcW, rcv1, tyOf, Fr.pur, ofP, m1W, int?, slW, slD, isiW, isTy, kindOk, isD, isW, inStr, nod_ones, T_beq, nod_strs, dep_strs, b2W, eq_nil]; omega, rfl, a, b, c, ha, by simp [noneW, allD, eqAll, nodAll, depAll, varW, idxW, seqW, cmpW, cmpP, vw, cmpD, eqOk, nod, dep, eqD, truW, truD, b1W, binW, binD, asg_v, lenW, srcW, rcv1, tyOf, Fr.pur, ofP, m1W, int?, slW, slD, isiW, isTy, kindOk, isD, isW, inStr, nod_ones, T_beq, nod_strs, dep_strs, b2W, eq_nil, rowC]⟩
            · have hq : (k == 3) = false := by simp [noneW, allD, eqAll, nodAll, depAll, varW, idxW, seqW, cmpW, cmpP, vw, cmpD, eqOk, nod, dep, eqD, truW, truD, b1W, binW, binD, asg_v, lenW, srcW, rcv1, tyOf, Fr.pur, ofP, m1W, int?, slW, slD, isiW, isTy, kindOk, isD, isW, inStr, nod_ones, T_beq, nod_strs, dep_strs, b2W, eq_nil, q2]
              simp [noneW, allD, eqAll, nodAll, depAll, varW, idxW, seqW, cmpW, cmpP, vw, cmpD, eqOk, nod, dep, eqD, truW, truD, b1W, binW, binD, asg_v, lenW, srcW, rcv1, tyOf, Fr.pur, ofP, m1W, int?, slW, slD, isiW, isTy, kindOk, isD, isW, inStr, nod_ones, T_beq, nod_strs, dep_strs, b2W, eq_nil, q1, q2, hq, rowC, hSZ, show gs.length < 16777216 by omega, still, show x.length ≤ 16777216 by omega, cutT1, hlow]
              exact ⟨gs ++ [(x.take 1).map lower1], _, _, _, _, _, hr, fun g hg => (List.mem_append.mp hg).elim (w2 g) (fun h => by simp [noneW, allD, eqAll, nodAll, depAll, varW, idxW, seqW, cmpW, cmpP, vw, cmpD, eqOk, nod, dep, eqD, truW, truD, b1W, binW, binD, asg_v, lenW, srcW, rcv1, tyOf, Fr.pur, ofP, m1W, int?, slW, slD, isiW, isTy, kindOk, isD, isW, inStr, nod_ones, T_beq, nod_strs, dep_strs, b2W, eq_nil] at h; subst h; rw [← List.map_take]; exact x3), by simp [noneW, allD, eqAll, nodAll, depAll, varW, idxW, seqW, cmpW, cmpP, vw, cmpD, eqOk, nod, dep, eqD, truW, truD, b1W, binW, binD, asg_v, lenW, srcW, rcv1, tyOf, Fr.pur, ofP, m1W, int?, slW, slD, isiW, isTy, kindOk, isD, isW, inStr, nod_ones, T_beq, nod_strs, dep_strs, b2W, eq_nil]; omega, rfl, a, b, c, ha, by simp [noneW, allD, eqAll, nodAll, depAll, varW, idxW, seqW, cmpW, cmpP, vw, cmpD, eqOk, nod, dep, eqD, truW, truD, b1W, binW, binD, asg_v, lenW, srcW, rcv1, tyOf, Fr.pur, ofP, m1W, int?, slW, slD, isiW, isTy, kindOk, isD, isW, inStr, nod_ones, T_beq, nod_strs, dep_strs, b2W, eq_nil, rowC]⟩
        · simp [noneW, allD, eqAll, nodAll, depAll, varW, idxW, seqW, cmpW, cmpP, vw, cmpD, eqOk, nod, dep, eqD, truW, truD, b1W, binW, binD, asg_v, lenW, srcW, rcv1, tyOf, Fr.pur, ofP, m1W, int?, slW, slD, isiW, isTy, kindOk, isD, isW, inStr, nod_ones, T_beq, nod_strs, dep_strs, b2W, eq_nil, q0, still]
          exact ⟨gs, _, _, _, _, _, hr, w2, by omega, rfl, a, b, c, ha, rfl⟩
      · intro ρ st h
        exact h
      · intro _ _ h
        exact h.elim
    clear h2
    rintro ρ st3 ⟨gs, v2, v3, v4, v5, v6, -, w2, w3, rfl, h3⟩
    simp [noneW, allD, eqAll, nodAll, depAll, varW, idxW, seqW, cmpW, cmpP, vw, cmpD, eqOk, nod, dep, eqD, truW, truD, b1W, binW, binD, asg_v, lenW, srcW, rcv1, tyOf, Fr.pur, ofP, m1W, int?, slW, slD, isiW, isTy, kindOk, isD, isW, inStr, nod_ones, T_beq, nod_strs, dep_strs, b2W, eq_nil] at w3
    apply seqS (N' := fun ρ st => ∃ x : List Nat, Gt x 4 0 ∧ (∃ c ∈ x, ltr c = true) ∧ ρ = [some (.ref 0), some (.ref 1), v2, some (.d (dStr x)), v4, v5, v6] ∧ Row ns [.lst (gs.map fun g => .d (dStr g))] st)
    · simp only [evS, evE, evF, evEs, okO_out, okR_bind]
      simp [noneW, allD, eqAll, nodAll, depAll, varW, idxW, seqW, cmpW, cmpP, vw, cmpD, eqOk, nod, dep, eqD, truW, truD, b1W, binW, binD, asg_v, lenW, srcW, rcv1, tyOf, Fr.pur, ofP, m1W, int?, slW, slD, isiW, isTy, kindOk, isD, isW, inStr, nod_ones, T_beq, nod_strs, dep_strs, b2W, eq_nil, hSZ]
      refine okR_imp (pick hT hP h3 (by simp [noneW, allD, eqAll, nodAll, depAll, varW, idxW, seqW, cmpW, cmpP, vw, cmpD, eqOk, nod, dep, eqD, truW, truD, b1W, binW, binD, asg_v, lenW, srcW, rcv1, tyOf, Fr.pur, ofP, m1W, int?, slW, slD, isiW, isTy, kindOk, isD, isW, inStr, nod_ones, T_beq, nod_strs, dep_strs, b2W, eq_nil]) (by simp [noneW, allD, eqAll, nodAll, depAll, varW, idxW, seqW, cmpW, cmpP, vw, cmpD, eqOk, nod, dep, eqD, truW, truD, b1W, binW, binD, asg_v, lenW, srcW, rcv1, tyOf, Fr.pur, ofP, m1W, int?, slW, slD, isiW, isTy, kindOk, isD, isW, inStr, nod_ones, T_beq, nod_strs, dep_strs, b2W, eq_nil])) fun w st4 ⟨⟨x, hx, hw⟩, h4⟩ => ?_
      subst hw
      simp [noneW, allD, eqAll, nodAll, depAll, varW, idxW, seqW, cmpW, cmpP, vw, cmpD, eqOk, nod, dep, eqD, truW, truD, b1W, binW, binD, asg_v, lenW, srcW, rcv1, tyOf, Fr.pur, ofP, m1W, int?, slW, slD, isiW, isTy, kindOk, isD, isW, inStr, nod_ones, T_beq, nod_strs, dep_strs, b2W, eq_nil] at hx
      rcases hx with h | h | h <;> subst h
      · exact ⟨_, gt_of (by decide) (by decide) (by decide) (by decide), ⟨101, by simp [noneW, allD, eqAll, nodAll, depAll, varW, idxW, seqW, cmpW, cmpP, vw, cmpD, eqOk, nod, dep, eqD, truW, truD, b1W, binW, binD, asg_v, lenW, srcW, rcv1, tyOf, Fr.pur, ofP, m1W, int?, slW, slD, isiW, isTy, kindOk, isD, isW, inStr, nod_ones, T_beq, nod_strs, dep_strs, b2W, eq_nil], by decide⟩, rfl, h4⟩
      · exact ⟨_, gt_of (by decide) (by decide) (by decide) (by decide), ⟨76, by simp [noneW, allD, eqAll, nodAll, depAll, varW, idxW, seqW, cmpW, cmpP, vw, cmpD, eqOk, nod, dep, eqD, truW, truD, b1W, binW, binD, asg_v, lenW, srcW, rcv1, tyOf, Fr.pur, ofP, m1W, int?, slW, slD, isiW, isTy, kindOk, isD, isW, inStr, nod_ones, T_beq, nod_strs, dep_strs, b2W, eq_nil], by decide⟩, rfl, h4⟩
      · exact ⟨_, gt_of (by decide) (by decide) (by decide) (by decide), ⟨97, by simp [noneW, allD, eqAll, nodAll, depAll, varW, idxW, seqW, cmpW, cmpP, vw, cmpD, eqOk, nod, dep, eqD, truW, truD, b1W, binW, binD, asg_v, lenW, srcW, rcv1, tyOf, Fr.pur, ofP, m1W, int?, slW, slD, isiW, isTy, kindOk, isD, isW, inStr, nod_ones, T_beq, nod_strs, dep_strs, b2W, eq_nil], by decide⟩, rfl, h4⟩
    clear h3
    rintro ρ st4 ⟨x, x1, x2, rfl, h4⟩
    apply seqS (N' := fun ρ st => ∃ k : Int, ρ = [some (.ref 0), some (.ref 1), v2, some (.d (dStr x)), some (.d (.int k)), v5, v6] ∧ Row ns [.lst (gs.map fun g => .d (dStr g))] st)
    · simp only [evS, evE, evF, evEs, okO_out, okR_bind]
      simp [noneW, allD, eqAll, nodAll, depAll, varW, idxW, seqW, cmpW, cmpP, vw, cmpD, eqOk, nod, dep, eqD, truW, truD, b1W, binW, binD, asg_v, lenW, srcW, rcv1, tyOf, Fr.pur, ofP, m1W, int?, slW, slD, isiW, isTy, kindOk, isD, isW, inStr, nod_ones, T_beq, nod_strs, dep_strs, b2W, eq_nil]
      refine okR_imp (taken hT h4 (m := 4) (by omega) (by omega)) fun w st5 ⟨⟨k, k1, k2, hw⟩, h5⟩ => ?_
      subst hw
      exact ⟨⟨k, rfl⟩, h5⟩
    clear h4
    rintro ρ st5 ⟨k, rfl, h5⟩
    have xl := x1.l
    have hga : allD (gs.map fun g => W.d (dStr g)) = some (gs.map dStr) := allD_mapd dStr gs
    have hsl : (gs.map List.length).sum ≤ 12 := by
      have := (Gt.flat (gs := gs) w2).l
      rw [sum_flat]
      omega
    obtain ⟨a, b, c, ha, rfl⟩ := h5
    by_cases q : k = 0
    · subst q
      simp only [evSs, evS, evE, evF, evEs, evC, okO_next, okO_out, okR_bind]
      by_cases hg : gs = []
      · subst hg
        simp [noneW, allD, eqAll, nodAll, depAll, varW, idxW, seqW, cmpW, cmpP, vw, cmpD, eqOk, nod, dep, eqD, truW, truD, b1W, binW, binD, asg_v, lenW, srcW, rcv1, tyOf, Fr.pur, ofP, m1W, int?, slW, slD, isiW, isTy, kindOk, isD, isW, inStr, nod_ones, T_beq, nod_strs, dep_strs, b2W, eq_nil, rowC]
        exact ⟨⟨x, ⟨x1.mono (by omega) (by omega), x2⟩, rfl⟩, _, a, b, c, ha, rfl⟩
      · have e1 : eqAll (gs.map dStr) [] = false := by cases gs <;> simp [noneW, allD, eqAll, nodAll, depAll, varW, idxW, seqW, cmpW, cmpP, vw, cmpD, eqOk, nod, dep, eqD, truW, truD, b1W, binW, binD, asg_v, lenW, srcW, rcv1, tyOf, Fr.pur, ofP, m1W, int?, slW, slD, isiW, isTy, kindOk, isD, isW, inStr, nod_ones, T_beq, nod_strs, dep_strs, b2W, eq_nil] at hg ⊢
        have e2 := (join_gt0 w2 (by omega)).l
        simp [noneW, allD, eqAll, nodAll, depAll, varW, idxW, seqW, cmpW, cmpP, vw, cmpD, eqOk, nod, dep, eqD, truW, truD, b1W, binW, binD, asg_v, lenW, srcW, rcv1, tyOf, Fr.pur, ofP, m1W, int?, slW, slD, isiW, isTy, kindOk, isD, isW, inStr, nod_ones, T_beq, nod_strs, dep_strs, b2W, eq_nil, rowC, hga, e1, hg, hSZ, show x.length + 2 ≤ 16777216 by omega, show (gs.map List.length).sum + gs.length ≤ 16777216 by omega, show x.length + 2 + (joinT [32] gs).length ≤ 16777216 by omega]
        have h1 : Gt [44, 32] 2 2 := gt_of (by decide) (by decide) (by decide) (by decide)
        have h2 := (x1.app h1).app (join_gt0 w2 (by omega))
        refine ⟨⟨x ++ [44, 32] ++ joinT [32] gs, ⟨h2.mono (by omega) (by omega), ?_⟩, by simp [noneW, allD, eqAll, nodAll, depAll, varW, idxW, seqW, cmpW, cmpP, vw, cmpD, eqOk, nod, dep, eqD, truW, truD, b1W, binW, binD, asg_v, lenW, srcW, rcv1, tyOf, Fr.pur, ofP, m1W, int?, slW, slD, isiW, isTy, kindOk, isD, isW, inStr, nod_ones, T_beq, nod_strs, dep_strs, b2W, eq_nil]⟩, _, a, b, c, ha, rfl⟩
        obtain ⟨y, hy, hy2⟩ := x2
        exact ⟨y, by simp [noneW, allD, eqAll, nodAll, depAll, varW, idxW, seqW, cmpW, cmpP, vw, cmpD, eqOk, nod, dep, eqD, truW, truD, b1W, binW, binD, asg_v, lenW, srcW, rcv1, tyOf, Fr.pur, ofP, m1W, int?, slW, slD, isiW, isTy, kindOk, isD, isW, inStr, nod_ones, T_beq, nod_strs, dep_strs, b2W, eq_nil, hy], hy2⟩
    · have hk3 : (k == 0) = false := by simp [noneW, allD, eqAll, nodAll, depAll, varW, idxW, seqW, cmpW, cmpP, vw, cmpD, eqOk, nod, dep, eqD, truW, truD, b1W, binW, binD, asg_v, lenW, srcW, rcv1, tyOf, Fr.pur, ofP, m1W, int?, slW, slD, isiW, isTy, kindOk, isD, isW, inStr, nod_ones, T_beq, nod_strs, dep_strs, b2W, eq_nil, q]
      simp only [evSs, evS, evE, evF, evEs, evC, okO_next, okO_out, okR_bind]
      simp [noneW, allD, eqAll, nodAll, depAll, varW, idxW, seqW, cmpW, cmpP, vw, cmpD, eqOk, nod, dep, eqD, truW, truD, b1W, binW, binD, asg_v, lenW, srcW, rcv1, tyOf, Fr.pur, ofP, m1W, int?, slW, slD, isiW, isTy, kindOk, isD, isW, inStr, nod_ones, T_beq, nod_strs, dep_strs, b2W, eq_nil, hk3, hSZ]
      refine okR_imp (pick hT hP ⟨a, b, c, ha, rfl⟩ (by simp [noneW, allD, eqAll, nodAll, depAll, varW, idxW, seqW, cmpW, cmpP, vw, cmpD, eqOk, nod, dep, eqD, truW, truD, b1W, binW, binD, asg_v, lenW, srcW, rcv1, tyOf, Fr.pur, ofP, m1W, int?, slW, slD, isiW, isTy, kindOk, isD, isW, inStr, nod_ones, T_beq, nod_strs, dep_strs, b2W, eq_nil]) (by simp [noneW, allD, eqAll, nodAll, depAll, varW, idxW, seqW, cmpW, cmpP, vw, cmpD, eqOk, nod, dep, eqD, truW, truD, b1W, binW, binD, asg_v, lenW, srcW, rcv1, tyOf, Fr.pur, ofP, m1W, int?, slW, slD, isiW, isTy, kindOk, isD, isW, inStr, nod_ones, T_beq, nod_strs, dep_strs, b2W, eq_nil])) fun w st6 ⟨⟨y, hy, hw⟩, h6⟩ => ?_
      subst hw
      have hy2 : ∃ sep : List Nat, Gt sep 2 2 ∧ y = dStr sep := by
        simp [noneW, allD, eqAll, nodAll, depAll, varW, idxW, seqW, cmpW, cmpP, vw, cmpD, eqOk, nod, dep, eqD, truW, truD, b1W, binW, binD, asg_v, lenW, srcW, rcv1, tyOf, Fr.pur, ofP, m1W, int?, slW, slD, isiW, isTy, kindOk, isD, isW, inStr, nod_ones, T_beq, nod_strs, dep_strs, b2W, eq_nil] at hy
        rcases hy with h | h | h <;> subst h <;> exact ⟨_, gt_of (by decide) (by decide) (by decide) (by decide), rfl⟩
      obtain ⟨sep, hs, rfl⟩ := hy2
      obtain ⟨a, b, c, ha, rfl⟩ := h6
      have sl := hs.l
      have hm : gs.length * sep.length ≤ 6 := Nat.le_trans (Nat.mul_le_mul (show gs.length ≤ 3 by omega) sl) (by omega)
      have hm2 : (gs.length + 1) * sep.length ≤ 8 := by rw [Nat.succ_mul]; omega
      have hst : strsD (gs.map dStr ++ [dStr x]) = some (gs ++ [x]) := by
        have := strsD_map (gs ++ [x])
        simpa [noneW, allD, eqAll, nodAll, depAll, varW, idxW, seqW, cmpW, cmpP, vw, cmpD, eqOk, nod, dep, eqD, truW, truD, b1W, binW, binD, asg_v, lenW, srcW, rcv1, tyOf, Fr.pur, ofP, m1W, int?, slW, slD, isiW, isTy, kindOk, isD, isW, inStr, nod_ones, T_beq, nod_strs, dep_strs, b2W, eq_nil] using this
      simp [noneW, allD, eqAll, nodAll, depAll, varW, idxW, seqW, cmpW, cmpP, vw, cmpD, eqOk, nod, dep, eqD, truW, truD, b1W, binW, binD, asg_v, lenW, srcW, rcv1, tyOf, Fr.pur, ofP, m1W, int?, slW, slD, isiW, isTy, kindOk, isD, isW, inStr, nod_ones, T_beq, nod_strs, dep_strs, b2W, eq_nil, rowC, hga, hSZ, show gs.length + 1 ≤ 16777216 by omega, hst, show (gs.map List.length).sum + x.length + (gs.length + 1) * sep.length ≤ 16777216 by omega]
      have h7 := join_gt hs w2 x1 (by omega)
      refine ⟨⟨_, ⟨h7.mono (by omega) (by omega), ?_⟩, rfl⟩, _, a, b, c, ha, rfl⟩
      obtain ⟨y, hy, hy2⟩ := x2
      exact ⟨y, join_mem y hy, hy2⟩
end HT
end

section
set_option Elab.async false
set_option linter.all false
set_option maxRecDepth 100000
set_option autoImplicit false
set_option maxHeartbeats 4000000
namespace HT
open PySem FM
/-! ### large and small -/
structure Chg (f : Nat → Nat) : Prop where
  lo : ∀ c, lower1 (f c) = lower1 c
  co : ∀ c, f c = 44 ↔ c = 44
  a : ∀ c, c < 128 → f c < 128
  p : ∀ c, pr c = true → pr (f c) = true
theorem chg_up : Chg upper1 := by
  refine ⟨fun c => ?_, fun c => ?_, fun c h => ?_, fun c h => ?_⟩ <;> unfold upper1
  · unfold lower1
    split <;> split <;> (try split) <;> omega
  · split <;> omega
  · split <;> omega
  · simp [noneW, allD, eqAll, nodAll, depAll, varW, idxW, seqW, cmpW, cmpP, vw, cmpD, eqOk, nod, dep, eqD, truW, truD, b1W, binW, binD, asg_v, lenW, srcW, rcv1, tyOf, Fr.pur, ofP, m1W, int?, slW, slD, isiW, isTy, kindOk, isD, isW, inStr, nod_ones, T_beq, nod_strs, dep_strs, b2W, eq_nil, pr] at h ⊢
    split <;> omega
theorem chg_lo : Chg lower1 := by
  refine ⟨fun c => ?_, low44, fun c h => ?_, fun c h => ?_⟩ <;> unfold lower1
  · split <;> (try split) <;> omega
  · split <;> omega
  · simp [noneW, allD, eqAll, nodAll, depAll, varW, idxW, seqW, cmpW, cmpP, vw, cmpD, eqOk, nod, dep, eqD, truW, truD, b1W, binW, binD, asg_v, lenW, srcW, rcv1, tyOf, Fr.pur, ofP, m1W, int?, slW, slD, isiW, isTy, kindOk, isD, isW, inStr, nod_ones, T_beq, nod_strs, dep_strs, b2W, eq_nil, pr] at h ⊢
    split <;> omega
section
variable {f : Nat → Nat} (C : Chg f) {t : List Nat}
include C
theorem Chg.rows : rowsP (t.map f) = rowsP t := by
  unfold rowsP
  rw [List.map_map]
  congr 2
  exact List.map_congr_left fun c _ => C.lo c
theorem Chg.split (l : List Nat) : splitC 44 (l.map f) = (splitC 44 l).map (·.map f) := by
  induction l with
  | nil => rfl
  | cons c l ih =>
    simp only [List.map_cons, splitC, C.co]
    split
    · rw [ih]; rfl
    · rw [ih]
      cases hs : splitC 44 l with
      | nil => exact absurd hs (split_ne 44 l)
      | cons y r => rfl
theorem Chg.words : wordsP (t.map f) = wordsP t := by
  unfold wordsP
  rw [C.split]
  generalize splitC 44 t = ps
  match ps with
  | [] => exact C.rows
  | [a] => exact C.rows
  | [a, b] =>
    show rowsP (b.map f) ++ rowsP (a.map f) = _
    rw [C.rows, C.rows]
  | a :: b :: c :: r => exact C.rows
theorem Chg.dn (d : Dn t) : Dn (t.map f) := by
  have hl : ∀ c, ltr (f c) = ltr c := fun c => by simp [noneW, allD, eqAll, nodAll, depAll, varW, idxW, seqW, cmpW, cmpP, vw, cmpD, eqOk, nod, dep, eqD, truW, truD, b1W, binW, binD, asg_v, lenW, srcW, rcv1, tyOf, Fr.pur, ofP, m1W, int?, slW, slD, isiW, isTy, kindOk, isD, isW, inStr, nod_ones, T_beq, nod_strs, dep_strs, b2W, eq_nil, ltr, C.lo]
  refine ⟨⟨fun c hc => ?_, ?_, ?_, ?_⟩, ?_⟩
  · obtain ⟨x, hx, rfl⟩ := List.mem_map.mp hc
    exact C.a x (d.g.a x hx)
  · rw [List.length_map]
    exact d.g.l
  · rw [List.all_eq_true]
    intro c hc
    obtain ⟨x, hx, rfl⟩ := List.mem_map.mp hc
    exact C.p x (List.all_eq_true.mp d.g.p x hx)
  · have := d.g.n
    unfold nl at *
    rw [List.filter_map, List.length_map]
    have e : (fun c => !ltr c) ∘ f = fun c => !ltr c := by
      funext c
      simp [noneW, allD, eqAll, nodAll, depAll, varW, idxW, seqW, cmpW, cmpP, vw, cmpD, eqOk, nod, dep, eqD, truW, truD, b1W, binW, binD, asg_v, lenW, srcW, rcv1, tyOf, Fr.pur, ofP, m1W, int?, slW, slD, isiW, isTy, kindOk, isD, isW, inStr, nod_ones, T_beq, nod_strs, dep_strs, b2W, eq_nil, hl]
    rw [e]
    exact this
  · obtain ⟨c, hc, hc2⟩ := d.h
    exact ⟨f c, List.mem_map.mpr ⟨c, hc, rfl⟩, by rw [hl]; exact hc2⟩
end
theorem oneP_self {t u : List Nat} (h : wordsP u = wordsP t) : oneP t u = true := by
  unfold oneP
  rw [h]
  simp [noneW, allD, eqAll, nodAll, depAll, varW, idxW, seqW, cmpW, cmpP, vw, cmpD, eqOk, nod, dep, eqD, truW, truD, b1W, binW, binD, asg_v, lenW, srcW, rcv1, tyOf, Fr.pur, ofP, m1W, int?, slW, slD, isiW, isTy, kindOk, isD, isW, inStr, nod_ones, T_beq, nod_strs, dep_strs, b2W, eq_nil]
  exact (fit_emb _ _).mpr (Emb.refl _)
/-! ### words_of, may_be_one -/
theorem xW (w : W) : excFs EP "BadWritten" [w] = some [("value", w)] := by simp [noneW, allD, eqAll, nodAll, depAll, varW, idxW, seqW, cmpW, cmpP, vw, cmpD, eqOk, nod, dep, eqD, truW, truD, b1W, binW, binD, asg_v, lenW, srcW, rcv1, tyOf, Fr.pur, ofP, m1W, int?, slW, slD, isiW, isTy, kindOk, isD, isW, inStr, nod_ones, T_beq, nod_strs, dep_strs, b2W, eq_nil, excFs, EP]
theorem xN (w : W) : excFs EP "BadNames" [w] = some [("value", w)] := by simp [noneW, allD, eqAll, nodAll, depAll, varW, idxW, seqW, cmpW, cmpP, vw, cmpD, eqOk, nod, dep, eqD, truW, truD, b1W, binW, binD, asg_v, lenW, srcW, rcv1, tyOf, Fr.pur, ofP, m1W, int?, slW, slD, isiW, isTy, kindOk, isD, isW, inStr, nod_ones, T_beq, nod_strs, dep_strs, b2W, eq_nil, excFs, EP]
def odds : List D := [dStr [], dStr [57], dStr [32, 44, 32], dStr (List.replicate 41 120), .none, .int 5, dStr [9], dStr [46, 46], dStr [97, 10]]
theorem isw_odd {x : D} {st : Sto} {j : Nat} (hx : x ∈ odds) : callD EP R0 (j + 2) "is_written" [.d x] st = .ok (.d (.bool false)) st := by
  have key : ∀ t : List Nat, t.all (fun c => decide (c < 128)) = true → t.length ≤ 1000 → wrtP t = false → callD EP R0 (j + 2) "is_written" [.d (dStr t)] st = .ok (.d (.bool false)) st := fun t h1 h2 h3 => by
    rw [isw_ok (fun c hc => by simpa [noneW, allD, eqAll, nodAll, depAll, varW, idxW, seqW, cmpW, cmpP, vw, cmpD, eqOk, nod, dep, eqD, truW, truD, b1W, binW, binD, asg_v, lenW, srcW, rcv1, tyOf, Fr.pur, ofP, m1W, int?, slW, slD, isiW, isTy, kindOk, isD, isW, inStr, nod_ones, T_beq, nod_strs, dep_strs, b2W, eq_nil] using List.all_eq_true.mp h1 c hc) h2, h3]
  simp only [odds, List.mem_cons, List.not_mem_nil, or_false] at hx
  rcases hx with h | h | h | h | h | h | h | h | h <;> subst h
  · exact key _ (by decide) (by decide) (by decide)
  · exact key _ (by decide) (by decide) (by decide)
  · exact key _ (by decide) (by decide) (by decide)
  · exact key _ (by decide) (by decide) (by simp [noneW, allD, eqAll, nodAll, depAll, varW, idxW, seqW, cmpW, cmpP, vw, cmpD, eqOk, nod, dep, eqD, truW, truD, b1W, binW, binD, asg_v, lenW, srcW, rcv1, tyOf, Fr.pur, ofP, m1W, int?, slW, slD, isiW, isTy, kindOk, isD, isW, inStr, nod_ones, T_beq, nod_strs, dep_strs, b2W, eq_nil, wrtP])
  · exact isw_other (.inl rfl)
  · exact isw_other (.inr rfl)
  · exact key _ (by decide) (by decide) (by decide)
  · exact key _ (by decide) (by decide) (by decide)
  · exact key _ (by decide) (by decide) (by decide)
theorem isw_dn {t : List Nat} {st : Sto} {j : Nat} (d : Dn t) : callD EP R0 (j + 2) "is_written" [.d (dStr t)] st = .ok (.d (.bool true)) st := by
  rw [isw_ok d.g.a (by have := d.g.l; omega), d.wr]
theorem words_of_ok {t : List Nat} {st : Sto} {j : Nat} (d : Dn t) : callD EP R0 (j + 3) "words_of" [.d (dStr t)] st = .ok (.d (.tuple ((wordsP t).map dStr))) st := by
  rw [callD_fn (fn := fwords_of) rfl _ _ rfl]
  simp only [fwords_of, bwords_of, entry, evSs, evS, evC, evE, evEs]
  simp [noneW, allD, eqAll, nodAll, depAll, varW, idxW, seqW, cmpW, cmpP, vw, cmpD, eqOk, nod, dep, eqD, truW, truD, b1W, binW, binD, asg_v, lenW, srcW, rcv1, tyOf, Fr.pur, ofP, m1W, int?, slW, slD, isiW, isTy, kindOk, isD, isW, inStr, nod_ones, T_beq, nod_strs, dep_strs, b2W, eq_nil, isw_dn d, told_words_ok d.g.a (show t.length ≤ 1000 by have := d.g.l; omega)]
theorem words_of_odd {x : D} {st : Sto} {j : Nat} (hx : x ∈ odds) : callD EP R0 (j + 3) "words_of" [.d x] st = .exn (bad1 "BadWritten" x) st := by
  rw [callD_fn (fn := fwords_of) rfl _ _ rfl]
  simp only [fwords_of, bwords_of, entry, evSs, evS, evC, evE, evEs]
  simp [noneW, allD, eqAll, nodAll, depAll, varW, idxW, seqW, cmpW, cmpP, vw, cmpD, eqOk, nod, dep, eqD, truW, truD, b1W, binW, binD, asg_v, lenW, srcW, rcv1, tyOf, Fr.pur, ofP, m1W, int?, slW, slD, isiW, isTy, kindOk, isD, isW, inStr, nod_ones, T_beq, nod_strs, dep_strs, b2W, eq_nil, isw_odd hx, xW, next_exn, exit_exn]
theorem may_ok {t u : List Nat} {st : Sto} {j : Nat} (d : Dn t) (e : Dn u) : callD EP R0 (j + 4) "may_be_one" [.d (dStr t), .d (dStr u)] st = .ok (.d (.bool (oneP t u))) st := by
  have hSZ : SZ = 16777216 := rfl
  rw [callD_fn (fn := fmay_be_one) rfl _ _ rfl]
  simp only [fmay_be_one, bmay_be_one, entry, evSs, evS, evC, evE, evEs, evI]
  simp [noneW, allD, eqAll, nodAll, depAll, varW, idxW, seqW, cmpW, cmpP, vw, cmpD, eqOk, nod, dep, eqD, truW, truD, b1W, binW, binD, asg_v, lenW, srcW, rcv1, tyOf, Fr.pur, ofP, m1W, int?, slW, slD, isiW, isTy, kindOk, isD, isW, inStr, nod_ones, T_beq, nod_strs, dep_strs, b2W, eq_nil, hSZ, forL, still, isw_dn d, isw_dn e, told_one_ok d.nm e.nm]
theorem may_odd {t : List Nat} {x : D} {st : Sto} {j : Nat} (d : Dn t) (hx : x ∈ odds) : callD EP R0 (j + 4) "may_be_one" [.d (dStr t), .d x] st = .exn (bad1 "BadWritten" x) st := by
  have hSZ : SZ = 16777216 := rfl
  rw [callD_fn (fn := fmay_be_one) rfl _ _ rfl]
  simp only [fmay_be_one, bmay_be_one, entry, evSs, evS, evC, evE, evEs, evI]
  simp [noneW, allD, eqAll, nodAll, depAll, varW, idxW, seqW, cmpW, cmpP, vw, cmpD, eqOk, nod, dep, eqD, truW, truD, b1W, binW, binD, asg_v, lenW, srcW, rcv1, tyOf, Fr.pur, ofP, m1W, int?, slW, slD, isiW, isTy, kindOk, isD, isW, inStr, nod_ones, T_beq, nod_strs, dep_strs, b2W, eq_nil, hSZ, forL, still, isw_dn d, isw_odd hx, xW, next_exn, exit_exn]
theorem may_odd2 {x y : D} {st : Sto} {j : Nat} (hx : x ∈ odds) : callD EP R0 (j + 4) "may_be_one" [.d x, .d y] st = .exn (bad1 "BadWritten" x) st := by
  have hSZ : SZ = 16777216 := rfl
  rw [callD_fn (fn := fmay_be_one) rfl _ _ rfl]
  simp only [fmay_be_one, bmay_be_one, entry, evSs, evS, evC, evE, evEs, evI]
  simp [noneW, allD, eqAll, nodAll, depAll, varW, idxW, seqW, cmpW, cmpP, vw, cmpD, eqOk, nod, dep, eqD, truW, truD, b1W, binW, binD, asg_v, lenW, srcW, rcv1, tyOf, Fr.pur, ofP, m1W, int?, slW, slD, isiW, isTy, kindOk, isD, isW, inStr, nod_ones, T_beq, nod_strs, dep_strs, b2W, eq_nil, hSZ, forL, still, isw_odd hx, xW, next_exn, exit_exn]
end HT
end

section
set_option Elab.async false
set_option linter.all false
set_option maxRecDepth 100000
set_option autoImplicit false
set_option maxHeartbeats 4000000
namespace HT
open PySem FM
/-! ### the order of the names -/
def lw (t : List Nat) : Nat := (wordsP t).length
def ls (t : List Nat) : Nat := ((wordsP t).map List.length).sum
def rw_ (t : List Nat) : D := .tuple [.int (-(lw t : Int)), .int (-(ls t : Int)), dStr t]
def kk (t : List Nat) : List Int := -(lw t : Int) :: -(ls t : Int) :: t.map fun (c : Nat) => (c : Int)
theorem ltL_int : ∀ a b : List Nat, ltL a b = true ↔ (a.map fun (c : Nat) => (c : Int)) < b.map fun (c : Nat) => (c : Int)
  | [], [] => by simp [noneW, allD, eqAll, nodAll, depAll, varW, idxW, seqW, cmpW, cmpP, vw, cmpD, eqOk, nod, dep, eqD, truW, truD, b1W, binW, binD, asg_v, lenW, srcW, rcv1, tyOf, Fr.pur, ofP, m1W, int?, slW, slD, isiW, isTy, kindOk, isD, isW, inStr, nod_ones, T_beq, nod_strs, dep_strs, b2W, eq_nil, ltL]
  | [], _ :: _ => by simp [noneW, allD, eqAll, nodAll, depAll, varW, idxW, seqW, cmpW, cmpP, vw, cmpD, eqOk, nod, dep, eqD, truW, truD, b1W, binW, binD, asg_v, lenW, srcW, rcv1, tyOf, Fr.pur, ofP, m1W, int?, slW, slD, isiW, isTy, kindOk, isD, isW, inStr, nod_ones, T_beq, nod_strs, dep_strs, b2W, eq_nil, ltL]
  | _ :: _, [] => by simp [noneW, allD, eqAll, nodAll, depAll, varW, idxW, seqW, cmpW, cmpP, vw, cmpD, eqOk, nod, dep, eqD, truW, truD, b1W, binW, binD, asg_v, lenW, srcW, rcv1, tyOf, Fr.pur, ofP, m1W, int?, slW, slD, isiW, isTy, kindOk, isD, isW, inStr, nod_ones, T_beq, nod_strs, dep_strs, b2W, eq_nil, ltL]
  | x :: a, y :: b => by
    simp only [ltL, List.map_cons]
    rw [List.cons_lt_cons_iff, ← ltL_int a b]
    by_cases h : x = y
    · subst h
      simp [noneW, allD, eqAll, nodAll, depAll, varW, idxW, seqW, cmpW, cmpP, vw, cmpD, eqOk, nod, dep, eqD, truW, truD, b1W, binW, binD, asg_v, lenW, srcW, rcv1, tyOf, Fr.pur, ofP, m1W, int?, slW, slD, isiW, isTy, kindOk, isD, isW, inStr, nod_ones, T_beq, nod_strs, dep_strs, b2W, eq_nil]
    · simp [noneW, allD, eqAll, nodAll, depAll, varW, idxW, seqW, cmpW, cmpP, vw, cmpD, eqOk, nod, dep, eqD, truW, truD, b1W, binW, binD, asg_v, lenW, srcW, rcv1, tyOf, Fr.pur, ofP, m1W, int?, slW, slD, isiW, isTy, kindOk, isD, isW, inStr, nod_ones, T_beq, nod_strs, dep_strs, b2W, eq_nil, h]
      intro z
      omega
theorem kk_inj {t u : List Nat} (h : kk t = kk u) : t = u := by
  unfold kk at h
  injection h with _ h
  injection h with _ h
  have hinj : ∀ a b : List Nat, (a.map fun (c : Nat) => (c : Int)) = (b.map fun (c : Nat) => (c : Int)) → a = b := by
    intro a
    induction a with
    | nil => intro b h; cases b <;> simp [noneW, allD, eqAll, nodAll, depAll, varW, idxW, seqW, cmpW, cmpP, vw, cmpD, eqOk, nod, dep, eqD, truW, truD, b1W, binW, binD, asg_v, lenW, srcW, rcv1, tyOf, Fr.pur, ofP, m1W, int?, slW, slD, isiW, isTy, kindOk, isD, isW, inStr, nod_ones, T_beq, nod_strs, dep_strs, b2W, eq_nil] at h ⊢
    | cons x a ih =>
      intro b h
      cases b with
      | nil => simp [noneW, allD, eqAll, nodAll, depAll, varW, idxW, seqW, cmpW, cmpP, vw, cmpD, eqOk, nod, dep, eqD, truW, truD, b1W, binW, binD, asg_v, lenW, srcW, rcv1, tyOf, Fr.pur, ofP, m1W, int?, slW, slD, isiW, isTy, kindOk, isD, isW, inStr, nod_ones, T_beq, nod_strs, dep_strs, b2W, eq_nil] at h
      | cons y b =>
        simp only [List.map_cons, List.cons.injEq] at h
        rw [ih b h.2, show x = y by omega]
  exact hinj _ _ h
theorem lt_rw (t u : List Nat) : ltD (rw_ t) (rw_ u) = decide (kk t < kk u) := by
  have h1 := ltL_int t u
  rw [Bool.eq_iff_iff, decide_eq_true_iff]
  unfold rw_ kk
  generalize (lw t : Int) = a at *
  generalize (lw u : Int) = a' at *
  generalize (ls t : Int) = b at *
  generalize (ls u : Int) = b' at *
  rw [List.cons_lt_cons_iff, List.cons_lt_cons_iff, ← h1]
  simp only [ltD, ltAll, eqD, dStr, tl_T]
  by_cases e1 : a = a'
  · subst e1
    by_cases e2 : b = b'
    · subst e2
      by_cases e3 : t = u
      · subst e3
        have : ltL t t = false := by
          clear h1
          induction t with
          | nil => rfl
          | cons c t ih => simp [noneW, allD, eqAll, nodAll, depAll, varW, idxW, seqW, cmpW, cmpP, vw, cmpD, eqOk, nod, dep, eqD, truW, truD, b1W, binW, binD, asg_v, lenW, srcW, rcv1, tyOf, Fr.pur, ofP, m1W, int?, slW, slD, isiW, isTy, kindOk, isD, isW, inStr, nod_ones, T_beq, nod_strs, dep_strs, b2W, eq_nil, ltL, ih]
        simp [noneW, allD, eqAll, nodAll, depAll, varW, idxW, seqW, cmpW, cmpP, vw, cmpD, eqOk, nod, dep, eqD, truW, truD, b1W, binW, binD, asg_v, lenW, srcW, rcv1, tyOf, Fr.pur, ofP, m1W, int?, slW, slD, isiW, isTy, kindOk, isD, isW, inStr, nod_ones, T_beq, nod_strs, dep_strs, b2W, eq_nil, this]
      · have : (T t == T u) = false := by simp [noneW, allD, eqAll, nodAll, depAll, varW, idxW, seqW, cmpW, cmpP, vw, cmpD, eqOk, nod, dep, eqD, truW, truD, b1W, binW, binD, asg_v, lenW, srcW, rcv1, tyOf, Fr.pur, ofP, m1W, int?, slW, slD, isiW, isTy, kindOk, isD, isW, inStr, nod_ones, T_beq, nod_strs, dep_strs, b2W, eq_nil, e3]
        simp [noneW, allD, eqAll, nodAll, depAll, varW, idxW, seqW, cmpW, cmpP, vw, cmpD, eqOk, nod, dep, eqD, truW, truD, b1W, binW, binD, asg_v, lenW, srcW, rcv1, tyOf, Fr.pur, ofP, m1W, int?, slW, slD, isiW, isTy, kindOk, isD, isW, inStr, nod_ones, T_beq, nod_strs, dep_strs, b2W, eq_nil, this]
    · have : (-b == -b') = false := by
        simp [noneW, allD, eqAll, nodAll, depAll, varW, idxW, seqW, cmpW, cmpP, vw, cmpD, eqOk, nod, dep, eqD, truW, truD, b1W, binW, binD, asg_v, lenW, srcW, rcv1, tyOf, Fr.pur, ofP, m1W, int?, slW, slD, isiW, isTy, kindOk, isD, isW, inStr, nod_ones, T_beq, nod_strs, dep_strs, b2W, eq_nil]
        omega
      simp [noneW, allD, eqAll, nodAll, depAll, varW, idxW, seqW, cmpW, cmpP, vw, cmpD, eqOk, nod, dep, eqD, truW, truD, b1W, binW, binD, asg_v, lenW, srcW, rcv1, tyOf, Fr.pur, ofP, m1W, int?, slW, slD, isiW, isTy, kindOk, isD, isW, inStr, nod_ones, T_beq, nod_strs, dep_strs, b2W, eq_nil, this, e2]
  · have : (-a == -a') = false := by
      simp [noneW, allD, eqAll, nodAll, depAll, varW, idxW, seqW, cmpW, cmpP, vw, cmpD, eqOk, nod, dep, eqD, truW, truD, b1W, binW, binD, asg_v, lenW, srcW, rcv1, tyOf, Fr.pur, ofP, m1W, int?, slW, slD, isiW, isTy, kindOk, isD, isW, inStr, nod_ones, T_beq, nod_strs, dep_strs, b2W, eq_nil]
      omega
    simp [noneW, allD, eqAll, nodAll, depAll, varW, idxW, seqW, cmpW, cmpP, vw, cmpD, eqOk, nod, dep, eqD, truW, truD, b1W, binW, binD, asg_v, lenW, srcW, rcv1, tyOf, Fr.pur, ofP, m1W, int?, slW, slD, isiW, isTy, kindOk, isD, isW, inStr, nod_ones, T_beq, nod_strs, dep_strs, b2W, eq_nil, this, e1]
def leT (t u : List Nat) : Bool := decide (kk t ≤ kk u)
theorem le_rw (t u : List Nat) : leD (rw_ t) (rw_ u) = leT t u := by
  unfold leD leT
  rw [lt_rw]
  by_cases h : kk u < kk t
  · have : ¬ kk t ≤ kk u := List.not_le.mpr h
    simp [noneW, allD, eqAll, nodAll, depAll, varW, idxW, seqW, cmpW, cmpP, vw, cmpD, eqOk, nod, dep, eqD, truW, truD, b1W, binW, binD, asg_v, lenW, srcW, rcv1, tyOf, Fr.pur, ofP, m1W, int?, slW, slD, isiW, isTy, kindOk, isD, isW, inStr, nod_ones, T_beq, nod_strs, dep_strs, b2W, eq_nil, h, this]
  · have : kk t ≤ kk u := List.not_lt.mp h
    simp [noneW, allD, eqAll, nodAll, depAll, varW, idxW, seqW, cmpW, cmpP, vw, cmpD, eqOk, nod, dep, eqD, truW, truD, b1W, binW, binD, asg_v, lenW, srcW, rcv1, tyOf, Fr.pur, ofP, m1W, int?, slW, slD, isiW, isTy, kindOk, isD, isW, inStr, nod_ones, T_beq, nod_strs, dep_strs, b2W, eq_nil, h, this]
theorem sort_rw (ts : List (List Nat)) : sortD (ts.map rw_) = (ts.mergeSort leT).map rw_ := by
  unfold sortD
  exact (List.map_mergeSort (r := leT) (s := leD) (f := rw_) (l := ts) fun a _ b _ => (le_rw a b).symm).symm
def minT : List Nat → List (List Nat) → List Nat
  | m, [] => m
  | m, x :: r => minT (if decide (kk x < kk m) then x else m) r
theorem min_rw : ∀ (r : List (List Nat)) (m : List Nat), minL (rw_ m) (r.map rw_) = rw_ (minT m r)
  | [], m => rfl
  | x :: r, m => by
    simp only [List.map_cons, minL, minT, lt_rw]
    rw [← min_rw r]
    split <;> rfl
theorem minT_mem : ∀ (r : List (List Nat)) (m : List Nat), minT m r = m ∨ minT m r ∈ r
  | [], m => .inl rfl
  | x :: r, m => by
    simp only [minT]
    rcases minT_mem r (if decide (kk x < kk m) then x else m) with h | h
    · rw [h]
      split
      · exact .inr List.mem_cons_self
      · exact .inl rfl
    · exact .inr (List.mem_cons_of_mem _ h)
theorem minT_le : ∀ (r : List (List Nat)) (m : List Nat), kk (minT m r) ≤ kk m ∧ ∀ x ∈ r, kk (minT m r) ≤ kk x
  | [], m => ⟨List.le_refl _, fun x h => (by cases h)⟩
  | x :: r, m => by
    simp only [minT]
    obtain ⟨h1, h2⟩ := minT_le r (if decide (kk x < kk m) then x else m)
    by_cases h : kk x < kk m
    · simp only [h, decide_true, if_true] at h1 h2 ⊢
      refine ⟨List.le_trans h1 (List.le_of_lt h), fun y hy => ?_⟩
      rcases List.mem_cons.mp hy with rfl | hy
      · exact h1
      · exact h2 y hy
    · simp only [h, decide_false, Bool.false_eq_true, if_false] at h1 h2 ⊢
      refine ⟨h1, fun y hy => ?_⟩
      rcases List.mem_cons.mp hy with rfl | hy
      · exact List.le_trans h1 (List.not_lt.mp h)
      · exact h2 y hy
theorem sort_head (m : List Nat) (r : List (List Nat)) : ∃ tl, (m :: r).mergeSort leT = minT m r :: tl := by
  have hp : ((m :: r).mergeSort leT).Perm (m :: r) := List.mergeSort_perm _ _
  have hs : ((m :: r).mergeSort leT).Pairwise (fun a b => leT a b = true) := List.pairwise_mergeSort (fun a b c h1 h2 => by
    simp only [leT, decide_eq_true_eq] at *
    exact List.le_trans h1 h2) (fun a b => by
    simp only [leT, Bool.or_eq_true, decide_eq_true_eq]
    exact List.le_total _ _) _
  cases hc : (m :: r).mergeSort leT with
  | nil =>
    rw [hc] at hp
    have := hp.length_eq
    simp [noneW, allD, eqAll, nodAll, depAll, varW, idxW, seqW, cmpW, cmpP, vw, cmpD, eqOk, nod, dep, eqD, truW, truD, b1W, binW, binD, asg_v, lenW, srcW, rcv1, tyOf, Fr.pur, ofP, m1W, int?, slW, slD, isiW, isTy, kindOk, isD, isW, inStr, nod_ones, T_beq, nod_strs, dep_strs, b2W, eq_nil] at this
  | cons h tl =>
    rw [hc] at hp hs
    refine ⟨tl, ?_⟩
    have h1 : h ∈ m :: r := hp.mem_iff.mp List.mem_cons_self
    have h2 : minT m r ∈ h :: tl := hp.mem_iff.mpr (by
      rcases minT_mem r m with e | e
      · rw [e]; exact List.mem_cons_self
      · exact List.mem_cons_of_mem _ e)
    have h3 : kk (minT m r) ≤ kk h := by
      obtain ⟨q1, q2⟩ := minT_le r m
      rcases List.mem_cons.mp h1 with e | e
      · rw [e]; exact q1
      · exact q2 h e
    have h4 : kk h ≤ kk (minT m r) := by
      rcases List.mem_cons.mp h2 with e | e
      · rw [e]; exact List.le_refl _
      · have := (List.pairwise_cons.mp hs).1 _ e
        simpa [noneW, allD, eqAll, nodAll, depAll, varW, idxW, seqW, cmpW, cmpP, vw, cmpD, eqOk, nod, dep, eqD, truW, truD, b1W, binW, binD, asg_v, lenW, srcW, rcv1, tyOf, Fr.pur, ofP, m1W, int?, slW, slD, isiW, isTy, kindOk, isD, isW, inStr, nod_ones, T_beq, nod_strs, dep_strs, b2W, eq_nil, leT] using this
    rw [kk_inj (List.le_antisymm h4 h3)]
theorem rw_sort {ts : List (List Nat)} (h : ts.length ≤ SZ) : sortOk (ts.map rw_) = true ∧ (alkAllB (ts.map rw_) = true ∧ depOk (ts.map rw_) = true ∧ (ts.map rw_).all (fun y => !isNo y) = true) := by
  have h1 : alkAllB (ts.map rw_) = true := by simp [noneW, allD, eqAll, nodAll, depAll, varW, idxW, seqW, cmpW, cmpP, vw, cmpD, eqOk, nod, dep, eqD, truW, truD, b1W, binW, binD, asg_v, lenW, srcW, rcv1, tyOf, Fr.pur, ofP, m1W, int?, slW, slD, isiW, isTy, kindOk, isD, isW, inStr, nod_ones, T_beq, nod_strs, dep_strs, b2W, eq_nil, alkAllB, rw_, alk, alkAll]
  have h2 : sortable (ts.map rw_) = true := by
    unfold sortable
    rw [Bool.or_eq_true]
    left
    rw [List.all_eq_true]
    intro x hx
    obtain ⟨p, _, rfl⟩ := List.mem_map.mp hx
    rfl
  have h3 : depOk (ts.map rw_) = true := by simp [noneW, allD, eqAll, nodAll, depAll, varW, idxW, seqW, cmpW, cmpP, vw, cmpD, eqOk, nod, dep, eqD, truW, truD, b1W, binW, binD, asg_v, lenW, srcW, rcv1, tyOf, Fr.pur, ofP, m1W, int?, slW, slD, isiW, isTy, kindOk, isD, isW, inStr, nod_ones, T_beq, nod_strs, dep_strs, b2W, eq_nil, depOk, rw_]
  have h4 : (ts.map rw_).all (fun y => !isNo y) = true := by simp [noneW, allD, eqAll, nodAll, depAll, varW, idxW, seqW, cmpW, cmpP, vw, cmpD, eqOk, nod, dep, eqD, truW, truD, b1W, binW, binD, asg_v, lenW, srcW, rcv1, tyOf, Fr.pur, ofP, m1W, int?, slW, slD, isiW, isTy, kindOk, isD, isW, inStr, nod_ones, T_beq, nod_strs, dep_strs, b2W, eq_nil, rw_, isNo]
  exact ⟨by simp [noneW, allD, eqAll, nodAll, depAll, varW, idxW, seqW, cmpW, cmpP, vw, cmpD, eqOk, nod, dep, eqD, truW, truD, b1W, binW, binD, asg_v, lenW, srcW, rcv1, tyOf, Fr.pur, ofP, m1W, int?, slW, slD, isiW, isTy, kindOk, isD, isW, inStr, nod_ones, T_beq, nod_strs, dep_strs, b2W, eq_nil, sortOk, h1, h2, h3, h], h1, h3, h4⟩
end HT
end

section
set_option Elab.async false
set_option linter.all false
set_option maxRecDepth 100000
set_option autoImplicit false
set_option maxHeartbeats 4000000
namespace HT
open PySem FM
def allP (ts : List (List Nat)) : Bool := ts.all fun t => ts.all fun u => oneP t u
def fullP : List (List Nat) → D
  | [] => .none
  | m :: r => if allP (m :: r) then dStr (minT m r) else .none
theorem is_row_ok {x : D} {st : Sto} {j : Nat} : nod x = true → callD EP R0 (j + 1) "is_row" [.d x] st = .ok (.d (.bool (match x with | .list _ => true | .tuple _ => true | _ => false))) st := by
  intro h
  rw [callD_fn (fn := fis_row) rfl _ _ rfl]
  simp only [fis_row, bis_row, entry, evSs, evS, evE]
  cases x <;> simp [noneW, allD, eqAll, nodAll, depAll, varW, idxW, seqW, cmpW, cmpP, vw, cmpD, eqOk, nod, dep, eqD, truW, truD, b1W, binW, binD, asg_v, lenW, srcW, rcv1, tyOf, Fr.pur, ofP, m1W, int?, slW, slD, isiW, isTy, kindOk, isD, isW, inStr, nod_ones, T_beq, nod_strs, dep_strs, b2W, eq_nil, nod] at h ⊢
/-- a row of texts: a list or a tuple -/
def rowT (b : Bool) (xs : List D) : D := if b then .tuple xs else .list xs
theorem rowT_src {b : Bool} {xs : List D} {st : Sto} : srcW st (.d (rowT b xs)) = some (xs.map .d, none) ∧ seqD st (.d (rowT b xs)) = some xs ∧ lenW st (.d (rowT b xs)) = some (xs.length : Int) := by
  cases b <;> simp [noneW, allD, eqAll, nodAll, depAll, varW, idxW, seqW, cmpW, cmpP, vw, cmpD, eqOk, nod, dep, eqD, truW, truD, b1W, binW, binD, asg_v, lenW, srcW, rcv1, tyOf, Fr.pur, ofP, m1W, int?, slW, slD, isiW, isTy, kindOk, isD, isW, inStr, nod_ones, T_beq, nod_strs, dep_strs, b2W, eq_nil, rowT, seqD]
theorem asg_ix (i k : Nat) (n : Int) (x : D) (ρ : FM.Env) : asgT (.t [.v i, .v k]) (.d (.tuple [.int n, x])) ρ = some ((ρ.set i (some (.d (.int n)))).set k (some (.d x))) := rfl
theorem guard_row {b : Bool} {xs : List D} : guardOf (.d (rowT b xs)) = none := rfl
def bodyE : FM.Ss := .cons (.ife (.not (.e (.call "is_written" (.cons (.var 1) (.nil))))) (.cons (.raise "BadNames" (.cons (.var 3) .nil)) (.nil)) (.nil)) (.nil)
theorem enum_ok {b : Bool} {st : Sto} {j : Nat} : ∀ (ts : List (List Nat)) (k : Int) (ρ : FM.Env), (∀ t ∈ ts, Dn t) → ρ.length = 6 → ∃ ρ', forL none (fun w ρ st => match asgT (.t [.v 3, .v 1]) w ρ with | some ρ' => evSs EP R0 (callD EP R0 (j + 2)) bodyE ρ' st | none => .bad) ((enumL k (ts.map dStr)).map .d) ρ st = .nx ρ' st ∧ ρ'.length = 6 ∧ ρ'[0]? = ρ[0]? := by
  intro ts
  induction ts with
  | nil => intro k ρ _ h; exact ⟨ρ, rfl, h, rfl⟩
  | cons t ts ih =>
    intro k ρ hd hl
    obtain ⟨ρ', h1, h2, h3⟩ := ih (k + 1) ((ρ.set 3 (some (.d (.int k)))).set 1 (some (.d (dStr t)))) (fun u hu => hd u (List.mem_cons_of_mem _ hu)) (by simp [noneW, allD, eqAll, nodAll, depAll, varW, idxW, seqW, cmpW, cmpP, vw, cmpD, eqOk, nod, dep, eqD, truW, truD, b1W, binW, binD, asg_v, lenW, srcW, rcv1, tyOf, Fr.pur, ofP, m1W, int?, slW, slD, isiW, isTy, kindOk, isD, isW, inStr, nod_ones, T_beq, nod_strs, dep_strs, b2W, eq_nil, hl])
    have e1 : varW ((ρ.set 3 (some (.d (.int k)))).set 1 (some (.d (dStr t)))) 1 = some (.d (dStr t)) := by simp [noneW, allD, eqAll, nodAll, depAll, varW, idxW, seqW, cmpW, cmpP, vw, cmpD, eqOk, nod, dep, eqD, truW, truD, b1W, binW, binD, asg_v, lenW, srcW, rcv1, tyOf, Fr.pur, ofP, m1W, int?, slW, slD, isiW, isTy, kindOk, isD, isW, inStr, nod_ones, T_beq, nod_strs, dep_strs, b2W, eq_nil, hl]
    have e2 : evSs EP R0 (callD EP R0 (j + 2)) bodyE ((ρ.set 3 (some (.d (.int k)))).set 1 (some (.d (dStr t)))) st = .nx ((ρ.set 3 (some (.d (.int k)))).set 1 (some (.d (dStr t)))) st := by
      simp only [bodyE, evSs, evS, evC, evE, evEs, e1, Res.of_some, Res.bind_ok, isw_dn (hd t List.mem_cons_self)]
      simp [noneW, allD, eqAll, nodAll, depAll, varW, idxW, seqW, cmpW, cmpP, vw, cmpD, eqOk, nod, dep, eqD, truW, truD, b1W, binW, binD, asg_v, lenW, srcW, rcv1, tyOf, Fr.pur, ofP, m1W, int?, slW, slD, isiW, isTy, kindOk, isD, isW, inStr, nod_ones, T_beq, nod_strs, dep_strs, b2W, eq_nil]
    refine ⟨ρ', ?_, h2, by rw [h3]; simp [noneW, allD, eqAll, nodAll, depAll, varW, idxW, seqW, cmpW, cmpP, vw, cmpD, eqOk, nod, dep, eqD, truW, truD, b1W, binW, binD, asg_v, lenW, srcW, rcv1, tyOf, Fr.pur, ofP, m1W, int?, slW, slD, isiW, isTy, kindOk, isD, isW, inStr, nod_ones, T_beq, nod_strs, dep_strs, b2W, eq_nil]⟩
    simp only [List.map_cons, enumL, forL, asg_ix, e2, still, if_true]
    exact h1
theorem enum_bad {b : Bool} {x : D} {st : Sto} {j : Nat} (hx : x ∈ odds) : ∀ (ts : List (List Nat)) (k : Int) (ρ : FM.Env), (∀ t ∈ ts, Dn t) → ρ.length = 6 → forL none (fun w ρ st => match asgT (.t [.v 3, .v 1]) w ρ with | some ρ' => evSs EP R0 (callD EP R0 (j + 2)) bodyE ρ' st | none => .bad) ((enumL k (ts.map dStr ++ [x])).map .d) ρ st = .exn (bad1 "BadNames" (.int (k + ts.length))) st := by
  intro ts
  induction ts with
  | nil =>
    intro k ρ _ hl
    have e1 : varW ((ρ.set 3 (some (.d (.int k)))).set 1 (some (.d x))) 1 = some (.d x) := by simp [noneW, allD, eqAll, nodAll, depAll, varW, idxW, seqW, cmpW, cmpP, vw, cmpD, eqOk, nod, dep, eqD, truW, truD, b1W, binW, binD, asg_v, lenW, srcW, rcv1, tyOf, Fr.pur, ofP, m1W, int?, slW, slD, isiW, isTy, kindOk, isD, isW, inStr, nod_ones, T_beq, nod_strs, dep_strs, b2W, eq_nil, hl]
    have e3 : varW ((ρ.set 3 (some (.d (.int k)))).set 1 (some (.d x))) 3 = some (.d (.int k)) := by simp [noneW, allD, eqAll, nodAll, depAll, varW, idxW, seqW, cmpW, cmpP, vw, cmpD, eqOk, nod, dep, eqD, truW, truD, b1W, binW, binD, asg_v, lenW, srcW, rcv1, tyOf, Fr.pur, ofP, m1W, int?, slW, slD, isiW, isTy, kindOk, isD, isW, inStr, nod_ones, T_beq, nod_strs, dep_strs, b2W, eq_nil, hl]
    have e2 : evSs EP R0 (callD EP R0 (j + 2)) bodyE ((ρ.set 3 (some (.d (.int k)))).set 1 (some (.d x))) st = .exn (bad1 "BadNames" (.int k)) st := by
      simp only [bodyE, evSs, evS, evC, evE, evEs, e1, e3, Res.of_some, Res.bind_ok, isw_odd hx]
      simp [noneW, allD, eqAll, nodAll, depAll, varW, idxW, seqW, cmpW, cmpP, vw, cmpD, eqOk, nod, dep, eqD, truW, truD, b1W, binW, binD, asg_v, lenW, srcW, rcv1, tyOf, Fr.pur, ofP, m1W, int?, slW, slD, isiW, isTy, kindOk, isD, isW, inStr, nod_ones, T_beq, nod_strs, dep_strs, b2W, eq_nil, xN, bad1]
    simp only [List.map_nil, List.nil_append, List.map_cons, enumL, forL, asg_ix, e2]
    simp [noneW, allD, eqAll, nodAll, depAll, varW, idxW, seqW, cmpW, cmpP, vw, cmpD, eqOk, nod, dep, eqD, truW, truD, b1W, binW, binD, asg_v, lenW, srcW, rcv1, tyOf, Fr.pur, ofP, m1W, int?, slW, slD, isiW, isTy, kindOk, isD, isW, inStr, nod_ones, T_beq, nod_strs, dep_strs, b2W, eq_nil]
  | cons t ts ih =>
    intro k ρ hd hl
    have h1 := ih (k + 1) ((ρ.set 3 (some (.d (.int k)))).set 1 (some (.d (dStr t)))) (fun u hu => hd u (List.mem_cons_of_mem _ hu)) (by simp [noneW, allD, eqAll, nodAll, depAll, varW, idxW, seqW, cmpW, cmpP, vw, cmpD, eqOk, nod, dep, eqD, truW, truD, b1W, binW, binD, asg_v, lenW, srcW, rcv1, tyOf, Fr.pur, ofP, m1W, int?, slW, slD, isiW, isTy, kindOk, isD, isW, inStr, nod_ones, T_beq, nod_strs, dep_strs, b2W, eq_nil, hl])
    have e1 : varW ((ρ.set 3 (some (.d (.int k)))).set 1 (some (.d (dStr t)))) 1 = some (.d (dStr t)) := by simp [noneW, allD, eqAll, nodAll, depAll, varW, idxW, seqW, cmpW, cmpP, vw, cmpD, eqOk, nod, dep, eqD, truW, truD, b1W, binW, binD, asg_v, lenW, srcW, rcv1, tyOf, Fr.pur, ofP, m1W, int?, slW, slD, isiW, isTy, kindOk, isD, isW, inStr, nod_ones, T_beq, nod_strs, dep_strs, b2W, eq_nil, hl]
    have e2 : evSs EP R0 (callD EP R0 (j + 2)) bodyE ((ρ.set 3 (some (.d (.int k)))).set 1 (some (.d (dStr t)))) st = .nx ((ρ.set 3 (some (.d (.int k)))).set 1 (some (.d (dStr t)))) st := by
      simp only [bodyE, evSs, evS, evC, evE, evEs, e1, Res.of_some, Res.bind_ok, isw_dn (hd t List.mem_cons_self)]
      simp [noneW, allD, eqAll, nodAll, depAll, varW, idxW, seqW, cmpW, cmpP, vw, cmpD, eqOk, nod, dep, eqD, truW, truD, b1W, binW, binD, asg_v, lenW, srcW, rcv1, tyOf, Fr.pur, ofP, m1W, int?, slW, slD, isiW, isTy, kindOk, isD, isW, inStr, nod_ones, T_beq, nod_strs, dep_strs, b2W, eq_nil]
    simp only [List.map_cons, List.cons_append, enumL, forL, asg_ix, e2, still, if_true]
    rw [h1]
    simp [noneW, allD, eqAll, nodAll, depAll, varW, idxW, seqW, cmpW, cmpP, vw, cmpD, eqOk, nod, dep, eqD, truW, truD, b1W, binW, binD, asg_v, lenW, srcW, rcv1, tyOf, Fr.pur, ofP, m1W, int?, slW, slD, isiW, isTy, kindOk, isD, isW, inStr, nod_ones, T_beq, nod_strs, dep_strs, b2W, eq_nil, bad1]
    omega
theorem first_if {x : D} {st : Sto} {j : Nat} {v : List (Option W)} (hn : nod x = true) (h : (∃ xs, (x = .list xs ∨ x = .tuple xs) ∧ 1 ≤ xs.length ∧ xs.length ≤ 12)) : evC EP R0 (callD EP R0 (j + 1)) (.or (.not (.e (.call "is_row" (.cons (.var 0) (.nil))))) (.not (.e (.chain .le .le (.int 1) (.b1 .len (.var 0)) (.glob "MOST_NAMES"))))) (some (.d x) :: v) st = .ok false st := by
  obtain ⟨xs, h1, h2, h3⟩ := h
  have e1 : (1 : Int) ≤ xs.length := by omega
  have e2 : ¬ (12 : Int) < xs.length := by omega
  rcases h1 with rfl | rfl <;> simp [noneW, allD, eqAll, nodAll, depAll, varW, idxW, seqW, cmpW, cmpP, vw, cmpD, eqOk, nod, dep, eqD, truW, truD, b1W, binW, binD, asg_v, lenW, srcW, rcv1, tyOf, Fr.pur, ofP, m1W, int?, slW, slD, isiW, isTy, kindOk, isD, isW, inStr, nod_ones, T_beq, nod_strs, dep_strs, b2W, eq_nil, evC, evE, evEs, is_row_ok hn, gN, cmpOk, alk, ordOk, isNo, ltD, e1, e2]
def badRows : List D := [.none, .list [], .list (List.replicate 13 (dStr [97])), .int 5]
theorem first_bad {x : D} {st : Sto} {j : Nat} {v : List (Option W)} (hn : nod x = true) (h : (∃ xs, x = .list xs ∧ (xs.length = 0 ∨ 12 < xs.length)) ∨ x = .none ∨ x = .int 5) : evC EP R0 (callD EP R0 (j + 1)) (.or (.not (.e (.call "is_row" (.cons (.var 0) (.nil))))) (.not (.e (.chain .le .le (.int 1) (.b1 .len (.var 0)) (.glob "MOST_NAMES"))))) (some (.d x) :: v) st = .ok true st := by
  rcases h with ⟨xs, rfl, h⟩ | h | h
  · by_cases e1 : (1 : Int) ≤ xs.length
    · have e2 : (12 : Int) < xs.length := by omega
      simp [noneW, allD, eqAll, nodAll, depAll, varW, idxW, seqW, cmpW, cmpP, vw, cmpD, eqOk, nod, dep, eqD, truW, truD, b1W, binW, binD, asg_v, lenW, srcW, rcv1, tyOf, Fr.pur, ofP, m1W, int?, slW, slD, isiW, isTy, kindOk, isD, isW, inStr, nod_ones, T_beq, nod_strs, dep_strs, b2W, eq_nil, evC, evE, evEs, is_row_ok hn, gN, cmpOk, alk, ordOk, isNo, ltD, e1, e2]
    · simp [noneW, allD, eqAll, nodAll, depAll, varW, idxW, seqW, cmpW, cmpP, vw, cmpD, eqOk, nod, dep, eqD, truW, truD, b1W, binW, binD, asg_v, lenW, srcW, rcv1, tyOf, Fr.pur, ofP, m1W, int?, slW, slD, isiW, isTy, kindOk, isD, isW, inStr, nod_ones, T_beq, nod_strs, dep_strs, b2W, eq_nil, evC, evE, evEs, is_row_ok hn, gN, cmpOk, alk, ordOk, isNo, ltD, e1]
  · subst h
    simp [noneW, allD, eqAll, nodAll, depAll, varW, idxW, seqW, cmpW, cmpP, vw, cmpD, eqOk, nod, dep, eqD, truW, truD, b1W, binW, binD, asg_v, lenW, srcW, rcv1, tyOf, Fr.pur, ofP, m1W, int?, slW, slD, isiW, isTy, kindOk, isD, isW, inStr, nod_ones, T_beq, nod_strs, dep_strs, b2W, eq_nil, evC, evE, evEs, is_row_ok hn]
  · subst h
    simp [noneW, allD, eqAll, nodAll, depAll, varW, idxW, seqW, cmpW, cmpP, vw, cmpD, eqOk, nod, dep, eqD, truW, truD, b1W, binW, binD, asg_v, lenW, srcW, rcv1, tyOf, Fr.pur, ofP, m1W, int?, slW, slD, isiW, isTy, kindOk, isD, isW, inStr, nod_ones, T_beq, nod_strs, dep_strs, b2W, eq_nil, evC, evE, evEs, is_row_ok hn]
theorem fullest_bad {x : D} {st : Sto} {j : Nat} (hx : x ∈ badRows) : callD EP R0 (j + 2) "fullest" [.d x] st = .exn (bad1 "BadNames" (.int (-1))) st := by
  rw [callD_fn (fn := ffullest) rfl _ _ rfl]
  simp only [badRows, List.mem_cons, List.not_mem_nil, or_false] at hx
  have hn : nod x = true := by rcases hx with h | h | h | h <;> subst h <;> decide
  have S1 := first_bad (v := [none, none, none, none, none]) (st := st) (j := j) hn (by
    rcases hx with h | h | h | h
    · exact .inr (.inl h)
    · exact .inl ⟨_, h, by simp [noneW, allD, eqAll, nodAll, depAll, varW, idxW, seqW, cmpW, cmpP, vw, cmpD, eqOk, nod, dep, eqD, truW, truD, b1W, binW, binD, asg_v, lenW, srcW, rcv1, tyOf, Fr.pur, ofP, m1W, int?, slW, slD, isiW, isTy, kindOk, isD, isW, inStr, nod_ones, T_beq, nod_strs, dep_strs, b2W, eq_nil]⟩
    · exact .inl ⟨_, h, by simp [noneW, allD, eqAll, nodAll, depAll, varW, idxW, seqW, cmpW, cmpP, vw, cmpD, eqOk, nod, dep, eqD, truW, truD, b1W, binW, binD, asg_v, lenW, srcW, rcv1, tyOf, Fr.pur, ofP, m1W, int?, slW, slD, isiW, isTy, kindOk, isD, isW, inStr, nod_ones, T_beq, nod_strs, dep_strs, b2W, eq_nil]⟩
    · exact .inr (.inr h))
  show exitR .pure st (evSs EP R0 (callD EP R0 (j + 1)) bfullest [some (.d x), none, none, none, none, none] st) = _
  rw [bfullest, evSs, evS, S1]
  simp [noneW, allD, eqAll, nodAll, depAll, varW, idxW, seqW, cmpW, cmpP, vw, cmpD, eqOk, nod, dep, eqD, truW, truD, b1W, binW, binD, asg_v, lenW, srcW, rcv1, tyOf, Fr.pur, ofP, m1W, int?, slW, slD, isiW, isTy, kindOk, isD, isW, inStr, nod_ones, T_beq, nod_strs, dep_strs, b2W, eq_nil, evSs, evS, evE, evEs, xN, next_exn, exit_exn]
theorem fullest_odd {ts : List (List Nat)} {x : D} {st : Sto} {j : Nat} (hd : ∀ t ∈ ts, Dn t) (hl : 1 ≤ ts.length) (hl2 : ts.length ≤ 11) (hx : x ∈ odds) : callD EP R0 (j + 3) "fullest" [.d (.list (ts.map dStr ++ [x]))] st = .exn (bad1 "BadNames" (.int ts.length)) st := by
  rw [callD_fn (fn := ffullest) rfl _ _ rfl]
  have hnx : nod x = true := by
    simp only [odds, List.mem_cons, List.not_mem_nil, or_false] at hx
    rcases hx with h | h | h | h | h | h | h | h | h <;> subst h <;> rfl
  have hn : nod (.list (ts.map dStr ++ [x])) = true := by
    clear hl hl2 hd
    induction ts with
    | nil => simp [noneW, allD, eqAll, nodAll, depAll, varW, idxW, seqW, cmpW, cmpP, vw, cmpD, eqOk, nod, dep, eqD, truW, truD, b1W, binW, binD, asg_v, lenW, srcW, rcv1, tyOf, Fr.pur, ofP, m1W, int?, slW, slD, isiW, isTy, kindOk, isD, isW, inStr, nod_ones, T_beq, nod_strs, dep_strs, b2W, eq_nil, hnx]
    | cons t ts ih => simpa [noneW, allD, eqAll, nodAll, depAll, varW, idxW, seqW, cmpW, cmpP, vw, cmpD, eqOk, nod, dep, eqD, truW, truD, b1W, binW, binD, asg_v, lenW, srcW, rcv1, tyOf, Fr.pur, ofP, m1W, int?, slW, slD, isiW, isTy, kindOk, isD, isW, inStr, nod_ones, T_beq, nod_strs, dep_strs, b2W, eq_nil] using ih
  have S1 := first_if (v := [none, none, none, none, none]) (st := st) (j := j + 1) hn ⟨_, .inl rfl, by simp [noneW, allD, eqAll, nodAll, depAll, varW, idxW, seqW, cmpW, cmpP, vw, cmpD, eqOk, nod, dep, eqD, truW, truD, b1W, binW, binD, asg_v, lenW, srcW, rcv1, tyOf, Fr.pur, ofP, m1W, int?, slW, slD, isiW, isTy, kindOk, isD, isW, inStr, nod_ones, T_beq, nod_strs, dep_strs, b2W, eq_nil], by simpa [noneW, allD, eqAll, nodAll, depAll, varW, idxW, seqW, cmpW, cmpP, vw, cmpD, eqOk, nod, dep, eqD, truW, truD, b1W, binW, binD, asg_v, lenW, srcW, rcv1, tyOf, Fr.pur, ofP, m1W, int?, slW, slD, isiW, isTy, kindOk, isD, isW, inStr, nod_ones, T_beq, nod_strs, dep_strs, b2W, eq_nil] using hl2⟩
  have S2 : evS EP R0 (callD EP R0 (j + 2)) (.for (.t [.v 3, .v 1]) (.enum (.var 0) 0) bodyE) [some (.d (.list (ts.map dStr ++ [x]))), none, none, none, none, none] st = .exn (bad1 "BadNames" (.int ts.length)) st := by
    have h1 := enum_bad (b := false) (st := st) (j := j) hx ts 0 [some (.d (.list (ts.map dStr ++ [x]))), none, none, none, none, none] hd rfl
    rw [Int.zero_add] at h1
    rw [evS, evI, evE]
    have hs := rowT_src (b := false) (xs := ts.map dStr ++ [x]) (st := st)
    simp only [varW, List.getElem?_cons_zero, Res.of_some, Res.bind_ok, show PyData.list (ts.map dStr ++ [x]) = rowT false (ts.map dStr ++ [x]) from rfl, hs.2.1, guard_row, Res.out_ok]
    exact h1
  show exitR .pure st (evSs EP R0 (callD EP R0 (j + 2)) bfullest [some (.d (.list (ts.map dStr ++ [x]))), none, none, none, none, none] st) = _
  rw [bfullest, evSs, evS, S1]
  simp only [Res.out_ok, Bool.false_eq_true, if_false, evSs, Out.next_nx]
  rw [show (FM.Ss.cons (.ife (.not (.e (.call "is_written" (.cons (.var 1) (.nil))))) (.cons (.raise "BadNames" (.cons (.var 3) .nil)) (.nil)) (.nil)) (.nil)) = bodyE from rfl, S2, next_exn]
  exact exit_exn
theorem all_one {b : Bool} {ts : List (List Nat)} {t : List Nat} {ρ : FM.Env} {st : Sto} {j : Nat} (hd : ∀ t ∈ ts, Dn t) (hl : ts.length ≤ 12) (d : Dn t) (h0 : ρ[0]? = some (some (.d (rowT b (ts.map dStr))))) (h1 : ρ[1]? = some (some (.d (dStr t)))) (hρ : ρ.length = 6) :
    evE EP R0 (callD EP R0 (j + 3)) (.b1 .all (.pur (.lc [4] (.v 4) (.e (.var 0)) (.no) (.call "told_one" (.cons (.var 1) (.cons (.var 4) (.nil))))))) ρ st = .ok (.d (.bool (ts.all fun u => oneP t u))) st := by
  have hSZ : SZ = 16777216 := rfl
  have hs := rowT_src (b := b) (xs := ts.map dStr) (st := st)
  rw [evE, evE, evF, evI, evE]
  simp only [varW, h0, Res.of_some, Res.bind_ok, hs.1, List.map_map]
  rw [if_neg (by simp [noneW, allD, eqAll, nodAll, depAll, varW, idxW, seqW, cmpW, cmpP, vw, cmpD, eqOk, nod, dep, eqD, truW, truD, b1W, binW, binD, asg_v, lenW, srcW, rcv1, tyOf, Fr.pur, ofP, m1W, int?, slW, slD, isiW, isTy, kindOk, isD, isW, inStr, nod_ones, T_beq, nod_strs, dep_strs, b2W, eq_nil, hSZ]; omega), lc_strs (fun _ => true) (fun u => W.d (.bool (oneP t u)))]
  · have e1 : allD (ts.map fun u => W.d (.bool (oneP t u))) = some (ts.map fun u => .bool (oneP t u)) := allD_mapd _ _
    have e2 : ts.filter (fun _ => true) = ts := by simp [noneW, allD, eqAll, nodAll, depAll, varW, idxW, seqW, cmpW, cmpP, vw, cmpD, eqOk, nod, dep, eqD, truW, truD, b1W, binW, binD, asg_v, lenW, srcW, rcv1, tyOf, Fr.pur, ofP, m1W, int?, slW, slD, isiW, isTy, kindOk, isD, isW, inStr, nod_ones, T_beq, nod_strs, dep_strs, b2W, eq_nil]
    rw [e2]
    simp [noneW, allD, eqAll, nodAll, depAll, varW, idxW, seqW, cmpW, cmpP, vw, cmpD, eqOk, nod, dep, eqD, truW, truD, b1W, binW, binD, asg_v, lenW, srcW, rcv1, tyOf, Fr.pur, ofP, m1W, int?, slW, slD, isiW, isTy, kindOk, isD, isW, inStr, nod_ones, T_beq, nod_strs, dep_strs, b2W, eq_nil, e1, boolsD_map]
  · intro u hu
    have a0 : varW ((wip ρ [4]).set 4 (some (.d (dStr u)))) 1 = some (.d (dStr t)) := by
      simp [noneW, allD, eqAll, nodAll, depAll, varW, idxW, seqW, cmpW, cmpP, vw, cmpD, eqOk, nod, dep, eqD, truW, truD, b1W, binW, binD, asg_v, lenW, srcW, rcv1, tyOf, Fr.pur, ofP, m1W, int?, slW, slD, isiW, isTy, kindOk, isD, isW, inStr, nod_ones, T_beq, nod_strs, dep_strs, b2W, eq_nil, wip, h1]
    have a4 : varW ((wip ρ [4]).set 4 (some (.d (dStr u)))) 4 = some (.d (dStr u)) := by
      simp [noneW, allD, eqAll, nodAll, depAll, varW, idxW, seqW, cmpW, cmpP, vw, cmpD, eqOk, nod, dep, eqD, truW, truD, b1W, binW, binD, asg_v, lenW, srcW, rcv1, tyOf, Fr.pur, ofP, m1W, int?, slW, slD, isiW, isTy, kindOk, isD, isW, inStr, nod_ones, T_beq, nod_strs, dep_strs, b2W, eq_nil, wip, hρ]
    simp only [asg_v, evCs, Res.bind_ok, if_true, evE, evEs, a0, a4, Res.of_some, told_one_ok d.nm (hd u hu).nm]
theorem sum_len (ws : List (List Nat)) : sumI (ws.map fun w => .int w.length) = some ((ws.map List.length).sum : Int) := by
  induction ws with
  | nil => rfl
  | cons w ws ih => simp [noneW, allD, eqAll, nodAll, depAll, varW, idxW, seqW, cmpW, cmpP, vw, cmpD, eqOk, nod, dep, eqD, truW, truD, b1W, binW, binD, asg_v, lenW, srcW, rcv1, tyOf, Fr.pur, ofP, m1W, int?, slW, slD, isiW, isTy, kindOk, isD, isW, inStr, nod_ones, T_beq, nod_strs, dep_strs, b2W, eq_nil, sumI, ih]
theorem sum_le : ∀ {ws : List (List Nat)} {k : Nat}, (∀ w ∈ ws, w.length ≤ k) → (ws.map List.length).sum ≤ ws.length * k
  | [], k, _ => by simp [noneW, allD, eqAll, nodAll, depAll, varW, idxW, seqW, cmpW, cmpP, vw, cmpD, eqOk, nod, dep, eqD, truW, truD, b1W, binW, binD, asg_v, lenW, srcW, rcv1, tyOf, Fr.pur, ofP, m1W, int?, slW, slD, isiW, isTy, kindOk, isD, isW, inStr, nod_ones, T_beq, nod_strs, dep_strs, b2W, eq_nil]
  | w :: ws, k, h => by
    have h1 := sum_le fun x hx => h x (List.mem_cons_of_mem _ hx)
    have h2 := h w List.mem_cons_self
    simp only [List.map_cons, List.sum_cons, List.length_cons, Nat.succ_mul]
    omega
theorem row_one {t : List Nat} {ρ : FM.Env} {st : Sto} {j : Nat} (d : Dn t) (h1 : ρ[1]? = some (some (.d (dStr t)))) (hρ : ρ.length = 6) :
    evE EP R0 (callD EP R0 (j + 3)) (.tup (.cons (.neg (.b1 .len (.call "told_words" (.cons (.var 1) (.nil))))) (.cons (.neg (.b1 .sum (.pur (.lc [5] (.v 5) (.e (.call "told_words" (.cons (.var 1) (.nil)))) (.no) (.b1 .len (.var 5)))))) (.cons (.var 1) (.nil))))) ρ st = .ok (.d (rw_ t)) st := by
  have hSZ : SZ = 16777216 := rfl
  have hw := told_words_ok (st := st) (j := j + 1) d.g.a (show t.length ≤ 1000 by have := d.g.l; omega)
  have hn := d.nm.w
  have hm : ∀ w ∈ wordsP t, w.length ≤ 1000 := fun w hw => by have := (words_mem hw).2; have := d.g.l; omega
  have key : evE EP R0 (callD EP R0 (j + 3)) (.b1 .sum (.pur (.lc [5] (.v 5) (.e (.call "told_words" (.cons (.var 1) (.nil)))) (.no) (.b1 .len (.var 5))))) ρ st = .ok (.d (.int (ls t))) st := by
    rw [evE, evE, evF, evI, evE, evEs, evE]
    simp only [varW, h1, Res.of_some, Res.bind_ok, evEs, hw]
    have hsrc : srcW st (.d (.tuple ((wordsP t).map dStr))) = some ((wordsP t).map (W.d ∘ dStr), none) := by simp [noneW, allD, eqAll, nodAll, depAll, varW, idxW, seqW, cmpW, cmpP, vw, cmpD, eqOk, nod, dep, eqD, truW, truD, b1W, binW, binD, asg_v, lenW, srcW, rcv1, tyOf, Fr.pur, ofP, m1W, int?, slW, slD, isiW, isTy, kindOk, isD, isW, inStr, nod_ones, T_beq, nod_strs, dep_strs, b2W, eq_nil]
    simp only [hsrc, Res.of_some, Res.bind_ok]
    rw [if_neg (by simp [noneW, allD, eqAll, nodAll, depAll, varW, idxW, seqW, cmpW, cmpP, vw, cmpD, eqOk, nod, dep, eqD, truW, truD, b1W, binW, binD, asg_v, lenW, srcW, rcv1, tyOf, Fr.pur, ofP, m1W, int?, slW, slD, isiW, isTy, kindOk, isD, isW, inStr, nod_ones, T_beq, nod_strs, dep_strs, b2W, eq_nil, hSZ]; omega), lc_strs (fun _ => true) (fun u => W.d (.int u.length))]
    · have e1 : allD ((wordsP t).map fun u => W.d (.int u.length)) = some ((wordsP t).map fun u => .int u.length) := allD_mapd (fun u : List Nat => .int u.length) _
      have e2 : (wordsP t).filter (fun _ => true) = wordsP t := by simp [noneW, allD, eqAll, nodAll, depAll, varW, idxW, seqW, cmpW, cmpP, vw, cmpD, eqOk, nod, dep, eqD, truW, truD, b1W, binW, binD, asg_v, lenW, srcW, rcv1, tyOf, Fr.pur, ofP, m1W, int?, slW, slD, isiW, isTy, kindOk, isD, isW, inStr, nod_ones, T_beq, nod_strs, dep_strs, b2W, eq_nil]
      rw [e2]
      simp [noneW, allD, eqAll, nodAll, depAll, varW, idxW, seqW, cmpW, cmpP, vw, cmpD, eqOk, nod, dep, eqD, truW, truD, b1W, binW, binD, asg_v, lenW, srcW, rcv1, tyOf, Fr.pur, ofP, m1W, int?, slW, slD, isiW, isTy, kindOk, isD, isW, inStr, nod_ones, T_beq, nod_strs, dep_strs, b2W, eq_nil, e1, sum_len, ls]
    · intro u hu
      have a4 : varW ((wip ρ [5]).set 5 (some (.d (dStr u)))) 5 = some (.d (dStr u)) := by
        simp [noneW, allD, eqAll, nodAll, depAll, varW, idxW, seqW, cmpW, cmpP, vw, cmpD, eqOk, nod, dep, eqD, truW, truD, b1W, binW, binD, asg_v, lenW, srcW, rcv1, tyOf, Fr.pur, ofP, m1W, int?, slW, slD, isiW, isTy, kindOk, isD, isW, inStr, nod_ones, T_beq, nod_strs, dep_strs, b2W, eq_nil, wip, hρ]
      have := hm u hu
      simp only [asg_v, evCs, Res.bind_ok, if_true, evE, a4, Res.of_some]
      simp [noneW, allD, eqAll, nodAll, depAll, varW, idxW, seqW, cmpW, cmpP, vw, cmpD, eqOk, nod, dep, eqD, truW, truD, b1W, binW, binD, asg_v, lenW, srcW, rcv1, tyOf, Fr.pur, ofP, m1W, int?, slW, slD, isiW, isTy, kindOk, isD, isW, inStr, nod_ones, T_beq, nod_strs, dep_strs, b2W, eq_nil, hSZ, show u.length ≤ 16777216 by omega]
  have k1 : evE EP R0 (callD EP R0 (j + 3)) (.neg (.b1 .len (.call "told_words" (.cons (.var 1) (.nil))))) ρ st = .ok (.d (.int (-(lw t : Int)))) st := by
    simp [noneW, allD, eqAll, nodAll, depAll, varW, idxW, seqW, cmpW, cmpP, vw, cmpD, eqOk, nod, dep, eqD, truW, truD, b1W, binW, binD, asg_v, lenW, srcW, rcv1, tyOf, Fr.pur, ofP, m1W, int?, slW, slD, isiW, isTy, kindOk, isD, isW, inStr, nod_ones, T_beq, nod_strs, dep_strs, b2W, eq_nil, evE, evEs, h1, hw, lw]
  have k2 : evE EP R0 (callD EP R0 (j + 3)) (.neg (.b1 .sum (.pur (.lc [5] (.v 5) (.e (.call "told_words" (.cons (.var 1) (.nil)))) (.no) (.b1 .len (.var 5)))))) ρ st = .ok (.d (.int (-(ls t : Int)))) st := by
    rw [evE, key]
    simp [noneW, allD, eqAll, nodAll, depAll, varW, idxW, seqW, cmpW, cmpP, vw, cmpD, eqOk, nod, dep, eqD, truW, truD, b1W, binW, binD, asg_v, lenW, srcW, rcv1, tyOf, Fr.pur, ofP, m1W, int?, slW, slD, isiW, isTy, kindOk, isD, isW, inStr, nod_ones, T_beq, nod_strs, dep_strs, b2W, eq_nil]
  have k3 : evE EP R0 (callD EP R0 (j + 3)) (.var 1) ρ st = .ok (.d (dStr t)) st := by simp [noneW, allD, eqAll, nodAll, depAll, varW, idxW, seqW, cmpW, cmpP, vw, cmpD, eqOk, nod, dep, eqD, truW, truD, b1W, binW, binD, asg_v, lenW, srcW, rcv1, tyOf, Fr.pur, ofP, m1W, int?, slW, slD, isiW, isTy, kindOk, isD, isW, inStr, nod_ones, T_beq, nod_strs, dep_strs, b2W, eq_nil, evE, h1]
  rw [evE, evEs, k1, Res.bind_ok, evEs, k2, Res.bind_ok, evEs, k3, Res.bind_ok, evEs]
  simp [noneW, allD, eqAll, nodAll, depAll, varW, idxW, seqW, cmpW, cmpP, vw, cmpD, eqOk, nod, dep, eqD, truW, truD, b1W, binW, binD, asg_v, lenW, srcW, rcv1, tyOf, Fr.pur, ofP, m1W, int?, slW, slD, isiW, isTy, kindOk, isD, isW, inStr, nod_ones, T_beq, nod_strs, dep_strs, b2W, eq_nil, hSZ, rw_]
def AI (b : Bool) (ts : List (List Nat)) (st : Sto) (ws : List W) (ρ : FM.Env) (st' : Sto) : Prop := ∃ l : List (List Nat), ws = l.map (fun c => .d (dStr c)) ∧ (∀ t ∈ l, t ∈ ts) ∧ ρ.length = 6 ∧ ρ[0]? = some (some (.d (rowT b (ts.map dStr)))) ∧ st' = st ∧ allP ts = l.all fun t => ts.all fun u => oneP t u
theorem fullest_ok {b : Bool} {ts : List (List Nat)} {st : Sto} {j : Nat} (hd : ∀ t ∈ ts, Dn t) (hl : 1 ≤ ts.length) (hl2 : ts.length ≤ 12) : callD EP R0 (j + 5) "fullest" [.d (rowT b (ts.map dStr))] st = .ok (.d (fullP ts)) st := by
  have hSZ : SZ = 16777216 := rfl
  suffices hq : okR (callD EP R0 (j + 5) "fullest" [.d (rowT b (ts.map dStr))] st) fun w st' => st' = st ∧ w = .d (fullP ts) by
    obtain ⟨w, st', h1, rfl, rfl⟩ := okR_ex hq
    exact h1
  rw [callD_fn (fn := ffullest) rfl _ _ rfl]
  apply exit_pure
  have hn : nod (rowT b (ts.map dStr)) = true := by cases b <;> simp [noneW, allD, eqAll, nodAll, depAll, varW, idxW, seqW, cmpW, cmpP, vw, cmpD, eqOk, nod, dep, eqD, truW, truD, b1W, binW, binD, asg_v, lenW, srcW, rcv1, tyOf, Fr.pur, ofP, m1W, int?, slW, slD, isiW, isTy, kindOk, isD, isW, inStr, nod_ones, T_beq, nod_strs, dep_strs, b2W, eq_nil, rowT]
  have S1 := first_if (v := [none, none, none, none, none]) (st := st) (j := j + 3) hn ⟨ts.map dStr, by cases b <;> simp [noneW, allD, eqAll, nodAll, depAll, varW, idxW, seqW, cmpW, cmpP, vw, cmpD, eqOk, nod, dep, eqD, truW, truD, b1W, binW, binD, asg_v, lenW, srcW, rcv1, tyOf, Fr.pur, ofP, m1W, int?, slW, slD, isiW, isTy, kindOk, isD, isW, inStr, nod_ones, T_beq, nod_strs, dep_strs, b2W, eq_nil, rowT], by simpa [noneW, allD, eqAll, nodAll, depAll, varW, idxW, seqW, cmpW, cmpP, vw, cmpD, eqOk, nod, dep, eqD, truW, truD, b1W, binW, binD, asg_v, lenW, srcW, rcv1, tyOf, Fr.pur, ofP, m1W, int?, slW, slD, isiW, isTy, kindOk, isD, isW, inStr, nod_ones, T_beq, nod_strs, dep_strs, b2W, eq_nil] using hl, by simpa [noneW, allD, eqAll, nodAll, depAll, varW, idxW, seqW, cmpW, cmpP, vw, cmpD, eqOk, nod, dep, eqD, truW, truD, b1W, binW, binD, asg_v, lenW, srcW, rcv1, tyOf, Fr.pur, ofP, m1W, int?, slW, slD, isiW, isTy, kindOk, isD, isW, inStr, nod_ones, T_beq, nod_strs, dep_strs, b2W, eq_nil] using hl2⟩
  obtain ⟨ρ', h1, h2, h3⟩ := enum_ok (b := b) (st := st) (j := j + 2) ts 0 [some (.d (rowT b (ts.map dStr))), none, none, none, none, none] hd rfl
  have hs := rowT_src (b := b) (xs := ts.map dStr) (st := st)
  have S2 : evS EP R0 (callD EP R0 (j + 4)) (.for (.t [.v 3, .v 1]) (.enum (.var 0) 0) bodyE) [some (.d (rowT b (ts.map dStr))), none, none, none, none, none] st = .nx ρ' st := by
    rw [evS, evI, evE]
    simp only [varW, List.getElem?_cons_zero, Res.of_some, Res.bind_ok, hs.2.1, guard_row, Res.out_ok]
    exact h1
  show okO (evSs EP R0 (callD EP R0 (j + 4)) bfullest [some (.d (rowT b (ts.map dStr))), none, none, none, none, none] st) _ _
  rw [bfullest, evSs, evS, S1]
  simp only [Res.out_ok, Bool.false_eq_true, if_false, evSs, Out.next_nx]
  rw [show (FM.Ss.cons (.ife (.not (.e (.call "is_written" (.cons (.var 1) (.nil))))) (.cons (.raise "BadNames" (.cons (.var 3) .nil)) (.nil)) (.nil)) (.nil)) = bodyE from rfl, S2, Out.next_nx]
  rw [okO_next]
  refine okO_imp (N := fun ρ st' => ρ.length = 6 ∧ ρ[0]? = some (some (.d (rowT b (ts.map dStr)))) ∧ st' = st ∧ allP ts = true) (Rt := fun w st' => w = .d .none ∧ st' = st ∧ allP ts = false) ?_ ?_ ?_
  · rw [evS, evI, evE, varW]
    have h30 : ρ'[0]? = some (some (.d (rowT b (ts.map dStr)))) := by rw [h3]; rfl
    simp only [h30, Res.of_some, Res.bind_ok, hs.1, okO_out, okR_ok]
    refine okO_imp (for_inv (Rt := fun w st' => w = .d .none ∧ st' = st ∧ allP ts = false) (AI b ts st) _ _ _ ?_ ?_) ?_ ?_
    · exact ⟨ts, by simp [noneW, allD, eqAll, nodAll, depAll, varW, idxW, seqW, cmpW, cmpP, vw, cmpD, eqOk, nod, dep, eqD, truW, truD, b1W, binW, binD, asg_v, lenW, srcW, rcv1, tyOf, Fr.pur, ofP, m1W, int?, slW, slD, isiW, isTy, kindOk, isD, isW, inStr, nod_ones, T_beq, nod_strs, dep_strs, b2W, eq_nil, Function.comp_def], fun _ h => h, h2, h30, rfl, rfl⟩
    · rintro w r ρ st' ⟨l, e1, e2, e3, e4, rfl, e6⟩
      cases l with
      | nil => simp [noneW, allD, eqAll, nodAll, depAll, varW, idxW, seqW, cmpW, cmpP, vw, cmpD, eqOk, nod, dep, eqD, truW, truD, b1W, binW, binD, asg_v, lenW, srcW, rcv1, tyOf, Fr.pur, ofP, m1W, int?, slW, slD, isiW, isTy, kindOk, isD, isW, inStr, nod_ones, T_beq, nod_strs, dep_strs, b2W, eq_nil] at e1
      | cons t l =>
        simp [noneW, allD, eqAll, nodAll, depAll, varW, idxW, seqW, cmpW, cmpP, vw, cmpD, eqOk, nod, dep, eqD, truW, truD, b1W, binW, binD, asg_v, lenW, srcW, rcv1, tyOf, Fr.pur, ofP, m1W, int?, slW, slD, isiW, isTy, kindOk, isD, isW, inStr, nod_ones, T_beq, nod_strs, dep_strs, b2W, eq_nil] at e1
        obtain ⟨rfl, rfl⟩ := e1
        have dt := hd t (e2 t List.mem_cons_self)
        have ha := all_one (b := b) (st := st') (j := j + 1) (ρ := ρ.set 1 (some (.d (dStr t)))) hd hl2 dt (by simp [noneW, allD, eqAll, nodAll, depAll, varW, idxW, seqW, cmpW, cmpP, vw, cmpD, eqOk, nod, dep, eqD, truW, truD, b1W, binW, binD, asg_v, lenW, srcW, rcv1, tyOf, Fr.pur, ofP, m1W, int?, slW, slD, isiW, isTy, kindOk, isD, isW, inStr, nod_ones, T_beq, nod_strs, dep_strs, b2W, eq_nil, e4]) (by simp [noneW, allD, eqAll, nodAll, depAll, varW, idxW, seqW, cmpW, cmpP, vw, cmpD, eqOk, nod, dep, eqD, truW, truD, b1W, binW, binD, asg_v, lenW, srcW, rcv1, tyOf, Fr.pur, ofP, m1W, int?, slW, slD, isiW, isTy, kindOk, isD, isW, inStr, nod_ones, T_beq, nod_strs, dep_strs, b2W, eq_nil, e3]) (by simp [noneW, allD, eqAll, nodAll, depAll, varW, idxW, seqW, cmpW, cmpP, vw, cmpD, eqOk, nod, dep, eqD, truW, truD, b1W, binW, binD, asg_v, lenW, srcW, rcv1, tyOf, Fr.pur, ofP, m1W, int?, slW, slD, isiW, isTy, kindOk, isD, isW, inStr, nod_ones, T_beq, nod_strs, dep_strs, b2W, eq_nil, e3])
        simp only [asg_v, evSs, evS, evC, ha, Res.bind_ok, truW, truD, Res.of_some]
        rw [List.all_cons] at e6
        cases hb : ts.all fun u => oneP t u
        · rw [hb] at e6
          simp [noneW, allD, eqAll, nodAll, depAll, varW, idxW, seqW, cmpW, cmpP, vw, cmpD, eqOk, nod, dep, eqD, truW, truD, b1W, binW, binD, asg_v, lenW, srcW, rcv1, tyOf, Fr.pur, ofP, m1W, int?, slW, slD, isiW, isTy, kindOk, isD, isW, inStr, nod_ones, T_beq, nod_strs, dep_strs, b2W, eq_nil, evE]
          simpa [noneW, allD, eqAll, nodAll, depAll, varW, idxW, seqW, cmpW, cmpP, vw, cmpD, eqOk, nod, dep, eqD, truW, truD, b1W, binW, binD, asg_v, lenW, srcW, rcv1, tyOf, Fr.pur, ofP, m1W, int?, slW, slD, isiW, isTy, kindOk, isD, isW, inStr, nod_ones, T_beq, nod_strs, dep_strs, b2W, eq_nil] using e6
        · rw [hb] at e6
          simp [noneW, allD, eqAll, nodAll, depAll, varW, idxW, seqW, cmpW, cmpP, vw, cmpD, eqOk, nod, dep, eqD, truW, truD, b1W, binW, binD, asg_v, lenW, srcW, rcv1, tyOf, Fr.pur, ofP, m1W, int?, slW, slD, isiW, isTy, kindOk, isD, isW, inStr, nod_ones, T_beq, nod_strs, dep_strs, b2W, eq_nil, still]
          exact ⟨l, rfl, fun u hu => e2 u (List.mem_cons_of_mem _ hu), by simp [noneW, allD, eqAll, nodAll, depAll, varW, idxW, seqW, cmpW, cmpP, vw, cmpD, eqOk, nod, dep, eqD, truW, truD, b1W, binW, binD, asg_v, lenW, srcW, rcv1, tyOf, Fr.pur, ofP, m1W, int?, slW, slD, isiW, isTy, kindOk, isD, isW, inStr, nod_ones, T_beq, nod_strs, dep_strs, b2W, eq_nil, e3], by simp [noneW, allD, eqAll, nodAll, depAll, varW, idxW, seqW, cmpW, cmpP, vw, cmpD, eqOk, nod, dep, eqD, truW, truD, b1W, binW, binD, asg_v, lenW, srcW, rcv1, tyOf, Fr.pur, ofP, m1W, int?, slW, slD, isiW, isTy, kindOk, isD, isW, inStr, nod_ones, T_beq, nod_strs, dep_strs, b2W, eq_nil, e4], rfl, by simpa [noneW, allD, eqAll, nodAll, depAll, varW, idxW, seqW, cmpW, cmpP, vw, cmpD, eqOk, nod, dep, eqD, truW, truD, b1W, binW, binD, asg_v, lenW, srcW, rcv1, tyOf, Fr.pur, ofP, m1W, int?, slW, slD, isiW, isTy, kindOk, isD, isW, inStr, nod_ones, T_beq, nod_strs, dep_strs, b2W, eq_nil] using e6⟩
    · rintro ρ st' ⟨l, e1, e2, e3, e4, rfl, e6⟩
      simp [noneW, allD, eqAll, nodAll, depAll, varW, idxW, seqW, cmpW, cmpP, vw, cmpD, eqOk, nod, dep, eqD, truW, truD, b1W, binW, binD, asg_v, lenW, srcW, rcv1, tyOf, Fr.pur, ofP, m1W, int?, slW, slD, isiW, isTy, kindOk, isD, isW, inStr, nod_ones, T_beq, nod_strs, dep_strs, b2W, eq_nil] at e1
      subst e1
      exact ⟨e3, e4, rfl, by simpa [noneW, allD, eqAll, nodAll, depAll, varW, idxW, seqW, cmpW, cmpP, vw, cmpD, eqOk, nod, dep, eqD, truW, truD, b1W, binW, binD, asg_v, lenW, srcW, rcv1, tyOf, Fr.pur, ofP, m1W, int?, slW, slD, isiW, isTy, kindOk, isD, isW, inStr, nod_ones, T_beq, nod_strs, dep_strs, b2W, eq_nil] using e6⟩
    · exact fun _ _ h => h
  · rintro ρ st' ⟨e1, e2, rfl, e4⟩
    have hrows : evE EP R0 (callD EP R0 (j + 4)) (.pur (.lc [1] (.v 1) (.e (.var 0)) (.no) (.tup (.cons (.neg (.b1 .len (.call "told_words" (.cons (.var 1) (.nil))))) (.cons (.neg (.b1 .sum (.pur (.lc [5] (.v 5) (.e (.call "told_words" (.cons (.var 1) (.nil)))) (.no) (.b1 .len (.var 5)))))) (.cons (.var 1) (.nil))))))) ρ st' = .ok (.d (.list (ts.map rw_))) st' := by
      rw [evE, evF, evI, evE, varW]
      simp only [e2, Res.of_some, Res.bind_ok, hs.1, List.map_map]
      rw [if_neg (by simp [noneW, allD, eqAll, nodAll, depAll, varW, idxW, seqW, cmpW, cmpP, vw, cmpD, eqOk, nod, dep, eqD, truW, truD, b1W, binW, binD, asg_v, lenW, srcW, rcv1, tyOf, Fr.pur, ofP, m1W, int?, slW, slD, isiW, isTy, kindOk, isD, isW, inStr, nod_ones, T_beq, nod_strs, dep_strs, b2W, eq_nil, hSZ]; omega), lc_strs (fun _ => true) (fun u => W.d (rw_ u))]
      · have a1 : allD (ts.map fun u => W.d (rw_ u)) = some (ts.map rw_) := allD_mapd rw_ _
        have a2 : ts.filter (fun _ => true) = ts := by simp [noneW, allD, eqAll, nodAll, depAll, varW, idxW, seqW, cmpW, cmpP, vw, cmpD, eqOk, nod, dep, eqD, truW, truD, b1W, binW, binD, asg_v, lenW, srcW, rcv1, tyOf, Fr.pur, ofP, m1W, int?, slW, slD, isiW, isTy, kindOk, isD, isW, inStr, nod_ones, T_beq, nod_strs, dep_strs, b2W, eq_nil]
        rw [a2]
        simp [noneW, allD, eqAll, nodAll, depAll, varW, idxW, seqW, cmpW, cmpP, vw, cmpD, eqOk, nod, dep, eqD, truW, truD, b1W, binW, binD, asg_v, lenW, srcW, rcv1, tyOf, Fr.pur, ofP, m1W, int?, slW, slD, isiW, isTy, kindOk, isD, isW, inStr, nod_ones, T_beq, nod_strs, dep_strs, b2W, eq_nil, a1]
      · intro u hu
        have r1 := row_one (st := st') (j := j + 1) (ρ := (wip ρ [1]).set 1 (some (.d (dStr u)))) (hd u hu) (by simp [noneW, allD, eqAll, nodAll, depAll, varW, idxW, seqW, cmpW, cmpP, vw, cmpD, eqOk, nod, dep, eqD, truW, truD, b1W, binW, binD, asg_v, lenW, srcW, rcv1, tyOf, Fr.pur, ofP, m1W, int?, slW, slD, isiW, isTy, kindOk, isD, isW, inStr, nod_ones, T_beq, nod_strs, dep_strs, b2W, eq_nil, wip, e1]) (by simp [noneW, allD, eqAll, nodAll, depAll, varW, idxW, seqW, cmpW, cmpP, vw, cmpD, eqOk, nod, dep, eqD, truW, truD, b1W, binW, binD, asg_v, lenW, srcW, rcv1, tyOf, Fr.pur, ofP, m1W, int?, slW, slD, isiW, isTy, kindOk, isD, isW, inStr, nod_ones, T_beq, nod_strs, dep_strs, b2W, eq_nil, wip, e1])
        simp only [asg_v, evCs, Res.bind_ok, if_true]
        rw [r1]
        rfl
    obtain ⟨m, r, rfl⟩ := List.exists_cons_of_ne_nil (show ts ≠ [] by intro z; rw [z] at hl; simp [noneW, allD, eqAll, nodAll, depAll, varW, idxW, seqW, cmpW, cmpP, vw, cmpD, eqOk, nod, dep, eqD, truW, truD, b1W, binW, binD, asg_v, lenW, srcW, rcv1, tyOf, Fr.pur, ofP, m1W, int?, slW, slD, isiW, isTy, kindOk, isD, isW, inStr, nod_ones, T_beq, nod_strs, dep_strs, b2W, eq_nil] at hl)
    obtain ⟨q1, q2, q3, q4⟩ := rw_sort (ts := m :: r) (by omega)
    rw [okO_next, evS, hrows]
    simp only [Res.out_ok, asg_v, okO_nx, evS, evE]
    have v2 : varW (ρ.set 2 (some (.d (.list ((m :: r).map rw_))))) 2 = some (.d (.list ((m :: r).map rw_))) := by simp [noneW, allD, eqAll, nodAll, depAll, varW, idxW, seqW, cmpW, cmpP, vw, cmpD, eqOk, nod, dep, eqD, truW, truD, b1W, binW, binD, asg_v, lenW, srcW, rcv1, tyOf, Fr.pur, ofP, m1W, int?, slW, slD, isiW, isTy, kindOk, isD, isW, inStr, nod_ones, T_beq, nod_strs, dep_strs, b2W, eq_nil, e1]
    rw [v2]
    have hb : b1W R0 st' .min (.d (.list ((m :: r).map rw_))) = some (.d (rw_ (minT m r))) := by
      show (if (alkAllB ((m :: r).map rw_) && depOk ((m :: r).map rw_)) && ((m :: r).map rw_).all (fun y => !isNo y) then some (W.d (minL (rw_ m) (r.map rw_))) else none) = _
      rw [q2, q3, q4, min_rw]
      rfl
    simp only [Res.of_some, Res.bind_ok, hb]
    simp [noneW, allD, eqAll, nodAll, depAll, varW, idxW, seqW, cmpW, cmpP, vw, cmpD, eqOk, nod, dep, eqD, truW, truD, b1W, binW, binD, asg_v, lenW, srcW, rcv1, tyOf, Fr.pur, ofP, m1W, int?, slW, slD, isiW, isTy, kindOk, isD, isW, inStr, nod_ones, T_beq, nod_strs, dep_strs, b2W, eq_nil, rw_, FM.atI, fullP, e4]
  · rintro w st' ⟨rfl, rfl, e3⟩
    refine ⟨by simp [noneW, allD, eqAll, nodAll, depAll, varW, idxW, seqW, cmpW, cmpP, vw, cmpD, eqOk, nod, dep, eqD, truW, truD, b1W, binW, binD, asg_v, lenW, srcW, rcv1, tyOf, Fr.pur, ofP, m1W, int?, slW, slD, isiW, isTy, kindOk, isD, isW, inStr, nod_ones, T_beq, nod_strs, dep_strs, b2W, eq_nil], .d .none, rfl, ?_⟩
    cases ts with
    | nil => simp [noneW, allD, eqAll, nodAll, depAll, varW, idxW, seqW, cmpW, cmpP, vw, cmpD, eqOk, nod, dep, eqD, truW, truD, b1W, binW, binD, asg_v, lenW, srcW, rcv1, tyOf, Fr.pur, ofP, m1W, int?, slW, slD, isiW, isTy, kindOk, isD, isW, inStr, nod_ones, T_beq, nod_strs, dep_strs, b2W, eq_nil] at hl
    | cons m r => simp [noneW, allD, eqAll, nodAll, depAll, varW, idxW, seqW, cmpW, cmpP, vw, cmpD, eqOk, nod, dep, eqD, truW, truD, b1W, binW, binD, asg_v, lenW, srcW, rcv1, tyOf, Fr.pur, ofP, m1W, int?, slW, slD, isiW, isTy, kindOk, isD, isW, inStr, nod_ones, T_beq, nod_strs, dep_strs, b2W, eq_nil, fullP, e3]
end HT
end

section
set_option Elab.async false
set_option linter.all false
set_option maxRecDepth 100000
set_option autoImplicit false
set_option maxHeartbeats 4000000
namespace HT
open PySem FM
theorem gR : EP.refused "_law_refused" = some hs := by simp [noneW, allD, eqAll, nodAll, depAll, varW, idxW, seqW, cmpW, cmpP, vw, cmpD, eqOk, nod, dep, eqD, truW, truD, b1W, binW, binD, asg_v, lenW, srcW, rcv1, tyOf, Fr.pur, ofP, m1W, int?, slW, slD, isiW, isTy, kindOk, isD, isW, inStr, nod_ones, T_beq, nod_strs, dep_strs, b2W, eq_nil, EP]
theorem hW1 {x : D} {st : Sto} : FM.handled hs (bad1 "BadWritten" x) st = some (.d (.tuple [dStr [119, 114, 105, 116, 116, 101, 110], x])) := by simp [noneW, allD, eqAll, nodAll, depAll, varW, idxW, seqW, cmpW, cmpP, vw, cmpD, eqOk, nod, dep, eqD, truW, truD, b1W, binW, binD, asg_v, lenW, srcW, rcv1, tyOf, Fr.pur, ofP, m1W, int?, slW, slD, isiW, isTy, kindOk, isD, isW, inStr, nod_ones, T_beq, nod_strs, dep_strs, b2W, eq_nil, FM.handled, hs, bad1]
theorem hN1 {x : D} {st : Sto} : FM.handled hs (bad1 "BadNames" x) st = some (.d (.tuple [dStr [110, 97, 109, 101, 115], x])) := by simp [noneW, allD, eqAll, nodAll, depAll, varW, idxW, seqW, cmpW, cmpP, vw, cmpD, eqOk, nod, dep, eqD, truW, truD, b1W, binW, binD, asg_v, lenW, srcW, rcv1, tyOf, Fr.pur, ofP, m1W, int?, slW, slD, isiW, isTy, kindOk, isD, isW, inStr, nod_ones, T_beq, nod_strs, dep_strs, b2W, eq_nil, FM.handled, hs, bad1]
theorem rep_odds {x : D} (hx : x ∈ odds) : reprOk R0 (.tuple [dStr [119, 114, 105, 116, 116, 101, 110], x]) = true := by
  simp only [odds, List.mem_cons, List.not_mem_nil, or_false] at hx
  rcases hx with h | h | h | h | h | h | h | h | h
  · rw [h]; exact rep_str _ _ (by simp [noneW, allD, eqAll, nodAll, depAll, varW, idxW, seqW, cmpW, cmpP, vw, cmpD, eqOk, nod, dep, eqD, truW, truD, b1W, binW, binD, asg_v, lenW, srcW, rcv1, tyOf, Fr.pur, ofP, m1W, int?, slW, slD, isiW, isTy, kindOk, isD, isW, inStr, nod_ones, T_beq, nod_strs, dep_strs, b2W, eq_nil]) (by simp [noneW, allD, eqAll, nodAll, depAll, varW, idxW, seqW, cmpW, cmpP, vw, cmpD, eqOk, nod, dep, eqD, truW, truD, b1W, binW, binD, asg_v, lenW, srcW, rcv1, tyOf, Fr.pur, ofP, m1W, int?, slW, slD, isiW, isTy, kindOk, isD, isW, inStr, nod_ones, T_beq, nod_strs, dep_strs, b2W, eq_nil]) (by simp [noneW, allD, eqAll, nodAll, depAll, varW, idxW, seqW, cmpW, cmpP, vw, cmpD, eqOk, nod, dep, eqD, truW, truD, b1W, binW, binD, asg_v, lenW, srcW, rcv1, tyOf, Fr.pur, ofP, m1W, int?, slW, slD, isiW, isTy, kindOk, isD, isW, inStr, nod_ones, T_beq, nod_strs, dep_strs, b2W, eq_nil]) (by simp [noneW, allD, eqAll, nodAll, depAll, varW, idxW, seqW, cmpW, cmpP, vw, cmpD, eqOk, nod, dep, eqD, truW, truD, b1W, binW, binD, asg_v, lenW, srcW, rcv1, tyOf, Fr.pur, ofP, m1W, int?, slW, slD, isiW, isTy, kindOk, isD, isW, inStr, nod_ones, T_beq, nod_strs, dep_strs, b2W, eq_nil])
  · rw [h]; exact rep_str _ _ (by simp [noneW, allD, eqAll, nodAll, depAll, varW, idxW, seqW, cmpW, cmpP, vw, cmpD, eqOk, nod, dep, eqD, truW, truD, b1W, binW, binD, asg_v, lenW, srcW, rcv1, tyOf, Fr.pur, ofP, m1W, int?, slW, slD, isiW, isTy, kindOk, isD, isW, inStr, nod_ones, T_beq, nod_strs, dep_strs, b2W, eq_nil]) (by simp [noneW, allD, eqAll, nodAll, depAll, varW, idxW, seqW, cmpW, cmpP, vw, cmpD, eqOk, nod, dep, eqD, truW, truD, b1W, binW, binD, asg_v, lenW, srcW, rcv1, tyOf, Fr.pur, ofP, m1W, int?, slW, slD, isiW, isTy, kindOk, isD, isW, inStr, nod_ones, T_beq, nod_strs, dep_strs, b2W, eq_nil]) (by simp [noneW, allD, eqAll, nodAll, depAll, varW, idxW, seqW, cmpW, cmpP, vw, cmpD, eqOk, nod, dep, eqD, truW, truD, b1W, binW, binD, asg_v, lenW, srcW, rcv1, tyOf, Fr.pur, ofP, m1W, int?, slW, slD, isiW, isTy, kindOk, isD, isW, inStr, nod_ones, T_beq, nod_strs, dep_strs, b2W, eq_nil]) (by simp [noneW, allD, eqAll, nodAll, depAll, varW, idxW, seqW, cmpW, cmpP, vw, cmpD, eqOk, nod, dep, eqD, truW, truD, b1W, binW, binD, asg_v, lenW, srcW, rcv1, tyOf, Fr.pur, ofP, m1W, int?, slW, slD, isiW, isTy, kindOk, isD, isW, inStr, nod_ones, T_beq, nod_strs, dep_strs, b2W, eq_nil])
  · rw [h]; exact rep_str _ _ (by simp [noneW, allD, eqAll, nodAll, depAll, varW, idxW, seqW, cmpW, cmpP, vw, cmpD, eqOk, nod, dep, eqD, truW, truD, b1W, binW, binD, asg_v, lenW, srcW, rcv1, tyOf, Fr.pur, ofP, m1W, int?, slW, slD, isiW, isTy, kindOk, isD, isW, inStr, nod_ones, T_beq, nod_strs, dep_strs, b2W, eq_nil]) (by simp [noneW, allD, eqAll, nodAll, depAll, varW, idxW, seqW, cmpW, cmpP, vw, cmpD, eqOk, nod, dep, eqD, truW, truD, b1W, binW, binD, asg_v, lenW, srcW, rcv1, tyOf, Fr.pur, ofP, m1W, int?, slW, slD, isiW, isTy, kindOk, isD, isW, inStr, nod_ones, T_beq, nod_strs, dep_strs, b2W, eq_nil]) (by simp [noneW, allD, eqAll, nodAll, depAll, varW, idxW, seqW, cmpW, cmpP, vw, cmpD, eqOk, nod, dep, eqD, truW, truD, b1W, binW, binD, asg_v, lenW, srcW, rcv1, tyOf, Fr.pur, ofP, m1W, int?, slW, slD, isiW, isTy, kindOk, isD, isW, inStr, nod_ones, T_beq, nod_strs, dep_strs, b2W, eq_nil]) (by simp [noneW, allD, eqAll, nodAll, depAll, varW, idxW, seqW, cmpW, cmpP, vw, cmpD, eqOk, nod, dep, eqD, truW, truD, b1W, binW, binD, asg_v, lenW, srcW, rcv1, tyOf, Fr.pur, ofP, m1W, int?, slW, slD, isiW, isTy, kindOk, isD, isW, inStr, nod_ones, T_beq, nod_strs, dep_strs, b2W, eq_nil])
  · rw [h]; exact rep_str _ _ (by simp [noneW, allD, eqAll, nodAll, depAll, varW, idxW, seqW, cmpW, cmpP, vw, cmpD, eqOk, nod, dep, eqD, truW, truD, b1W, binW, binD, asg_v, lenW, srcW, rcv1, tyOf, Fr.pur, ofP, m1W, int?, slW, slD, isiW, isTy, kindOk, isD, isW, inStr, nod_ones, T_beq, nod_strs, dep_strs, b2W, eq_nil]) (by simp [noneW, allD, eqAll, nodAll, depAll, varW, idxW, seqW, cmpW, cmpP, vw, cmpD, eqOk, nod, dep, eqD, truW, truD, b1W, binW, binD, asg_v, lenW, srcW, rcv1, tyOf, Fr.pur, ofP, m1W, int?, slW, slD, isiW, isTy, kindOk, isD, isW, inStr, nod_ones, T_beq, nod_strs, dep_strs, b2W, eq_nil]) (fun c hc => by rw [List.eq_of_mem_replicate hc]; decide) (by simp [noneW, allD, eqAll, nodAll, depAll, varW, idxW, seqW, cmpW, cmpP, vw, cmpD, eqOk, nod, dep, eqD, truW, truD, b1W, binW, binD, asg_v, lenW, srcW, rcv1, tyOf, Fr.pur, ofP, m1W, int?, slW, slD, isiW, isTy, kindOk, isD, isW, inStr, nod_ones, T_beq, nod_strs, dep_strs, b2W, eq_nil])
  · rw [h]; exact rep_none _ (by simp [noneW, allD, eqAll, nodAll, depAll, varW, idxW, seqW, cmpW, cmpP, vw, cmpD, eqOk, nod, dep, eqD, truW, truD, b1W, binW, binD, asg_v, lenW, srcW, rcv1, tyOf, Fr.pur, ofP, m1W, int?, slW, slD, isiW, isTy, kindOk, isD, isW, inStr, nod_ones, T_beq, nod_strs, dep_strs, b2W, eq_nil]) (by simp [noneW, allD, eqAll, nodAll, depAll, varW, idxW, seqW, cmpW, cmpP, vw, cmpD, eqOk, nod, dep, eqD, truW, truD, b1W, binW, binD, asg_v, lenW, srcW, rcv1, tyOf, Fr.pur, ofP, m1W, int?, slW, slD, isiW, isTy, kindOk, isD, isW, inStr, nod_ones, T_beq, nod_strs, dep_strs, b2W, eq_nil])
  · rw [h]; exact rep_int5 _ (by simp [noneW, allD, eqAll, nodAll, depAll, varW, idxW, seqW, cmpW, cmpP, vw, cmpD, eqOk, nod, dep, eqD, truW, truD, b1W, binW, binD, asg_v, lenW, srcW, rcv1, tyOf, Fr.pur, ofP, m1W, int?, slW, slD, isiW, isTy, kindOk, isD, isW, inStr, nod_ones, T_beq, nod_strs, dep_strs, b2W, eq_nil]) (by simp [noneW, allD, eqAll, nodAll, depAll, varW, idxW, seqW, cmpW, cmpP, vw, cmpD, eqOk, nod, dep, eqD, truW, truD, b1W, binW, binD, asg_v, lenW, srcW, rcv1, tyOf, Fr.pur, ofP, m1W, int?, slW, slD, isiW, isTy, kindOk, isD, isW, inStr, nod_ones, T_beq, nod_strs, dep_strs, b2W, eq_nil])
  · rw [h]; exact rep_str _ _ (by simp [noneW, allD, eqAll, nodAll, depAll, varW, idxW, seqW, cmpW, cmpP, vw, cmpD, eqOk, nod, dep, eqD, truW, truD, b1W, binW, binD, asg_v, lenW, srcW, rcv1, tyOf, Fr.pur, ofP, m1W, int?, slW, slD, isiW, isTy, kindOk, isD, isW, inStr, nod_ones, T_beq, nod_strs, dep_strs, b2W, eq_nil]) (by simp [noneW, allD, eqAll, nodAll, depAll, varW, idxW, seqW, cmpW, cmpP, vw, cmpD, eqOk, nod, dep, eqD, truW, truD, b1W, binW, binD, asg_v, lenW, srcW, rcv1, tyOf, Fr.pur, ofP, m1W, int?, slW, slD, isiW, isTy, kindOk, isD, isW, inStr, nod_ones, T_beq, nod_strs, dep_strs, b2W, eq_nil]) (by simp [noneW, allD, eqAll, nodAll, depAll, varW, idxW, seqW, cmpW, cmpP, vw, cmpD, eqOk, nod, dep, eqD, truW, truD, b1W, binW, binD, asg_v, lenW, srcW, rcv1, tyOf, Fr.pur, ofP, m1W, int?, slW, slD, isiW, isTy, kindOk, isD, isW, inStr, nod_ones, T_beq, nod_strs, dep_strs, b2W, eq_nil]) (by simp [noneW, allD, eqAll, nodAll, depAll, varW, idxW, seqW, cmpW, cmpP, vw, cmpD, eqOk, nod, dep, eqD, truW, truD, b1W, binW, binD, asg_v, lenW, srcW, rcv1, tyOf, Fr.pur, ofP, m1W, int?, slW, slD, isiW, isTy, kindOk, isD, isW, inStr, nod_ones, T_beq, nod_strs, dep_strs, b2W, eq_nil])
  · rw [h]; exact rep_str _ _ (by simp [noneW, allD, eqAll, nodAll, depAll, varW, idxW, seqW, cmpW, cmpP, vw, cmpD, eqOk, nod, dep, eqD, truW, truD, b1W, binW, binD, asg_v, lenW, srcW, rcv1, tyOf, Fr.pur, ofP, m1W, int?, slW, slD, isiW, isTy, kindOk, isD, isW, inStr, nod_ones, T_beq, nod_strs, dep_strs, b2W, eq_nil]) (by simp [noneW, allD, eqAll, nodAll, depAll, varW, idxW, seqW, cmpW, cmpP, vw, cmpD, eqOk, nod, dep, eqD, truW, truD, b1W, binW, binD, asg_v, lenW, srcW, rcv1, tyOf, Fr.pur, ofP, m1W, int?, slW, slD, isiW, isTy, kindOk, isD, isW, inStr, nod_ones, T_beq, nod_strs, dep_strs, b2W, eq_nil]) (by simp [noneW, allD, eqAll, nodAll, depAll, varW, idxW, seqW, cmpW, cmpP, vw, cmpD, eqOk, nod, dep, eqD, truW, truD, b1W, binW, binD, asg_v, lenW, srcW, rcv1, tyOf, Fr.pur, ofP, m1W, int?, slW, slD, isiW, isTy, kindOk, isD, isW, inStr, nod_ones, T_beq, nod_strs, dep_strs, b2W, eq_nil]) (by simp [noneW, allD, eqAll, nodAll, depAll, varW, idxW, seqW, cmpW, cmpP, vw, cmpD, eqOk, nod, dep, eqD, truW, truD, b1W, binW, binD, asg_v, lenW, srcW, rcv1, tyOf, Fr.pur, ofP, m1W, int?, slW, slD, isiW, isTy, kindOk, isD, isW, inStr, nod_ones, T_beq, nod_strs, dep_strs, b2W, eq_nil])
  · rw [h]; exact rep_str _ _ (by simp [noneW, allD, eqAll, nodAll, depAll, varW, idxW, seqW, cmpW, cmpP, vw, cmpD, eqOk, nod, dep, eqD, truW, truD, b1W, binW, binD, asg_v, lenW, srcW, rcv1, tyOf, Fr.pur, ofP, m1W, int?, slW, slD, isiW, isTy, kindOk, isD, isW, inStr, nod_ones, T_beq, nod_strs, dep_strs, b2W, eq_nil]) (by simp [noneW, allD, eqAll, nodAll, depAll, varW, idxW, seqW, cmpW, cmpP, vw, cmpD, eqOk, nod, dep, eqD, truW, truD, b1W, binW, binD, asg_v, lenW, srcW, rcv1, tyOf, Fr.pur, ofP, m1W, int?, slW, slD, isiW, isTy, kindOk, isD, isW, inStr, nod_ones, T_beq, nod_strs, dep_strs, b2W, eq_nil]) (by simp [noneW, allD, eqAll, nodAll, depAll, varW, idxW, seqW, cmpW, cmpP, vw, cmpD, eqOk, nod, dep, eqD, truW, truD, b1W, binW, binD, asg_v, lenW, srcW, rcv1, tyOf, Fr.pur, ofP, m1W, int?, slW, slD, isiW, isTy, kindOk, isD, isW, inStr, nod_ones, T_beq, nod_strs, dep_strs, b2W, eq_nil]) (by simp [noneW, allD, eqAll, nodAll, depAll, varW, idxW, seqW, cmpW, cmpP, vw, cmpD, eqOk, nod, dep, eqD, truW, truD, b1W, binW, binD, asg_v, lenW, srcW, rcv1, tyOf, Fr.pur, ofP, m1W, int?, slW, slD, isiW, isTy, kindOk, isD, isW, inStr, nod_ones, T_beq, nod_strs, dep_strs, b2W, eq_nil])
def Fin (w : W) (st : Sto) : Prop := w = .d (.bool true)
def en (l : List (Option W)) : FM.Env := l
/-! the parts of the law's body, over the names -/
theorem law_row {t : List Nat} {ρ : FM.Env} {st : Sto} {j : Nat} (d : Dn t) (h3 : ρ[3]? = some (some (.d (dStr t)))) :
    evE EP R0 (callD EP R0 (j + 1)) (.tup (.cons (.bin .sub (.int 0) (.b1 .len (.call "_law_words" (.cons (.var 3) (.nil))))) (.cons (.bin .sub (.int 0) (.b1 .len (.m1 .join (.str []) (.call "_law_words" (.cons (.var 3) (.nil)))))) (.cons (.var 3) (.nil))))) ρ st = .ok (.d (rw_ t)) st := by
  have hSZ : SZ = 16777216 := rfl
  have hw := law_words_ok (st := st) (j := j) d.g.a (show t.length ≤ 1000 by have := d.g.l; omega)
  have hn := d.nm.w
  have hm : ∀ w ∈ wordsP t, w.length ≤ 1000 := fun w hw => by have := (words_mem hw).2; have := d.g.l; omega
  have hs := sum_le hm
  have hs2 : ((wordsP t).map List.length).sum ≤ 10000 := by
    have : (wordsP t).length * 1000 ≤ 10 * 1000 := Nat.mul_le_mul_right _ hn
    omega
  have hj : (joinT [] (wordsP t)).length = ls t := by
    rw [join_flat, ls, sum_flat]
  have hj2 : (joinT [] (wordsP t)).length ≤ 10000 := by rw [hj]; exact hs2
  simp [noneW, allD, eqAll, nodAll, depAll, varW, idxW, seqW, cmpW, cmpP, vw, cmpD, eqOk, nod, dep, eqD, truW, truD, b1W, binW, binD, asg_v, lenW, srcW, rcv1, tyOf, Fr.pur, ofP, m1W, int?, slW, slD, isiW, isTy, kindOk, isD, isW, inStr, nod_ones, T_beq, nod_strs, dep_strs, b2W, eq_nil, evE, evEs, h3, hw, hSZ, show ((wordsP t).map List.length).sum ≤ 16777216 by omega, show ls t ≤ 16777216 by rw [← hj]; omega, rw_, lw, hj]
theorem names_src {ts : List (List Nat)} {st : Sto} : srcW st (.d (.list (ts.map dStr))) = some (ts.map (W.d ∘ dStr), none) := by simp [noneW, allD, eqAll, nodAll, depAll, varW, idxW, seqW, cmpW, cmpP, vw, cmpD, eqOk, nod, dep, eqD, truW, truD, b1W, binW, binD, asg_v, lenW, srcW, rcv1, tyOf, Fr.pur, ofP, m1W, int?, slW, slD, isiW, isTy, kindOk, isD, isW, inStr, nod_ones, T_beq, nod_strs, dep_strs, b2W, eq_nil]
theorem law_rows {ts : List (List Nat)} {ρ : FM.Env} {st : Sto} {j : Nat} (hd : ∀ t ∈ ts, Dn t) (hl : ts.length ≤ 12) (h2 : ρ[2]? = some (some (.d (.list (ts.map dStr))))) (hρ : ρ.length = 10) :
    evE EP R0 (callD EP R0 (j + 1)) (.pur (.lc [3] (.v 3) (.e (.var 2)) (.no) (.tup (.cons (.bin .sub (.int 0) (.b1 .len (.call "_law_words" (.cons (.var 3) (.nil))))) (.cons (.bin .sub (.int 0) (.b1 .len (.m1 .join (.str []) (.call "_law_words" (.cons (.var 3) (.nil)))))) (.cons (.var 3) (.nil))))))) ρ st = .ok (.d (.list (ts.map rw_))) st := by
  have hSZ : SZ = 16777216 := rfl
  rw [evE, evF, evI, evE, varW]
  simp only [h2, Res.of_some, Res.bind_ok, names_src]
  rw [if_neg (by simp [noneW, allD, eqAll, nodAll, depAll, varW, idxW, seqW, cmpW, cmpP, vw, cmpD, eqOk, nod, dep, eqD, truW, truD, b1W, binW, binD, asg_v, lenW, srcW, rcv1, tyOf, Fr.pur, ofP, m1W, int?, slW, slD, isiW, isTy, kindOk, isD, isW, inStr, nod_ones, T_beq, nod_strs, dep_strs, b2W, eq_nil, hSZ]; omega), lc_strs (fun _ => true) (fun u => W.d (rw_ u))]
  · have a1 : allD (ts.map fun u => W.d (rw_ u)) = some (ts.map rw_) := allD_mapd rw_ _
    have a2 : ts.filter (fun _ => true) = ts := by simp [noneW, allD, eqAll, nodAll, depAll, varW, idxW, seqW, cmpW, cmpP, vw, cmpD, eqOk, nod, dep, eqD, truW, truD, b1W, binW, binD, asg_v, lenW, srcW, rcv1, tyOf, Fr.pur, ofP, m1W, int?, slW, slD, isiW, isTy, kindOk, isD, isW, inStr, nod_ones, T_beq, nod_strs, dep_strs, b2W, eq_nil]
    rw [a2]
    simp [noneW, allD, eqAll, nodAll, depAll, varW, idxW, seqW, cmpW, cmpP, vw, cmpD, eqOk, nod, dep, eqD, truW, truD, b1W, binW, binD, asg_v, lenW, srcW, rcv1, tyOf, Fr.pur, ofP, m1W, int?, slW, slD, isiW, isTy, kindOk, isD, isW, inStr, nod_ones, T_beq, nod_strs, dep_strs, b2W, eq_nil, a1]
  · intro u hu
    have r1 := law_row (st := st) (j := j) (ρ := (wip ρ [3]).set 3 (some (.d (dStr u)))) (hd u hu) (by simp [noneW, allD, eqAll, nodAll, depAll, varW, idxW, seqW, cmpW, cmpP, vw, cmpD, eqOk, nod, dep, eqD, truW, truD, b1W, binW, binD, asg_v, lenW, srcW, rcv1, tyOf, Fr.pur, ofP, m1W, int?, slW, slD, isiW, isTy, kindOk, isD, isW, inStr, nod_ones, T_beq, nod_strs, dep_strs, b2W, eq_nil, wip, hρ])
    simp only [asg_v, evCs, Res.bind_ok, if_true]
    rw [r1]
    rfl
theorem law_not {ts : List (List Nat)} {t : List Nat} {ρ : FM.Env} {st : Sto} {j : Nat} (hd : ∀ t ∈ ts, Dn t) (hl : ts.length ≤ 12) (d : Dn t) (h2 : ρ[2]? = some (some (.d (.list (ts.map dStr))))) (h3 : ρ[3]? = some (some (.d (dStr t)))) (hρ : ρ.length = 10) :
    evE EP R0 (callD EP R0 (j + 21)) (.cmp .ne (.pur (.lc [8] (.v 8) (.e (.var 2)) (.c (.not (.e (.call "_law_one" (.cons (.var 3) (.cons (.var 8) (.nil))))))) (.var 8))) (.pur (.lst (.nil)))) ρ st = .ok (.d (.bool (!ts.all fun u => oneP t u))) st := by
  have hSZ : SZ = 16777216 := rfl
  rw [evE, evE, evF, evI, evE, varW]
  simp only [h2, Res.of_some, Res.bind_ok, names_src]
  rw [if_neg (by simp [noneW, allD, eqAll, nodAll, depAll, varW, idxW, seqW, cmpW, cmpP, vw, cmpD, eqOk, nod, dep, eqD, truW, truD, b1W, binW, binD, asg_v, lenW, srcW, rcv1, tyOf, Fr.pur, ofP, m1W, int?, slW, slD, isiW, isTy, kindOk, isD, isW, inStr, nod_ones, T_beq, nod_strs, dep_strs, b2W, eq_nil, hSZ]; omega), lc_strs (fun u => !oneP t u) (fun u => W.d (dStr u))]
  · generalize hf : ts.filter (fun u => !oneP t u) = fs
    have a1 : allD (fs.map fun u => W.d (dStr u)) = some (fs.map dStr) := allD_mapd dStr _
    have a2 : (!ts.all fun u => oneP t u) = !decide (fs = []) := by
      rw [← hf]
      congr 1
      rw [Bool.eq_iff_iff]
      simp [noneW, allD, eqAll, nodAll, depAll, varW, idxW, seqW, cmpW, cmpP, vw, cmpD, eqOk, nod, dep, eqD, truW, truD, b1W, binW, binD, asg_v, lenW, srcW, rcv1, tyOf, Fr.pur, ofP, m1W, int?, slW, slD, isiW, isTy, kindOk, isD, isW, inStr, nod_ones, T_beq, nod_strs, dep_strs, b2W, eq_nil]
    rw [a2]
    simp [noneW, allD, eqAll, nodAll, depAll, varW, idxW, seqW, cmpW, cmpP, vw, cmpD, eqOk, nod, dep, eqD, truW, truD, b1W, binW, binD, asg_v, lenW, srcW, rcv1, tyOf, Fr.pur, ofP, m1W, int?, slW, slD, isiW, isTy, kindOk, isD, isW, inStr, nod_ones, T_beq, nod_strs, dep_strs, b2W, eq_nil, a1, evE, evF, evEs]
  · intro u hu
    have b3 : varW ((wip ρ [8]).set 8 (some (.d (dStr u)))) 3 = some (.d (dStr t)) := by simp [noneW, allD, eqAll, nodAll, depAll, varW, idxW, seqW, cmpW, cmpP, vw, cmpD, eqOk, nod, dep, eqD, truW, truD, b1W, binW, binD, asg_v, lenW, srcW, rcv1, tyOf, Fr.pur, ofP, m1W, int?, slW, slD, isiW, isTy, kindOk, isD, isW, inStr, nod_ones, T_beq, nod_strs, dep_strs, b2W, eq_nil, wip, h3]
    have b8 : varW ((wip ρ [8]).set 8 (some (.d (dStr u)))) 8 = some (.d (dStr u)) := by simp [noneW, allD, eqAll, nodAll, depAll, varW, idxW, seqW, cmpW, cmpP, vw, cmpD, eqOk, nod, dep, eqD, truW, truD, b1W, binW, binD, asg_v, lenW, srcW, rcv1, tyOf, Fr.pur, ofP, m1W, int?, slW, slD, isiW, isTy, kindOk, isD, isW, inStr, nod_ones, T_beq, nod_strs, dep_strs, b2W, eq_nil, wip, hρ]
    simp only [asg_v, evCs, evC, evE, evEs, b3, b8, Res.of_some, Res.bind_ok, law_one_ok (j := j) d.nm (hd u hu).nm, truW, truD]
    cases oneP t u <;> rfl
theorem law_can {ts : List (List Nat)} {ρ : FM.Env} {st : Sto} {j : Nat} (hd : ∀ t ∈ ts, Dn t) (hl : ts.length ≤ 12) (h2 : ρ[2]? = some (some (.d (.list (ts.map dStr))))) (hρ : ρ.length = 10) :
    evE EP R0 (callD EP R0 (j + 21)) (.cmp .eq (.pur (.lc [3] (.v 3) (.e (.var 2)) (.c (.e (.cmp .ne (.pur (.lc [8] (.v 8) (.e (.var 2)) (.c (.not (.e (.call "_law_one" (.cons (.var 3) (.cons (.var 8) (.nil))))))) (.var 8))) (.pur (.lst (.nil)))))) (.var 3))) (.pur (.lst (.nil)))) ρ st = .ok (.d (.bool (allP ts))) st := by
  have hSZ : SZ = 16777216 := rfl
  rw [evE, evE, evF, evI, evE, varW]
  simp only [h2, Res.of_some, Res.bind_ok, names_src]
  rw [if_neg (by simp [noneW, allD, eqAll, nodAll, depAll, varW, idxW, seqW, cmpW, cmpP, vw, cmpD, eqOk, nod, dep, eqD, truW, truD, b1W, binW, binD, asg_v, lenW, srcW, rcv1, tyOf, Fr.pur, ofP, m1W, int?, slW, slD, isiW, isTy, kindOk, isD, isW, inStr, nod_ones, T_beq, nod_strs, dep_strs, b2W, eq_nil, hSZ]; omega), lc_strs (fun t => !ts.all fun u => oneP t u) (fun u => W.d (dStr u))]
  · generalize hf : ts.filter (fun t => !ts.all fun u => oneP t u) = fs
    have a1 : allD (fs.map fun u => W.d (dStr u)) = some (fs.map dStr) := allD_mapd dStr _
    have a2 : allP ts = decide (fs = []) := by
      rw [← hf, allP, Bool.eq_iff_iff]
      simp [noneW, allD, eqAll, nodAll, depAll, varW, idxW, seqW, cmpW, cmpP, vw, cmpD, eqOk, nod, dep, eqD, truW, truD, b1W, binW, binD, asg_v, lenW, srcW, rcv1, tyOf, Fr.pur, ofP, m1W, int?, slW, slD, isiW, isTy, kindOk, isD, isW, inStr, nod_ones, T_beq, nod_strs, dep_strs, b2W, eq_nil]
    rw [a2]
    simp [noneW, allD, eqAll, nodAll, depAll, varW, idxW, seqW, cmpW, cmpP, vw, cmpD, eqOk, nod, dep, eqD, truW, truD, b1W, binW, binD, asg_v, lenW, srcW, rcv1, tyOf, Fr.pur, ofP, m1W, int?, slW, slD, isiW, isTy, kindOk, isD, isW, inStr, nod_ones, T_beq, nod_strs, dep_strs, b2W, eq_nil, a1, evE, evF, evEs]
  · intro t ht
    have b := law_not (st := st) (j := j) (ρ := (wip ρ [3]).set 3 (some (.d (dStr t)))) hd hl (hd t ht) (by simp [noneW, allD, eqAll, nodAll, depAll, varW, idxW, seqW, cmpW, cmpP, vw, cmpD, eqOk, nod, dep, eqD, truW, truD, b1W, binW, binD, asg_v, lenW, srcW, rcv1, tyOf, Fr.pur, ofP, m1W, int?, slW, slD, isiW, isTy, kindOk, isD, isW, inStr, nod_ones, T_beq, nod_strs, dep_strs, b2W, eq_nil, wip, h2]) (by simp [noneW, allD, eqAll, nodAll, depAll, varW, idxW, seqW, cmpW, cmpP, vw, cmpD, eqOk, nod, dep, eqD, truW, truD, b1W, binW, binD, asg_v, lenW, srcW, rcv1, tyOf, Fr.pur, ofP, m1W, int?, slW, slD, isiW, isTy, kindOk, isD, isW, inStr, nod_ones, T_beq, nod_strs, dep_strs, b2W, eq_nil, wip, hρ]) (by simp [noneW, allD, eqAll, nodAll, depAll, varW, idxW, seqW, cmpW, cmpP, vw, cmpD, eqOk, nod, dep, eqD, truW, truD, b1W, binW, binD, asg_v, lenW, srcW, rcv1, tyOf, Fr.pur, ofP, m1W, int?, slW, slD, isiW, isTy, kindOk, isD, isW, inStr, nod_ones, T_beq, nod_strs, dep_strs, b2W, eq_nil, wip, hρ])
    have b3 : varW ((wip ρ [3]).set 3 (some (.d (dStr t)))) 3 = some (.d (dStr t)) := by simp [noneW, allD, eqAll, nodAll, depAll, varW, idxW, seqW, cmpW, cmpP, vw, cmpD, eqOk, nod, dep, eqD, truW, truD, b1W, binW, binD, asg_v, lenW, srcW, rcv1, tyOf, Fr.pur, ofP, m1W, int?, slW, slD, isiW, isTy, kindOk, isD, isW, inStr, nod_ones, T_beq, nod_strs, dep_strs, b2W, eq_nil, wip, hρ]
    simp only [asg_v, evCs, evC, b, Res.bind_ok, truW, truD, Res.of_some]
    cases ts.all fun u => oneP t u
    · simp [noneW, allD, eqAll, nodAll, depAll, varW, idxW, seqW, cmpW, cmpP, vw, cmpD, eqOk, nod, dep, eqD, truW, truD, b1W, binW, binD, asg_v, lenW, srcW, rcv1, tyOf, Fr.pur, ofP, m1W, int?, slW, slD, isiW, isTy, kindOk, isD, isW, inStr, nod_ones, T_beq, nod_strs, dep_strs, b2W, eq_nil, evE, wip, hρ]
    · rfl
end HT
end

section
set_option Elab.async false
set_option linter.all false
set_option maxRecDepth 100000
set_option autoImplicit false
set_option maxHeartbeats 4000000
namespace HT
open PySem FM
def NI (ts : List (List Nat)) (st : Sto) (ws : List W) (ρ : FM.Env) (st' : Sto) : Prop := ∃ (l : List (List Nat)) (v0 v3 v8 : Option W), ws = l.map (fun c => .d (dStr c)) ∧ (∀ t ∈ l, t ∈ ts) ∧ ρ = [v0, some (.ref 0), some (.d (.list (ts.map dStr))), v3, none, none, none, none, v8, none] ∧ st' = st
def NJ (ts : List (List Nat)) (t : List Nat) (st : Sto) (ws : List W) (ρ : FM.Env) (st' : Sto) : Prop := ∃ (l : List (List Nat)) (v0 v8 : Option W), ws = l.map (fun c => .d (dStr c)) ∧ (∀ t ∈ l, t ∈ ts) ∧ ρ = [v0, some (.ref 0), some (.d (.list (ts.map dStr))), some (.d (dStr t)), none, none, none, none, v8, none] ∧ st' = st
theorem law_loop {ts : List (List Nat)} {v0 : Option W} {st : Sto} (hd : ∀ t ∈ ts, Dn t) : okO (evS EP R0 (callD EP R0 24) (.for (.v 3) (.e (.var 2)) (.cons (.ife (.not (.e (.call "_law_alike" (.cons (.call "words_of" (.cons (.var 3) (.nil))) (.cons (.call "_law_words" (.cons (.var 3) (.nil))) (.nil)))))) (.cons (.ret (.bl false)) (.nil)) (.nil)) (.cons (.for (.v 8) (.e (.var 2)) (.cons (.ife (.not (.e (.call "_law_alike" (.cons (.call "may_be_one" (.cons (.var 3) (.cons (.var 8) (.nil)))) (.cons (.call "_law_one" (.cons (.var 3) (.cons (.var 8) (.nil)))) (.nil)))))) (.cons (.ret (.bl false)) (.nil)) (.nil)) (.nil))) (.nil)))) [v0, some (.ref 0), some (.d (.list (ts.map dStr))), none, none, none, none, none, none, none] st) (NI ts st []) (fun _ _ => False) := by
  rw [evS, evI, evE, varW]
  simp only [List.getElem?_cons_zero, List.getElem?_cons_succ, Res.of_some, Res.bind_ok, names_src, okO_out, okR_ok]
  refine okO_imp (for_inv (Rt := fun _ _ => False) (NI ts st) _ _ _ ?_ ?_) (fun _ _ h => h) (fun _ _ h => h.elim)
  · exact ⟨ts, _, _, _, by simp [noneW, allD, eqAll, nodAll, depAll, varW, idxW, seqW, cmpW, cmpP, vw, cmpD, eqOk, nod, dep, eqD, truW, truD, b1W, binW, binD, asg_v, lenW, srcW, rcv1, tyOf, Fr.pur, ofP, m1W, int?, slW, slD, isiW, isTy, kindOk, isD, isW, inStr, nod_ones, T_beq, nod_strs, dep_strs, b2W, eq_nil, Function.comp_def], fun _ h => h, rfl, rfl⟩
  · rintro w r ρ st' ⟨l, v0, v3, v8, h1, h2, rfl, rfl⟩
    cases l with
    | nil => simp [noneW, allD, eqAll, nodAll, depAll, varW, idxW, seqW, cmpW, cmpP, vw, cmpD, eqOk, nod, dep, eqD, truW, truD, b1W, binW, binD, asg_v, lenW, srcW, rcv1, tyOf, Fr.pur, ofP, m1W, int?, slW, slD, isiW, isTy, kindOk, isD, isW, inStr, nod_ones, T_beq, nod_strs, dep_strs, b2W, eq_nil] at h1
    | cons t l =>
      simp [noneW, allD, eqAll, nodAll, depAll, varW, idxW, seqW, cmpW, cmpP, vw, cmpD, eqOk, nod, dep, eqD, truW, truD, b1W, binW, binD, asg_v, lenW, srcW, rcv1, tyOf, Fr.pur, ofP, m1W, int?, slW, slD, isiW, isTy, kindOk, isD, isW, inStr, nod_ones, T_beq, nod_strs, dep_strs, b2W, eq_nil] at h1
      obtain ⟨rfl, rfl⟩ := h1
      have dt := hd t (h2 t List.mem_cons_self)
      have w1 := words_of_ok (st := st') (j := 21) dt
      have w2 := law_words_ok (st := st') (j := 23) dt.g.a (show t.length ≤ 1000 by have := dt.g.l; omega)
      have hn := dt.nm.w
      have hsm : sm (.tuple ((wordsP t).map dStr)) = true := by
        have h1 : ∀ l : List (List Nat), smAll (l.map dStr) = true := fun l => by
          induction l with
          | nil => rfl
          | cons x l ih => simp [noneW, allD, eqAll, nodAll, depAll, varW, idxW, seqW, cmpW, cmpP, vw, cmpD, eqOk, nod, dep, eqD, truW, truD, b1W, binW, binD, asg_v, lenW, srcW, rcv1, tyOf, Fr.pur, ofP, m1W, int?, slW, slD, isiW, isTy, kindOk, isD, isW, inStr, nod_ones, T_beq, nod_strs, dep_strs, b2W, eq_nil, smAll, ih, sm, dStr]
        have hSZ : SZ = 16777216 := rfl
        simp [noneW, allD, eqAll, nodAll, depAll, varW, idxW, seqW, cmpW, cmpP, vw, cmpD, eqOk, nod, dep, eqD, truW, truD, b1W, binW, binD, asg_v, lenW, srcW, rcv1, tyOf, Fr.pur, ofP, m1W, int?, slW, slD, isiW, isTy, kindOk, isD, isW, inStr, nod_ones, T_beq, nod_strs, dep_strs, b2W, eq_nil, sm, h1]
        omega
      have al := alike_refl (R := R0) hA 1 (.tuple ((wordsP t).map dStr)) (.d (.tuple ((wordsP t).map dStr))) (.d (.tuple ((wordsP t).map dStr))) st' 22 (by simp [noneW, allD, eqAll, nodAll, depAll, varW, idxW, seqW, cmpW, cmpP, vw, cmpD, eqOk, nod, dep, eqD, truW, truD, b1W, binW, binD, asg_v, lenW, srcW, rcv1, tyOf, Fr.pur, ofP, m1W, int?, slW, slD, isiW, isTy, kindOk, isD, isW, inStr, nod_ones, T_beq, nod_strs, dep_strs, b2W, eq_nil]) hsm rfl rfl
      simp only [asg_v, evSs, okO_next]
      have S1 : evS EP R0 (callD EP R0 24) (.ife (.not (.e (.call "_law_alike" (.cons (.call "words_of" (.cons (.var 3) (.nil))) (.cons (.call "_law_words" (.cons (.var 3) (.nil))) (.nil)))))) (.cons (.ret (.bl false)) (.nil)) (.nil)) [v0, some (.ref 0), some (.d (.list (ts.map dStr))), some (.d (dStr t)), none, none, none, none, v8, none] st' = .nx [v0, some (.ref 0), some (.d (.list (ts.map dStr))), some (.d (dStr t)), none, none, none, none, v8, none] st' := by
        simp [noneW, allD, eqAll, nodAll, depAll, varW, idxW, seqW, cmpW, cmpP, vw, cmpD, eqOk, nod, dep, eqD, truW, truD, b1W, binW, binD, asg_v, lenW, srcW, rcv1, tyOf, Fr.pur, ofP, m1W, int?, slW, slD, isiW, isTy, kindOk, isD, isW, inStr, nod_ones, T_beq, nod_strs, dep_strs, b2W, eq_nil, evS, evSs, evC, evE, evEs, w1, w2, al]
      rw [show List.set [v0, some (.ref 0), some (.d (.list (ts.map dStr))), v3, none, none, none, none, v8, none] 3 (some (W.d (dStr t))) = [v0, some (.ref 0), some (.d (.list (ts.map dStr))), some (.d (dStr t)), none, none, none, none, v8, none] from rfl, S1, okO_nx]
      rw [evS, evI, evE, varW]
      simp only [List.getElem?_cons_zero, List.getElem?_cons_succ, Res.of_some, Res.bind_ok, names_src, okO_out, okR_ok]
      refine okO_imp (for_inv (Rt := fun _ _ => False) (NJ ts t st') _ _ _ ?_ ?_) ?_ (fun _ _ h => h.elim)
      · exact ⟨ts, _, _, by simp [noneW, allD, eqAll, nodAll, depAll, varW, idxW, seqW, cmpW, cmpP, vw, cmpD, eqOk, nod, dep, eqD, truW, truD, b1W, binW, binD, asg_v, lenW, srcW, rcv1, tyOf, Fr.pur, ofP, m1W, int?, slW, slD, isiW, isTy, kindOk, isD, isW, inStr, nod_ones, T_beq, nod_strs, dep_strs, b2W, eq_nil, Function.comp_def], fun _ h => h, rfl, rfl⟩
      · rintro w r ρ st ⟨m, v0, v8, e1, e2, rfl, rfl⟩
        cases m with
        | nil => simp [noneW, allD, eqAll, nodAll, depAll, varW, idxW, seqW, cmpW, cmpP, vw, cmpD, eqOk, nod, dep, eqD, truW, truD, b1W, binW, binD, asg_v, lenW, srcW, rcv1, tyOf, Fr.pur, ofP, m1W, int?, slW, slD, isiW, isTy, kindOk, isD, isW, inStr, nod_ones, T_beq, nod_strs, dep_strs, b2W, eq_nil] at e1
        | cons u m =>
          simp [noneW, allD, eqAll, nodAll, depAll, varW, idxW, seqW, cmpW, cmpP, vw, cmpD, eqOk, nod, dep, eqD, truW, truD, b1W, binW, binD, asg_v, lenW, srcW, rcv1, tyOf, Fr.pur, ofP, m1W, int?, slW, slD, isiW, isTy, kindOk, isD, isW, inStr, nod_ones, T_beq, nod_strs, dep_strs, b2W, eq_nil] at e1
          obtain ⟨rfl, rfl⟩ := e1
          have du := hd u (e2 u List.mem_cons_self)
          have m1 := may_ok (st := st) (j := 20) dt du
          have m2 := law_one_ok (st := st) (j := 3) dt.nm du.nm
          have al := alike_refl (R := R0) hA 0 (.bool (oneP t u)) (.d (.bool (oneP t u))) (.d (.bool (oneP t u))) st 23 (by simp [noneW, allD, eqAll, nodAll, depAll, varW, idxW, seqW, cmpW, cmpP, vw, cmpD, eqOk, nod, dep, eqD, truW, truD, b1W, binW, binD, asg_v, lenW, srcW, rcv1, tyOf, Fr.pur, ofP, m1W, int?, slW, slD, isiW, isTy, kindOk, isD, isW, inStr, nod_ones, T_beq, nod_strs, dep_strs, b2W, eq_nil]) rfl rfl rfl
          have S2 : evSs EP R0 (callD EP R0 24) (.cons (.ife (.not (.e (.call "_law_alike" (.cons (.call "may_be_one" (.cons (.var 3) (.cons (.var 8) (.nil)))) (.cons (.call "_law_one" (.cons (.var 3) (.cons (.var 8) (.nil)))) (.nil)))))) (.cons (.ret (.bl false)) (.nil)) (.nil)) (.nil)) [v0, some (.ref 0), some (.d (.list (ts.map dStr))), some (.d (dStr t)), none, none, none, none, some (.d (dStr u)), none] st = .nx [v0, some (.ref 0), some (.d (.list (ts.map dStr))), some (.d (dStr t)), none, none, none, none, some (.d (dStr u)), none] st := by
            simp [noneW, allD, eqAll, nodAll, depAll, varW, idxW, seqW, cmpW, cmpP, vw, cmpD, eqOk, nod, dep, eqD, truW, truD, b1W, binW, binD, asg_v, lenW, srcW, rcv1, tyOf, Fr.pur, ofP, m1W, int?, slW, slD, isiW, isTy, kindOk, isD, isW, inStr, nod_ones, T_beq, nod_strs, dep_strs, b2W, eq_nil, evS, evSs, evC, evE, evEs, m1, m2, al]
          simp only [asg_v]
          rw [show List.set [v0, some (.ref 0), some (.d (.list (ts.map dStr))), some (.d (dStr t)), none, none, none, none, v8, none] 8 (some (W.d (dStr u))) = [v0, some (.ref 0), some (.d (.list (ts.map dStr))), some (.d (dStr t)), none, none, none, none, some (.d (dStr u)), none] from rfl, S2, okO_nx]
          exact ⟨by simp [noneW, allD, eqAll, nodAll, depAll, varW, idxW, seqW, cmpW, cmpP, vw, cmpD, eqOk, nod, dep, eqD, truW, truD, b1W, binW, binD, asg_v, lenW, srcW, rcv1, tyOf, Fr.pur, ofP, m1W, int?, slW, slD, isiW, isTy, kindOk, isD, isW, inStr, nod_ones, T_beq, nod_strs, dep_strs, b2W, eq_nil, still], m, _, _, rfl, fun x hx => e2 x (List.mem_cons_of_mem _ hx), rfl, rfl⟩
      · rintro ρ st ⟨m, v0, v8, e1, e2, rfl, rfl⟩
        exact ⟨by simp [noneW, allD, eqAll, nodAll, depAll, varW, idxW, seqW, cmpW, cmpP, vw, cmpD, eqOk, nod, dep, eqD, truW, truD, b1W, binW, binD, asg_v, lenW, srcW, rcv1, tyOf, Fr.pur, ofP, m1W, int?, slW, slD, isiW, isTy, kindOk, isD, isW, inStr, nod_ones, T_beq, nod_strs, dep_strs, b2W, eq_nil, still], l, _, _, _, rfl, fun x hx => h2 x (List.mem_cons_of_mem _ hx), rfl, rfl⟩
end HT
end

section
set_option Elab.async false
set_option linter.all false
set_option maxRecDepth 100000
set_option autoImplicit false
set_option maxHeartbeats 4000000
namespace HT
open PySem FM
theorem row_exn {ns : List Int} {rest st st' : Sto} {c : String} {x : D} (h : Row ns rest st) (h' : Row ns rest st') : exitR .eff st (.exn (bad1 c x) st') = .exn (bad1 c x) st' := by
  obtain ⟨a, b, d, ha, rfl⟩ := h
  obtain ⟨a', b', d', ha', rfl⟩ := h'
  have : okOld (rowC ns a b d :: rest) (rowC ns a' b' d' :: rest) := old_row
  simp [noneW, allD, eqAll, nodAll, depAll, varW, idxW, seqW, cmpW, cmpP, vw, cmpD, eqOk, nod, dep, eqD, truW, truD, b1W, binW, binD, asg_v, lenW, srcW, rcv1, tyOf, Fr.pur, ofP, m1W, int?, slW, slD, isiW, isTy, kindOk, isD, isW, inStr, nod_ones, T_beq, nod_strs, dep_strs, b2W, eq_nil, exitR, exitExn, frzF, this, bad1]
theorem law_ok {ns : List Int} : okR (callD EP R0 25 "law" [.d (.list (ns.map .int))] []) fun w _ => w = .d (.bool true) := by
  have hSZ : SZ = 16777216 := rfl
  rw [callD_fn (fn := flaw) rfl _ _ rfl]
  apply exit_pure
  show okO (evSs EP R0 (callD EP R0 24) blaw [some (.d (.list (ns.map .int))), none, none, none, none, none, none, none, none, none] []) _ _
  suffices h : okO (evSs EP R0 (callD EP R0 24) blaw [some (.d (.list (ns.map .int))), none, none, none, none, none, none, none, none, none] []) (fun _ _ => False) Fin by
    refine okO_imp h (fun _ _ h => h.elim) fun w st' h => ?_
    subst h
    exact ⟨by simp [noneW, allD, eqAll, nodAll, depAll, varW, idxW, seqW, cmpW, cmpP, vw, cmpD, eqOk, nod, dep, eqD, truW, truD, b1W, binW, binD, asg_v, lenW, srcW, rcv1, tyOf, Fr.pur, ofP, m1W, int?, slW, slD, isiW, isTy, kindOk, isD, isW, inStr, nod_ones, T_beq, nod_strs, dep_strs, b2W, eq_nil], _, rfl, rfl⟩
  unfold blaw
  apply seqS (N' := fun ρ st => ρ = [some (.d (.list (ns.map .int))), some (.ref 0), none, none, none, none, none, none, none, none] ∧ Row ns [] st)
  · simp [noneW, allD, eqAll, nodAll, depAll, varW, idxW, seqW, cmpW, cmpP, vw, cmpD, eqOk, nod, dep, eqD, truW, truD, b1W, binW, binD, asg_v, lenW, srcW, rcv1, tyOf, Fr.pur, ofP, m1W, int?, slW, slD, isiW, isTy, kindOk, isD, isW, inStr, nod_ones, T_beq, nod_strs, dep_strs, b2W, eq_nil, evS, evE, evEs, evF]
    exact ⟨0, 119, 0, by omega, rfl⟩
  rintro ρ st ⟨rfl, h⟩
  apply seqS (N' := fun ρ st => ∃ ts : List (List Nat), (∀ t ∈ ts, Dn t) ∧ 2 ≤ ts.length ∧ ts.length ≤ 5 ∧ ρ = [some (.d (.list (ns.map .int))), some (.ref 0), some (.d (.list (ts.map dStr))), none, none, none, none, none, none, none] ∧ Row ns [] st)
  · simp only [evS, evE, evEs, evF, evI, evC, evCs, okO_out, okR_bind]
    simp [noneW, allD, eqAll, nodAll, depAll, varW, idxW, seqW, cmpW, cmpP, vw, cmpD, eqOk, nod, dep, eqD, truW, truD, b1W, binW, binD, asg_v, lenW, srcW, rcv1, tyOf, Fr.pur, ofP, m1W, int?, slW, slD, isiW, isTy, kindOk, isD, isW, inStr, nod_ones, T_beq, nod_strs, dep_strs, b2W, eq_nil]
    refine okR_imp (taken hT h (m := 4) (by omega) (by omega)) fun w st' ⟨⟨k, k1, k2, hw⟩, h⟩ => ?_
    subst hw
    simp [noneW, allD, eqAll, nodAll, depAll, varW, idxW, seqW, cmpW, cmpP, vw, cmpD, eqOk, nod, dep, eqD, truW, truD, b1W, binW, binD, asg_v, lenW, srcW, rcv1, tyOf, Fr.pur, ofP, m1W, int?, slW, slD, isiW, isTy, kindOk, isD, isW, inStr, nod_ones, T_beq, nod_strs, dep_strs, b2W, eq_nil]
    have hr : rngOk (2 + k) = true := by
      simp [noneW, allD, eqAll, nodAll, depAll, varW, idxW, seqW, cmpW, cmpP, vw, cmpD, eqOk, nod, dep, eqD, truW, truD, b1W, binW, binD, asg_v, lenW, srcW, rcv1, tyOf, Fr.pur, ofP, m1W, int?, slW, slD, isiW, isTy, kindOk, isD, isW, inStr, nod_ones, T_beq, nod_strs, dep_strs, b2W, eq_nil, rngOk]
      omega
    have hlen : (rngL 0 (2 + k).toNat).length = (2 + k).toNat := by simp [noneW, allD, eqAll, nodAll, depAll, varW, idxW, seqW, cmpW, cmpP, vw, cmpD, eqOk, nod, dep, eqD, truW, truD, b1W, binW, binD, asg_v, lenW, srcW, rcv1, tyOf, Fr.pur, ofP, m1W, int?, slW, slD, isiW, isTy, kindOk, isD, isW, inStr, nod_ones, T_beq, nod_strs, dep_strs, b2W, eq_nil, rngL]
    simp [noneW, allD, eqAll, nodAll, depAll, varW, idxW, seqW, cmpW, cmpP, vw, cmpD, eqOk, nod, dep, eqD, truW, truD, b1W, binW, binD, asg_v, lenW, srcW, rcv1, tyOf, Fr.pur, ofP, m1W, int?, slW, slD, isiW, isTy, kindOk, isD, isW, inStr, nod_ones, T_beq, nod_strs, dep_strs, b2W, eq_nil, hr, hSZ, hlen, show ¬ 16777216 < (2 + k).toNat by omega]
    refine okR_imp (lc_inv (I := Row ns []) (Pw := fun y => ∃ g : List Nat, Dn g ∧ y = W.d (dStr g)) _ _ h ?_) ?_
    · intro w _ st h
      simp [noneW, allD, eqAll, nodAll, depAll, varW, idxW, seqW, cmpW, cmpP, vw, cmpD, eqOk, nod, dep, eqD, truW, truD, b1W, binW, binD, asg_v, lenW, srcW, rcv1, tyOf, Fr.pur, ofP, m1W, int?, slW, slD, isiW, isTy, kindOk, isD, isW, inStr, nod_ones, T_beq, nod_strs, dep_strs, b2W, eq_nil, wip]
      refine okR_imp (law_written_ok (j := 21) h) fun w st' ⟨⟨t, ht, hw⟩, h⟩ => ?_
      subst hw
      exact ⟨h, t, ht, rfl⟩
    · rintro ys st ⟨h, hl, hy⟩
      obtain ⟨ts, d1, d2, rfl⟩ := strs_of2 hy
      simp [noneW, allD, eqAll, nodAll, depAll, varW, idxW, seqW, cmpW, cmpP, vw, cmpD, eqOk, nod, dep, eqD, truW, truD, b1W, binW, binD, asg_v, lenW, srcW, rcv1, tyOf, Fr.pur, ofP, m1W, int?, slW, slD, isiW, isTy, kindOk, isD, isW, inStr, nod_ones, T_beq, nod_strs, dep_strs, b2W, eq_nil] at d2 hl
      have a1 : allD (ts.map fun u => W.d (dStr u)) = some (ts.map dStr) := allD_mapd dStr _
      rw [hlen] at hl
      simp [noneW, allD, eqAll, nodAll, depAll, varW, idxW, seqW, cmpW, cmpP, vw, cmpD, eqOk, nod, dep, eqD, truW, truD, b1W, binW, binD, asg_v, lenW, srcW, rcv1, tyOf, Fr.pur, ofP, m1W, int?, slW, slD, isiW, isTy, kindOk, isD, isW, inStr, nod_ones, T_beq, nod_strs, dep_strs, b2W, eq_nil, a1]
      exact ⟨ts, d1, by omega, by omega, rfl, h⟩
  clear h
  rintro ρ st ⟨ts, hd, l1, l2, rfl, h⟩
  apply seqS (N' := NI ts st [])
  · exact okO_imp (law_loop hd) (fun _ _ h => h) (fun _ _ h => h.elim)
  rintro ρ st2 ⟨l, v0, v3, v8, e1, -, rfl, e2⟩
  rw [e2]
  clear e1 l e2 st2
  apply seqS (N' := fun ρ st' => ρ = [v0, some (.ref 0), some (.d (.list (ts.map dStr))), v3, some (.d (.bool (allP ts))), none, none, none, v8, none] ∧ st' = st)
  · rw [evS, law_can (j := 3) hd (by omega) rfl rfl]
    exact ⟨rfl, rfl⟩
  rintro ρ st2 ⟨rfl, e2⟩
  rw [e2]
  clear e2 st2
  obtain ⟨m, r, rfl⟩ := List.exists_cons_of_ne_nil (show ts ≠ [] by intro z; rw [z] at l1; simp [noneW, allD, eqAll, nodAll, depAll, varW, idxW, seqW, cmpW, cmpP, vw, cmpD, eqOk, nod, dep, eqD, truW, truD, b1W, binW, binD, asg_v, lenW, srcW, rcv1, tyOf, Fr.pur, ofP, m1W, int?, slW, slD, isiW, isTy, kindOk, isD, isW, inStr, nod_ones, T_beq, nod_strs, dep_strs, b2W, eq_nil] at l1)
  obtain ⟨q1, q2, q3, q4⟩ := rw_sort (ts := m :: r) (by omega)
  obtain ⟨tl, htl⟩ := sort_head m r
  apply seqS (N' := fun ρ st'' => ρ = [v0, some (.ref 0), some (.d (.list ((m :: r).map dStr))), v3, some (.d (.bool (allP (m :: r)))), some (.d (.list ((minT m r :: tl).map rw_))), none, none, v8, none] ∧ st'' = st)
  · have hr := law_rows (st := st) (j := 23) (ρ := [v0, some (.ref 0), some (.d (.list ((m :: r).map dStr))), v3, some (.d (.bool (allP (m :: r)))), none, none, none, v8, none]) hd (by omega) rfl rfl
    have hal : ∀ l : List (List Nat), allD (l.map (W.d ∘ rw_)) = some (l.map rw_) := fun l => allD_mapd rw_ _
    have hbd : (lstW st (.d (.list ((m :: r).map rw_)))).bind allD = some ((m :: r).map rw_) := by
      rw [lstW, List.map_map, Option.bind_some, hal]
    rw [evS, evE, evF, hr, Res.bind_ok, hbd]
    simp only
    rw [if_pos q1, sort_rw, htl]
    simp only [Res.bind_ok, Fr.pur, List.map_map, hal, Option.map_some, Res.of_some, Res.out_ok, asg_v]
    exact ⟨rfl, rfl⟩
  rintro ρ st2 ⟨rfl, e2⟩
  rw [e2]
  clear e2 st2
  apply seqS (N' := fun ρ st2 => ρ = [v0, some (.ref 0), some (.d (.list ((m :: r).map dStr))), v3, some (.d (.bool (allP (m :: r)))), some (.d (.list ((minT m r :: tl).map rw_))), none, none, v8, none] ∧ st2 = st)
  · have f1 := fullest_ok (b := true) (st := st) (j := 19) hd (by omega) (by omega)
    have hf : fullP (m :: r) = if allP (m :: r) then dStr (minT m r) else .none := rfl
    have d0 : dep (fullP (m :: r)) ≤ 0 := by
      rw [hf]
      split <;> simp [noneW, allD, eqAll, nodAll, depAll, varW, idxW, seqW, cmpW, cmpP, vw, cmpD, eqOk, nod, dep, eqD, truW, truD, b1W, binW, binD, asg_v, lenW, srcW, rcv1, tyOf, Fr.pur, ofP, m1W, int?, slW, slD, isiW, isTy, kindOk, isD, isW, inStr, nod_ones, T_beq, nod_strs, dep_strs, b2W, eq_nil]
    have d1 : sm (fullP (m :: r)) = true := by
      rw [hf]
      split <;> rfl
    have al := alike_refl (R := R0) hA 0 (fullP (m :: r)) (.d (fullP (m :: r))) (.d (fullP (m :: r))) st 23 d0 d1 rfl rfl
    generalize hρ : ([v0, some (.ref 0), some (.d (.list ((m :: r).map dStr))), v3, some (.d (.bool (allP (m :: r)))), some (.d (.list ((minT m r :: tl).map rw_))), none, none, v8, none] : FM.Env) = ρ
    have k1 : evE EP R0 (callD EP R0 24) (.call "fullest" (.cons (.b1 .tuple (.var 2)) (.nil))) ρ st = .ok (.d (fullP (m :: r))) st := by
      subst hρ
      simp only [evE, evEs, varW, List.getElem?_cons_zero, List.getElem?_cons_succ, Res.of_some, Res.bind_ok, b1W, vw]
      exact f1
    have k2 : evE EP R0 (callD EP R0 24) (.ife (.e (.var 4)) (.idx (.idx (.var 5) (.int 0)) (.int 2)) (.none)) ρ st = .ok (.d (fullP (m :: r))) st := by
      rw [hf]
      subst hρ
      cases allP (m :: r) <;> simp [noneW, allD, eqAll, nodAll, depAll, varW, idxW, seqW, cmpW, cmpP, vw, cmpD, eqOk, nod, dep, eqD, truW, truD, b1W, binW, binD, asg_v, lenW, srcW, rcv1, tyOf, Fr.pur, ofP, m1W, int?, slW, slD, isiW, isTy, kindOk, isD, isW, inStr, nod_ones, T_beq, nod_strs, dep_strs, b2W, eq_nil, evE, evC, FM.atI, rw_]
    generalize FM.E.call "fullest" (.cons (.b1 .tuple (.var 2)) (.nil)) = eA at k1
    generalize FM.E.ife (.e (.var 4)) (.idx (.idx (.var 5) (.int 0)) (.int 2)) (.none) = eB at k2
    have k3 : evE EP R0 (callD EP R0 24) (.call "_law_alike" (.cons eA (.cons eB (.nil)))) ρ st = .ok (.d (.bool true)) st := by
      simp only [evE, evEs, k1, k2, Res.bind_ok, al]
    simp only [evS, evC, k3, Res.bind_ok, truW, truD, Res.of_some, Bool.not_true, Res.out_ok, evSs]
    simp [noneW, allD, eqAll, nodAll, depAll, varW, idxW, seqW, cmpW, cmpP, vw, cmpD, eqOk, nod, dep, eqD, truW, truD, b1W, binW, binD, asg_v, lenW, srcW, rcv1, tyOf, Fr.pur, ofP, m1W, int?, slW, slD, isiW, isTy, kindOk, isD, isW, inStr, nod_ones, T_beq, nod_strs, dep_strs, b2W, eq_nil]
  rintro ρ st2 ⟨rfl, e2⟩
  rw [e2]
  clear e2 st2
  have hne : (m :: r).map dStr ≠ [] := by simp [noneW, allD, eqAll, nodAll, depAll, varW, idxW, seqW, cmpW, cmpP, vw, cmpD, eqOk, nod, dep, eqD, truW, truD, b1W, binW, binD, asg_v, lenW, srcW, rcv1, tyOf, Fr.pur, ofP, m1W, int?, slW, slD, isiW, isTy, kindOk, isD, isW, inStr, nod_ones, T_beq, nod_strs, dep_strs, b2W, eq_nil]
  apply seqS (N' := fun ρ st => ∃ u : List Nat, Dn u ∧ ρ = [v0, some (.ref 0), some (.d (.list ((m :: r).map dStr))), v3, some (.d (.bool (allP (m :: r)))), some (.d (.list ((minT m r :: tl).map rw_))), some (.d (dStr u)), none, v8, none] ∧ Row ns [] st)
  · simp only [evS, evE, evEs, okO_out, okR_bind, varW, List.getElem?_cons_zero, List.getElem?_cons_succ, Res.of_some, okR_ok]
    refine okR_imp (pick hT hP (j := 22) h hne (by have := l2; simp [noneW, allD, eqAll, nodAll, depAll, varW, idxW, seqW, cmpW, cmpP, vw, cmpD, eqOk, nod, dep, eqD, truW, truD, b1W, binW, binD, asg_v, lenW, srcW, rcv1, tyOf, Fr.pur, ofP, m1W, int?, slW, slD, isiW, isTy, kindOk, isD, isW, inStr, nod_ones, T_beq, nod_strs, dep_strs, b2W, eq_nil] at this ⊢; omega)) fun w st' ⟨⟨x, hx, hw⟩, h⟩ => ?_
    subst hw
    obtain ⟨u, hu, rfl⟩ := List.mem_map.mp hx
    exact ⟨u, hd u hu, rfl, h⟩
  clear h
  rintro ρ st1 ⟨u, du, rfl, h⟩
  generalize hts : m :: r = ts at *
  generalize some (W.d (.list ((minT m r :: tl).map rw_))) = v5
  generalize some (W.d (PyData.bool (allP ts))) = v4
  apply seqS (N' := fun ρ st => ρ = [v0, some (.ref 0), some (.d (.list (ts.map dStr))), v3, v4, v5, some (.d (dStr u)), none, v8, none] ∧ st = st1)
  · have f1 := fullest_ok (b := false) (ts := [u]) (st := st1) (j := 19) (fun t ht => by simp [noneW, allD, eqAll, nodAll, depAll, varW, idxW, seqW, cmpW, cmpP, vw, cmpD, eqOk, nod, dep, eqD, truW, truD, b1W, binW, binD, asg_v, lenW, srcW, rcv1, tyOf, Fr.pur, ofP, m1W, int?, slW, slD, isiW, isTy, kindOk, isD, isW, inStr, nod_ones, T_beq, nod_strs, dep_strs, b2W, eq_nil] at ht; subst ht; exact du) (by simp [noneW, allD, eqAll, nodAll, depAll, varW, idxW, seqW, cmpW, cmpP, vw, cmpD, eqOk, nod, dep, eqD, truW, truD, b1W, binW, binD, asg_v, lenW, srcW, rcv1, tyOf, Fr.pur, ofP, m1W, int?, slW, slD, isiW, isTy, kindOk, isD, isW, inStr, nod_ones, T_beq, nod_strs, dep_strs, b2W, eq_nil]) (by simp [noneW, allD, eqAll, nodAll, depAll, varW, idxW, seqW, cmpW, cmpP, vw, cmpD, eqOk, nod, dep, eqD, truW, truD, b1W, binW, binD, asg_v, lenW, srcW, rcv1, tyOf, Fr.pur, ofP, m1W, int?, slW, slD, isiW, isTy, kindOk, isD, isW, inStr, nod_ones, T_beq, nod_strs, dep_strs, b2W, eq_nil])
    have hp : fullP [u] = dStr u := by
      have : allP [u] = true := by simp [noneW, allD, eqAll, nodAll, depAll, varW, idxW, seqW, cmpW, cmpP, vw, cmpD, eqOk, nod, dep, eqD, truW, truD, b1W, binW, binD, asg_v, lenW, srcW, rcv1, tyOf, Fr.pur, ofP, m1W, int?, slW, slD, isiW, isTy, kindOk, isD, isW, inStr, nod_ones, T_beq, nod_strs, dep_strs, b2W, eq_nil, allP, oneP_self]
      simp [noneW, allD, eqAll, nodAll, depAll, varW, idxW, seqW, cmpW, cmpP, vw, cmpD, eqOk, nod, dep, eqD, truW, truD, b1W, binW, binD, asg_v, lenW, srcW, rcv1, tyOf, Fr.pur, ofP, m1W, int?, slW, slD, isiW, isTy, kindOk, isD, isW, inStr, nod_ones, T_beq, nod_strs, dep_strs, b2W, eq_nil, fullP, this, minT]
    rw [hp] at f1
    have f2 := may_ok (st := st1) (j := 20) du (chg_up.dn du)
    rw [oneP_self (t := u) (u := u.map upper1) chg_up.words] at f2
    have f3 := words_of_ok (st := st1) (j := 21) (chg_up.dn du)
    have f4 := words_of_ok (st := st1) (j := 21) (chg_lo.dn du)
    rw [chg_up.words] at f3
    rw [chg_lo.words] at f4
    have u1 := upper_ok du.g.a (show u.length ≤ 1000 by have := du.g.l; omega)
    have u2 := lower_ok du.g.a (show u.length ≤ 1000 by have := du.g.l; omega)
    have f1' : callD EP R0 24 "fullest" [.d (.list [dStr u])] st1 = .ok (.d (dStr u)) st1 := f1
    have e1 : eqAll ((wordsP u).map dStr) ((wordsP u).map dStr) = true := by simp [noneW, allD, eqAll, nodAll, depAll, varW, idxW, seqW, cmpW, cmpP, vw, cmpD, eqOk, nod, dep, eqD, truW, truD, b1W, binW, binD, asg_v, lenW, srcW, rcv1, tyOf, Fr.pur, ofP, m1W, int?, slW, slD, isiW, isTy, kindOk, isD, isW, inStr, nod_ones, T_beq, nod_strs, dep_strs, b2W, eq_nil, eq_strs]
    simp [noneW, allD, eqAll, nodAll, depAll, varW, idxW, seqW, cmpW, cmpP, vw, cmpD, eqOk, nod, dep, eqD, truW, truD, b1W, binW, binD, asg_v, lenW, srcW, rcv1, tyOf, Fr.pur, ofP, m1W, int?, slW, slD, isiW, isTy, kindOk, isD, isW, inStr, nod_ones, T_beq, nod_strs, dep_strs, b2W, eq_nil, evS, evC, evE, evEs, evF, evSs, hSZ, f1', f2, f3, f4, u1, u2, e1]
  rintro ρ st ⟨rfl, rfl⟩
  apply seqS (N' := fun ρ st => ∃ x ∈ odds, ρ = [v0, some (.ref 0), some (.d (.list (ts.map dStr))), v3, v4, v5, some (.d (dStr u)), some (.d x), v8, none] ∧ Row ns [] st)
  · simp only [evS, evE, evEs, evF, okO_out, okR_bind]
    simp [noneW, allD, eqAll, nodAll, depAll, varW, idxW, seqW, cmpW, cmpP, vw, cmpD, eqOk, nod, dep, eqD, truW, truD, b1W, binW, binD, asg_v, lenW, srcW, rcv1, tyOf, Fr.pur, ofP, m1W, int?, slW, slD, isiW, isTy, kindOk, isD, isW, inStr, nod_ones, T_beq, nod_strs, dep_strs, b2W, eq_nil, hSZ]
    refine okR_imp (pick hT hP h (by simp [noneW, allD, eqAll, nodAll, depAll, varW, idxW, seqW, cmpW, cmpP, vw, cmpD, eqOk, nod, dep, eqD, truW, truD, b1W, binW, binD, asg_v, lenW, srcW, rcv1, tyOf, Fr.pur, ofP, m1W, int?, slW, slD, isiW, isTy, kindOk, isD, isW, inStr, nod_ones, T_beq, nod_strs, dep_strs, b2W, eq_nil]) (by simp [noneW, allD, eqAll, nodAll, depAll, varW, idxW, seqW, cmpW, cmpP, vw, cmpD, eqOk, nod, dep, eqD, truW, truD, b1W, binW, binD, asg_v, lenW, srcW, rcv1, tyOf, Fr.pur, ofP, m1W, int?, slW, slD, isiW, isTy, kindOk, isD, isW, inStr, nod_ones, T_beq, nod_strs, dep_strs, b2W, eq_nil])) fun w st' ⟨⟨x, hx, hw⟩, h⟩ => ?_
    subst hw
    refine ⟨x, ?_, rfl, h⟩
    simp only [odds]
    simpa [noneW, allD, eqAll, nodAll, depAll, varW, idxW, seqW, cmpW, cmpP, vw, cmpD, eqOk, nod, dep, eqD, truW, truD, b1W, binW, binD, asg_v, lenW, srcW, rcv1, tyOf, Fr.pur, ofP, m1W, int?, slW, slD, isiW, isTy, kindOk, isD, isW, inStr, nod_ones, T_beq, nod_strs, dep_strs, b2W, eq_nil] using hx
  clear h
  rintro ρ st1 ⟨x, hx, rfl, h⟩
  have hr := rep_odds hx
  apply seqS (N' := fun ρ st => ρ = [v0, some (.ref 0), some (.d (.list (ts.map dStr))), v3, v4, v5, some (.d (dStr u)), some (.d x), v8, none] ∧ st = st1)
  · have f := words_of_odd (st := st1) (j := 21) hx
    simp only [evS, evC, evE, evEs, okO_out, okR_bind]
    simp [noneW, allD, eqAll, nodAll, depAll, varW, idxW, seqW, cmpW, cmpP, vw, cmpD, eqOk, nod, dep, eqD, truW, truD, b1W, binW, binD, asg_v, lenW, srcW, rcv1, tyOf, Fr.pur, ofP, m1W, int?, slW, slD, isiW, isTy, kindOk, isD, isW, inStr, nod_ones, T_beq, nod_strs, dep_strs, b2W, eq_nil, hSZ, f, gR, exit_eff_exn, hW1, hr, evSs]
  rintro ρ st ⟨rfl, rfl⟩
  apply seqS (N' := fun ρ st' => ρ = [v0, some (.ref 0), some (.d (.list (ts.map dStr))), v3, v4, v5, some (.d (dStr u)), some (.d x), v8, none] ∧ st' = st)
  · have f := may_odd (st := st) (j := 20) du hx
    simp only [evS, evC, evE, evEs, okO_out, okR_bind]
    simp [noneW, allD, eqAll, nodAll, depAll, varW, idxW, seqW, cmpW, cmpP, vw, cmpD, eqOk, nod, dep, eqD, truW, truD, b1W, binW, binD, asg_v, lenW, srcW, rcv1, tyOf, Fr.pur, ofP, m1W, int?, slW, slD, isiW, isTy, kindOk, isD, isW, inStr, nod_ones, T_beq, nod_strs, dep_strs, b2W, eq_nil, hSZ, f, gR, exit_eff_exn, hW1, hr, evSs]
  rintro ρ st2 ⟨rfl, rfl⟩
  apply seqS (N' := fun ρ st' => ρ = [v0, some (.ref 0), some (.d (.list (ts.map dStr))), v3, v4, v5, some (.d (dStr u)), some (.d x), v8, none] ∧ st' = st2)
  · have f := may_odd2 (st := st2) (j := 20) (y := .none) hx
    simp only [evS, evC, evE, evEs, okO_out, okR_bind]
    simp [noneW, allD, eqAll, nodAll, depAll, varW, idxW, seqW, cmpW, cmpP, vw, cmpD, eqOk, nod, dep, eqD, truW, truD, b1W, binW, binD, asg_v, lenW, srcW, rcv1, tyOf, Fr.pur, ofP, m1W, int?, slW, slD, isiW, isTy, kindOk, isD, isW, inStr, nod_ones, T_beq, nod_strs, dep_strs, b2W, eq_nil, hSZ, f, gR, exit_eff_exn, hW1, hr, evSs]
  rintro ρ st3 ⟨rfl, rfl⟩
  apply seqS (N' := fun ρ st' => ρ = [v0, some (.ref 0), some (.d (.list (ts.map dStr))), v3, v4, v5, some (.d (dStr u)), some (.d x), v8, none] ∧ st' = st3)
  · have f := fullest_odd (st := st3) (j := 21) hd (by omega) (by omega) hx
    simp only [evS, evC, evE, evEs, evF, okO_out, okR_bind]
    simp [noneW, allD, eqAll, nodAll, depAll, varW, idxW, seqW, cmpW, cmpP, vw, cmpD, eqOk, nod, dep, eqD, truW, truD, b1W, binW, binD, asg_v, lenW, srcW, rcv1, tyOf, Fr.pur, ofP, m1W, int?, slW, slD, isiW, isTy, kindOk, isD, isW, inStr, nod_ones, T_beq, nod_strs, dep_strs, b2W, eq_nil, hSZ, f, gR, exit_eff_exn, hN1, evSs, show ts.length + 1 ≤ 16777216 by omega]
  rintro ρ st4 ⟨rfl, rfl⟩
  have hpk : ∃ x ∈ badRows, ∃ st', callD EP R0 24 "_law_pick" [.ref 0, .d (.list badRows)] st4 = .ok (.d x) st' ∧ Row ns [] st' := by
    obtain ⟨w, st', e, ⟨y, hy, rfl⟩, hr⟩ := okR_ex (pick hT hP (xs := badRows) (j := 22) h (by simp [noneW, allD, eqAll, nodAll, depAll, varW, idxW, seqW, cmpW, cmpP, vw, cmpD, eqOk, nod, dep, eqD, truW, truD, b1W, binW, binD, asg_v, lenW, srcW, rcv1, tyOf, Fr.pur, ofP, m1W, int?, slW, slD, isiW, isTy, kindOk, isD, isW, inStr, nod_ones, T_beq, nod_strs, dep_strs, b2W, eq_nil, badRows]) (by simp [noneW, allD, eqAll, nodAll, depAll, varW, idxW, seqW, cmpW, cmpP, vw, cmpD, eqOk, nod, dep, eqD, truW, truD, b1W, binW, binD, asg_v, lenW, srcW, rcv1, tyOf, Fr.pur, ofP, m1W, int?, slW, slD, isiW, isTy, kindOk, isD, isW, inStr, nod_ones, T_beq, nod_strs, dep_strs, b2W, eq_nil, badRows]))
    exact ⟨y, hy, st', e, hr⟩
  obtain ⟨y, hy, st5, e5, h5⟩ := hpk
  have f := fullest_bad (st := st5) (j := 22) hy
  have hl : evE EP R0 (callD EP R0 24) (.pur (.lst (.cons (.none) (.cons (.pur (.lst (.nil))) (.cons (.bin .mul (.pur (.lst (.cons (.str [97]) (.nil)))) (.int 13)) (.cons (.int 5) (.nil))))))) [v0, some (.ref 0), some (.d (.list (ts.map dStr))), v3, v4, v5, some (.d (dStr u)), some (.d x), v8, none] st4 = .ok (.d (.list badRows)) st4 := by
    simp [noneW, allD, eqAll, nodAll, depAll, varW, idxW, seqW, cmpW, cmpP, vw, cmpD, eqOk, nod, dep, eqD, truW, truD, b1W, binW, binD, asg_v, lenW, srcW, rcv1, tyOf, Fr.pur, ofP, m1W, int?, slW, slD, isiW, isTy, kindOk, isD, isW, inStr, nod_ones, T_beq, nod_strs, dep_strs, b2W, eq_nil, evE, evF, evEs, hSZ, badRows]
  generalize hL : FM.E.pur (.lst (.cons (.none) (.cons (.pur (.lst (.nil))) (.cons (.bin .mul (.pur (.lst (.cons (.str [97]) (.nil)))) (.int 13)) (.cons (.int 5) (.nil)))))) = L at hl
  generalize hρ : ([v0, some (.ref 0), some (.d (.list (ts.map dStr))), v3, v4, v5, some (.d (dStr u)), some (.d x), v8, none] : FM.Env) = ρ at hl
  have k0 : varW ρ 1 = some (.ref 0) := by subst hρ; rfl
  have kp : evE EP R0 (callD EP R0 24) (.call "fullest" (.cons (.call "_law_pick" (.cons (.var 1) (.cons L (.nil)))) (.nil))) ρ st4 = .exn (bad1 "BadNames" (.int (-1))) st5 := by
    simp only [evE, evEs, k0, Res.of_some, Res.bind_ok, hl, e5, f]
  generalize FM.E.call "fullest" (.cons (.call "_law_pick" (.cons (.var 1) (.cons L (.nil)))) (.nil)) = eP at kp
  have kq : evE EP R0 (callD EP R0 24) (.refused "_law_refused" eP) ρ st4 = .ok (.d (.tuple [dStr [110, 97, 109, 101, 115], .int (-1)])) st5 := by
    simp only [evE, kp, gR, row_exn h h5, hN1, Res.of_some]
  generalize FM.E.refused "_law_refused" eP = eQ at kq
  simp only [evSs, evS, evE, evEs, kq, Res.bind_ok, Res.of_some]
  simp [noneW, allD, eqAll, nodAll, depAll, varW, idxW, seqW, cmpW, cmpP, vw, cmpD, eqOk, nod, dep, eqD, truW, truD, b1W, binW, binD, asg_v, lenW, srcW, rcv1, tyOf, Fr.pur, ofP, m1W, int?, slW, slD, isiW, isTy, kindOk, isD, isW, inStr, nod_ones, T_beq, nod_strs, dep_strs, b2W, eq_nil, hSZ, Fin]
end HT
end

section
set_option Elab.async false
set_option linter.all false
set_option maxRecDepth 100000
set_option maxHeartbeats 0
namespace HT
open PySem PySem.Spec PyProof.Rows L2 FM
abbrev prog : Program := PySem.Challenge.pw_folkmeld_k19_whole_written_names
def top (i : Nat) : Stmt := prog.main.body.getD i (.Pass ⟨0, 0, 0, 0⟩)

def d0 : He.DefD := ⟨("is_row", none), "is_row", "is_row", defArgs (top 1), defBody (top 1), defScope (top 1), [], []⟩
def d1 : He.DefD := ⟨("FolkError", some "__init__"), "__init__", "FolkError.__init__", defArgs (inClass (top 3) 0), defBody (inClass (top 3) 0), defScope (inClass (top 3) 0), [.non], []⟩
def d2 : He.DefD := ⟨("rows_of", none), "rows_of", "rows_of", defArgs (top 10), defBody (top 10), defScope (top 10), [], []⟩
def d3 : He.DefD := ⟨("is_written", none), "is_written", "is_written", defArgs (top 11), defBody (top 11), defScope (top 11), [], []⟩
def d4 : He.DefD := ⟨("told_words", none), "told_words", "told_words", defArgs (top 12), defBody (top 12), defScope (top 12), [], []⟩
def d5 : He.DefD := ⟨("words_of", none), "words_of", "words_of", defArgs (top 13), defBody (top 13), defScope (top 13), [], []⟩
def d6 : He.DefD := ⟨("are_pair", none), "are_pair", "are_pair", defArgs (top 14), defBody (top 14), defScope (top 14), [], []⟩
def d7 : He.DefD := ⟨("fits_in", none), "fits_in", "fits_in", defArgs (top 15), defBody (top 15), defScope (top 15), [], []⟩
def d8 : He.DefD := ⟨("told_one", none), "told_one", "told_one", defArgs (top 16), defBody (top 16), defScope (top 16), [], []⟩
def d9 : He.DefD := ⟨("may_be_one", none), "may_be_one", "may_be_one", defArgs (top 17), defBody (top 17), defScope (top 17), [], []⟩
def d10 : He.DefD := ⟨("fullest", none), "fullest", "fullest", defArgs (top 18), defBody (top 18), defScope (top 18), [], []⟩
def d11 : He.DefD := ⟨("_law_taken", none), "_law_taken", "_law_taken", defArgs (top 20), defBody (top 20), defScope (top 20), [], []⟩
def d12 : He.DefD := ⟨("_law_pick", none), "_law_pick", "_law_pick", defArgs (top 21), defBody (top 21), defScope (top 21), [], []⟩
def d13 : He.DefD := ⟨("_law_alike", none), "_law_alike", "_law_alike", defArgs (top 22), defBody (top 22), defScope (top 22), [], []⟩
def d14 : He.DefD := ⟨("_law_unlike", none), "_law_unlike", "_law_unlike", defArgs (top 23), defBody (top 23), defScope (top 23), [], []⟩
def d15 : He.DefD := ⟨("_law_words", none), "_law_words", "_law_words", defArgs (top 24), defBody (top 24), defScope (top 24), [], []⟩
def d16 : He.DefD := ⟨("_law_pair", none), "_law_pair", "_law_pair", defArgs (top 25), defBody (top 25), defScope (top 25), [], []⟩
def d17 : He.DefD := ⟨("_law_ways", none), "_law_ways", "_law_ways", defArgs (top 26), defBody (top 26), defScope (top 26), [], []⟩
def d18 : He.DefD := ⟨("_law_one", none), "_law_one", "_law_one", defArgs (top 27), defBody (top 27), defScope (top 27), [], []⟩
def d19 : He.DefD := ⟨("_law_written", none), "_law_written", "_law_written", defArgs (top 28), defBody (top 28), defScope (top 28), [], []⟩
def d20 : He.DefD := ⟨("_law_refused", none), "_law_refused", "_law_refused", defArgs (top 29), defBody (top 29), defScope (top 29), [], []⟩
def d21 : He.DefD := ⟨("law", none), "law", "law", defArgs (top 30), defBody (top 30), defScope (top 30), [], []⟩
def fn : List He.DefD := [d0, d1, d2, d3, d4, d5, d6, d7, d8, d9, d10, d11, d12, d13, d14, d15, d16, d17, d18, d19, d20, d21]
def names : List PySem.Str := (["is_row", "FolkError", "BadWritten", "BadNames", "LETTERS", "MOST_SIGNS", "MOST_NAMES", "rows_of", "is_written", "told_words", "words_of", "are_pair", "fits_in", "told_one", "may_be_one", "fullest", "_law_taken", "_law_pick", "_law_alike", "_law_unlike"] : List PySem.Str) ++ (["_law_words", "_law_pair", "_law_ways", "_law_one", "_law_written", "_law_refused"] : List PySem.Str)

section
variable {G : Gd} {P : Program} {w : World} {K : PySem.W.Frag} {mg : Str → Option Value} {base : Heap} {Φ : FM.Call} {k : Nat} {A : Around} {outer : List PySem.Env} {s : Shared} {H : Hp} {E : XK} {cdv : Value} {fA : Addr}
theorem deris_row (C : Cxt G (cxOf (L2.CX P w) P w K mg base ["thing"] "is_row" (defScope (top 1)) fA cdv A outer s H E) EP Φ k tb ci cs ex)
    : FSs G (cxOf (L2.CX P w) P w K mg base ["thing"] "is_row" (defScope (top 1)) fA cdv A outer s H E) (wE E) EP R0 Φ (defBody (top 1)) bis_row := by
  have tk : Takes (cxOf (L2.CX P w) P w K mg base ["thing"] "is_row" (defScope (top 1)) fA cdv A outer s H E) (wE E) := takes_of rfl rfl rfl rfl
  exact fss_cons (fs_ret (xe_isi2 C.B (fe_var) (ty_list C.B) (ty_tuple C.B))) (fss_nil)
theorem scis_row : FnScope ["thing"] ["thing"] (defScope (top 1)) := ⟨rfl, rfl, rfl, by decide +kernel, rfl, by decide +kernel, by decide +kernel⟩
theorem derrows_of (C : Cxt G (cxOf (L2.CX P w) P w K mg base ["text", "signs", "found", "row", "sign"] "rows_of" (defScope (top 10)) fA cdv A outer s H E) EP Φ k tb ci cs ex)
    : FSs G (cxOf (L2.CX P w) P w K mg base ["text", "signs", "found", "row", "sign"] "rows_of" (defScope (top 10)) fA cdv A outer s H E) (wE E) EP R0 Φ (defBody (top 10)) brows_of := by
  have tk : Takes (cxOf (L2.CX P w) P w K mg base ["text", "signs", "found", "row", "sign"] "rows_of" (defScope (top 10)) fA cdv A outer s H E) (wE E) := takes_of rfl rfl rfl rfl
  exact fss_cons (fs_set (fe_new (ff_lst (fl_nil))) (fg_v C.nd)) (fss_cons (fs_set (fe_str) (fg_v C.nd)) (fss_cons (fs_for (k := 0) (passes_of rfl) C.hc (fi_e (fe_pur (ff_lst (fl_star C.hc (fe_lower (fe_var)) (fl_cons (fe_str) (fl_nil)))))) (fg_v C.nd) (fss_cons (fs_if (fc_cmp (op := .isin) C.hu (fe_var) (fe_var)) (fss_cons (fs_aug (op := .add) C.nd (fe_var)) (fss_nil)) (fss_cons (fs_if (fc_cmp (op := .ne) C.hu (fe_var) (fe_str)) (fss_cons (fs_ex (fe_append (fe_var) (fe_var))) (fss_nil)) (fss_nil)) (fss_cons (fs_set (fe_str) (fg_v C.nd)) (fss_nil)))) (fss_nil))) (fss_cons (fs_ret (fe_var)) (fss_nil))))
theorem scrows_of : FnScope ["text", "signs", "found", "row", "sign"] ["text", "signs"] (defScope (top 10)) := ⟨rfl, rfl, rfl, by decide +kernel, rfl, by decide +kernel, by decide +kernel⟩
theorem deris_written (C : Cxt G (cxOf (L2.CX P w) P w K mg base ["thing", "sign"] "is_written" (defScope (top 11)) fA cdv A outer s H E) EP Φ k tb ci cs ex)
    : FSs G (cxOf (L2.CX P w) P w K mg base ["thing", "sign"] "is_written" (defScope (top 11)) fA cdv A outer s H E) (wE E) EP R0 Φ (defBody (top 11)) bis_written := by
  have tk : Takes (cxOf (L2.CX P w) P w K mg base ["thing", "sign"] "is_written" (defScope (top 11)) fA cdv A outer s H E) (wE E) := takes_of rfl rfl rfl rfl
  exact fss_cons (fs_if (fc_w (fw_or (fc_not (fc_val (xe_isi1 C.B (fe_var) (ty_str C.B)))) (fw_or1 (fc_not (fc_chain (o1 := .le) (o2 := .le) C.hu (fe_int) (xe_len C.B (fe_var)) (fe_gi (i := 0) C rfl rfl)))))) (fss_cons (fs_ret (fe_bl)) (fss_nil)) (fss_nil)) (fss_cons (fs_ret (fe_and (xe_all C.B C.hc (fe_pur (ff_lc C.hc C.nd (fi_e (fe_var)) (own := [("sign", 1)]) (blkOk_by (by kernel_rfl)) (by decide) (fun _ _ _ _ _ => fg_v C.blk.nd) (fun _ _ _ _ _ => fp_no) (fun _ _ _ _ _ => fe_chain (o1 := .le) (o2 := .le) C.blk.hu (fe_str) (fe_var) (fe_str))))) (fe_one (fe_cmp (op := .ne) C.hu (xe_call 1 C tk (fl_cons (fe_var) (fl_cons (fe_gs (i := 0) C rfl rfl) (fl_nil)))) (fe_pur (ff_lst (fl_nil))))))) (fss_nil))
theorem scis_written : FnScope ["thing", "sign"] ["thing"] (defScope (top 11)) := ⟨rfl, rfl, rfl, by decide +kernel, rfl, by decide +kernel, by decide +kernel⟩
theorem dertold_words (C : Cxt G (cxOf (L2.CX P w) P w K mg base ["name", "parts"] "told_words" (defScope (top 12)) fA cdv A outer s H E) EP Φ k tb ci cs ex)
    : FSs G (cxOf (L2.CX P w) P w K mg base ["name", "parts"] "told_words" (defScope (top 12)) fA cdv A outer s H E) (wE E) EP R0 Φ (defBody (top 12)) btold_words := by
  have tk : Takes (cxOf (L2.CX P w) P w K mg base ["name", "parts"] "told_words" (defScope (top 12)) fA cdv A outer s H E) (wE E) := takes_of rfl rfl rfl rfl
  exact fss_cons (fs_set (fe_split (fe_var) (fe_str)) (fg_v C.nd)) (fss_cons (fs_if (fc_cmp (op := .eq) C.hu (xe_len C.B (fe_var)) (fe_int)) (fss_cons (fs_ret (fe_tup (fl_star C.hc (xe_call 1 C tk (fl_cons (fe_idx (fe_var) (fe_int)) (fl_cons (fe_gs (i := 0) C rfl rfl) (fl_nil)))) (fl_star C.hc (xe_call 1 C tk (fl_cons (fe_idx (fe_var) (fe_int)) (fl_cons (fe_gs (i := 0) C rfl rfl) (fl_nil)))) (fl_nil))))) (fss_nil)) (fss_nil)) (fss_cons (fs_ret (xe_tuple C.B (xe_call 1 C tk (fl_cons (fe_var) (fl_cons (fe_gs (i := 0) C rfl rfl) (fl_nil)))))) (fss_nil)))
theorem sctold_words : FnScope ["name", "parts"] ["name"] (defScope (top 12)) := ⟨rfl, rfl, rfl, by decide +kernel, rfl, by decide +kernel, by decide +kernel⟩
theorem derwords_of (C : Cxt G (cxOf (L2.CX P w) P w K mg base ["name"] "words_of" (defScope (top 13)) fA cdv A outer s H E) EP Φ k tb ci cs ex)
    : FSs G (cxOf (L2.CX P w) P w K mg base ["name"] "words_of" (defScope (top 13)) fA cdv A outer s H E) (wE E) EP R0 Φ (defBody (top 13)) bwords_of := by
  have tk : Takes (cxOf (L2.CX P w) P w K mg base ["name"] "words_of" (defScope (top 13)) fA cdv A outer s H E) (wE E) := takes_of rfl rfl rfl rfl
  exact fss_cons (fs_if (fc_not (fc_val (xe_call 2 C tk (fl_cons (fe_var) (fl_nil))))) (fss_cons (xs_raise 0 C tk (fe_var)) (fss_nil)) (fss_nil)) (fss_cons (fs_ret (xe_call 3 C tk (fl_cons (fe_var) (fl_nil)))) (fss_nil))
theorem scwords_of : FnScope ["name"] ["name"] (defScope (top 13)) := ⟨rfl, rfl, rfl, by decide +kernel, rfl, by decide +kernel, by decide +kernel⟩
theorem derare_pair (C : Cxt G (cxOf (L2.CX P w) P w K mg base ["one", "other"] "are_pair" (defScope (top 14)) fA cdv A outer s H E) EP Φ k tb ci cs ex)
    : FSs G (cxOf (L2.CX P w) P w K mg base ["one", "other"] "are_pair" (defScope (top 14)) fA cdv A outer s H E) (wE E) EP R0 Φ (defBody (top 14)) bare_pair := by
  have tk : Takes (cxOf (L2.CX P w) P w K mg base ["one", "other"] "are_pair" (defScope (top 14)) fA cdv A outer s H E) (wE E) := takes_of rfl rfl rfl rfl
  exact fss_cons (fs_if (fc_cmp (op := .eq) C.hu (fe_var) (fe_var)) (fss_cons (fs_ret (fe_bl)) (fss_nil)) (fss_nil)) (fss_cons (fs_ret (fe_and (fe_cmp (op := .eq) C.hu (xe_min2 C.B C.hc (xe_len C.B (fe_var)) (xe_len C.B (fe_var))) (fe_int)) (fe_one (fe_cmp (op := .eq) C.hu (fe_idx (fe_var) (fe_int)) (fe_idx (fe_var) (fe_int)))))) (fss_nil))
theorem scare_pair : FnScope ["one", "other"] ["one", "other"] (defScope (top 14)) := ⟨rfl, rfl, rfl, by decide +kernel, rfl, by decide +kernel, by decide +kernel⟩
theorem derfits_in (C : Cxt G (cxOf (L2.CX P w) P w K mg base ["short", "long", "place", "word"] "fits_in" (defScope (top 15)) fA cdv A outer s H E) EP Φ k tb ci cs ex)
    : FSs G (cxOf (L2.CX P w) P w K mg base ["short", "long", "place", "word"] "fits_in" (defScope (top 15)) fA cdv A outer s H E) (wE E) EP R0 Φ (defBody (top 15)) bfits_in := by
  have tk : Takes (cxOf (L2.CX P w) P w K mg base ["short", "long", "place", "word"] "fits_in" (defScope (top 15)) fA cdv A outer s H E) (wE E) := takes_of rfl rfl rfl rfl
  exact fss_cons (fs_set (fe_int) (fg_v C.nd)) (fss_cons (fs_for (k := 0) (passes_of rfl) C.hc (fi_e (fe_var)) (fg_v C.nd) (fss_cons (fs_if (fc_w (fw_and (fc_cmp (op := .lt) C.hu (fe_var) (xe_len C.B (fe_var))) (fw_and1 (fc_val (xe_call 5 C tk (fl_cons (fe_idx (fe_var) (fe_var)) (fl_cons (fe_var) (fl_nil)))))))) (fss_cons (fs_aug (op := .add) C.nd (fe_int)) (fss_nil)) (fss_nil)) (fss_nil))) (fss_cons (fs_ret (fe_cmp (op := .eq) C.hu (fe_var) (xe_len C.B (fe_var)))) (fss_nil)))
theorem scfits_in : FnScope ["short", "long", "place", "word"] ["short", "long"] (defScope (top 15)) := ⟨rfl, rfl, rfl, by decide +kernel, rfl, by decide +kernel, by decide +kernel⟩
theorem dertold_one (C : Cxt G (cxOf (L2.CX P w) P w K mg base ["name", "other", "first", "second"] "told_one" (defScope (top 16)) fA cdv A outer s H E) EP Φ k tb ci cs ex)
    : FSs G (cxOf (L2.CX P w) P w K mg base ["name", "other", "first", "second"] "told_one" (defScope (top 16)) fA cdv A outer s H E) (wE E) EP R0 Φ (defBody (top 16)) btold_one := by
  have tk : Takes (cxOf (L2.CX P w) P w K mg base ["name", "other", "first", "second"] "told_one" (defScope (top 16)) fA cdv A outer s H E) (wE E) := takes_of rfl rfl rfl rfl
  exact fss_cons (fs_set (xe_call 3 C tk (fl_cons (fe_var) (fl_nil))) (fg_v C.nd)) (fss_cons (fs_set (xe_call 3 C tk (fl_cons (fe_var) (fl_nil))) (fg_v C.nd)) (fss_cons (fs_if (fc_cmp (op := .ne) C.hu (fe_idx (fe_var) (fe_neg (fe_int))) (fe_idx (fe_var) (fe_neg (fe_int)))) (fss_cons (fs_ret (fe_bl)) (fss_nil)) (fss_nil)) (fss_cons (fs_if (fc_cmp (op := .gt) C.hu (xe_len C.B (fe_var)) (xe_len C.B (fe_var))) (fss_cons (fs_par C.hc C.nd (fe_var) (fe_var)) (fss_nil)) (fss_nil)) (fss_cons (fs_ret (xe_call 6 C tk (fl_cons (fe_sl (fe_var) (fo_no) (fo_e (fe_neg (fe_int)))) (fl_cons (fe_sl (fe_var) (fo_no) (fo_e (fe_neg (fe_int)))) (fl_nil))))) (fss_nil)))))
theorem sctold_one : FnScope ["name", "other", "first", "second"] ["name", "other"] (defScope (top 16)) := ⟨rfl, rfl, rfl, by decide +kernel, rfl, by decide +kernel, by decide +kernel⟩
theorem dermay_be_one (C : Cxt G (cxOf (L2.CX P w) P w K mg base ["name", "other", "one"] "may_be_one" (defScope (top 17)) fA cdv A outer s H E) EP Φ k tb ci cs ex)
    : FSs G (cxOf (L2.CX P w) P w K mg base ["name", "other", "one"] "may_be_one" (defScope (top 17)) fA cdv A outer s H E) (wE E) EP R0 Φ (defBody (top 17)) bmay_be_one := by
  have tk : Takes (cxOf (L2.CX P w) P w K mg base ["name", "other", "one"] "may_be_one" (defScope (top 17)) fA cdv A outer s H E) (wE E) := takes_of rfl rfl rfl rfl
  exact fss_cons (fs_for (k := 0) (passes_of rfl) C.hc (fi_e (fe_tup (fl_cons (fe_var) (fl_cons (fe_var) (fl_nil))))) (fg_v C.nd) (fss_cons (fs_if (fc_not (fc_val (xe_call 2 C tk (fl_cons (fe_var) (fl_nil))))) (fss_cons (xs_raise 0 C tk (fe_var)) (fss_nil)) (fss_nil)) (fss_nil))) (fss_cons (fs_ret (xe_call 7 C tk (fl_cons (fe_var) (fl_cons (fe_var) (fl_nil))))) (fss_nil))
theorem scmay_be_one : FnScope ["name", "other", "one"] ["name", "other"] (defScope (top 17)) := ⟨rfl, rfl, rfl, by decide +kernel, rfl, by decide +kernel, by decide +kernel⟩
theorem derfullest (C : Cxt G (cxOf (L2.CX P w) P w K mg base ["names", "name", "rows", "index", "other", "word"] "fullest" (defScope (top 18)) fA cdv A outer s H E) EP Φ k tb ci cs ex)
    : FSs G (cxOf (L2.CX P w) P w K mg base ["names", "name", "rows", "index", "other", "word"] "fullest" (defScope (top 18)) fA cdv A outer s H E) (wE E) EP R0 Φ (defBody (top 18)) bfullest := by
  have tk : Takes (cxOf (L2.CX P w) P w K mg base ["names", "name", "rows", "index", "other", "word"] "fullest" (defScope (top 18)) fA cdv A outer s H E) (wE E) := takes_of rfl rfl rfl rfl
  exact fss_cons (fs_if (fc_w (fw_or (fc_not (fc_val (xe_call 0 C tk (fl_cons (fe_var) (fl_nil))))) (fw_or1 (fc_not (fc_chain (o1 := .le) (o2 := .le) C.hu (fe_int) (xe_len C.B (fe_var)) (fe_gi (i := 1) C rfl rfl)))))) (fss_cons (xs_raise 1 C tk (fe_neg (fe_int))) (fss_nil)) (fss_nil)) (fss_cons (fs_for (k := 0) (passes_of rfl) C.hc (xi_enum C.B (fe_var)) (fg_t C.hc (fgs_cons (fg_v C.nd) (fgs_cons (fg_v C.nd) (fgs_nil)))) (fss_cons (fs_if (fc_not (fc_val (xe_call 2 C tk (fl_cons (fe_var) (fl_nil))))) (fss_cons (xs_raise 1 C tk (fe_var)) (fss_nil)) (fss_nil)) (fss_nil))) (fss_cons (fs_for (k := 0) (passes_of rfl) C.hc (fi_e (fe_var)) (fg_v C.nd) (fss_cons (fs_if (fc_not (fc_val (xe_all C.B C.hc (fe_pur (ff_lc C.hc C.nd (fi_e (fe_var)) (own := [("other", 4)]) (blkOk_by (by kernel_rfl)) (by decide) (fun _ _ _ _ _ => fg_v C.blk.nd) (fun _ _ _ _ _ => fp_no) (fun _ _ _ _ _ => xe_call 7 C.blk takes_none5 (fl_cons (fe_var) (fl_cons (fe_var) (fl_nil))))))))) (fss_cons (fs_ret (fe_none)) (fss_nil)) (fss_nil)) (fss_nil))) (fss_cons (fs_setLcP C.hc C.nd (fi_e (fe_var)) (own := [("name", 1)]) (blkOk_by (by kernel_rfl)) (by decide) (fun _ _ _ _ _ => fg_v C.blk.nd) (fun _ _ _ _ _ => fp_no) (fun _ _ _ _ _ => fe_tup (fl_cons (fe_neg (xe_len C.blk.B (xe_call 3 C.blk takes_none5 (fl_cons (fe_var) (fl_nil))))) (fl_cons (fe_neg (xe_sum C.blk.B C.blk.hc (fe_pur (ff_lc C.blk.hc C.blk.nd (fi_e (xe_call 3 C.blk takes_none5 (fl_cons (fe_var) (fl_nil)))) (own := [("word", 5)]) (blkOk_by (by kernel_rfl)) (by decide) (fun _ _ _ _ _ => fg_v C.blk.blk.nd) (fun _ _ _ _ _ => fp_no) (fun _ _ _ _ _ => xe_len C.blk.blk.B (fe_var)))))) (fl_cons (fe_var) (fl_nil)))))) (fss_cons (fs_ret (fe_idx (xe_min C.B C.hc C.hu (fe_var)) (fe_int))) (fss_nil)))))
theorem scfullest : FnScope ["names", "name", "rows", "index", "other", "word"] ["names"] (defScope (top 18)) := ⟨rfl, rfl, rfl, by decide +kernel, rfl, by decide +kernel, by decide +kernel⟩
theorem der_law_taken (C : Cxt G (cxOf (L2.CX P w) P w K mg base ["row", "many", "cell", "found"] "_law_taken" (defScope (top 20)) fA cdv A outer s H E) EP Φ k tb ci cs ex)
    : FSs G (cxOf (L2.CX P w) P w K mg base ["row", "many", "cell", "found"] "_law_taken" (defScope (top 20)) fA cdv A outer s H E) (wE E) EP R0 Φ (defBody (top 20)) b_law_taken := by
  have tk : Takes (cxOf (L2.CX P w) P w K mg base ["row", "many", "cell", "found"] "_law_taken" (defScope (top 20)) fA cdv A outer s H E) (wE E) := takes_of rfl rfl rfl rfl
  exact fss_cons (fs_if (fc_cmp (op := .gt) C.hu (fe_idx (fe_var) (fe_int)) (fe_int)) (fss_cons (fs_set (fe_bin (op := .mod) C.hu (xe_int C.B (fe_idx (fe_var) (fe_int))) (fe_var)) (fg_v C.nd)) (fss_cons (fs_setIx (fe_bin (op := .fdiv) C.hu (fe_idx (fe_var) (fe_int)) (fe_var)) (fe_var) (fe_int)) (fss_cons (fs_ret (fe_var)) (fss_nil)))) (fss_nil)) (fss_cons (fs_setIx (fe_bin (op := .add) C.hu (fe_idx (fe_var) (fe_int)) (fe_int)) (fe_var) (fe_int)) (fss_cons (fs_if (fc_cmp (op := .gt) C.hu (fe_idx (fe_var) (fe_int)) (xe_len C.B (fe_idx (fe_var) (fe_int)))) (fss_cons (fs_setIx (fe_bin (op := .mod) C.hu (xe_int C.B (fe_bin (op := .add) C.hu (fe_bin (op := .mul) C.hu (fe_idx (fe_var) (fe_int)) (fe_int)) (fe_int))) (fe_int)) (fe_var) (fe_int)) (fss_cons (fs_ret (fe_bin (op := .mod) C.hu (xe_int C.B (fe_bin (op := .fdiv) C.hu (fe_idx (fe_var) (fe_int)) (fe_int))) (fe_var))) (fss_nil))) (fss_nil)) (fss_cons (fs_set (fe_idx (fe_idx (fe_var) (fe_int)) (fe_bin (op := .sub) C.hu (fe_idx (fe_var) (fe_int)) (fe_int))) (fg_v C.nd)) (fss_cons (fs_setIx (fe_bin (op := .mod) C.hu (xe_int C.B (fe_bin (op := .add) C.hu (fe_bin (op := .add) C.hu (fe_bin (op := .mul) C.hu (fe_idx (fe_var) (fe_int)) (fe_int)) (fe_var)) (fe_int))) (fe_int)) (fe_var) (fe_int)) (fss_cons (fs_if (fc_cmp (op := .ge) C.hu (fe_var) (fe_bin (op := .pow) C.hu (fe_int) (fe_int))) (fss_cons (fs_setIx (fe_bin (op := .fdiv) C.hu (fe_var) (fe_var)) (fe_var) (fe_int)) (fss_nil)) (fss_nil)) (fss_cons (fs_ret (fe_bin (op := .mod) C.hu (xe_int C.B (fe_var)) (fe_var))) (fss_nil)))))))
theorem sc_law_taken : FnScope ["row", "many", "cell", "found"] ["row", "many"] (defScope (top 20)) := ⟨rfl, rfl, rfl, by decide +kernel, rfl, by decide +kernel, by decide +kernel⟩
theorem der_law_pick (C : Cxt G (cxOf (L2.CX P w) P w K mg base ["row", "some"] "_law_pick" (defScope (top 21)) fA cdv A outer s H E) EP Φ k tb ci cs ex)
    : FSs G (cxOf (L2.CX P w) P w K mg base ["row", "some"] "_law_pick" (defScope (top 21)) fA cdv A outer s H E) (wE E) EP R0 Φ (defBody (top 21)) b_law_pick := by
  have tk : Takes (cxOf (L2.CX P w) P w K mg base ["row", "some"] "_law_pick" (defScope (top 21)) fA cdv A outer s H E) (wE E) := takes_of rfl rfl rfl rfl
  exact fss_cons (fs_ret (fe_idx (fe_var) (xe_call 10 C tk (fl_cons (fe_var) (fl_cons (xe_len C.B (fe_var)) (fl_nil)))))) (fss_nil)
theorem sc_law_pick : FnScope ["row", "some"] ["row", "some"] (defScope (top 21)) := ⟨rfl, rfl, rfl, by decide +kernel, rfl, by decide +kernel, by decide +kernel⟩
theorem der_law_alike (C : Cxt G (cxOf (L2.CX P w) P w K mg base ["found", "due", "k", "key"] "_law_alike" (defScope (top 22)) fA cdv A outer s H E) EP Φ k tb ci cs ex)
    : FSs G (cxOf (L2.CX P w) P w K mg base ["found", "due", "k", "key"] "_law_alike" (defScope (top 22)) fA cdv A outer s H E) (wE E) EP R0 Φ (defBody (top 22)) b_law_alike := by
  have tk : Takes (cxOf (L2.CX P w) P w K mg base ["found", "due", "k", "key"] "_law_alike" (defScope (top 22)) fA cdv A outer s H E) (wE E) := takes_of rfl rfl rfl rfl
  exact fss_cons (fs_if (fc_val (xe_isi2 C.B (fe_var) (ty_tuple C.B) (ty_list C.B))) (fss_cons (fs_if (fc_w (fw_or (fc_not (fc_val (xe_isi2 C.B (fe_var) (ty_tuple C.B) (ty_list C.B)))) (fw_or1 (fc_cmp (op := .ne) C.hu (xe_isi1 C.B (fe_var) (ty_list C.B)) (xe_isi1 C.B (fe_var) (ty_list C.B)))))) (fss_cons (fs_ret (fe_bl)) (fss_nil)) (fss_nil)) (fss_cons (fs_if (fc_cmp (op := .ne) C.hu (xe_len C.B (fe_var)) (xe_len C.B (fe_var))) (fss_cons (fs_ret (fe_bl)) (fss_nil)) (fss_nil)) (fss_cons (fs_ret (fe_cmp (op := .eq) C.hu (fe_pur (ff_lc C.hc C.nd (xi_rng1 C.B (xe_len C.B (fe_var))) (own := [("k", 2)]) (blkOk_by (by kernel_rfl)) (by decide) (fun _ _ _ _ _ => fg_v C.blk.nd) (fun _ _ _ _ _ => fp_c (fc_not (fc_val (xe_call 12 C.blk takes_none5 (fl_cons (fe_idx (fe_var) (fe_var)) (fl_cons (fe_idx (fe_var) (fe_var)) (fl_nil))))))) (fun _ _ _ _ _ => fe_var))) (fe_pur (ff_lst (fl_nil))))) (fss_nil)))) (fss_nil)) (fss_cons (fs_if (fc_val (xe_isi1 C.B (fe_var) (ty_dict C.B))) (fss_cons (fs_if (fc_w (fw_or (fc_not (fc_val (xe_isi1 C.B (fe_var) (ty_dict C.B)))) (fw_or1 (fc_cmp (op := .ne) C.hu (fe_pur (xf_list C.B C.hc (fe_var))) (fe_pur (xf_list C.B C.hc (fe_var))))))) (fss_cons (fs_ret (fe_bl)) (fss_nil)) (fss_nil)) (fss_cons (fs_ret (fe_cmp (op := .eq) C.hu (fe_pur (ff_lc C.hc C.nd (fi_e (fe_var)) (own := [("key", 3)]) (blkOk_by (by kernel_rfl)) (by decide) (fun _ _ _ _ _ => fg_v C.blk.nd) (fun _ _ _ _ _ => fp_c (fc_not (fc_val (xe_call 12 C.blk takes_none5 (fl_cons (fe_idx (fe_var) (fe_var)) (fl_cons (fe_idx (fe_var) (fe_var)) (fl_nil))))))) (fun _ _ _ _ _ => fe_var))) (fe_pur (ff_lst (fl_nil))))) (fss_nil))) (fss_nil)) (fss_cons (fs_if (fc_w (fw_or (fc_cmp (op := .is) C.hu (fe_var) (fe_none)) (fw_or1 (fc_val (xe_isi1 C.B (fe_var) (ty_str C.B)))))) (fss_cons (fs_ret (fe_and (fe_cmp (op := .eq) C.hu (fe_var) (fe_var)) (fe_one (fe_cmp (op := .eq) C.hu (xe_isi1 C.B (fe_var) (ty_str C.B)) (xe_isi1 C.B (fe_var) (ty_str C.B)))))) (fss_nil)) (fss_nil)) (fss_cons (fs_ret (fe_and (xe_isi1 C.B (fe_var) (ty_int C.B)) (fe_and (fe_cmp (op := .eq) C.hu (xe_isi1 C.B (fe_var) (ty_bool C.B)) (xe_isi1 C.B (fe_var) (ty_bool C.B))) (fe_one (fe_cmp (op := .eq) C.hu (fe_var) (fe_var)))))) (fss_nil))))
theorem sc_law_alike : FnScope ["found", "due", "k", "key"] ["found", "due"] (defScope (top 22)) := ⟨rfl, rfl, rfl, by decide +kernel, rfl, by decide +kernel, by decide +kernel⟩
theorem der_law_unlike (C : Cxt G (cxOf (L2.CX P w) P w K mg base ["things", "found", "one"] "_law_unlike" (defScope (top 23)) fA cdv A outer s H E) EP Φ k tb ci cs ex)
    : FSs G (cxOf (L2.CX P w) P w K mg base ["things", "found", "one"] "_law_unlike" (defScope (top 23)) fA cdv A outer s H E) (wE E) EP R0 Φ (defBody (top 23)) b_law_unlike := by
  have tk : Takes (cxOf (L2.CX P w) P w K mg base ["things", "found", "one"] "_law_unlike" (defScope (top 23)) fA cdv A outer s H E) (wE E) := takes_of rfl rfl rfl rfl
  exact fss_cons (fs_set (fe_new (ff_lst (fl_nil))) (fg_v C.nd)) (fss_cons (fs_for (k := 0) (passes_of rfl) C.hc (fi_e (fe_pur (xf_sorted C.B C.hu (fe_pur (xf_list C.B C.hc (fe_var)))))) (fg_v C.nd) (fss_cons (fs_if (fc_w (fw_or (fc_cmp (op := .eq) C.hu (fe_var) (fe_pur (ff_lst (fl_nil)))) (fw_or1 (fc_cmp (op := .ne) C.hu (fe_idx (fe_var) (fe_neg (fe_int))) (fe_var))))) (fss_cons (fs_ex (fe_append (fe_var) (fe_var))) (fss_nil)) (fss_nil)) (fss_nil))) (fss_cons (fs_ret (fe_var)) (fss_nil)))
theorem sc_law_unlike : FnScope ["things", "found", "one"] ["things"] (defScope (top 23)) := ⟨rfl, rfl, rfl, by decide +kernel, rfl, by decide +kernel, by decide +kernel⟩
theorem der_law_words (C : Cxt G (cxOf (L2.CX P w) P w K mg base ["name", "parts", "text", "sign", "words", "row"] "_law_words" (defScope (top 24)) fA cdv A outer s H E) EP Φ k tb ci cs ex)
    : FSs G (cxOf (L2.CX P w) P w K mg base ["name", "parts", "text", "sign", "words", "row"] "_law_words" (defScope (top 24)) fA cdv A outer s H E) (wE E) EP R0 Φ (defBody (top 24)) b_law_words := by
  have tk : Takes (cxOf (L2.CX P w) P w K mg base ["name", "parts", "text", "sign", "words", "row"] "_law_words" (defScope (top 24)) fA cdv A outer s H E) (wE E) := takes_of rfl rfl rfl rfl
  exact fss_cons (fs_set (fe_split (fe_lower (fe_var)) (fe_str)) (fg_v C.nd)) (fss_cons (fs_set (fe_ife (fc_cmp (op := .eq) C.hu (xe_len C.B (fe_var)) (fe_int)) (fe_bin (op := .add) C.hu (fe_bin (op := .add) C.hu (fe_idx (fe_var) (fe_int)) (fe_str)) (fe_idx (fe_var) (fe_int))) (fe_join (fe_str) (fe_var))) (fg_v C.nd)) (fss_cons (fs_par C.hc C.nd (fe_pur (ff_lst (fl_nil))) (fe_str)) (fss_cons (fs_for (k := 0) (passes_of rfl) C.hc (fi_e (fe_bin (op := .add) C.hu (fe_pur (xf_list C.B C.hc (fe_var))) (fe_pur (ff_lst (fl_cons (fe_str) (fl_nil)))))) (fg_v C.nd) (fss_cons (fs_if (fc_cmp (op := .isin) C.hu (fe_var) (fe_str)) (fss_cons (fs_set (fe_bin (op := .add) C.hu (fe_var) (fe_var)) (fg_v C.nd)) (fss_nil)) (fss_cons (fs_par C.hc C.nd (fe_bin (op := .add) C.hu (fe_var) (fe_ife (fc_cmp (op := .ne) C.hu (fe_var) (fe_str)) (fe_pur (ff_lst (fl_cons (fe_var) (fl_nil)))) (fe_pur (ff_lst (fl_nil))))) (fe_str)) (fss_nil))) (fss_nil))) (fss_cons (fs_ret (xe_tuple C.B (fe_var))) (fss_nil)))))
theorem sc_law_words : FnScope ["name", "parts", "text", "sign", "words", "row"] ["name"] (defScope (top 24)) := ⟨rfl, rfl, rfl, by decide +kernel, rfl, by decide +kernel, by decide +kernel⟩
theorem der_law_pair (C : Cxt G (cxOf (L2.CX P w) P w K mg base ["one", "other"] "_law_pair" (defScope (top 25)) fA cdv A outer s H E) EP Φ k tb ci cs ex)
    : FSs G (cxOf (L2.CX P w) P w K mg base ["one", "other"] "_law_pair" (defScope (top 25)) fA cdv A outer s H E) (wE E) EP R0 Φ (defBody (top 25)) b_law_pair := by
  have tk : Takes (cxOf (L2.CX P w) P w K mg base ["one", "other"] "_law_pair" (defScope (top 25)) fA cdv A outer s H E) (wE E) := takes_of rfl rfl rfl rfl
  exact fss_cons (fs_ret (fe_or (fe_cmp (op := .eq) C.hu (fe_var) (fe_var)) (fe_or (fe_and (fe_cmp (op := .eq) C.hu (xe_len C.B (fe_var)) (fe_int)) (fe_one (fe_cmp (op := .eq) C.hu (fe_idx (fe_var) (fe_int)) (fe_var)))) (fe_one (fe_and (fe_cmp (op := .eq) C.hu (xe_len C.B (fe_var)) (fe_int)) (fe_one (fe_cmp (op := .eq) C.hu (fe_idx (fe_var) (fe_int)) (fe_var)))))))) (fss_nil)
theorem sc_law_pair : FnScope ["one", "other"] ["one", "other"] (defScope (top 25)) := ⟨rfl, rfl, rfl, by decide +kernel, rfl, by decide +kernel, by decide +kernel⟩
theorem der_law_ways (C : Cxt G (cxOf (L2.CX P w) P w K mg base ["one", "other", "found", "a", "b"] "_law_ways" (defScope (top 26)) fA cdv A outer s H E) EP Φ k tb ci cs ex)
    : FSs G (cxOf (L2.CX P w) P w K mg base ["one", "other", "found", "a", "b"] "_law_ways" (defScope (top 26)) fA cdv A outer s H E) (wE E) EP R0 Φ (defBody (top 26)) b_law_ways := by
  have tk : Takes (cxOf (L2.CX P w) P w K mg base ["one", "other", "found", "a", "b"] "_law_ways" (defScope (top 26)) fA cdv A outer s H E) (wE E) := takes_of rfl rfl rfl rfl
  exact fss_cons (fs_if (fc_w (fw_or (fc_cmp (op := .eq) C.hu (fe_var) (fe_tup (fl_nil))) (fw_or1 (fc_cmp (op := .eq) C.hu (fe_var) (fe_tup (fl_nil)))))) (fss_cons (fs_ret (fe_pur (ff_lst (fl_cons (fe_tup (fl_cons (xe_len C.B (fe_var)) (fl_cons (xe_len C.B (fe_var)) (fl_nil)))) (fl_nil))))) (fss_nil)) (fss_nil)) (fss_cons (fs_set (fe_bin (op := .add) C.hu (fe_pur (ff_lc C.hc C.nd (fi_e (xe_call 16 C tk (fl_cons (fe_sl (fe_var) (fo_e (fe_int)) (fo_no)) (fl_cons (fe_var) (fl_nil))))) (own := [("a", 3), ("b", 4)]) (blkOk_by (by kernel_rfl)) (by decide) (fun _ _ _ _ _ => fg_t C.blk.hc (fgs_cons (fg_v C.blk.nd) (fgs_cons (fg_v C.blk.nd) (fgs_nil)))) (fun _ _ _ _ _ => fp_no) (fun _ _ _ _ _ => fe_tup (fl_cons (fe_bin (op := .add) C.blk.hu (fe_var) (fe_int)) (fl_cons (fe_var) (fl_nil)))))) (fe_pur (ff_lc C.hc C.nd (fi_e (xe_call 16 C tk (fl_cons (fe_var) (fl_cons (fe_sl (fe_var) (fo_e (fe_int)) (fo_no)) (fl_nil))))) (own := [("a", 3), ("b", 4)]) (blkOk_by (by kernel_rfl)) (by decide) (fun _ _ _ _ _ => fg_t C.blk.hc (fgs_cons (fg_v C.blk.nd) (fgs_cons (fg_v C.blk.nd) (fgs_nil)))) (fun _ _ _ _ _ => fp_no) (fun _ _ _ _ _ => fe_tup (fl_cons (fe_var) (fl_cons (fe_bin (op := .add) C.blk.hu (fe_var) (fe_int)) (fl_nil))))))) (fg_v C.nd)) (fss_cons (fs_ret (xe_call 13 C tk (fl_cons (fe_bin (op := .add) C.hu (fe_var) (fe_ife (fc_val (xe_call 15 C tk (fl_cons (fe_idx (fe_var) (fe_int)) (fl_cons (fe_idx (fe_var) (fe_int)) (fl_nil))))) (xe_call 16 C tk (fl_cons (fe_sl (fe_var) (fo_e (fe_int)) (fo_no)) (fl_cons (fe_sl (fe_var) (fo_e (fe_int)) (fo_no)) (fl_nil)))) (fe_pur (ff_lst (fl_nil))))) (fl_nil)))) (fss_nil)))
theorem sc_law_ways : FnScope ["one", "other", "found", "a", "b"] ["one", "other"] (defScope (top 26)) := ⟨rfl, rfl, rfl, by decide +kernel, rfl, by decide +kernel, by decide +kernel⟩
theorem der_law_one (C : Cxt G (cxOf (L2.CX P w) P w K mg base ["name", "other", "one", "two", "way"] "_law_one" (defScope (top 27)) fA cdv A outer s H E) EP Φ k tb ci cs ex)
    : FSs G (cxOf (L2.CX P w) P w K mg base ["name", "other", "one", "two", "way"] "_law_one" (defScope (top 27)) fA cdv A outer s H E) (wE E) EP R0 Φ (defBody (top 27)) b_law_one := by
  have tk : Takes (cxOf (L2.CX P w) P w K mg base ["name", "other", "one", "two", "way"] "_law_one" (defScope (top 27)) fA cdv A outer s H E) (wE E) := takes_of rfl rfl rfl rfl
  exact fss_cons (fs_par C.hc C.nd (xe_call 14 C tk (fl_cons (fe_var) (fl_nil))) (xe_call 14 C tk (fl_cons (fe_var) (fl_nil)))) (fss_cons (fs_ret (fe_and (fe_cmp (op := .eq) C.hu (fe_idx (fe_var) (fe_neg (fe_int))) (fe_idx (fe_var) (fe_neg (fe_int)))) (fe_one (fe_cmp (op := .ne) C.hu (fe_pur (ff_lc C.hc C.nd (fi_e (xe_call 16 C tk (fl_cons (fe_sl (fe_var) (fo_no) (fo_e (fe_neg (fe_int)))) (fl_cons (fe_sl (fe_var) (fo_no) (fo_e (fe_neg (fe_int)))) (fl_nil))))) (own := [("way", 4)]) (blkOk_by (by kernel_rfl)) (by decide) (fun _ _ _ _ _ => fg_v C.blk.nd) (fun _ _ _ _ _ => fp_c (fc_w (fw_or (fc_cmp (op := .eq) C.blk.hu (fe_idx (fe_var) (fe_int)) (fe_int)) (fw_or1 (fc_cmp (op := .eq) C.blk.hu (fe_idx (fe_var) (fe_int)) (fe_int)))))) (fun _ _ _ _ _ => fe_var))) (fe_pur (ff_lst (fl_nil))))))) (fss_nil))
theorem sc_law_one : FnScope ["name", "other", "one", "two", "way"] ["name", "other"] (defScope (top 27)) := ⟨rfl, rfl, rfl, by decide +kernel, rfl, by decide +kernel, by decide +kernel⟩
theorem der_law_written (C : Cxt G (cxOf (L2.CX P w) P w K mg base ["row", "words", "word", "last", "kind", "some", "k"] "_law_written" (defScope (top 28)) fA cdv A outer s H E) EP Φ k tb ci cs ex)
    : FSs G (cxOf (L2.CX P w) P w K mg base ["row", "words", "word", "last", "kind", "some", "k"] "_law_written" (defScope (top 28)) fA cdv A outer s H E) (wE E) EP R0 Φ (defBody (top 28)) b_law_written := by
  have tk : Takes (cxOf (L2.CX P w) P w K mg base ["row", "words", "word", "last", "kind", "some", "k"] "_law_written" (defScope (top 28)) fA cdv A outer s H E) (wE E) := takes_of rfl rfl rfl rfl
  exact fss_cons (fs_if (fc_cmp (op := .eq) C.hu (xe_call 10 C tk (fl_cons (fe_var) (fl_cons (fe_int) (fl_nil)))) (fe_int)) (fss_cons (fs_setLcP C.hc C.nd (xi_rng1 C.B (fe_bin (op := .add) C.hu (fe_int) (xe_call 10 C tk (fl_cons (fe_var) (fl_cons (fe_int) (fl_nil)))))) (own := [("k", 6)]) (blkOk_by (by kernel_rfl)) (by decide) (fun _ _ _ _ _ => fg_v C.blk.nd) (fun _ _ _ _ _ => fp_no) (fun _ _ _ _ _ => xe_call 11 C.blk takes_none5 (fl_cons (fe_var) (fl_cons (fe_pur (ff_lst (fl_cons (fe_str) (fl_cons (fe_str) (fl_cons (fe_str) (fl_cons (fe_str) (fl_cons (fe_str) (fl_cons (fe_str) (fl_cons (fe_str) (fl_cons (fe_str) (fl_cons (fe_str) (fl_nil)))))))))))) (fl_nil))))) (fss_cons (fs_ret (fe_bin (op := .add) C.hu (fe_join (fe_str) (fe_var)) (xe_call 11 C tk (fl_cons (fe_var) (fl_cons (fe_pur (ff_lst (fl_cons (fe_str) (fl_cons (fe_str) (fl_cons (fe_str) (fl_nil)))))) (fl_nil)))))) (fss_nil))) (fss_nil)) (fss_cons (fs_set (fe_new (ff_lst (fl_nil))) (fg_v C.nd)) (fss_cons (fs_for (k := 0) (passes_of rfl) C.hc (fi_e (fe_pur (ff_lst (fl_cons (fe_str) (fl_cons (fe_str) (fl_cons (fe_str) (fl_nil))))))) (fg_v C.nd) (fss_cons (fs_set (xe_call 10 C tk (fl_cons (fe_var) (fl_cons (fe_int) (fl_nil)))) (fg_v C.nd)) (fss_cons (fs_if (fc_cmp (op := .gt) C.hu (fe_var) (fe_int)) (fss_cons (fs_ex (fe_append (fe_var) (fe_ife (fc_cmp (op := .lt) C.hu (fe_var) (fe_int)) (fe_var) (fe_ife (fc_cmp (op := .eq) C.hu (fe_var) (fe_int)) (fe_bin (op := .add) C.hu (fe_sl (fe_var) (fo_no) (fo_e (fe_int))) (fe_str)) (fe_lower (fe_sl (fe_var) (fo_no) (fo_e (fe_int)))))))) (fss_nil)) (fss_nil)) (fss_nil)))) (fss_cons (fs_set (xe_call 11 C tk (fl_cons (fe_var) (fl_cons (fe_pur (ff_lst (fl_cons (fe_str) (fl_cons (fe_str) (fl_cons (fe_str) (fl_cons (fe_str) (fl_nil))))))) (fl_nil)))) (fg_v C.nd)) (fss_cons (fs_set (xe_call 10 C tk (fl_cons (fe_var) (fl_cons (fe_int) (fl_nil)))) (fg_v C.nd)) (fss_cons (fs_if (fc_cmp (op := .eq) C.hu (fe_var) (fe_int)) (fss_cons (fs_ret (fe_ife (fc_cmp (op := .ne) C.hu (fe_var) (fe_pur (ff_lst (fl_nil)))) (fe_bin (op := .add) C.hu (fe_bin (op := .add) C.hu (fe_var) (fe_str)) (fe_join (fe_str) (fe_var))) (fe_var))) (fss_nil)) (fss_nil)) (fss_cons (fs_ret (fe_join (xe_call 11 C tk (fl_cons (fe_var) (fl_cons (fe_pur (ff_lst (fl_cons (fe_str) (fl_cons (fe_str) (fl_cons (fe_str) (fl_nil)))))) (fl_nil)))) (fe_bin (op := .add) C.hu (fe_var) (fe_pur (ff_lst (fl_cons (fe_var) (fl_nil))))))) (fss_nil)))))))
theorem sc_law_written : FnScope ["row", "words", "word", "last", "kind", "some", "k"] ["row"] (defScope (top 28)) := ⟨rfl, rfl, rfl, by decide +kernel, rfl, by decide +kernel, by decide +kernel⟩
theorem derlaw (C : Cxt G (cxOf (L2.CX P w) P w K mg base ["script", "row", "names", "name", "can", "rows", "one", "odd", "other", "k"] "law" (defScope (top 30)) fA cdv A outer s H E) EP Φ k tb ci cs ex)
    (hr2 : Room (k + 2) (cxOf (L2.CX P w) P w K mg base ["script", "row", "names", "name", "can", "rows", "one", "odd", "other", "k"] "law" (defScope (top 30)) fA cdv A outer s H E).A) (RF : RefK G (cxOf (L2.CX P w) P w K mg base ["script", "row", "names", "name", "can", "rows", "one", "odd", "other", "k"] "law" (defScope (top 30)) fA cdv A outer s H E) "_law_refused" hs) {c P0 : Addr} (LT : LamX.TabB base mg c P0) (hcode : (cxOf (L2.CX P w) P w K mg base ["script", "row", "names", "name", "can", "rows", "one", "odd", "other", "k"] "law" (defScope (top 30)) fA cdv A outer s H E).env.code = .ref c) (hmT : (P0, (cxOf (L2.CX P w) P w K mg base ["script", "row", "names", "name", "can", "rows", "one", "odd", "other", "k"] "law" (defScope (top 30)) fA cdv A outer s H E).env.qual ++ "<lambda>") ∈ G.tabs) (hu : ∀ p ∈ G.tabs, p.1 = P0 → p.2 = (cxOf (L2.CX P w) P w K mg base ["script", "row", "names", "name", "can", "rows", "one", "odd", "other", "k"] "law" (defScope (top 30)) fA cdv A outer s H E).env.qual ++ "<lambda>")
    : FSs G (cxOf (L2.CX P w) P w K mg base ["script", "row", "names", "name", "can", "rows", "one", "odd", "other", "k"] "law" (defScope (top 30)) fA cdv A outer s H E) (wE E) EP R0 Φ (defBody (top 30)) blaw := by
  have tk : Takes (cxOf (L2.CX P w) P w K mg base ["script", "row", "names", "name", "can", "rows", "one", "odd", "other", "k"] "law" (defScope (top 30)) fA cdv A outer s H E) (wE E) := takes_of rfl rfl rfl rfl
  exact fss_cons (fs_set (fe_new (ff_lst (fl_cons (fe_var) (fl_cons (fe_int) (fl_cons (fe_int) (fl_cons (fe_int) (fl_nil))))))) (fg_v C.nd)) (fss_cons (fs_set (fe_pur (ff_lc C.hc C.nd (xi_rng1 C.B (fe_bin (op := .add) C.hu (fe_int) (xe_call 10 C tk (fl_cons (fe_var) (fl_cons (fe_int) (fl_nil)))))) (own := [("k", 9)]) (blkOk_by (by kernel_rfl)) (by decide) (fun _ _ _ _ _ => fg_v C.blk.nd) (fun _ _ _ _ _ => fp_no) (fun _ _ _ _ _ => xe_call 18 C.blk takes_none5 (fl_cons (fe_var) (fl_nil))))) (fg_v C.nd)) (fss_cons (fs_for (k := 0) (passes_of rfl) C.hc (fi_e (fe_var)) (fg_v C.nd) (fss_cons (fs_if (fc_not (fc_val (xe_call 12 C tk (fl_cons (xe_call 4 C tk (fl_cons (fe_var) (fl_nil))) (fl_cons (xe_call 14 C tk (fl_cons (fe_var) (fl_nil))) (fl_nil)))))) (fss_cons (fs_ret (fe_bl)) (fss_nil)) (fss_nil)) (fss_cons (fs_for (k := 0) (passes_of rfl) C.hc (fi_e (fe_var)) (fg_v C.nd) (fss_cons (fs_if (fc_not (fc_val (xe_call 12 C tk (fl_cons (xe_call 8 C tk (fl_cons (fe_var) (fl_cons (fe_var) (fl_nil)))) (fl_cons (xe_call 17 C tk (fl_cons (fe_var) (fl_cons (fe_var) (fl_nil)))) (fl_nil)))))) (fss_cons (fs_ret (fe_bl)) (fss_nil)) (fss_nil)) (fss_nil))) (fss_nil)))) (fss_cons (fs_set (fe_cmp (op := .eq) C.hu (fe_pur (ff_lc C.hc C.nd (fi_e (fe_var)) (own := [("name", 3)]) (blkOk_by (by kernel_rfl)) (by decide) (fun _ _ _ _ _ => fg_v C.blk.nd) (fun _ _ _ _ _ => fp_c (fc_cmp (op := .ne) C.blk.hu (fe_pur (ff_lc C.blk.hc C.blk.nd (fi_e (fe_var)) (own := [("other", 8)]) (blkOk_by (by kernel_rfl)) (by decide) (fun _ _ _ _ _ => fg_v C.blk.blk.nd) (fun _ _ _ _ _ => fp_c (fc_not (fc_val (xe_call 17 C.blk.blk takes_none5 (fl_cons (fe_var) (fl_cons (fe_var) (fl_nil))))))) (fun _ _ _ _ _ => fe_var))) (fe_pur (ff_lst (fl_nil))))) (fun _ _ _ _ _ => fe_var))) (fe_pur (ff_lst (fl_nil)))) (fg_v C.nd)) (fss_cons (fs_set (fe_pur (xf_sorted C.B C.hu (fe_pur (ff_lc C.hc C.nd (fi_e (fe_var)) (own := [("name", 3)]) (blkOk_by (by kernel_rfl)) (by decide) (fun _ _ _ _ _ => fg_v C.blk.nd) (fun _ _ _ _ _ => fp_no) (fun _ _ _ _ _ => fe_tup (fl_cons (fe_bin (op := .sub) C.blk.hu (fe_int) (xe_len C.blk.B (xe_call 14 C.blk takes_none5 (fl_cons (fe_var) (fl_nil))))) (fl_cons (fe_bin (op := .sub) C.blk.hu (fe_int) (xe_len C.blk.B (fe_join (fe_str) (xe_call 14 C.blk takes_none5 (fl_cons (fe_var) (fl_nil)))))) (fl_cons (fe_var) (fl_nil))))))))) (fg_v C.nd)) (fss_cons (fs_if (fc_not (fc_val (xe_call 12 C tk (fl_cons (xe_call 9 C tk (fl_cons (xe_tuple C.B (fe_var)) (fl_nil))) (fl_cons (fe_ife (fc_val (fe_var)) (fe_idx (fe_idx (fe_var) (fe_int)) (fe_int)) (fe_none)) (fl_nil)))))) (fss_cons (fs_ret (fe_bl)) (fss_nil)) (fss_nil)) (fss_cons (fs_set (xe_call 11 C tk (fl_cons (fe_var) (fl_cons (fe_var) (fl_nil)))) (fg_v C.nd)) (fss_cons (fs_if (fc_w (fw_or (fc_cmp (op := .ne) C.hu (xe_call 9 C tk (fl_cons (fe_pur (ff_lst (fl_cons (fe_var) (fl_nil)))) (fl_nil))) (fe_var)) (fw_or (fc_cmp (op := .isnot) C.hu (xe_call 8 C tk (fl_cons (fe_var) (fl_cons (fe_upper (fe_var)) (fl_nil)))) (fe_bl)) (fw_or1 (fc_cmp (op := .ne) C.hu (xe_call 4 C tk (fl_cons (fe_upper (fe_var)) (fl_nil))) (xe_call 4 C tk (fl_cons (fe_lower (fe_var)) (fl_nil)))))))) (fss_cons (fs_ret (fe_bl)) (fss_nil)) (fss_nil)) (fss_cons (fs_set (xe_call 11 C tk (fl_cons (fe_var) (fl_cons (fe_pur (ff_lst (fl_cons (fe_str) (fl_cons (fe_str) (fl_cons (fe_str) (fl_cons (fe_bin (op := .mul) C.hu (fe_str) (fe_int)) (fl_cons (fe_none) (fl_cons (fe_int) (fl_cons (fe_str) (fl_cons (fe_str) (fl_cons (fe_str) (fl_nil)))))))))))) (fl_nil)))) (fg_v C.nd)) (fss_cons (fs_if (fc_cmp (op := .ne) C.hu (xe_repr C.B C.hgd C.hu (fe_refused RF rfl hr2 C.hgd LT hcode hmT hu (LamX.lamS_by (by kernel_rfl)) (fun _ _ _ _ _ _ _ hl hgl => xe_call 4 (C.lam hl hgl) (takes_of rfl rfl rfl rfl) (fl_cons (fe_var) (fl_nil))))) (xe_repr C.B C.hgd C.hu (fe_tup (fl_cons (fe_str) (fl_cons (fe_var) (fl_nil)))))) (fss_cons (fs_ret (fe_bl)) (fss_nil)) (fss_nil)) (fss_cons (fs_if (fc_cmp (op := .ne) C.hu (xe_repr C.B C.hgd C.hu (fe_refused RF rfl hr2 C.hgd LT hcode hmT hu (LamX.lamS_by (by kernel_rfl)) (fun _ _ _ _ _ _ _ hl hgl => xe_call 8 (C.lam hl hgl) (takes_of rfl rfl rfl rfl) (fl_cons (fe_var) (fl_cons (fe_var) (fl_nil)))))) (xe_repr C.B C.hgd C.hu (fe_tup (fl_cons (fe_str) (fl_cons (fe_var) (fl_nil)))))) (fss_cons (fs_ret (fe_bl)) (fss_nil)) (fss_nil)) (fss_cons (fs_if (fc_cmp (op := .ne) C.hu (xe_repr C.B C.hgd C.hu (fe_refused RF rfl hr2 C.hgd LT hcode hmT hu (LamX.lamS_by (by kernel_rfl)) (fun _ _ _ _ _ _ _ hl hgl => xe_call 8 (C.lam hl hgl) (takes_of rfl rfl rfl rfl) (fl_cons (fe_var) (fl_cons (fe_none) (fl_nil)))))) (xe_repr C.B C.hgd C.hu (fe_tup (fl_cons (fe_str) (fl_cons (fe_var) (fl_nil)))))) (fss_cons (fs_ret (fe_bl)) (fss_nil)) (fss_nil)) (fss_cons (fs_if (fc_cmp (op := .ne) C.hu (fe_refused RF rfl hr2 C.hgd LT hcode hmT hu (LamX.lamS_by (by kernel_rfl)) (fun _ _ _ _ _ _ _ hl hgl => xe_call 9 (C.lam hl hgl) (takes_of rfl rfl rfl rfl) (fl_cons (fe_bin (op := .add) (C.lam hl hgl).hu (fe_var) (fe_pur (ff_lst (fl_cons (fe_var) (fl_nil))))) (fl_nil)))) (fe_tup (fl_cons (fe_str) (fl_cons (xe_len C.B (fe_var)) (fl_nil))))) (fss_cons (fs_ret (fe_bl)) (fss_nil)) (fss_nil)) (fss_cons (fs_ret (fe_cmp (op := .eq) C.hu (fe_refused RF rfl hr2 C.hgd LT hcode hmT hu (LamX.lamS_by (by kernel_rfl)) (fun _ _ _ _ _ _ _ hl hgl => xe_call 9 (C.lam hl hgl) (takes_of rfl rfl rfl rfl) (fl_cons (xe_call 11 (C.lam hl hgl) (takes_of rfl rfl rfl rfl) (fl_cons (fe_var) (fl_cons (fe_pur (ff_lst (fl_cons (fe_none) (fl_cons (fe_pur (ff_lst (fl_nil))) (fl_cons (fe_bin (op := .mul) (C.lam hl hgl).hu (fe_pur (ff_lst (fl_cons (fe_str) (fl_nil)))) (fe_int)) (fl_cons (fe_int) (fl_nil))))))) (fl_nil)))) (fl_nil)))) (fe_tup (fl_cons (fe_str) (fl_cons (fe_neg (fe_int)) (fl_nil)))))) (fss_nil))))))))))))))
theorem sclaw : FnScope ["script", "row", "names", "name", "can", "rows", "one", "odd", "other", "k"] ["script"] (defScope (top 30)) := ⟨rfl, rfl, rfl, by decide +kernel, rfl, by decide +kernel, by decide +kernel⟩
end
def glo : List PySem.Str := (["is_row", "rows_of", "is_written", "told_words", "words_of", "are_pair", "fits_in", "told_one", "may_be_one", "fullest", "_law_taken", "_law_pick", "_law_alike", "_law_unlike", "_law_words", "_law_pair", "_law_ways", "_law_one", "_law_written", "_law_refused"] : List PySem.Str) ++ (["law", "FolkError", "BadWritten", "BadNames"] : List PySem.Str)
abbrev fx : List He.Fa := faOf glo ci cs
abbrev tf : List He.Defn := [("law", none)]
def exF (K : PySem.W.Frag) : Bool := excB K ex && noLst K
abbrev R : PySem.W.OpenRow := PySem.W.OpenLaw.row PySem.Challenge.rw_folkmeld_k19_whole_written_names
abbrev hk : PySem.W.Hook := He.hookX 4 fx fn [] tf exF
def ob (s : PySem.W.SharedT) : He.AlX := He.obsX 4 fx fn [] tf exF (HandSHeadRun.getT s)
theorem ob_eq (s : PySem.W.SharedT) : ob s = hk.obs s.abs := He.obsX_eq (HandSHeadRun.getT_eq s)
theorem run (w : World) : HandSHeadRun.RunEq R (PySem.W.view R.prog [30]) hk ob 20000 names w := by
  intro os
  kernel_rfl
abbrev gOf (K : PySem.W.Frag) : Gd := ⟨fun f => He.ga K (Str.ofString f), fun c => He.ga K (Str.ofString c), [((He.cT K ("law", none)).2, ("law" : Str) ++ ".<locals>." ++ "<lambda>")]⟩
theorem exOk : ∀ q ∈ ex, q.1 = Str.ofString q.2 ∧ q.1 ∈ glo ∧ EP.exc q.2 = some 1 := by
  intro q hq
  simp only [ex, List.mem_cons, List.not_mem_nil, or_false] at hq
  rcases hq with rfl | rfl <;> exact ⟨by decide +kernel, by decide +kernel, by decide +kernel⟩
section
variable {P : Program} {w : World} {K : PySem.W.Frag} {h base : Heap} {mg : Str → Option Value}
theorem exK (X : K.In h) (Gn : h.Ns mainGlobals mg) (c : He.SaysX fx fn [] tf exF w h K) : ∀ q ∈ ex, Ex1 K ((gOf K).ca q.2) ∧ mg q.1 = some (.ref ((gOf K).ca q.2)) ∧ EP.exc q.2 = some 1 := fun q hq => by
  obtain ⟨h1, h2, h3⟩ := exOk q hq
  have hm := (Bool.and_eq_true_iff.mp c.more).1
  refine ⟨excB_1 hm hq, ?_, h3⟩
  have e := head_glo c.t.d X Gn h2
  rw [e, h1]
theorem initK (c : He.SaysX fx fn [] tf exF w h K) : ∃ fd ps, FnOk P w K mg base CX0 1 (He.ma K (He.ga K "FolkError") "__init__") fd ps (spI K) ∧ L2.Binds K fd ps [] := by
  obtain ⟨fd, F⟩ := c.t.d.def_ 1 (d := d1) rfl
  refine ⟨fd, ["self", "value"], folk_init F ⟨rfl, rfl, rfl, by decide +kernel, rfl, by decide +kernel, by decide +kernel⟩ rfl rfl, ?_⟩
  obtain ⟨ds, h1, h2⟩ := F.binds1 (ps := ["self", "value"]) 2 1 (by intro z; cases z) rfl fun T kV doc pm an cdv ct us its hu hi => match us, hu, its, hi with | [_, _], _, [_], _ => ⟨_, rfl, rfl⟩
  cases h1
  exact h2
theorem table (X : K.In h) (Gn : h.Ns mainGlobals mg) (c : He.SaysX fx fn [] tf exF w h K) : ∀ (j i : Nat) (q : Str × String × Nat), tb[i]? = some q → FnT (gOf K) P w K mg base (callD EP R0 j) (3 * j + 3) q.1 q.2.1 q.2.2 := by
  intro j
  induction j with
  | zero =>
    intro i q hq
    match i, hq with
    | 0, hq =>
      cases hq
      obtain ⟨fd, F⟩ := c.t.d.def_ 0 (d := d0) rfl
      exact FnT.zero (ps := ["thing"]) ⟨head_glo c.t.d X Gn (by decide +kernel), F.kp, F.bindsN fun _ _ _ _ _ _ us hl => match us, hl with | [_], _ => rfl⟩
    | 1, hq =>
      cases hq
      obtain ⟨fd, F⟩ := c.t.d.def_ 2 (d := d2) rfl
      exact FnT.zero (ps := ["text", "signs"]) ⟨head_glo c.t.d X Gn (by decide +kernel), F.kp, F.bindsN fun _ _ _ _ _ _ us hl => match us, hl with | [_, _], _ => rfl⟩
    | 2, hq =>
      cases hq
      obtain ⟨fd, F⟩ := c.t.d.def_ 3 (d := d3) rfl
      exact FnT.zero (ps := ["thing"]) ⟨head_glo c.t.d X Gn (by decide +kernel), F.kp, F.bindsN fun _ _ _ _ _ _ us hl => match us, hl with | [_], _ => rfl⟩
    | 3, hq =>
      cases hq
      obtain ⟨fd, F⟩ := c.t.d.def_ 4 (d := d4) rfl
      exact FnT.zero (ps := ["name"]) ⟨head_glo c.t.d X Gn (by decide +kernel), F.kp, F.bindsN fun _ _ _ _ _ _ us hl => match us, hl with | [_], _ => rfl⟩
    | 4, hq =>
      cases hq
      obtain ⟨fd, F⟩ := c.t.d.def_ 5 (d := d5) rfl
      exact FnT.zero (ps := ["name"]) ⟨head_glo c.t.d X Gn (by decide +kernel), F.kp, F.bindsN fun _ _ _ _ _ _ us hl => match us, hl with | [_], _ => rfl⟩
    | 5, hq =>
      cases hq
      obtain ⟨fd, F⟩ := c.t.d.def_ 6 (d := d6) rfl
      exact FnT.zero (ps := ["one", "other"]) ⟨head_glo c.t.d X Gn (by decide +kernel), F.kp, F.bindsN fun _ _ _ _ _ _ us hl => match us, hl with | [_, _], _ => rfl⟩
    | 6, hq =>
      cases hq
      obtain ⟨fd, F⟩ := c.t.d.def_ 7 (d := d7) rfl
      exact FnT.zero (ps := ["short", "long"]) ⟨head_glo c.t.d X Gn (by decide +kernel), F.kp, F.bindsN fun _ _ _ _ _ _ us hl => match us, hl with | [_, _], _ => rfl⟩
    | 7, hq =>
      cases hq
      obtain ⟨fd, F⟩ := c.t.d.def_ 8 (d := d8) rfl
      exact FnT.zero (ps := ["name", "other"]) ⟨head_glo c.t.d X Gn (by decide +kernel), F.kp, F.bindsN fun _ _ _ _ _ _ us hl => match us, hl with | [_, _], _ => rfl⟩
    | 8, hq =>
      cases hq
      obtain ⟨fd, F⟩ := c.t.d.def_ 9 (d := d9) rfl
      exact FnT.zero (ps := ["name", "other"]) ⟨head_glo c.t.d X Gn (by decide +kernel), F.kp, F.bindsN fun _ _ _ _ _ _ us hl => match us, hl with | [_, _], _ => rfl⟩
    | 9, hq =>
      cases hq
      obtain ⟨fd, F⟩ := c.t.d.def_ 10 (d := d10) rfl
      exact FnT.zero (ps := ["names"]) ⟨head_glo c.t.d X Gn (by decide +kernel), F.kp, F.bindsN fun _ _ _ _ _ _ us hl => match us, hl with | [_], _ => rfl⟩
    | 10, hq =>
      cases hq
      obtain ⟨fd, F⟩ := c.t.d.def_ 11 (d := d11) rfl
      exact FnT.zero (ps := ["row", "many"]) ⟨head_glo c.t.d X Gn (by decide +kernel), F.kp, F.bindsN fun _ _ _ _ _ _ us hl => match us, hl with | [_, _], _ => rfl⟩
    | 11, hq =>
      cases hq
      obtain ⟨fd, F⟩ := c.t.d.def_ 12 (d := d12) rfl
      exact FnT.zero (ps := ["row", "some"]) ⟨head_glo c.t.d X Gn (by decide +kernel), F.kp, F.bindsN fun _ _ _ _ _ _ us hl => match us, hl with | [_, _], _ => rfl⟩
    | 12, hq =>
      cases hq
      obtain ⟨fd, F⟩ := c.t.d.def_ 13 (d := d13) rfl
      exact FnT.zero (ps := ["found", "due"]) ⟨head_glo c.t.d X Gn (by decide +kernel), F.kp, F.bindsN fun _ _ _ _ _ _ us hl => match us, hl with | [_, _], _ => rfl⟩
    | 13, hq =>
      cases hq
      obtain ⟨fd, F⟩ := c.t.d.def_ 14 (d := d14) rfl
      exact FnT.zero (ps := ["things"]) ⟨head_glo c.t.d X Gn (by decide +kernel), F.kp, F.bindsN fun _ _ _ _ _ _ us hl => match us, hl with | [_], _ => rfl⟩
    | 14, hq =>
      cases hq
      obtain ⟨fd, F⟩ := c.t.d.def_ 15 (d := d15) rfl
      exact FnT.zero (ps := ["name"]) ⟨head_glo c.t.d X Gn (by decide +kernel), F.kp, F.bindsN fun _ _ _ _ _ _ us hl => match us, hl with | [_], _ => rfl⟩
    | 15, hq =>
      cases hq
      obtain ⟨fd, F⟩ := c.t.d.def_ 16 (d := d16) rfl
      exact FnT.zero (ps := ["one", "other"]) ⟨head_glo c.t.d X Gn (by decide +kernel), F.kp, F.bindsN fun _ _ _ _ _ _ us hl => match us, hl with | [_, _], _ => rfl⟩
    | 16, hq =>
      cases hq
      obtain ⟨fd, F⟩ := c.t.d.def_ 17 (d := d17) rfl
      exact FnT.zero (ps := ["one", "other"]) ⟨head_glo c.t.d X Gn (by decide +kernel), F.kp, F.bindsN fun _ _ _ _ _ _ us hl => match us, hl with | [_, _], _ => rfl⟩
    | 17, hq =>
      cases hq
      obtain ⟨fd, F⟩ := c.t.d.def_ 18 (d := d18) rfl
      exact FnT.zero (ps := ["name", "other"]) ⟨head_glo c.t.d X Gn (by decide +kernel), F.kp, F.bindsN fun _ _ _ _ _ _ us hl => match us, hl with | [_, _], _ => rfl⟩
    | 18, hq =>
      cases hq
      obtain ⟨fd, F⟩ := c.t.d.def_ 19 (d := d19) rfl
      exact FnT.zero (ps := ["row"]) ⟨head_glo c.t.d X Gn (by decide +kernel), F.kp, F.bindsN fun _ _ _ _ _ _ us hl => match us, hl with | [_], _ => rfl⟩
    | i + 19, hq => simp [tb] at hq
  | succ j ih =>
    intro i q hq
    match i, hq with
    | 0, hq =>
      cases hq
      obtain ⟨fd, F⟩ := c.t.d.def_ 0 (d := d0) rfl
      exact FnT.succ (k := 3 * j + 5) (ps := ["thing"]) (f := "is_row") (fn := fis_row) ⟨head_glo c.t.d X Gn (by decide +kernel), F.kp, F.bindsN fun _ _ _ _ _ _ us hl => match us, hl with | [_], _ => rfl⟩ F scis_row rfl rfl (by intro z; cases z) (by simp [EP]) fun cdv A outer s H E hr hg _ => deris_row (mkC ih (by omega) (head_blt c.t.d X Gn) (head_int c.t.d X Gn) (head_str c.t.d X Gn) (exK X Gn c) (initK c) hr hg scis_row.nd)
    | 1, hq =>
      cases hq
      obtain ⟨fd, F⟩ := c.t.d.def_ 2 (d := d2) rfl
      exact FnT.succ (k := 3 * j + 5) (ps := ["text", "signs"]) (f := "rows_of") (fn := frows_of) ⟨head_glo c.t.d X Gn (by decide +kernel), F.kp, F.bindsN fun _ _ _ _ _ _ us hl => match us, hl with | [_, _], _ => rfl⟩ F scrows_of rfl rfl (by intro z; cases z) (by simp [EP]) fun cdv A outer s H E hr hg _ => derrows_of (mkC ih (by omega) (head_blt c.t.d X Gn) (head_int c.t.d X Gn) (head_str c.t.d X Gn) (exK X Gn c) (initK c) hr hg scrows_of.nd)
    | 2, hq =>
      cases hq
      obtain ⟨fd, F⟩ := c.t.d.def_ 3 (d := d3) rfl
      exact FnT.succ (k := 3 * j + 5) (ps := ["thing"]) (f := "is_written") (fn := fis_written) ⟨head_glo c.t.d X Gn (by decide +kernel), F.kp, F.bindsN fun _ _ _ _ _ _ us hl => match us, hl with | [_], _ => rfl⟩ F scis_written rfl rfl (by intro z; cases z) (by simp [EP]) fun cdv A outer s H E hr hg _ => deris_written (mkC ih (by omega) (head_blt c.t.d X Gn) (head_int c.t.d X Gn) (head_str c.t.d X Gn) (exK X Gn c) (initK c) hr hg scis_written.nd)
    | 3, hq =>
      cases hq
      obtain ⟨fd, F⟩ := c.t.d.def_ 4 (d := d4) rfl
      exact FnT.succ (k := 3 * j + 5) (ps := ["name"]) (f := "told_words") (fn := ftold_words) ⟨head_glo c.t.d X Gn (by decide +kernel), F.kp, F.bindsN fun _ _ _ _ _ _ us hl => match us, hl with | [_], _ => rfl⟩ F sctold_words rfl rfl (by intro z; cases z) (by simp [EP]) fun cdv A outer s H E hr hg _ => dertold_words (mkC ih (by omega) (head_blt c.t.d X Gn) (head_int c.t.d X Gn) (head_str c.t.d X Gn) (exK X Gn c) (initK c) hr hg sctold_words.nd)
    | 4, hq =>
      cases hq
      obtain ⟨fd, F⟩ := c.t.d.def_ 5 (d := d5) rfl
      exact FnT.succ (k := 3 * j + 5) (ps := ["name"]) (f := "words_of") (fn := fwords_of) ⟨head_glo c.t.d X Gn (by decide +kernel), F.kp, F.bindsN fun _ _ _ _ _ _ us hl => match us, hl with | [_], _ => rfl⟩ F scwords_of rfl rfl (by intro z; cases z) (by simp [EP]) fun cdv A outer s H E hr hg _ => derwords_of (mkC ih (by omega) (head_blt c.t.d X Gn) (head_int c.t.d X Gn) (head_str c.t.d X Gn) (exK X Gn c) (initK c) hr hg scwords_of.nd)
    | 5, hq =>
      cases hq
      obtain ⟨fd, F⟩ := c.t.d.def_ 6 (d := d6) rfl
      exact FnT.succ (k := 3 * j + 5) (ps := ["one", "other"]) (f := "are_pair") (fn := fare_pair) ⟨head_glo c.t.d X Gn (by decide +kernel), F.kp, F.bindsN fun _ _ _ _ _ _ us hl => match us, hl with | [_, _], _ => rfl⟩ F scare_pair rfl rfl (by intro z; cases z) (by simp [EP]) fun cdv A outer s H E hr hg _ => derare_pair (mkC ih (by omega) (head_blt c.t.d X Gn) (head_int c.t.d X Gn) (head_str c.t.d X Gn) (exK X Gn c) (initK c) hr hg scare_pair.nd)
    | 6, hq =>
      cases hq
      obtain ⟨fd, F⟩ := c.t.d.def_ 7 (d := d7) rfl
      exact FnT.succ (k := 3 * j + 5) (ps := ["short", "long"]) (f := "fits_in") (fn := ffits_in) ⟨head_glo c.t.d X Gn (by decide +kernel), F.kp, F.bindsN fun _ _ _ _ _ _ us hl => match us, hl with | [_, _], _ => rfl⟩ F scfits_in rfl rfl (by intro z; cases z) (by simp [EP]) fun cdv A outer s H E hr hg _ => derfits_in (mkC ih (by omega) (head_blt c.t.d X Gn) (head_int c.t.d X Gn) (head_str c.t.d X Gn) (exK X Gn c) (initK c) hr hg scfits_in.nd)
    | 7, hq =>
      cases hq
      obtain ⟨fd, F⟩ := c.t.d.def_ 8 (d := d8) rfl
      exact FnT.succ (k := 3 * j + 5) (ps := ["name", "other"]) (f := "told_one") (fn := ftold_one) ⟨head_glo c.t.d X Gn (by decide +kernel), F.kp, F.bindsN fun _ _ _ _ _ _ us hl => match us, hl with | [_, _], _ => rfl⟩ F sctold_one rfl rfl (by intro z; cases z) (by simp [EP]) fun cdv A outer s H E hr hg _ => dertold_one (mkC ih (by omega) (head_blt c.t.d X Gn) (head_int c.t.d X Gn) (head_str c.t.d X Gn) (exK X Gn c) (initK c) hr hg sctold_one.nd)
    | 8, hq =>
      cases hq
      obtain ⟨fd, F⟩ := c.t.d.def_ 9 (d := d9) rfl
      exact FnT.succ (k := 3 * j + 5) (ps := ["name", "other"]) (f := "may_be_one") (fn := fmay_be_one) ⟨head_glo c.t.d X Gn (by decide +kernel), F.kp, F.bindsN fun _ _ _ _ _ _ us hl => match us, hl with | [_, _], _ => rfl⟩ F scmay_be_one rfl rfl (by intro z; cases z) (by simp [EP]) fun cdv A outer s H E hr hg _ => dermay_be_one (mkC ih (by omega) (head_blt c.t.d X Gn) (head_int c.t.d X Gn) (head_str c.t.d X Gn) (exK X Gn c) (initK c) hr hg scmay_be_one.nd)
    | 9, hq =>
      cases hq
      obtain ⟨fd, F⟩ := c.t.d.def_ 10 (d := d10) rfl
      exact FnT.succ (k := 3 * j + 5) (ps := ["names"]) (f := "fullest") (fn := ffullest) ⟨head_glo c.t.d X Gn (by decide +kernel), F.kp, F.bindsN fun _ _ _ _ _ _ us hl => match us, hl with | [_], _ => rfl⟩ F scfullest rfl rfl (by intro z; cases z) (by simp [EP]) fun cdv A outer s H E hr hg _ => derfullest (mkC ih (by omega) (head_blt c.t.d X Gn) (head_int c.t.d X Gn) (head_str c.t.d X Gn) (exK X Gn c) (initK c) hr hg scfullest.nd)
    | 10, hq =>
      cases hq
      obtain ⟨fd, F⟩ := c.t.d.def_ 11 (d := d11) rfl
      exact FnT.succ (k := 3 * j + 5) (ps := ["row", "many"]) (f := "_law_taken") (fn := f_law_taken) ⟨head_glo c.t.d X Gn (by decide +kernel), F.kp, F.bindsN fun _ _ _ _ _ _ us hl => match us, hl with | [_, _], _ => rfl⟩ F sc_law_taken rfl rfl (by intro z; cases z) (by simp [EP]) fun cdv A outer s H E hr hg _ => der_law_taken (mkC ih (by omega) (head_blt c.t.d X Gn) (head_int c.t.d X Gn) (head_str c.t.d X Gn) (exK X Gn c) (initK c) hr hg sc_law_taken.nd)
    | 11, hq =>
      cases hq
      obtain ⟨fd, F⟩ := c.t.d.def_ 12 (d := d12) rfl
      exact FnT.succ (k := 3 * j + 5) (ps := ["row", "some"]) (f := "_law_pick") (fn := f_law_pick) ⟨head_glo c.t.d X Gn (by decide +kernel), F.kp, F.bindsN fun _ _ _ _ _ _ us hl => match us, hl with | [_, _], _ => rfl⟩ F sc_law_pick rfl rfl (by intro z; cases z) (by simp [EP]) fun cdv A outer s H E hr hg _ => der_law_pick (mkC ih (by omega) (head_blt c.t.d X Gn) (head_int c.t.d X Gn) (head_str c.t.d X Gn) (exK X Gn c) (initK c) hr hg sc_law_pick.nd)
    | 12, hq =>
      cases hq
      obtain ⟨fd, F⟩ := c.t.d.def_ 13 (d := d13) rfl
      exact FnT.succ (k := 3 * j + 5) (ps := ["found", "due"]) (f := "_law_alike") (fn := f_law_alike) ⟨head_glo c.t.d X Gn (by decide +kernel), F.kp, F.bindsN fun _ _ _ _ _ _ us hl => match us, hl with | [_, _], _ => rfl⟩ F sc_law_alike rfl rfl (by intro z; cases z) (by simp [EP]) fun cdv A outer s H E hr hg _ => der_law_alike (mkC ih (by omega) (head_blt c.t.d X Gn) (head_int c.t.d X Gn) (head_str c.t.d X Gn) (exK X Gn c) (initK c) hr hg sc_law_alike.nd)
    | 13, hq =>
      cases hq
      obtain ⟨fd, F⟩ := c.t.d.def_ 14 (d := d14) rfl
      exact FnT.succ (k := 3 * j + 5) (ps := ["things"]) (f := "_law_unlike") (fn := f_law_unlike) ⟨head_glo c.t.d X Gn (by decide +kernel), F.kp, F.bindsN fun _ _ _ _ _ _ us hl => match us, hl with | [_], _ => rfl⟩ F sc_law_unlike rfl rfl (by intro z; cases z) (by simp [EP]) fun cdv A outer s H E hr hg _ => der_law_unlike (mkC ih (by omega) (head_blt c.t.d X Gn) (head_int c.t.d X Gn) (head_str c.t.d X Gn) (exK X Gn c) (initK c) hr hg sc_law_unlike.nd)
    | 14, hq =>
      cases hq
      obtain ⟨fd, F⟩ := c.t.d.def_ 15 (d := d15) rfl
      exact FnT.succ (k := 3 * j + 5) (ps := ["name"]) (f := "_law_words") (fn := f_law_words) ⟨head_glo c.t.d X Gn (by decide +kernel), F.kp, F.bindsN fun _ _ _ _ _ _ us hl => match us, hl with | [_], _ => rfl⟩ F sc_law_words rfl rfl (by intro z; cases z) (by simp [EP]) fun cdv A outer s H E hr hg _ => der_law_words (mkC ih (by omega) (head_blt c.t.d X Gn) (head_int c.t.d X Gn) (head_str c.t.d X Gn) (exK X Gn c) (initK c) hr hg sc_law_words.nd)
    | 15, hq =>
      cases hq
      obtain ⟨fd, F⟩ := c.t.d.def_ 16 (d := d16) rfl
      exact FnT.succ (k := 3 * j + 5) (ps := ["one", "other"]) (f := "_law_pair") (fn := f_law_pair) ⟨head_glo c.t.d X Gn (by decide +kernel), F.kp, F.bindsN fun _ _ _ _ _ _ us hl => match us, hl with | [_, _], _ => rfl⟩ F sc_law_pair rfl rfl (by intro z; cases z) (by simp [EP]) fun cdv A outer s H E hr hg _ => der_law_pair (mkC ih (by omega) (head_blt c.t.d X Gn) (head_int c.t.d X Gn) (head_str c.t.d X Gn) (exK X Gn c) (initK c) hr hg sc_law_pair.nd)
    | 16, hq =>
      cases hq
      obtain ⟨fd, F⟩ := c.t.d.def_ 17 (d := d17) rfl
      exact FnT.succ (k := 3 * j + 5) (ps := ["one", "other"]) (f := "_law_ways") (fn := f_law_ways) ⟨head_glo c.t.d X Gn (by decide +kernel), F.kp, F.bindsN fun _ _ _ _ _ _ us hl => match us, hl with | [_, _], _ => rfl⟩ F sc_law_ways rfl rfl (by intro z; cases z) (by simp [EP]) fun cdv A outer s H E hr hg _ => der_law_ways (mkC ih (by omega) (head_blt c.t.d X Gn) (head_int c.t.d X Gn) (head_str c.t.d X Gn) (exK X Gn c) (initK c) hr hg sc_law_ways.nd)
    | 17, hq =>
      cases hq
      obtain ⟨fd, F⟩ := c.t.d.def_ 18 (d := d18) rfl
      exact FnT.succ (k := 3 * j + 5) (ps := ["name", "other"]) (f := "_law_one") (fn := f_law_one) ⟨head_glo c.t.d X Gn (by decide +kernel), F.kp, F.bindsN fun _ _ _ _ _ _ us hl => match us, hl with | [_, _], _ => rfl⟩ F sc_law_one rfl rfl (by intro z; cases z) (by simp [EP]) fun cdv A outer s H E hr hg _ => der_law_one (mkC ih (by omega) (head_blt c.t.d X Gn) (head_int c.t.d X Gn) (head_str c.t.d X Gn) (exK X Gn c) (initK c) hr hg sc_law_one.nd)
    | 18, hq =>
      cases hq
      obtain ⟨fd, F⟩ := c.t.d.def_ 19 (d := d19) rfl
      exact FnT.succ (k := 3 * j + 5) (ps := ["row"]) (f := "_law_written") (fn := f_law_written) ⟨head_glo c.t.d X Gn (by decide +kernel), F.kp, F.bindsN fun _ _ _ _ _ _ us hl => match us, hl with | [_], _ => rfl⟩ F sc_law_written rfl rfl (by intro z; cases z) (by simp [EP]) fun cdv A outer s H E hr hg _ => der_law_written (mkC ih (by omega) (head_blt c.t.d X Gn) (head_int c.t.d X Gn) (head_str c.t.d X Gn) (exK X Gn c) (initK c) hr hg sc_law_written.nd)
    | i + 19, hq => simp [tb] at hq
theorem hsOk : ∀ q ∈ hs, (Str.ofString q.1, q.1) ∈ ex := by decide +kernel
theorem lawOk (X : K.In h) (Gn : h.Ns mainGlobals mg) (c : He.SaysX fx fn [] tf exF w h K) {fa : Addr} (hfa : mg ("law" : Str) = some (.ref fa)) (j : Nat) : ∃ fd, (∀ (s : Shared) (u : Value), BindsTo s fd ⟨[u], []⟩ [("script", u)]) ∧ ∀ base : Heap, LamX.TabB base mg (He.cT K ("law", none)).1 (He.cT K ("law", none)).2 → FnG P w K mg base (3 * j + 6) fa fd ["script"] (spF ⟨P, w, K, (gOf K).fa, (gOf K).ca, (gOf K).tabs⟩ (callD EP R0 (j + 1)) "law" 1) := by
  obtain ⟨fd, F⟩ := c.t.d.def_ 21 (d := d21) rfl
  have e := hfa.symm.trans (head_glo c.t.d X Gn (x := "law") (by decide +kernel))
  cases e
  have hb := FunD.bindsA (ps := ["script"]) F fun _ _ _ _ _ _ us hl => match us, hl with | [_], _ => rfl
  refine ⟨fd, fun s u => hb s [u] rfl, fun base TB => ?_⟩
  exact FnG.succ (G := gOf K) (P := P) (w := w) (base := base) (EP := EP) (R := R0) (j := j) (k := 3 * j + 5) (ps := ["script"]) (f := "law") (fn := flaw) F sclaw rfl rfl (by intro z; cases z) (by simp [EP]) fun cdv A outer s H E hr hg hcd => by
    obtain ⟨fr, FR⟩ := c.t.d.def_ 20 (d := d20) rfl
    have hbr : L2.Binds K fr ["ask"] [] := FR.bindsN fun _ _ _ _ _ _ us hl => match us, hl with | [_], _ => rfl
    have hcode : cdv = .ref (He.cT K ("law", none)).1 := by
      obtain ⟨oc, od, dV, kV, doc, pm, an, cd2, ct, osl, e1, lk, hcd2, _, _⟩ := F.ex
      obtain ⟨c0, e2⟩ := He.codeIn_ref hcd2
      have e3 : fd.code = .ref c0 := by rw [e1]; exact e2
      have e4 := He.codeOf_eq (K := K) (p := ("law", none)) lk e3
      rw [← hcd, e3]
      show Value.ref c0 = Value.ref (He.codeOf K ("law", none))
      rw [e4]
    exact derlaw (mkC (table X Gn c j) (by omega) (head_blt c.t.d X Gn) (head_int c.t.d X Gn) (head_str c.t.d X Gn) (exK X Gn c) (initK c) hr hg sclaw.nd) hr
      (RefK.of FR (head_glo c.t.d X Gn (by decide +kernel)) hbr (Ng := ["ask", "e"]) ⟨rfl, rfl, rfl, by decide +kernel, rfl, by decide +kernel, by decide +kernel⟩ rfl (by decide) (.inl rfl) (by decide) (by decide)
        (HdT.cons (c := "BadNames") rfl (by decide) (head_glo c.t.d X Gn (by decide +kernel)) rfl rfl (by decide) (by decide) rfl (excB_1 (Bool.and_eq_true_iff.mp c.more).1 (q := ("BadNames", "BadNames")) (by decide +kernel)).xf (excB_1 (Bool.and_eq_true_iff.mp c.more).1 (q := ("BadNames", "BadNames")) (by decide +kernel)).no (HdT.cons (c := "BadWritten") rfl (by decide) (head_glo c.t.d X Gn (by decide +kernel)) rfl rfl (by decide) (by decide) rfl (excB_1 (Bool.and_eq_true_iff.mp c.more).1 (q := ("BadWritten", "BadWritten")) (by decide +kernel)).xf (excB_1 (Bool.and_eq_true_iff.mp c.more).1 (q := ("BadWritten", "BadWritten")) (by decide +kernel)).no (HdT.nil))) fun q hq r hr => excB_2 (Bool.and_eq_true_iff.mp c.more).1 (hsOk q hq) (hsOk r hr)) TB hcode (List.mem_singleton.mpr rfl) fun p hp _ => by rw [List.mem_singleton.mp hp]; rfl
end
theorem room_ok {j : Nat} (hj : j ≤ 40) : Room (3 * j + 6) callerA := by
  refine ⟨rfl, ?_, ?_⟩
  · show 1 + claimMargin + 3 * (3 * j + 6) + 5 < recursionLimit
    have h : 1 + claimMargin + 3 * (3 * 40 + 6) + 5 < recursionLimit := by decide
    omega
  · show 4 + 16 * (3 * j + 6) + 200 < cLine
    have h : 4 + 16 * (3 * 40 + 6) + 200 < cLine := by decide
    omega
/-- the law's row holds, if the evaluator says so of each script -/
theorem holds_of {j : Nat} (hj : j ≤ 40) (hlaw : ∀ ns : List Int, ns.length ≤ 63 → (∀ z ∈ ns, Builtin.Int.intBits z ≤ 1048576) → ∃ st, callD EP R0 (j + 1) "law" [.d (.list (ns.map .int))] [] = .ok (.d (.bool true)) st) : PySem.Challenge.rw_folkmeld_k19_whole_written_names.Holds := by
  w_on; o_law
  refine HandSHeadRun.head_any (r := PySem.W.OpenLaw.row PySem.Challenge.rw_folkmeld_k19_whole_written_names) (q := PySem.W.view (PySem.W.OpenLaw.row PySem.Challenge.rw_folkmeld_k19_whole_written_names).prog [30]) (H := hk) (ob := ob) (M := 20000) (loose := names) (d := HandSHeadRun.topDef (PySem.W.OpenLaw.row PySem.Challenge.rw_folkmeld_k19_whole_written_names).prog 30) (kwd := []) ob_eq
    (by kernel_rfl) (fun s => by kernel_rfl) run (by kernel_rfl) (by kernel_rfl) (by kernel_rfl) (by rfl) (by first | assumption | decide +kernel) (by decide +kernel) ⟨rfl, rfl, rfl, rfl, rfl, by decide +kernel⟩ ?hw ?hc
  case hw => w_witness2
  case hc =>
    refine walkG (l := PySem.Challenge.rw_folkmeld_k19_whole_written_names) (n := 63) (k := 3 * j + 6) (N := j + 1) (EP := EP) rfl (by decide) (by kernel_rfl) (room_ok hj) ?F hlaw
    intro w mg fa h Y Gn hmg0
    obtain ⟨K, KX, c⟩ := Y
    have hmg : mg ("law" : PySem.Str) = some (.ref fa) := by
      have e : (HandSHeadRun.topDef (PySem.W.OpenLaw.row PySem.Challenge.rw_folkmeld_k19_whole_written_names).prog 30).name = ("law" : PySem.Str) := by kernel_rfl
      rw [← e]
      exact hmg0
    have hb0 : ∃ fd, (∀ (s : Shared) (u : Value), BindsTo s fd ⟨[u], []⟩ [("script", u)]) ∧ ∀ base : Heap, K.In base → base.Ns mainGlobals mg → LamX.TabB base mg (He.cT K ("law", none)).1 (He.cT K ("law", none)).2 → FnG PySem.Challenge.rw_folkmeld_k19_whole_written_names.prog w K mg base (3 * j + 6) fa fd ["script"] (spF ⟨PySem.Challenge.rw_folkmeld_k19_whole_written_names.prog, w, K, (gOf K).fa, (gOf K).ca, (gOf K).tabs⟩ (callD EP R0 (j + 1)) "law" 1) := by
      obtain ⟨fd, h1, h2⟩ := lawOk (P := PySem.Challenge.rw_folkmeld_k19_whole_written_names.prog) (w := w) KX Gn c hmg j
      exact ⟨fd, h1, fun base _ _ TB => h2 base TB⟩
    obtain ⟨fd, hb, hF⟩ := hb0
    exact ⟨K, gOf K, fd, [He.cT K ("law", none)], "script", KX, (Bool.and_eq_true_iff.mp c.more).2, fun p hp => by rw [List.mem_singleton.mp hp]; exact c.empty _ (List.mem_singleton.mpr rfl), fun p hp => by rw [List.mem_singleton.mp hp]; exact c.out _ (List.mem_singleton.mpr rfl),
      fun p hp => by rw [List.mem_singleton.mp hp]; exact PySem.W.codeHd_of_K KX (c.hd _ (List.mem_singleton.mpr rfl)), hb, fun H hH p hp => by rw [List.mem_singleton.mp hp]; exact LamX.TabS.nil (hH _ (List.mem_singleton.mpr rfl)), fun base h1 h2 h3 => hF base h1 h2 (h3 _ (List.mem_singleton.mpr rfl))⟩
end HT
end
theorem PySem.Challenge.cw_folkmeld_k19_whole_written_names_holds : PySem.Challenge.rw_folkmeld_k19_whole_written_names.Holds := by
  exact HT.holds_of (j := 24) (by decide) fun ns _ _ => let ⟨w, st, h, e⟩ := FM.okR_ex (HT.law_ok (ns := ns)); ⟨st, by rw [h, e]⟩
